import PyProof.Rows.All
import Wide.All
import OpenK.AllK
import Wide.FinOn
import PySem.Challenge.RW_nz0088_01
set_option Elab.async false
set_option linter.all false

section
open PySem PySem.W PySem.Calls PyProof.Rows
set_option Elab.async false
set_option maxRecDepth 1000000
set_option maxHeartbeats 0
namespace Mine
noncomputable section
noncomputable abbrev pw : Program := PySem.Challenge.rw_nz0088_01.row.prog
/-- the program less its own name's three stores -/
noncomputable def qv : Program := PySem.W.view pw [1, 2, 3, 5, 6, 7, 8, 9, 11, 12, 13, 14, 15, 16, 17, 18, 19, 20, 21]
noncomputable def s00 (w : World) (os : OsState) : Shared := ⟨boot_heap w.params, ⟨[]⟩, boot_drawn, boot_toks, os⟩
noncomputable def ran (w : World) (os : OsState) : Option Shared := PySem.W.Fast.tw14082659384304107361 PySem.W.Fast.tw14364793385576792824 pw w 11 (some (Value.ref 6)) 1348 (s00 w os) (topStub pw)
theorem ran_eq (w : World) (os : OsState) : topRun treeTable pw w 11 (some (Value.ref 6)) 1348 (s00 w os) (topStub pw) = ran w os := by
  unfold ran
  rw [← PySem.W.Fast.te14364793385576792824, ← PySem.W.Fast.te14082659384304107361]
theorem sz (w : World) (os : OsState) : (((s00 w os).heap.isNs mainGlobals && (s00 w os).gens.size == 0), (s00 w os).heap.objs.size, (s00 w os).heap.nsMap mainGlobals "__annotations__") = (true, 11, some (Value.ref 6)) := by kernel_rfl
noncomputable def fin (w : World) (os : OsState) : Shared := match ran w os with | some s => s | none => s00 w os
theorem ran_some (w : World) (os : OsState) : (ran w os).isSome = true := by kernel_rfl
theorem ran_fin (w : World) (os : OsState) : ran w os = some (fin w os) := by
  have h := ran_some w os
  unfold fin
  cases e : ran w os with
  | none => rw [e] at h; cases h
  | some s => rfl
theorem look0 (w : World) (os : OsState) : (staticsOk (importedModules pw.main.body) (s00 w os).heap (fin w os).heap && namesBound pw (fin w os).heap && gensDone (fin w os) && laidKept (s00 w os).heap (fin w os).heap) = true := by kernel_rfl
theorem look1 (w : World) (os : OsState) : openSeen qv [] (importedModules pw.main.body) (fun _ => true) true (fin w os) = openGood qv [] := by kernel_rfl
theorem left : LeftO pw qv [] (fun _ => true) (fun _ => ()) (fun _ => ()) 1348 := fun w => by
  obtain ⟨⟨h, gs, d, k, os⟩, e, e'⟩ := Option.map_eq_some_iff.mp (boot_open (p := pw) (N := 1348) (by kernel_rfl) (by kernel_rfl) (fun s => by kernel_rfl) w)
  obtain ⟨rfl, rfl, rfl, rfl⟩ : h = boot_heap w.params ∧ gs = ⟨[]⟩ ∧ d = boot_drawn ∧ k = boot_toks := by simpa only [Prod.mk.injEq] using e'
  have z := sz w os
  rw [Prod.mk.injEq, Prod.mk.injEq] at z
  obtain ⟨z1, z2, z3⟩ := z
  have r := (ran_eq w os).trans (ran_fin w os)
  have t : topFrom treeTable pw w 1348 (s00 w os) = some (fin w os) := by
    unfold topFrom
    rw [z1, z2, z3, r]
    show (match staticsOk (importedModules pw.main.body) (s00 w os).heap (fin w os).heap && namesBound pw (fin w os).heap && gensDone (fin w os) && laidKept (s00 w os).heap (fin w os).heap with | true => _ | false => _) = _
    rw [look0 w os]
  unfold openEnds
  rw [e]
  show (topFrom treeTable pw w 1348 (s00 w os)).map _ = _
  rw [t]
  exact congrArg some (Prod.ext (look1 w os) rfl)
theorem glob_ok {w : World} {s₀ : Shared} {mg mb : Str → Option Value} {h : Heap} {R : WRecords} (G : Ground qv [] R (fun _ _ => True) w s₀ mg mb h) : Glob 0 mg mb ((recsOf pw).map itemOf) (constsW qv) [] (namesW qv []) h :=
  have e : recsOf qv = recsOf pw := by kernel_rfl
  e ▸ Ground.glob G (by kernel_rfl) (by kernel_rfl)
end
end Mine
end

section
open PySem PySem.W PySem.Calls PyProof.Rows
set_option Elab.async false
set_option maxRecDepth 1000000
set_option maxHeartbeats 0
namespace Mine
/-- no brace, no dot, and '=' (or b) -/
noncomputable def plainL : List Nat → Bool → Bool
  | [], b => b
  | c :: r, b => match Nat.beq c 123 with
    | true => false
    | false => match Nat.beq c 125 with
      | true => false
      | false => match Nat.beq c 46 with
        | true => false
        | false => match Nat.beq c 61 with
          | true => plainL r true
          | false => plainL r b
theorem beq_ne {a b : Nat} (h : Nat.beq a b = false) : a ≠ b := Nat.ne_of_beq_eq_false h
theorem plainL_spec : ∀ {l : List Nat} {b : Bool}, plainL l b = true → (∀ c ∈ l, c ≠ 123 ∧ c ≠ 125 ∧ c ≠ 46) ∧ (b = true ∨ 61 ∈ l)
  | [], _, h => ⟨fun _ q => (nomatch q), .inl h⟩
  | c :: r, b, h => by
    unfold plainL at h
    cases h1 : Nat.beq c 123 with
    | true => rw [h1] at h; cases h
    | false =>
      cases h2 : Nat.beq c 125 with
      | true => rw [h1, h2] at h; cases h
      | false =>
        cases h3 : Nat.beq c 46 with
        | true => rw [h1, h2, h3] at h; cases h
        | false =>
          have hc : c ≠ 123 ∧ c ≠ 125 ∧ c ≠ 46 := ⟨beq_ne h1, beq_ne h2, beq_ne h3⟩
          rw [h1, h2, h3] at h
          cases h4 : Nat.beq c 61 with
          | true =>
            rw [h4] at h
            exact ⟨List.forall_mem_cons.mpr ⟨hc, (plainL_spec h).1⟩, .inr (by rw [Nat.eq_of_beq_eq_true h4]; exact .head _)⟩
          | false =>
            rw [h4] at h
            exact ⟨List.forall_mem_cons.mpr ⟨hc, (plainL_spec h).1⟩, (plainL_spec h).2.imp id (.tail _)⟩
/-- a text that holds '=' is none of the names that the look knows -/
noncomputable def eqText (x : Str) : Bool := plainL x.cps.toList false && !x.opensWith "__"
theorem any_no {a : Array Nat} {f : Nat → Bool} (h : ∀ c ∈ a.toList, f c = false) : a.any f = false := by
  rw [← Array.any_toList]
  exact List.any_eq_false.mpr fun c hc => by rw [h c hc]; exact Bool.false_ne_true
theorem eqText_spec {x : Str} (h : eqText x = true) : x.cps.any (· == 61) = true ∧ x.opensWith "__" = false ∧ roadStr x = false := by
  unfold eqText at h
  rw [Bool.and_eq_true_iff] at h
  obtain ⟨p1, p2⟩ := plainL_spec h.1
  refine ⟨?_, by simpa using h.2, ?_⟩
  · rw [← Array.any_toList]
    exact List.any_eq_true.mpr ⟨61, p2.elim (fun q => (nomatch q)) id, rfl⟩
  · unfold roadStr
    rw [any_no fun c hc => ?_, any_no fun c hc => ?_]
    · rfl
    · exact beq_eq_false_iff_ne.mpr (p1 c hc).2.2
    · rw [beq_eq_false_iff_ne.mpr (p1 c hc).1, beq_eq_false_iff_ne.mpr (p1 c hc).2.1]; rfl
theorem notIn {l : List Str} {x : Str} (h : l.all (fun n => n.cps.all (· != 61)) = true) (hx : x.cps.any (· == 61) = true) : l.contains x = false := by
  cases hc : l.contains x with
  | false => rfl
  | true =>
    have hm := List.contains_iff_mem.mp hc
    have := List.all_eq_true.mp h x hm
    obtain ⟨i, hi, hx⟩ := Array.any_eq_true.mp hx
    have h2 := Array.all_eq_true.mp this i hi
    simp_all
theorem str_ok {lk : Look} (hb : lk.but = none) {x : Str} (h : eqText x = true) : lk.str x = true := by
  obtain ⟨h1, h2, h3⟩ := eqText_spec h
  have hn (l : List Str) (hl : l.all (fun n => n.cps.all (· != 61)) = true) : l.contains x = false := notIn hl h1
  unfold Look.str Look.word attrL
  rw [h3, hb, h2, hn frameAttrs (by decide +kernel), hn ["__dict__", "__getstate__", "__getattribute__", "__reduce__", "__reduce_ex__"] (by decide +kernel),
    hn ["__setattr__", "__delattr__", "__getattr__", "__getattribute__", "__call__", "__new__", "__prepare__", "__objclass__"] (by decide +kernel)]
  simp
noncomputable def textOk (e : PySem.Expr) : Bool := match e with
  | .Constant (.str x) _ _ => eqText x
  | _ => false
theorem ls_nil (lk : Look) : noRoadLs lk [] = true := by kernel_rfl
theorem ls_cons (lk : Look) (e : PySem.Expr) (r : List PySem.Expr) : noRoadLs lk (e :: r) = (noRoadL lk e && noRoadLs lk r) := by kernel_rfl
theorem l_str (lk : Look) (x : Str) (k : Nat) (p : Pos) : noRoadL lk (.Constant (.str x) k p) = lk.str x := by kernel_rfl
theorem lss_nil (lk : Look) : noRoadLSs lk [] = true := by kernel_rfl
theorem lss_cons (lk : Look) (s : Stmt) (r : List Stmt) : noRoadLSs lk (s :: r) = (noRoadLS lk s && noRoadLSs lk r) := by kernel_rfl
theorem texts_ok {lk : Look} (hb : lk.but = none) : ∀ vs : List PySem.Expr, vs.all textOk = true → noRoadLs lk vs = true
  | [], _ => ls_nil lk
  | e :: r, h => by
    rw [List.all_cons, Bool.and_eq_true_iff] at h
    rw [ls_cons, texts_ok hb r h.2, Bool.and_true]
    cases e with
    | Constant c k p =>
      cases c with
      | str x => exact (l_str lk x k p).trans (str_ok hb h.1)
      | _ => exact nomatch h.1
    | _ => exact nomatch h.1
theorem row_shape {lk : Look} {n : Str} {a : Arguments} {ts : List PySem.Expr} {ks : List (Option PySem.Expr)} {vs : List PySem.Expr} {p p' : Pos} {st : Stmt} {ds : List PySem.Expr} {ret : Option PySem.Expr} {tps : List TypeParam} {sc : Scope} {tsc : Option Scope} {bd : Str} {pos : Pos}
    (h1 : noRoadLArgs lk a = true) (h2 : lk.inDef.stores ts = true) (h3 : noRoadLs lk.inDef ts = true) (h4 : noRoadLOpts lk.inDef.out ks = true) (h5 : noRoadLs lk.inDef.out vs = true) (h6 : noRoadLS lk.inDef st = true) (h7 : noRoadLs lk ds = true) (h8 : noRoadLOpt lk ret = true) (h9 : noRoadLTps lk tps = true) :
    noRoadLS lk (.FunctionDef n a [.Assign ts (.Dict ks vs p) p', st] ds ret tps sc tsc bd pos) = true := by
  have e : noRoadLS lk (.FunctionDef n a [.Assign ts (.Dict ks vs p) p', st] ds ret tps sc tsc bd pos) =
    (noRoadLArgs lk a && ((lk.inDef.stores ts && noRoadLs lk.inDef ts && (noRoadLOpts lk.inDef.out ks && noRoadLs lk.inDef.out vs)) && (noRoadLS lk.inDef st && true)) && noRoadLs lk ds && noRoadLOpt lk ret && noRoadLTps lk tps) := by kernel_rfl
  rw [e, h1, h2, h3, h4, h5, h6, h7, h8, h9]
  rfl
noncomputable def lkT : Look := { strict := false, foot := none, bare := [] }
theorem lk_bare : (["vars", "dir", "locals"] : List PySem.Str).filter (readsOut PySem.Challenge.rw_nz0088_01.row.prog PySem.Challenge.rw_nz0088_01.row.prog.main.body) = [] := by kernel_rfl
theorem lk_strict : (!(importedModules PySem.Challenge.rw_nz0088_01.row.prog.main.body).all cThrough.contains) = false := by kernel_rfl
theorem lss_app {lk : Look} : ∀ {a b : List Stmt}, noRoadLSs lk a = true → noRoadLSs lk b = true → noRoadLSs lk (a ++ b) = true
  | [], _, _, h => h
  | s :: r, b, h1, h2 => by
    rw [lss_cons, Bool.and_eq_true_iff] at h1
    rw [List.cons_append, lss_cons, h1.1, lss_app h1.2 h2]
    rfl
noncomputable def tops : List Stmt := PySem.Challenge.pw_nz0088_01.main.body
noncomputable def rowVals : List PySem.Expr := match tops.drop 5 with
  | .FunctionDef _ _ [.Assign _ (.Dict _ vs _) _, _] .. :: _ => vs
  | _ => []
theorem part1 : noRoadLSs lkT (tops.take 5) = true := by decide +kernel
theorem part2 : noRoadLSs lkT ((tops.drop 6).take 12) = true := by decide +kernel
theorem part3 : noRoadLSs lkT ((tops.drop 6).drop 12) = true := by decide +kernel
theorem vals1 : (rowVals.take 13).all textOk = true := by decide +kernel
theorem vals2 : ((rowVals.drop 13).take 13).all textOk = true := by decide +kernel
theorem vals3 : (((rowVals.drop 13).drop 13).take 13).all textOk = true := by decide +kernel
theorem vals4 : (((rowVals.drop 13).drop 13).drop 13).all textOk = true := by decide +kernel
theorem all_app {α : Type} {f : α → Bool} {n : Nat} {l : List α} (h : (l.take n).all f = true) (h2 : (l.drop n).all f = true) : l.all f = true := by
  rw [← List.take_append_drop n l, List.all_append, h, h2]
  rfl
theorem vals_ok : rowVals.all textOk = true := all_app vals1 (all_app vals2 (all_app vals3 vals4))
theorem part_row : noRoadLSs lkT ((tops.drop 5).take 1) = true := by
  have h : noRoadLS lkT ((tops.drop 5).headD default) = true :=
    row_shape (vs := rowVals) (by decide +kernel) (by decide +kernel) (by decide +kernel) (by decide +kernel) (texts_ok rfl _ vals_ok) (by decide +kernel) (by decide +kernel) (by decide +kernel) (by decide +kernel)
  show noRoadLSs lkT [(tops.drop 5).headD default] = true
  rw [lss_cons, h, lss_nil]
  rfl
theorem tops_ok : noRoadLSs lkT tops = true := by
  have e : tops = tops.take 5 ++ ((tops.drop 5).take 1 ++ ((tops.drop 6).take 12 ++ (tops.drop 6).drop 12)) := by
    rw [List.take_append_drop 12, show tops.drop 6 = (tops.drop 5).drop 1 by rw [List.drop_drop], List.take_append_drop, List.take_append_drop]
  rw [e]
  exact lss_app part1 (lss_app part_row (lss_app part2 part3))
theorem top_ok' : noRoadLSs { strict := !(importedModules PySem.Challenge.rw_nz0088_01.row.prog.main.body).all cThrough.contains, foot := none, bare := (["vars", "dir", "locals"] : List PySem.Str).filter (readsOut PySem.Challenge.rw_nz0088_01.row.prog PySem.Challenge.rw_nz0088_01.row.prog.main.body) } PySem.Challenge.rw_nz0088_01.row.prog.main.body = true := by
  rw [lk_bare, lk_strict]
  exact tops_ok
theorem said : PySem.Challenge.rw_nz0088_01.wellSaid = true := by
  unfold OpenLaw.wellSaid OpenRow.wellSaid OpenRow.partSaid looksOpen
  with_reducible repeat' (refine look_both ?_ ?_)
  all_goals first | with_reducible exact top_ok' | decide +kernel
end Mine
end

section
open PySem PySem.W PyProof.Rows
set_option Elab.async false
set_option maxRecDepth 10000
namespace Mine
/-! splitting on lists of signs -/
noncomputable def spB (c : Nat) : Bool := match Nat.ble c 127 with
  | true => match Nat.beq c 32 with
    | true => true
    | false => match Nat.ble 9 c with
      | true => match Nat.ble c 13 with
        | true => true
        | false => match Nat.ble 28 c with
          | true => Nat.ble c 31
          | false => false
      | false => false
  | false => Unicode.isSpace c
theorem spB_is (c : Nat) : spB c = Unicode.isSpace c := by
  by_cases h : c ≤ 127
  · have : ∀ c : Fin 128, spB c.val = Unicode.isSpace c.val := by decide +kernel
    exact this ⟨c, by omega⟩
  · unfold spB
    have : Nat.ble c 127 = false := by
      cases q : Nat.ble c 127 with
      | false => rfl
      | true => exact absurd (Nat.le_of_ble_eq_true q) h
    rw [this]
noncomputable def goW : List Nat → List Nat → List Str
  | [], run => match run with
    | [] => []
    | _ :: _ => [⟨run.reverse.toArray⟩]
  | c :: r, run => match spB c with
    | true => match run with
      | [] => goW r []
      | _ :: _ => ⟨run.reverse.toArray⟩ :: goW r []
    | false => goW r (c :: run)
noncomputable def wordsF (x : Str) : List Str := goW x.cps.toList []
theorem goW_scan : ∀ (l run : List Nat) (ws : List Str), KWd.fin (l.foldl KWd.step (ws, ⟨run.reverse.toArray⟩)) = ws ++ goW l run
  | [], run, ws => by
    unfold goW KWd.fin
    cases run with
    | nil => simp [Str.length]
    | cons a b => simp [Str.length]
  | c :: r, run, ws => by
    rw [List.foldl_cons]
    unfold goW
    have e : KWd.step (ws, (⟨run.reverse.toArray⟩ : Str)) c = if Unicode.isSpace c = true then (if run.length = 0 then (ws, ⟨run.reverse.toArray⟩) else (ws ++ [⟨run.reverse.toArray⟩], Str.empty)) else (ws, ⟨(c :: run).reverse.toArray⟩) := by
      unfold KWd.step
      have h1 : (⟨run.reverse.toArray⟩ : Str).length = run.length := by simp [Str.length]
      have h2 : (⟨run.reverse.toArray⟩ : Str) ++ (⟨#[c]⟩ : Str) = ⟨(c :: run).reverse.toArray⟩ := by
        refine Str.ext' ?_
        rw [Str.cps_append]
        simp
      simp only [h1, h2]
    rw [e, spB_is]
    cases h : Unicode.isSpace c with
    | false =>
      simp only [Bool.false_eq_true, if_false]
      exact goW_scan r (c :: run) ws
    | true =>
      simp only [if_true]
      cases run with
      | nil =>
        simp only [List.length_nil, if_true]
        exact goW_scan r [] ws
      | cons a b =>
        have : ¬ (a :: b).length = 0 := by simp
        simp only [if_neg this]
        have := goW_scan r [] (ws ++ [⟨(a :: b).reverse.toArray⟩])
        have e0 : (⟨([] : List Nat).reverse.toArray⟩ : Str) = Str.empty := rfl
        rw [e0] at this
        rw [this, List.append_assoc]
        rfl
theorem words_eq (x : Str) : Txt.words x = wordsF x := by
  rw [KWd.words_scan]
  have := goW_scan x.cps.toList [] []
  rw [List.nil_append] at this
  exact this

noncomputable def goS (c : Nat) : List Nat → List Nat → List Str
  | [], run => [⟨run.reverse.toArray⟩]
  | d :: r, run => match Nat.beq d c with
    | true => ⟨run.reverse.toArray⟩ :: goS c r []
    | false => goS c r (d :: run)
noncomputable def splitF (c : Nat) (x : Str) : List Str := goS c x.cps.toList []
theorem goS_free (c : Nat) : ∀ (p r run : List Nat), c ∉ p → goS c (p ++ r) run = goS c r (p.reverse ++ run)
  | [], r, run, _ => rfl
  | d :: p, r, run, h => by
    have hd : d ≠ c := fun e => h (e ▸ List.mem_cons_self)
    have hb : Nat.beq d c = false := by
      cases q : Nat.beq d c with
      | false => rfl
      | true => exact absurd (Nat.eq_of_beq_eq_true q) hd
    show (match Nat.beq d c with | true => _ | false => goS c (p ++ r) (d :: run)) = _
    rw [hb]
    simp only
    rw [goS_free c p r (d :: run) fun e => h (List.mem_cons_of_mem _ e)]
    simp
theorem goS_join (c : Nat) : ∀ (parts : List Str), parts ≠ [] → (∀ p ∈ parts, c ∉ p.cps.toList) → goS c (Str.join ⟨#[c]⟩ parts).cps.toList [] = parts
  | [], h, _ => absurd rfl h
  | [p], _, hf => by
    have e : Str.join ⟨#[c]⟩ [p] = p := by first | rfl | simp [Str.join]
    rw [e]
    have := goS_free c p.cps.toList [] [] (hf p List.mem_cons_self)
    rw [List.append_nil, List.append_nil] at this
    rw [this]
    show [(⟨p.cps.toList.reverse.reverse.toArray⟩ : Str)] = [p]
    simp
  | p :: q :: ps, _, hf => by
    have e : (Str.join ⟨#[c]⟩ (p :: q :: ps)).cps.toList = p.cps.toList ++ c :: (Str.join ⟨#[c]⟩ (q :: ps)).cps.toList := by
      show ((p ++ (⟨#[c]⟩ : Str) ++ Str.join ⟨#[c]⟩ (q :: ps) : Str)).cps.toList = _
      rw [Str.cps_append, Str.cps_append, Array.toList_append, Array.toList_append, List.append_assoc]
      rfl
    rw [e, goS_free c _ _ _ (hf p List.mem_cons_self), List.append_nil]
    show (match Nat.beq c c with | true => _ | false => _) = _
    rw [Nat.beq_refl]
    simp only
    rw [goS_join c (q :: ps) (by simp) fun p hp => hf p (List.mem_cons_of_mem _ hp)]
    simp
theorem split_eq (x : Str) (c : Nat) : Txt.split x ⟨#[c]⟩ = splitF c x := by
  have h := goS_join c (Txt.split x ⟨#[c]⟩) (fun e => by have := split_pos x ⟨#[c]⟩; rw [e] at this; exact absurd this (by decide)) (StrLaws.split_free x c)
  rw [StrLaws.join_split] at h
  exact h.symm
theorem words_few (x : Str) : (Txt.words x).length ≤ x.cps.size + 1 := by
  have := fact_words x
  have e : x.length = x.cps.size := rfl
  omega
theorem split_few (x y : Str) : (Txt.split x y).length ≤ x.cps.size + 2 := split_le x y
noncomputable def joinL (sep : List Nat) : List Str → List Nat
  | [] => []
  | [x] => x.cps.toList
  | x :: y :: r => x.cps.toList ++ (sep ++ joinL sep (y :: r))
theorem str_of (s : Str) (l : List Nat) (h : s.cps.toList = l) : (⟨⟨l⟩⟩ : Str) = s := Str.ext' (Array.toList_inj.mp h.symm)
theorem join_str (sep : Str) : ∀ l : List Str, (Str.join sep l).cps.toList = joinL sep.cps.toList l
  | [] => rfl
  | [x] => rfl
  | x :: y :: r => by
    show (x ++ sep ++ Str.join sep (y :: r) : Str).cps.toList = _
    rw [Str.cps_append, Str.cps_append, Array.toList_append, Array.toList_append, join_str sep (y :: r), List.append_assoc]
    rfl
theorem join_eq (sep : Str) (l : List Str) : (⟨⟨joinL sep.cps.toList l⟩⟩ : Str) = Txt.join sep l := by
  have h : Txt.join sep l = Str.join sep l := by
    have := join_closes (sep := sep) (sep' := sep) (ys := l) rfl
    exact beq_iff_eq.mp this
  rw [h]
  exact str_of _ _ (join_str sep l)
theorem append_eq (a b : Str) : (⟨⟨a.cps.toList ++ b.cps.toList⟩⟩ : Str) = a ++ b := str_of _ _ (by rw [Str.cps_append, Array.toList_append])
noncomputable def lowL : List Nat → List Nat
  | [] => []
  | c :: r => (match Nat.ble 65 c with
    | true => match Nat.ble c 90 with
      | true => c + 32
      | false => c
    | false => c) :: lowL r
noncomputable def asciiB : List Nat → Bool
  | [] => true
  | c :: r => match Nat.ble c 127 with
    | true => asciiB r
    | false => false
theorem asciiB_is : ∀ {l : List Nat}, asciiB l = true → ∀ c ∈ l, c < 128
  | [], _, _, h => by cases h
  | d :: r, h, c, hc => by
    unfold asciiB at h
    split at h
    · rename_i q
      rcases List.mem_cons.mp hc with rfl | hc
      · have := Nat.le_of_ble_eq_true q; omega
      · exact asciiB_is h c hc
    · cases h
theorem lowL_is : ∀ (l : List Nat), lowL l = l.map lo1
  | [] => rfl
  | c :: r => by
    unfold lowL
    rw [lowL_is r, List.map_cons]
    congr 1
    unfold lo1
    cases h1 : Nat.ble 65 c with
    | false =>
      have : ¬ 65 ≤ c := fun q => by rw [Nat.ble_eq.mpr q] at h1; cases h1
      rw [if_neg fun q => this q.1]
    | true =>
      have a1 := Nat.le_of_ble_eq_true h1
      cases h2 : Nat.ble c 90 with
      | false =>
        have : ¬ c ≤ 90 := fun q => by rw [Nat.ble_eq.mpr q] at h2; cases h2
        rw [if_neg fun q => this q.2]
      | true => rw [if_pos ⟨a1, Nat.le_of_ble_eq_true h2⟩]
theorem lower_eq {s : Str} (h : asciiB s.cps.toList = true) : (⟨⟨lowL s.cps.toList⟩⟩ : Str) = Txt.lower s := by
  rw [lower_ascii (asciiB_is h), lowL_is]
  exact str_of _ _ (by simp)
end Mine
end

section
open PySem PySem.W PyProof.Rows
set_option Elab.async false
set_option maxRecDepth 10000
namespace Mine
/-! where a text stands in another, on lists of signs -/
open Builtin Builtin.Str StrLaws
noncomputable def prefB : List Nat → List Nat → Bool
  | [], _ => true
  | _ :: _, [] => false
  | a :: x, b :: y => match Nat.beq a b with | true => prefB x y | false => false
theorem prefB_is : ∀ (y l : List Nat), (l.take y.length == y) = prefB y l
  | [], l => by simp [prefB]
  | a :: x, [] => rfl
  | a :: x, b :: y => by
    unfold prefB
    rw [List.length_cons, List.take_succ_cons, List.cons_beq_cons, prefB_is x y]
    cases h : Nat.beq a b with
    | true => rw [Nat.eq_of_beq_eq_true h, beq_self_eq_true, Bool.true_and]
    | false => rw [beq_eq_false_iff_ne.mpr (Ne.symm (Nat.ne_of_beq_eq_false h)), Bool.false_and]
noncomputable def goO (sub : List Nat) (m : Nat) : List Nat → Nat → Nat → List Nat
  | [], _, _ => []
  | c :: r, i, free => match prefB sub (c :: r) with
    | true => match Nat.ble free i with
      | true => i :: goO sub m r (i + 1) (i + m)
      | false => goO sub m r (i + 1) free
    | false => goO sub m r (i + 1) free
theorem goO_is (s sub : Str) (hm : 1 ≤ sub.length) : ∀ (l : List Nat) (i free : Nat) (acc : Array Nat), s.cps.toList.drop i = l → acc.size ≤ i →
    (forIn (List.range' i (l.length + 1)) (acc, free) (occBody s sub s.length (s.length + 1))).run.fst.toList = acc.toList ++ goO sub.cps.toList sub.length l i free
  | [], i, free, acc, hd, ha => by
    have hn : s.length ≤ i := by have := List.drop_eq_nil_iff.mp hd; simpa [Str.length] using this
    have e : occBody s sub s.length (s.length + 1) i (acc, free) = pure (ForInStep.yield (acc, free)) := by
      unfold occBody
      exact if_neg fun q => by have := q.1.2; omega
    show (forIn (i :: List.range' (i + 1) 0) (acc, free) (occBody s sub s.length (s.length + 1))).run.fst.toList = _
    rw [List.forIn_cons, e]
    show acc.toList = acc.toList ++ []
    rw [List.append_nil]
  | c :: r, i, free, acc, hd, ha => by
    have hl : i + (r.length + 1) = s.length := by
      have := congrArg List.length hd
      rw [List.length_drop, List.length_cons, Array.length_toList] at this
      have h2 : s.length = s.cps.size := rfl
      omega
    have hr : s.cps.toList.drop (i + 1) = r := by rw [← List.drop_drop, hd]; rfl
    have hs : subAt s sub i = prefB sub.cps.toList (c :: r) := by
      rw [subAt_eq, hd]
      exact prefB_is sub.cps.toList (c :: r)
    show (forIn (i :: List.range' (i + 1) (r.length + 1)) (acc, free) (occBody s sub s.length (s.length + 1))).run.fst.toList = _
    rw [List.forIn_cons]
    have no (q : ¬ (free ≤ i ∧ subAt s sub i = true)) : occBody s sub s.length (s.length + 1) i (acc, free) = pure (ForInStep.yield (acc, free)) := by
      unfold occBody
      exact if_neg fun h => q ⟨h.1.1.2, h.2⟩
    unfold goO
    cases hp : prefB sub.cps.toList (c :: r) with
    | false =>
      rw [no fun q => by rw [hs, hp] at q; cases q.2]
      exact goO_is s sub hm r (i + 1) free acc hr (by omega)
    | true =>
      cases hf : Nat.ble free i with
      | false =>
        rw [no fun q => by rw [Nat.ble_eq.mpr q.1] at hf; cases hf]
        exact goO_is s sub hm r (i + 1) free acc hr (by omega)
      | true =>
        have hfit : sub.length ≤ r.length + 1 := by
          have h1 := hp
          rw [← prefB_is, beq_iff_eq] at h1
          have h2 := congrArg List.length h1
          rw [List.length_take, List.length_cons, Array.length_toList] at h2
          have h3 : sub.length = sub.cps.size := rfl
          omega
        have e : occBody s sub s.length (s.length + 1) i (acc, free) = pure (ForInStep.yield (acc.push i, i + sub.length)) := by
          unfold occBody
          exact if_pos ⟨⟨⟨by show acc.size < _; omega, Nat.le_of_ble_eq_true hf⟩, by omega⟩, by rw [hs, hp]⟩
        rw [e]
        refine (goO_is s sub hm r (i + 1) (i + sub.length) (acc.push i) hr (by rw [Array.size_push]; omega)).trans ?_
        rw [Array.toList_push, List.append_assoc]
        rfl
theorem occ_is (x y : Str) (hy : 1 ≤ y.length) : occurrences x y 0 x.length (x.length + 1) = goO y.cps.toList y.length x.cps.toList 0 0 := by
  rw [occ_eq]
  exact (goO_is x y hy x.cps.toList 0 0 #[] rfl (Nat.le_refl _)).trans rfl
noncomputable def repF (x y z : Str) : Str := match y.cps.toList with
  | [] => Txt.replace x y z
  | c :: r => match goO (c :: r) (r.length + 1) x.cps.toList 0 0 with
    | [] => x
    | o :: os => glued z (partsBetween x (o :: os) (r.length + 1))
theorem repF_eq (x y z : Str) : repF x y z = Txt.replace x y z := by
  unfold repF
  split
  · rfl
  · rename_i c r hy
    have hl : y.length = r.length + 1 := by
      show y.cps.size = _
      rw [← Array.length_toList, hy]; rfl
    unfold Txt.replace
    rw [occ_is x y (by omega), hy, hl, show (r.length + 1 == 0) = false from rfl, Bool.false_and, Bool.or_false]
    cases goO (c :: r) (r.length + 1) x.cps.toList 0 0 with
    | nil => rfl
    | cons o os => rfl
end Mine
end

section
open PySem PySem.W PyProof.Rows
set_option Elab.async false
set_option genSizeOf false
set_option genInjectivity false
set_option maxRecDepth 10000
namespace Mine

/-! plain data and the interpreter -/
inductive Dat where
  | none
  | bool (b : Bool)
  | int (i : Int)
  | str (s : Str)
  | list (xs : List Dat)
  | tup (xs : List Dat)
  | dict (kvs : List (Str × Dat))
  deriving Inhabited

inductive BOp where | add | sub | mul | fdiv | fmod
inductive COp where | eq | ne | lt | gt | isin
inductive F1 where | ord | chr | len | max | list
inductive M0 where | split | lower | swapcase
inductive M1 where | split | join | startswith
inductive M2 where | replace | get

mutual
inductive Ex where
  | int (i : Int) | str (s : Str) | bool (b : Bool)
  | var (x : Nat)
  | neg (i : Int)
  | bin (op : BOp) (a b : Ex)
  | cmp (op : COp) (a b : Ex)
  | btw (a b c : Ex)
  | ite (t : Te) (a b : Ex)
  | list (es : List Ex) | tup (es : List Ex)
  | dict0
  | dictS (kvs : List (Str × Str))
  | idx (a i : Ex)
  | slice (a : Ex) (lo hi : Option Ex)
  | call (f : Nat) (args : List Ex)
  | callIO (f : Nat) (x : Nat) (args : List Ex)
  | fn (f : F1) (a : Ex)
  | m0 (m : M0) (a : Ex)
  | m1 (m : M1) (a b : Ex)
  | m2 (m : M2) (a b c : Ex)
  | joinOwn (s : Str) (x : Nat)
  | ownIdx (x : Nat) (i : Ex)
  | ownPath (x : Nat) (i j : Ex)
  | comp (elt : Ex) (x : Nat) (it : It) (more : Option (Nat × It)) (ifs : List Te) (fr : List Nat)
inductive Te where
  | not (t : Te) | and (ts : List Te) | or (ts : List Te)
  | cmp (op : COp) (a b : Ex)
  | val (e : Ex)
inductive It where
  | val (e : Ex) | range1 (e : Ex) | range2 (a b : Ex)
end
inductive St where
  | assign (x : Nat) (e : Ex)
  | assignC (z : Nat) (elt : Ex) (x : Nat) (it : It) (ifs : List Te) (fr : List Nat)
  | assignT (xs : List Nat) (e : Ex)
  | ownList (x : Nat) (es : List Ex)
  | ownDict (x : Nat)
  | ownDict2 (x : Nat)
  | append (x : Nat) (e : Ex)
  | setKey (x : Nat) (k v : Ex)
  | setIdx (x : Nat) (i v : Ex)
  | newKey (x : Nat) (k : Ex)
  | setPath (x : Nat) (i j v : Ex)
  | ret (e : Ex)
  | retOwn (x : Nat)
  | ite (t : Te) (a b : List St)
  | forE (xs : List Nat) (tupled : Bool) (it : It) (body : List St)

structure FDef where
  params : List Nat
  body : List St

inductive MDat where
  | list (xs : List Dat)
  | arr (xs : List Dat)
  | dict (kvs : List (Str × Dat))
  | dict2 (kvs : List (Str × List (Str × Dat)))
noncomputable def seqOf : MDat → Option (List Dat)
  | .list xs => some xs
  | .arr xs => some xs
  | _ => .none
abbrev Vars := List (Nat × Dat)
abbrev Mu := Option (Nat × MDat)
structure Rho where
  vars : Vars
  mu : Mu
inductive Fl where | next | ret (d : Dat)

structure Rec where
  ev : Ex → Rho → Option (Dat × Mu)
  te : Te → Rho → Option (Bool × Mu)
  ex : St → Rho → Option (Fl × Rho)
  call : Nat → List Dat → Option MDat → Option (Dat × Option MDat)

noncomputable def look : Vars → Nat → Option Dat
  | [], _ => .none
  | (y, d) :: r, x => match Nat.beq y x with | true => some d | false => look r x
noncomputable def put : Vars → Nat → Dat → Vars
  | [], x, d => [(x, d)]
  | (y, e) :: r, x, d => match Nat.beq y x with | true => (x, d) :: r | false => (y, e) :: put r x d
noncomputable def only (fr : List Nat) : Vars → Vars
  | [] => []
  | (y, e) :: r => match fr.any (Nat.beq y) with | true => (y, e) :: only fr r | false => only fr r

noncomputable def lim : Nat := 16777216
noncomputable def sameL : List Nat → List Nat → Bool
  | [], [] => true
  | a :: x, b :: y => match Nat.beq a b with | true => sameL x y | false => false
  | _, _ => false
noncomputable def sameS (a b : Str) : Bool := sameL a.cps.toList b.cps.toList
noncomputable def leL : List Nat → List Nat → Bool
  | [], _ => true
  | _ :: _, [] => false
  | a :: x, b :: y => match Nat.blt a b with | true => true | false => match Nat.beq a b with | true => leL x y | false => false
noncomputable def getD (kvs : List (Str × α)) (k : Str) : Option α := match kvs with
  | [] => .none
  | (q, v) :: r => match sameS q k with | true => some v | false => getD r k
noncomputable def setD (kvs : List (Str × α)) (k : Str) (v : α) : List (Str × α) := match kvs with
  | [] => [(k, v)]
  | (q, u) :: r => match sameS q k with | true => (q, v) :: r | false => (q, u) :: setD r k v
/-- two flat dicts of texts of the same size: each pair of the first stands in the second -/
noncomputable def sameFlat (l : List (Str × Dat)) : List (Str × Dat) → Option Bool
  | [] => some true
  | (k, .str x) :: r => match getD l k with
    | some (.str y) => match sameS x y with
      | true => sameFlat l r
      | false => .none
    | some _ => .none
    | .none => some false
  | _ => .none
noncomputable def eqD : Dat → Dat → Option Bool
  | .str a, .str b => some (sameS a b)
  | .int a, .int b => some (decide (a = b))
  | .list [], .list [] => some true
  | .list (_ :: _), .list [] => some false
  | .dict a, .dict b => match Nat.beq a.length b.length with
    | true => sameFlat b a
    | false => some false
  | _, _ => .none
noncomputable def fitsI (i : Int) : Bool := decide (i.natAbs < 4611686018427387904)
/-! values made whole before they go on -/
noncomputable def fN {α : Type} (n : Nat) (k : Nat → α) : α := match n with
  | 0 => k 0
  | m + 1 => k (Nat.succ m)
noncomputable def fL {α : Type} : List Nat → (List Nat → α) → α
  | [], k => k []
  | c :: r, k => fN c fun c => fL r fun r => k (c :: r)
noncomputable def fS {α : Type} (s : Str) (k : Str → α) : α := fL s.cps.toList fun l => k ⟨⟨l⟩⟩
noncomputable def fSs {α : Type} : List Str → (List Str → α) → α
  | [], k => k []
  | s :: r, k => fS s fun s => fSs r fun r => k (s :: r)
theorem fN_eq {α : Type} (n : Nat) (k : Nat → α) : fN n k = k n := by cases n <;> rfl
theorem fL_eq {α : Type} : ∀ (l : List Nat) (k : List Nat → α), fL l k = k l
  | [], _ => rfl
  | c :: r, k => by unfold fL; rw [fN_eq, fL_eq r]
theorem fS_eq {α : Type} (s : Str) (k : Str → α) : fS s k = k s := by unfold fS; rw [fL_eq]
theorem fSs_eq {α : Type} : ∀ (l : List Str) (k : List Str → α), fSs l k = k l
  | [], _ => rfl
  | c :: r, k => by unfold fSs; rw [fS_eq, fSs_eq r]
noncomputable def someS (s : Str) : Option Dat := fS s fun s => some (.str s)
theorem someS_eq (s : Str) : someS s = some (.str s) := fS_eq _ _
noncomputable def someL (l : List Nat) : Option Dat := fL l fun l => some (.str ⟨⟨l⟩⟩)
theorem someL_eq (l : List Nat) : someL l = some (.str ⟨⟨l⟩⟩) := fL_eq _ _
noncomputable def someSs (l : List Str) : Option Dat := fSs l fun l => some (.list (l.map .str))
theorem someSs_eq (l : List Str) : someSs l = some (.list (l.map .str)) := fSs_eq _ _
noncomputable def binD : BOp → Dat → Dat → Option Dat
  | .add, .int a, .int b => some (.int (a + b))
  | .add, .str a, .str b => if a.cps.size + b.cps.size ≤ lim then someL (a.cps.toList ++ b.cps.toList) else .none
  | .add, .list a, .list b => if a.length + b.length ≤ lim then some (.list (a ++ b)) else .none
  | .sub, .int a, .int b => some (.int (a - b))
  | .mul, .int a, .int b => if fitsI a then some (.int (a * b)) else .none
  | .fdiv, .int a, .int b => if b ≠ 0 ∧ b.natAbs < 1073741824 then some (.int (a.fdiv b)) else .none
  | .fmod, .int a, .int b => if b ≠ 0 then some (.int (a.fmod b)) else .none
  | _, _, _ => .none
noncomputable def cmpD : COp → Dat → Dat → Option Bool
  | .eq, a, b => eqD a b
  | .ne, a, b => (eqD a b).map (!·)
  | .lt, .int a, .int b => some (decide (a < b))
  | .gt, .int a, .int b => some (decide (b < a))
  | .isin, .str a, .dict b => some (getD b a).isSome
  | _, _, _ => .none
noncomputable def idxD : Dat → Dat → Option Dat
  | .list xs, .int i => if 0 ≤ i ∧ i < lim then xs[i.toNat]? else .none
  | .tup xs, .int i => if 0 ≤ i ∧ i < lim then xs[i.toNat]? else .none
  | .str s, .int i => if 0 ≤ i ∧ i < lim then (s.cps[i.toNat]?).map (fun c => .str ⟨#[c]⟩) else .none
  | .dict kvs, .str k => getD kvs k
  | _, _ => .none
noncomputable def intO : Option Dat → Option (Option Int)
  | .none => some .none
  | some (.int i) => if -lim < i ∧ i < lim then some (some i) else .none
  | _ => .none
noncomputable def sliceD : Dat → Option Int → Option Int → Option Dat
  | .str s, lo, hi => if s.cps.size ≤ lim then some (.str (Txt.slice s lo hi)) else .none
  | .list xs, some lo, some hi => if 0 ≤ lo ∧ lo ≤ hi ∧ xs.length ≤ lim then some (.list ((xs.drop lo.toNat).take (hi.toNat - lo.toNat))) else .none
  | _, _, _ => .none
noncomputable def strsD : List Dat → Option (List Str)
  | [] => some []
  | .str s :: r => (strsD r).map (s :: ·)
  | _ => .none
noncomputable def maxD : List Dat → Option Int
  | [.int i] => some i
  | .int i :: r => (maxD r).map (max i ·)
  | _ => .none
noncomputable def sumLen (l : List Str) : Nat := (l.map (·.length)).sum
noncomputable def fnD : F1 → Dat → Option Dat
  | .ord, .str s => if s.cps.size = 1 then some (.int (s.cps.getD 0 0 : Nat)) else .none
  | .chr, .int i => if 0 ≤ i ∧ i ≤ 1114111 then some (.str ⟨#[i.toNat]⟩) else .none
  | .len, .str s => if s.cps.size ≤ lim then some (.int s.cps.size) else .none
  | .len, .list xs => if xs.length ≤ lim then some (.int xs.length) else .none
  | .max, .list xs => if xs.length ≤ lim then (maxD xs).map .int else .none
  | .list, .dict kvs => if kvs.length ≤ lim then some (.list (kvs.map fun p => .str p.1)) else .none
  | _, _ => .none
noncomputable def m0D : M0 → Dat → Option Dat
  | .split, .str s => if s.cps.size + 2 ≤ lim then someSs (wordsF s) else .none
  | .lower, .str s => match asciiB s.cps.toList with
    | true => if s.length ≤ 5592405 then someL (lowL s.cps.toList) else .none
    | false => .none
  | .swapcase, .str s => if s.length ≤ 5592405 then someS (Txt.swapcase s) else .none
  | _, _ => .none
noncomputable def oneOf (c : Str) : Option Nat := match c.cps.toList with
  | [k] => some k
  | _ => .none
noncomputable def m1D : M1 → Dat → Dat → Option Dat
  | .split, .str s, .str c => match oneOf c with
    | some k => if s.cps.size + 2 ≤ lim then someSs (splitF k s) else .none
    | .none => .none
  | .join, .str s, .list xs => match strsD xs with
    | some l => if (l.map (·.length)).sum + l.length * s.length ≤ lim then someL (joinL s.cps.toList l) else .none
    | .none => .none
  | .startswith, .str s, .str t => some (.bool (Txt.startswith s t))
  | _, _, _ => .none
noncomputable def m2D : M2 → Dat → Dat → Dat → Option Dat
  | .replace, .str s, .str y, .str z => if (y == z) = false ∧ s.length + (s.length + 1) * z.length ≤ lim then someS (repF s y z) else .none
  | .get, .dict kvs, .str k, d => match getD kvs k with | some v => some v | .none => some d
  | _, _, _, _ => .none
noncomputable def itemsD : Dat → Option (List Dat)
  | .list xs => if xs.length ≤ lim then some xs else .none
  | .str s => if s.cps.size ≤ lim then some (s.cps.toList.map fun c => .str ⟨#[c]⟩) else .none
  | .dict kvs => if kvs.length ≤ lim then some (kvs.map fun p => .str p.1) else .none
  | _ => .none
theorem nn {α : Type} {x : α} {P : Prop} (h : (.none : Option α) = some x) : P := nomatch h
/-! the operations at their kinds, each by computation -/
theorem r_mul (a b : Int) : binD .mul (.int a) (.int b) = if fitsI a then some (.int (a * b)) else .none := rfl
theorem r_fdiv (a b : Int) : binD .fdiv (.int a) (.int b) = if b ≠ 0 ∧ b.natAbs < 1073741824 then some (.int (a.fdiv b)) else .none := rfl
theorem r_fmod (a b : Int) : binD .fmod (.int a) (.int b) = if b ≠ 0 then some (.int (a.fmod b)) else .none := rfl
theorem r_adds (a b : Str) : binD .add (.str a) (.str b) = if a.cps.size + b.cps.size ≤ lim then someL (a.cps.toList ++ b.cps.toList) else .none := rfl
theorem r_addl (a b : List Dat) : binD .add (.list a) (.list b) = if a.length + b.length ≤ lim then some (.list (a ++ b)) else .none := rfl
theorem r_eq (a b : Dat) : cmpD .eq a b = eqD a b := rfl
theorem r_ne (a b : Dat) : cmpD .ne a b = (eqD a b).map (!·) := rfl
theorem r_lt (a b : Int) : cmpD .lt (.int a) (.int b) = some (decide (a < b)) := rfl
theorem r_gt (a b : Int) : cmpD .gt (.int a) (.int b) = some (decide (b < a)) := rfl
theorem r_isin (a : Str) (b : List (Str × Dat)) : cmpD .isin (.str a) (.dict b) = some (getD b a).isSome := rfl
theorem r_eqs (a b : Str) : eqD (.str a) (.str b) = some (sameS a b) := rfl
theorem r_eqi (a b : Int) : eqD (.int a) (.int b) = some (decide (a = b)) := rfl
theorem r_eqd (a b : List (Str × Dat)) : eqD (.dict a) (.dict b) = match Nat.beq a.length b.length with
    | true => sameFlat b a
    | false => some false := rfl
theorem r_idxl (xs : List Dat) (i : Int) : idxD (.list xs) (.int i) = if 0 ≤ i ∧ i < lim then xs[i.toNat]? else .none := rfl
theorem r_idxt (xs : List Dat) (i : Int) : idxD (.tup xs) (.int i) = if 0 ≤ i ∧ i < lim then xs[i.toNat]? else .none := rfl
theorem r_idxs (s : Str) (i : Int) : idxD (.str s) (.int i) = if 0 ≤ i ∧ i < lim then (s.cps[i.toNat]?).map (fun c => .str ⟨#[c]⟩) else .none := rfl
theorem r_idxd (kvs : List (Str × Dat)) (k : Str) : idxD (.dict kvs) (.str k) = getD kvs k := rfl
theorem r_intO (i : Int) : intO (some (.int i)) = if -lim < i ∧ i < lim then some (some i) else .none := rfl
theorem r_sls (s : Str) (lo hi : Option Int) : sliceD (.str s) lo hi = if s.cps.size ≤ lim then some (.str (Txt.slice s lo hi)) else .none := rfl
theorem r_sll (xs : List Dat) (lo hi : Int) : sliceD (.list xs) (some lo) (some hi) = if 0 ≤ lo ∧ lo ≤ hi ∧ xs.length ≤ lim then some (.list ((xs.drop lo.toNat).take (hi.toNat - lo.toNat))) else .none := rfl
theorem r_ord (s : Str) : fnD .ord (.str s) = if s.cps.size = 1 then some (.int (s.cps.getD 0 0 : Nat)) else .none := rfl
theorem r_chr (i : Int) : fnD .chr (.int i) = if 0 ≤ i ∧ i ≤ 1114111 then some (.str ⟨#[i.toNat]⟩) else .none := rfl
theorem r_lens (s : Str) : fnD .len (.str s) = if s.cps.size ≤ lim then some (.int s.cps.size) else .none := rfl
theorem r_lenl (xs : List Dat) : fnD .len (.list xs) = if xs.length ≤ lim then some (.int xs.length) else .none := rfl
theorem r_max (xs : List Dat) : fnD .max (.list xs) = if xs.length ≤ lim then (maxD xs).map .int else .none := rfl
theorem r_flist (kvs : List (Str × Dat)) : fnD .list (.dict kvs) = if kvs.length ≤ lim then some (.list (kvs.map fun p => .str p.1)) else .none := rfl
theorem r_words (s : Str) : m0D .split (.str s) = if s.cps.size + 2 ≤ lim then someSs (wordsF s) else .none := rfl
theorem r_lower (s : Str) : m0D .lower (.str s) = match asciiB s.cps.toList with
    | true => if s.length ≤ 5592405 then someL (lowL s.cps.toList) else .none
    | false => .none := rfl
theorem r_swap (s : Str) : m0D .swapcase (.str s) = if s.length ≤ 5592405 then someS (Txt.swapcase s) else .none := rfl
theorem r_split (s c : Str) : m1D .split (.str s) (.str c) = match oneOf c with
    | some k => if s.cps.size + 2 ≤ lim then someSs (splitF k s) else .none
    | .none => .none := rfl
theorem r_join (s : Str) (xs : List Dat) : m1D .join (.str s) (.list xs) = match strsD xs with
    | some l => if (l.map (·.length)).sum + l.length * s.length ≤ lim then someL (joinL s.cps.toList l) else .none
    | .none => .none := rfl
theorem r_sw (s t : Str) : m1D .startswith (.str s) (.str t) = some (.bool (Txt.startswith s t)) := rfl
theorem r_rep (s y z : Str) : m2D .replace (.str s) (.str y) (.str z) = if (y == z) = false ∧ s.length + (s.length + 1) * z.length ≤ lim then someS (Txt.replace s y z) else .none := by
  rw [← repF_eq]; rfl
theorem r_get (kvs : List (Str × Dat)) (k : Str) (d : Dat) : m2D .get (.dict kvs) (.str k) d = match getD kvs k with | some v => some v | .none => some d := rfl
theorem r_itl (xs : List Dat) : itemsD (.list xs) = if xs.length ≤ lim then some xs else .none := rfl
theorem r_its (s : Str) : itemsD (.str s) = if s.cps.size ≤ lim then some (s.cps.toList.map fun c => .str ⟨#[c]⟩) else .none := rfl
theorem r_itd (kvs : List (Str × Dat)) : itemsD (.dict kvs) = if kvs.length ≤ lim then some (kvs.map fun p => .str p.1) else .none := rfl
noncomputable def rangeD (a b : Int) : Option (List Dat) :=
  if -lim ≤ a ∧ a ≤ lim ∧ -lim ≤ b ∧ b ≤ lim ∧ b - a ≤ lim then some ((List.range (b - a).toNat).map fun (i : Nat) => .int (a + i)) else .none

section
variable (fs : Nat → Option FDef) (r : Rec)
noncomputable def evs : List Ex → Rho → Option (List Dat × Mu)
  | [], ρ => some ([], ρ.mu)
  | e :: es, ρ => match r.ev e ρ with
    | some (d, μ) => match evs es ⟨ρ.vars, μ⟩ with
      | some (ds, μ) => some (d :: ds, μ)
      | .none => .none
    | .none => .none
noncomputable def tesAnd : List Te → Rho → Option (Bool × Mu)
  | [], ρ => some (true, ρ.mu)
  | t :: ts, ρ => match r.te t ρ with
    | some (true, μ) => tesAnd ts ⟨ρ.vars, μ⟩
    | some (false, μ) => some (false, μ)
    | .none => .none
noncomputable def tesOr : List Te → Rho → Option (Bool × Mu)
  | [], ρ => some (false, ρ.mu)
  | t :: ts, ρ => match r.te t ρ with
    | some (false, μ) => tesOr ts ⟨ρ.vars, μ⟩
    | some (true, μ) => some (true, μ)
    | .none => .none
noncomputable def evO : Option Ex → Rho → Option (Option Dat × Mu)
  | .none, ρ => some (.none, ρ.mu)
  | some e, ρ => match r.ev e ρ with
    | some (d, μ) => some (some d, μ)
    | .none => .none
noncomputable def exs : List St → Rho → Option (Fl × Rho)
  | [], ρ => some (.next, ρ)
  | s :: ss, ρ => match r.ex s ρ with
    | some (.next, ρ) => exs ss ρ
    | some (.ret d, ρ) => some (.ret d, ρ)
    | .none => .none
noncomputable def iter : It → Rho → Option (List Dat × Mu)
  | .val e, ρ => match r.ev e ρ with
    | some (d, μ) => (itemsD d).map (·, μ)
    | .none => .none
  | .range1 e, ρ => match r.ev e ρ with
    | some (.int b, μ) => (rangeD 0 b).map (·, μ)
    | _ => .none
  | .range2 a b, ρ => match r.ev a ρ with
    | some (.int a, μ) => match r.ev b ⟨ρ.vars, μ⟩ with
      | some (.int b, μ) => (rangeD a b).map (·, μ)
      | _ => .none
    | _ => .none
/-- one turn of the innermost for: the tests, the element -/
noncomputable def turn (elt : Ex) (ifs : List Te) (vars : Vars) (acc : List Dat) : Option (List Dat) :=
  match tesAnd r ifs ⟨vars, .none⟩ with
  | some (true, .none) => match r.ev elt ⟨vars, .none⟩ with
    | some (d, .none) => if acc.length < lim then some (acc ++ [d]) else .none
    | _ => .none
  | some (false, .none) => some acc
  | _ => .none
noncomputable def loop1 (elt : Ex) (ifs : List Te) (x : Nat) (vars : Vars) : List Dat → List Dat → Option (List Dat)
  | [], acc => some acc
  | d :: ds, acc => match turn r elt ifs (put vars x d) acc with
    | some acc => loop1 elt ifs x vars ds acc
    | .none => .none
noncomputable def loop2 (elt : Ex) (ifs : List Te) (x y : Nat) (it2 : It) (vars : Vars) : List Dat → List Dat → Option (List Dat)
  | [], acc => some acc
  | d :: ds, acc => match iter r it2 ⟨put vars x d, .none⟩ with
    | some (items, .none) => match loop1 r elt ifs y (put vars x d) items acc with
      | some acc => loop2 elt ifs x y it2 vars ds acc
      | .none => .none
    | _ => .none
noncomputable def putAll : List Nat → List Dat → Vars → Option Vars
  | [], [], v => some v
  | x :: xs, d :: ds, v => putAll xs ds (put v x d)
  | _, _, _ => .none
noncomputable def isMu (μ : Mu) (x : Nat) : Bool := match μ with
  | some (y, _) => Nat.beq y x
  | .none => false
noncomputable def bindFor (xs : List Nat) (tupled : Bool) (d : Dat) (v : Vars) : Option Vars := match tupled with
  | true => match d with
    | .tup ds => putAll xs ds v
    | _ => .none
  | false => match xs with
    | [x] => some (put v x d)
    | _ => .none
noncomputable def forL (xs : List Nat) (tupled : Bool) (body : List St) : List Dat → Rho → Option (Fl × Rho)
  | [], ρ => some (.next, ρ)
  | d :: ds, ρ => match xs.any (isMu ρ.mu) with
    | true => .none
    | false => match bindFor xs tupled d ρ.vars with
      | some v => match exs r body ⟨v, ρ.mu⟩ with
        | some (.next, ρ) => forL xs tupled body ds ρ
        | some (.ret d, ρ) => some (.ret d, ρ)
        | .none => .none
      | .none => .none
noncomputable def ownOf (μ : Mu) (x : Nat) : Option MDat := match μ with
  | some (y, m) => match Nat.beq y x with | true => some m | false => .none
  | .none => .none
noncomputable def stepE (e : Ex) (ρ : Rho) : Option (Dat × Mu) := match e with
  | .int i => some (.int i, ρ.mu)
  | .str s => some (.str s, ρ.mu)
  | .bool b => some (.bool b, ρ.mu)
  | .var x => match look ρ.vars x with | some d => some (d, ρ.mu) | .none => .none
  | .neg i => some (.int (-i), ρ.mu)
  | .bin op a b => match r.ev a ρ with
    | some (x, μ) => match r.ev b ⟨ρ.vars, μ⟩ with
      | some (y, μ) => (binD op x y).map (·, μ)
      | .none => .none
    | .none => .none
  | .cmp op a b => match r.ev a ρ with
    | some (x, μ) => match r.ev b ⟨ρ.vars, μ⟩ with
      | some (y, μ) => (cmpD op x y).map (.bool ·, μ)
      | .none => .none
    | .none => .none
  | .btw a b c => match r.ev a ρ with
    | some (.str x, μ) => match r.ev b ⟨ρ.vars, μ⟩ with
      | some (.str y, μ) => match leL x.cps.toList y.cps.toList with
        | true => match r.ev c ⟨ρ.vars, μ⟩ with
          | some (.str z, μ) => some (.bool (leL y.cps.toList z.cps.toList), μ)
          | _ => .none
        | false => some (.bool false, μ)
      | _ => .none
    | _ => .none
  | .ite t a b => match r.te t ρ with
    | some (true, μ) => r.ev a ⟨ρ.vars, μ⟩
    | some (false, μ) => r.ev b ⟨ρ.vars, μ⟩
    | .none => .none
  | .list es => match evs r es ρ with
    | some (ds, μ) => if ds.length ≤ lim then some (.list ds, μ) else .none
    | .none => .none
  | .tup es => match evs r es ρ with
    | some (ds, μ) => if ds.length ≤ lim then some (.tup ds, μ) else .none
    | .none => .none
  | .dict0 => some (.dict [], ρ.mu)
  | .dictS kvs => some (.dict (kvs.map fun p => (p.1, .str p.2)), ρ.mu)
  | .idx a i => match r.ev a ρ with
    | some (x, μ) => match r.ev i ⟨ρ.vars, μ⟩ with
      | some (y, μ) => (idxD x y).map (·, μ)
      | .none => .none
    | .none => .none
  | .slice a lo hi => match r.ev a ρ with
    | some (x, μ) => match evO r lo ⟨ρ.vars, μ⟩ with
      | some (l, μ) => match evO r hi ⟨ρ.vars, μ⟩ with
        | some (h, μ) => match intO l, intO h with
          | some l, some h => (sliceD x l h).map (·, μ)
          | _, _ => .none
        | .none => .none
      | .none => .none
    | .none => .none
  | .call f args => match evs r args ρ with
    | some (ds, μ) => match r.call f ds .none with
      | some (d, .none) => some (d, μ)
      | _ => .none
    | .none => .none
  | .callIO f x args => match ownOf ρ.mu x with
    | some m => match evs r args ⟨ρ.vars, .none⟩ with
      | some (ds, .none) => match r.call f ds (some m) with
        | some (d, some m) => some (d, some (x, m))
        | _ => .none
      | _ => .none
    | .none => .none
  | .fn f a => match r.ev a ρ with
    | some (x, μ) => (fnD f x).map (·, μ)
    | .none => .none
  | .m0 m a => match r.ev a ρ with
    | some (x, μ) => (m0D m x).map (·, μ)
    | .none => .none
  | .m1 m a b => match r.ev a ρ with
    | some (x, μ) => match r.ev b ⟨ρ.vars, μ⟩ with
      | some (y, μ) => (m1D m x y).map (·, μ)
      | .none => .none
    | .none => .none
  | .m2 m a b c => match r.ev a ρ with
    | some (x, μ) => match r.ev b ⟨ρ.vars, μ⟩ with
      | some (y, μ) => match r.ev c ⟨ρ.vars, μ⟩ with
        | some (z, μ) => (m2D m x y z).map (·, μ)
        | .none => .none
      | .none => .none
    | .none => .none
  | .joinOwn s x => match ownOf ρ.mu x with
    | some (.list xs) => (m1D .join (.str s) (.list xs)).map (·, ρ.mu)
    | _ => .none
  | .ownIdx x i => match (ownOf ρ.mu x).bind seqOf with
    | some xs => match r.ev i ⟨ρ.vars, .none⟩ with
      | some (.int k, .none) => (idxD (.list xs) (.int k)).map (·, ρ.mu)
      | _ => .none
    | _ => .none
  | .ownPath x i j => match ownOf ρ.mu x with
    | some (.dict2 kvs) => match r.ev i ⟨ρ.vars, .none⟩ with
      | some (.str k, .none) => match getD kvs k with
        | some inner => match r.ev j ⟨ρ.vars, .none⟩ with
          | some (.str q, .none) => (getD inner q).map (·, ρ.mu)
          | _ => .none
        | .none => .none
      | _ => .none
    | _ => .none
  | .comp elt x it more ifs fr => match iter r it ρ with
    | some (items, μ) => match more with
      | .none => (loop1 r elt ifs x (only fr ρ.vars) items []).map fun ds => (.list ds, μ)
      | some (y, it2) => (loop2 r elt ifs x y it2 (only fr ρ.vars) items []).map fun ds => (.list ds, μ)
    | .none => .none
noncomputable def stepT (t : Te) (ρ : Rho) : Option (Bool × Mu) := match t with
  | .not t => match r.te t ρ with | some (b, μ) => some (!b, μ) | .none => .none
  | .and ts => tesAnd r ts ρ
  | .or ts => tesOr r ts ρ
  | .cmp op a b => match r.ev a ρ with
    | some (x, μ) => match r.ev b ⟨ρ.vars, μ⟩ with
      | some (y, μ) => (cmpD op x y).map (·, μ)
      | .none => .none
    | .none => .none
  | .val e => match r.ev e ρ with | some (.bool b, μ) => some (b, μ) | _ => .none
noncomputable def stepS (s : St) (ρ : Rho) : Option (Fl × Rho) := match s with
  | .assign x e => match r.ev e ρ with
    | some (d, μ) => match isMu μ x with
      | true => .none
      | false => some (.next, ⟨put ρ.vars x d, μ⟩)
    | .none => .none
  | .assignC z elt x it ifs fr => match iter r it ρ with
    | some (items, μ) => match loop1 r elt ifs x (only fr ρ.vars) items [] with
      | some ds => match isMu μ z with
        | true => .none
        | false => some (.next, ⟨put ρ.vars z (.list ds), μ⟩)
      | .none => .none
    | .none => .none
  | .assignT xs e => match r.ev e ρ with
    | some (.tup ds, μ) => match xs.any (isMu μ) with
      | true => .none
      | false => (putAll xs ds ρ.vars).map fun v => (.next, ⟨v, μ⟩)
    | _ => .none
  | .ownList x es => match ρ.mu with
    | .none => match evs r es ρ with
      | some (ds, .none) => if ds.length ≤ lim ∧ (look ρ.vars x).isNone = true then some (.next, ⟨ρ.vars, some (x, .list ds)⟩) else .none
      | _ => .none
    | _ => .none
  | .ownDict x => match ρ.mu with
    | .none => match look ρ.vars x with
      | .none => some (.next, ⟨ρ.vars, some (x, .dict [])⟩)
      | some _ => .none
    | _ => .none
  | .ownDict2 x => match ρ.mu with
    | .none => match look ρ.vars x with
      | .none => some (.next, ⟨ρ.vars, some (x, .dict2 [])⟩)
      | some _ => .none
    | _ => .none
  | .append x e => match ownOf ρ.mu x with
    | some (.list xs) => match r.ev e ⟨ρ.vars, .none⟩ with
      | some (d, .none) => if xs.length < lim then some (.next, ⟨ρ.vars, some (x, .list (xs ++ [d]))⟩) else .none
      | _ => .none
    | _ => .none
  | .setKey x k v => match r.ev v ρ with
    | some (d, μ) => match ownOf μ x with
      | some (.dict kvs) => match r.ev k ⟨ρ.vars, .none⟩ with
        | some (.str q, .none) => if kvs.length < lim then some (.next, ⟨ρ.vars, some (x, .dict (setD kvs q d))⟩) else .none
        | _ => .none
      | _ => .none
    | .none => .none
  | .setIdx x i v => match r.ev v ρ with
    | some (d, μ) => match (ownOf μ x).bind seqOf with
      | some xs => match r.ev i ⟨ρ.vars, .none⟩ with
        | some (.int i, .none) => if 0 ≤ i ∧ i < xs.length ∧ xs.length ≤ lim then some (.next, ⟨ρ.vars, some (x, .arr (xs.set i.toNat d))⟩) else .none
        | _ => .none
      | _ => .none
    | .none => .none
  | .newKey x k => match ownOf ρ.mu x with
    | some (.dict2 kvs) => match r.ev k ⟨ρ.vars, .none⟩ with
      | some (.str q, .none) => match getD kvs q with
        | .none => if kvs.length < lim then some (.next, ⟨ρ.vars, some (x, .dict2 (kvs ++ [(q, [])]))⟩) else .none
        | some _ => .none
      | _ => .none
    | _ => .none
  | .setPath x i j v => match r.ev v ρ with
    | some (d, μ) => match ownOf μ x with
      | some (.dict2 kvs) => match r.ev i ⟨ρ.vars, .none⟩ with
        | some (.str k, .none) => match getD kvs k with
          | some inner => match r.ev j ⟨ρ.vars, .none⟩ with
            | some (.str q, .none) => if inner.length < lim then some (.next, ⟨ρ.vars, some (x, .dict2 (setD kvs k (setD inner q d)))⟩) else .none
            | _ => .none
          | .none => .none
        | _ => .none
      | _ => .none
    | .none => .none
  | .ret e => match r.ev e ρ with | some (d, μ) => some (.ret d, ⟨ρ.vars, μ⟩) | .none => .none
  | .retOwn x => match ownOf ρ.mu x with
    | some (.dict kvs) => some (.ret (.dict kvs), ⟨ρ.vars, .none⟩)
    | some (.dict2 kvs) => some (.ret (.dict (kvs.map fun p => (p.1, .dict p.2))), ⟨ρ.vars, .none⟩)
    | _ => .none
  | .ite t a b => match r.te t ρ with
    | some (true, μ) => exs r a ⟨ρ.vars, μ⟩
    | some (false, μ) => exs r b ⟨ρ.vars, μ⟩
    | .none => .none
  | .forE xs tupled it body => match iter r it ρ with
    | some (items, μ) => forL r xs tupled body items ⟨ρ.vars, μ⟩
    | .none => .none
/-- a call: with a list handed in and out it is the first parameter -/
noncomputable def stepC (f : Nat) (args : List Dat) (m : Option MDat) : Option (Dat × Option MDat) := match fs f with
  | some d => match m with
    | .none => match putAll d.params args [] with
      | some v => match exs r d.body ⟨v, .none⟩ with
        | some (.ret d, _) => some (d, .none)
        | _ => .none
      | .none => .none
    | some md => match seqOf md with
      | .none => .none
      | some _ => match d.params with
        | x :: ps => match putAll ps args [] with
          | some v => match look v x with
            | .none => match exs r d.body ⟨v, some (x, md)⟩ with
              | some (.ret d, ⟨_, some (y, m)⟩) => match Nat.beq y x with
                | true => match seqOf m with
                  | some _ => some (d, some m)
                  | .none => .none
                | false => .none
              | _ => .none
            | some _ => .none
          | .none => .none
        | [] => .none
  | .none => .none
noncomputable def step : Rec := ⟨stepE r, stepT r, stepS r, stepC fs r⟩
end
noncomputable def bot : Rec := ⟨fun _ _ => .none, fun _ _ => .none, fun _ _ => .none, fun _ _ _ => .none⟩
noncomputable def run (fs : Nat → Option FDef) (n : Nat) : Rec := @Nat.rec (fun _ => Rec) bot (fun _ r => step fs r) n
end Mine
end

section
open PySem PySem.W PyProof.Rows
set_option Elab.async false
set_option maxRecDepth 10000
namespace Mine

/-! a tree that ends well: only the heap and the tokens change -/
noncomputable def Go (M : Model) (A : Around) {α : Type} (t : Sem α) (s : Shared) (P : α → Heap → Prop) : Prop :=
  ∀ (Q : α → Shared → Prop) (E : Value → Shared → Prop), (∀ a h tk, s.toks ≤ tk → P a h → Q a { s with heap := h, toks := tk }) → wpAny M A t Q E s

section
variable {M : Model} {A : Around} {α β : Type} {s : Shared}
theorem Go.of {t : Sem α} {P : α → Heap → Prop} (h : ∀ (Q : α → Shared → Prop) (E : Value → Shared → Prop), (∀ a h tk, P a h → Q a { s with heap := h, toks := tk }) → wpAny M A t Q E s) : Go M A t s P :=
  fun _ _ hQ => wpAny_with_toks (Nat.le_refl _) (h _ _ fun a h tk hP hle => hQ a h tk hle hP)
theorem Go.pure {a : α} {P : α → Heap → Prop} (h : P a s.heap) : Go M A (pure a) s P := fun _ _ hQ => wpAny_pure (hQ a s.heap s.toks (Nat.le_refl _) h)
theorem Go.bind {m : Sem α} {f : α → Sem β} {P : α → Heap → Prop} {P' : β → Heap → Prop} (hm : Go M A m s P)
    (hf : ∀ a h tk, s.toks ≤ tk → P a h → Go M A (f a) { s with heap := h, toks := tk } P') : Go M A (m >>= f) s P' := fun Q E hQ =>
  wpAny_bind (hm _ E fun a h tk hle hP => hf a h tk hle hP Q E fun b h' tk' hle' hP' => hQ b h' tk' (Nat.le_trans hle hle') hP')
theorem Go.mono {t : Sem α} {P P' : α → Heap → Prop} (h : Go M A t s P) (hp : ∀ a h, P a h → P' a h) : Go M A t s P' := fun Q E hQ => h Q E fun a h tk hle hP => hQ a h tk hle (hp a h hP)
theorem Go.eq {t t' : Sem α} {P : α → Heap → Prop} (e : t = t') (h : Go M A t' s P) : Go M A t s P := e ▸ h
end

/-! data in a heap, less the hidden addresses -/
section
variable (prog : Program) (w : World) (h : Heap) (hid : List Addr)
mutual
inductive Rep : Value → Dat → Prop
  | none : Rep .none .none
  | bool {b : Bool} : Rep (.bool b) (.bool b)
  | int {i : Int} {t : Tok} : Rep (.int i t) (.int i)
  | str {s : Str} {t : Tok} : Rep (.str s t) (.str s)
  | list {a : Addr} {vs : Array Value} {xs : List Dat} : a ∉ hid → h.IsList a vs → RepL vs.toList xs → Rep (.ref a) (.list xs)
  | tup {a : Addr} {vs : Array Value} {xs : List Dat} : a ∉ hid → IsTup h a vs → RepL vs.toList xs → Rep (.ref a) (.tup xs)
  | dict {a : Addr} {kvs' : List (Str × Value)} {kvs : List (Str × Dat)} : a ∉ hid → (a == sysModules) = false → h.DictOf (strKind prog w) a kvs' → RepD kvs' kvs → Rep (.ref a) (.dict kvs)
inductive RepL : List Value → List Dat → Prop
  | nil : RepL [] []
  | cons {v : Value} {d : Dat} {vs : List Value} {ds : List Dat} : Rep v d → RepL vs ds → RepL (v :: vs) (d :: ds)
inductive RepD : List (Str × Value) → List (Str × Dat) → Prop
  | nil : RepD [] []
  | cons {k : Str} {v : Value} {d : Dat} {vs : List (Str × Value)} {ds : List (Str × Dat)} : Rep v d → RepD vs ds → RepD ((k, v) :: vs) ((k, d) :: ds)
end
end

/-- what stood and was not hidden stands and is not hidden -/
noncomputable def Keep (h : Heap) (hid : List Addr) (h' : Heap) (hid' : List Addr) : Prop := ∀ b o, b ∉ hid → h.get? b = some o → h'.get? b = some o ∧ b ∉ hid'
theorem Keep.refl {h : Heap} {hid : List Addr} : Keep h hid h hid := fun _ _ n e => ⟨e, n⟩
theorem Keep.trans {h h' h'' : Heap} {a b c : List Addr} (x : Keep h a h' b) (y : Keep h' b h'' c) : Keep h a h'' c := fun k o n e => y k o (x k o n e).2 (x k o n e).1

theorem dictOf_at {prog : Program} {w : World} {h h' : Heap} {a : Addr} {kvs : List (Str × Value)} (x : h.DictOf (strKind prog w) a kvs) (e : ∀ o, h.get? a = some o → h'.get? a = some o) : h'.DictOf (strKind prog w) a kvs :=
  let ⟨o, es, ep, ho, r⟩ := x; ⟨o, es, ep, e _ ho, r⟩
theorem isTup_at {h h' : Heap} {a : Addr} {vs : Array Value} (x : IsTup h a vs) (e : ∀ o, h.get? a = some o → h'.get? a = some o) : IsTup h' a vs := let ⟨o, ho, r⟩ := x; ⟨o, e _ ho, r⟩

section
variable {prog : Program} {w : World} {h h' : Heap} {hid hid' : List Addr}
theorem keepL (k : Keep h hid h' hid') {a : Addr} {vs : Array Value} {xs : List Dat} (n : a ∉ hid) (l : h.IsList a vs) (r : RepL prog w h' hid' vs.toList xs) : Rep prog w h' hid' (.ref a) (.list xs) :=
  .list (by obtain ⟨o, ho, _⟩ := l; exact (k _ o n ho).2) (l.at fun o e => (k _ o n e).1) r
theorem keepT (k : Keep h hid h' hid') {a : Addr} {vs : Array Value} {xs : List Dat} (n : a ∉ hid) (l : IsTup h a vs) (r : RepL prog w h' hid' vs.toList xs) : Rep prog w h' hid' (.ref a) (.tup xs) :=
  .tup (by obtain ⟨o, ho, _⟩ := l; exact (k _ o n ho).2) (isTup_at l fun o e => (k _ o n e).1) r
theorem keepM (k : Keep h hid h' hid') {a : Addr} {kvs' : List (Str × Value)} {kvs : List (Str × Dat)} (n : a ∉ hid) (q : (a == sysModules) = false) (l : h.DictOf (strKind prog w) a kvs') (r : RepD prog w h' hid' kvs' kvs) : Rep prog w h' hid' (.ref a) (.dict kvs) :=
  .dict (by obtain ⟨o, _, _, ho, _⟩ := l; exact (k _ o n ho).2) q (dictOf_at l fun o e => (k _ o n e).1) r
theorem Rep.keep (k : Keep h hid h' hid') {v : Value} {d : Dat} (x : Rep prog w h hid v d) : Rep prog w h' hid' v d :=
  Rep.rec (motive_1 := fun v d _ => Rep prog w h' hid' v d) (motive_2 := fun v d _ => RepL prog w h' hid' v d) (motive_3 := fun v d _ => RepD prog w h' hid' v d)
    .none .bool .int .str (fun n l _ r => keepL k n l r) (fun n l _ r => keepT k n l r) (fun n q l _ r => keepM k n q l r) .nil (fun _ _ a b => .cons a b) .nil (fun _ _ a b => .cons a b) x
theorem RepL.keep (k : Keep h hid h' hid') {v : List Value} {d : List Dat} (x : RepL prog w h hid v d) : RepL prog w h' hid' v d :=
  RepL.rec (motive_1 := fun v d _ => Rep prog w h' hid' v d) (motive_2 := fun v d _ => RepL prog w h' hid' v d) (motive_3 := fun v d _ => RepD prog w h' hid' v d)
    .none .bool .int .str (fun n l _ r => keepL k n l r) (fun n l _ r => keepT k n l r) (fun n q l _ r => keepM k n q l r) .nil (fun _ _ a b => .cons a b) .nil (fun _ _ a b => .cons a b) x
theorem RepD.keep (k : Keep h hid h' hid') {v : List (Str × Value)} {d : List (Str × Dat)} (x : RepD prog w h hid v d) : RepD prog w h' hid' v d :=
  RepD.rec (motive_1 := fun v d _ => Rep prog w h' hid' v d) (motive_2 := fun v d _ => RepL prog w h' hid' v d) (motive_3 := fun v d _ => RepD prog w h' hid' v d)
    .none .bool .int .str (fun n l _ r => keepL k n l r) (fun n l _ r => keepT k n l r) (fun n q l _ r => keepM k n q l r) .nil (fun _ _ a b => .cons a b) .nil (fun _ _ a b => .cons a b) x
theorem RepL.length {v : List Value} {d : List Dat} (r : RepL prog w h hid v d) : v.length = d.length := by
  induction d generalizing v with
  | nil => cases r; rfl
  | cons _ _ ih => cases r with | cons _ b => simp [ih b]
theorem RepL.get {v : List Value} {d : List Dat} (r : RepL prog w h hid v d) {i : Nat} {x : Dat} (e : d[i]? = some x) : ∃ y, v[i]? = some y ∧ Rep prog w h hid y x := by
  induction d generalizing v i with
  | nil => simp at e
  | cons q l ih =>
    cases r with
    | cons a b =>
      cases i with
      | zero => simp at e; subst e; exact ⟨_, rfl, a⟩
      | succ i => simp at e; simpa using ih b e
theorem RepL.get' {v : List Value} {d : List Dat} (r : RepL prog w h hid v d) {i : Nat} {y : Value} (e : v[i]? = some y) : ∃ x, d[i]? = some x ∧ Rep prog w h hid y x := by
  induction d generalizing v i with
  | nil => cases r; simp at e
  | cons q l ih =>
    cases r with
    | cons a b =>
      cases i with
      | zero => simp at e; subst e; exact ⟨_, rfl, a⟩
      | succ i => simp at e; simpa using ih b e
theorem RepL.append {v u : List Value} {d c : List Dat} (r : RepL prog w h hid v d) (q : RepL prog w h hid u c) : RepL prog w h hid (v ++ u) (d ++ c) := by
  induction d generalizing v with
  | nil => cases r; exact q
  | cons _ _ ih => cases r with | cons a b => exact .cons a (ih b)
theorem RepL.drop {v : List Value} {d : List Dat} (r : RepL prog w h hid v d) (n : Nat) : RepL prog w h hid (v.drop n) (d.drop n) := by
  induction n generalizing v d with
  | zero => exact r
  | succ n ih => cases r with
    | nil => exact .nil
    | cons a b => exact ih b
theorem RepL.take {v : List Value} {d : List Dat} (r : RepL prog w h hid v d) (n : Nat) : RepL prog w h hid (v.take n) (d.take n) := by
  induction n generalizing v d with
  | zero => simpa using RepL.nil
  | succ n ih => cases r with
    | nil => exact .nil
    | cons a b => exact .cons a (ih b)
theorem RepL.set {v : List Value} {d : List Dat} (r : RepL prog w h hid v d) {y : Value} {x : Dat} (q : Rep prog w h hid y x) (n : Nat) : RepL prog w h hid (v.set n y) (d.set n x) := by
  induction n generalizing v d with
  | zero => cases r with
    | nil => exact .nil
    | cons a b => exact .cons q b
  | succ n ih => cases r with
    | nil => exact .nil
    | cons a b => exact .cons a (ih b)
theorem RepL.strs {v : List Value} {l : List Str} (r : RepL prog w h hid v (l.map .str)) : StrsAre v l := by
  induction l generalizing v with
  | nil => cases r; exact .nil
  | cons x l ih => cases r with
    | cons a b => cases a; exact .cons _ _ (ih b)
theorem RepL.of_strs {v : List Value} {l : List Str} (r : StrsAre v l) : RepL prog w h hid v (l.map .str) := by
  induction r with
  | nil => exact .nil
  | cons y t _ ih => exact .cons .str ih
theorem RepD.keys {v : List (Str × Value)} {d : List (Str × Dat)} (r : RepD prog w h hid v d) : v.map (·.1) = d.map (·.1) := by
  induction d generalizing v with
  | nil => cases r; rfl
  | cons _ _ ih => cases r with | cons _ b => simp [ih b]
theorem RepD.length {v : List (Str × Value)} {d : List (Str × Dat)} (r : RepD prog w h hid v d) : v.length = d.length := by
  have := congrArg List.length r.keys
  simpa using this
end

theorem sameL_iff : ∀ {a b : List Nat}, sameL a b = true ↔ a = b
  | [], [] => by simp [sameL]
  | [], _ :: _ => by simp [sameL]
  | _ :: _, [] => by simp [sameL]
  | a :: x, b :: y => by
    unfold sameL
    cases e : Nat.beq a b with
    | true => have := Nat.eq_of_beq_eq_true e; subst this; simp [sameL_iff]
    | false => have := Nat.ne_of_beq_eq_false e; simp [this]
theorem sameS_iff {a b : Str} : sameS a b = true ↔ a = b := by
  unfold sameS
  rw [sameL_iff]
  constructor
  · intro e; cases a; cases b; simp at e; exact congrArg Str.mk (Array.toList_inj.mp (by simpa using e))
  · rintro rfl; rfl
theorem sameS_eq (a b : Str) : sameS a b = decide (a = b) := by
  cases e : sameS a b with
  | true => simp [sameS_iff.mp e]
  | false =>
    have : ¬ a = b := fun q => by rw [sameS_iff.mpr q] at e; cases e
    simp [this]

section
variable {prog : Program} {w : World} {h : Heap} {hid : List Addr}
theorem RepD.find {v : List (Str × Value)} {d : List (Str × Dat)} (r : RepD prog w h hid v d) (k : Str) :
    match getD d k with | some x => ∃ y, valueAt v k = some y ∧ Rep prog w h hid y x | .none => valueAt v k = .none := by
  induction d generalizing v with
  | nil => cases r; rfl
  | cons p l ih =>
    cases r with
    | @cons q y x vs _ a b =>
      unfold getD valueAt
      rw [sameS_eq]
      by_cases e : q = k
      · subst e; simp [a]
      · simp only [decide_eq_false e, List.find?_cons]
        exact ih b
theorem getD_isSome {d : List (Str × Dat)} (k : Str) : (getD d k).isSome = d.any (fun p => decide (p.1 = k)) := by
  induction d with
  | nil => rfl
  | cons p l ih =>
    obtain ⟨q, x⟩ := p
    unfold getD
    rw [sameS_eq, List.any_cons, ← ih]
    by_cases e : q = k <;> simp [e]
theorem RepD.store {v : List (Str × Value)} {d : List (Str × Dat)} (r : RepD prog w h hid v d) (n : (v.map (·.1)).Nodup) {k : Str} {y : Value} {x : Dat} (q : Rep prog w h hid y x) : RepD prog w h hid (stored v k y) (setD d k x) := by
  induction d generalizing v with
  | nil => cases r; exact .cons q .nil
  | cons p l ih =>
    cases r with
    | @cons p' y' x' vs _ a b =>
      rw [List.map_cons, List.nodup_cons] at n
      unfold setD stored
      rw [sameS_eq]
      by_cases e : p' = k
      · subst e
        simp only [decide_true, List.any_cons, Bool.true_or, if_true, List.map_cons]
        rw [map_store_of_not_mem vs _ y n.1]
        exact .cons q b
      · have ih := ih b n.2
        unfold stored at ih
        simp only [decide_eq_false e, List.any_cons, Bool.false_or, List.map_cons, if_neg e]
        cases z : vs.any (fun kv => decide (kv.1 = k)) with
        | true => rw [z] at ih; simp only [if_true] at ih ⊢; exact .cons a ih
        | false => rw [z] at ih; simp only [Bool.false_eq_true, if_false] at ih ⊢; exact .cons a ih
end

theorem look_put : ∀ (v : Vars) (x : Nat) (d : Dat) (y : Nat), look (put v x d) y = if y = x then some d else look v y
  | [], x, d, y => by
    unfold put look
    by_cases e : y = x
    · subst e; simp
    · have : Nat.beq x y = false := by cases q : Nat.beq x y with
        | false => rfl
        | true => exact absurd (Nat.eq_of_beq_eq_true q).symm e
      simp [this, e, look]
  | (z, c) :: r, x, d, y => by
    unfold put
    cases q : Nat.beq z x with
    | true =>
      have := Nat.eq_of_beq_eq_true q; subst this
      simp only [look]
      by_cases e : y = z
      · subst e; simp
      · have : Nat.beq z y = false := by cases q : Nat.beq z y with
          | false => rfl
          | true => exact absurd (Nat.eq_of_beq_eq_true q).symm e
        simp [this, e]
    | false =>
      have hn := Nat.ne_of_beq_eq_false q
      simp only [look, look_put r x d y]
      cases p : Nat.beq z y with
      | true => have := Nat.eq_of_beq_eq_true p; subst this; simp [hn]
      | false => rfl
theorem look_only : ∀ (fr : List Nat) (v : Vars) (y : Nat) (d : Dat), look (only fr v) y = some d → y ∈ fr ∧ look v y = some d
  | _, [], _, _, h => by cases h
  | fr, (z, c) :: r, y, d, h => by
    unfold only at h
    cases q : fr.any (Nat.beq z) with
    | true =>
      rw [q] at h
      simp only [look] at h ⊢
      cases p : Nat.beq z y with
      | true =>
        rw [p] at h
        have := Nat.eq_of_beq_eq_true p; subst this
        obtain ⟨i, hi, e⟩ := List.any_eq_true.mp q
        have := Nat.eq_of_beq_eq_true e; subst this
        exact ⟨hi, h⟩
      | false => rw [p] at h; exact look_only fr r y d h
    | false =>
      rw [q] at h
      obtain ⟨a, b⟩ := look_only fr r y d h
      refine ⟨a, ?_⟩
      simp only [look]
      cases p : Nat.beq z y with
      | true =>
        have := Nat.eq_of_beq_eq_true p; subst this
        have : fr.any (Nat.beq z) = true := List.any_eq_true.mpr ⟨z, a, Nat.beq_refl z⟩
        rw [q] at this; cases this
      | false => exact b
end Mine
end

section
open PySem PySem.W PyProof.Rows
set_option Elab.async false
set_option maxRecDepth 10000
namespace Mine

noncomputable def Ext (h h' : Heap) : Prop := ∀ b o, h.get? b = some o → h'.get? b = some o
theorem Ext.refl {h : Heap} : Ext h h := fun _ _ e => e
theorem Ext.trans {a b c : Heap} (x : Ext a b) (y : Ext b c) : Ext a c := fun k o e => y k o (x k o e)
theorem Ext.push {h h' : Heap} (x : Ext h h') (o : Obj) : Ext h (h'.push o) := fun k o' e => Heap.get?_push_of_some _ (x k o' e)
theorem Ext.keep {h h' : Heap} (x : Ext h h') (hid : List Addr) : Keep h hid h' hid := fun b o n e => ⟨x b o e, n⟩
noncomputable def Alive (hid : List Addr) (h : Heap) : Prop := ∀ b ∈ hid, ∃ o, h.get? b = some o
theorem Alive.ext {hid : List Addr} {h h' : Heap} (a : Alive hid h) (x : Ext h h') : Alive hid h' := fun b hb => let ⟨o, e⟩ := a b hb; ⟨o, x b o e⟩
theorem Alive.new {hid : List Addr} {h : Heap} (a : Alive hid h) : h.objs.size ∉ hid := fun hb => let ⟨_, e⟩ := a _ hb; Nat.lt_irrefl _ (Heap.lt_size e)
theorem lim_eq : lim = sizeLine := by rw [sizeLine_eq]; rfl
theorem strLen (s : Str) : s.length = s.cps.size := rfl

noncomputable def bopOf : BOp → Operator
  | .add => .Add | .sub => .Sub | .mul => .Mult | .fdiv => .FloorDiv | .fmod => .Mod
noncomputable def copOf : COp → CmpOp
  | .eq => .Eq | .ne => .NotEq | .lt => .Lt | .gt => .Gt | .isin => .In

section
variable {prog : Program} {w : World} {A : Around} {s : Shared} {hid : List Addr}

theorem bin_ok {op : BOp} {x y z : Dat} {vx vy : Value} (e : binD op x y = some z) (rx : Rep prog w s.heap hid vx x) (ry : Rep prog w s.heap hid vy y) (al : Alive hid s.heap) :
    Go (model prog w) A (binaryOp (bopOf op) vx vy) s fun v h' => Ext s.heap h' ∧ Rep prog w h' hid v z := by
  refine Go.of fun Q E hQ => ?_
  cases rx with
  | @int a t =>
    cases ry with
    | @int b u =>
      cases op with
      | add => cases e; exact add_int (hQ _ _ _ ⟨.refl, .int⟩)
      | sub => cases e; exact sub_int (hQ _ _ _ ⟨.refl, .int⟩)
      | mul =>
        simp only [r_mul, r_fdiv, r_fmod, r_adds, r_addl] at e
        split at e <;> cases e
        rename_i f
        unfold fitsI at f
        have f := of_decide_eq_true f
        exact PyProof.Rows.mul_int (hQ _ _ _ ⟨.refl, .int⟩) (IntMulOk.of_left (intBits_le_64 (by omega) (by omega)))
      | fdiv =>
        simp only [r_mul, r_fdiv, r_fmod, r_adds, r_addl] at e
        split at e <;> cases e
        rename_i f
        exact PyProof.Rows.floordiv_int f.1 (hQ _ _ _ ⟨.refl, .int⟩) (.inl (PyProof.noPylong_small f.2))
      | fmod =>
        simp only [r_mul, r_fdiv, r_fmod, r_adds, r_addl] at e
        split at e <;> cases e
        rename_i f
        exact mod_int' f (hQ _ _ _ ⟨.refl, .int⟩)
    | _ => cases op <;> exact nn e
  | @str a t =>
    cases ry with
    | @str b u =>
      cases op with
      | add =>
        simp only [r_mul, r_fdiv, r_fmod, r_adds, r_addl, someL_eq, append_eq] at e
        split at e <;> cases e
        rename_i f
        exact SB.add (fun t' k => hQ _ s.heap k ⟨.refl, .str⟩) (by rw [← lim_eq]; exact f)
      | _ => exact nn e
    | _ => cases op <;> exact nn e
  | @list a vs xs na la ra =>
    cases ry with
    | @list b us ys nb lb rb =>
      cases op with
      | add =>
        simp only [r_mul, r_fdiv, r_fmod, r_adds, r_addl] at e
        split at e <;> cases e
        rename_i f
        obtain ⟨⟨cls, dd, data, sl⟩, ho, hc, n, hd⟩ := id la
        obtain ⟨⟨cls2, dd2, data2, sl2⟩, ho2, hc2, n2, hd2⟩ := id lb
        simp only at hc hd hc2 hd2
        subst hc hd hc2 hd2
        have z1 : vs.size = xs.length := by simpa using ra.length
        have z2 : us.size = ys.length := by simpa using rb.length
        refine concat_meets ⟨_, ho, rfl⟩ ⟨_, ho2, rfl⟩ noFill_list_add seq_list_add PySem.F.slot_list_add PySem.F.entry_list_add (PySem.F.args_list_add_2 _ _)
          (list_addW a b vs us n n2 dd dd2 sl sl2 (by rw [← lim_eq]; omega)) ⟨ho, ho2, ?_⟩
        refine hQ _ (s.heap.push { cls := .type "list", data := .seq (vs ++ us) }) s.toks ⟨fun k o e => Heap.get?_push_of_some _ e, ?_⟩
        have k := (Ext.refl.push { cls := .type "list", data := .seq (vs ++ us) } : Ext s.heap _).keep hid
        refine .list al.new ⟨_, Heap.get?_push_size _ rfl, rfl, _, rfl⟩ ?_
        rw [Array.toList_append]
        exact (ra.keep k).append (rb.keep k)
      | _ => exact nn e
    | _ => cases op <;> exact nn e
  | _ => cases op <;> exact nn e

theorem flat_hits {A' : Around} : ∀ {b a : List (Str × Dat)} {vb va : List (Str × Value)} {r : Bool}, sameFlat b a = some r → RepD prog w s.heap hid vb b → RepD prog w s.heap hid va a → KeqHits A' s vb va r
  | b, [], _, _, r, e, _, ra => by
    cases ra; cases e; exact .nil
  | b, (k, d) :: l, vb, _, r, e, rb, ra => by
    cases ra with
    | @cons _ v _ vs _ rv rl =>
      cases rv with
      | @str x t =>
        have f := rb.find k
        simp only [sameFlat] at e
        cases g : getD b k with
        | none =>
          rw [g] at e f
          cases e
          exact .miss f
        | some y =>
          rw [g] at e f
          obtain ⟨u, hu, ru⟩ := f
          cases ru with
          | @str z t' =>
            simp only at e
            have eq : SeqAt.EqAt A' s (.str x t) (.str z t') (decide (x = z)) := fun prog' w' E Q hq =>
              (strKind prog' w').eqBool (strKind_is prog' w' x t) (strKind_is prog' w' z t') hq
            rw [sameS_eq] at e
            by_cases q : x = z
            · rw [decide_eq_true q] at e
              rw [decide_eq_true q] at eq
              have := KeqHits.hit (r := vs) hu eq (flat_hits e rb rl)
              simpa using this
            · rw [decide_eq_false q] at e
              rw [decide_eq_false q] at eq
              cases e
          | _ => simp at e
      | _ => simp [sameFlat] at e

theorem eq_ok {x y : Dat} {vx vy : Value} {r : Bool} (e : eqD x y = some r) (rx : Rep prog w s.heap hid vx x) (ry : Rep prog w s.heap hid vy y) (hu : A.units + 64 < cLine) {Q : Value → Shared → Prop} {E : Value → Shared → Prop}
    (hQ : Q (.bool r) s) : wpAny (model prog w) A (compareOp .Eq vx vy) Q E s := by
  cases rx with
  | @int a t => cases ry with
    | @int b u => cases e; exact eq_int (by simpa [Bool.beq_eq_decide_eq] using hQ)
    | _ => exact nn e
  | @str a t => cases ry with
    | @str b u => cases e; exact PyProof.Rows.eq_str (by rw [sameS_eq] at hQ; simpa [Bool.beq_eq_decide_eq] using hQ)
    | _ => exact nn e
  | @list a vs xs na la ra => cases ry with
    | @list b us ys nb lb rb =>
      cases ys with
      | cons _ _ => cases xs <;> exact nn e
      | nil =>
        have z2 : us.toList = [] := by cases h : us.toList with
          | nil => rfl
          | cons _ _ => rw [h] at rb; cases rb
        have z2' : us = #[] := by simpa using z2
        cases xs with
        | nil =>
          cases e
          have z1 : vs.toList = [] := by cases h : vs.toList with
            | nil => rfl
            | cons _ _ => rw [h] at ra; cases ra
          have z1' : vs = #[] := by simpa using z1
          subst z1' z2'
          exact ke_eq_ints (ns := []) (ms := []) la lb .nil .nil hu (by simpa using hQ)
        | cons d ds =>
          cases e
          obtain ⟨⟨cls, dd, data, sl⟩, ho, hc, n, hd⟩ := id la
          obtain ⟨⟨cls2, dd2, data2, sl2⟩, ho2, hc2, n2, hd2⟩ := id lb
          simp only at hc hd hc2 hd2
          subst hc hd hc2 hd2 z2'
          have z1 : vs.size = ds.length + 1 := by simpa using ra.length
          exact richCompare_meets_room (op := .Eq) la.typeIs lb.typeIs PySem.F.slot_list_eq PySem.F.entry_list_eq (PySem.F.args_list_eq_2 _ _)
            (SeqAt.list_eq_lengthsAt a b vs #[] n n2 dd dd2 sl sl2 (by simp [z1])) ⟨ho, ho2, by exact ⟨by simp, hQ⟩⟩ (by omega)
    | _ => cases xs <;> exact nn e
  | @dict a va xs na sa da ra => cases ry with
    | @dict b vb ys nb sb db rb =>
      simp only [r_eqs, r_eqi, r_eqd] at e
      cases q : Nat.beq xs.length ys.length with
      | true =>
        rw [q] at e
        have q := Nat.eq_of_beq_eq_true q
        refine keq_eq sa sb da db (by omega) (fun _ => flat_hits e rb ra) ?_
        have : (va.length == vb.length) = true := by rw [ra.length, rb.length, q]; simp
        rw [this]; simpa using hQ
      | false =>
        rw [q] at e
        have q := Nat.ne_of_beq_eq_false q
        cases e
        refine keq_eq (r := false) sa sb da db (by omega) (fun z => absurd (by rw [← ra.length, ← rb.length]; exact z) q) ?_
        simpa using hQ
    | _ => exact nn e
  | _ => exact nn e
theorem ne_ok {x y : Dat} {vx vy : Value} {r : Bool} (e : eqD x y = some r) (rx : Rep prog w s.heap hid vx x) (ry : Rep prog w s.heap hid vy y) (hu : A.units + 64 < cLine) {Q : Value → Shared → Prop} {E : Value → Shared → Prop}
    (hQ : Q (.bool (!r)) s) : wpAny (model prog w) A (compareOp .NotEq vx vy) Q E s := by
  cases rx with
  | @int a t => cases ry with
    | @int b u => cases e; exact ne_int (by simpa [bne, Bool.beq_eq_decide_eq] using hQ)
    | _ => exact nn e
  | @str a t => cases ry with
    | @str b u => cases e; exact PyProof.Rows.ne_str (by rw [sameS_eq] at hQ; simpa [bne, Bool.beq_eq_decide_eq] using hQ)
    | _ => exact nn e
  | @list a vs xs na la ra => cases ry with
    | @list b us ys nb lb rb =>
      cases ys with
      | cons _ _ => cases xs <;> exact nn e
      | nil =>
        have z2 : us.toList = [] := by cases h : us.toList with
          | nil => rfl
          | cons _ _ => rw [h] at rb; cases rb
        have z2' : us = #[] := by simpa using z2
        cases xs with
        | nil =>
          cases e
          have z1 : vs.toList = [] := by cases h : vs.toList with
            | nil => rfl
            | cons _ _ => rw [h] at ra; cases ra
          have z1' : vs = #[] := by simpa using z1
          subst z1' z2'
          exact ke_ne_ints (ns := []) (ms := []) la lb .nil .nil hu (by simpa using hQ)
        | cons d ds =>
          cases e
          obtain ⟨⟨cls, dd, data, sl⟩, ho, hc, n, hd⟩ := id la
          obtain ⟨⟨cls2, dd2, data2, sl2⟩, ho2, hc2, n2, hd2⟩ := id lb
          simp only at hc hd hc2 hd2
          subst hc hd hc2 hd2 z2'
          have z1 : vs.size = ds.length + 1 := by simpa using ra.length
          exact richCompare_meets_room (op := .NotEq) la.typeIs lb.typeIs PySem.F.slot_list_ne PySem.F.entry_list_ne (PySem.F.args_list_ne_2 _ _)
            (SeqAt.list_ne_lengthsAt a b vs #[] n n2 dd dd2 sl sl2 (by simp [z1])) ⟨ho, ho2, by exact ⟨by simp, hQ⟩⟩ (by omega)
    | _ => cases xs <;> exact nn e
  | @dict a va xs na sa da ra => cases ry with
    | @dict b vb ys nb sb db rb =>
      simp only [r_eqs, r_eqi, r_eqd] at e
      cases q : Nat.beq xs.length ys.length with
      | true =>
        rw [q] at e
        have q := Nat.eq_of_beq_eq_true q
        refine keq_ne sa sb da db (by omega) (fun _ => flat_hits e rb ra) ?_
        have : (va.length == vb.length) = true := by rw [ra.length, rb.length, q]; simp
        rw [this]; simpa using hQ
      | false =>
        rw [q] at e
        have q := Nat.ne_of_beq_eq_false q
        cases e
        refine keq_ne (r := false) sa sb da db (by omega) (fun z => absurd (by rw [← ra.length, ← rb.length]; exact z) q) ?_
        simpa using hQ
    | _ => exact nn e
  | _ => exact nn e

theorem mapOf_dictOf {a : Addr} {kvs : List (Str × Value)} {h : Heap} (d : h.DictOf (strKind prog w) a kvs) : h.MapOf (strKind prog w) a (valueAt kvs) := d.mapOf
theorem cmp_ok {op : COp} {x y : Dat} {vx vy : Value} {r : Bool} (e : cmpD op x y = some r) (rx : Rep prog w s.heap hid vx x) (ry : Rep prog w s.heap hid vy y) (hu : A.units + 64 < cLine) :
    Go (model prog w) A (compareOp (copOf op) vx vy) s fun v h' => h' = s.heap ∧ v = .bool r := by
  refine Go.of fun Q E hQ => ?_
  cases op with
  | eq => exact eq_ok e rx ry hu (hQ _ _ s.toks ⟨rfl, rfl⟩)
  | ne =>
    simp only [r_ne, r_eq, r_lt, r_gt, r_isin, Option.map_eq_some_iff] at e
    obtain ⟨r', e, rfl⟩ := e
    exact ne_ok e rx ry hu (hQ _ _ s.toks ⟨rfl, rfl⟩)
  | lt =>
    cases rx <;> try (exact nn e)
    cases ry <;> try (exact nn e)
    cases e
    exact lt_int (hQ _ _ s.toks ⟨rfl, rfl⟩)
  | gt =>
    cases rx <;> try (exact nn e)
    cases ry <;> try (exact nn e)
    cases e
    exact gt_int (hQ _ _ s.toks ⟨rfl, rfl⟩)
  | isin =>
    cases rx <;> try (exact nn e)
    cases ry <;> try (exact nn e)
    rename_i k t a va kvs na sa da ra
    cases e
    refine wpAny_in_of (strKind_is prog w k t) sa (mapOf_dictOf da) (hQ _ _ _ ⟨rfl, ?_⟩)
    have f := ra.find k
    cases g : getD kvs k with
    | none => rw [g] at f; simp only at f; rw [f]; rfl
    | some d => rw [g] at f; obtain ⟨y, hy, _⟩ := f; rw [hy]; rfl
end
end Mine
end

section
open PySem PySem.W PyProof.Rows
set_option Elab.async false
set_option maxRecDepth 10000
namespace Mine

section
variable {prog : Program} {w : World} {A : Around} {s : Shared} {hid : List Addr}

theorem idx_ok {x y z : Dat} {vx vy : Value} {value slice : PySem.Expr} (e : idxD x y = some z) (rx : Rep prog w s.heap hid vx x) (ry : Rep prog w s.heap hid vy y)
    (hs : ∀ o i, subscripted slice false o i = operate [o, i] (getItem o i)) :
    Go (model prog w) A (subscriptTail value slice vx vy) s fun v h' => h' = s.heap ∧ Rep prog w h' hid v z := by
  refine Go.of fun Q E hQ => ?_
  have hl : (lim : Int) = 16777216 := rfl
  cases rx with
  | @list a vs xs na la ra =>
    cases ry with
    | @int i t =>
      simp only [r_idxl, r_idxt, r_idxs, r_idxd] at e
      split at e
      · rename_i f
        obtain ⟨v, hv, rv⟩ := ra.get e
        exact tail_any la.typeIs slot_list_getitem.lookup (wpAny_getItem_list la f.1 (by omega) (by simpa using hv) (hQ v s.heap s.toks ⟨rfl, rv⟩)) (hs _ _)
      · cases e
    | _ => exact nn e
  | @tup a vs xs na la ra =>
    cases ry with
    | @int i t =>
      simp only [r_idxl, r_idxt, r_idxs, r_idxd] at e
      split at e
      · rename_i f
        obtain ⟨v, hv, rv⟩ := ra.get e
        have hlt : i.toNat < vs.size := by
          have := List.getElem?_eq_some_iff.mp hv
          obtain ⟨q, _⟩ := this; simpa using q
        refine tail_any la.typeIs slot_tuple_getitem.lookup (PyProof.Rows.getItem_tuple la (j := i.toNat) (by omega) (by omega) ?_ (by simpa using hv) (hQ v s.heap s.toks ⟨rfl, rv⟩)) (hs _ _)
        unfold seqIndex?
        have h1 : ¬ i < 0 := by omega
        simp only [h1, if_false]
        have h2 : ¬ (i < 0 ∨ (vs.size : Int) ≤ i) := by omega
        simp <;> omega
      · cases e
    | _ => exact nn e
  | @str x t =>
    cases ry with
    | @int i u =>
      simp only [r_idxl, r_idxt, r_idxs, r_idxd] at e
      split at e
      · rename_i f
        rw [Option.map_eq_some_iff] at e
        obtain ⟨c, hc, rfl⟩ := e
        have hlt : i.toNat < x.cps.size := by
          obtain ⟨q, _⟩ := Array.getElem?_eq_some_iff.mp hc; exact q
        have hi : seqIndex? i x.length = some i.toNat := by
          unfold seqIndex?
          have h1 : ¬ i < 0 := by omega
          simp only [h1, if_false]
          have : x.length = x.cps.size := rfl
          rw [this]
          simp <;> omega
        have hat : Txt.charAt x i = some c := by unfold Txt.charAt; rw [hi]; exact hc
        refine tail_any (typeIs_str s x t) PySem.F.slot_str_getitem.lookup (SB.getItem ?_ (by rw [hat]; rfl) ?_) (hs _ _)
        · unfold fitsSsize
          have h1 : ¬ i < -(2 ^ 63 : Int) := by omega
          have h2 : ¬ i ≥ (2 ^ 63 : Int) := by omega
          rw [decide_eq_false h1, decide_eq_false h2]; rfl
        · have : Txt.item x i = ⟨#[c]⟩ := by unfold Txt.item; rw [hat]; rfl
          rw [this]
          exact hQ _ s.heap (s.toks + 1) ⟨rfl, .str⟩
      · cases e
    | _ => exact nn e
  | @dict a va kvs na sa da ra =>
    cases ry with
    | @str k t =>
      simp only [r_idxl, r_idxt, r_idxs, r_idxd] at e
      have f := ra.find k
      rw [e] at f
      obtain ⟨v, hv, rv⟩ := f
      exact tail_any da.typeIs slot_dict_getitem.lookup (wpAny_getItem_of (strKind_is prog w k t) da.mapOf hv (hQ v s.heap (s.toks + 1) ⟨rfl, rv⟩)) (hs _ _)
    | _ => exact nn e
  | _ => exact nn e

/-- a bound of a slice -/
noncomputable def partOf : Option Dat → Value → Prop
  | .none, v => v = .none
  | some (.int i), v => ∃ t, v = .int i t
  | _, _ => False
theorem partVal {d : Option Dat} {v : Value} {o : Option Int} (p : partOf d v) (e : intO d = some o) : ∃ q : Option (Int × Tok), v = partValue q ∧ q.map (·.1) = o ∧ IsPart v o ∧ (∀ i, o = some i → -(lim : Int) < i ∧ i < lim) := by
  cases d with
  | none => cases e; cases p; exact ⟨.none, rfl, rfl, .none, fun _ q => nomatch q⟩
  | some d =>
    cases d with
    | int i =>
      obtain ⟨t, rfl⟩ := p
      simp only [r_intO] at e
      split at e
      · rename_i f
        cases e
        exact ⟨some (i, t), rfl, rfl, .int i t, fun _ q => by cases q; exact f⟩
      · cases e
    | _ => exact p.elim
theorem slice_ok {x z : Dat} {l u : Option Dat} {lo hi : Option Int} {vx vl vu : Value} {value : PySem.Expr} {low up : Option PySem.Expr} {p : Pos} (e : sliceD x lo hi = some z) (el : intO l = some lo) (eu : intO u = some hi)
    (rx : Rep prog w s.heap hid vx x) (pl : partOf l vl) (pu : partOf u vu) (al : Alive hid s.heap) :
    Go (model prog w) A (subscriptTail value (.Slice low up .none p) vx (.ref s.heap.objs.size)) { s with heap := s.heap.push { cls := .type "slice", data := .fields #[vl, vu, .none] } }
      fun v h' => Ext s.heap h' ∧ Rep prog w h' hid v z := by
  refine Go.of fun Q E hQ => ?_
  obtain ⟨ql, rfl, rfl, il, bl⟩ := partVal pl el
  obtain ⟨qu, rfl, rfl, iu, bu⟩ := partVal pu eu
  have hs : subscripted (.Slice low up .none p) false vx (.ref s.heap.objs.size) = operate [.ref s.heap.objs.size, vx] (getItem vx (.ref s.heap.objs.size)) := rfl
  have k1 : Ext s.heap (s.heap.push { cls := .type "slice", data := .fields #[partValue ql, partValue qu, .none] }) := Ext.refl.push _
  cases rx with
  | @str x t =>
    simp only [r_sls, r_sll] at e
    split at e
    · rename_i f
      cases e
      have hx : x.length ≤ sizeLine := by rw [← lim_eq]; exact f
      refine tail_any (typeIs_str _ x t) PySem.F.slot_str_getitem.lookup (wpAny_getItem_str_slice (l := ql) (u := qu) (st := none) ⟨_, Heap.get?_push_size _ rfl, rfl, rfl⟩ rfl ?_) hs
      exact post_val_or_str ⟨Nat.le_trans (Txt.slice_le x _ _) hx, fun t' k => hQ _ _ k ⟨k1, .str⟩⟩
    · cases e
  | @list a vs xs na la ra =>
    cases ql with
    | none => exact nn e
    | some ql =>
      cases qu with
      | none => exact nn e
      | some qu =>
        simp only [Option.map_some, r_sls, r_sll] at e
        split at e
        · rename_i f
          cases e
          have hz : vs.size = xs.length := by simpa using ra.length
          have hsz : vs.size ≤ sizeLine := by rw [← lim_eq]; omega
          have la' : (s.heap.push { cls := .type "slice", data := .fields #[partValue (some ql), partValue (some qu), .none] }).IsList a vs := la.push _
          refine tail_any la'.typeIs slot_list_getitem.lookup (wpAny_getItem_list_slice la' (Heap.IsSliceOf.new ..) il iu .none (by simp) ?_ hsz) hs
          refine hQ _ _ s.toks ⟨k1.push _, .list (fun hb => ?_) ⟨_, Heap.get?_push_size _ rfl, rfl, _, rfl⟩ ?_⟩
          · obtain ⟨o, ho⟩ := (al.ext k1) _ hb
            exact Nat.lt_irrefl _ (Heap.lt_size ho)
          · rw [slicePick_plain]
            show RepL _ _ _ _ (((vs.toList.drop _).take _)) _
            have c1 : ((clipAt vs.size ql.1 : Nat) : Int) = min ql.1 vs.size := by rw [clipAt_cast, if_neg (by omega)]; omega
            have c2 : ((clipAt vs.size qu.1 : Nat) : Int) = min qu.1 vs.size := by rw [clipAt_cast, if_neg (by omega)]; omega
            have key : ((vs.toList.drop (clipAt vs.size ql.1)).take (clipAt vs.size qu.1 - clipAt vs.size ql.1)) = (vs.toList.drop ql.1.toNat).take (qu.1.toNat - ql.1.toNat) := by
              by_cases h1 : ql.1 ≤ vs.size
              · have e1 : clipAt vs.size ql.1 = ql.1.toNat := by omega
                rw [e1]
                by_cases h2 : qu.1 ≤ vs.size
                · have e2 : clipAt vs.size qu.1 = qu.1.toNat := by omega
                  rw [e2]
                · have e2 : clipAt vs.size qu.1 = vs.size := by omega
                  rw [e2, List.take_of_length_le (by simp), List.take_of_length_le (by simp; omega)]
              · have e1 : clipAt vs.size ql.1 = vs.size := by omega
                rw [e1, List.drop_of_length_le (by simp), List.drop_of_length_le (by simp; omega)]
                simp
            show RepL _ _ _ _ ((vs.toList.drop (clipAt vs.size ql.1)).take (clipAt vs.size qu.1 - clipAt vs.size ql.1)) _
            rw [key]
            exact ((ra.keep (k1.push _ |>.keep hid)).drop _).take _
        · cases e
  | _ => exact nn e

theorem made_strs {toks : Tok} {ys : List Str} : StrsAre (strsFrom toks ys) ys := by
  induction ys generalizing toks with
  | nil => exact .nil
  | cons y r ih => exact .cons y toks ih
theorem new_strs {vs : List Value} {ys : List Str} (r : StrsAre vs ys) (al : Alive hid s.heap) :
    Ext s.heap (s.heap.push { cls := .type "list", data := .seq vs.toArray }) ∧ Rep prog w (s.heap.push { cls := .type "list", data := .seq vs.toArray }) hid (.ref s.heap.objs.size) (.list (ys.map .str)) :=
  ⟨Ext.refl.push _, .list al.new ⟨_, Heap.get?_push_size _ rfl, rfl, _, rfl⟩ (RepL.of_strs r)⟩
theorem words_size {x : Str} (h : (Txt.words x).length ≤ sizeLine) : (Builtin.Str.spaceWords x (x.length + 1)).length ≤ sizeLine := by
  unfold Txt.words at h
  split at h
  · rename_i q
    have q : Builtin.Str.spaceWords x (x.length + 1) = [(0, x.length)] := by simpa using q
    rw [q]; rw [sizeLine_eq]; simp
  · unfold PySem.wordsOf at h; simpa using h
theorem split0_ok {x : Str} {t : Tok} (h1 : x.length ≤ sizeLine) (h2 : (Txt.words x).length ≤ sizeLine) (al : Alive hid s.heap) :
    Go (model prog w) A (call (.builtin "str.split") [.str x t]) s fun v h' => Ext s.heap h' ∧ Rep prog w h' hid v (.list ((Txt.words x).map .str)) := by
  refine Go.of fun Q E hQ => ?_
  refine call_meets PySem.F.slot_str_split (typeIs_str _ _ _) PySem.F.entry_str_split (PySem.F.args_str_split_1 _) (meets_str_split_space x t h1 (words_size h2)) ?_
  unfold Txt.words at hQ
  split
  · rename_i q
    rw [if_pos q] at hQ
    exact hQ _ _ s.toks (new_strs (StrsAre.cons x t .nil) al)
  · rename_i q
    rw [if_neg q] at hQ
    exact hQ _ _ _ (new_strs made_strs al)
theorem split1_ok {x y : Str} {t u : Tok} (h1 : x.length ≤ sizeLine) (hy : y.length ≠ 0) (h2 : (Txt.split x y).length ≤ sizeLine) (al : Alive hid s.heap) :
    Go (model prog w) A (call (.builtin "str.split") [.str x t, .str y u]) s fun v h' => Ext s.heap h' ∧ Rep prog w h' hid v (.list ((Txt.split x y).map .str)) := by
  refine Go.of fun Q E hQ => ?_
  have hy' : (y.length == 0) = false := by simpa using hy
  unfold Txt.split at hQ h2
  cases c1 : (decide (x.length < y.length) || decide (Builtin.Str.strKind x < Builtin.Str.strKind y)) with
  | true =>
    rw [if_pos c1] at hQ
    exact call_meets PySem.F.slot_str_split (typeIs_str _ _ _) PySem.F.entry_str_split (PySem.F.args_str_split_2 _ _) (meets_str_split_cannot_occur x y t u c1)
      (hQ _ _ s.toks (new_strs (StrsAre.cons x t .nil) al))
  | false =>
    rw [if_neg (by rw [c1]; exact Bool.false_ne_true)] at hQ h2
    cases c2 : (Builtin.Str.occurrences x y 0 x.length (x.length + 1)).isEmpty with
    | true =>
      rw [if_pos c2] at hQ
      exact call_meets PySem.F.slot_str_split (typeIs_str _ _ _) PySem.F.entry_str_split (PySem.F.args_str_split_2 _ _) (meets_str_split_not_found x y t u c1 hy' c2)
        (hQ _ _ s.toks (new_strs (StrsAre.cons x t .nil) al))
    | false =>
      rw [if_neg (by rw [c2]; exact Bool.false_ne_true)] at hQ h2
      exact call_meets PySem.F.slot_str_split (typeIs_str _ _ _) PySem.F.entry_str_split (PySem.F.args_str_split_2 _ _) (meets_str_split_sep x y t u c1 hy' c2 h1 h2)
        (hQ _ _ _ (new_strs made_strs al))

theorem fit_of {n : Nat} (h : n ≤ sizeLine) : Builtin.Str.tooLong n = false := by
  unfold Builtin.Str.tooLong
  exact decide_eq_false (by omega)
theorem strsD_map : ∀ {xs : List Dat} {l : List Str}, strsD xs = some l → xs = l.map .str
  | [], _, h => by cases h; rfl
  | x :: r, l, h => by
    cases x with
    | str q =>
      simp only [strsD, Option.map_eq_some_iff] at h
      obtain ⟨l', h', rfl⟩ := h
      rw [strsD_map h']; rfl
    | _ => simp [strsD] at h

noncomputable def fnOf' : F1 → Value
  | .ord => .builtin "ord" | .chr => .builtin "chr" | .len => .builtin "len" | .max => .builtin "max" | .list => .type "list"
theorem maxD_spec : ∀ {xs : List Dat} {m : Int}, maxD xs = some m → ∃ ns : List Int, xs = ns.map .int ∧ ns ≠ [] ∧ m ∈ ns ∧ ∀ n ∈ ns, n ≤ m
  | [], _, h => by simp [maxD] at h
  | [x], m, h => by
    cases x <;> simp [maxD] at h
    subst h
    exact ⟨[_], rfl, by simp, by simp, by simp⟩
  | x :: y :: r, m, h => by
    cases x with
    | int i =>
      have h' : ((maxD (y :: r)).map (max i ·)) = some m := by simpa [maxD] using h
      rw [Option.map_eq_some_iff] at h'
      obtain ⟨m', h', rfl⟩ := h'
      obtain ⟨ns, e, hn, hm, hle⟩ := maxD_spec h'
      refine ⟨i :: ns, by rw [e]; rfl, by simp, ?_, ?_⟩
      · by_cases c : i ≤ m'
        · rw [Int.max_eq_right c]; exact .tail _ hm
        · rw [Int.max_eq_left (by omega)]; exact .head _
      · intro n hn
        rcases List.mem_cons.mp hn with rfl | hn
        · omega
        · have := hle n hn; omega
    | _ => simp [maxD] at h
theorem ints_rep {vs : List Value} {ns : List Int} (r : RepL prog w s.heap hid vs (ns.map .int)) : IntsAre vs ns := by
  induction ns generalizing vs with
  | nil => cases r; exact .nil
  | cons x l ih => cases r with
    | cons a b => cases a; exact .cons _ _ (ih b)
theorem fn_ok {f : F1} {x z : Dat} {vx : Value} (e : fnD f x = some z) (rx : Rep prog w s.heap hid vx x) (al : Alive hid s.heap) (hh : A.handled = none) :
    Go (model prog w) A (call (fnOf' f) [vx]) s fun v h' => Ext s.heap h' ∧ Rep prog w h' hid v z := by
  refine Go.of fun Q E hQ => ?_
  have h63 : (lim : Int) < 2 ^ 63 := by decide
  cases rx with
  | @str x t =>
    cases f with
    | ord =>
      simp only [r_ord, r_chr, r_lens, r_lenl, r_max, r_flist] at e
      split at e <;> cases e
      rename_i q
      exact ord_of_one q (hQ _ _ _ ⟨.refl, .int⟩)
    | len =>
      simp only [r_ord, r_chr, r_lens, r_lenl, r_max, r_flist] at e
      split at e <;> cases e
      rename_i q
      exact PyProof.Rows.len_str (by have : x.length = x.cps.size := rfl; omega) (hQ _ _ _ ⟨.refl, .int⟩)
    | _ => exact nn e
  | @int i t =>
    cases f with
    | chr =>
      simp only [r_ord, r_chr, r_lens, r_lenl, r_max, r_flist] at e
      split at e <;> cases e
      rename_i q
      exact chr_of_range q.1 q.2 (hQ _ _ _ ⟨.refl, .str⟩)
    | _ => exact nn e
  | @list a vs xs na la ra =>
    have hz : vs.size = xs.length := by simpa using ra.length
    cases f with
    | len =>
      simp only [r_ord, r_chr, r_lens, r_lenl, r_max, r_flist] at e
      split at e <;> cases e
      rename_i q
      refine PyProof.Rows.len_list la (by omega) ?_
      rw [hz]
      exact hQ _ _ _ ⟨.refl, .int⟩
    | max =>
      simp only [r_ord, r_chr, r_lens, r_lenl, r_max, r_flist] at e
      split at e
      · rename_i q
        rw [Option.map_eq_some_iff] at e
        obtain ⟨m, hm, rfl⟩ := e
        obtain ⟨ns, rfl, hne, hmem, hle⟩ := maxD_spec hm
        have hi := ints_rep ra
        obtain ⟨its, ei⟩ := hi.allInts.items
        have hns : ns = its.toList.map (·.1) := by rw [← hi.numsOf, ← nums_intItems, ← ei]
        have hsz : 0 < its.size := by
          have := List.length_pos_iff.mpr hne
          rw [hns] at this; simpa using this
        have la' : s.heap.IsList a (intItems its) := by rw [← ei]; simpa using la
        refine max_intList hh la' hsz fun v h' tk hv hk => ?_
        obtain ⟨t, rfl⟩ := intItems_at hv
        obtain ⟨g1, g2⟩ := argBest_gt (numAt its) (its.size - 1)
        have : numAt its (argBest (fun i j => decide (numAt its i > numAt its j)) (its.size - 1)) = m := by
          apply Int.le_antisymm
          · apply hle
            have g1' : argBest (fun i j => decide (numAt its i > numAt its j)) (its.size - 1) ≤ its.size - 1 := g1
            rw [hns, numAt_eq]; exact getD_mem (by simp only [List.length_map, Array.length_toList]; omega)
          · have hmem' : m ∈ its.toList.map (·.1) := hns ▸ hmem
            obtain ⟨j, hj, e⟩ := mem_getD hmem'
            rw [← e, ← numAt_eq]
            exact g2 j (by simp at hj; omega)
        rw [this]
        exact hQ _ _ _ ⟨hk, .int⟩
      · cases e
    | _ => exact nn e
  | @dict a va kvs na sa da ra =>
    cases f with
    | list =>
      simp only [r_ord, r_chr, r_lens, r_lenl, r_max, r_flist] at e
      split at e <;> cases e
      rename_i q
      obtain ⟨o, es, ep, ho, hr⟩ := id da
      have dat : s.heap.DictAt (strKind prog w) a va ep := ⟨o, es, ho, hr⟩
      refine kdl_call (kdl_dict sa) hh dat (by rw [ra.length, ← lim_eq]; exact q) fun h' tk acc c hk hD hacc => ?_
      refine hQ _ _ _ ⟨hk, .list al.new ⟨_, hD, rfl, _, rfl⟩ (RepL.of_strs (l := kvs.map (·.1)) ?_ |> fun z => by simpa [List.map_map, Function.comp_def] using z)⟩
      have key : ∀ (vs : List Value) (ka : List (Str × Value)), vs.length = ka.length → (∀ (j : Nat) (v : Value), vs[j]? = some v → ∃ (k : Str) (x : Value), ka[j]? = some (k, x) ∧ (strKind prog w).is k v = true) → StrsAre vs (ka.map (·.1)) := by
        intro vs
        induction vs with
        | nil => intro ka hl _; cases ka with
          | nil => exact .nil
          | cons _ _ => simp at hl
        | cons v vs ih =>
          intro ka hl hj
          cases ka with
          | nil => simp at hl
          | cons p ka =>
            obtain ⟨k, x, e1, e2⟩ := hj 0 v rfl
            simp at e1
            subst e1
            have : ∃ t, v = .str k t := by
              have e2' : Value.isStrOf k v = true := e2
              cases v <;> simp [Value.isStrOf] at e2'
              subst e2'; exact ⟨_, rfl⟩
            obtain ⟨t, rfl⟩ := this
            exact .cons k t (ih ka (by simpa using hl) fun j v hv => by simpa using hj (j + 1) v (by simpa using hv))
      rw [← ra.keys]
      exact key acc.toList va (by simpa using hacc.1) fun j v hv => hacc.2 j v (by simpa using hv)
    | _ => exact nn e
  | _ => cases f <;> exact nn e

/-! methods -/
noncomputable def m0Name : M0 → Str
  | .split => "split" | .lower => "lower" | .swapcase => "swapcase"
noncomputable def m1Name : M1 → Str
  | .split => "split" | .join => "join" | .startswith => "startswith"
noncomputable def m2Name : M2 → Str
  | .replace => "replace" | .get => "get"
/-- a method got and called with the values of its arguments -/
noncomputable def Meth (M : Model) (A : Around) (ov : Value) (name : Str) (s : Shared) (vs : List Value) (P : Value → Heap → Prop) : Prop :=
  ∃ id : String, (∀ (pl : Sem Bool) (s' : Shared) (Q : Value × List Value → Shared → Prop) (E : Value → Shared → Prop), Ext s.heap s'.heap → Q (.builtin id, [ov]) s' → wpAny M A (getMethod ov name pl) Q E s') ∧
    Go M A (call (.builtin id) (ov :: vs)) s P

theorem m0_ok {m : M0} {x z : Dat} {vx : Value} (e : m0D m x = some z) (rx : Rep prog w s.heap hid vx x) (al : Alive hid s.heap) :
    Meth (model prog w) A vx (m0Name m) s [] fun v h' => Ext s.heap h' ∧ Rep prog w h' hid v z := by
  cases rx with
  | @str x t =>
    cases m with
    | split =>
      simp only [r_words, r_lower, r_swap, someS_eq, someSs_eq] at e
      split at e <;> cases e
      rename_i q
      rw [← words_eq]
      have ql : x.cps.size + 2 ≤ sizeLine := by rw [← lim_eq]; exact q
      have hw := words_few x
      exact ⟨"str.split", fun _ _ _ _ _ hq => GM.split hq, split0_ok (by rw [strLen]; omega) (by omega) al⟩
    | lower =>
      simp only [r_words, r_lower, r_swap, someL_eq] at e
      split at e
      rotate_left
      · cases e
      rename_i ha
      rw [lower_eq ha] at e
      split at e <;> cases e
      rename_i q
      exact ⟨"str.lower", fun _ _ _ _ _ hq => GM.lower hq, Go.of fun Q E hQ => SC.lower (fit_lower q) (hQ _ _ _ ⟨.refl, .str⟩)⟩
    | swapcase =>
      simp only [r_words, r_lower, r_swap, someS_eq, someSs_eq] at e
      split at e <;> cases e
      rename_i q
      exact ⟨"str.swapcase", fun _ _ _ _ _ hq => GM.swapcase hq, Go.of fun Q E hQ => SC.swapcase (fit_swapcase q) (hQ _ _ _ ⟨.refl, .str⟩)⟩
  | _ => cases m <;> exact nn e
theorem m1_ok {m : M1} {x y z : Dat} {vx vy : Value} (e : m1D m x y = some z) (rx : Rep prog w s.heap hid vx x) (ry : Rep prog w s.heap hid vy y) (al : Alive hid s.heap) :
    Go (model prog w) A (call (.builtin (match m with | .split => "str.split" | .join => "str.join" | .startswith => "str.startswith")) [vx, vy]) s fun v h' => Ext s.heap h' ∧ Rep prog w h' hid v z := by
  cases rx with
  | @str x t =>
    cases m with
    | split =>
      cases ry with
      | @str y u =>
        simp only [r_split, r_join, r_sw, someL_eq, join_eq, someSs_eq] at e
        split at e
        rotate_left
        · cases e
        rename_i k hk
        split at e <;> cases e
        rename_i q
        have hy : y = ⟨#[k]⟩ := by
          unfold oneOf at hk
          split at hk
          · rename_i k' hk'
            cases hk
            exact Str.ext' (Array.toList_inj.mp (by simpa using hk'))
          · cases hk
        subst hy
        have ql : x.cps.size + 2 ≤ sizeLine := by rw [← lim_eq]; exact q
        have hw := split_few x ⟨#[k]⟩
        have g := split1_ok (prog := prog) (w := w) (A := A) (t := t) (u := u) (x := x) (y := ⟨#[k]⟩) (by rw [strLen]; omega) (by show 1 ≠ 0; decide) (by omega) al
        rw [split_eq] at g
        exact g
      | _ => exact nn e
    | join =>
      cases ry with
      | @list a vs xs na la ra =>
        simp only [r_split, r_join, r_sw, someL_eq, join_eq, someSs_eq] at e
        cases hs : strsD xs with
        | none => rw [hs] at e; cases e
        | some l =>
          rw [hs] at e
          simp only at e
          split at e <;> cases e
          rename_i q
          have := strsD_map hs
          subst this
          exact Go.of fun Q E hQ => join_list la ra.strs (by simpa [lim] using q) fun t' k => hQ _ s.heap k ⟨.refl, .str⟩
      | _ => exact nn e
    | startswith =>
      cases ry with
      | @str y u =>
        simp only [r_split, r_join, r_sw, someL_eq, join_eq, someSs_eq] at e
        cases e
        exact Go.of fun Q E hQ => SC.startswith (hQ _ s.heap s.toks ⟨.refl, .bool⟩)
      | _ => exact nn e
  | _ => cases m <;> exact nn e
theorem m1_get {m : M1} {x y z : Dat} {vx : Value} {h : Heap} (e : m1D m x y = some z) (rx : Rep prog w h hid vx x) (pl : Sem Bool) (s' : Shared) (Q : Value × List Value → Shared → Prop) (E : Value → Shared → Prop)
    (hq : Q (.builtin (match m with | .split => "str.split" | .join => "str.join" | .startswith => "str.startswith"), [vx]) s') : wpAny (model prog w) A (getMethod vx (m1Name m) pl) Q E s' := by
  cases rx with
  | @str x t => cases m with
    | split => exact GM.split hq
    | join => exact GM.join hq
    | startswith => exact GM.startswith hq
  | _ => cases m <;> exact nn e
theorem get_get {kvs : List (Str × Dat)} {vx : Value} {h : Heap} {s' : Shared} (rx : Rep prog w h hid vx (.dict kvs)) (x : Ext h s'.heap) (pl : Sem Bool) (Q : Value × List Value → Shared → Prop) (E : Value → Shared → Prop)
    (hq : Q (.builtin "dict.get", [vx]) s') : wpAny (model prog w) A (getMethod vx "get" pl) Q E s' := by
  cases rx with
  | @dict a va kvs na sa da ra =>
    have da' : s'.heap.DictOf (strKind prog w) a va := dictOf_at da fun o e => x a o e
    exact getMethod_builtin da'.typeIs PySem.F.plainAttrs_dict PySem.F.slot_dict_get PySem.F.type_dict_get da'.mapOf.noDict hq
theorem get_ok {kvs : List (Str × Dat)} {k : Str} {d z : Dat} {vx vy vz : Value} (e : m2D .get (.dict kvs) (.str k) d = some z) (rx : Rep prog w s.heap hid vx (.dict kvs)) (ry : Rep prog w s.heap hid vy (.str k)) (rz : Rep prog w s.heap hid vz d) :
    Go (model prog w) A (call (.builtin "dict.get") [vx, vy, vz]) s fun v h' => h' = s.heap ∧ Rep prog w h' hid v z := by
  cases rx with
  | @dict a va kvs na sa da ra =>
    cases ry with
    | @str k t =>
      refine Go.of fun Q E hQ => ?_
      refine call_meetsIn PySem.F.slot_dict_get da.typeIs PySem.F.entry_dict_get (PySem.F.args_dict_get_3 _ _ _) (meets_dict_get_default (strKind prog w) a (strKind_is prog w k t) sa vz) ⟨_, da.mapOf, ?_⟩
      have f := ra.find k
      simp only [r_rep, r_get] at e
      cases g : getD kvs k with
      | none =>
        rw [g] at f e
        cases e
        rw [f]
        exact hQ _ s.heap _ ⟨rfl, rz⟩
      | some y =>
        rw [g] at f e
        cases e
        obtain ⟨u, hu, ru⟩ := f
        rw [hu]
        exact hQ _ s.heap _ ⟨rfl, ru⟩
end
end Mine
end

section
open PySem PySem.W PyProof.Rows
set_option Elab.async false
set_option maxRecDepth 10000
namespace Mine

/-! an iterator that walks over data -/
structure Wk (prog : Program) (w : World) (I : Addr) (wr fp : List Addr) (n : Nat) (P : Nat → Value → Prop) (St : Nat → Heap → Prop) : Prop where
  walks : ∀ A : Around, A.handled = none → Walks prog w A I fp wr n P St
  live : ∀ i h, St i h → ∀ b ∈ fp, ∃ o, h.get? b = some o
  own : ∀ i T h, P i (.ref T) → St (i + 1) h → ∃ l k, h.IsListIter I l k

/-- an iterator stands ready over the data -/
noncomputable def Ready (prog : Program) (w : World) (hidA : List Addr) (h₀ : Heap) (items : List Dat) (it : Value) (h : Heap) : Prop :=
  ∃ I wr fp P St, it = .ref I ∧ Wk prog w I wr fp items.length P St ∧ Ext h₀ h ∧ St 0 h ∧ (∀ b ∈ fp, b ∉ hidA) ∧ (∀ b ∈ wr, h₀.get? b = none) ∧
    (∀ i v, P i v → ∃ d, items[i]? = some d ∧ Rep prog w h₀ hidA v d) ∧ items.length ≤ lim ∧ (∀ b ∈ fp, b ∈ wr ∨ ∃ o, h₀.get? b = some o)

section
variable {prog : Program} {w : World} {A : Around} {s : Shared} {hid : List Addr}
theorem none_of_size {h : Heap} : h.get? h.objs.size = none := by
  cases e : h.get? h.objs.size with
  | none => rfl
  | some o => exact absurd (Heap.lt_size e) (Nat.lt_irrefl _)
theorem iter_ok {d : Dat} {items : List Dat} {v : Value} (e : itemsD d = some items) (r : Rep prog w s.heap hid v d) (al : Alive hid s.heap) :
    Go (model prog w) A (pyIter v) s fun it h' => Ready prog w hid s.heap items it h' := by
  refine Go.of fun Q E hQ => ?_
  have one : ∀ b ∈ [s.heap.objs.size], b ∉ hid := fun b hb => by
    rw [List.mem_singleton.mp hb]; exact al.new
  have new : ∀ b ∈ [s.heap.objs.size], s.heap.get? b = none := fun b hb => by
    rw [List.mem_singleton.mp hb]; exact none_of_size
  cases r with
  | @list a vs xs na l r =>
    simp only [r_itl, r_its, r_itd] at e
    split at e
    rotate_left
    · cases e
    have := Option.some.inj e
    subst this
    rename_i q
    refine wpAny_pyIter_list l (hQ _ _ s.toks ?_)
    have hne : a ≠ s.heap.objs.size := fun z => by obtain ⟨o, ho, _⟩ := l; rw [z, none_of_size] at ho; cases ho
    have hl : vs.size = xs.length := by simpa using r.length
    have x : Ext s.heap (s.heap.push { cls := .type "list_iterator", data := .fields #[.ref a, .int 0 0] }) := Ext.refl.push _
    refine ⟨_, [s.heap.objs.size], [s.heap.objs.size, a], fun i v => vs[i]? = some v, fun i h => h.IsListIter s.heap.objs.size a i ∧ h.IsList a vs, rfl, ?_, x, ?_, ?_, new, ?_, q, ?_⟩
    · refine ⟨fun A' hA => by rw [← hl]; exact Walks.list hA _ _ hne vs, fun i h st b hb => ?_, fun i T h _ st => ⟨_, _, st.1⟩⟩
      obtain ⟨⟨o, ho, _⟩, ⟨o', ho', _⟩⟩ := st
      rcases List.mem_cons.mp hb with rfl | hb
      · exact ⟨o, ho⟩
      · rw [List.mem_singleton.mp hb]; exact ⟨o', ho'⟩
    · exact ⟨⟨_, Heap.get?_push_size _ rfl, rfl, rfl⟩, l.at fun o e => x _ _ e⟩
    · intro b hb
      rcases List.mem_cons.mp hb with rfl | hb
      · exact al.new
      · rw [List.mem_singleton.mp hb]; exact na
    · intro i v hv
      obtain ⟨d, hd, rd⟩ := r.get' (i := i) (y := v) (by simpa using hv)
      exact ⟨d, hd, rd⟩
    · intro b hb
      rcases List.mem_cons.mp hb with rfl | hb
      · exact .inl (by simp)
      · obtain ⟨o, ho, _⟩ := l
        rw [List.mem_singleton.mp hb]; exact .inr ⟨o, ho⟩
  | @str x t =>
    simp only [r_itl, r_its, r_itd] at e
    split at e <;> cases e
    rename_i q
    have sz : (x.cps.toList.map fun c => Dat.str ⟨#[c]⟩).length = x.cps.size := by simp
    have items : ∀ (h : Heap) i v, SignAt x i v → ∃ d, (x.cps.toList.map fun c => Dat.str ⟨#[c]⟩)[i]? = some d ∧ Rep prog w h hid v d := fun h i v hv => by
      obtain ⟨c, u, hc, rfl⟩ := hv
      refine ⟨.str ⟨#[c]⟩, ?_, .str⟩
      rw [List.getElem?_map, Array.getElem?_toList, hc]; rfl
    have noref : ∀ i T, ¬ SignAt x i (.ref T) := fun i T hv => by obtain ⟨_, _, _, e⟩ := hv; cases e
    cases ha : x.cps.all (· < 128) with
    | true =>
      refine wpAny_pyIter_ascii ha (hQ _ _ s.toks ⟨_, [s.heap.objs.size], [s.heap.objs.size], SignAt x, fun i h => h.IsStrIter s.heap.objs.size "str_ascii_iterator" x t i, rfl, ⟨fun A' hA => by rw [sz]; exact Walks.strAscii hA _ x t, fun i h st b hb => ?_, fun i T h hp _ => absurd hp (noref i T)⟩,
        Ext.refl.push _, ⟨_, Heap.get?_push_size _ rfl, rfl, rfl⟩, one, new, fun i v hv => items _ i v hv, by rw [sz]; exact q, fun b hb => .inl hb⟩)
      obtain ⟨o, ho, _⟩ := st
      rw [List.mem_singleton.mp hb]; exact ⟨o, ho⟩
    | false =>
      refine wpAny_pyIter_wide ha (hQ _ _ s.toks ⟨_, [s.heap.objs.size], [s.heap.objs.size], SignAt x, fun i h => h.IsStrIter s.heap.objs.size "str_iterator" x t i, rfl, ⟨fun A' hA => by rw [sz]; exact Walks.strWide hA _ x t, fun i h st b hb => ?_, fun i T h hp _ => absurd hp (noref i T)⟩,
        Ext.refl.push _, ⟨_, Heap.get?_push_size _ rfl, rfl, rfl⟩, one, new, fun i v hv => items _ i v hv, by rw [sz]; exact q, fun b hb => .inl hb⟩)
      obtain ⟨o, ho, _⟩ := st
      rw [List.mem_singleton.mp hb]; exact ⟨o, ho⟩
  | @dict a kvs' kvs na sa da ra =>
    simp only [r_itl, r_its, r_itd] at e
    split at e <;> cases e
    rename_i q
    obtain ⟨ep, da⟩ := da.dictAt
    refine wpAny_pyIter_dict sa da (hQ _ _ s.toks ?_)
    have hne : a ≠ s.heap.objs.size := fun z => by obtain ⟨o, _, ho, _⟩ := da; rw [z, none_of_size] at ho; cases ho
    have sz : (kvs.map fun p => Dat.str p.1).length = kvs'.length := by simp [ra.length]
    have x : Ext s.heap (s.heap.push { cls := .type "dict_keyiterator", data := .fields #[.ref a, .int 0 0, .int kvs'.length 0, .int ep 0] }) := Ext.refl.push _
    refine ⟨_, [s.heap.objs.size], [s.heap.objs.size, a], _, fun i h => h.IsKeyIter s.heap.objs.size a i kvs'.length ep ∧ h.DictAt (strKind prog w) a kvs' ep, rfl, ⟨fun A' hA => by rw [sz]; exact Walks.dictKeys hA _ _ hne kvs' ep, fun i h st b hb => ?_, ?_⟩, x, ?_, ?_, new, ?_, by simpa using q, ?_⟩
    · obtain ⟨⟨o, ho, _⟩, ⟨o', _, ho', _⟩⟩ := st
      rcases List.mem_cons.mp hb with rfl | hb
      · exact ⟨o, ho⟩
      · rw [List.mem_singleton.mp hb]; exact ⟨o', ho'⟩
    · rintro i T h ⟨k, y, _, hk⟩ _
      obtain ⟨_, e⟩ := Value.isStrOf_shape (show Value.isStrOf k (.ref T) = true from hk)
      cases e
    · exact ⟨⟨_, Heap.get?_push_size _ rfl, rfl, rfl⟩, da.keep fun b o e => x b o e⟩
    · intro b hb
      rcases List.mem_cons.mp hb with rfl | hb
      · exact al.new
      · rw [List.mem_singleton.mp hb]; exact na
    · rintro i v ⟨k, y, hk, hv⟩
      have hkeys := congrArg (fun l => l[i]?) ra.keys
      simp only [List.getElem?_map, hk, Option.map_some] at hkeys
      cases hd : kvs[i]? with
      | none => rw [hd] at hkeys; cases hkeys
      | some p =>
        rw [hd] at hkeys
        simp only [Option.map_some, Option.some.injEq] at hkeys
        refine ⟨.str p.1, by simp [hd], ?_⟩
        obtain ⟨t, rfl⟩ := Value.isStrOf_shape (x := k) hv
        rw [← hkeys]
        exact .str
    · intro b hb
      rcases List.mem_cons.mp hb with rfl | hb
      · exact .inl (by simp)
      · obtain ⟨o, _, ho, _⟩ := da
        rw [List.mem_singleton.mp hb]; exact .inr ⟨o, ho⟩
  | _ => exact nn e

/-- a range, made and walked over -/
theorem range_ok {a b : Int} {items : List Dat} {r : Addr} {t u x : Tok} (e : rangeD a b = some items) (hr : IsRange s.heap r a b 1 t u x) (al : Alive hid s.heap) :
    Go (model prog w) A (pyIter (.ref r)) s fun it h' => Ready prog w hid s.heap items it h' := by
  refine Go.of fun Q E hQ => ?_
  unfold rangeD at e
  split at e
  rotate_left
  · cases e
  have := Option.some.inj e
  subst this
  rename_i q
  have q : -16777216 ≤ a ∧ a ≤ 16777216 ∧ -16777216 ≤ b ∧ b ≤ 16777216 ∧ b - a ≤ 16777216 := q
  have sz : ((List.range (b - a).toNat).map fun (i : Nat) => Dat.int (a + i)).length = (b - a).toNat := by simp
  have hsz : Builtin.Range.rangeSize a b 1 = ((b - a).toNat : Int) := by rw [rangeSize_one]; split <;> omega
  refine wpAny_pyIter_range hr (small_one (by omega) (by omega) (by omega) (by omega)) (hQ _ _ s.toks ?_)
  have one : ∀ b ∈ [s.heap.objs.size], b ∉ hid := fun b hb => by
    rw [List.mem_singleton.mp hb]; exact al.new
  have new : ∀ b ∈ [s.heap.objs.size], s.heap.get? b = none := fun b hb => by
    rw [List.mem_singleton.mp hb]; exact none_of_size
  refine ⟨_, [s.heap.objs.size], [s.heap.objs.size], fun i v => i < (b - a).toNat ∧ ∃ t, v = .int (a + i * 1) t, fun i h => IsRangeIter h s.heap.objs.size (a + (i : Nat) * 1) (((b - a).toNat : Int) - (i : Nat)) 1, rfl,
    ⟨fun A' hA => ?_, fun i h st c hb => ?_, ?_⟩, Ext.refl.push _, ?_, one, new, ?_, ?_, fun b hb => .inl hb⟩
  · rw [sz]; exact (Walks.range hA _ a 1 (b - a).toNat).bound
  · rw [List.mem_singleton.mp hb]; exact ⟨_, st⟩
  · rintro i T h ⟨_, _, e⟩ _; cases e
  · show IsRangeIter _ _ _ _ _
    rw [hsz]; simpa using Heap.get?_push_size _ rfl
  · rintro i v ⟨hi, t, rfl⟩
    refine ⟨.int (a + i), ?_, ?_⟩
    · simp [hi]
    · have : (a + (i : Int) * 1) = a + i := by omega
      rw [this]; exact .int
  · rw [sz]; show _ ≤ 16777216
    omega
end
end Mine
end

section
open PySem PySem.W PyProof.Rows
set_option Elab.async false
set_option maxRecDepth 10000
namespace Mine

/-! the syntax -/
noncomputable def f1Name : F1 → Str | .ord => "ord" | .chr => "chr" | .len => "len" | .max => "max" | .list => "list"
abbrev Sc := List (Str × NameKind)
/-- the names of a comprehension's block as it runs -/
noncomputable def inner (names sc : Sc) : Sc := names.map fun (n, k) => if (k == NameKind.free && true && sc.lookup n == some NameKind.cell) then (n, NameKind.cell) else (n, k)
noncomputable def Sole (e : PySem.Expr) : Prop := ∀ rest env, starEach (e :: rest) env = (false, eval e env) :: starEach rest env
noncomputable def BaseOk (o : PySem.Expr) (name : Str) : Prop := ∀ env, attributeBase o name env (eval o env) = eval o env
noncomputable def PlainI (slice : PySem.Expr) : Prop := ∀ o i, subscripted slice false o i = operate [o, i] (getItem o i)
noncomputable def IterS (e : PySem.Expr) : Prop := ∀ env x, foldedSetIterable e env x = pure x
noncomputable def Named (nm : Nat → Str) (sc : Sc) (n : Str) (x : Nat) : Prop := n = nm x ∧ (sc.lookup n = some .local ∨ sc.lookup n = some .cell)
noncomputable def Owned (nm : Nat → Str) (sc : Sc) (n : Str) (x : Nat) : Prop := n = nm x ∧ sc.lookup n = some .local
noncomputable def ValT (e : PySem.Expr) : Prop := ∀ env whole, PySem.isTrue e env whole = (do let v ← whole; standAt e.pos; holding [v] (truthy v))
/-- a comprehension's block -/
structure CompOk (nm : Nat → Str) (scope : Scope) (sc : Sc) (fr : List Nat) : Prop where
  kind : scope.kind = .function
  cell : ∀ y ∈ scope.names, y.2 ≠ .cell
  loc : ∀ y ∈ scope.names, y.2 = .local → scope.names.lookup y.1 = some .local
  free : ∀ y ∈ scope.names, y.2 = .free → sc.lookup y.1 = some .cell
  fr : ∀ x ∈ fr, scope.names.lookup (nm x) = some .free

inductive TrD : List (Option PySem.Expr) → List PySem.Expr → List (Str × Str) → Prop
  | nil : TrD [] [] []
  | cons {k v k' v' n p n' p' ks vs kvs} : k' = k → v' = v → TrD ks vs kvs → TrD (some (.Constant (.str k') n p) :: ks) (.Constant (.str v') n' p' :: vs) ((k, v) :: kvs)
inductive TrN (nm : Nat → Str) (sc : Sc) : List PySem.Expr → List Nat → Prop
  | nil : TrN nm sc [] []
  | cons {n x p es xs} : Named nm sc n x → TrN nm sc es xs → TrN nm sc (.Name n p :: es) (x :: xs)

mutual
inductive TrE (nm : Nat → Str) : Sc → PySem.Expr → Ex → Prop
  | int {sc i k p} : TrE nm sc (.Constant (.int i) k p) (.int i)
  | str {sc s s' k p} : s' = s → TrE nm sc (.Constant (.str s') k p) (.str s)
  | bool {sc b k p} : TrE nm sc (.Constant (.bool b) k p) (.bool b)
  | var {sc n x p} : Named nm sc n x → TrE nm sc (.Name n p) (.var x)
  | neg {sc i k p p'} : TrE nm sc (.UnaryOp .USub (.Constant (.int i) k p) p') (.neg i)
  | bin {sc op o a b x y p} : o = bopOf op → TrE nm sc a x → TrE nm sc b y → TrE nm sc (.BinOp a o b p) (.bin op x y)
  | cmp {sc op o a b x y p} : o = copOf op → behindInMarks o b = false → TrE nm sc a x → TrE nm sc b y → TrE nm sc (.Compare a [o] [b] p) (.cmp op x y)
  | btw {sc a b c x y z p} : TrE nm sc a x → TrE nm sc b y → TrE nm sc c z → TrE nm sc (.Compare a [.LtE, .LtE] [b, c] p) (.btw x y z)
  | ite {sc t a b t' x y p} : TrT nm sc t t' → TrE nm sc a x → TrE nm sc b y → TrE nm sc (.IfExp t a b p) (.ite t' x y)
  | list {sc es xs p} : TrEs nm sc es xs → TrE nm sc (.List es p) (.list xs)
  | tup {sc es xs k p} : TrEs nm sc es xs → TrE nm sc (.Tuple es k p) (.tup xs)
  | dict0 {sc p} : TrE nm sc (.Dict [] [] p) .dict0
  | dictS {sc ks vs kvs p} : TrD ks vs kvs → (kvs.map (·.1)).Nodup → kvs ≠ [] → kvs.length ≤ lim → TrE nm sc (.Dict ks vs p) (.dictS kvs)
  | idx {sc a i x y p} : PlainI i → TrE nm sc a x → TrE nm sc i y → TrE nm sc (.Subscript a i p) (.idx x y)
  | slice {sc a lo hi x l h p p'} : TrE nm sc a x → TrO nm sc lo l → TrO nm sc hi h → TrE nm sc (.Subscript a (.Slice lo hi none p) p') (.slice x l h)
  | call {sc n f args xs p p'} : n = nm f → sc.lookup n = some .globalImplicit → TrEs nm sc args xs → TrE nm sc (.Call (.Name n p) args [] p') (.call f xs)
  | callIO {sc n f v x args xs p p' q} : n = nm f → sc.lookup n = some .globalImplicit → Owned nm sc v x → TrEs nm sc args xs → TrE nm sc (.Call (.Name n p) (.Name v q :: args) [] p') (.callIO f x xs)
  | fn {sc n f a x p p'} : n = f1Name f → sc.lookup n = some .globalImplicit → Sole a → TrE nm sc a x → TrE nm sc (.Call (.Name n p) [a] [] p') (.fn f x)
  | m0 {sc n m a x p p'} : n = m0Name m → BaseOk a n → (p.endLine == p'.line) = true → TrE nm sc a x → TrE nm sc (.Call (.Attribute a n p) [] [] p') (.m0 m x)
  | m1 {sc n m a b x y p p'} : n = m1Name m → BaseOk a n → (p.endLine == p'.line) = true → Sole b → TrE nm sc a x → TrE nm sc b y → TrE nm sc (.Call (.Attribute a n p) [b] [] p') (.m1 m x y)
  | replace {sc n a x y y' z z' p p' k k' q q'} : n = m2Name .replace → BaseOk a n → (p.endLine == p'.line) = true → y' = y → z' = z → TrE nm sc a x →
      TrE nm sc (.Call (.Attribute a n p) [.Constant (.str y') k q, .Constant (.str z') k' q'] [] p') (.m2 .replace x (.str y) (.str z))
  | get {sc n a b c x y z p p'} : n = m2Name .get → BaseOk a n → (p.endLine == p'.line) = true → Sole b → Sole c → TrE nm sc a x → TrE nm sc b y → TrE nm sc c z →
      TrE nm sc (.Call (.Attribute a n p) [b, c] [] p') (.m2 .get x y z)
  | joinOwn {sc n s s' v x p p' k q q'} : n = m1Name .join → (p.endLine == p'.line) = true → s' = s → Owned nm sc v x → TrE nm sc (.Call (.Attribute (.Constant (.str s') k q) n p) [.Name v q'] [] p') (.joinOwn s x)
  | ownIdx {sc v x i y p q} : Owned nm sc v x → PlainI i → TrE nm sc i y → TrE nm sc (.Subscript (.Name v q) i p) (.ownIdx x y)
  | ownPath {sc v x i j y z p p' q} : Owned nm sc v x → PlainI i → PlainI j → TrE nm sc i y → TrE nm sc j z → TrE nm sc (.Subscript (.Subscript (.Name v q) i p) j p') (.ownPath x y z)
  | comp1 {sc elt ifs iter scope v x t it ts fr p q} : CompOk nm scope sc fr → v = nm x → scope.names.lookup v = some .local → IterS iter → TrIt nm sc iter it → TrTs nm (inner scope.names sc) ifs ts → TrE nm (inner scope.names sc) elt t →
      TrE nm sc (.ListComp elt [⟨.Name v q, iter, ifs, 0⟩] scope p) (.comp t x it none ts fr)
  | comp2 {sc elt ifs iter iter2 scope v x v2 x2 t it it2 ts fr p q q2} : CompOk nm scope sc fr → v = nm x → scope.names.lookup v = some .local → v2 = nm x2 → scope.names.lookup v2 = some .local → x ≠ x2 → IterS iter → IterS iter2 → TrIt nm sc iter it → TrIt nm (inner scope.names sc) iter2 it2 →
      TrTs nm (inner scope.names sc) ifs ts → TrE nm (inner scope.names sc) elt t →
      TrE nm sc (.ListComp elt [⟨.Name v q, iter, [], 0⟩, ⟨.Name v2 q2, iter2, ifs, 0⟩] scope p) (.comp t x it (some (x2, it2)) ts fr)
inductive TrEs (nm : Nat → Str) : Sc → List PySem.Expr → List Ex → Prop
  | nil {sc} : TrEs nm sc [] []
  | cons {sc e x es xs} : Sole e → TrE nm sc e x → TrEs nm sc es xs → TrEs nm sc (e :: es) (x :: xs)
inductive TrO (nm : Nat → Str) : Sc → Option PySem.Expr → Option Ex → Prop
  | none {sc} : TrO nm sc none none
  | some {sc e x} : TrE nm sc e x → TrO nm sc (some e) (some x)
inductive TrT (nm : Nat → Str) : Sc → PySem.Expr → Te → Prop
  | not {sc e t p} : TrT nm sc e t → TrT nm sc (.UnaryOp .Not e p) (.not t)
  | and {sc es ts p} : TrTs nm sc es ts → TrT nm sc (.BoolOp .And es p) (.and ts)
  | or {sc es ts p} : TrTs nm sc es ts → TrT nm sc (.BoolOp .Or es p) (.or ts)
  | cmp {sc op o a b x y p} : o = copOf op → behindInMarks o b = false → TrE nm sc a x → TrE nm sc b y → TrT nm sc (.Compare a [o] [b] p) (.cmp op x y)
  | val {sc e x} : ValT e → TrE nm sc e x → TrT nm sc e (.val x)
inductive TrTs (nm : Nat → Str) : Sc → List PySem.Expr → List Te → Prop
  | nil {sc} : TrTs nm sc [] []
  | cons {sc e t es ts} : TrT nm sc e t → TrTs nm sc es ts → TrTs nm sc (e :: es) (t :: ts)
inductive TrIt (nm : Nat → Str) : Sc → PySem.Expr → It → Prop
  | val {sc e x} : TrE nm sc e x → TrIt nm sc e (.val x)
  | range1 {sc n a x p p'} : n = ("range" : Str) → sc.lookup n = some .globalImplicit → Sole a → TrE nm sc a x → TrIt nm sc (.Call (.Name n p) [a] [] p') (.range1 x)
  | range2 {sc n a b x y p p'} : n = ("range" : Str) → sc.lookup n = some .globalImplicit → Sole a → Sole b → TrE nm sc a x → TrE nm sc b y → TrIt nm sc (.Call (.Name n p) [a, b] [] p') (.range2 x y)
end
/-- no exchange of stores -/
noncomputable def NoSwap (sc : Sc) (e : PySem.Expr) (t : Option PySem.Expr) : Prop := ∀ env line, env.scope.names = sc → env.scope.kind = .function → swapsWith e t line env = pure false
noncomputable def Swap (sc : Sc) (e : PySem.Expr) (t : Option PySem.Expr) (line : Nat) : Prop := ∀ env, env.scope.names = sc → env.scope.kind = .function → swapsWith e t line env = pure true
mutual
inductive TrS (nm : Nat → Str) : Sc → PySem.Stmt → St → Prop
  | assign {sc v x e y p q} : Named nm sc v x → NoSwap sc e (some (.Name v q)) → TrE nm sc e y → TrS nm sc (.Assign [.Name v q] e p) (.assign x y)
  | assignC {sc elt ifs iter scope u x t it ts fr p q v z pp qq} : Owned nm sc v z → Swap sc (.ListComp elt [⟨.Name u q, iter, ifs, 0⟩] scope p) (some (.Name v qq)) pp.line →
      CompOk nm scope sc fr → u = nm x → scope.names.lookup u = some .local → IterS iter → TrIt nm sc iter it → TrTs nm (inner scope.names sc) ifs ts → TrE nm (inner scope.names sc) elt t →
      TrS nm sc (.Assign [.Name v qq] (.ListComp elt [⟨.Name u q, iter, ifs, 0⟩] scope p) pp) (.assignC z t x it ts fr)
  | assignT {sc es xs k e y p q} : TrN nm sc es xs → (∀ line env, swapsWithSole [.Tuple es k q] e line env = pure false) → (∀ env, swappedStores [.Tuple es k q] e env = pure none) → TrE nm sc e y →
      TrS nm sc (.Assign [.Tuple es k q] e p) (.assignT xs y)
  | ownList {sc v x es xs p q r} : Owned nm sc v x → TrEs nm sc es xs → TrS nm sc (.Assign [.Name v q] (.List es r) p) (.ownList x xs)
  | ownDict {sc v x p q r} : Owned nm sc v x → TrS nm sc (.Assign [.Name v q] (.Dict [] [] r) p) (.ownDict x)
  | ownDict2 {sc v x p q r} : Owned nm sc v x → TrS nm sc (.Assign [.Name v q] (.Dict [] [] r) p) (.ownDict2 x)
  | append {sc v x n e y p q r p'} : Owned nm sc v x → n = ("append" : Str) → (q.endLine == r.line) = true → Sole e → TrE nm sc e y → TrS nm sc (.Expr (.Call (.Attribute (.Name v p) n q) [e] [] r) p') (.append x y)
  | setKey {sc v x k e y z p q r} : Owned nm sc v x → NoSwap sc e (some (.Subscript (.Name v p) k q)) → TrE nm sc k y → TrE nm sc e z → TrS nm sc (.Assign [.Subscript (.Name v p) k q] e r) (.setKey x y z)
  | setIdx {sc v x k e y z p q r} : Owned nm sc v x → NoSwap sc e (some (.Subscript (.Name v p) k q)) → TrE nm sc k y → TrE nm sc e z → TrS nm sc (.Assign [.Subscript (.Name v p) k q] e r) (.setIdx x y z)
  | newKey {sc v x k y p q r p'} : Owned nm sc v x → TrE nm sc k y → TrS nm sc (.Assign [.Subscript (.Name v p) k q] (.Dict [] [] p') r) (.newKey x y)
  | setPath {sc v x i j e y z u p p' q r} : Owned nm sc v x → PlainI i → NoSwap sc e (some (.Subscript (.Subscript (.Name v p) i p') j q)) → TrE nm sc i y → TrE nm sc j z → TrE nm sc e u →
      TrS nm sc (.Assign [.Subscript (.Subscript (.Name v p) i p') j q] e r) (.setPath x y z u)
  | ret {sc e x p} : TrE nm sc e x → TrS nm sc (.Return (some e) p) (.ret x)
  | retOwn {sc v x p q} : Owned nm sc v x → TrS nm sc (.Return (some (.Name v p)) q) (.retOwn x)
  | ite {sc e t a b xs ys p} : TrT nm sc e t → TrSs nm sc a xs → TrSs nm sc b ys → TrS nm sc (.If e a b p) (.ite t xs ys)
  | for1 {sc v x e it b xs p q} : Named nm sc v x → IterS e → TrIt nm sc e it → TrSs nm sc b xs → TrS nm sc (.For (.Name v q) e b [] p) (.forE [x] false it xs)
  | forT {sc es xs k e it b ys p q} : TrN nm sc es xs → IterS e → TrIt nm sc e it → TrSs nm sc b ys → TrS nm sc (.For (.Tuple es k q) e b [] p) (.forE xs true it ys)
inductive TrSs (nm : Nat → Str) : Sc → List PySem.Stmt → List St → Prop
  | nil {sc} : TrSs nm sc [] []
  | cons {sc e x es xs} : TrS nm sc e x → TrSs nm sc es xs → TrSs nm sc (e :: es) (x :: xs)
end

/-! frames -/
structure Cx where
  prog : Program
  w : World
  nm : Nat → Str
  fs : Nat → Option FDef
  h₀ : Heap
  mg : Str → Option Value
  mb : Str → Option Value

/-- what stands behind a function's name -/
structure FunAt (c : Cx) (f : Nat) (d : FDef) (fa : Addr) (o : Obj) (name : Str) (params : Arguments) (body : List Stmt) (scope : Scope) (pm cd doc : Value) : Prop where
  glob : c.mg (c.nm f) = some (.ref fa)
  obj : c.h₀.get? fa = some o
  data : o.data = .func (Calls.docDef name params body scope pm cd doc)
  code : c.h₀.CodeRec cd name
  bind : ∀ vs : List Value, vs.length = d.params.length → bindArgs (Calls.docDef name params body scope pm cd doc) ⟨vs, []⟩ = pure ((d.params.map c.nm).zip vs)
  nodup : d.params.Nodup
  kinds : ∀ x ∈ d.params, scope.names.lookup (c.nm x) = some .local ∨ scope.names.lookup (c.nm x) = some .cell
  first : ∀ x r, d.params = x :: r → scope.names.lookup (c.nm x) = some .local
  co : scope.isCoroutine = false
  gen : scope.isGenerator = false
  kind : scope.kind = .function
  tr : TrSs c.nm scope.names body d.body

structure Cx.Ok (c : Cx) : Prop where
  inj : ∀ x y, c.nm x = c.nm y → x = y
  nodbg : ∀ x, (c.nm x == ("__debug__" : Str)) = false
  g : c.h₀.Ns mainGlobals c.mg
  b : c.h₀.Ns builtinsNs c.mb
  lim : c.h₀.NoLimit
  fn : ∀ f : F1, c.mg (f1Name f) = none ∧ c.mb (f1Name f) = some (fnOf' f)
  range : c.mg "range" = none ∧ c.mb "range" = some (.type "range")
  funs : ∀ f d, c.fs f = some d → ∃ fa o name params body scope pm cd doc, FunAt c f d fa o name params body scope pm cd doc

structure Fm (env : Env) (hid : List Addr) : Prop where
  kind : env.scope.kind = .function
  globals : env.globals = mainGlobals
  builtins : env.builtins = builtinsNs
  lh : env.locals ∈ hid
  ch : ∀ n a, env.cells.lookup n = some a → a ∈ hid ∧ a ≠ env.locals
  cd : ∀ n n' a, env.cells.lookup n = some a → env.cells.lookup n' = some a → n = n'
  ce : ∀ n, env.kindOf n = some .cell → ∃ a, env.cells.lookup n = some a

section
variable (c : Cx) (env : Env)
noncomputable def ValAt (m : Str → Option Value) (h : Heap) (x : Nat) (v : Value) : Prop :=
  (env.kindOf (c.nm x) = some .local ∧ m (c.nm x) = some v) ∨ (env.kindOf (c.nm x) = some .cell ∧ ∃ a, env.cells.lookup (c.nm x) = some a ∧ h.IsCell a (some v))
noncomputable def VarsOk (hidA : List Addr) (m : Str → Option Value) (h : Heap) (vars : Vars) : Prop :=
  ∀ x d, look vars x = some d → ∃ v, Rep c.prog c.w h hidA v d ∧ ValAt c env m h x v
inductive Rep2 (hidA : List Addr) (h : Heap) : List (Str × Value) → List (Str × List (Str × Dat)) → List Addr → Prop
  | nil : Rep2 hidA h [] [] []
  | cons {k b vs ds r rs bs} : (b == sysModules) = false → h.DictOf (PySem.strKind c.prog c.w) b vs → RepD c.prog c.w h hidA vs ds → Rep2 hidA h r rs bs → Rep2 hidA h ((k, .ref b) :: r) ((k, ds) :: rs) (b :: bs)
noncomputable def MRep (hidA : List Addr) (h : Heap) (a : Addr) (as : List Addr) : MDat → Prop
  | .list xs => as = [a] ∧ ∃ vs, h.PlainList a vs ∧ RepL c.prog c.w h hidA vs.toList xs
  | .arr xs => as = [a] ∧ ∃ vs, h.IsList a vs ∧ RepL c.prog c.w h hidA vs.toList xs
  | .dict kvs => as = [a] ∧ (a == sysModules) = false ∧ ∃ vs, h.DictOf (PySem.strKind c.prog c.w) a vs ∧ RepD c.prog c.w h hidA vs kvs
  | .dict2 kvs => ∃ bs, as = a :: bs ∧ as.Nodup ∧ (a == sysModules) = false ∧ ∃ vs, h.DictOf (PySem.strKind c.prog c.w) a vs ∧ Rep2 c hidA h vs kvs bs
noncomputable def MuOk (hidA as : List Addr) (m : Str → Option Value) (h : Heap) : Mu → Prop
  | none => as = []
  | some (x, md) => env.kindOf (c.nm x) = some .local ∧ ∃ a, m (c.nm x) = some (.ref a) ∧ MRep c hidA h a as md
structure Inv (hid as : List Addr) (ρ : Rho) (h : Heap) : Prop where
  fm : Fm env hid
  old : ∀ b ∈ as ++ hid, c.h₀.get? b = none
  ext : Ext c.h₀ h
  alive : Alive (as ++ hid) h
  disj : ∀ b ∈ as, b ∉ hid
  cells : ∀ n a, env.cells.lookup n = some a → ∃ v, h.IsCell a v
  loc : ∃ m, h.Ns env.locals m ∧ VarsOk c env (as ++ hid) m h ρ.vars ∧ MuOk c env (as ++ hid) as m h ρ.mu
  free : ∀ x md, ρ.mu = some (x, md) → look ρ.vars x = none
end

structure AOk (n : Nat) (A : Around) : Prop where
  handled : A.handled = none
  depth : A.depth + n ≤ 900
  units : A.units + 10 * n ≤ 9000
theorem AOk.le {n : Nat} {A : Around} (a : AOk (n + 1) A) : AOk n A := ⟨a.handled, by have := a.depth; omega, by have := a.units; omega⟩
theorem AOk.deeper {n : Nat} {A : Around} (a : AOk (n + 1) A) (env : Env) : AOk n (A.deeper env) :=
  ⟨a.handled, by have := a.depth; show A.depth + 1 + n ≤ 900; omega, by have := a.units; show A.units + 3 + 10 * n ≤ 9000; omega⟩
theorem AOk.small {n : Nat} {A : Around} (a : AOk n A) : A.units + 64 < cLine := by have := a.units; show _ < 9900; omega

/-- all but these kept -/
noncomputable def KeepB (as : List Addr) (h h' : Heap) : Prop := ∀ b o, b ∉ as → h.get? b = some o → h'.get? b = some o
theorem KeepB.refl {as : List Addr} {h : Heap} : KeepB as h h := fun _ _ _ e => e
theorem KeepB.trans {as : List Addr} {a b c : Heap} (x : KeepB as a b) (y : KeepB as b c) : KeepB as a c := fun k o n e => y k o n (x k o n e)
theorem KeepB.keep {as : List Addr} {h h' : Heap} (x : KeepB as h h') (hid : List Addr) : Keep h (as ++ hid) h' (as ++ hid) := fun b o n e => ⟨x b o (fun q => n (List.mem_append_left _ q)) e, n⟩
theorem Ext.keepB {as : List Addr} {h h' : Heap} (x : Ext h h') : KeepB as h h' := fun b o _ e => x b o e

section
variable {c : Cx} {env : Env} {hid as : List Addr} {ρ : Rho} {h h' : Heap}
theorem ValAt.keep {m : Str → Option Value} {x : Nat} {v : Value} (r : ValAt c env m h x v) (k : ∀ n a, env.cells.lookup n = some a → ∀ o, h.get? a = some o → h'.get? a = some o) : ValAt c env m h' x v := by
  rcases r with r | ⟨r, a, e, o, ho, hd⟩
  · exact .inl r
  · exact .inr ⟨r, a, e, o, k _ _ e _ ho, hd⟩
theorem Rep2.keep {hidA hidA' : List Addr} (k : Keep h hidA h' hidA') : ∀ {v d bs}, Rep2 c hidA h v d bs → (∀ b ∈ bs, ∀ o, h.get? b = some o → h'.get? b = some o) → Rep2 c hidA' h' v d bs := by
  intro v d bs x
  induction x with
  | nil => exact fun _ => .nil
  | cons a b d _ ih => exact fun q => .cons a (dictOf_at b (q _ List.mem_cons_self)) (d.keep k) (ih fun b hb => q b (List.mem_cons_of_mem _ hb))
theorem MRep.keep {hidA hidA' : List Addr} (k : Keep h hidA h' hidA') {a : Addr} {md : MDat} (r : MRep c hidA h a as md) (q : ∀ b ∈ as, ∀ o, h.get? b = some o → h'.get? b = some o) : MRep c hidA' h' a as md := by
  cases md with
  | list xs => obtain ⟨rfl, vs, l, r⟩ := r; exact ⟨rfl, vs, l.at (q _ (by simp)), r.keep k⟩
  | arr xs => obtain ⟨rfl, vs, l, r⟩ := r; exact ⟨rfl, vs, l.at (q _ (by simp)), r.keep k⟩
  | dict kvs => obtain ⟨rfl, s, vs, l, r⟩ := r; exact ⟨rfl, s, vs, dictOf_at l (q _ (by simp)), r.keep k⟩
  | dict2 kvs => obtain ⟨bs, rfl, nd, s, vs, l, r⟩ := r; exact ⟨bs, rfl, nd, s, vs, dictOf_at l (q _ (by simp)), r.keep k fun b hb => q b (List.mem_cons_of_mem _ hb)⟩
theorem MuOk.keep {hidA hidA' : List Addr} (k : Keep h hidA h' hidA') {m : Str → Option Value} {μ : Mu} (r : MuOk c env hidA as m h μ) (q : ∀ b ∈ as, ∀ o, h.get? b = some o → h'.get? b = some o) : MuOk c env hidA' as m h' μ := by
  cases μ with
  | none => exact r
  | some p => obtain ⟨kk, a, e, r⟩ := r; exact ⟨kk, a, e, r.keep k q⟩
theorem VarsOk.keep {hidA hidA' : List Addr} (k : Keep h hidA h' hidA') (q : ∀ n a, env.cells.lookup n = some a → ∀ o, h.get? a = some o → h'.get? a = some o) {m : Str → Option Value} {vars : Vars} (r : VarsOk c env hidA m h vars) :
    VarsOk c env hidA' m h' vars := fun x d e => let ⟨v, a, b⟩ := r x d e; ⟨v, a.keep k, b.keep q⟩

theorem Inv.grow (i : Inv c env hid as ρ h) (x : Ext h h') : Inv c env hid as ρ h' where
  fm := i.fm
  old := i.old
  ext := i.ext.trans x
  alive := i.alive.ext x
  disj := i.disj
  cells := fun n a e => let ⟨v, o, ho, hd⟩ := i.cells n a e; ⟨v, o, x _ _ ho, hd⟩
  loc := let ⟨m, n, v, u⟩ := i.loc; ⟨m, n.keeps x, v.keep (x.keep _) fun _ a _ o => x a o, u.keep (x.keep _) fun b _ o => x b o⟩
  free := i.free
/-- more is hidden: new things -/
theorem Inv.hide (i : Inv c env hid as ρ h) (x : Ext h h') {wr : List Addr} (n : ∀ b ∈ wr, h.get? b = none) (l : ∀ b ∈ wr, ∃ o, h'.get? b = some o) : Inv c env (wr ++ hid) as ρ h' := by
  have k : Keep h (as ++ hid) h' (as ++ (wr ++ hid)) := fun b o hb e => ⟨x b o e, fun q => by
    rcases List.mem_append.mp q with q | q
    · exact hb (List.mem_append_left _ q)
    · rcases List.mem_append.mp q with q | q
      · rw [n b q] at e; cases e
      · exact hb (List.mem_append_right _ q)⟩
  have i' := i.grow x
  refine ⟨⟨i.fm.kind, i.fm.globals, i.fm.builtins, List.mem_append_right _ i.fm.lh, fun n a e => ⟨List.mem_append_right _ (i.fm.ch n a e).1, (i.fm.ch n a e).2⟩, i.fm.cd, i.fm.ce⟩, fun b hb => ?_, i'.ext, fun b hb => ?_, fun b hb q => ?_, i'.cells, ?_, i.free⟩
  · rcases List.mem_append.mp hb with q | q
    · exact i.old b (List.mem_append_left _ q)
    · rcases List.mem_append.mp q with q | q
      · cases e : c.h₀.get? b with
        | none => rfl
        | some o => have := i.ext _ _ e; rw [n b q] at this; cases this
      · exact i.old b (List.mem_append_right _ q)
  · rcases List.mem_append.mp hb with q | q
    · exact i'.alive b (List.mem_append_left _ q)
    · rcases List.mem_append.mp q with q | q
      · exact l b q
      · exact i'.alive b (List.mem_append_right _ q)
  · rcases List.mem_append.mp q with q | q
    · obtain ⟨o, e⟩ := i.alive b (List.mem_append_left _ hb)
      rw [n b q] at e; cases e
    · exact i.disj b hb q
  · obtain ⟨m, nn, v, u⟩ := i.loc
    exact ⟨m, nn.keeps x, v.keep k fun _ a _ o => x a o, u.keep k fun b _ o => x b o⟩
/-- less is hidden -/
theorem Inv.show (i : Inv c env (wr ++ hid) as ρ h) (f : Fm env hid) : Inv c env hid as ρ h := by
  have sub : ∀ b, b ∈ as ++ hid → b ∈ as ++ (wr ++ hid) := fun b q => by
    rcases List.mem_append.mp q with q | q
    · exact List.mem_append_left _ q
    · exact List.mem_append_right _ (List.mem_append_right _ q)
  have k : Keep h (as ++ (wr ++ hid)) h (as ++ hid) := fun b o hb e => ⟨e, fun q => hb (sub b q)⟩
  obtain ⟨m, nn, v, u⟩ := i.loc
  exact ⟨f, fun b q => i.old b (sub b q), i.ext, fun b q => i.alive b (sub b q), fun b q z => i.disj b q (List.mem_append_right _ z), i.cells, ⟨m, nn, v.keep k fun _ _ _ _ e => e, u.keep k fun _ _ _ e => e⟩, i.free⟩
theorem Inv.aliveH (i : Inv c env hid as ρ h) : Alive hid h := fun b hb => i.alive b (List.mem_append_right _ hb)
end
end Mine
end

section
open PySem PySem.W PyProof.Rows
set_option Elab.async false
set_option maxRecDepth 10000
namespace Mine

noncomputable abbrev Cx.M (c : Cx) : Model := model c.prog c.w
noncomputable abbrev Cx.R (c : Cx) (h : Heap) (hid : List Addr) : Value → Dat → Prop := Rep c.prog c.w h hid
noncomputable abbrev EvP (c : Cx) (env : Env) (hid as : List Addr) (ρ : Rho) (μ : Mu) (h : Heap) (d : Dat) (v : Value) (h' : Heap) : Prop :=
  Inv c env hid as ⟨ρ.vars, μ⟩ h' ∧ KeepB as h h' ∧ Rep c.prog c.w h' (as ++ hid) v d
noncomputable def EvOk (c : Cx) (n : Nat) (r : Rec) : Prop := ∀ {A : Around} {env : Env} {hid as : List Addr} {e : PySem.Expr} {x : Ex} {ρ : Rho} {d : Dat} {μ : Mu} {s : Shared},
  AOk n A → TrE c.nm env.scope.names e x → r.ev x ρ = some (d, μ) → Inv c env hid as ρ s.heap → 0 < s.toks → Go c.M A (eval e env) s (EvP c env hid as ρ μ s.heap d)
noncomputable def TeOk (c : Cx) (n : Nat) (r : Rec) : Prop := ∀ {A : Around} {env : Env} {hid as : List Addr} {e : PySem.Expr} {x : Te} {ρ : Rho} {d : Bool} {μ : Mu} {s : Shared},
  AOk n A → TrT c.nm env.scope.names e x → r.te x ρ = some (d, μ) → Inv c env hid as ρ s.heap → 0 < s.toks →
    Go c.M A (PySem.isTrue e env (eval e env)) s fun b h' => Inv c env hid as ⟨ρ.vars, μ⟩ h' ∧ KeepB as s.heap h' ∧ b = d
noncomputable def CallOk (c : Cx) (n : Nat) (r : Rec) : Prop := ∀ {A : Around} {hid : List Addr} {f : Nat} {ds : List Dat} {vs : List Value} {d : Dat} {s : Shared} {fa : Addr},
  AOk n A → r.call f ds none = some (d, none) → c.mg (c.nm f) = some (.ref fa) → Ext c.h₀ s.heap → (∀ b ∈ hid, c.h₀.get? b = none) → Alive hid s.heap → RepL c.prog c.w s.heap hid vs ds → 0 < s.toks →
    Go c.M A (call (.ref fa) vs) s fun v h' => Ext s.heap h' ∧ Rep c.prog c.w h' hid v d
noncomputable def CallIO (c : Cx) (n : Nat) (r : Rec) : Prop := ∀ {A : Around} {hid as : List Addr} {f : Nat} {ds : List Dat} {vs : List Value} {d : Dat} {s : Shared} {fa a : Addr} {m m' : MDat},
  AOk n A → r.call f ds (some m) = some (d, some m') → c.mg (c.nm f) = some (.ref fa) → Ext c.h₀ s.heap → (∀ b ∈ as ++ hid, c.h₀.get? b = none) → Alive (as ++ hid) s.heap → (∀ b ∈ as, b ∉ hid) →
    MRep c (as ++ hid) s.heap a as m → RepL c.prog c.w s.heap (as ++ hid) vs ds → 0 < s.toks →
    Go c.M A (call (.ref fa) (.ref a :: vs)) s fun v h' => KeepB as s.heap h' ∧ (∀ b ∈ as, ∃ o, h'.get? b = some o) ∧ MRep c (as ++ hid) h' a as m' ∧ Rep c.prog c.w h' (as ++ hid) v d

section
variable {c : Cx} {env : Env} {hid as : List Addr} {ρ : Rho} {h h' : Heap} {A : Around} {s : Shared}

theorem Inv.ownAt (i : Inv c env hid as ρ h) {x : Nat} {md : MDat} (e : ownOf ρ.mu x = some md) :
    ρ.mu = some (x, md) ∧ env.kindOf (c.nm x) = some .local ∧ look ρ.vars x = none ∧ ∃ m a, h.Ns env.locals m ∧ VarsOk c env (as ++ hid) m h ρ.vars ∧ m (c.nm x) = some (.ref a) ∧ MRep c (as ++ hid) h a as md := by
  obtain ⟨m, nn, v, u⟩ := i.loc
  unfold ownOf at e
  cases hm : ρ.mu with
  | none => rw [hm] at e; cases e
  | some p =>
    obtain ⟨y, md'⟩ := p
    rw [hm] at e u
    simp only at e
    cases q : Nat.beq y x with
    | false => rw [q] at e; cases e
    | true =>
      rw [q] at e
      have := Nat.eq_of_beq_eq_true q
      subst this
      cases e
      obtain ⟨kk, a, ea, r⟩ := u
      exact ⟨rfl, kk, i.free _ _ hm, m, a, nn, v, ea, r⟩

/-- what a frame owns has changed -/
theorem Inv.own (i : Inv c env hid as ρ h) {x : Nat} {a : Addr} {as' : List Addr} {md : MDat} {m : Str → Option Value} (kind : env.kindOf (c.nm x) = some .local) (hn : h.Ns env.locals m) (hv : VarsOk c env (as ++ hid) m h ρ.vars)
    (hm : m (c.nm x) = some (.ref a)) (nl : look ρ.vars x = none) (k : KeepB as h h') (hal : ∀ b ∈ as', ∃ o, h'.get? b = some o) (sub : ∀ b ∈ as', b ∈ as ∨ h.get? b = none) (new : MRep c (as' ++ hid) h' a as' md) :
    Inv c env hid as' ⟨ρ.vars, some (x, md)⟩ h' := by
  have fresh : ∀ b, h.get? b = none → c.h₀.get? b = none := fun b e => by
    cases q : c.h₀.get? b with
    | none => rfl
    | some o => rw [i.ext _ _ q] at e; cases e
  have kept : ∀ b ∈ hid, ∀ o, h.get? b = some o → h'.get? b = some o := fun b hb o e => k b o (fun q => i.disj b q hb) e
  have kk : Keep h (as ++ hid) h' (as' ++ hid) := fun b o hb e => ⟨k b o (fun q => hb (List.mem_append_left _ q)) e, fun q => by
    rcases List.mem_append.mp q with q | q
    · rcases sub b q with q | q
      · exact hb (List.mem_append_left _ q)
      · rw [q] at e; cases e
    · exact hb (List.mem_append_right _ q)⟩
  refine ⟨i.fm, fun b hb => ?_, fun b o e => ?_, fun b hb => ?_, fun b hb q => ?_, fun n a e => ?_, ⟨m, hn.at' fun o e => kept _ i.fm.lh o e, ?_, kind, a, hm, new⟩, ?_⟩
  · rcases List.mem_append.mp hb with q | q
    · rcases sub b q with q | q
      · exact i.old b (List.mem_append_left _ q)
      · exact fresh b q
    · exact i.old b (List.mem_append_right _ q)
  · refine k b o (fun q => ?_) (i.ext b o e)
    rw [i.old b (List.mem_append_left _ q)] at e; cases e
  · rcases List.mem_append.mp hb with q | q
    · exact hal b q
    · obtain ⟨o, e⟩ := i.alive b (List.mem_append_right _ q)
      exact ⟨o, kept b q o e⟩
  · rcases sub b hb with z | z
    · exact i.disj b z q
    · obtain ⟨o, e⟩ := i.alive b (List.mem_append_right _ q)
      rw [z] at e; cases e
  · obtain ⟨v, o, ho, hd⟩ := i.cells n a e
    exact ⟨v, o, kept _ (i.fm.ch n a e).1 _ ho, hd⟩
  · exact hv.keep kk fun n a e o ho => kept _ (i.fm.ch n a e).1 _ ho
  · intro y md' e
    cases e
    exact nl

theorem load_var (ok : c.Ok) {n : Str} {x : Nat} {d : Dat} {p : Pos} {Q : Value → Shared → Prop} {E : Value → Shared → Prop} (i : Inv c env hid as ρ s.heap) (nn : Named c.nm env.scope.names n x) (e : look ρ.vars x = some d)
    (hQ : ∀ v, Rep c.prog c.w s.heap (as ++ hid) v d → Q v s) : wpAny c.M A (eval (.Name n p) env) Q E s := by
  obtain ⟨rfl, _⟩ := nn
  obtain ⟨m, hn, hv, _⟩ := i.loc
  obtain ⟨v, r, l⟩ := hv x d e
  refine wpAny_Name ?_ (ok.nodbg x)
  rcases l with ⟨k, hm⟩ | ⟨k, a, hc, hcell⟩
  · exact wpAny_loadName_local i.fm.kind k hn hm (hQ v r)
  · exact wpAny_loadName_cell i.fm.kind k hc hcell (hQ v r)
theorem load_own (ok : c.Ok) {n : Str} {x : Nat} {a : Addr} {p : Pos} {m : Str → Option Value} {Q : Value → Shared → Prop} {E : Value → Shared → Prop} (i : Inv c env hid as ρ s.heap) (nn : Owned c.nm env.scope.names n x) (hn : s.heap.Ns env.locals m) (hm : m (c.nm x) = some (.ref a))
    (hQ : Q (.ref a) s) : wpAny c.M A (eval (.Name n p) env) Q E s := by
  obtain ⟨rfl, k⟩ := nn
  exact wpAny_Name (wpAny_loadName_local i.fm.kind k hn hm hQ) (ok.nodbg x)
/-- the name of a function, of a built-in -/
theorem load_fun (ok : c.Ok) {n : Str} {f : Nat} {fa : Addr} {p : Pos} {Q : Value → Shared → Prop} {E : Value → Shared → Prop} (i : Inv c env hid as ρ s.heap) (e : n = c.nm f) (k : env.scope.names.lookup n = some .globalImplicit) (hf : c.mg (c.nm f) = some (.ref fa))
    (hQ : Q (.ref fa) s) : wpAny c.M A (eval (.Name n p) env) Q E s := by
  subst e
  exact Calls.Name_function_global i.fm.kind k (Calls.loadGlobal_global (i.fm.globals ▸ ok.g.keeps i.ext) hf hQ) (ok.nodbg f)
theorem load_b (ok : c.Ok) {n : Str} {p : Pos} {v : Value} {Q : Value → Shared → Prop} {E : Value → Shared → Prop} (i : Inv c env hid as ρ s.heap) (k : env.scope.names.lookup n = some .globalImplicit) (hg : c.mg n = none) (hb : c.mb n = some v)
    (hd : (n == ("__debug__" : Str)) = false) (hQ : Q v s) : wpAny c.M A (eval (.Name n p) env) Q E s :=
  Calls.Name_function_global i.fm.kind k (Calls.loadGlobal_builtin (i.fm.globals ▸ ok.g.keeps i.ext) hg (i.fm.builtins ▸ ok.b.keeps i.ext) hb hQ) hd
end

structure Snd (c : Cx) (n : Nat) (r : Rec) : Prop where
  ev : EvOk c n r
  te : TeOk c n r
  call : CallOk c n r
  callIO : CallIO c n r
  glob : ∀ {f ds m z}, r.call f ds m = some z → ∃ fa o fd, c.mg (c.nm f) = some (.ref fa) ∧ c.h₀.get? fa = some o ∧ o.data = .func fd
  lit : ∀ {t : Str} {ρ : Rho} {d : Dat} {μ : Mu}, r.ev (.str t) ρ = some (d, μ) → d = .str t ∧ μ = ρ.mu

section
variable {c : Cx} {n : Nat} {r : Rec} {env : Env} {hid as : List Addr} {ρ : Rho} {A : Around} {s : Shared}

theorem evs_ok (S : EvOk c n r) (aok : AOk n A) {pos : Pos} {es : List PySem.Expr} {xs : List Ex} {ρ : Rho} {ds : List Dat} {μ : Mu} {s : Shared} (t : TrEs c.nm env.scope.names es xs) (e : evs r xs ρ = some (ds, μ)) (i : Inv c env hid as ρ s.heap) (pt : 0 < s.toks) :
    Go c.M A (spliced (backTo pos (starEach es env))) s fun vs h' => Inv c env hid as ⟨ρ.vars, μ⟩ h' ∧ KeepB as s.heap h' ∧ RepL c.prog c.w h' (as ++ hid) vs ds := by
  induction xs generalizing es ρ ds s with
  | nil =>
    cases t
    cases e
    intro Q E hQ
    exact wpAny_items_nil (hQ _ s.heap s.toks (Nat.le_refl _) ⟨i, .refl, .nil⟩)
  | cons x xs ih =>
    cases t with
    | cons sole t ts =>
      unfold evs at e
      cases e1 : r.ev x ρ with
      | none => rw [e1] at e; cases e
      | some p =>
        obtain ⟨d, μ1⟩ := p
        rw [e1] at e
        dsimp only at e
        cases e2 : evs r xs ⟨ρ.vars, μ1⟩ with
        | none => rw [e2] at e; cases e
        | some p =>
          obtain ⟨ds', μ2⟩ := p
          rw [e2] at e
          cases e
          intro Q E hQ
          refine wpAny_items_cons (S aok t e1 i pt _ _ fun v h1 tk1 le1 p => ?_) (sole _ _)
          obtain ⟨i1, k1, r1⟩ := p
          refine ih (ρ := ⟨ρ.vars, μ1⟩) (s := { s with heap := h1, toks := tk1 }) ts e2 i1 (Nat.lt_of_lt_of_le pt le1) _ _ fun vs h2 tk2 le2 p => ?_
          obtain ⟨i2, k2, r2⟩ := p
          exact hQ _ _ _ (Nat.le_trans le1 le2) ⟨i2, k1.trans k2, .cons (r1.keep (k2.keep hid)) r2⟩
end
end Mine
end

section
open PySem PySem.W PyProof.Rows
set_option Elab.async false
set_option maxRecDepth 10000
namespace Mine

section
variable {c : Cx} {n : Nat} {r : Rec} {env : Env} {hid as : List Addr} {ρ : Rho} {A : Around} {s : Shared} {d : Dat} {μ : Mu}

theorem lt3 {a b c : Nat} (h : 0 < a) (x : a ≤ b) (y : b ≤ c) : 0 < c := Nat.lt_of_lt_of_le h (Nat.le_trans x y)
theorem lt2 {a b : Nat} (h : 0 < a) (x : a ≤ b) : 0 < b := Nat.lt_of_lt_of_le h x

theorem st_bin (S : Snd c n r) (aok : AOk n A) {op : BOp} {o : Operator} {a b : PySem.Expr} {x y : Ex} {p : Pos} (ho : o = bopOf op) (ta : TrE c.nm env.scope.names a x) (tb : TrE c.nm env.scope.names b y)
    (e : stepE r (.bin op x y) ρ = some (d, μ)) (i : Inv c env hid as ρ s.heap) (pt : 0 < s.toks) : Go c.M A (eval (.BinOp a o b p) env) s (EvP c env hid as ρ μ s.heap d) := by
  subst ho
  dsimp only [stepE] at e
  split at e
  rotate_left
  · cases e
  rename_i d1 μ1 e1
  split at e
  rotate_left
  · cases e
  rename_i d2 μ2 e2
  rw [Option.map_eq_some_iff] at e
  obtain ⟨z, e3, e⟩ := e
  cases e
  intro Q E hQ
  refine wpAny_BinOp (S.ev aok ta e1 i pt _ _ fun va h1 tk1 le1 ⟨i1, k1, r1⟩ => S.ev aok tb e2 i1 (lt2 pt le1) _ _ fun vb h2 tk2 le2 hp => ?_)
  obtain ⟨i2, k2, r2⟩ := hp
  exact bin_ok e3 (r1.keep (k2.keep hid)) r2 i2.alive _ _ fun v h3 tk3 le3 ⟨x3, r3⟩ => hQ _ _ _ (Nat.le_trans le1 (Nat.le_trans le2 le3)) ⟨i2.grow x3, (k1.trans k2).trans x3.keepB, r3⟩

theorem st_cmp (S : Snd c n r) (aok : AOk n A) {op : COp} {o : CmpOp} {a b : PySem.Expr} {x y : Ex} {p : Pos} (ho : o = copOf op) (hb : behindInMarks o b = false) (ta : TrE c.nm env.scope.names a x) (tb : TrE c.nm env.scope.names b y)
    (e : stepE r (.cmp op x y) ρ = some (d, μ)) (i : Inv c env hid as ρ s.heap) (pt : 0 < s.toks) : Go c.M A (eval (.Compare a [o] [b] p) env) s (EvP c env hid as ρ μ s.heap d) := by
  subst ho
  dsimp only [stepE] at e
  split at e
  rotate_left
  · cases e
  rename_i d1 μ1 e1
  split at e
  rotate_left
  · cases e
  rename_i d2 μ2 e2
  rw [Option.map_eq_some_iff] at e
  obtain ⟨z, e3, e⟩ := e
  cases e
  intro Q E hQ
  refine wpAny_Compare1 (S.ev aok ta e1 i pt _ _ fun va h1 tk1 le1 ⟨i1, k1, r1⟩ => S.ev aok tb e2 i1 (lt2 pt le1) _ _ fun vb h2 tk2 le2 ⟨i2, k2, r2⟩ => ?_) hb
  exact cmp_ok e3 (r1.keep (k2.keep hid)) r2 aok.small _ _ fun v h3 tk3 le3 ⟨x3, r3⟩ => hQ _ _ _ (Nat.le_trans le1 (Nat.le_trans le2 le3)) (by subst x3 r3; exact ⟨i2, k1.trans k2, .bool⟩)

theorem stT_cmp (S : Snd c n r) (aok : AOk n A) {op : COp} {o : CmpOp} {a b : PySem.Expr} {x y : Ex} {p : Pos} {t : Bool} (ho : o = copOf op) (hb : behindInMarks o b = false) (ta : TrE c.nm env.scope.names a x) (tb : TrE c.nm env.scope.names b y)
    (e : stepT r (.cmp op x y) ρ = some (t, μ)) (i : Inv c env hid as ρ s.heap) (pt : 0 < s.toks) (whole : Sem Value) : Go c.M A (PySem.isTrue (.Compare a [o] [b] p) env whole) s fun b h' => Inv c env hid as ⟨ρ.vars, μ⟩ h' ∧ KeepB as s.heap h' ∧ b = t := by
  subst ho
  dsimp only [stepT] at e
  split at e
  rotate_left
  · cases e
  rename_i d1 μ1 e1
  split at e
  rotate_left
  · cases e
  rename_i d2 μ2 e2
  rw [Option.map_eq_some_iff] at e
  obtain ⟨z, e3, e⟩ := e
  cases e
  intro Q E hQ
  refine wpAny_isTrue_Compare1 (S.ev aok ta e1 i pt _ _ fun va h1 tk1 le1 ⟨i1, k1, r1⟩ => S.ev aok tb e2 i1 (lt2 pt le1) _ _ fun vb h2 tk2 le2 ⟨i2, k2, r2⟩ => ?_) hb
  refine cmp_ok e3 (r1.keep (k2.keep hid)) r2 aok.small _ _ fun v h3 tk3 le3 hp => ?_
  obtain ⟨x3, r3⟩ := hp
  subst x3 r3
  exact wpAny_truthy_bool (hQ _ _ _ (Nat.le_trans le1 (Nat.le_trans le2 le3)) ⟨i2, k1.trans k2, rfl⟩)

theorem leL_spec : ∀ {a b : List Nat}, leL a b = !decide (b < a)
  | [], b => by
    have : ¬ b < [] := List.not_lt_nil b
    simp [leL, this]
  | x :: a, [] => by simp [leL]
  | x :: a, y :: b => by
    unfold leL
    have := @leL_spec a b
    cases h : Nat.blt x y with
    | true =>
      have h := Nat.blt_eq.mp h
      simp only
      have : ¬ (y :: b < x :: a) := by
        rw [List.cons_lt_cons_iff]; omega
      simp [this]
    | false =>
      have h' : ¬ x < y := fun q => by rw [Nat.blt_eq.mpr q] at h; cases h
      simp only
      cases g : Nat.beq x y with
      | true =>
        have := Nat.eq_of_beq_eq_true g; subst this
        simp only [leL_spec]
        by_cases q : b < a <;> simp [q]
      | false =>
        have g := Nat.ne_of_beq_eq_false g
        have : y :: b < x :: a := by rw [List.cons_lt_cons_iff]; omega
        simp [this]

theorem marks_no (u : PySem.Expr) : behindInMarks .LtE u = false := by
  unfold behindInMarks
  split
  · rename_i k _
    show ((k == 0) && false && _) = false
    rw [Bool.and_false, Bool.false_and]
  · rfl
theorem marks_le (u : PySem.Expr) (t : Sem Value) : markedBehindIn .LtE u t = t := by
  unfold markedBehindIn
  rw [marks_no]
theorem st_btw (S : Snd c n r) (aok : AOk n A) {a b u : PySem.Expr} {x y z : Ex} {p : Pos} (ta : TrE c.nm env.scope.names a x) (tb : TrE c.nm env.scope.names b y) (tc : TrE c.nm env.scope.names u z)
    (e : stepE r (.btw x y z) ρ = some (d, μ)) (i : Inv c env hid as ρ s.heap) (pt : 0 < s.toks) : Go c.M A (eval (.Compare a [.LtE, .LtE] [b, u] p) env) s (EvP c env hid as ρ μ s.heap d) := by
  dsimp only [stepE] at e
  split at e
  rotate_left
  · cases e
  rename_i d1 μ1 e1
  split at e
  rotate_left
  · cases e
  rename_i d2 μ2 e2
  intro Q E hQ
  rw [arm_eval_Compare]
  refine wpAny_bind (S.ev aok ta e1 i pt _ _ fun va h1 tk1 le1 hp => ?_)
  obtain ⟨i1, k1, r1⟩ := hp
  have hm : markedEach [CmpOp.LtE, CmpOp.LtE] [b, u] (evalEach [b, u] env) = [eval b env, eval u env] := by
    show [eval b env, markedBehindIn .LtE u (eval u env)] = _
    rw [marks_le]
  rw [hm]
  cases r1 with
  | @str s1 t1 =>
    show wpAny _ _ (do
      let rv ← holding [_] (eval b env)
      standAt p
      let c ← holding [_, rv] (compareOp .LtE _ rv)
      release [_, rv] [c]
      if ← holding [c, rv] (truthy c) then compareChain p rv [.LtE] [eval u env] else pure c) _ _ _
    refine wpAny_bind (wpAny_holding (S.ev aok tb e2 i1 (lt2 pt le1) _ _ fun vb h2 tk2 le2 hp => ?_))
    obtain ⟨i2, k2, r2⟩ := hp
    cases r2 with
    | @str s2 t2 =>
      refine wpAny_bind (wpAny_standAt (wpAny_bind (wpAny_holding (P.le_str ?_))))
      rw [← leL_spec]
      refine wpAny_bind (wpAny_release ?_)
      refine wpAny_bind (wpAny_holding (wpAny_truthy_bool ?_))
      cases q : leL d1.cps.toList d2.cps.toList with
      | false =>
        rw [q] at e
        cases e
        simp only [Bool.false_eq_true, if_false]
        exact wpAny_pure (hQ _ _ _ (Nat.le_trans le1 le2) ⟨i2, k1.trans k2, .bool⟩)
      | true =>
        rw [q] at e
        simp only at e
        split at e
        rotate_left
        · cases e
        rename_i d3 μ3 e3
        cases e
        simp only [if_true]
        show wpAny _ _ (do
          let rv ← holding [_] (eval u env)
          standAt p
          operate [_, rv] (compareOp .LtE _ rv)) _ _ _
        refine wpAny_bind (wpAny_holding (S.ev aok tc e3 i2 (lt3 pt le1 le2) _ _ fun vc h3 tk3 le3 hp => ?_))
        obtain ⟨i3, k3, r3⟩ := hp
        cases r3 with
        | @str s3 t3 =>
          refine wpAny_bind (wpAny_standAt (wpAny_operating (P.le_str ?_)))
          rw [← leL_spec]
          exact hQ _ _ _ (Nat.le_trans le1 (Nat.le_trans le2 le3)) ⟨i3, (k1.trans k2).trans k3, .bool⟩

theorem st_ite (S : Snd c n r) (aok : AOk n A) {t a b : PySem.Expr} {t' : Te} {x y : Ex} {p : Pos} (tt : TrT c.nm env.scope.names t t') (ta : TrE c.nm env.scope.names a x) (tb : TrE c.nm env.scope.names b y)
    (e : stepE r (.ite t' x y) ρ = some (d, μ)) (i : Inv c env hid as ρ s.heap) (pt : 0 < s.toks) : Go c.M A (eval (.IfExp t a b p) env) s (EvP c env hid as ρ μ s.heap d) := by
  dsimp only [stepE] at e
  intro Q E hQ
  split at e
  · rename_i μ1 e1
    refine wpAny_IfExp (S.te aok tt e1 i pt _ _ fun v h1 tk1 le1 hp => ?_)
    obtain ⟨i1, k1, r1⟩ := hp
    subst r1
    simp only [if_true]
    exact S.ev aok ta e i1 (lt2 pt le1) _ _ fun v h2 tk2 le2 ⟨i2, k2, r2⟩ => hQ _ _ _ (Nat.le_trans le1 le2) ⟨i2, k1.trans k2, r2⟩
  · rename_i μ1 e1
    refine wpAny_IfExp (S.te aok tt e1 i pt _ _ fun v h1 tk1 le1 hp => ?_)
    obtain ⟨i1, k1, r1⟩ := hp
    subst r1
    simp only [Bool.false_eq_true, if_false]
    exact S.ev aok tb e i1 (lt2 pt le1) _ _ fun v h2 tk2 le2 ⟨i2, k2, r2⟩ => hQ _ _ _ (Nat.le_trans le1 le2) ⟨i2, k1.trans k2, r2⟩
  · cases e

theorem st_list (S : Snd c n r) (aok : AOk n A) {es : List PySem.Expr} {xs : List Ex} {p : Pos} (ts : TrEs c.nm env.scope.names es xs)
    (e : stepE r (.list xs) ρ = some (d, μ)) (i : Inv c env hid as ρ s.heap) (pt : 0 < s.toks) : Go c.M A (eval (.List es p) env) s (EvP c env hid as ρ μ s.heap d) := by
  dsimp only [stepE] at e
  split at e
  rotate_left
  · cases e
  rename_i ds μ1 e1
  split at e
  rotate_left
  · cases e
  rename_i q
  cases e
  intro Q E hQ
  refine wpAny_List (evs_ok S.ev aok ts e1 i pt _ _ fun vs h1 tk1 le1 hp => ?_)
  obtain ⟨i1, k1, r1⟩ := hp
  refine ⟨by rw [r1.length]; rw [← lim_eq]; exact q, hQ _ _ _ le1 ⟨i1.grow (Ext.refl.push _), k1.trans (Ext.refl.push _).keepB, ?_⟩⟩
  exact .list i1.alive.new ⟨_, Heap.get?_push_size _ rfl, rfl, _, rfl⟩ (by rw [List.toList_toArray]; exact r1.keep ((Ext.refl.push _).keep _))
theorem st_tup (S : Snd c n r) (aok : AOk n A) {es : List PySem.Expr} {xs : List Ex} {k : Nat} {p : Pos} (ts : TrEs c.nm env.scope.names es xs)
    (e : stepE r (.tup xs) ρ = some (d, μ)) (i : Inv c env hid as ρ s.heap) (pt : 0 < s.toks) : Go c.M A (eval (.Tuple es k p) env) s (EvP c env hid as ρ μ s.heap d) := by
  dsimp only [stepE] at e
  split at e
  rotate_left
  · cases e
  rename_i ds μ1 e1
  split at e
  rotate_left
  · cases e
  rename_i q
  cases e
  intro Q E hQ
  refine wpAny_Tuple (evs_ok S.ev aok ts e1 i pt _ _ fun vs h1 tk1 le1 hp => ?_)
  obtain ⟨i1, k1, r1⟩ := hp
  refine ⟨by rw [r1.length]; rw [← lim_eq]; exact q, hQ _ _ _ le1 ⟨i1.grow (Ext.refl.push _), k1.trans (Ext.refl.push _).keepB, ?_⟩⟩
  exact .tup i1.alive.new ⟨_, Heap.get?_push_size _ rfl, rfl, _, rfl⟩ (by rw [List.toList_toArray]; exact r1.keep ((Ext.refl.push _).keep _))

theorem notMods (ok : c.Ok) {h : Heap} (x : Ext c.h₀ h) : (h.objs.size == sysModules) = false := by
  obtain ⟨o, _, _, ho, _⟩ := ok.g
  have := Heap.lt_size (x _ _ ho)
  have h3 : (mainGlobals : Nat) = 3 := rfl
  have h1 : (sysModules : Nat) = 1 := rfl
  rw [beq_eq_false_iff_ne]
  intro q
  rw [h3, q, h1] at this
  exact absurd this (by decide)
theorem st_dict0 (ok : c.Ok) {p : Pos} (e : stepE r .dict0 ρ = some (d, μ)) (i : Inv c env hid as ρ s.heap) : Go c.M A (eval (.Dict [] [] p) env) s (EvP c env hid as ρ μ s.heap d) := by
  dsimp only [stepE] at e
  cases e
  intro Q E hQ
  refine wpAny_Dict_empty (hQ _ _ s.toks (Nat.le_refl _) ⟨i.grow (Ext.refl.push _), (Ext.refl.push _).keepB, ?_⟩)
  exact .dict i.alive.new (notMods ok i.ext) (Heap.DictOf.new _) .nil

theorem st_idx (S : Snd c n r) (aok : AOk n A) {a b : PySem.Expr} {x y : Ex} {p : Pos} (hp : PlainI b) (ta : TrE c.nm env.scope.names a x) (tb : TrE c.nm env.scope.names b y)
    (e : stepE r (.idx x y) ρ = some (d, μ)) (i : Inv c env hid as ρ s.heap) (pt : 0 < s.toks) : Go c.M A (eval (.Subscript a b p) env) s (EvP c env hid as ρ μ s.heap d) := by
  dsimp only [stepE] at e
  split at e
  rotate_left
  · cases e
  rename_i d1 μ1 e1
  split at e
  rotate_left
  · cases e
  rename_i d2 μ2 e2
  rw [Option.map_eq_some_iff] at e
  obtain ⟨z, e3, e⟩ := e
  cases e
  intro Q E hQ
  refine Subscript_ (S.ev aok ta e1 i pt _ _ fun va h1 tk1 le1 ⟨i1, k1, r1⟩ => S.ev aok tb e2 i1 (lt2 pt le1) _ _ fun vb h2 tk2 le2 hp => ?_)
  obtain ⟨i2, k2, r2⟩ := hp
  exact idx_ok e3 (r1.keep (k2.keep hid)) r2 hp _ _ fun v h3 tk3 le3 ⟨x3, r3⟩ => hQ _ _ _ (Nat.le_trans le1 (Nat.le_trans le2 le3)) (by subst x3; exact ⟨i2, k1.trans k2, r3⟩)
end
end Mine
end

section
open PySem PySem.W PyProof.Rows
set_option Elab.async false
set_option maxRecDepth 10000
namespace Mine

theorem ns_unique {h : Heap} {a : Addr} {m m' : Str → Option Value} (x : h.Ns a m) (y : h.Ns a m') : m = m' := by
  obtain ⟨o, es, ep, ho, hd, _, hm⟩ := x
  obtain ⟨o', es', ep', ho', hd', _, hm'⟩ := y
  rw [ho] at ho'
  cases ho'
  rw [hd] at hd'
  cases hd'
  funext n
  rw [← hm, ← hm']

section
variable {M : Model} {A : Around} {E : Value → Shared → Prop} {s : Shared} {env : Env}
theorem starE_cons {e : PySem.Expr} {rest : List PySem.Expr} {pos : Pos} (h : starEach (e :: rest) env = (false, eval e env) :: starEach rest env) : backTo pos (starEach (e :: rest) env) = (false, eval e env) :: backTo pos (starEach rest env) := by
  rw [h]; rfl
theorem args_plain {nm : Nat → Str} {sc : Sc} {pos : Pos}  {es : List PySem.Expr} {xs : List Ex} (t : TrEs nm sc es xs) : (backTo pos (starEach es env)).any (·.1) = false := by
  induction xs generalizing es with
  | nil => cases t; rfl
  | cons x xs ih =>
    cases t with
    | cons sole _ t => rw [starE_cons (sole _ _), List.any_cons, ih t]; rfl

theorem method_call {o : PySem.Expr} {name : Str} {apos pos : Pos} {args : List PySem.Expr} {Q : Value → Shared → Prop} (hbase : BaseOk o name)
    (hplain : (backTo pos (starEach args env)).any (·.1) = false) (hlen : args.length < 30) (hline : (apos.endLine == pos.line) = true)
    (h : wpAny M A (eval o env) (fun ov s₁ => ∃ id : String, (∀ (pl : Sem Bool) (Q' : Value × List Value → Shared → Prop) (E' : Value → Shared → Prop), Q' (.builtin id, [ov]) s₁ → wpAny M A (getMethod ov name pl) Q' E' s₁) ∧
      wpAny M A (callWith pos (.builtin id) [ov] (backTo pos (starEach args env)) []) Q E s₁) E s) :
    wpAny M A (eval (.Call (.Attribute o name apos) args [] pos) env) Q E s := by
  rw [arm_eval_Call, hbase]
  refine wpAny_bind (wpAny_mono h (fun ov s₁ h₁ => ?_) fun _ _ e => e)
  obtain ⟨id, hg, hc⟩ := h₁
  refine wpAny_bind (wpAny_standAt ?_)
  have hall : (backTo pos (starEach args env)).all (fun x => !x.1) = true := by
    rw [List.all_eq_true]
    intro x hx
    have := List.any_eq_false.mp hplain x hx
    simpa using this
  have hform : methodCallForm (args.length + ([] : List Keyword).length) (backTo pos (starEach args env)) (backToKw pos (keywordEach [] env)) = true := by
    show ((backTo pos (starEach args env)).all (fun x => !x.1) && true && decide (args.length + 0 + 0 < 30)) = true
    rw [hall]; simpa using hlen
  have hpos : methodCallPos true o env apos pos = pure pos := by unfold methodCallPos; simp [hline]
  unfold methodCall
  rw [hform]
  exact wpAny_bind (wpAny_holding (hg _ _ _ (wpAny_bind (wpAny_of_eq hpos hc))))
end

section
variable {c : Cx} {n : Nat} {r : Rec} {env : Env} {hid as : List Addr} {ρ : Rho} {A : Around} {s : Shared} {d : Dat} {μ : Mu}

theorem args_ok (S : EvOk c n r) (aok : AOk n A) {pos : Pos} {f : Value} {es : List PySem.Expr} {xs : List Ex} {ds : List Dat} (t : TrEs c.nm env.scope.names es xs) (e : evs r xs ρ = some (ds, μ)) (i : Inv c env hid as ρ s.heap) (pt : 0 < s.toks) :
    Go c.M A (evalArgs f true (backTo pos (starEach es env)) []) s fun a h' => a.kw = [] ∧ Inv c env hid as ⟨ρ.vars, μ⟩ h' ∧ KeepB as s.heap h' ∧ RepL c.prog c.w h' (as ++ hid) a.pos ds := by
  intro Q E hQ
  cases id t with
  | nil =>
    cases e
    exact evalArgs_nil3 (hQ _ s.heap s.toks (Nat.le_refl _) ⟨rfl, i, .refl, .nil⟩)
  | cons sole _ _ =>
    rw [starE_cons (sole _ _)]
    refine Calls.evalArgs_plain ?_
    rw [← starE_cons (sole _ _)]
    exact evs_ok S aok t e i pt _ _ fun vs h1 tk1 le1 hP => hQ _ _ _ le1 ⟨rfl, hP⟩

theorem evO_ok (S : Snd c n r) (aok : AOk n A) {e : Option PySem.Expr} {x : Option Ex} {d : Option Dat} (t : TrO c.nm env.scope.names e x) (ev : evO r x ρ = some (d, μ)) (i : Inv c env hid as ρ s.heap) (pt : 0 < s.toks) :
    Go c.M A (evalPart e env) s fun v h' => Inv c env hid as ⟨ρ.vars, μ⟩ h' ∧ KeepB as s.heap h' ∧ (∀ o, intO d = some o → partOf d v) := by
  cases t with
  | none =>
    cases ev
    intro Q E hQ
    exact wpAny_pure (hQ _ s.heap s.toks (Nat.le_refl _) ⟨i, .refl, fun _ _ => rfl⟩)
  | some t =>
    dsimp only [evO] at ev
    split at ev
    rotate_left
    · cases ev
    rename_i d1 μ1 e1
    cases ev
    intro Q E hQ
    refine S.ev aok t e1 i pt _ _ fun v h1 tk1 le1 ⟨i1, k1, r1⟩ => hQ _ _ _ le1 ⟨i1, k1, fun o ho => ?_⟩
    cases r1 with
    | int => exact ⟨_, rfl⟩
    | _ => simp [intO] at ho

theorem part_after {d : Option Dat} {v : Value} (p : partOf d v) : partOf d v := p

theorem st_slice (S : Snd c n r) (aok : AOk n A) {a : PySem.Expr} {lo hi : Option PySem.Expr} {x : Ex} {l h : Option Ex} {p p' : Pos} (ta : TrE c.nm env.scope.names a x) (tl : TrO c.nm env.scope.names lo l) (th : TrO c.nm env.scope.names hi h)
    (e : stepE r (.slice x l h) ρ = some (d, μ)) (i : Inv c env hid as ρ s.heap) (pt : 0 < s.toks) : Go c.M A (eval (.Subscript a (.Slice lo hi none p) p') env) s (EvP c env hid as ρ μ s.heap d) := by
  dsimp only [stepE] at e
  split at e
  rotate_left
  · cases e
  rename_i d1 μ1 e1
  split at e
  rotate_left
  · cases e
  rename_i d2 μ2 e2
  split at e
  rotate_left
  · cases e
  rename_i d3 μ3 e3
  split at e
  rotate_left
  · cases e
  rename_i l' h' el eh
  rw [Option.map_eq_some_iff] at e
  obtain ⟨z, ez, e⟩ := e
  cases e
  intro Q E hQ
  refine Subscript_ (S.ev aok ta e1 i pt _ _ fun va h1 tk1 le1 ⟨i1, k1, r1⟩ => wpAny_Slice (evO_ok S aok tl e2 i1 (lt2 pt le1) _ _ fun vl h2 tk2 le2 ⟨i2, k2, p2⟩ => evO_ok S aok th e3 i2 (lt3 pt le1 le2) _ _ fun vu h3 tk3 le3 hp => ?_))
  obtain ⟨i3, k3, p3⟩ := hp
  refine wpAny_pure ?_
  refine slice_ok (s := { s with heap := h3, toks := tk3 }) ez el eh ((r1.keep (k2.keep hid)).keep (k3.keep hid)) (p2 _ el) (p3 _ eh) i3.alive _ _ fun v h4 tk4 le4 hp => ?_
  obtain ⟨x4, r4⟩ := hp
  exact hQ _ _ _ (Nat.le_trans le1 (Nat.le_trans le2 (Nat.le_trans le3 le4))) ⟨i3.grow x4, ((k1.trans k2).trans k3).trans x4.keepB, r4⟩

theorem st_call (ok : c.Ok) (S : Snd c n r) (aok : AOk n A) {nf : Str} {f : Nat} {args : List PySem.Expr} {xs : List Ex} {p p' : Pos} (hn : nf = c.nm f) (hk : env.scope.names.lookup nf = some .globalImplicit) (ts : TrEs c.nm env.scope.names args xs)
    (e : stepE r (.call f xs) ρ = some (d, μ)) (i : Inv c env hid as ρ s.heap) (pt : 0 < s.toks) : Go c.M A (eval (.Call (.Name nf p) args [] p') env) s (EvP c env hid as ρ μ s.heap d) := by
  dsimp only [stepE] at e
  split at e
  rotate_left
  · cases e
  rename_i ds μ1 e1
  split at e
  rotate_left
  · cases e
  rename_i d1 e2
  cases e
  obtain ⟨fa, o, fd, hf, ho, hd⟩ := S.glob e2
  intro Q E hQ
  refine wpAny_Call_NameR (load_fun ok i hn hk hf ?_)
  refine Calls.callWith_function (o := o) (fd := fd) (args_ok S.ev aok ts e1 i pt _ _ fun a h1 tk1 le1 hp => ?_)
  obtain ⟨kw, i1, k1, r1⟩ := hp
  refine ⟨⟨i1.ext _ _ ho, hd⟩, ?_⟩
  rw [kw]
  exact S.call (s := { s with heap := h1, toks := tk1 }) aok e2 hf i1.ext i1.old i1.alive r1 (lt2 pt le1) _ _ fun v h2 tk2 le2 ⟨x2, r2⟩ => hQ _ _ _ (Nat.le_trans le1 le2) ⟨i1.grow x2, k1.trans x2.keepB, r2⟩

/-! expressions that see nothing of what the frame owns -/
theorem Inv.seal {h : Heap} (i : Inv c env hid as ρ h) : Inv c env (as ++ hid) [] ⟨ρ.vars, none⟩ h := by
  obtain ⟨m, hn, hv, _⟩ := i.loc
  exact ⟨⟨i.fm.kind, i.fm.globals, i.fm.builtins, List.mem_append_right _ i.fm.lh, fun n a e => ⟨List.mem_append_right _ (i.fm.ch n a e).1, (i.fm.ch n a e).2⟩, i.fm.cd, i.fm.ce⟩,
    i.old, i.ext, i.alive, fun _ h => (nomatch h), i.cells, ⟨m, hn, hv, rfl⟩, fun _ _ e => (nomatch e)⟩
theorem KeepB.ext {h h' : Heap} (k : KeepB [] h h') : Ext h h' := fun b o e => k b o (fun q => nomatch q) e
theorem sev_ok (S : EvOk c n r) (aok : AOk n A) {e : PySem.Expr} {x : Ex} {ν : Mu} (t : TrE c.nm env.scope.names e x) (ev : r.ev x ⟨ρ.vars, none⟩ = some (d, ν)) (i : Inv c env hid as ρ s.heap) (pt : 0 < s.toks) :
    Go c.M A (eval e env) s fun v h' => Ext s.heap h' ∧ Rep c.prog c.w h' (as ++ hid) v d :=
  (S aok t ev i.seal pt).mono fun _ _ ⟨_, k, r⟩ => ⟨k.ext, r⟩
theorem sevs_ok (S : EvOk c n r) (aok : AOk n A) {es : List PySem.Expr} {xs : List Ex} {ds : List Dat} {ν : Mu} {pos : Pos} (t : TrEs c.nm env.scope.names es xs) (ev : evs r xs ⟨ρ.vars, none⟩ = some (ds, ν)) (i : Inv c env hid as ρ s.heap) (pt : 0 < s.toks) :
    Go c.M A (spliced (backTo pos (starEach es env))) s fun vs h' => Ext s.heap h' ∧ RepL c.prog c.w h' (as ++ hid) vs ds :=
  (evs_ok S aok t ev i.seal pt).mono fun _ _ ⟨_, k, r⟩ => ⟨k.ext, r⟩
theorem Ext.keep2 {h h' : Heap} (x : Ext h h') : Keep h (as ++ hid) h' (as ++ hid) := x.keep _

theorem st_callIO (ok : c.Ok) (S : Snd c n r) (aok : AOk n A) {nf nv : Str} {f x : Nat} {args : List PySem.Expr} {xs : List Ex} {p p' q : Pos} (hn : nf = c.nm f) (hk : env.scope.names.lookup nf = some .globalImplicit) (ow : Owned c.nm env.scope.names nv x) (ts : TrEs c.nm env.scope.names args xs)
    (e : stepE r (.callIO f x xs) ρ = some (d, μ)) (i : Inv c env hid as ρ s.heap) (pt : 0 < s.toks) : Go c.M A (eval (.Call (.Name nf p) (.Name nv q :: args) [] p') env) s (EvP c env hid as ρ μ s.heap d) := by
  dsimp only [stepE] at e
  split at e
  rotate_left
  · cases e
  rename_i md em
  split at e
  rotate_left
  · cases e
  rename_i ds e1
  split at e
  rotate_left
  · cases e
  rename_i d1 m1 e2
  cases e
  obtain ⟨fa, o, fd, hf, ho, hd⟩ := S.glob e2
  obtain ⟨_, kind, nl, m, a, hns, hv, hm, hr⟩ := i.ownAt em
  intro Q E hQ
  refine wpAny_Call_NameR (load_fun ok i hn hk hf ?_)
  refine Calls.callWith_function (o := o) (fd := fd) ?_
  rw [starE_cons rfl]
  refine Calls.evalArgs_plain (Calls.spliced_cons (load_own ok i ow hns hm (sevs_ok S.ev aok ts e1 i pt _ _ fun vs h1 tk1 le1 hp => ?_)))
  obtain ⟨x1, r1⟩ := hp
  have i1 := i.grow x1
  refine ⟨⟨i1.ext _ _ ho, hd⟩, ?_⟩
  refine S.callIO (s := { s with heap := h1, toks := tk1 }) aok e2 hf i1.ext i1.old i1.alive i1.disj (hr.keep (x1.keep _) fun b _ o e => x1 b o e) r1 (lt2 pt le1) _ _ fun v h2 tk2 le2 hp => ?_
  obtain ⟨k2, al2, mr2, r2⟩ := hp
  exact hQ _ _ _ (Nat.le_trans le1 le2) ⟨i1.own kind (hns.keeps x1) (hv.keep (x1.keep _) fun _ a _ o => x1 a o) hm nl k2 al2 (fun _ h => .inl h) mr2, x1.keepB.trans k2, r2⟩

theorem callWith_fn {f : F1} {a : PySem.Expr} {pos : Pos} {Q : Value → Shared → Prop} {E : Value → Shared → Prop} (sole : Sole a)
    (h : wpAny c.M A (eval a env) (fun v s₁ => wpAny c.M A (call (fnOf' f) [v]) Q E s₁) E s) : wpAny c.M A (callWith pos (fnOf' f) [] (backTo pos (starEach [a] env)) []) Q E s := by
  have h0 : wpAny c.M A (spliced (backTo pos (starEach [a] env))) (fun vs s₁ => wpAny c.M A (call (fnOf' f) vs) Q E s₁) E s := by
    rw [starE_cons (sole _ _)]
    exact Calls.spliced_cons (wpAny_mono h (fun v s₁ h₁ => Calls.spliced_nil h₁) fun _ _ e => e)
  cases f with
  | list => exact PyProof.Rows.callWith_type1 h0 (sole _ _) rfl
  | _ => exact PyProof.Rows.callWith_builtin1 h0 (sole _ _) rfl
theorem f1_debug (f : F1) : (f1Name f == ("__debug__" : Str)) = false := by cases f <;> decide
theorem st_fn (ok : c.Ok) (S : Snd c n r) (aok : AOk n A) {nf : Str} {f : F1} {a : PySem.Expr} {x : Ex} {p p' : Pos} (hn : nf = f1Name f) (hk : env.scope.names.lookup nf = some .globalImplicit) (sole : Sole a) (ta : TrE c.nm env.scope.names a x)
    (e : stepE r (.fn f x) ρ = some (d, μ)) (i : Inv c env hid as ρ s.heap) (pt : 0 < s.toks) : Go c.M A (eval (.Call (.Name nf p) [a] [] p') env) s (EvP c env hid as ρ μ s.heap d) := by
  subst hn
  dsimp only [stepE] at e
  split at e
  rotate_left
  · cases e
  rename_i d1 μ1 e1
  rw [Option.map_eq_some_iff] at e
  obtain ⟨z, e3, e⟩ := e
  cases e
  intro Q E hQ
  refine wpAny_Call_NameR (load_b ok i hk (ok.fn f).1 (ok.fn f).2 (f1_debug f) (callWith_fn sole ?_))
  refine S.ev aok ta e1 i pt _ _ fun va h1 tk1 le1 hp => ?_
  obtain ⟨i1, k1, r1⟩ := hp
  exact fn_ok e3 r1 i1.alive aok.handled _ _ fun v h3 tk3 le3 ⟨x3, r3⟩ => hQ _ _ _ (Nat.le_trans le1 le3) ⟨i1.grow x3, k1.trans x3.keepB, r3⟩

theorem callWith_m {id : String} {ov : Value} {args : List PySem.Expr} {pos : Pos} {Q : Value → Shared → Prop} {E : Value → Shared → Prop} (hp : (backTo pos (starEach args env)).any (·.1) = false)
    (h : wpAny c.M A (evalArgs (.builtin id) true (backTo pos (starEach args env)) []) (fun a s₁ => wpAny c.M A (call (.builtin id) (ov :: a.pos) a.kw) Q E s₁) E s) :
    wpAny c.M A (callWith pos (.builtin id) [ov] (backTo pos (starEach args env)) []) Q E s := Calls.callWith_builtin hp h
theorem any0 {pos : Pos} : (backTo pos (starEach [] env)).any (·.1) = false := rfl
theorem any1 {pos : Pos} {a : PySem.Expr} (h : Sole a) : (backTo pos (starEach [a] env)).any (·.1) = false := by rw [starE_cons (h _ _)]; rfl
theorem any2 {pos : Pos} {a b : PySem.Expr} (h : Sole a) (g : Sole b) : (backTo pos (starEach [a, b] env)).any (·.1) = false := by rw [starE_cons (h _ _), starE_cons (g _ _)]; rfl
theorem ev1 {id : Value} {pos : Pos} {a : PySem.Expr} {Q : Args → Shared → Prop} {E : Value → Shared → Prop} (h : Sole a) (w : wpAny c.M A (eval a env) (fun v s₁ => Q ⟨[v], []⟩ s₁) E s) :
    wpAny c.M A (evalArgs id true (backTo pos (starEach [a] env)) []) Q E s := by
  rw [starE_cons (h _ _)]
  exact Calls.evalArgs_plain (Calls.spliced_cons (wpAny_mono w (fun v s₁ h₁ => Calls.spliced_nil h₁) fun _ _ e => e))
theorem ev2 {id : Value} {pos : Pos} {a b : PySem.Expr} {Q : Args → Shared → Prop} {E : Value → Shared → Prop} (h : Sole a) (g : Sole b) (w : wpAny c.M A (eval a env) (fun v s₁ => wpAny c.M A (eval b env) (fun u s₂ => Q ⟨[v, u], []⟩ s₂) E s₁) E s) :
    wpAny c.M A (evalArgs id true (backTo pos (starEach [a, b] env)) []) Q E s := by
  rw [starE_cons (h _ _), starE_cons (g _ _)]
  exact Calls.evalArgs_plain (Calls.spliced_cons (wpAny_mono w (fun v s₁ h₁ => Calls.spliced_cons (wpAny_mono h₁ (fun u s₂ h₂ => Calls.spliced_nil h₂) fun _ _ e => e)) fun _ _ e => e))

theorem st_m0 (S : Snd c n r) (aok : AOk n A) {nf : Str} {m : M0} {a : PySem.Expr} {x : Ex} {p p' : Pos} (hn : nf = m0Name m) (hb : BaseOk a nf) (hl : (p.endLine == p'.line) = true) (ta : TrE c.nm env.scope.names a x)
    (e : stepE r (.m0 m x) ρ = some (d, μ)) (i : Inv c env hid as ρ s.heap) (pt : 0 < s.toks) : Go c.M A (eval (.Call (.Attribute a nf p) [] [] p') env) s (EvP c env hid as ρ μ s.heap d) := by
  subst hn
  dsimp only [stepE] at e
  split at e
  rotate_left
  · cases e
  rename_i d1 μ1 e1
  rw [Option.map_eq_some_iff] at e
  obtain ⟨z, e3, e⟩ := e
  cases e
  intro Q E hQ
  refine method_call hb any0 (by decide) hl (S.ev aok ta e1 i pt _ _ fun va h1 tk1 le1 hp => ?_)
  obtain ⟨i1, k1, r1⟩ := hp
  obtain ⟨id, hg, hc⟩ := m0_ok (prog := c.prog) (w := c.w) (A := A) (s := { s with heap := h1, toks := tk1 }) e3 r1 i1.alive
  refine ⟨id, fun pl Q' E' hq => hg pl _ Q' E' .refl hq, callWith_m any0 (evalArgs_nil3 ?_)⟩
  exact hc _ _ fun v h3 tk3 le3 ⟨x3, r3⟩ => hQ _ _ _ (Nat.le_trans le1 le3) ⟨i1.grow x3, k1.trans x3.keepB, r3⟩

theorem st_m1 (S : Snd c n r) (aok : AOk n A) {nf : Str} {m : M1} {a b : PySem.Expr} {x y : Ex} {p p' : Pos} (hn : nf = m1Name m) (hb : BaseOk a nf) (hl : (p.endLine == p'.line) = true) (sole : Sole b) (ta : TrE c.nm env.scope.names a x) (tb : TrE c.nm env.scope.names b y)
    (e : stepE r (.m1 m x y) ρ = some (d, μ)) (i : Inv c env hid as ρ s.heap) (pt : 0 < s.toks) : Go c.M A (eval (.Call (.Attribute a nf p) [b] [] p') env) s (EvP c env hid as ρ μ s.heap d) := by
  subst hn
  dsimp only [stepE] at e
  split at e
  rotate_left
  · cases e
  rename_i d1 μ1 e1
  split at e
  rotate_left
  · cases e
  rename_i d2 μ2 e2
  rw [Option.map_eq_some_iff] at e
  obtain ⟨z, e3, e⟩ := e
  cases e
  intro Q E hQ
  refine method_call hb (any1 sole) (by show 1 < 30; decide) hl (S.ev aok ta e1 i pt _ _ fun va h1 tk1 le1 hp => ?_)
  obtain ⟨i1, k1, r1⟩ := hp
  refine ⟨_, fun pl Q' E' hq => m1_get e3 r1 pl _ Q' E' hq, callWith_m (any1 sole) (ev1 sole ?_)⟩
  refine S.ev aok tb e2 i1 (lt2 pt le1) _ _ fun vb h2 tk2 le2 hp => ?_
  obtain ⟨i2, k2, r2⟩ := hp
  exact m1_ok e3 (r1.keep (k2.keep hid)) r2 i2.alive _ _ fun v h3 tk3 le3 ⟨x3, r3⟩ => hQ _ _ _ (Nat.le_trans le1 (Nat.le_trans le2 le3)) ⟨i2.grow x3, (k1.trans k2).trans x3.keepB, r3⟩

theorem st_replace (S : Snd c n r) (aok : AOk n A) {nf : Str} {a : PySem.Expr} {x : Ex} {y z : Str} {p p' q q' : Pos} {k k' : Nat} (hn : nf = m2Name .replace) (hb : BaseOk a nf) (hl : (p.endLine == p'.line) = true) (ta : TrE c.nm env.scope.names a x)
    (e : stepE r (.m2 .replace x (.str y) (.str z)) ρ = some (d, μ)) (i : Inv c env hid as ρ s.heap) (pt : 0 < s.toks) :
    Go c.M A (eval (.Call (.Attribute a nf p) [.Constant (.str y) k q, .Constant (.str z) k' q'] [] p') env) s (EvP c env hid as ρ μ s.heap d) := by
  subst hn
  dsimp only [stepE] at e
  split at e
  rotate_left
  · cases e
  rename_i d1 μ1 e1
  split at e
  rotate_left
  · cases e
  rename_i d2 μ2 e2
  split at e
  rotate_left
  · cases e
  rename_i d3 μ3 e3
  obtain ⟨rfl, rfl⟩ := S.lit e2
  obtain ⟨rfl, rfl⟩ := S.lit e3
  rw [Option.map_eq_some_iff] at e
  obtain ⟨u, e4, e⟩ := e
  cases e
  intro Q E hQ
  have s1 : Sole (.Constant (.str y) k q) := fun _ _ => rfl
  have s2 : Sole (.Constant (.str z) k' q') := fun _ _ => rfl
  refine method_call hb (any2 s1 s2) (by show 2 < 30; decide) hl (S.ev aok ta e1 i pt _ _ fun va h1 tk1 le1 hp => ?_)
  obtain ⟨i1, k1, r1⟩ := hp
  cases r1 with
  | @str w t =>
    simp only [r_rep, r_get, someS_eq] at e4
    split at e4
    rotate_left
    · cases e4
    rename_i f
    cases e4
    refine ⟨"str.replace", fun pl Q' E' hq => GM.replace hq, callWith_m (any2 s1 s2) (ev2 s1 s2 (wpAny_Constant_str (wpAny_Constant_str ?_)))⟩
    have pt1 := lt2 pt le1
    have g : Go c.M A (call (.builtin "str.replace") [.str w t, .str y tk1, .str z (tk1 + 1)]) { s with heap := h1, toks := tk1 + 1 + 1 } fun v h' => h' = h1 ∧ ∃ t, v = .str (Txt.replace w y z) t :=
      Go.of fun Q E hQ => SC.replace (Nat.pos_iff_ne_zero.mp pt1) (Nat.succ_ne_zero _) (Nat.ne_of_lt (Nat.lt_succ_self _)) f.1 f.2 fun t' kk => hQ _ _ kk ⟨rfl, _, rfl⟩
    refine g _ _ fun v h3 tk3 le3 hp => ?_
    obtain ⟨x3, t3, hv⟩ := hp
    subst x3 hv
    exact hQ _ _ _ (Nat.le_trans le1 (Nat.le_trans (Nat.le_trans (Nat.le_succ _) (Nat.le_succ _)) le3)) ⟨i1, k1, .str⟩
  | _ => exact nn e4

theorem st_get (S : Snd c n r) (aok : AOk n A) {nf : Str} {a b u : PySem.Expr} {x y z : Ex} {p p' : Pos} (hn : nf = m2Name .get) (hb : BaseOk a nf) (hl : (p.endLine == p'.line) = true) (sole : Sole b) (sole' : Sole u) (ta : TrE c.nm env.scope.names a x) (tb : TrE c.nm env.scope.names b y)
    (tu : TrE c.nm env.scope.names u z) (e : stepE r (.m2 .get x y z) ρ = some (d, μ)) (i : Inv c env hid as ρ s.heap) (pt : 0 < s.toks) : Go c.M A (eval (.Call (.Attribute a nf p) [b, u] [] p') env) s (EvP c env hid as ρ μ s.heap d) := by
  subst hn
  dsimp only [stepE] at e
  split at e
  rotate_left
  · cases e
  rename_i d1 μ1 e1
  split at e
  rotate_left
  · cases e
  rename_i d2 μ2 e2
  split at e
  rotate_left
  · cases e
  rename_i d3 μ3 e3
  rw [Option.map_eq_some_iff] at e
  obtain ⟨z, e4, e⟩ := e
  cases e
  intro Q E hQ
  have sh : ∃ kvs k, d1 = .dict kvs ∧ d2 = .str k := by
    cases d1 <;> cases d2 <;> first | exact ⟨_, _, rfl, rfl⟩ | (exact nn e4)
  obtain ⟨kvs, k, rfl, rfl⟩ := sh
  refine method_call hb (any2 sole sole') (by show 2 < 30; decide) hl (S.ev aok ta e1 i pt _ _ fun va h1 tk1 le1 hp => ?_)
  obtain ⟨i1, k1, r1⟩ := hp
  refine ⟨_, fun pl Q' E' hq => get_get r1 .refl pl Q' E' hq, callWith_m (any2 sole sole') (ev2 sole sole' ?_)⟩
  refine S.ev aok tb e2 i1 (lt2 pt le1) _ _ fun vb h2 tk2 le2 ⟨i2, k2, r2⟩ => S.ev aok tu e3 i2 (lt3 pt le1 le2) _ _ fun vc h3 tk3 le3 hp => ?_
  obtain ⟨i3, k3, r3⟩ := hp
  exact get_ok e4 ((r1.keep (k2.keep hid)).keep (k3.keep hid)) (r2.keep (k3.keep hid)) r3 _ _ fun v h4 tk4 le4 ⟨x4, r4⟩ =>
    hQ _ _ _ (Nat.le_trans le1 (Nat.le_trans le2 (Nat.le_trans le3 le4))) (by subst x4; exact ⟨i3, (k1.trans k2).trans k3, r4⟩)
end
end Mine
end

section
open PySem PySem.W PyProof.Rows
set_option Elab.async false
set_option maxRecDepth 10000
namespace Mine

section
variable {c : Cx} {n : Nat} {r : Rec} {env : Env} {hid as : List Addr} {ρ : Rho} {A : Around} {s : Shared} {d : Dat} {μ : Mu}

theorem join_own (ok : c.Ok) {nf nv t : Str} {x : Nat} {p p' q q' : Pos} {k : Nat} (hn : nf = m1Name .join) (hl : (p.endLine == p'.line) = true) (ow : Owned c.nm env.scope.names nv x)
    (e : stepE r (.joinOwn t x) ρ = some (d, μ)) (i : Inv c env hid as ρ s.heap) : Go c.M A (eval (.Call (.Attribute (.Constant (.str t) k q) nf p) [.Name nv q'] [] p') env) s (EvP c env hid as ρ μ s.heap d) := by
  subst hn
  dsimp only [stepE] at e
  split at e
  rotate_left
  · cases e
  rename_i xs em
  rw [Option.map_eq_some_iff] at e
  obtain ⟨z, e3, e⟩ := e
  cases e
  obtain ⟨_, kind, nl, m, a, hns, hv, hm, hr⟩ := i.ownAt em
  obtain ⟨_, vs, hpl, rl⟩ := hr
  have hl' := hpl.isList
  simp only [r_split, r_join, r_sw, someL_eq, join_eq] at e3
  cases hs : strsD xs with
  | none => rw [hs] at e3; cases e3
  | some l =>
    rw [hs] at e3
    simp only at e3
    split at e3
    rotate_left
    · cases e3
    rename_i f
    cases e3
    have := strsD_map hs
    subst this
    intro Q E hQ
    have s1 : Sole (.Name nv q') := fun _ _ => rfl
    refine method_call (fun _ => rfl) (any1 s1) (by show 1 < 30; decide) hl (wpAny_Constant_str ?_)
    refine ⟨"str.join", fun pl Q' E' hq => GM.join hq, callWith_m (any1 s1) (ev1 s1 (load_own ok i ow hns hm ?_))⟩
    have g : Go c.M A (call (.builtin "str.join") [.str t s.toks, .ref a]) { s with toks := s.toks + 1 } fun v h' => h' = s.heap ∧ ∃ u, v = .str (Txt.join t l) u :=
      Go.of fun Q E hQ => join_list hl' rl.strs (by simpa [lim] using f) fun t' k => hQ _ s.heap k ⟨rfl, _, rfl⟩
    refine g _ _ fun v h1 tk1 le1 hp => ?_
    obtain ⟨x1, u, hv⟩ := hp
    subst x1 hv
    exact hQ _ _ _ (Nat.le_trans (Nat.le_succ _) le1) ⟨i, .refl, .str⟩

theorem list_item {a : Addr} {vs : Array Value} {xs : List Dat} {z : Dat} {i : Int} {t : Tok} {hidA : List Addr} {value slice : PySem.Expr} (e : idxD (.list xs) (.int i) = some z) (la : s.heap.IsList a vs) (ra : RepL c.prog c.w s.heap hidA vs.toList xs)
    (hs : PlainI slice) : Go c.M A (subscriptTail value slice (.ref a) (.int i t)) s fun v h' => h' = s.heap ∧ Rep c.prog c.w h' hidA v z := by
  refine Go.of fun Q E hQ => ?_
  have hl : (lim : Int) = 16777216 := rfl
  simp only [r_idxl, r_idxt, r_idxs, r_idxd] at e
  split at e
  · rename_i f
    obtain ⟨v, hv, rv⟩ := ra.get e
    exact tail_any la.typeIs slot_list_getitem.lookup (wpAny_getItem_list la f.1 (by omega) (by simpa using hv) (hQ v s.heap s.toks ⟨rfl, rv⟩)) (hs _ _)
  · cases e
theorem dict_item {a : Addr} {va : List (Str × Value)} {v : Value} {k : Str} {t : Tok} {value slice : PySem.Expr} (da : s.heap.DictOf (PySem.strKind c.prog c.w) a va) (hv : valueAt va k = some v) (hs : PlainI slice) :
    Go c.M A (subscriptTail value slice (.ref a) (.str k t)) s fun u h' => h' = s.heap ∧ u = v := Go.of fun Q E hQ =>
  tail_any da.typeIs slot_dict_getitem.lookup (wpAny_getItem_of (strKind_is c.prog c.w k t) da.mapOf hv (hQ v s.heap (s.toks + 1) ⟨rfl, rfl⟩)) (hs _ _)

theorem seqRep {hidA : List Addr} {h : Heap} {a : Addr} {md : MDat} {xs : List Dat} (R : MRep c hidA h a as md) (e : seqOf md = some xs) : as = [a] ∧ ∃ vs, h.IsList a vs ∧ RepL c.prog c.w h hidA vs.toList xs := by
  cases md with
  | list ys => cases e; obtain ⟨h1, vs, h2, h3⟩ := R; exact ⟨h1, vs, h2.isList, h3⟩
  | arr ys => cases e; exact R
  | _ => cases e
theorem own_idx (ok : c.Ok) (S : Snd c n r) (aok : AOk n A) {nv : Str} {x : Nat} {ie : PySem.Expr} {y : Ex} {p q : Pos} (ow : Owned c.nm env.scope.names nv x) (hp : PlainI ie) (ti : TrE c.nm env.scope.names ie y)
    (e : stepE r (.ownIdx x y) ρ = some (d, μ)) (i : Inv c env hid as ρ s.heap) (pt : 0 < s.toks) : Go c.M A (eval (.Subscript (.Name nv q) ie p) env) s (EvP c env hid as ρ μ s.heap d) := by
  dsimp only [stepE] at e
  split at e
  rotate_left
  · cases e
  rename_i xs em
  split at e
  rotate_left
  · cases e
  rename_i k e1
  rw [Option.map_eq_some_iff] at e
  obtain ⟨z, e3, e⟩ := e
  cases e
  rw [Option.bind_eq_some_iff] at em
  obtain ⟨md, em, sm⟩ := em
  obtain ⟨_, kind, nl, m, a, hns, hv, hm, hr⟩ := i.ownAt em
  obtain ⟨_, vs, hl, rl⟩ := seqRep hr sm
  intro Q E hQ
  refine Subscript_ (load_own ok i ow hns hm (sev_ok S.ev aok ti e1 i pt _ _ fun v h1 tk1 le1 hp => ?_))
  obtain ⟨x1, r1⟩ := hp
  cases r1 with
  | @int _ t =>
    refine list_item (s := { s with heap := h1, toks := tk1 }) e3 (hl.at fun o e => x1 _ o e) (rl.keep (x1.keep _)) hp _ _ fun v h2 tk2 le2 hp => ?_
    obtain ⟨x2, r2⟩ := hp
    subst x2
    exact hQ _ _ _ (Nat.le_trans le1 le2) ⟨i.grow x1, x1.keepB, r2⟩

theorem Rep2.find {hidA : List Addr} {h : Heap} {v : List (Str × Value)} {kvs : List (Str × List (Str × Dat))} {bs : List Addr} (R : Rep2 c hidA h v kvs bs) {k : Str} {inner : List (Str × Dat)} (e : getD kvs k = some inner) :
    ∃ b vs, valueAt v k = some (.ref b) ∧ b ∈ bs ∧ (b == sysModules) = false ∧ h.DictOf (PySem.strKind c.prog c.w) b vs ∧ RepD c.prog c.w h hidA vs inner := by
  induction R with
  | nil => cases e
  | @cons q b vs ds r rs bs hb hd hr R ih =>
    unfold getD at e
    unfold valueAt
    rw [sameS_eq] at e
    by_cases z : q = k
    · subst z
      simp only [decide_true] at e
      cases e
      exact ⟨b, vs, by simp, List.mem_cons_self, hb, hd, hr⟩
    · simp only [decide_eq_false z] at e
      obtain ⟨b', vs', h1, h2, h3⟩ := ih e
      refine ⟨b', vs', ?_, List.mem_cons_of_mem _ h2, h3⟩
      simp only [List.find?_cons, decide_eq_false z]
      exact h1

theorem own_path (ok : c.Ok) (S : Snd c n r) (aok : AOk n A) {nv : Str} {x : Nat} {ie je : PySem.Expr} {y z : Ex} {p p' q : Pos} (ow : Owned c.nm env.scope.names nv x) (hp : PlainI ie) (hj : PlainI je) (ti : TrE c.nm env.scope.names ie y) (tj : TrE c.nm env.scope.names je z)
    (e : stepE r (.ownPath x y z) ρ = some (d, μ)) (i : Inv c env hid as ρ s.heap) (pt : 0 < s.toks) : Go c.M A (eval (.Subscript (.Subscript (.Name nv q) ie p) je p') env) s (EvP c env hid as ρ μ s.heap d) := by
  dsimp only [stepE] at e
  split at e
  rotate_left
  · cases e
  rename_i kvs em
  split at e
  rotate_left
  · cases e
  rename_i k e1
  split at e
  rotate_left
  · cases e
  rename_i inner ein
  split at e
  rotate_left
  · cases e
  rename_i k2 e2
  rw [Option.map_eq_some_iff] at e
  obtain ⟨u, e3, e⟩ := e
  cases e
  obtain ⟨_, kind, nl, m, a, hns, hv, hm, hr⟩ := i.ownAt em
  obtain ⟨bs, _, _, _, vs, hd, rd⟩ := hr
  intro Q E hQ
  refine Subscript_ (Subscript_ (load_own ok i ow hns hm (sev_ok S.ev aok ti e1 i pt _ _ fun v h1 tk1 le1 hp => ?_)))
  obtain ⟨x1, r1⟩ := hp
  cases r1 with
  | @str _ t =>
    obtain ⟨b, vb, hb, hmem, hsys, hdb, rdb⟩ := rd.find ein
    refine dict_item (s := { s with heap := h1, toks := tk1 }) (dictOf_at hd fun o e => x1 _ o e) hb hp _ _ fun v h2 tk2 le2 hp => ?_
    obtain ⟨x2, r2⟩ := hp
    subst x2 r2
    refine sev_ok (s := { s with heap := h2, toks := tk2 }) S.ev aok tj e2 (i.grow x1) (lt3 pt le1 le2) _ _ fun v h3 tk3 le3 hp => ?_
    obtain ⟨x3, r3⟩ := hp
    cases r3 with
    | @str _ t' =>
      have f := rdb.find k2
      rw [e3] at f
      obtain ⟨v, hv', rv⟩ := f
      refine dict_item (s := { s with heap := h3, toks := tk3 }) (dictOf_at hdb fun o e => x3 _ o (x1 _ o e)) hv' hj _ _ fun v' h4 tk4 le4 hp => ?_
      obtain ⟨x4, r4⟩ := hp
      subst x4 r4
      exact hQ _ _ _ (Nat.le_trans le1 (Nat.le_trans le2 (Nat.le_trans le3 le4))) ⟨(i.grow x1).grow x3, x1.keepB.trans x3.keepB, (rv.keep (x1.keep _)).keep (x3.keep _)⟩

/-! tests -/
noncomputable def TeP (c : Cx) (env : Env) (hid as : List Addr) (ρ : Rho) (μ : Mu) (h : Heap) (d : Bool) (b : Bool) (h' : Heap) : Prop := Inv c env hid as ⟨ρ.vars, μ⟩ h' ∧ KeepB as h h' ∧ b = d
theorem tesAnd_ok (S : Snd c n r) (aok : AOk n A) : ∀ {es : List PySem.Expr} {xs : List Te} {ρ : Rho} {d : Bool} {μ : Mu} {s : Shared}, TrTs c.nm env.scope.names es xs → tesAnd r xs ρ = some (d, μ) → Inv c env hid as ρ s.heap → 0 < s.toks →
    Go c.M A (allTrue .And es env) s (TeP c env hid as ρ μ s.heap d)
  | _, _, ρ, d, μ, s, .nil, e, i, pt => by
    cases e
    intro Q E hQ
    exact wpAny_allTrue_And_nil (hQ _ s.heap s.toks (Nat.le_refl _) ⟨i, .refl, rfl⟩)
  | _, _, ρ, d, μ, s, .cons t ts, e, i, pt => by
    unfold tesAnd at e
    intro Q E hQ
    split at e
    · rename_i μ1 e1
      refine wpAny_allTrue_And_cons (S.te aok t e1 i pt _ _ fun v h1 tk1 le1 hp => ?_)
      obtain ⟨i1, k1, r1⟩ := hp
      subst r1
      simp only [if_true]
      exact tesAnd_ok S aok ts e i1 (lt2 pt le1) _ _ fun v h2 tk2 le2 ⟨i2, k2, r2⟩ => hQ _ _ _ (Nat.le_trans le1 le2) ⟨i2, k1.trans k2, r2⟩
    · rename_i μ1 e1
      cases e
      refine wpAny_allTrue_And_cons (S.te aok t e1 i pt _ _ fun v h1 tk1 le1 hp => ?_)
      obtain ⟨i1, k1, r1⟩ := hp
      subst r1
      simp only [Bool.false_eq_true, if_false]
      exact hQ _ _ _ le1 ⟨i1, k1, rfl⟩
    · cases e
theorem tesOr_ok (S : Snd c n r) (aok : AOk n A) : ∀ {es : List PySem.Expr} {xs : List Te} {ρ : Rho} {d : Bool} {μ : Mu} {s : Shared}, TrTs c.nm env.scope.names es xs → tesOr r xs ρ = some (d, μ) → Inv c env hid as ρ s.heap → 0 < s.toks →
    Go c.M A (allTrue .Or es env) s (TeP c env hid as ρ μ s.heap d)
  | _, _, ρ, d, μ, s, .nil, e, i, pt => by
    cases e
    intro Q E hQ
    exact wpAny_allTrue_Or_nil (hQ _ s.heap s.toks (Nat.le_refl _) ⟨i, .refl, rfl⟩)
  | _, _, ρ, d, μ, s, .cons t ts, e, i, pt => by
    unfold tesOr at e
    intro Q E hQ
    split at e
    · rename_i μ1 e1
      refine wpAny_allTrue_Or_cons (S.te aok t e1 i pt _ _ fun v h1 tk1 le1 hp => ?_)
      obtain ⟨i1, k1, r1⟩ := hp
      subst r1
      simp only [Bool.false_eq_true, if_false]
      exact tesOr_ok S aok ts e i1 (lt2 pt le1) _ _ fun v h2 tk2 le2 ⟨i2, k2, r2⟩ => hQ _ _ _ (Nat.le_trans le1 le2) ⟨i2, k1.trans k2, r2⟩
    · rename_i μ1 e1
      cases e
      refine wpAny_allTrue_Or_cons (S.te aok t e1 i pt _ _ fun v h1 tk1 le1 hp => ?_)
      obtain ⟨i1, k1, r1⟩ := hp
      subst r1
      simp only [if_true]
      exact hQ _ _ _ le1 ⟨i1, k1, rfl⟩
    · cases e

theorem te_step (S : Snd c n r) : TeOk c (n + 1) (step c.fs r) := by
  intro A env hid as e x ρ d μ s aok t ev i pt
  have aok := aok.le
  replace ev : stepT r x ρ = some (d, μ) := ev
  cases t with
  | not t =>
    dsimp only [stepT] at ev
    split at ev
    rotate_left
    · cases ev
    rename_i b μ1 e1
    cases ev
    intro Q E hQ
    exact wpAny_isTrue_Not (S.te aok t e1 i pt _ _ fun v h1 tk1 le1 ⟨i1, k1, r1⟩ => hQ _ _ _ le1 ⟨i1, k1, by rw [r1]⟩)
  | and ts => exact fun Q E hQ => wpAny_isTrue_BoolOp (tesAnd_ok S aok ts ev i pt Q E hQ)
  | or ts => exact fun Q E hQ => wpAny_isTrue_BoolOp (tesOr_ok S aok ts ev i pt Q E hQ)
  | cmp ho hb ta tb => exact stT_cmp S aok ho hb ta tb ev i pt _
  | val hv te =>
    dsimp only [stepT] at ev
    split at ev
    rotate_left
    · cases ev
    rename_i b μ1 e1
    cases ev
    intro Q E hQ
    refine wpAny_isTrue_value (S.ev aok te e1 i pt _ _ fun v h1 tk1 le1 ⟨i1, k1, r1⟩ => ?_) (hv _ _)
    cases r1
    exact wpAny_truthy_bool (hQ _ _ _ le1 ⟨i1, k1, rfl⟩)
end
end Mine
end

section
open PySem PySem.W PyProof.Rows
set_option Elab.async false
set_option maxRecDepth 10000
namespace Mine

noncomputable def StepF (env : Env) (as : List Addr) (h : Heap) (as' : List Addr) (h' : Heap) : Prop :=
  (∀ b o, b ≠ env.locals → (∀ n, env.cells.lookup n ≠ some b) → b ∉ as → h.get? b = some o → h'.get? b = some o) ∧ ∀ b ∈ as', b ∈ as ∨ h.get? b = none
noncomputable def HeadK (as as' : List Addr) (fl : Fl) : Prop := ∀ a t, as = a :: t → (∃ t', as' = a :: t') ∨ (as' = [] ∧ ∃ d, fl = .ret d)
noncomputable def FlOk (c : Cx) (h : Heap) (hidA : List Addr) : Fl → Flow → Prop
  | .next, f => f = .next
  | .ret d, f => ∃ v, f = .ret v ∧ Rep c.prog c.w h hidA v d
noncomputable def ExP (c : Cx) (env : Env) (hid as : List Addr) (ρ : Rho) (h : Heap) (fl : Fl) (f : Flow) (h' : Heap) : Prop :=
  ∃ as', Inv c env hid as' ρ h' ∧ StepF env as h as' h' ∧ HeadK as as' fl ∧ FlOk c h' (as' ++ hid) fl f
noncomputable def ExOk (c : Cx) (n : Nat) (r : Rec) : Prop := ∀ {A : Around} {env : Env} {hid as : List Addr} {e : PySem.Stmt} {x : St} {ρ ρ' : Rho} {fl : Fl} {s : Shared},
  AOk n A → TrS c.nm env.scope.names e x → r.ex x ρ = some (fl, ρ') → Inv c env hid as ρ s.heap → 0 < s.toks → Go c.M A (exec e env) s (ExP c env hid as ρ' s.heap fl)

section
variable {c : Cx} {n : Nat} {r : Rec} {env : Env} {hid as as' as'' : List Addr} {ρ : Rho} {A : Around} {s : Shared} {d : Dat} {μ : Mu} {h h' h'' : Heap}

theorem HeadK.refl {fl : Fl} : HeadK as as fl := fun a t e => .inl ⟨t, e⟩
theorem HeadK.trans {fl : Fl} (x : HeadK as as' .next) (y : HeadK as' as'' fl) : HeadK as as'' fl := fun a t e => by
  rcases x a t e with ⟨t', e'⟩ | ⟨_, _, z⟩
  · exact y a t' e'
  · cases z
theorem StepF.of_keepB (k : KeepB as h h') : StepF env as h as h' := ⟨fun b o _ _ n e => k b o n e, fun _ h => .inl h⟩
theorem StepF.trans (x : StepF env as h as' h') (y : StepF env as' h' as'' h'') (i : Inv c env hid as' ρ h') : StepF env as h as'' h'' := by
  refine ⟨fun b o n1 n2 n3 e => y.1 b o n1 n2 (fun q => ?_) (x.1 b o n1 n2 n3 e), fun b hb => ?_⟩
  · rcases x.2 b q with z | z
    · exact n3 z
    · rw [z] at e; cases e
  · rcases y.2 b hb with z | z
    · exact x.2 b z
    · cases e : h.get? b with
      | none => exact .inr rfl
      | some o =>
        by_cases n3 : b ∈ as
        · exact .inl n3
        · by_cases n1 : b = env.locals
          · obtain ⟨o', e'⟩ := i.alive b (List.mem_append_right _ (n1 ▸ i.fm.lh))
            rw [z] at e'; cases e'
          · by_cases n2 : ∃ n, env.cells.lookup n = some b
            · obtain ⟨n, hn⟩ := n2
              obtain ⟨o', e'⟩ := i.alive b (List.mem_append_right _ (i.fm.ch n b hn).1)
              rw [z] at e'; cases e'
            · have := x.1 b o n1 (fun n hn => n2 ⟨n, hn⟩) n3 e
              rw [z] at this; cases this
theorem StepF.keep (x : StepF env as h as' h') (f : Fm env hid) : Keep h (as ++ hid) h' (as' ++ hid) := fun b o nb e =>
  have na : b ∉ as := fun q => nb (List.mem_append_left _ q)
  have nh : b ∉ hid := fun q => nb (List.mem_append_right _ q)
  ⟨x.1 b o (fun q => nh (q ▸ f.lh)) (fun n q => nh (f.ch n b q).1) na e, fun q => by
    rcases List.mem_append.mp q with q | q
    · rcases x.2 b q with z | z
      · exact na z
      · rw [z] at e; cases e
    · exact nh q⟩
theorem isMu_ne {μ : Mu} {x y : Nat} {md : MDat} (e : μ = some (y, md)) (h : isMu μ x = false) : y ≠ x := by
  subst e
  exact Nat.ne_of_beq_eq_false h

/-- a value stored -/
theorem store_ok (ok : c.Ok) {nv : Str} {x : Nat} {v : Value} (i : Inv c env hid as ρ s.heap) (nn : Named c.nm env.scope.names nv x) (hv : Rep c.prog c.w s.heap (as ++ hid) v d) (hm : isMu ρ.mu x = false) :
    Go c.M A (storeName env nv v) s fun _ h' => Inv c env hid as ⟨put ρ.vars x d, ρ.mu⟩ h' ∧ StepF env as s.heap as h' ∧ (env.kindOf (c.nm x) = some .local → ∀ b o, b ≠ env.locals → s.heap.get? b = some o → h'.get? b = some o) := by
  obtain ⟨rfl, k⟩ := nn
  obtain ⟨m, hn, vs, mu⟩ := i.loc
  have nl : ∀ md y, ρ.mu = some (y, md) → look (put ρ.vars x d) y = none := fun md y e => by
    rw [look_put]
    have := isMu_ne e hm
    rw [if_neg this]
    exact i.free _ _ e
  refine Go.of fun Q E hQ => ?_
  rcases k with k | k
  · refine wpAny_storeName_local k hn (fun h' hn' sb => hQ _ h' _ ?_) (by rw [i.fm.kind]; rfl)
    have kl : ∀ b o, b ≠ env.locals → s.heap.get? b = some o → h'.get? b = some o := sb.extBut
    have hid_l : ∀ b, b ∉ as ++ hid → b ≠ env.locals := fun b nb q => nb (List.mem_append_right _ (q ▸ i.fm.lh))
    have kk : Keep s.heap (as ++ hid) h' (as ++ hid) := fun b o nb e => ⟨kl b o (hid_l b nb) e, nb⟩
    have as_l : ∀ b ∈ as, b ≠ env.locals := fun b hb q => i.disj b hb (q ▸ i.fm.lh)
    refine ⟨⟨i.fm, i.old, fun b o e => kl b o (fun q => ?_) (i.ext b o e), fun b hb => ?_, i.disj, fun n a e => ?_, ⟨_, hn', ?_, ?_⟩, fun y md e => nl md y e⟩, ⟨fun b o n1 _ _ e => kl b o n1 e, fun _ h => .inl h⟩, fun _ => kl⟩
    · subst q
      rw [i.old _ (List.mem_append_right _ i.fm.lh)] at e; cases e
    · by_cases q : b = env.locals
      · subst q; obtain ⟨o, _, _, ho, _⟩ := hn'; exact ⟨o, ho⟩
      · obtain ⟨o, ho⟩ := i.alive b hb; exact ⟨o, kl b o q ho⟩
    · obtain ⟨v, o, ho, hd⟩ := i.cells n a e
      exact ⟨v, o, kl a o (i.fm.ch n a e).2 ho, hd⟩
    · intro y z hz
      rw [look_put] at hz
      by_cases q : y = x
      · subst q
        rw [if_pos rfl] at hz
        cases hz
        exact ⟨v, hv.keep kk, .inl ⟨k, by simp⟩⟩
      · rw [if_neg q] at hz
        obtain ⟨u, ru, lu⟩ := vs y z hz
        refine ⟨u, ru.keep kk, ?_⟩
        rcases lu with ⟨ky, my⟩ | ⟨ky, a, ea, o, ho, hd⟩
        · refine .inl ⟨ky, ?_⟩
          have : c.nm y ≠ c.nm x := fun z => q (ok.inj _ _ z)
          simp [this, my]
        · exact .inr ⟨ky, a, ea, o, kl a o (i.fm.ch _ a ea).2 ho, hd⟩
    · have mu' := mu.keep kk fun b hb o e => kl b o (as_l b hb) e
      cases hmu : ρ.mu with
      | none => rw [hmu] at mu'; exact mu'
      | some p =>
        obtain ⟨y, md⟩ := p
        rw [hmu] at mu'
        obtain ⟨ky, a, ea, ra⟩ := mu'
        have : c.nm y ≠ c.nm x := fun z => isMu_ne hmu hm (ok.inj _ _ z)
        exact ⟨ky, a, by simp [this, ea], ra⟩
  · obtain ⟨ce, hce⟩ := i.fm.ce _ k
    obtain ⟨v0, hc0⟩ := i.cells _ _ hce
    refine wpAny_storeName_cell i.fm.kind k hce hc0 (fun h' hc' sb => hQ _ h' s.toks ?_)
    have kl : ∀ b o, b ≠ ce → s.heap.get? b = some o → h'.get? b = some o := sb.extBut
    have ceh := (i.fm.ch _ _ hce).1
    have hid_l : ∀ b, b ∉ as ++ hid → b ≠ ce := fun b nb q => nb (List.mem_append_right _ (q ▸ ceh))
    have kk : Keep s.heap (as ++ hid) h' (as ++ hid) := fun b o nb e => ⟨kl b o (hid_l b nb) e, nb⟩
    have as_l : ∀ b ∈ as, b ≠ ce := fun b hb q => i.disj b hb (q ▸ ceh)
    have lce : env.locals ≠ ce := fun q => (i.fm.ch _ _ hce).2 q.symm
    refine ⟨⟨i.fm, i.old, fun b o e => kl b o (fun q => ?_) (i.ext b o e), fun b hb => ?_, i.disj, fun n a e => ?_, ⟨m, hn.at' fun o e => kl _ o lce e, ?_, ?_⟩, fun y md e => nl md y e⟩, ⟨fun b o _ n2 _ e => kl b o (fun q => n2 _ (q ▸ hce)) e, fun _ h => .inl h⟩, fun kl' => ?_⟩
    · subst q
      rw [i.old _ (List.mem_append_right _ ceh)] at e; cases e
    · by_cases q : b = ce
      · subst q; obtain ⟨o, ho, _⟩ := hc'; exact ⟨o, ho⟩
      · obtain ⟨o, ho⟩ := i.alive b hb; exact ⟨o, kl b o q ho⟩
    · by_cases q : a = ce
      · subst q; exact ⟨_, hc'⟩
      · obtain ⟨v, o, ho, hd⟩ := i.cells n a e
        exact ⟨v, o, kl a o q ho, hd⟩
    · intro y z hz
      rw [look_put] at hz
      by_cases q : y = x
      · subst q
        rw [if_pos rfl] at hz
        cases hz
        exact ⟨v, hv.keep kk, .inr ⟨k, ce, hce, hc'⟩⟩
      · rw [if_neg q] at hz
        obtain ⟨u, ru, lu⟩ := vs y z hz
        refine ⟨u, ru.keep kk, ?_⟩
        rcases lu with ⟨ky, my⟩ | ⟨ky, a, ea, o, ho, hd⟩
        · exact .inl ⟨ky, my⟩
        · refine .inr ⟨ky, a, ea, o, kl a o (fun z => ?_) ho, hd⟩
          subst z
          exact q (ok.inj _ _ (i.fm.cd _ _ _ ea hce))
    · exact mu.keep kk fun b hb o e => kl b o (as_l b hb) e
    · have k : env.kindOf (c.nm x) = some .cell := k
      rw [k] at kl'; cases kl'

theorem assignEach_cons {nv : Str} {p : Pos} {es : List PySem.Expr} : assignEach (.Name nv p :: es) env = (false, assign (.Name nv p) env) :: assignEach es env := rfl
theorem assignEach_len {nm : Nat → Str} {sc : Sc}  {es : List PySem.Expr} {xs : List Nat} (t : TrN nm sc es xs) : (assignEach es env).length = xs.length ∧ (assignEach es env).findIdx? (·.1) = none := by
  induction xs generalizing es with
  | nil => cases t; exact ⟨rfl, rfl⟩
  | cons x xs ih =>
    cases t with
    | cons _ ts =>
      have := ih ts
      rw [assignEach_cons]
      refine ⟨by simp [this.1], ?_⟩
      rw [List.findIdx?_cons]
      simp [this.2]
theorem putAll_len : ∀ {xs : List Nat} {ds : List Dat} {v v' : Vars}, putAll xs ds v = some v' → xs.length = ds.length
  | [], [], _, _, _ => rfl
  | _ :: _, _ :: _, _, _, e => by simp [putAll] at e; simpa using putAll_len e
  | [], _ :: _, _, _, e => by simp [putAll] at e
  | _ :: _, [], _, _, e => by simp [putAll] at e
/-- the names of a tuple stored -/
theorem storeAll_ok (ok : c.Ok) {es : List PySem.Expr} {xs : List Nat} {vs : List Value} {ds : List Dat} {ρ : Rho} {vars' : Vars} {s : Shared} (t : TrN c.nm env.scope.names es xs) (e : putAll xs ds ρ.vars = some vars') (hm : xs.any (isMu ρ.mu) = false)
    (i : Inv c env hid as ρ s.heap) (rl : RepL c.prog c.w s.heap (as ++ hid) vs ds) :
    Go c.M A (assignInOrder ((assignEach es env).map (·.2)) vs) s fun _ h' => Inv c env hid as ⟨vars', ρ.mu⟩ h' ∧ StepF env as s.heap as h' := by
  induction xs generalizing es vs ds ρ s with
  | nil =>
    cases t
    cases ds with
    | nil =>
      cases rl
      cases e
      exact fun Q E hQ => assignInOrder_nil (hQ _ s.heap s.toks (Nat.le_refl _) ⟨i, .of_keepB .refl⟩)
    | cons _ _ => exact nn e
  | cons x xs ih =>
    cases t with
    | cons nn' ts =>
      cases ds with
      | nil => exact nn e
      | cons d ds =>
        cases rl with
        | @cons v _ vs _ rv rl =>
          rw [List.any_cons, Bool.or_eq_false_iff] at hm
          intro Q E hQ
          rw [assignEach_cons]
          refine assignInOrder_cons (assign_Name (store_ok ok i nn' rv hm.1 _ _ fun _ h1 tk1 le1 p => ?_))
          obtain ⟨i1, st1, _⟩ := p
          refine ih (ρ := ⟨put ρ.vars x d, ρ.mu⟩) (s := { s with heap := h1, toks := tk1 }) ts e hm.2 i1 (rl.keep (st1.keep i.fm)) _ _ fun _ h2 tk2 le2 p => ?_
          exact hQ _ _ _ (Nat.le_trans le1 le2) ⟨p.1, st1.trans p.2 i1⟩

/-- a tuple unpacked into names -/
theorem unpack_ok (ok : c.Ok) {es : List PySem.Expr} {xs : List Nat} {ds : List Dat} {v : Value} {vars' : Vars} {k : Nat} {p : Pos} (hh : A.handled = none) (ts : TrN c.nm env.scope.names es xs) (e : putAll xs ds ρ.vars = some vars') (hm : xs.any (isMu ρ.mu) = false)
    (i : Inv c env hid as ρ s.heap) (rv : Rep c.prog c.w s.heap (as ++ hid) v (.tup ds)) : Go c.M A (assign (.Tuple es k p) env v) s fun _ h' => Inv c env hid as ⟨vars', ρ.mu⟩ h' ∧ StepF env as s.heap as h' := by
  cases rv with
  | @tup a vs _ na la ra =>
    intro Q E hQ
    have := assignEach_len (env := env) ts
    have sz : vs.size = ds.length := by simpa using ra.length
    refine assign_Tuple_tuple hh la (by rw [this.1, putAll_len e, sz]) this.2 fun h' ex => ?_
    have x : Ext s.heap h' := fun b o e => ex b o (Nat.ne_of_lt (Heap.lt_size e)) e
    exact storeAll_ok (s := { s with heap := h' }) ok ts e hm (i.grow x) (ra.keep (x.keep _)) _ _ fun _ h2 tk2 le2 ⟨i2, st2⟩ => hQ _ _ _ le2 ⟨i2, (StepF.of_keepB x.keepB).trans st2 (i.grow x)⟩

/-! a block -/
theorem exs_ok (X : ExOk c n r) (aok : AOk n A) {es : List PySem.Stmt} {xs : List St} {as : List Addr} {ρ ρ' : Rho} {fl : Fl} {s : Shared} (t : TrSs c.nm env.scope.names es xs) (e : exs r xs ρ = some (fl, ρ')) (i : Inv c env hid as ρ s.heap) (pt : 0 < s.toks) :
    Go c.M A (execs es env) s (ExP c env hid as ρ' s.heap fl) := by
  induction xs generalizing es as ρ s with
  | nil =>
    cases t
    cases e
    exact fun Q E hQ => wpAny_execs_nil (hQ _ s.heap s.toks (Nat.le_refl _) ⟨as, i, .of_keepB .refl, .refl, rfl⟩)
  | cons x xs ih =>
    cases t with
    | cons t ts =>
      unfold exs at e
      intro Q E hQ
      split at e
      · rename_i ρ1 e1
        refine wpAny_execs_cons (X aok t e1 i pt _ _ fun f h1 tk1 le1 p => ?_)
        obtain ⟨as1, i1, st1, hk1, fo⟩ := p
        cases fo
        refine ih (s := { s with heap := h1, toks := tk1 }) ts e i1 (lt2 pt le1) _ _ fun f h2 tk2 le2 p => ?_
        obtain ⟨as2, i2, st2, hk2, fo2⟩ := p
        exact hQ _ _ _ (Nat.le_trans le1 le2) ⟨as2, i2, st1.trans st2 i1, hk1.trans hk2, fo2⟩
      · rename_i d ρ1 e1
        cases e
        refine wpAny_execs_cons (X aok t e1 i pt _ _ fun f h1 tk1 le1 p => ?_)
        obtain ⟨as1, i1, st1, hk1, v, rfl, rv⟩ := p
        exact hQ _ _ _ le1 ⟨as1, i1, st1, hk1, v, rfl, rv⟩
      · cases e
end
end Mine
end

section
open PySem PySem.W PyProof.Rows
set_option Elab.async false
set_option maxRecDepth 10000
namespace Mine

section
variable {c : Cx} {n : Nat} {r : Rec} {env : Env} {hid as : List Addr} {ρ : Rho} {A : Around} {s : Shared} {d : Dat} {μ : Mu} {h h' : Heap}

noncomputable def ItP (c : Cx) (env : Env) (hid as : List Addr) (ρ : Rho) (μ : Mu) (h : Heap) (items : List Dat) (it : Value) (h' : Heap) : Prop :=
  ∃ h₁, Inv c env hid as ⟨ρ.vars, μ⟩ h₁ ∧ KeepB as h h₁ ∧ Ready c.prog c.w (as ++ hid) h₁ items it h'

theorem callWith_t {a : List PySem.Expr} {T : String} {pos : Pos} {Q : Value → Shared → Prop} {E : Value → Shared → Prop} (hp : (backTo pos (starEach a env)).any (·.1) = false)
    (h : wpAny c.M A (evalArgs (.type T) true (backTo pos (starEach a env)) []) (fun a s₁ => wpAny c.M A (call (.type T) a.pos a.kw) Q E s₁) E s) :
    wpAny c.M A (callWith pos (.type T) [] (backTo pos (starEach a env)) []) Q E s := PyProof.Rows.callWith_type hp h

theorem it_ok (ok : c.Ok) (S : Snd c n r) (aok : AOk n A) {e : PySem.Expr} {x : It} {items : List Dat} (t : TrIt c.nm env.scope.names e x) (ev : iter r x ρ = some (items, μ)) (i : Inv c env hid as ρ s.heap) (pt : 0 < s.toks)
    {Q : Value → Shared → Prop} {E : Value → Shared → Prop} (hQ : ∀ it h' tk, s.toks ≤ tk → ItP c env hid as ρ μ s.heap items it h' → Q it { s with heap := h', toks := tk }) :
    wpAny c.M A (eval e env) (fun x s₁ => wpAny c.M A (pyIter x) Q E s₁) E s := by
  cases t with
  | val t =>
    dsimp only [iter] at ev
    split at ev
    rotate_left
    · cases ev
    rename_i d1 μ1 e1
    rw [Option.map_eq_some_iff] at ev
    obtain ⟨z, e3, ev⟩ := ev
    cases ev
    refine S.ev aok t e1 i pt _ _ fun v h1 tk1 le1 hp => ?_
    obtain ⟨i1, k1, r1⟩ := hp
    exact iter_ok (s := { s with heap := h1, toks := tk1 }) e3 r1 i1.alive _ _ fun it h2 tk2 le2 R => hQ _ _ _ (Nat.le_trans le1 le2) ⟨h1, i1, k1, R⟩
  | range1 hn hk sole t =>
    subst hn
    dsimp only [iter] at ev
    split at ev
    rotate_left
    · cases ev
    rename_i b μ1 e1
    rw [Option.map_eq_some_iff] at ev
    obtain ⟨z, e3, ev⟩ := ev
    cases ev
    refine wpAny_Call_NameR (load_b ok i hk ok.range.1 ok.range.2 (by decide) (callWith_t (any1 sole) (ev1 sole ?_)))
    refine S.ev aok t e1 i pt _ _ fun v h1 tk1 le1 hp => ?_
    obtain ⟨i1, k1, r1⟩ := hp
    cases r1 with
    | @int _ t =>
      refine call_range_1 ?_
      have x1 : Ext h1 (h1.push { cls := .type "range", data := .fields #[.int 0 tk1, .int b t, .int 1 (tk1 + 1)] }) := Ext.refl.push _
      have i2 := i1.grow x1
      refine range_ok (s := { s with heap := _, toks := _ }) e3 (IsRange.new ..) i2.alive _ _ fun it h2 tk2 le2 R => hQ _ _ _ ?_ ⟨_, i2, k1.trans x1.keepB, R⟩
      exact Nat.le_trans le1 (Nat.le_trans (Nat.le_trans (Nat.le_succ _) (Nat.le_succ _)) le2)
  | range2 hn hk sole sole' ta tb =>
    subst hn
    dsimp only [iter] at ev
    split at ev
    rotate_left
    · cases ev
    rename_i a μ1 e1
    split at ev
    rotate_left
    · cases ev
    rename_i b μ2 e2
    rw [Option.map_eq_some_iff] at ev
    obtain ⟨z, e3, ev⟩ := ev
    cases ev
    refine wpAny_Call_NameR (load_b ok i hk ok.range.1 ok.range.2 (by decide) (callWith_t (any2 sole sole') (ev2 sole sole' ?_)))
    refine S.ev aok ta e1 i pt _ _ fun v h1 tk1 le1 ⟨i1, k1, r1⟩ => S.ev aok tb e2 i1 (lt2 pt le1) _ _ fun v2 h2 tk2 le2 hp => ?_
    obtain ⟨i2, k2, r2⟩ := hp
    cases r1 with
    | @int _ t =>
      cases r2 with
      | @int _ u =>
        refine call_range_2 ?_
        have x1 : Ext h2 (h2.push { cls := .type "range", data := .fields #[.int a t, .int b u, .int 1 tk2] }) := Ext.refl.push _
        have i3 := i2.grow x1
        refine range_ok (s := { s with heap := _, toks := _ }) e3 (IsRange.new ..) i3.alive _ _ fun it h3 tk3 le3 R => hQ _ _ _ ?_ ⟨_, i3, (k1.trans k2).trans x1.keepB, R⟩
        exact Nat.le_trans le1 (Nat.le_trans le2 (Nat.le_trans (Nat.le_succ _) le3))

theorem Inv.past {hid' wr : List Addr} (i : Inv c env hid as ρ h) (f : Fm env hid') (sub : ∀ b ∈ hid', b ∈ hid) (kept : ∀ b o, b ∉ wr → h.get? b = some o → h'.get? b = some o) (hw : ∀ b ∈ wr, b ∈ hid)
    (nl : ∀ b ∈ wr, b ≠ env.locals ∧ ∀ n, env.cells.lookup n ≠ some b) (al : Alive hid' h') : Inv c env hid' as ρ h' := by
  have asw : ∀ b ∈ as, b ∉ wr := fun b hb q => i.disj b hb (hw b q)
  have sub' : ∀ b, b ∈ as ++ hid' → b ∈ as ++ hid := fun b hb => by
    rcases List.mem_append.mp hb with q | q
    · exact List.mem_append_left _ q
    · exact List.mem_append_right _ (sub b q)
  have kk : Keep h (as ++ hid) h' (as ++ hid') := fun b o nb e => ⟨kept b o (fun q => nb (List.mem_append_right _ (hw b q))) e, fun q => nb (sub' b q)⟩
  have cw : ∀ n a, env.cells.lookup n = some a → a ∉ wr := fun n a e q => (nl a q).2 n e
  have lw : env.locals ∉ wr := fun q => (nl _ q).1 rfl
  obtain ⟨m, hn, hv, mu⟩ := i.loc
  refine ⟨f, fun b hb => i.old b (sub' b hb), fun b o e => kept b o (fun q => ?_) (i.ext b o e), fun b hb => ?_, fun b hb q => i.disj b hb (sub b q), fun n a e => ?_, ⟨m, hn.at' fun o e => kept _ o lw e, hv.keep kk fun n a e o ho => kept a o (cw n a e) ho, mu.keep kk fun b hb o e => kept b o (asw b hb) e⟩, i.free⟩
  · rw [i.old b (List.mem_append_right _ (hw b q))] at e; cases e
  · rcases List.mem_append.mp hb with q | q
    · obtain ⟨o, e⟩ := i.alive b (List.mem_append_left _ q)
      exact ⟨o, kept b o (asw b q) e⟩
    · exact al b q
  · obtain ⟨v, o, ho, hd⟩ := i.cells n a e
    exact ⟨v, o, kept a o (cw n a e) ho, hd⟩

/-- the names that a loop binds -/
inductive Tgt (nm : Nat → Str) (sc : Sc) : PySem.Expr → List Nat → Bool → Prop
  | name {n x p} : Named nm sc n x → Tgt nm sc (.Name n p) [x] false
  | tup {es xs k p} : TrN nm sc es xs → Tgt nm sc (.Tuple es k p) xs true

theorem tgt_ok (ok : c.Ok) {target : PySem.Expr} {xs : List Nat} {tp : Bool} {v : Value} {vars' : Vars} {I : Addr} (hh : A.handled = none) (t : Tgt c.nm env.scope.names target xs tp) (e : bindFor xs tp d ρ.vars = some vars') (hm : xs.any (isMu ρ.mu) = false)
    (i : Inv c env hid as ρ s.heap) (rv : Rep c.prog c.w s.heap (as ++ hid) v d) (own : ∀ T, v = .ref T → ∃ l k, s.heap.IsListIter I l k)
    {Q : Unit → Shared → Prop} {E : Value → Shared → Prop} (hQ : ∀ h' tk, s.toks ≤ tk → Inv c env hid as ⟨vars', ρ.mu⟩ h' → StepF env as s.heap as h' → Q () { s with heap := h', toks := tk }) :
    wpAny c.M A (letOwnedTupleGo target (.ref I) v) (fun _ s₁ => wpAny c.M A (assign target env v) Q E s₁) E s := by
  cases t with
  | name nn =>
    unfold bindFor at e
    cases e
    simp only [List.any_cons, List.any_nil, Bool.or_false] at hm
    show wpAny c.M A (pure ()) _ _ _
    exact wpAny_pure (assign_Name (store_ok ok i nn rv hm _ _ fun _ h1 tk1 le1 ⟨i1, st1, _⟩ => hQ _ _ le1 i1 st1))
  | tup ts =>
    unfold bindFor at e
    simp only at e
    split at e
    rotate_left
    · cases e
    cases id rv with
    | @tup a vs _ na la ra =>
      obtain ⟨l, k, hl⟩ := own a rfl
      exact wpAny_letOwnedTupleGo_listiter hl (unpack_ok ok hh ts e hm i rv _ _ fun _ h1 tk1 le1 ⟨i1, st1⟩ => hQ _ _ le1 i1 st1)

theorem loop_ok (ok : c.Ok) (X : ExOk c n r) (aok : AOk n A) {target : PySem.Expr} {xs : List Nat} {tp : Bool} {body : List PySem.Stmt} {ys : List St} {items : List Dat} {it : Value} {h₁ : Heap} {ρ' : Rho} {fl : Fl} {R : Result → Shared → Prop}
    (tg : Tgt c.nm env.scope.names target xs tp) (tb : TrSs c.nm env.scope.names body ys) (i : Inv c env hid as ρ h₁) (rd : Ready c.prog c.w (as ++ hid) h₁ items it s.heap) (e : forL r xs tp ys items ρ = some (fl, ρ')) (pt : 0 < s.toks)
    (hR : ∀ f h' tk, s.toks ≤ tk → ExP c env hid as ρ' h₁ fl f h' → R (.ok f) { s with heap := h', toks := tk }) : codeAny c.M A (.forLoop target it body [] env) R s := by
  obtain ⟨I, wr, fp, P, St, rfl, wk, x0, st0, fpn, wrn, items_ok, _, fpl⟩ := rd
  have W := wk.walks A aok.handled
  have wrfp : ∀ b ∈ wr, b ∈ fp := W.sub
  have wr_hid : ∀ b ∈ wr, b ∉ as ++ hid := fun b hb => fpn b (wrfp b hb)
  have wr_nl : ∀ b ∈ wr, b ≠ env.locals ∧ ∀ n, env.cells.lookup n ≠ some b := fun b hb =>
    ⟨fun q => wr_hid b hb (List.mem_append_right _ (q ▸ i.fm.lh)), fun n q => wr_hid b hb (List.mem_append_right _ (i.fm.ch n b q).1)⟩
  have fm' : Fm env (wr ++ hid) := ⟨i.fm.kind, i.fm.globals, i.fm.builtins, List.mem_append_right _ i.fm.lh, fun n a e => ⟨List.mem_append_right _ (i.fm.ch n a e).1, (i.fm.ch n a e).2⟩, i.fm.cd, i.fm.ce⟩
  refine codeAny_forLoop_any (fun k s' => ∃ j h tk asj ρj, s' = { s with heap := h, toks := tk } ∧ s.toks ≤ tk ∧ k = items.length + 1 - j ∧ j ≤ items.length ∧ St j h ∧ Inv c env (wr ++ hid) asj ρj h ∧
    Keep h₁ (as ++ hid) h (asj ++ (wr ++ hid)) ∧ StepF env as h₁ asj h ∧ HeadK as asj .next ∧ forL r xs tp ys (items.drop j) ρj = some (fl, ρ')) ?_ (items.length + 1)
    ⟨0, s.heap, s.toks, as, ρ, rfl, Nat.le_refl _, rfl, Nat.zero_le _, st0, i.hide x0 wrn (fun b hb => wk.live 0 _ st0 b (wrfp b hb)), ?_, .of_keepB x0.keepB, .refl, by simpa using e⟩
  rotate_left
  · intro b o nb e
    refine ⟨x0 b o e, fun q => ?_⟩
    rcases List.mem_append.mp q with q | q
    · exact nb (List.mem_append_left _ q)
    · rcases List.mem_append.mp q with q | q
      · rw [wrn b q] at e; cases e
      · exact nb (List.mem_append_right _ q)
  rintro k s' ⟨j, h, tk, asj, ρj, rfl, le, rfl, hj, st, ij, kj, sj, hkj, ej⟩
  have fp_own : ∀ b ∈ fp, b ≠ env.locals ∧ (∀ n, env.cells.lookup n ≠ some b) ∧ b ∉ asj := fun b hb => by
    have nb := fpn b hb
    refine ⟨fun q => nb (List.mem_append_right _ (q ▸ i.fm.lh)), fun n q => nb (List.mem_append_right _ (i.fm.ch n b q).1), fun q => ?_⟩
    rcases sj.2 b q with z | z
    · exact nb (List.mem_append_left _ z)
    · rcases fpl b hb with w' | ⟨o, w'⟩
      · exact ij.disj b q (List.mem_append_left _ w')
      · rw [z] at w'; cases w'
  by_cases hlt : j < items.length
  · have hd : items.drop j = items[j] :: items.drop (j + 1) := List.drop_eq_getElem_cons hlt
    rw [hd] at ej
    unfold forL at ej
    split at ej
    · cases ej
    rename_i hmu
    split at ej
    rotate_left
    · cases ej
    rename_i vars' hb
    have nx : Go c.M A (pyNext (.ref I)) { s with heap := h, toks := tk } fun o h1 => ∃ v, o = some v ∧ P j v ∧ St (j + 1) h1 ∧ ∀ b o, b ∉ wr → h.get? b = some o → h1.get? b = some o :=
      Go.of fun Q E hQ => W.item j _ Q E hlt st fun v h1 tk1 hP st1 hk1 => hQ _ h1 tk1 ⟨v, rfl, hP, st1, hk1⟩
    refine nx _ _ fun o h1 tk1 le1 hp => ?_
    obtain ⟨v, ho, hP, st1, hk1⟩ := hp
    subst ho
    have i1 : Inv c env (wr ++ hid) asj ρj h1 := ij.past fm' (fun _ h => h) hk1 (fun b hb => List.mem_append_left _ hb) wr_nl fun b hb => by
      rcases List.mem_append.mp hb with q | q
      · exact wk.live _ _ st1 b (wrfp b q)
      · obtain ⟨o, e⟩ := ij.alive b (List.mem_append_right _ hb)
        exact ⟨o, hk1 b o (fun z => wr_hid b z (List.mem_append_right _ q)) e⟩
    have k1 : Keep h (asj ++ (wr ++ hid)) h1 (asj ++ (wr ++ hid)) := fun b o nb e => ⟨hk1 b o (fun z => nb (List.mem_append_right _ (List.mem_append_left _ z))) e, nb⟩
    have s1 : StepF env as h₁ asj h1 := ⟨fun b o n1 n2 n3 e => hk1 b o (fun z => by rw [wrn b z] at e; cases e) (sj.1 b o n1 n2 n3 e), sj.2⟩
    obtain ⟨d', hd', rv⟩ := items_ok j v hP
    have : d' = items[j] := by
      rw [List.getElem?_eq_getElem hlt] at hd'
      exact (Option.some.inj hd').symm
    subst this
    refine tgt_ok (s := { s with heap := h1, toks := tk1 }) ok aok.handled tg hb hmu i1 ((rv.keep kj).keep k1) (fun T q => wk.own j T h1 (q ▸ hP) st1) fun h2 tk2 le2 i2 st2 => ?_
    have stt : St (j + 1) h2 := W.frame _ _ _ st1 fun b hb o e => st2.1 b o (fp_own b hb).1 (fp_own b hb).2.1 (fp_own b hb).2.2 e
    have s2 := s1.trans st2 i1
    split at ej
    · rename_i ρ3 e3
      refine exs_ok (s := { s with heap := h2, toks := tk2 }) X aok tb e3 i2 (lt3 (lt2 pt le) le1 le2) _ _ fun f h3 tk3 le3 hp => ?_
      obtain ⟨as3, i3, st3, hk3, fo⟩ := hp
      cases fo
      refine ⟨items.length + 1 - (j + 1), by omega, j + 1, h3, tk3, as3, ρ3, rfl, Nat.le_trans le (Nat.le_trans le1 (Nat.le_trans le2 le3)), rfl, hlt, ?_, i3, ((kj.trans k1).trans (st2.keep fm')).trans (st3.keep fm'), s2.trans st3 i2, hkj.trans hk3, ej⟩
      exact W.frame _ _ _ stt fun b hb o e => st3.1 b o (fp_own b hb).1 (fp_own b hb).2.1 (fp_own b hb).2.2 e
    · rename_i d3 ρ3 e3
      cases ej
      refine exs_ok (s := { s with heap := h2, toks := tk2 }) X aok tb e3 i2 (lt3 (lt2 pt le) le1 le2) _ _ fun f h3 tk3 le3 hp => ?_
      obtain ⟨as3, i3, st3, hk3, fo⟩ := hp
      obtain ⟨v, rfl, rv⟩ := fo
      refine hR _ _ _ (Nat.le_trans le (Nat.le_trans le1 (Nat.le_trans le2 le3))) ⟨as3, i3.show i.fm, s2.trans st3 i2, hkj.trans hk3, v, rfl, rv.keep fun b o nb e => ⟨e, fun q => nb ?_⟩⟩
      rcases List.mem_append.mp q with q | q
      · exact List.mem_append_left _ q
      · exact List.mem_append_right _ (List.mem_append_right _ q)
    · cases ej
  · have hj' : j = items.length := by omega
    subst hj'
    rw [List.drop_length] at ej
    cases ej
    have nx : Go c.M A (pyNext (.ref I)) { s with heap := h, toks := tk } fun o h1 => o = none ∧ ∀ b o, b ∉ wr → h.get? b = some o → h1.get? b = some o :=
      Go.of fun Q E hQ => W.done _ Q E st fun h1 tk1 hk1 => hQ _ h1 tk1 ⟨rfl, hk1⟩
    refine nx _ _ fun o h1 tk1 le1 hp => ?_
    obtain ⟨ho, hk1⟩ := hp
    subst ho
    refine wpAny_execs_nil (hR _ _ _ (Nat.le_trans le le1) ⟨asj, ?_, ⟨fun b o n1 n2 n3 e => hk1 b o (fun z => by rw [wrn b z] at e; cases e) (sj.1 b o n1 n2 n3 e), sj.2⟩, hkj, rfl⟩)
    exact ij.past i.fm (fun b hb => List.mem_append_right _ hb) hk1 (fun b hb => List.mem_append_left _ hb) wr_nl fun b hb => by
      obtain ⟨o, e⟩ := ij.alive b (List.mem_append_right _ (List.mem_append_right _ hb))
      exact ⟨o, hk1 b o (fun z => wr_hid b z (List.mem_append_right _ hb)) e⟩

theorem st_for (ok : c.Ok) (S : Snd c n r) (X : ExOk c n r) (aok : AOk n A) {target e : PySem.Expr} {xs : List Nat} {tp : Bool} {it : It} {body : List PySem.Stmt} {ys : List St} {ρ' : Rho} {fl : Fl} {p : Pos} (tg : Tgt c.nm env.scope.names target xs tp) (is : IterS e)
    (ti : TrIt c.nm env.scope.names e it) (tb : TrSs c.nm env.scope.names body ys) (ev : stepS r (.forE xs tp it ys) ρ = some (fl, ρ')) (i : Inv c env hid as ρ s.heap) (pt : 0 < s.toks) :
    Go c.M A (exec (.For target e body [] p) env) s (ExP c env hid as ρ' s.heap fl) := by
  dsimp only [stepS] at ev
  split at ev
  rotate_left
  · cases ev
  rename_i items μ1 e1
  intro Q E hQ
  refine wpAny_For (it_ok ok S aok ti e1 i pt fun it h1 tk1 le1 ⟨h₁, i1, k1, R⟩ => ?_) (fun x => is _ x)
  refine loop_ok (s := { s with heap := h1, toks := tk1 }) ok X aok tg tb i1 R ev (lt2 pt le1) fun f h2 tk2 le2 hp => ?_
  obtain ⟨as2, i2, st2, hk2, fo⟩ := hp
  exact hQ _ _ _ (Nat.le_trans le1 le2) ⟨as2, i2, (StepF.of_keepB k1).trans st2 i1, hk2, fo⟩
end
end Mine
end

section
open PySem PySem.W PyProof.Rows
set_option Elab.async false
set_option maxRecDepth 10000
namespace Mine

/-! one turn of a comprehension -/
noncomputable def LastT (e : PySem.Expr) (k : Nat) (elt target iter : PySem.Expr) (ifs : List PySem.Expr) : Prop := ∀ it acc env, compTurn e k it acc env = (do
  standAt iter.pos
  match ← pyNext it with
  | none => pure (.done .next)
  | some v =>
    letOwnedTupleGo target it v
    assign target env v
    let mut ok := true
    for c in ifs do
      if ok then ok ← PySem.isTrue c env (eval c env)
    if ok then
      (do let _ ← call (.builtin "list.append") [acc, ← eval elt env])
    again (.compLoop e k it acc env))
noncomputable def OuterT (e : PySem.Expr) (target iter iter2 : PySem.Expr) : Prop := ∀ it acc env, compTurn e 0 it acc env = (do
  standAt iter.pos
  match ← pyNext it with
  | none => pure (.done .next)
  | some v =>
    letOwnedTupleGo target it v
    assign target env v
    let mut ok := true
    for c in ([] : List PySem.Expr) do
      if ok then ok ← PySem.isTrue c env (eval c env)
    if ok then
      let x ← eval iter2 env
      standAt iter2.pos
      let x ← foldedSetIterable iter2 env x
      let _ ← runOwn (.compStart e 1 (← holding [x] (pyIter x)) acc env) env
    again (.compLoop e 0 it acc env))
theorem lastT1 {elt target iter : PySem.Expr} {ifs : List PySem.Expr} {scope : Scope} {pos : Pos} : LastT (.ListComp elt [⟨target, iter, ifs, 0⟩] scope pos) 0 elt target iter ifs := fun it acc env => by rfl
theorem lastT2 {elt target iter : PySem.Expr} {ifs : List PySem.Expr} {scope : Scope} {pos : Pos} {g : Comprehension} : LastT (.ListComp elt [g, ⟨target, iter, ifs, 0⟩] scope pos) 1 elt target iter ifs := fun it acc env => by rfl
theorem outerT {elt target iter target2 iter2 : PySem.Expr} {ifs : List PySem.Expr} {scope : Scope} {pos : Pos} : OuterT (.ListComp elt [⟨target, iter, [], 0⟩, ⟨target2, iter2, ifs, 0⟩] scope pos) target iter iter2 := fun it acc env => by
  rfl
end Mine
end

section
open PySem PySem.W PyProof.Rows
set_option Elab.async false
set_option maxRecDepth 10000
namespace Mine

section
variable {c : Cx} {n : Nat} {r : Rec} {env cenv : Env} {hid as H : List Addr} {ρ : Rho} {A : Around} {s : Shared} {d : Dat} {μ : Mu} {h h' : Heap}

noncomputable abbrev Tests (ifs : List PySem.Expr) (env : Env) : Sem Bool := forIn ifs true fun c r => if r = true then do let ok ← PySem.isTrue c env (eval c env); pure (ForInStep.yield ok) else pure (ForInStep.yield r)
theorem tests_false {E : Value → Shared → Prop} : ∀ (ifs : List PySem.Expr) {Q : Bool → Shared → Prop} {s : Shared}, Q false s →
    wpAny c.M A (forIn ifs false fun c r => if r = true then do let ok ← PySem.isTrue c env (eval c env); pure (ForInStep.yield ok) else pure (ForInStep.yield r)) Q E s
  | [], _, _, hq => wpAny_pure hq
  | _ :: ifs, _, _, hq => by
    rw [List.forIn_cons]
    simp only [Bool.false_eq_true, if_false]
    exact wpAny_bind (wpAny_pure (tests_false ifs hq))
theorem tests_ok (S : Snd c n r) (aok : AOk n A) : ∀ {es : List PySem.Expr} {xs : List Te} {ρ : Rho} {d : Bool} {μ : Mu} {s : Shared}, TrTs c.nm env.scope.names es xs → tesAnd r xs ρ = some (d, μ) → Inv c env hid as ρ s.heap → 0 < s.toks →
    Go c.M A (Tests es env) s (TeP c env hid as ρ μ s.heap d)
  | _, _, ρ, d, μ, s, .nil, e, i, pt => by
    cases e
    exact fun Q E hQ => wpAny_pure (hQ _ s.heap s.toks (Nat.le_refl _) ⟨i, .refl, rfl⟩)
  | _, _, ρ, d, μ, s, .cons t ts, e, i, pt => by
    unfold tesAnd at e
    intro Q E hQ
    unfold Tests
    rw [List.forIn_cons]
    simp only [if_true]
    split at e
    · rename_i μ1 e1
      refine wpAny_bind (wpAny_bind (S.te aok t e1 i pt _ _ fun v h1 tk1 le1 hp => ?_))
      obtain ⟨i1, k1, r1⟩ := hp
      subst r1
      exact wpAny_pure (tests_ok S aok ts e i1 (lt2 pt le1) _ _ fun v h2 tk2 le2 ⟨i2, k2, r2⟩ => hQ _ _ _ (Nat.le_trans le1 le2) ⟨i2, k1.trans k2, r2⟩)
    · rename_i μ1 e1
      cases e
      refine wpAny_bind (wpAny_bind (S.te aok t e1 i pt _ _ fun v h1 tk1 le1 hp => ?_))
      obtain ⟨i1, k1, r1⟩ := hp
      subst r1
      exact wpAny_pure (tests_false _ (hQ _ _ _ le1 ⟨i1, k1, rfl⟩))
    · cases e

theorem Inv.weak {vars vars' : Vars} (i : Inv c env hid as ⟨vars', none⟩ h) (w : ∀ y d, look vars y = some d → look vars' y = some d) : Inv c env hid as ⟨vars, none⟩ h := by
  obtain ⟨m, hn, hv, mu⟩ := i.loc
  exact ⟨i.fm, i.old, i.ext, i.alive, i.disj, i.cells, ⟨m, hn, fun x d e => hv x d (w x d e), mu⟩, fun _ _ e => (nomatch e)⟩
theorem put_new {vars : Vars} {x : Nat} {d : Dat} (nl : look vars x = none) : ∀ y z, look vars y = some z → look (put vars x d) y = some z := fun y z e => by
  rw [look_put]
  by_cases q : y = x
  · subst q; rw [nl] at e; cases e
  · rw [if_neg q]; exact e

/-- a comprehension's loop walks -/
structure Walking (c : Cx) (cenv : Env) (H : List Addr) (D : Addr) (vars : Vars) (I : Addr) (wr fp : List Addr) (items : List Dat) (P : Nat → Value → Prop) (St : Nat → Heap → Prop) (acc : List Dat) (h : Heap) : Prop where
  wk : Wk c.prog c.w I wr fp items.length P St
  fpn : ∀ b ∈ fp, b ∉ H
  st : St 0 h
  inv : Inv c cenv (wr ++ H) [] ⟨vars, none⟩ h
  fm : Fm cenv H
  items : ∀ i v, P i v → ∃ d, items[i]? = some d ∧ Rep c.prog c.w h (wr ++ H) v d
  hD : D ∈ H
  dl : D ≠ cenv.locals ∧ ∀ n, cenv.cells.lookup n ≠ some D
  acc : ∃ vs, h.PlainList D vs ∧ RepL c.prog c.w h (wr ++ H) vs.toList acc

/-- the loop is done -/
structure Walked (c : Cx) (cenv : Env) (H : List Addr) (D : Addr) (vars : Vars) (wr : List Addr) (out : List Dat) (h h' : Heap) : Prop where
  inv : Inv c cenv H [] ⟨vars, none⟩ h'
  acc : ∃ vs, h'.PlainList D vs ∧ RepL c.prog c.w h' H vs.toList out
  kept : ∀ b o, b ≠ cenv.locals → b ≠ D → b ∉ wr → h.get? b = some o → h'.get? b = some o

theorem mark_ok (aok : AOk n A) : AOk n (A.mark none) := ⟨by show none.or A.handled = none; rw [aok.handled]; rfl, aok.depth, aok.units⟩

theorem last_loop {elt : PySem.Expr} {gs : List Comprehension} {scope : Scope} {p q : Pos} {k : Nat} {v : Str} {iter : PySem.Expr} {ifs : List PySem.Expr} {it acc : Value} {R : Result → Shared → Prop} (lt : LastT (.ListComp elt gs scope p) k elt (.Name v q) iter ifs) (I : Nat → Shared → Prop)
    (turn : ∀ m s, I m s → ∀ E : Value → Shared → Prop, wpAny c.M A (pyNext it) (fun o s₁ => match o with
      | none => R (.ok .next) s₁
      | some x => wpAny c.M A (storeName cenv v x) (fun _ s₂ => wpAny c.M A (Tests ifs cenv) (fun ok s₃ => if ok = true then wpAny c.M A (eval elt cenv) (fun y s₄ => wpAny c.M A (call (.builtin "list.append") [acc, y]) (fun _ s₅ => ∃ m', m' < m ∧ I m' s₅) E s₄) E s₃
        else ∃ m', m' < m ∧ I m' s₃) E s₂) E s₁) E s) (m : Nat) (h : I m s) : codeAny c.M A (.compLoop (.ListComp elt gs scope p) k it acc cenv) R s := by
  refine codeAny_loop rfl I (fun m s hI => ?_) m h
  show wpAny _ A ((compTurn (.ListComp elt gs scope p) k it acc cenv).onRaise (fun x => do noteFrame x cenv; theTreesLotGoes x)) _ _ s
  refine wpAny_noted ?_
  rw [lt]
  refine wpAny_bind (wpAny_standAt (wpAny_bind (wpAny_mono (turn m s hI _) (fun o s₁ h₁ => ?_) fun _ _ h' => h')))
  cases o with
  | none => exact wpAny_pure h₁
  | some x =>
    refine wpAny_bind (show wpAny c.M A (pure ()) _ _ _ from wpAny_pure ?_)
    refine wpAny_bind (assign_Name (wpAny_mono h₁ (fun _ s₂ h₂ => wpAny_bind (wpAny_mono h₂ (fun ok s₃ h₃ => ?_) fun _ _ h' => h')) fun _ _ h' => h'))
    cases ok with
    | false => exact wpAny_pure ⟨rfl, h₃⟩
    | true => exact wpAny_bind (wpAny_bind (wpAny_mono h₃ (fun y s₄ h₄ => wpAny_bind (wpAny_mono h₄ (fun _ s₅ h₅ => wpAny_pure (wpAny_pure ⟨rfl, h₅⟩)) fun _ _ h' => h')) fun _ _ h' => h'))

theorem loop1_ok (ok : c.Ok) (S : Snd c n r) (aok : AOk n A) {elt : PySem.Expr} {gs : List Comprehension} {scope : Scope} {p q : Pos} {k : Nat} {v : Str} {x : Nat} {iter : PySem.Expr} {ifs : List PySem.Expr} {t : Ex} {ts : List Te} {R : Result → Shared → Prop}
    {D I : Addr} {vars : Vars} {wr fp : List Addr} {items acc out : List Dat} {P : Nat → Value → Prop} {St : Nat → Heap → Prop}
    (lt : LastT (.ListComp elt gs scope p) k elt (.Name v q) iter ifs) (hv : Owned c.nm cenv.scope.names v x) (tts : TrTs c.nm cenv.scope.names ifs ts) (te : TrE c.nm cenv.scope.names elt t)
    (w : Walking c cenv H D vars I wr fp items P St acc s.heap) (nl : look vars x = none) (e : loop1 r t ts x vars items acc = some out) (pt : 0 < s.toks)
    (hR : ∀ h' tk, s.toks ≤ tk → Walked c cenv H D vars wr out s.heap h' → R (.ok .next) { s with heap := h', toks := tk }) :
    codeAny c.M A (.compLoop (.ListComp elt gs scope p) k (.ref I) (.ref D) cenv) R s := by
  have W := w.wk.walks A aok.handled
  have wrfp : ∀ b ∈ wr, b ∈ fp := W.sub
  have wr_H : ∀ b ∈ wr, b ∉ H := fun b hb => w.fpn b (wrfp b hb)
  have wr_nl : ∀ b ∈ wr, b ≠ cenv.locals ∧ ∀ n, cenv.cells.lookup n ≠ some b := fun b hb =>
    ⟨fun q => wr_H b hb (q ▸ w.fm.lh), fun n q => wr_H b hb (w.fm.ch n b q).1⟩
  have fm' := w.inv.fm
  have fp_nl : ∀ b ∈ fp, b ≠ cenv.locals ∧ b ≠ D := fun b hb => ⟨fun q => w.fpn b hb (q ▸ w.fm.lh), fun q => w.fpn b hb (q ▸ w.hD)⟩
  have Dwr : D ∉ wr := fun q => wr_H D q w.hD
  obtain ⟨vs0, hl0, rl0⟩ := w.acc
  refine last_loop (A := A) lt (fun kk s' => ∃ j h tk vs acc, s' = { s with heap := h, toks := tk } ∧ s.toks ≤ tk ∧ kk = items.length + 1 - j ∧ j ≤ items.length ∧ St j h ∧ Inv c cenv (wr ++ H) [] ⟨vars, none⟩ h ∧ h.PlainList D vs ∧
    RepL c.prog c.w h (wr ++ H) vs.toList acc ∧ Keep s.heap (wr ++ H) h (wr ++ H) ∧ (∀ b o, b ≠ cenv.locals → b ≠ D → b ∉ wr → s.heap.get? b = some o → h.get? b = some o) ∧ loop1 r t ts x vars (items.drop j) acc = some out) ?_ (items.length + 1)
    ⟨0, s.heap, s.toks, vs0, acc, rfl, Nat.le_refl _, rfl, Nat.zero_le _, w.st, w.inv, hl0, rl0, .refl, fun _ _ _ _ _ e => e, by simpa using e⟩
  rintro kk s' ⟨j, h, tk, vs, acc, rfl, le, rfl, hj, st, ij, hl, rl, kj, okj, ej⟩ E
  by_cases hlt : j < items.length
  · have hd : items.drop j = items[j] :: items.drop (j + 1) := List.drop_eq_getElem_cons hlt
    rw [hd] at ej
    unfold loop1 at ej
    split at ej
    rotate_left
    · cases ej
    rename_i acc' hturn
    have nx : Go c.M A (pyNext (.ref I)) { s with heap := h, toks := tk } fun o h1 => ∃ v, o = some v ∧ P j v ∧ St (j + 1) h1 ∧ ∀ b o, b ∉ wr → h.get? b = some o → h1.get? b = some o :=
      Go.of fun Q E hQ => W.item j _ Q E hlt st fun v h1 tk1 hP st1 hk1 => hQ _ h1 tk1 ⟨v, rfl, hP, st1, hk1⟩
    refine nx _ _ fun o h1 tk1 le1 hp => ?_
    obtain ⟨v, ho, hP, st1, hk1⟩ := hp
    subst ho
    have i1 : Inv c cenv (wr ++ H) [] ⟨vars, none⟩ h1 := ij.past fm' (fun _ h => h) hk1 (fun b hb => List.mem_append_left _ hb) wr_nl fun b hb => by
      rcases List.mem_append.mp hb with q | q
      · exact w.wk.live _ _ st1 b (wrfp b q)
      · obtain ⟨o, e⟩ := ij.alive b (List.mem_append_right _ hb)
        exact ⟨o, hk1 b o (fun z => wr_H b z q) e⟩
    have k1 : Keep h (wr ++ H) h1 (wr ++ H) := fun b o nb e => ⟨hk1 b o (fun z => nb (List.mem_append_left _ z)) e, nb⟩
    obtain ⟨d', hd', rv⟩ := w.items j v hP
    have : d' = items[j] := by
      rw [List.getElem?_eq_getElem hlt] at hd'
      exact (Option.some.inj hd').symm
    subst this
    refine store_ok (s := { s with heap := h1, toks := tk1 }) ok i1 ⟨hv.1, .inl hv.2⟩ ((rv.keep kj).keep k1) rfl _ _ fun _ h2 tk2 le2 hp => ?_
    obtain ⟨i2, st2, kl2⟩ := hp
    have kl2 := kl2 (hv.1 ▸ hv.2)
    have k2 := st2.keep fm'
    have stt : St (j + 1) h2 := W.frame _ _ _ st1 fun b hb o e => kl2 b o (fp_nl b hb).1 e
    have pt2 := lt3 (lt2 pt le) le1 le2
    have ok2 : ∀ b o, b ≠ cenv.locals → b ≠ D → b ∉ wr → s.heap.get? b = some o → h2.get? b = some o := fun b o n1 n2 n3 e => kl2 b o n1 (hk1 b o n3 (okj b o n1 n2 n3 e))
    have hl2 : h2.PlainList D vs := hl.at fun o e => kl2 D o w.dl.1 (hk1 D o Dwr e)
    have rl2 := (rl.keep k1).keep k2
    have kk2 := (kj.trans k1).trans k2
    unfold turn at hturn
    split at hturn
    · rename_i et
      refine tests_ok (s := { s with heap := h2, toks := tk2 }) S aok tts et i2 pt2 _ _ fun b h3 tk3 le3 hp => ?_
      obtain ⟨i3, x3, hb⟩ := hp
      subst hb
      have x3 := x3.ext
      simp only [if_true]
      split at hturn
      rotate_left
      · cases hturn
      rename_i dd ed
      split at hturn
      rotate_left
      · cases hturn
      rename_i room
      cases hturn
      refine S.ev (s := { s with heap := h3, toks := tk3 }) aok te ed i3 (lt2 pt2 le3) _ _ fun y h4 tk4 le4 hp => ?_
      obtain ⟨i4, x4, r4⟩ := hp
      have x4 := x4.ext
      have hl4 : h4.PlainList D vs := hl2.at fun o e => x4 _ _ (x3 _ _ e)
      have sz : vs.size = acc.length := by simpa using rl.length
      refine wpAny_list_append_plain (hsz := by rw [sz]; have : lim = sizeLine := lim_eq; omega) hl4 fun h5 hl5 sb5 => ?_
      have kD : ∀ b o, b ≠ D → h4.get? b = some o → h5.get? b = some o := sb5.extBut
      have i5 : Inv c cenv (wr ++ H) [] ⟨put vars x items[j], none⟩ h5 := i4.past fm' (fun _ h => h) (wr := [D]) (fun b o nb e => kD b o (fun q => nb (by simp [q])) e) (fun b hb => by rw [List.mem_singleton.mp hb]; exact List.mem_append_right _ w.hD)
        (fun b hb => by rw [List.mem_singleton.mp hb]; exact w.dl) fun b hb => by
          obtain ⟨o, e⟩ := i4.alive b (List.mem_append_right _ hb)
          by_cases q : b = D
          · subst q; obtain ⟨nn, hh⟩ := hl5; exact ⟨_, hh⟩
          · exact ⟨o, kD b o q e⟩
      have k5 : Keep h4 (wr ++ H) h5 (wr ++ H) := fun b o nb e => ⟨kD b o (fun q => nb (q ▸ List.mem_append_right _ w.hD)) e, nb⟩
      refine ⟨items.length + 1 - (j + 1), by omega, j + 1, h5, tk4, vs.push y, acc ++ [dd], rfl, Nat.le_trans le (Nat.le_trans le1 (Nat.le_trans le2 (Nat.le_trans le3 le4))), rfl, hlt, ?_, i5.weak (put_new nl), hl5, ?_, ?_, fun b o n1 n2 n3 e => kD b o n2 (x4 b o (x3 b o (ok2 b o n1 n2 n3 e))), ej⟩
      · exact W.frame _ _ _ stt fun b hb o e => kD b o (fp_nl b hb).2 (x4 b o (x3 b o e))
      · rw [Array.toList_push]
        exact (((rl2.keep (x3.keep _)).keep (x4.keep _)).keep k5).append (.cons (r4.keep k5) .nil)
      · exact ((kk2.trans (x3.keep _)).trans (x4.keep _)).trans k5
    · rename_i et
      cases hturn
      refine tests_ok (s := { s with heap := h2, toks := tk2 }) S aok tts et i2 pt2 _ _ fun b h3 tk3 le3 hp => ?_
      obtain ⟨i3, x3, hb⟩ := hp
      subst hb
      have x3 := x3.ext
      simp only [Bool.false_eq_true, if_false]
      refine ⟨items.length + 1 - (j + 1), by omega, j + 1, h3, tk3, vs, acc, rfl, Nat.le_trans le (Nat.le_trans le1 (Nat.le_trans le2 le3)), rfl, hlt, ?_, i3.weak (put_new nl), hl2.at fun o e => x3 _ _ e, rl2.keep (x3.keep _), kk2.trans (x3.keep _), fun b o n1 n2 n3 e => x3 b o (ok2 b o n1 n2 n3 e), ej⟩
      exact W.frame _ _ _ stt fun b hb o e => x3 b o e
    · cases hturn
  · have hj' : j = items.length := by omega
    subst hj'
    rw [List.drop_length] at ej
    cases ej
    have nx : Go c.M A (pyNext (.ref I)) { s with heap := h, toks := tk } fun o h1 => o = none ∧ ∀ b o, b ∉ wr → h.get? b = some o → h1.get? b = some o :=
      Go.of fun Q E hQ => W.done _ Q E st fun h1 tk1 hk1 => hQ _ h1 tk1 ⟨rfl, hk1⟩
    refine nx _ _ fun o h1 tk1 le1 hp => ?_
    obtain ⟨ho, hk1⟩ := hp
    subst ho
    have kk : Keep h (wr ++ H) h1 H := fun b o nb e => ⟨hk1 b o (fun z => nb (List.mem_append_left _ z)) e, fun q => nb (List.mem_append_right _ q)⟩
    refine hR _ _ (Nat.le_trans le le1) ⟨?_, ⟨vs, hl.at fun o e => hk1 _ o Dwr e, rl.keep kk⟩, fun b o n1 n2 n3 e => hk1 b o n3 (okj b o n1 n2 n3 e)⟩
    exact ij.past w.fm (fun b hb => List.mem_append_right _ hb) hk1 (fun b hb => List.mem_append_left _ hb) wr_nl fun b hb => by
      obtain ⟨o, e⟩ := ij.alive b (List.mem_append_right _ (List.mem_append_right _ hb))
      exact ⟨o, hk1 b o (fun z => wr_H b z hb) e⟩
end
end Mine
end

section
open PySem PySem.W PyProof.Rows
set_option Elab.async false
set_option maxRecDepth 10000
namespace Mine

section
variable {c : Cx} {n : Nat} {r : Rec} {env cenv : Env} {hid as H : List Addr} {ρ : Rho} {A : Around} {s : Shared} {d : Dat} {μ : Mu} {h h' : Heap}

theorem outer_loop {elt : PySem.Expr} {g : Comprehension} {scope : Scope} {p q : Pos} {v : Str} {iter iter2 : PySem.Expr} {it acc : Value} {R : Result → Shared → Prop} (lt : OuterT (.ListComp elt [⟨.Name v q, iter, [], 0⟩, g] scope p) (.Name v q) iter iter2)
    (is : IterS iter2) (I : Nat → Shared → Prop)
    (turn : ∀ m s, I m s → ∀ E : Value → Shared → Prop, wpAny c.M A (pyNext it) (fun o s₁ => match o with
      | none => R (.ok .next) s₁
      | some x => wpAny c.M A (storeName cenv v x) (fun _ s₂ => wpAny c.M A (eval iter2 cenv) (fun x s₃ => wpAny c.M A (pyIter x) (fun it2 s₄ =>
          codeAny c.M (A.mark none) (.compStart (.ListComp elt [⟨.Name v q, iter, [], 0⟩, g] scope p) 1 it2 acc cenv) (fun r s' => match r with | .ok _ => ∃ m', m' < m ∧ I m' s' | .error e => cameBackBy c.M A cenv E e s') s₄) E s₃) E s₂) E s₁) E s) (m : Nat) (h : I m s) :
    codeAny c.M A (.compLoop (.ListComp elt [⟨.Name v q, iter, [], 0⟩, g] scope p) 0 it acc cenv) R s := by
  refine codeAny_loop rfl I (fun m s hI => ?_) m h
  show wpAny _ A ((compTurn (.ListComp elt [⟨.Name v q, iter, [], 0⟩, g] scope p) 0 it acc cenv).onRaise (fun x => do noteFrame x cenv; theTreesLotGoes x)) _ _ s
  refine wpAny_noted ?_
  rw [lt]
  refine wpAny_bind (wpAny_standAt (wpAny_bind (wpAny_mono (turn m s hI _) (fun o s₁ h₁ => ?_) fun _ _ h' => h')))
  cases o with
  | none => exact wpAny_pure h₁
  | some x =>
    refine wpAny_bind (show wpAny c.M A (pure ()) _ _ _ from wpAny_pure ?_)
    refine wpAny_bind (assign_Name (wpAny_mono h₁ (fun _ s₂ h₂ => ?_) fun _ _ h' => h'))
    refine wpAny_bind (show wpAny c.M A (pure true) _ _ _ from wpAny_pure ?_)
    simp only [if_true]
    refine wpAny_bind (wpAny_mono h₂ (fun x s₃ h₃ => wpAny_bind (wpAny_standAt (wpAny_bind (wpAny_of_eq (is _ x) ?_)))) fun _ _ h' => h')
    refine wpAny_bind (wpAny_holding (wpAny_mono h₃ (fun it2 s₄ h₄ => ?_) fun _ _ h' => h'))
    refine wpAny_bind (wpAny_runOwn (codeAny_mono h₄ fun r s' hr => ?_))
    cases r with
    | ok f => exact wpAny_pure ⟨rfl, hr⟩
    | error e => exact hr

theorem start1 {elt target iter : PySem.Expr} {ifs : List PySem.Expr} {g : Comprehension} {scope : Scope} {pos : Pos} {it acc : Value} {env : Env} {R : Result → Shared → Prop}
    (h0 : codeAny c.M A (.compLoop (.ListComp elt [g, ⟨target, iter, ifs, 0⟩] scope pos) 1 it acc env) R s)
    (h : ∀ E, wpAny c.M A (pyIter it) (fun it' s' => codeAny c.M A (.compLoop (.ListComp elt [g, ⟨target, iter, ifs, 0⟩] scope pos) 1 it' acc env) R s') E s) :
    codeAny c.M A (.compStart (.ListComp elt [g, ⟨target, iter, ifs, 0⟩] scope pos) 1 it acc env) R s := by
  refine codeAny_of_tree ?_
  show wpAny _ _ ((compStart (.ListComp elt [g, ⟨target, iter, ifs, 0⟩] scope pos) 1 it acc env).onRaise (fun x => do noteFrame x env; standAt theWindowsPlace)) _ _ s
  refine wpAny_notedAt ?_
  unfold compStart
  show wpAny _ _ (ask >>= _) _ _ s
  refine wpAny_bind (wpAny_askSetting (wpAny_ite ?_))
  split
  · first
      | exact wpAny_pure ⟨rfl, h0⟩
      | exact wpAny_bind (wpAny_pure (wpAny_pure ⟨rfl, h0⟩))
  · refine wpAny_bind (wpAny_rule ?_)
    show wpAny _ _ (standAt iter.pos >>= _) _ _ s
    exact wpAny_bind (wpAny_standAt (wpAny_bind (wpAny_mono (h _) (fun it' s' h' => wpAny_pure ⟨rfl, h'⟩) fun _ _ x => x)))

theorem loop2_ok (ok : c.Ok) (S : Snd c n r) (aok : AOk n A) {elt : PySem.Expr} {scope : Scope} {p q q2 : Pos} {nv v2 : Str} {x x2 : Nat} {iter iter2 : PySem.Expr} {ifs : List PySem.Expr} {it2 : It} {t : Ex} {ts : List Te} {R : Result → Shared → Prop}
    {D I : Addr} {vars : Vars} {wr fp : List Addr} {items acc out : List Dat} {P : Nat → Value → Prop} {St : Nat → Heap → Prop}
    (hv : Owned c.nm cenv.scope.names nv x) (hv2 : Owned c.nm cenv.scope.names v2 x2) (hx : x ≠ x2) (is : IterS iter2) (ti : TrIt c.nm cenv.scope.names iter2 it2) (tts : TrTs c.nm cenv.scope.names ifs ts) (te : TrE c.nm cenv.scope.names elt t)
    (w : Walking c cenv H D vars I wr fp items P St acc s.heap) (nl : look vars x = none) (nl2 : look vars x2 = none) (e : loop2 r t ts x x2 it2 vars items acc = some out) (pt : 0 < s.toks)
    (hR : ∀ h' tk, s.toks ≤ tk → Walked c cenv H D vars wr out s.heap h' → R (.ok .next) { s with heap := h', toks := tk }) :
    codeAny c.M A (.compLoop (.ListComp elt [⟨.Name nv q, iter, [], 0⟩, ⟨.Name v2 q2, iter2, ifs, 0⟩] scope p) 0 (.ref I) (.ref D) cenv) R s := by
  have W := w.wk.walks A aok.handled
  have wrfp : ∀ b ∈ wr, b ∈ fp := W.sub
  have wr_H : ∀ b ∈ wr, b ∉ H := fun b hb => w.fpn b (wrfp b hb)
  have wr_nl : ∀ b ∈ wr, b ≠ cenv.locals ∧ ∀ n, cenv.cells.lookup n ≠ some b := fun b hb =>
    ⟨fun q => wr_H b hb (q ▸ w.fm.lh), fun n q => wr_H b hb (w.fm.ch n b q).1⟩
  have fm' := w.inv.fm
  have fp_nl : ∀ b ∈ fp, b ≠ cenv.locals ∧ b ≠ D := fun b hb => ⟨fun q => w.fpn b hb (q ▸ w.fm.lh), fun q => w.fpn b hb (q ▸ w.hD)⟩
  have Dwr : D ∉ wr := fun q => wr_H D q w.hD
  obtain ⟨vs0, hl0, rl0⟩ := w.acc
  refine outer_loop (A := A) outerT is (fun kk s' => ∃ j h tk vs acc, s' = { s with heap := h, toks := tk } ∧ s.toks ≤ tk ∧ kk = items.length + 1 - j ∧ j ≤ items.length ∧ St j h ∧ Inv c cenv (wr ++ H) [] ⟨vars, none⟩ h ∧ h.PlainList D vs ∧
    RepL c.prog c.w h (wr ++ H) vs.toList acc ∧ Keep s.heap (wr ++ H) h (wr ++ H) ∧ (∀ b o, b ≠ cenv.locals → b ≠ D → b ∉ wr → s.heap.get? b = some o → h.get? b = some o) ∧ loop2 r t ts x x2 it2 vars (items.drop j) acc = some out) ?_ (items.length + 1)
    ⟨0, s.heap, s.toks, vs0, acc, rfl, Nat.le_refl _, rfl, Nat.zero_le _, w.st, w.inv, hl0, rl0, .refl, fun _ _ _ _ _ e => e, by simpa using e⟩
  rintro kk s' ⟨j, h, tk, vs, acc, rfl, le, rfl, hj, st, ij, hl, rl, kj, okj, ej⟩ E
  by_cases hlt : j < items.length
  · have hd : items.drop j = items[j] :: items.drop (j + 1) := List.drop_eq_getElem_cons hlt
    rw [hd] at ej
    unfold loop2 at ej
    split at ej
    rotate_left
    · cases ej
    rename_i items2 hit
    split at ej
    rotate_left
    · cases ej
    rename_i acc' hturn
    have nx : Go c.M A (pyNext (.ref I)) { s with heap := h, toks := tk } fun o h1 => ∃ v, o = some v ∧ P j v ∧ St (j + 1) h1 ∧ ∀ b o, b ∉ wr → h.get? b = some o → h1.get? b = some o :=
      Go.of fun Q E hQ => W.item j _ Q E hlt st fun v h1 tk1 hP st1 hk1 => hQ _ h1 tk1 ⟨v, rfl, hP, st1, hk1⟩
    refine nx _ _ fun o h1 tk1 le1 hp => ?_
    obtain ⟨v, ho, hP, st1, hk1⟩ := hp
    subst ho
    have i1 : Inv c cenv (wr ++ H) [] ⟨vars, none⟩ h1 := ij.past fm' (fun _ h => h) hk1 (fun b hb => List.mem_append_left _ hb) wr_nl fun b hb => by
      rcases List.mem_append.mp hb with q | q
      · exact w.wk.live _ _ st1 b (wrfp b q)
      · obtain ⟨o, e⟩ := ij.alive b (List.mem_append_right _ hb)
        exact ⟨o, hk1 b o (fun z => wr_H b z q) e⟩
    have k1 : Keep h (wr ++ H) h1 (wr ++ H) := fun b o nb e => ⟨hk1 b o (fun z => nb (List.mem_append_left _ z)) e, nb⟩
    obtain ⟨d', hd', rv⟩ := w.items j v hP
    have : d' = items[j] := by
      rw [List.getElem?_eq_getElem hlt] at hd'
      exact (Option.some.inj hd').symm
    subst this
    refine store_ok (s := { s with heap := h1, toks := tk1 }) ok i1 ⟨hv.1, .inl hv.2⟩ ((rv.keep kj).keep k1) rfl _ _ fun _ h2 tk2 le2 hp => ?_
    obtain ⟨i2, st2, kl2⟩ := hp
    have kl2 := kl2 (hv.1 ▸ hv.2)
    have k2 := st2.keep fm'
    have stt : St (j + 1) h2 := W.frame _ _ _ st1 fun b hb o e => kl2 b o (fp_nl b hb).1 e
    have pt2 := lt3 (lt2 pt le) le1 le2
    have ok2 : ∀ b o, b ≠ cenv.locals → b ≠ D → b ∉ wr → s.heap.get? b = some o → h2.get? b = some o := fun b o n1 n2 n3 e => kl2 b o n1 (hk1 b o n3 (okj b o n1 n2 n3 e))
    have hl2 : h2.PlainList D vs := hl.at fun o e => kl2 D o w.dl.1 (hk1 D o Dwr e)
    have rl2 := (rl.keep k1).keep k2
    have kk2 := (kj.trans k1).trans k2
    refine it_ok (s := { s with heap := h2, toks := tk2 }) ok S aok ti hit i2 pt2 fun it3 h3 tk3 le3 hp => ?_
    obtain ⟨h₁, i₁, k₁, rd⟩ := hp
    obtain ⟨I2, wr2, fp2, P2, St2, rfl, wk2, x3, st3, fpn2, wrn2, items2_ok, _, fpl2⟩ := rd
    have x₁ := k₁.ext
    have W2 := wk2.walks (A.mark none) (mark_ok aok).handled
    have wr2fp : ∀ b ∈ wr2, b ∈ fp2 := W2.sub
    have i3 : Inv c cenv (wr2 ++ (wr ++ H)) [] ⟨put vars x items[j], none⟩ h3 := i₁.hide x3 wrn2 fun b hb => wk2.live 0 _ st3 b (wr2fp b hb)
    have k3 : Keep h₁ (wr ++ H) h3 (wr2 ++ (wr ++ H)) := fun b o nb e => ⟨x3 b o e, fun q => by
      rcases List.mem_append.mp q with q | q
      · rw [wrn2 b q] at e; cases e
      · exact nb q⟩
    have up : ∀ b o, h2.get? b = some o → b ∉ wr2 := fun b o e q => by have := x₁ b o e; rw [wrn2 b q] at this; cases this
    have w2 : Walking c cenv (wr ++ H) D (put vars x items[j]) I2 wr2 fp2 items2 P2 St2 acc h3 := ⟨wk2, fun b hb q => fpn2 b hb q, st3, i3, fm', fun i v hp => let ⟨d, e, rr⟩ := items2_ok i v hp; ⟨d, e, rr.keep k3⟩,
      List.mem_append_right _ w.hD, w.dl, vs, hl2.at fun o e => x3 _ o (x₁ _ o e), (rl2.keep (x₁.keep _)).keep k3⟩
    have nl2' : look (put vars x items[j]) x2 = none := by rw [look_put, if_neg (Ne.symm hx)]; exact nl2
    have fin : ∀ h4 tk4, tk3 ≤ tk4 → Walked c cenv (wr ++ H) D (put vars x items[j]) wr2 acc' h3 h4 →
        ∃ m', m' < items.length + 1 - j ∧ ∃ j h tk vs acc, ({ s with heap := h4, toks := tk4 } : Shared) = { s with heap := h, toks := tk } ∧ s.toks ≤ tk ∧ m' = items.length + 1 - j ∧ j ≤ items.length ∧ St j h ∧ Inv c cenv (wr ++ H) [] ⟨vars, none⟩ h ∧ h.PlainList D vs ∧
          RepL c.prog c.w h (wr ++ H) vs.toList acc ∧ Keep s.heap (wr ++ H) h (wr ++ H) ∧ (∀ b o, b ≠ cenv.locals → b ≠ D → b ∉ wr → s.heap.get? b = some o → h.get? b = some o) ∧ loop2 r t ts x x2 it2 vars (items.drop j) acc = some out := fun h4 tk4 le4 wd => by
      obtain ⟨vs4, hl4, rl4⟩ := wd.acc
      have up4 : ∀ b o, b ≠ cenv.locals → b ≠ D → h2.get? b = some o → h4.get? b = some o := fun b o n1 n2 e => wd.kept b o n1 n2 (up b o e) (x3 b o (x₁ b o e))
      have hDl : ∀ b, b ∉ wr ++ H → b ≠ cenv.locals ∧ b ≠ D := fun b nb => ⟨fun q => nb (List.mem_append_right _ (q ▸ w.fm.lh)), fun q => nb (List.mem_append_right _ (q ▸ w.hD))⟩
      refine ⟨items.length + 1 - (j + 1), by omega, j + 1, h4, tk4, vs4, acc', rfl, Nat.le_trans le (Nat.le_trans le1 (Nat.le_trans le2 (Nat.le_trans le3 le4))), rfl, hlt, ?_, wd.inv.weak (put_new nl), hl4, rl4, ?_, fun b o n1 n2 n3 e => up4 b o n1 n2 (ok2 b o n1 n2 n3 e), ej⟩
      · exact W.frame _ _ _ stt fun b hb o e => up4 b o (fp_nl b hb).1 (fp_nl b hb).2 e
      · exact kk2.trans fun b o nb e => ⟨up4 b o (hDl b nb).1 (hDl b nb).2 e, nb⟩
    have pt3 : 0 < tk3 := lt2 pt2 le3
    have loop : ∀ R' : Result → Shared → Prop, (∀ h4 tk4, tk3 ≤ tk4 → Walked c cenv (wr ++ H) D (put vars x items[j]) wr2 acc' h3 h4 → R' (.ok .next) { s with heap := h4, toks := tk4 }) →
        codeAny c.M (A.mark none) (.compLoop (.ListComp elt [⟨.Name nv q, iter, [], 0⟩, ⟨.Name v2 q2, iter2, ifs, 0⟩] scope p) 1 (.ref I2) (.ref D) cenv) R' { s with heap := h3, toks := tk3 } := fun R' hR' =>
      loop1_ok (s := { s with heap := h3, toks := tk3 }) ok S (mark_ok aok) lastT2 hv2 tts te w2 nl2' hturn pt3 hR'
    refine start1 (loop _ fun h4 tk4 le4 wd => fin h4 tk4 le4 wd) fun E'' => W2.self 0 _ _ _ st3 (loop _ fun h4 tk4 le4 wd => fin h4 tk4 le4 wd)
  · have hj' : j = items.length := by omega
    subst hj'
    rw [List.drop_length] at ej
    cases ej
    have nx : Go c.M A (pyNext (.ref I)) { s with heap := h, toks := tk } fun o h1 => o = none ∧ ∀ b o, b ∉ wr → h.get? b = some o → h1.get? b = some o :=
      Go.of fun Q E hQ => W.done _ Q E st fun h1 tk1 hk1 => hQ _ h1 tk1 ⟨rfl, hk1⟩
    refine nx _ _ fun o h1 tk1 le1 hp => ?_
    obtain ⟨ho, hk1⟩ := hp
    subst ho
    have kk : Keep h (wr ++ H) h1 H := fun b o nb e => ⟨hk1 b o (fun z => nb (List.mem_append_left _ z)) e, fun q => nb (List.mem_append_right _ q)⟩
    refine hR _ _ (Nat.le_trans le le1) ⟨?_, ⟨vs, hl.at fun o e => hk1 _ o Dwr e, rl.keep kk⟩, fun b o n1 n2 n3 e => hk1 b o n3 (okj b o n1 n2 n3 e)⟩
    exact ij.past w.fm (fun b hb => List.mem_append_right _ hb) hk1 (fun b hb => List.mem_append_left _ hb) wr_nl fun b hb => by
      obtain ⟨o, e⟩ := ij.alive b (List.mem_append_right _ (List.mem_append_right _ hb))
      exact ⟨o, hk1 b o (fun z => wr_H b z hb) e⟩
end
end Mine
end

section
open PySem PySem.W PyProof.Rows
set_option Elab.async false
set_option maxRecDepth 10000
namespace Mine

/-! the cells that a comprehension sees -/
noncomputable def clo (cells : List (Str × Addr)) : Sc → List (Str × Addr) → List (Str × Addr)
  | [], acc => acc
  | (n, k) :: r, acc => clo cells r (if k == .free then (n, (cells.lookup n).getD 0) :: acc else acc)
theorem clo_is {env : Env} (f : (Str × NameKind) → List (Str × Addr) → Sem (ForInStep (List (Str × Addr))))
    (hf : ∀ n k cs, f (n, k) cs = if k == .free then (do let a ← cellOf env n; pure (.yield ((n, a) :: cs))) else pure (.yield cs)) :
    ∀ (names : Sc) (acc : List (Str × Addr)), (∀ y ∈ names, y.2 = .free → ∃ a, env.cells.lookup y.1 = some a) → forIn names acc f = (pure (clo env.cells names acc) : Sem _)
  | [], acc, _ => rfl
  | (n, k) :: r, acc, h => by
    have ih := fun acc => clo_is f hf r acc fun y hy => h y (List.mem_cons_of_mem _ hy)
    rw [List.forIn_cons, hf]
    unfold clo
    cases q : k == NameKind.free with
    | true =>
      obtain ⟨a, ha⟩ := h (n, k) List.mem_cons_self (beq_iff_eq.mp q)
      simp only [if_true, cellOf, ha, pure_bind, Option.getD_some]
      exact ih _
    | false =>
      simp only [Bool.false_eq_true, if_false, pure_bind]
      exact ih _
theorem closure_is {scope : Scope} {env : Env} (h : ∀ y ∈ scope.names, y.2 = .free → ∃ a, env.cells.lookup y.1 = some a) : closureFor scope env = pure (clo env.cells scope.names []) := by
  unfold closureFor
  exact (bind_pure _).trans (clo_is _ (fun n k cs => by cases k <;> rfl) scope.names [] h)
theorem clo_sound {cells : List (Str × Addr)} : ∀ {names : Sc} {acc : List (Str × Addr)}, (∀ y ∈ names, y.2 = .free → ∃ a, cells.lookup y.1 = some a) → (∀ n a, acc.lookup n = some a → cells.lookup n = some a) → ∀ n a, (clo cells names acc).lookup n = some a → cells.lookup n = some a
  | [], _, _, h, n, a, e => h n a e
  | (n', k) :: r, acc, hf, h, n, a, e => by
    unfold clo at e
    refine clo_sound (fun y hy => hf y (List.mem_cons_of_mem _ hy)) (fun m b q => ?_) n a e
    cases z : k == NameKind.free with
    | false => rw [z] at q; exact h m b q
    | true =>
      rw [z] at q
      simp only [if_true, List.lookup_cons] at q
      cases w : m == n' with
      | false => rw [w] at q; exact h m b q
      | true =>
        rw [w] at q
        obtain ⟨a', ha'⟩ := hf (n', k) List.mem_cons_self (beq_iff_eq.mp z)
        rw [ha'] at q
        cases q
        rw [beq_iff_eq.mp w]; exact ha'
theorem clo_full {cells : List (Str × Addr)} : ∀ {names : Sc} {acc : List (Str × Addr)} (n : Str), ((n, NameKind.free) ∈ names ∨ ∃ a, acc.lookup n = some a) → ∃ a, (clo cells names acc).lookup n = some a
  | [], _, n, h => by
    rcases h with h | h
    · cases h
    · exact h
  | (n', k) :: r, acc, n, h => by
    unfold clo
    refine clo_full n ?_
    rcases h with h | ⟨a, h⟩
    · rcases List.mem_cons.mp h with e | h
      · cases e
        exact .inr ⟨(cells.lookup n').getD 0, by simp⟩
      · exact .inl h
    · refine .inr ?_
      cases z : k == NameKind.free with
      | false => exact ⟨a, by simpa using h⟩
      | true =>
        simp only [if_true, List.lookup_cons]
        cases w : n == n' with
        | false => exact ⟨a, h⟩
        | true => exact ⟨_, rfl⟩
theorem inner_lookup (names sc : Sc) (n : Str) : (inner names sc).lookup n = (names.lookup n).map fun k => if (k == NameKind.free && true && sc.lookup n == some NameKind.cell) then NameKind.cell else k := by
  induction names with
  | nil => rfl
  | cons p r ih =>
    obtain ⟨m, k⟩ := p
    show List.lookup n ((if (k == NameKind.free && true && sc.lookup m == some NameKind.cell) then (m, NameKind.cell) else (m, k)) :: inner r sc) = _
    have e : (if (k == NameKind.free && true && sc.lookup m == some NameKind.cell) then (m, NameKind.cell) else (m, k)) = (m, if (k == NameKind.free && true && sc.lookup m == some NameKind.cell) then NameKind.cell else k) := by split <;> rfl
    rw [e, List.lookup_cons, List.lookup_cons]
    cases w : n == m with
    | true =>
      have := beq_iff_eq.mp w
      subst this
      rfl
    | false => exact ih
theorem mem_of_lookup' {α : Type} : ∀ {l : List (Str × α)} {n : Str} {a : α}, l.lookup n = some a → (n, a) ∈ l
  | (k, v) :: r, n, a, h => by
    rw [List.lookup_cons] at h
    cases hb : n == k with
    | true => rw [hb] at h; cases h; rw [beq_iff_eq.mp hb]; exact List.mem_cons_self
    | false => rw [hb] at h; exact List.mem_cons_of_mem _ (mem_of_lookup' h)

section
variable {c : Cx} {n : Nat} {r : Rec} {env : Env} {hid as H : List Addr} {ρ : Rho} {A : Around} {s : Shared} {d : Dat} {μ : Mu} {h h' : Heap}

theorem relabel_is {scope : Scope} (fm : Fm env hid) : relabel scope env = { scope with names := inner scope.names env.scope.names } := by
  unfold relabel inner Env.kindOf
  rw [fm.kind]
  rfl

/-- the frame of a comprehension as it starts -/
theorem comp_start {scope : Scope} {fr : List Nat} {items : List Dat} {it : Value} {h₁ h2 h3 : Heap} {vars : Vars} (co : CompOk c.nm scope env.scope.names fr) (i : Inv c env hid as ⟨vars, μ⟩ h₁) (rd : Ready c.prog c.w (as ++ hid) h₁ items it h2)
    {C : Addr} (hC : C = h2.objs.size + 1) (hns : h3.Ns C (fun _ => none)) (hD : h3.PlainList h2.objs.size #[]) (x3 : Ext h2 h3) :
    ∃ I wr fp P St, it = .ref I ∧ Walking c (compEnvC scope (clo env.cells scope.names []) C env) (C :: h2.objs.size :: (as ++ hid)) h2.objs.size (only fr vars) I wr fp items P St [] h3 ∧ (∀ b ∈ wr, h₁.get? b = none) ∧ Ext h₁ h2 := by
  obtain ⟨I, wr, fp, P, St, rfl, wk, x0, st0, fpn, wrn, items_ok, _, fpl⟩ := rd
  have x13 : Ext h₁ h3 := x0.trans x3
  have D0 : h2.get? h2.objs.size = none := none_of_size
  have C0 : h2.get? C = none := by
    cases e : h2.get? C with
    | none => rfl
    | some o => have := Heap.lt_size e; rw [hC] at this; exact absurd this (Nat.not_lt.mpr (Nat.le_succ _))
  have new1 : ∀ b, h2.get? b = none → h₁.get? b = none := fun b e => by
    cases q : h₁.get? b with
    | none => rfl
    | some o => rw [x0 _ _ q] at e; cases e
  have notin : ∀ b, h2.get? b = none → b ∉ as ++ hid := fun b e q => by
    obtain ⟨o, e'⟩ := i.alive b q
    rw [new1 b e] at e'; cases e'
  have fpin : ∀ b ∈ fp, ∃ o, h2.get? b = some o := wk.live 0 _ st0
  have W := wk.walks { handled := none } rfl
  have free_cell : ∀ y ∈ scope.names, y.2 = .free → ∃ a, env.cells.lookup y.1 = some a := fun y hy e => i.fm.ce _ (co.free y hy e)
  have cs : ∀ n a, (clo env.cells scope.names []).lookup n = some a → env.cells.lookup n = some a := clo_sound free_cell fun _ _ e => (nomatch e)
  have kin : ∀ n, (compEnvC scope (clo env.cells scope.names []) C env).kindOf n = (inner scope.names env.scope.names).lookup n := fun n => by
    show (relabel scope env).names.lookup n = _
    rw [relabel_is i.fm]
  have fm : Fm (compEnvC scope (clo env.cells scope.names []) C env) (C :: h2.objs.size :: (as ++ hid)) := by
    refine ⟨?_, i.fm.globals, i.fm.builtins, List.mem_cons_self, fun n a e => ?_, fun n n' a e e' => i.fm.cd n n' a (cs _ _ e) (cs _ _ e'), fun n e => ?_⟩
    · show (relabel scope env).kind = _
      rw [relabel_is i.fm]; exact co.kind
    · have := (i.fm.ch n a (cs n a e)).1
      refine ⟨List.mem_cons_of_mem _ (List.mem_cons_of_mem _ (List.mem_append_right _ this)), fun q => ?_⟩
      have q : a = C := q
      exact notin C C0 (List.mem_append_right _ (q ▸ this))
    · rw [kin, inner_lookup] at e
      rw [Option.map_eq_some_iff] at e
      obtain ⟨k, hk, e⟩ := e
      refine clo_full n (.inl ?_)
      by_cases q : (k == NameKind.free && true && env.scope.names.lookup n == some NameKind.cell) = true
      · simp only [Bool.and_true, Bool.and_eq_true] at q
        have := beq_iff_eq.mp q.1
        rw [this] at hk
        exact mem_of_lookup' hk
      · rw [if_neg q] at e
        subst e
        exact absurd rfl (co.cell _ (mem_of_lookup' hk))
  have fresh0 : ∀ b, h₁.get? b = none → c.h₀.get? b = none := fun b e => by
    cases q : c.h₀.get? b with
    | none => rfl
    | some o => rw [i.ext _ _ q] at e; cases e
  have kk : Keep h₁ (as ++ hid) h3 (wr ++ (C :: h2.objs.size :: (as ++ hid))) := fun b o nb e => ⟨x13 b o e, fun q => by
    rcases List.mem_append.mp q with q | q
    · rw [wrn b q] at e; cases e
    · rcases List.mem_cons.mp q with rfl | q
      · rw [new1 _ C0] at e; cases e
      · rcases List.mem_cons.mp q with rfl | q
        · rw [new1 _ D0] at e; cases e
        · exact nb q⟩
  refine ⟨I, wr, fp, P, St, rfl, ⟨wk, fun b hb q => ?_, W.frame _ _ _ st0 fun b _ o e => x3 b o e, ?_, fm, fun i v hp => let ⟨d, e, rr⟩ := items_ok i v hp; ⟨d, e, rr.keep kk⟩, List.mem_cons_of_mem _ List.mem_cons_self, ⟨fun q => ?_, fun n q => ?_⟩, #[], hD, .nil⟩, wrn, x0⟩
  · obtain ⟨o, e⟩ := fpin b hb
    rcases List.mem_cons.mp q with rfl | q
    · rw [C0] at e; cases e
    · rcases List.mem_cons.mp q with rfl | q
      · rw [D0] at e; cases e
      · exact fpn b hb q
  · refine ⟨⟨fm.kind, fm.globals, fm.builtins, List.mem_append_right _ fm.lh, fun n a e => ⟨List.mem_append_right _ (fm.ch n a e).1, (fm.ch n a e).2⟩, fm.cd, fm.ce⟩, fun b hb => ?_, i.ext.trans x13, fun b hb => ?_, fun _ h => (nomatch h), fun n a e => ?_, ⟨_, hns, fun x d e => ?_, rfl⟩, fun _ _ e => (nomatch e)⟩
    · replace hb : b ∈ wr ++ C :: h2.objs.size :: (as ++ hid) := hb
      rcases List.mem_append.mp hb with q | q
      · exact fresh0 b (wrn b q)
      · rcases List.mem_cons.mp q with rfl | q
        · exact fresh0 _ (new1 _ C0)
        · rcases List.mem_cons.mp q with rfl | q
          · exact fresh0 _ (new1 _ D0)
          · exact i.old b q
    · replace hb : b ∈ wr ++ C :: h2.objs.size :: (as ++ hid) := hb
      rcases List.mem_append.mp hb with q | q
      · obtain ⟨o, e⟩ := fpin b (W.sub b q)
        exact ⟨o, x3 _ _ e⟩
      · rcases List.mem_cons.mp q with rfl | q
        · obtain ⟨o, _, _, ho, _⟩ := hns; exact ⟨o, ho⟩
        · rcases List.mem_cons.mp q with rfl | q
          · obtain ⟨nn, ho⟩ := hD; exact ⟨_, ho⟩
          · obtain ⟨o, e⟩ := i.alive b q; exact ⟨o, x13 _ _ e⟩
    · obtain ⟨v, o, ho, hd⟩ := i.cells n a (cs n a e)
      exact ⟨v, o, x13 _ _ ho, hd⟩
    · obtain ⟨hx, e⟩ := look_only fr vars x d e
      obtain ⟨m, hn, hv, _⟩ := i.loc
      obtain ⟨v, rv, lv⟩ := hv x d e
      have hfree := co.fr x hx
      have hcell := co.free _ (mem_of_lookup' hfree) rfl
      refine ⟨v, rv.keep kk, .inr ⟨?_, ?_⟩⟩
      · rw [kin, inner_lookup, hfree]
        simp only [Option.map_some]
        have hcell : env.scope.names.lookup (c.nm x) = some NameKind.cell := hcell
        rw [hcell]; rfl
      · rcases lv with ⟨kl, _⟩ | ⟨_, a, ea, o, ho, hd⟩
        · have : env.scope.names.lookup (c.nm x) = some NameKind.local := kl
          have hcell : env.scope.names.lookup (c.nm x) = some NameKind.cell := hcell
          rw [this] at hcell; cases hcell
        · obtain ⟨a', ea'⟩ := clo_full (cells := env.cells) (acc := []) (c.nm x) (.inl (mem_of_lookup' hfree))
          have := cs _ _ ea'
          rw [ea] at this
          cases this
          exact ⟨a, ea', o, x13 _ _ ho, hd⟩
  · have : h2.objs.size = C := q
    rw [hC] at this; omega
  · exact notin _ D0 (List.mem_append_right _ (i.fm.ch n _ (cs n _ q)).1)

theorem comp_core (ok : c.Ok) (S : Snd c n r) (aok : AOk n A) {elt target iter : PySem.Expr} {ifs : List PySem.Expr} {rest : List Comprehension} {scope : Scope} {p : Pos} {it : It} {fr : List Nat} {items out : List Dat} {RR : Value → Addr → Result → Shared → Prop} {E : Value → Shared → Prop}
    (co : CompOk c.nm scope env.scope.names fr) (ti : TrIt c.nm env.scope.names iter it) (e1 : Mine.iter r it ρ = some (items, μ)) (i : Inv c env hid as ρ s.heap) (pt : 0 < s.toks)
    (hL : ∀ {cenv : Env} {H : List Addr} {D I : Addr} {wr fp : List Addr} {P : Nat → Value → Prop} {St : Nat → Heap → Prop} {s4 : Shared} {R : Result → Shared → Prop}, cenv.scope.names = inner scope.names env.scope.names → Walking c cenv H D (only fr ρ.vars) I wr fp items P St [] s4.heap → 0 < s4.toks →
      (∀ h' tk, s4.toks ≤ tk → Walked c cenv H D (only fr ρ.vars) wr out s4.heap h' → R (.ok .next) { s4 with heap := h', toks := tk }) → codeAny c.M A (.compLoop (.ListComp elt (⟨target, iter, ifs, 0⟩ :: rest) scope p) 0 (.ref I) (.ref D) cenv) R s4)
    (hRR : ∀ D C h₁ h4 tk m, s.toks ≤ tk → Inv c env hid as ⟨ρ.vars, μ⟩ h₁ → KeepB as s.heap h₁ → Ext h₁ h4 → h₁.get? C = none → h₁.get? D = none → D ≠ C → h4.Ns C m → (∃ vs, h4.PlainList D vs ∧ RepL c.prog c.w h4 (C :: D :: (as ++ hid)) vs.toList out) → RR (.ref D) C (.ok .next) { s with heap := h4, toks := tk }) :
    wpAny c.M A (eval iter env) (fun x s₁ => wpAny c.M A (pyIter x) (fun it s₂ => wpAny c.M A (newList []) (fun acc s₃ => wpAny c.M A (newFunctionEnv scope env.globals (clo env.cells scope.names []) [] env.qual none .none (some env)) (fun cenv s₄ =>
      codeAny c.M A (.compStart (.ListComp elt (⟨target, iter, ifs, 0⟩ :: rest) scope p) 0 it acc { cenv with scope := relabel scope env }) (RR acc cenv.locals) s₄) E s₃) E s₂) E s₁) E s := by
  refine it_ok ok S aok ti e1 i pt fun it h2 tk2 le2 hp => ?_
  obtain ⟨h₁, i1, k1, rd⟩ := hp
  refine wpAny_newObj_type (wpAny_newFunctionEnv co.cell (by intro y hy; simp at hy) (fun h3 hns sb => ?_) co.kind)
  dsimp only at hns sb ⊢
  generalize hH2 : h2.push { cls := .type "list", dict := none, data := .seq ([] : List Value).toArray } = H2 at hns sb ⊢
  have hC : H2.objs.size = h2.objs.size + 1 := by rw [← hH2, Heap.size_push]
  have hDC : h2.objs.size ≠ H2.objs.size := by rw [hC]; exact Nat.ne_of_lt (Nat.lt_succ_self _)
  have x3 : Ext h2 h3 := fun b o e => sb.extBut b o (by rw [hC]; exact Nat.ne_of_lt (Nat.lt_succ_of_lt (Heap.lt_size e))) (Heap.get?_push_of_some _ (hH2 ▸ Heap.get?_push_of_some _ e))
  have hD : h3.PlainList h2.objs.size #[] := ⟨_, sb.extBut _ _ hDC (Heap.get?_push_of_some _ (hH2 ▸ Heap.get?_push_size _ rfl))⟩
  have hns' : h3.Ns H2.objs.size (fun _ => none) := by
    have : (fun x => List.lookup x (List.reverse ([] : List (Str × Value)))) = fun _ => (none : Option Value) := by funext x; rfl
    rw [← this]; exact hns
  obtain ⟨I, wr, fp, P, St, rfl, w, wrn, x12⟩ := comp_start co i1 rd hC hns' hD x3
  have D0 : h₁.get? h2.objs.size = none := by
    cases q : h₁.get? h2.objs.size with
    | none => rfl
    | some o => have := x12 _ _ q; rw [none_of_size] at this; cases this
  have C0 : h₁.get? H2.objs.size = none := by
    cases q : h₁.get? H2.objs.size with
    | none => rfl
    | some o => have := Heap.lt_size (x12 _ _ q); rw [hC] at this; exact absurd this (Nat.not_lt.mpr (Nat.le_succ _))
  have W := w.wk.walks A aok.handled
  have loop : codeAny c.M A (.compLoop (.ListComp elt (⟨target, iter, ifs, 0⟩ :: rest) scope p) 0 (.ref I) (.ref h2.objs.size) (compEnvC scope (clo env.cells scope.names []) H2.objs.size env)) (RR (.ref h2.objs.size) H2.objs.size) { s with heap := h3, toks := tk2 } := by
    refine hL (s4 := { s with heap := h3, toks := tk2 }) (by show (relabel scope env).names = _; rw [relabel_is i.fm]) w (lt2 pt le2) fun h4 tk4 le4 wd => ?_
    obtain ⟨m, hn, _⟩ := wd.inv.loc
    refine hRR _ _ h₁ h4 _ m (Nat.le_trans le2 le4) i1 k1 (fun b o e => ?_) C0 D0 hDC hn wd.acc
    have e3 := x3 b o (x12 b o e)
    exact wd.kept b o (fun q => by have q : b = H2.objs.size := q; rw [q, C0] at e; cases e) (fun q => by rw [q, D0] at e; cases e) (fun q => by rw [wrn b q] at e; cases e) e3
  exact codeAny_compStart_list loop (W.self 0 _ _ _ w.st loop)
end
end Mine
end

section
open PySem PySem.W PyProof.Rows
set_option Elab.async false
set_option maxRecDepth 10000
namespace Mine

section
variable {c : Cx} {n : Nat} {r : Rec} {env : Env} {hid as H : List Addr} {ρ : Rho} {A : Around} {s : Shared} {d : Dat} {μ : Mu} {h h' : Heap}

/-- the list that a comprehension made, in the frame around -/
theorem comp_made {D C : Addr} {h₁ h4 h5 : Heap} {out : List Dat} {h0 : Heap} (i : Inv c env hid as ⟨ρ.vars, μ⟩ h₁) (k1 : KeepB as h0 h₁) (x : Ext h₁ h4) (C0 : h₁.get? C = none) (D0 : h₁.get? D = none) (hDC : D ≠ C)
    (acc : ∃ vs, h4.PlainList D vs ∧ RepL c.prog c.w h4 (C :: D :: (as ++ hid)) vs.toList out) (sb : Heap.SameBut C h4 h5) : EvP c env hid as ρ μ h0 (.list out) (.ref D) h5 := by
  have x5 : Ext h₁ h5 := fun b o e => sb.extBut b o (fun q => by rw [q, C0] at e; cases e) (x b o e)
  obtain ⟨vs, hl, rl⟩ := acc
  refine ⟨i.grow x5, k1.trans x5.keepB, .list (fun q => ?_) (hl.extBut sb.extBut hDC).isList (rl.keep fun b o nb e => ⟨sb.extBut b o (fun q => nb (by simp [q])) e, fun q => nb (List.mem_cons_of_mem _ (List.mem_cons_of_mem _ q))⟩)⟩
  obtain ⟨o, e⟩ := i.alive D q
  rw [D0] at e; cases e

theorem comp_eval {elt target iter : PySem.Expr} {ifs : List PySem.Expr} {rest : List Comprehension} {scope : Scope} {p : Pos} {fr : List Nat} (co : CompOk c.nm scope env.scope.names fr) (fm : Fm env hid) (is : IterS iter) {out : List Dat} {h0 : Heap} {Q : Value → Shared → Prop} {E : Value → Shared → Prop}
    (core : ∀ {RR : Value → Addr → Result → Shared → Prop} {E : Value → Shared → Prop}, (∀ D C h₁ h4 tk m, s.toks ≤ tk → Inv c env hid as ⟨ρ.vars, μ⟩ h₁ → KeepB as h0 h₁ → Ext h₁ h4 → h₁.get? C = none → h₁.get? D = none → D ≠ C → h4.Ns C m → (∃ vs, h4.PlainList D vs ∧ RepL c.prog c.w h4 (C :: D :: (as ++ hid)) vs.toList out) → RR (.ref D) C (.ok .next) { s with heap := h4, toks := tk }) →
      wpAny c.M A (eval iter env) (fun x s₁ => wpAny c.M A (pyIter x) (fun it s₂ => wpAny c.M A (newList []) (fun acc s₃ => wpAny c.M A (newFunctionEnv scope env.globals (clo env.cells scope.names []) [] env.qual none .none (some env)) (fun cenv s₄ =>
        codeAny c.M A (.compStart (.ListComp elt (⟨target, iter, ifs, 0⟩ :: rest) scope p) 0 it acc { cenv with scope := relabel scope env }) (RR acc cenv.locals) s₄) E s₃) E s₂) E s₁) E s)
    (hQ : ∀ v h' tk, s.toks ≤ tk → EvP c env hid as ρ μ h0 (.list out) v h' → Q v { s with heap := h', toks := tk }) :
    wpAny c.M A (eval (.ListComp elt (⟨target, iter, ifs, 0⟩ :: rest) scope p) env) Q E s := by
  rw [eval_ListComp]
  have hc : ∀ y ∈ scope.names, y.2 = .free → ∃ a, env.cells.lookup y.1 = some a := fun y hy e => fm.ce _ (co.free y hy e)
  refine wpAny_comprehension_free (use := none) rfl (fun x => is _ x) (closure_is hc) co.kind co.loc (core (RR := fun acc C => compPost c.M A E none Q acc C) fun D C h₁ h4 tk m le i1 k1 x C0 D0 hDC hn acc => ?_)
  exact ⟨m, hn, fun h5 sb => hQ _ _ _ le (comp_made i1 k1 x C0 D0 hDC acc sb)⟩

theorem comp_assign (ok : c.Ok) {elt target iter : PySem.Expr} {ifs : List PySem.Expr} {rest : List Comprehension} {scope : Scope} {p q : Pos} {nv : Str} {z : Nat} {pp : Pos} {fr : List Nat} (ow : Owned c.nm env.scope.names nv z) (co : CompOk c.nm scope env.scope.names fr) (fm : Fm env hid) (is : IterS iter)
    (sw : Swap env.scope.names (.ListComp elt (⟨target, iter, ifs, 0⟩ :: rest) scope p) (some (.Name nv q)) pp.line) (hz : isMu μ z = false) {out : List Dat} {h0 : Heap} {Q : Flow → Shared → Prop} {E : Value → Shared → Prop}
    (core : ∀ {RR : Value → Addr → Result → Shared → Prop} {E : Value → Shared → Prop}, (∀ D C h₁ h4 tk m, s.toks ≤ tk → Inv c env hid as ⟨ρ.vars, μ⟩ h₁ → KeepB as h0 h₁ → Ext h₁ h4 → h₁.get? C = none → h₁.get? D = none → D ≠ C → h4.Ns C m → (∃ vs, h4.PlainList D vs ∧ RepL c.prog c.w h4 (C :: D :: (as ++ hid)) vs.toList out) → RR (.ref D) C (.ok .next) { s with heap := h4, toks := tk }) →
      wpAny c.M A (eval iter env) (fun x s₁ => wpAny c.M A (pyIter x) (fun it s₂ => wpAny c.M A (newList []) (fun acc s₃ => wpAny c.M A (newFunctionEnv scope env.globals (clo env.cells scope.names []) [] env.qual none .none (some env)) (fun cenv s₄ =>
        codeAny c.M A (.compStart (.ListComp elt (⟨target, iter, ifs, 0⟩ :: rest) scope p) 0 it acc { cenv with scope := relabel scope env }) (RR acc cenv.locals) s₄) E s₃) E s₂) E s₁) E s)
    (hQ : ∀ h' tk, s.toks ≤ tk → Inv c env hid as ⟨put ρ.vars z (.list out), μ⟩ h' → StepF env as h0 as h' → Q .next { s with heap := h', toks := tk }) :
    wpAny c.M A (exec (.Assign [.Name nv q] (.ListComp elt (⟨target, iter, ifs, 0⟩ :: rest) scope p) pp) env) Q E s := by
  rw [exec_Assign_Name_used _ _ _ _ (sw env rfl fm.kind)]
  have hc : ∀ y ∈ scope.names, y.2 = .free → ∃ a, env.cells.lookup y.1 = some a := fun y hy e => fm.ce _ (co.free y hy e)
  refine wpAny_bind (wpAny_standAt (wpAny_bind ?_))
  show wpAny _ A (do let _ ← comprehension (.ListComp elt (⟨target, iter, ifs, 0⟩ :: rest) scope p) scope env _ (newList []) false (eval iter env) (some (assign (.Name nv q) env))) _ _ s
  refine wpAny_bind (wpAny_mono (wpAny_comprehension_free (use := some (assign (.Name nv q) env)) (Q := fun _ s' => Q .next s') rfl (fun x => is _ x) (closure_is hc) co.kind co.loc
    (core (RR := fun acc C => compPost c.M A E (some (assign (.Name nv q) env)) (fun _ s' => Q .next s') acc C) fun D C h₁ h4 tk m le i1 k1 x C0 D0 hDC hn acc => ?_)) (fun _ s' hq => wpAny_pure (wpAny_pure hq)) fun _ _ e => e)
  obtain ⟨vs, hl, rl⟩ := acc
  have C4 : ∃ o, h4.get? C = some o := by obtain ⟨o, _, _, ho, _⟩ := hn; exact ⟨o, ho⟩
  have i4 : Inv c env ([C] ++ hid) as ⟨ρ.vars, μ⟩ h4 := i1.hide x (fun b hb => by rw [List.mem_singleton.mp hb]; exact C0) fun b hb => by rw [List.mem_singleton.mp hb]; exact C4
  have rv : Rep c.prog c.w h4 (as ++ ([C] ++ hid)) (.ref D) (.list out) := by
    refine .list (fun q => ?_) hl.isList (rl.keep fun b o nb e => ⟨e, fun q => nb ?_⟩)
    · rcases List.mem_append.mp q with q | q
      · obtain ⟨o, e⟩ := i1.alive D (List.mem_append_left _ q); rw [D0] at e; cases e
      · rcases List.mem_append.mp q with q | q
        · exact hDC (List.mem_singleton.mp q)
        · obtain ⟨o, e⟩ := i1.alive D (List.mem_append_right _ q); rw [D0] at e; cases e
    · rcases List.mem_append.mp q with q | q
      · exact List.mem_cons_of_mem _ (List.mem_cons_of_mem _ (List.mem_append_left _ q))
      · rcases List.mem_append.mp q with q | q
        · rw [List.mem_singleton.mp q]; exact List.mem_cons_self
        · exact List.mem_cons_of_mem _ (List.mem_cons_of_mem _ (List.mem_append_right _ q))
  refine assign_Name (store_ok (s := { s with heap := h4, toks := tk }) ok i4 ⟨ow.1, .inl ow.2⟩ rv hz _ _ fun _ h5 tk5 le5 hp => ?_)
  obtain ⟨i5, st5, kl5⟩ := hp
  have kl5 := kl5 (ow.1 ▸ ow.2)
  have CL : C ≠ env.locals := fun q => by
    obtain ⟨o, e⟩ := i1.alive env.locals (List.mem_append_right _ i1.fm.lh)
    rw [← q, C0] at e; cases e
  have Cc : ∀ n, env.cells.lookup n ≠ some C := fun n q => by
    obtain ⟨o, e⟩ := i1.alive C (List.mem_append_right _ (i1.fm.ch n C q).1)
    rw [C0] at e; cases e
  refine ⟨m, hn.at' fun o e => kl5 C o CL e, fun h6 sb => hQ _ _ (Nat.le_trans le le5) (i5.past i1.fm (fun b hb => List.mem_append_right _ hb) (wr := [C]) (fun b o nb e => sb.extBut b o (fun q => nb (by simp [q])) e) (fun b hb => List.mem_append_left _ hb)
    (fun b hb => by rw [List.mem_singleton.mp hb]; exact ⟨CL, Cc⟩) fun b hb => ?_) ⟨fun b o n1 n2 n3 e => ?_, fun _ h => .inl h⟩⟩
  · obtain ⟨o, e⟩ := i5.alive b (List.mem_append_right _ (List.mem_append_right _ hb))
    refine ⟨o, sb.extBut b o (fun q => ?_) e⟩
    obtain ⟨o', e'⟩ := i1.alive b (List.mem_append_right _ hb)
    rw [q, C0] at e'; cases e'
  · have e1 := k1 b o n3 e
    exact sb.extBut b o (fun q => by rw [q, C0] at e1; cases e1) (kl5 b o n1 (x b o e1))

theorem only_none {scope : Scope} {fr : List Nat} {sc : Sc} (co : CompOk c.nm scope sc fr) {v : Str} {x : Nat} (hv : v = c.nm x) (hl : scope.names.lookup v = some .local) (vars : Vars) : look (only fr vars) x = none := by
  cases e : look (only fr vars) x with
  | none => rfl
  | some d =>
    have := co.fr x (look_only fr vars x d e).1
    rw [← hv, hl] at this; cases this
theorem inner_local {names sc : Sc} {v : Str} (hl : names.lookup v = some .local) : (inner names sc).lookup v = some .local := by
  rw [inner_lookup, hl]; rfl

theorem core1 (ok : c.Ok) (S : Snd c n r) (aok : AOk n A) {elt iter : PySem.Expr} {ifs : List PySem.Expr} {scope : Scope} {p q : Pos} {v : Str} {x : Nat} {it : It} {t : Ex} {ts : List Te} {fr : List Nat} {items out : List Dat}
    (co : CompOk c.nm scope env.scope.names fr) (hv : v = c.nm x) (hl : scope.names.lookup v = some .local) (ti : TrIt c.nm env.scope.names iter it) (tts : TrTs c.nm (inner scope.names env.scope.names) ifs ts) (te : TrE c.nm (inner scope.names env.scope.names) elt t)
    (e1 : Mine.iter r it ρ = some (items, μ)) (e2 : loop1 r t ts x (only fr ρ.vars) items [] = some out) (i : Inv c env hid as ρ s.heap) (pt : 0 < s.toks) {RR : Value → Addr → Result → Shared → Prop} {E : Value → Shared → Prop}
    (hRR : ∀ D C h₁ h4 tk m, s.toks ≤ tk → Inv c env hid as ⟨ρ.vars, μ⟩ h₁ → KeepB as s.heap h₁ → Ext h₁ h4 → h₁.get? C = none → h₁.get? D = none → D ≠ C → h4.Ns C m → (∃ vs, h4.PlainList D vs ∧ RepL c.prog c.w h4 (C :: D :: (as ++ hid)) vs.toList out) → RR (.ref D) C (.ok .next) { s with heap := h4, toks := tk }) :
    wpAny c.M A (eval iter env) (fun x s₁ => wpAny c.M A (pyIter x) (fun it s₂ => wpAny c.M A (newList []) (fun acc s₃ => wpAny c.M A (newFunctionEnv scope env.globals (clo env.cells scope.names []) [] env.qual none .none (some env)) (fun cenv s₄ =>
      codeAny c.M A (.compStart (.ListComp elt [⟨.Name v q, iter, ifs, 0⟩] scope p) 0 it acc { cenv with scope := relabel scope env }) (RR acc cenv.locals) s₄) E s₃) E s₂) E s₁) E s := by
  refine comp_core ok S aok co ti e1 i pt (fun {cenv H D I wr fp P St s4 R} hs w pt4 hR => ?_) hRR
  exact loop1_ok ok S aok lastT1 ⟨hv, by rw [hs]; exact inner_local hl⟩ (hs ▸ tts) (hs ▸ te) w (only_none co hv hl _) e2 pt4 hR
theorem core2 (ok : c.Ok) (S : Snd c n r) (aok : AOk n A) {elt iter iter2 : PySem.Expr} {ifs : List PySem.Expr} {scope : Scope} {p q q2 : Pos} {v v2 : Str} {x x2 : Nat} {it it2 : It} {t : Ex} {ts : List Te} {fr : List Nat} {items out : List Dat}
    (co : CompOk c.nm scope env.scope.names fr) (hv : v = c.nm x) (hl : scope.names.lookup v = some .local) (hv2 : v2 = c.nm x2) (hl2 : scope.names.lookup v2 = some .local) (hx : x ≠ x2) (is2 : IterS iter2) (ti : TrIt c.nm env.scope.names iter it) (ti2 : TrIt c.nm (inner scope.names env.scope.names) iter2 it2)
    (tts : TrTs c.nm (inner scope.names env.scope.names) ifs ts) (te : TrE c.nm (inner scope.names env.scope.names) elt t)
    (e1 : Mine.iter r it ρ = some (items, μ)) (e2 : loop2 r t ts x x2 it2 (only fr ρ.vars) items [] = some out) (i : Inv c env hid as ρ s.heap) (pt : 0 < s.toks) {RR : Value → Addr → Result → Shared → Prop} {E : Value → Shared → Prop}
    (hRR : ∀ D C h₁ h4 tk m, s.toks ≤ tk → Inv c env hid as ⟨ρ.vars, μ⟩ h₁ → KeepB as s.heap h₁ → Ext h₁ h4 → h₁.get? C = none → h₁.get? D = none → D ≠ C → h4.Ns C m → (∃ vs, h4.PlainList D vs ∧ RepL c.prog c.w h4 (C :: D :: (as ++ hid)) vs.toList out) → RR (.ref D) C (.ok .next) { s with heap := h4, toks := tk }) :
    wpAny c.M A (eval iter env) (fun x s₁ => wpAny c.M A (pyIter x) (fun it s₂ => wpAny c.M A (newList []) (fun acc s₃ => wpAny c.M A (newFunctionEnv scope env.globals (clo env.cells scope.names []) [] env.qual none .none (some env)) (fun cenv s₄ =>
      codeAny c.M A (.compStart (.ListComp elt [⟨.Name v q, iter, [], 0⟩, ⟨.Name v2 q2, iter2, ifs, 0⟩] scope p) 0 it acc { cenv with scope := relabel scope env }) (RR acc cenv.locals) s₄) E s₃) E s₂) E s₁) E s := by
  refine comp_core ok S aok co ti e1 i pt (fun {cenv H D I wr fp P St s4 R} hs w pt4 hR => ?_) hRR
  exact loop2_ok ok S aok ⟨hv, by rw [hs]; exact inner_local hl⟩ ⟨hv2, by rw [hs]; exact inner_local hl2⟩ hx is2 (hs ▸ ti2) (hs ▸ tts) (hs ▸ te) w (only_none co hv hl _) (only_none co hv2 hl2 _) e2 pt4 hR

theorem st_comp1 (ok : c.Ok) (S : Snd c n r) (aok : AOk n A) {elt iter : PySem.Expr} {ifs : List PySem.Expr} {scope : Scope} {p q : Pos} {v : Str} {x : Nat} {it : It} {t : Ex} {ts : List Te} {fr : List Nat}
    (co : CompOk c.nm scope env.scope.names fr) (hv : v = c.nm x) (hl : scope.names.lookup v = some .local) (is : IterS iter) (ti : TrIt c.nm env.scope.names iter it) (tts : TrTs c.nm (inner scope.names env.scope.names) ifs ts) (te : TrE c.nm (inner scope.names env.scope.names) elt t)
    (e : stepE r (.comp t x it none ts fr) ρ = some (d, μ)) (i : Inv c env hid as ρ s.heap) (pt : 0 < s.toks) : Go c.M A (eval (.ListComp elt [⟨.Name v q, iter, ifs, 0⟩] scope p) env) s (EvP c env hid as ρ μ s.heap d) := by
  dsimp only [stepE] at e
  split at e
  rotate_left
  · cases e
  rename_i items μ1 e1
  rw [Option.map_eq_some_iff] at e
  obtain ⟨out, e2, e⟩ := e
  cases e
  exact fun Q E hQ => comp_eval (ρ := ρ) (h0 := s.heap) co i.fm is (fun hRR => core1 ok S aok co hv hl ti tts te e1 e2 i pt hRR) hQ
theorem st_comp2 (ok : c.Ok) (S : Snd c n r) (aok : AOk n A) {elt iter iter2 : PySem.Expr} {ifs : List PySem.Expr} {scope : Scope} {p q q2 : Pos} {v v2 : Str} {x x2 : Nat} {it it2 : It} {t : Ex} {ts : List Te} {fr : List Nat}
    (co : CompOk c.nm scope env.scope.names fr) (hv : v = c.nm x) (hl : scope.names.lookup v = some .local) (hv2 : v2 = c.nm x2) (hl2 : scope.names.lookup v2 = some .local) (hx : x ≠ x2) (is : IterS iter) (is2 : IterS iter2) (ti : TrIt c.nm env.scope.names iter it) (ti2 : TrIt c.nm (inner scope.names env.scope.names) iter2 it2)
    (tts : TrTs c.nm (inner scope.names env.scope.names) ifs ts) (te : TrE c.nm (inner scope.names env.scope.names) elt t)
    (e : stepE r (.comp t x it (some (x2, it2)) ts fr) ρ = some (d, μ)) (i : Inv c env hid as ρ s.heap) (pt : 0 < s.toks) : Go c.M A (eval (.ListComp elt [⟨.Name v q, iter, [], 0⟩, ⟨.Name v2 q2, iter2, ifs, 0⟩] scope p) env) s (EvP c env hid as ρ μ s.heap d) := by
  dsimp only [stepE] at e
  split at e
  rotate_left
  · cases e
  rename_i items μ1 e1
  rw [Option.map_eq_some_iff] at e
  obtain ⟨out, e2, e⟩ := e
  cases e
  exact fun Q E hQ => comp_eval (ρ := ρ) (h0 := s.heap) co i.fm is (fun hRR => core2 ok S aok co hv hl hv2 hl2 hx is2 ti ti2 tts te e1 e2 i pt hRR) hQ
end
end Mine
end

section
open PySem PySem.W PyProof.Rows
set_option Elab.async false
set_option maxRecDepth 10000
namespace Mine

section
variable {c : Cx} {n : Nat} {r : Rec} {env : Env} {hid as H : List Addr} {ρ ρ' : Rho} {A : Around} {s : Shared} {d : Dat} {μ : Mu} {h h' : Heap} {fl : Fl}

theorem st_assign (ok : c.Ok) (S : Snd c n r) (aok : AOk n A) {nv : Str} {x : Nat} {e : PySem.Expr} {y : Ex} {p q : Pos} (nn : Named c.nm env.scope.names nv x) (sw : NoSwap env.scope.names e (some (.Name nv q))) (t : TrE c.nm env.scope.names e y)
    (ev : stepS r (.assign x y) ρ = some (fl, ρ')) (i : Inv c env hid as ρ s.heap) (pt : 0 < s.toks) : Go c.M A (exec (.Assign [.Name nv q] e p) env) s (ExP c env hid as ρ' s.heap fl) := by
  dsimp only [stepS] at ev
  split at ev
  rotate_left
  · cases ev
  rename_i d μ1 e1
  split at ev
  · cases ev
  rename_i hm
  cases ev
  intro Q E hQ
  refine wpAny_Assign_Name (S.ev aok t e1 i pt _ _ fun v h1 tk1 le1 ⟨i1, k1, r1⟩ => store_ok (s := { s with heap := h1, toks := tk1 }) ok i1 nn r1 hm _ _ fun _ h2 tk2 le2 ⟨i2, st2, _⟩ => ?_) (sw _ _ rfl i.fm.kind)
  exact hQ _ _ _ (Nat.le_trans le1 le2) ⟨as, i2, (StepF.of_keepB k1).trans st2 i1, .refl, rfl⟩

theorem st_assignC (ok : c.Ok) (S : Snd c n r) (aok : AOk n A) {elt iter : PySem.Expr} {ifs : List PySem.Expr} {scope : Scope} {p q : Pos} {u nv : Str} {x z : Nat} {it : It} {t : Ex} {ts : List Te} {fr : List Nat} {pp qq : Pos}
    (ow : Owned c.nm env.scope.names nv z) (sw : Swap env.scope.names (.ListComp elt [⟨.Name u q, iter, ifs, 0⟩] scope p) (some (.Name nv qq)) pp.line)
    (co : CompOk c.nm scope env.scope.names fr) (hu : u = c.nm x) (hl : scope.names.lookup u = some .local) (is : IterS iter) (ti : TrIt c.nm env.scope.names iter it) (tts : TrTs c.nm (inner scope.names env.scope.names) ifs ts) (te : TrE c.nm (inner scope.names env.scope.names) elt t)
    (ev : stepS r (.assignC z t x it ts fr) ρ = some (fl, ρ')) (i : Inv c env hid as ρ s.heap) (pt : 0 < s.toks) : Go c.M A (exec (.Assign [.Name nv qq] (.ListComp elt [⟨.Name u q, iter, ifs, 0⟩] scope p) pp) env) s (ExP c env hid as ρ' s.heap fl) := by
  dsimp only [stepS] at ev
  split at ev
  rotate_left
  · cases ev
  rename_i items μ1 e2
  split at ev
  rotate_left
  · cases ev
  rename_i out e3
  split at ev
  · cases ev
  rename_i hm
  cases ev
  intro Q E hQ
  exact comp_assign (ρ := ρ) (h0 := s.heap) ok ow co i.fm is sw hm (fun hRR => core1 ok S aok co hu hl ti tts te e2 e3 i pt hRR) fun h1 tk1 le1 i1 st1 => hQ _ _ _ le1 ⟨as, i1, st1, .refl, rfl⟩

theorem st_assignT (ok : c.Ok) (S : Snd c n r) (aok : AOk n A) {es : List PySem.Expr} {xs : List Nat} {k : Nat} {e : PySem.Expr} {y : Ex} {p q : Pos} (tn : TrN c.nm env.scope.names es xs) (sw : ∀ line env, swapsWithSole [.Tuple es k q] e line env = pure false)
    (sw2 : ∀ env, swappedStores [.Tuple es k q] e env = pure none) (t : TrE c.nm env.scope.names e y)
    (ev : stepS r (.assignT xs y) ρ = some (fl, ρ')) (i : Inv c env hid as ρ s.heap) (pt : 0 < s.toks) : Go c.M A (exec (.Assign [.Tuple es k q] e p) env) s (ExP c env hid as ρ' s.heap fl) := by
  dsimp only [stepS] at ev
  split at ev
  rotate_left
  · cases ev
  rename_i ds μ1 e1
  split at ev
  · cases ev
  rename_i hm
  rw [Option.map_eq_some_iff] at ev
  obtain ⟨vars', e2, ev⟩ := ev
  cases ev
  intro Q E hQ
  refine Assign_Tuple (S.ev aok t e1 i pt _ _ fun v h1 tk1 le1 ⟨i1, k1, r1⟩ => unpack_ok (ρ := ⟨ρ.vars, μ1⟩) (s := { s with heap := h1, toks := tk1 }) ok aok.handled tn e2 hm i1 r1 _ _ fun _ h2 tk2 le2 ⟨i2, st2⟩ => ?_) (sw _ _) (sw2 _)
  exact hQ _ _ _ (Nat.le_trans le1 le2) ⟨as, i2, (StepF.of_keepB k1).trans st2 i1, .refl, rfl⟩

/-- a new thing that the frame owns -/
theorem own_new {h₁ : Heap} {vars : Vars} {nv : Str} {x : Nat} {a : Addr} {md : MDat} (ok : c.Ok) (i : Inv c env hid [] ⟨vars, none⟩ h₁) (x1 : Ext h₁ s.heap) (a0 : h₁.get? a = none) (al : ∃ o, s.heap.get? a = some o) (ow : Owned c.nm env.scope.names nv x) (nl : look vars x = none)
    (mr : ∀ h', (∀ b o, b ≠ env.locals → s.heap.get? b = some o → h'.get? b = some o) → Keep h₁ hid h' ([a] ++ hid) → MRep c ([a] ++ hid) h' a [a] md) :
    Go c.M A (storeName env nv (.ref a)) s fun _ h' => Inv c env hid [a] ⟨vars, some (x, md)⟩ h' ∧ StepF env [] h₁ [a] h' := by
  obtain ⟨rfl, k⟩ := ow
  have i1 := i.grow x1
  obtain ⟨m, hn, hv, _⟩ := i1.loc
  refine Go.of fun Q E hQ => wpAny_storeName_local k hn (fun h' hn' sb => hQ _ h' _ ?_) (by rw [i.fm.kind]; rfl)
  have kl : ∀ b o, b ≠ env.locals → s.heap.get? b = some o → h'.get? b = some o := sb.extBut
  have al1 : a ≠ env.locals := fun q => by
    obtain ⟨o, e⟩ := i.alive env.locals i.fm.lh
    rw [← q, a0] at e; cases e
  have ah : a ∉ hid := fun q => by obtain ⟨o, e⟩ := i.alive a q; rw [a0] at e; cases e
  have kk : Keep h₁ hid h' ([a] ++ hid) := fun b o nb e => ⟨kl b o (fun q => nb (q ▸ i.fm.lh)) (x1 b o e), fun q => by
    rcases List.mem_append.mp q with q | q
    · rw [List.mem_singleton.mp q, a0] at e; cases e
    · exact nb q⟩
  obtain ⟨m1, hn1, hv1, _⟩ := i.loc
  have hm : m1 = m := ns_unique (hn1.keeps x1) hn
  subst hm
  refine ⟨⟨i.fm, fun b hb => ?_, fun b o e => kl b o (fun q => ?_) (i1.ext b o e), fun b hb => ?_, fun b hb => by rw [List.mem_singleton.mp hb]; exact ah, fun n a e => ?_, ⟨_, hn', fun y d e => ?_, k, a, by simp, mr h' kl kk⟩, fun y md' e => ?_⟩, fun b o n1 _ _ e => kl b o n1 (x1 b o e), fun b hb => .inr (by rw [List.mem_singleton.mp hb]; exact a0)⟩
  · rcases List.mem_append.mp hb with q | q
    · rw [List.mem_singleton.mp q]
      cases e : c.h₀.get? a with
      | none => rfl
      | some o => have := i.ext _ _ e; rw [a0] at this; cases this
    · exact i.old b q
  · subst q
    rw [i.old _ i.fm.lh] at e; cases e
  · rcases List.mem_append.mp hb with q | q
    · rw [List.mem_singleton.mp q]
      obtain ⟨o, e⟩ := al
      exact ⟨o, kl a o al1 e⟩
    · by_cases z : b = env.locals
      · subst z; obtain ⟨o, _, _, ho, _⟩ := hn'; exact ⟨o, ho⟩
      · obtain ⟨o, e⟩ := i1.alive b q; exact ⟨o, kl b o z e⟩
  · obtain ⟨v, o, ho, hd⟩ := i1.cells n a e
    exact ⟨v, o, kl a o (i.fm.ch n a e).2 ho, hd⟩
  · obtain ⟨v, rv, lv⟩ := hv1 y d e
    refine ⟨v, rv.keep kk, ?_⟩
    rcases lv with ⟨ky, my⟩ | ⟨ky, a', ea, o, ho, hd⟩
    · refine .inl ⟨ky, ?_⟩
      have : c.nm y ≠ c.nm x := fun z => by
        have := ok.inj _ _ z
        subst this
        rw [nl] at e; cases e
      simp [this, my]
    · exact .inr ⟨ky, a', ea, o, kl a' o (i.fm.ch _ a' ea).2 (x1 _ _ ho), hd⟩
  · cases e; exact nl

theorem nil_of (i : Inv c env hid as ρ h) (e : ρ.mu = none) : as = [] := by
  obtain ⟨m, _, _, mu⟩ := i.loc
  rw [e] at mu
  exact mu

theorem st_ownList (ok : c.Ok) (S : Snd c n r) (aok : AOk n A) {nv : Str} {x : Nat} {es : List PySem.Expr} {xs : List Ex} {p q u : Pos} (ow : Owned c.nm env.scope.names nv x) (ts : TrEs c.nm env.scope.names es xs)
    (ev : stepS r (.ownList x xs) ρ = some (fl, ρ')) (i : Inv c env hid as ρ s.heap) (pt : 0 < s.toks) : Go c.M A (exec (.Assign [.Name nv q] (.List es u) p) env) s (ExP c env hid as ρ' s.heap fl) := by
  dsimp only [stepS] at ev
  split at ev
  rotate_left
  · cases ev
  rename_i hmu
  have := nil_of i hmu
  subst this
  split at ev
  rotate_left
  · cases ev
  rename_i ds e1
  split at ev
  rotate_left
  · cases ev
  rename_i cond
  cases ev
  intro Q E hQ
  refine wpAny_Assign_Name (wpAny_List (evs_ok S.ev aok ts e1 i pt _ _ fun vs h1 tk1 le1 ⟨i1, k1, r1⟩ => ⟨by rw [r1.length, ← lim_eq]; exact cond.1, ?_⟩)) rfl
  refine own_new (h₁ := h1) (md := .list ds) ok i1 (Ext.refl.push _) none_of_size ⟨_, Heap.get?_push_size _ rfl⟩ ow (by simpa using cond.2) (fun h' kl kk => ⟨rfl, vs.toArray, ?_, ?_⟩) _ _ fun _ h2 tk2 le2 ⟨i2, st2⟩ => ?_
  · refine ⟨_, kl _ _ (fun q => ?_) (Heap.get?_push_size _ rfl)⟩
    obtain ⟨o, e⟩ := i1.alive env.locals i1.fm.lh
    rw [← q, none_of_size] at e; cases e
  · rw [List.toList_toArray]; exact r1.keep kk
  · exact hQ _ _ _ (Nat.le_trans le1 le2) ⟨_, i2, (StepF.of_keepB k1).trans st2 i1, fun a t e => (nomatch e), rfl⟩

theorem st_ownDict (ok : c.Ok) {nv : Str} {x : Nat} {p q u : Pos} {st : St} {md : MDat} (hst : (st = .ownDict x ∧ md = .dict []) ∨ (st = .ownDict2 x ∧ md = .dict2 [])) (ow : Owned c.nm env.scope.names nv x)
    (ev : stepS r st ρ = some (fl, ρ')) (i : Inv c env hid as ρ s.heap) : Go c.M A (exec (.Assign [.Name nv q] (.Dict [] [] u) p) env) s (ExP c env hid as ρ' s.heap fl) := by
  have key : ρ.mu = none ∧ look ρ.vars x = none ∧ fl = .next ∧ ρ' = ⟨ρ.vars, some (x, md)⟩ := by
    rcases hst with ⟨rfl, rfl⟩ | ⟨rfl, rfl⟩
    all_goals
      dsimp only [stepS] at ev
      split at ev
      rotate_left
      · cases ev
      rename_i hmu
      split at ev
      rotate_left
      · cases ev
      rename_i hl
      cases ev
      exact ⟨hmu, hl, rfl, rfl⟩
  obtain ⟨hmu, hl, rfl, rfl⟩ := key
  have := nil_of i hmu
  subst this
  have i0 : Inv c env hid [] ⟨ρ.vars, none⟩ s.heap := by
    have : ρ = ⟨ρ.vars, none⟩ := by cases ρ; cases hmu; rfl
    rw [← this]; exact i
  intro Q E hQ
  refine wpAny_Assign_Name (wpAny_Dict_empty ?_) rfl
  refine own_new (h₁ := s.heap) (md := md) ok i0 (Ext.refl.push _) none_of_size ⟨_, Heap.get?_push_size _ rfl⟩ ow hl (fun h' kl kk => ?_) _ _ fun _ h2 tk2 le2 ⟨i2, st2⟩ => hQ _ _ _ le2 ⟨_, i2, st2, fun a t e => (nomatch e), rfl⟩
  have hne : s.heap.objs.size ≠ env.locals := fun q => by
    obtain ⟨o, e⟩ := i.alive env.locals i.fm.lh
    rw [← q, none_of_size] at e; cases e
  have hd : h'.DictOf (PySem.strKind c.prog c.w) s.heap.objs.size [] := dictOf_at (Heap.DictOf.new s.heap) fun o e => kl _ o hne e
  rcases hst with ⟨_, rfl⟩ | ⟨_, rfl⟩
  · exact ⟨rfl, notMods ok i.ext, [], hd, .nil⟩
  · exact ⟨[], rfl, by simp, notMods ok i.ext, [], hd, .nil⟩

theorem st_append (ok : c.Ok) (S : Snd c n r) (aok : AOk n A) {nv nf : Str} {x : Nat} {e : PySem.Expr} {y : Ex} {p q u p' : Pos} (ow : Owned c.nm env.scope.names nv x) (hn : nf = ("append" : Str)) (hl : (q.endLine == u.line) = true) (sole : Sole e) (t : TrE c.nm env.scope.names e y)
    (ev : stepS r (.append x y) ρ = some (fl, ρ')) (i : Inv c env hid as ρ s.heap) (pt : 0 < s.toks) : Go c.M A (exec (.Expr (.Call (.Attribute (.Name nv p) nf q) [e] [] u) p') env) s (ExP c env hid as ρ' s.heap fl) := by
  subst hn
  dsimp only [stepS] at ev
  split at ev
  rotate_left
  · cases ev
  rename_i xs em
  split at ev
  rotate_left
  · cases ev
  rename_i d e1
  split at ev
  rotate_left
  · cases ev
  rename_i room
  cases ev
  obtain ⟨_, kind, nl, m, a, hns, hv, hm, hr⟩ := i.ownAt em
  obtain ⟨has, vs, hpl, rl⟩ := hr
  subst has
  intro Q E hQ
  refine wpAny_Expr_any ?_ (by unfold interactive; rw [i.fm.kind]; rfl) rfl
  refine method_call (fun _ => rfl) (any1 sole) (by show 1 < 30; decide) hl (load_own ok i ow hns hm ?_)
  refine ⟨"list.append", fun pl Q' E' hq => ?_, callWith_m (any1 sole) (ev1 sole (sev_ok S.ev aok t e1 i pt _ _ fun v h1 tk1 le1 ⟨x1, r1⟩ => ?_))⟩
  · obtain ⟨nn, ho⟩ := hpl
    exact Calls.getMethod_list_append ho rfl rfl hq
  have i1 := i.grow x1
  have sz : vs.size = xs.length := by simpa using rl.length
  refine wpAny_list_append_plain (hsz := by rw [sz]; have : lim = sizeLine := lim_eq; omega) (hpl.at fun o e => x1 _ o e) fun h2 hl2 sb2 => ?_
  have kD : ∀ b o, b ≠ a → h1.get? b = some o → h2.get? b = some o := sb2.extBut
  have kB : KeepB [a] h1 h2 := fun b o nb e => kD b o (fun q => nb (by simp [q])) e
  refine hQ _ _ _ le1 ⟨[a], ?_, .of_keepB (x1.keepB.trans kB), .refl, rfl⟩
  refine i1.own kind (hns.keeps x1) (hv.keep (x1.keep _) fun _ a _ o => x1 a o) hm nl kB (fun b hb => ?_) (fun _ h => .inl h) ⟨rfl, vs.push v, hl2, ?_⟩
  · rw [List.mem_singleton.mp hb]; obtain ⟨nn, ho⟩ := hl2; exact ⟨_, ho⟩
  · rw [Array.toList_push]
    exact (((rl.keep (x1.keep _)).keep (kB.keep _)).append (.cons (r1.keep (kB.keep _)) .nil))
end
end Mine
end

section
open PySem PySem.W PyProof.Rows
set_option Elab.async false
set_option maxRecDepth 10000
namespace Mine

theorem setD_length_le {α : Type} (l : List (Str × α)) (k : Str) (v : α) : (setD l k v).length ≤ l.length + 1 := by
  induction l with
  | nil => simp [setD]
  | cons p r ih => obtain ⟨q, u⟩ := p; unfold setD; split <;> simp <;> omega

section
variable {c : Cx} {n : Nat} {r : Rec} {env : Env} {hid as H : List Addr} {ρ ρ' : Rho} {A : Around} {s : Shared} {d : Dat} {μ : Mu} {h h' : Heap} {fl : Fl}

theorem dictNodup {prog : Program} {w : World} {a : Addr} {kvs : List (Str × Value)} (x : h.DictOf (PySem.strKind prog w) a kvs) : (kvs.map (·.1)).Nodup := let ⟨_, _, _, _, _, _, _, _, hn⟩ := x; hn

theorem keepB_of {a : Addr} {has : a ∈ as} (k : ∀ b o, b ≠ a → h.get? b = some o → h'.get? b = some o) : KeepB as h h' := fun b o nb e => k b o (fun q => nb (q ▸ has)) e

theorem st_setKey (ok : c.Ok) (S : Snd c n r) (aok : AOk n A) {nv : Str} {x : Nat} {k e : PySem.Expr} {y z : Ex} {p q u : Pos} (ow : Owned c.nm env.scope.names nv x) (sw : NoSwap env.scope.names e (some (.Subscript (.Name nv p) k q))) (tk : TrE c.nm env.scope.names k y) (te : TrE c.nm env.scope.names e z)
    (ev : stepS r (.setKey x y z) ρ = some (fl, ρ')) (i : Inv c env hid as ρ s.heap) (pt : 0 < s.toks) : Go c.M A (exec (.Assign [.Subscript (.Name nv p) k q] e u) env) s (ExP c env hid as ρ' s.heap fl) := by
  dsimp only [stepS] at ev
  split at ev
  rotate_left
  · cases ev
  rename_i d μ1 e1
  split at ev
  rotate_left
  · cases ev
  rename_i kvs em
  split at ev
  rotate_left
  · cases ev
  rename_i kk e2
  split at ev
  rotate_left
  · cases ev
  rename_i room
  cases ev
  intro Q E hQ
  refine wpAny_Assign_Subscript (S.ev aok te e1 i pt _ _ fun v h1 tk1 le1 ⟨i1, k1, r1⟩ => ?_) (sw _ _ rfl i.fm.kind)
  obtain ⟨_, kind, nl, m, a, hns, hv, hm, hr⟩ := i1.ownAt em
  obtain ⟨has, hsys, vs, hd, rd⟩ := hr
  subst has
  refine load_own (s := { s with heap := h1, toks := tk1 }) ok i1 ow hns hm (sev_ok (ρ := ⟨ρ.vars, μ1⟩) (s := { s with heap := h1, toks := tk1 }) S.ev aok tk e2 i1 (lt2 pt le1) _ _ fun kv h2 tk2 le2 hp => ?_)
  obtain ⟨x2, r2⟩ := hp
  cases r2 with
  | @str _ t =>
    have hd2 : h2.DictOf (PySem.strKind c.prog c.w) a vs := dictOf_at hd fun o e => x2 _ o e
    have i2 := i1.grow x2
    refine wpAny_setItem_pairs (hsz := by rw [rd.length]; have : lim = sizeLine := lim_eq; omega) (strKind_is c.prog c.w kk t) hd2 fun h3 hd3 sb => ?_
    have kB : KeepB [a] h2 h3 := fun b o nb e => sb.extBut b o (fun q => nb (by simp [q])) e
    refine hQ _ _ _ (Nat.le_trans le1 (Nat.le_trans le2 (Nat.le_succ _))) ⟨[a], ?_, .of_keepB (k1.trans (x2.keepB.trans kB)), .refl, rfl⟩
    refine i2.own kind (hns.keeps x2) (hv.keep (x2.keep _) fun _ a _ o => x2 a o) hm nl kB (fun b hb => ?_) (fun _ h => .inl h) ⟨rfl, hsys, _, hd3, ?_⟩
    · rw [List.mem_singleton.mp hb]; obtain ⟨o, _, _, ho, _⟩ := hd3; exact ⟨o, ho⟩
    · exact ((rd.keep (x2.keep _)).keep (kB.keep _)).store (dictNodup hd) ((r1.keep (x2.keep _)).keep (kB.keep _))

theorem st_setIdx (ok : c.Ok) (S : Snd c n r) (aok : AOk n A) {nv : Str} {x : Nat} {k e : PySem.Expr} {y z : Ex} {p q u : Pos} (ow : Owned c.nm env.scope.names nv x) (sw : NoSwap env.scope.names e (some (.Subscript (.Name nv p) k q))) (tk : TrE c.nm env.scope.names k y) (te : TrE c.nm env.scope.names e z)
    (ev : stepS r (.setIdx x y z) ρ = some (fl, ρ')) (i : Inv c env hid as ρ s.heap) (pt : 0 < s.toks) : Go c.M A (exec (.Assign [.Subscript (.Name nv p) k q] e u) env) s (ExP c env hid as ρ' s.heap fl) := by
  dsimp only [stepS] at ev
  split at ev
  rotate_left
  · cases ev
  rename_i d μ1 e1
  split at ev
  rotate_left
  · cases ev
  rename_i xs em
  split at ev
  rotate_left
  · cases ev
  rename_i kk e2
  split at ev
  rotate_left
  · cases ev
  rename_i room
  cases ev
  rw [Option.bind_eq_some_iff] at em
  obtain ⟨md, em, sm⟩ := em
  intro Q E hQ
  refine wpAny_Assign_Subscript (S.ev aok te e1 i pt _ _ fun v h1 tk1 le1 ⟨i1, k1, r1⟩ => ?_) (sw _ _ rfl i.fm.kind)
  obtain ⟨_, kind, nl, m, a, hns, hv, hm, hr⟩ := i1.ownAt em
  obtain ⟨has, vs, hl, rl⟩ := seqRep hr sm
  subst has
  refine load_own (s := { s with heap := h1, toks := tk1 }) ok i1 ow hns hm (sev_ok (ρ := ⟨ρ.vars, μ1⟩) (s := { s with heap := h1, toks := tk1 }) S.ev aok tk e2 i1 (lt2 pt le1) _ _ fun kv h2 tk2 le2 hp => ?_)
  obtain ⟨x2, r2⟩ := hp
  cases r2 with
  | @int _ t =>
    have i2 := i1.grow x2
    have sz : vs.size = xs.length := by simpa using rl.length
    have hlim : lim = 16777216 := rfl
    refine wpAny_setItem_list (hl.at fun o e => x2 _ o e) room.1 (by omega) (by rw [sz]; exact room.2.1) fun h3 hl3 sb => ?_
    have kB : KeepB [a] h2 h3 := fun b o nb e => sb.extBut b o (fun q => nb (by simp [q])) e
    refine hQ _ _ _ (Nat.le_trans le1 le2) ⟨[a], ?_, .of_keepB (k1.trans (x2.keepB.trans kB)), .refl, rfl⟩
    refine i2.own kind (hns.keeps x2) (hv.keep (x2.keep _) fun _ a _ o => x2 a o) hm nl kB (fun b hb => ?_) (fun _ h => .inl h) ⟨rfl, _, hl3, ?_⟩
    · rw [List.mem_singleton.mp hb]; obtain ⟨o, ho, _⟩ := hl3; exact ⟨o, ho⟩
    · rw [Array.toList_setIfInBounds]
      exact ((rl.keep (x2.keep _)).keep (kB.keep _)).set ((r1.keep (x2.keep _)).keep (kB.keep _)) _

theorem Rep2.miss {hidA : List Addr} {v : List (Str × Value)} {kvs : List (Str × List (Str × Dat))} {bs : List Addr} (R : Rep2 c hidA h v kvs bs) {k : Str} (e : getD kvs k = none) : v.any (fun kv => decide (kv.1 = k)) = false := by
  induction R with
  | nil => rfl
  | @cons q b vs ds r rs bs hb hd hr R ih =>
    unfold getD at e
    rw [sameS_eq] at e
    by_cases z : q = k
    · subst z; simp at e
    · simp only [decide_eq_false z] at e
      rw [List.any_cons, ih e]
      simp [z]
theorem Rep2.snoc {hidA : List Addr} {v : List (Str × Value)} {kvs : List (Str × List (Str × Dat))} {bs : List Addr} (R : Rep2 c hidA h v kvs bs) {k : Str} {b : Addr} (hb : (b == sysModules) = false) (hd : h.DictOf (PySem.strKind c.prog c.w) b []) :
    Rep2 c hidA h (v ++ [(k, .ref b)]) (kvs ++ [(k, [])]) (bs ++ [b]) := by
  induction R with
  | nil => exact .cons hb hd .nil .nil
  | cons hb' hd' hr' _ ih => exact .cons hb' hd' hr' ih
theorem Rep2.length {hidA : List Addr} {v : List (Str × Value)} {kvs : List (Str × List (Str × Dat))} {bs : List Addr} (R : Rep2 c hidA h v kvs bs) : v.length = kvs.length := by
  induction R with
  | nil => rfl
  | cons _ _ _ _ ih => simp [ih]
theorem Rep2.alive {hidA : List Addr} {v : List (Str × Value)} {kvs : List (Str × List (Str × Dat))} {bs : List Addr} (R : Rep2 c hidA h v kvs bs) : ∀ b ∈ bs, ∃ o, h.get? b = some o := by
  induction R with
  | nil => exact fun _ h => (nomatch h)
  | cons _ hd _ _ ih => intro b hb; rcases List.mem_cons.mp hb with rfl | hb; · obtain ⟨o, _, _, ho, _⟩ := hd; exact ⟨o, ho⟩
                        · exact ih b hb

theorem st_newKey (ok : c.Ok) (S : Snd c n r) (aok : AOk n A) {nv : Str} {x : Nat} {k : PySem.Expr} {y : Ex} {p q u p' : Pos} (ow : Owned c.nm env.scope.names nv x) (tk : TrE c.nm env.scope.names k y)
    (ev : stepS r (.newKey x y) ρ = some (fl, ρ')) (i : Inv c env hid as ρ s.heap) (pt : 0 < s.toks) : Go c.M A (exec (.Assign [.Subscript (.Name nv p) k q] (.Dict [] [] p') u) env) s (ExP c env hid as ρ' s.heap fl) := by
  dsimp only [stepS] at ev
  split at ev
  rotate_left
  · cases ev
  rename_i kvs em
  split at ev
  rotate_left
  · cases ev
  rename_i kk e2
  split at ev
  rotate_left
  · cases ev
  rename_i hmiss
  split at ev
  rotate_left
  · cases ev
  rename_i room
  cases ev
  obtain ⟨_, kind, nl, m, a, hns, hv, hm, hr⟩ := i.ownAt em
  obtain ⟨bs, has, nd, hsys, vs, hd, rd⟩ := hr
  intro Q E hQ
  have x1 : Ext s.heap (s.heap.push { cls := .type "dict", data := .dict #[] }) := Ext.refl.push _
  have i1 := i.grow x1
  refine wpAny_Assign_Subscript (wpAny_Dict_empty ?_) rfl
  refine load_own (s := { s with heap := _ }) ok i1 ow (hns.keeps x1) hm (sev_ok (s := { s with heap := _ }) S.ev aok tk e2 i1 pt _ _ fun kv h2 tk2 le2 hp => ?_)
  obtain ⟨x2, r2⟩ := hp
  have x12 := x1.trans x2
  have i2 := i.grow x12
  have bnew : s.heap.get? s.heap.objs.size = none := none_of_size
  have bas : s.heap.objs.size ∉ as := fun q => by obtain ⟨o, e⟩ := i.alive _ (List.mem_append_left _ q); rw [bnew] at e; cases e
  have bhid : s.heap.objs.size ∉ as ++ hid := fun q => by obtain ⟨o, e⟩ := i.alive _ q; rw [bnew] at e; cases e
  have hdb : h2.DictOf (PySem.strKind c.prog c.w) s.heap.objs.size [] := dictOf_at (Heap.DictOf.new s.heap) fun o e => x2 _ o e
  cases r2 with
  | @str _ t =>
    have hd2 : h2.DictOf (PySem.strKind c.prog c.w) a vs := dictOf_at hd fun o e => x12 _ o e
    refine wpAny_setItem_pairs (hsz := by rw [rd.length]; have : lim = sizeLine := lim_eq; omega) (strKind_is c.prog c.w kk t) hd2 fun h3 hd3 sb => ?_
    have amem : a ∈ as := has ▸ List.mem_cons_self
    have kD : ∀ b o, b ≠ a → h2.get? b = some o → h3.get? b = some o := sb.extBut
    have kB : KeepB as h2 h3 := keepB_of (has := amem) kD
    have kB1 : KeepB as s.heap h3 := x12.keepB.trans kB
    have ba : s.heap.objs.size ≠ a := fun q => bas (q ▸ amem)
    have kk3 : Keep s.heap (as ++ hid) h3 ((as ++ [s.heap.objs.size]) ++ hid) := fun b o nb e => ⟨kB1 b o (fun q => nb (List.mem_append_left _ q)) e, fun q => by
      rcases List.mem_append.mp q with q | q
      · rcases List.mem_append.mp q with q | q
        · exact nb (List.mem_append_left _ q)
        · rw [List.mem_singleton.mp q, bnew] at e; cases e
      · exact nb (List.mem_append_right _ q)⟩
    have hmem : ∀ b ∈ bs, b ≠ a := fun b hb q => by rw [has, List.nodup_cons] at nd; exact nd.1 (q ▸ hb)
    have rd3 := rd.keep kk3 fun b hb o e => kD b o (hmem b hb) (x12 b o e)
    have hdb3 : h3.DictOf (PySem.strKind c.prog c.w) s.heap.objs.size [] := dictOf_at hdb fun o e => kD _ o ba e
    refine hQ _ _ _ (Nat.le_trans le2 (Nat.le_succ _)) ⟨as ++ [s.heap.objs.size], ?_, ⟨fun b o _ _ nb e => kB1 b o nb e, fun b hb => ?_⟩, fun a' t e => ?_, rfl⟩
    · refine i.own kind hns hv hm nl kB1 (fun b hb => ?_) (fun b hb => ?_) ⟨bs ++ [s.heap.objs.size], by rw [has]; rfl, ?_, hsys, _, hd3, ?_⟩
      · rcases List.mem_append.mp hb with q | q
        · rw [has] at q
          rcases List.mem_cons.mp q with rfl | q
          · obtain ⟨o, _, _, ho, _⟩ := hd3; exact ⟨o, ho⟩
          · exact rd3.alive b q
        · rw [List.mem_singleton.mp q]; obtain ⟨o, _, _, ho, _⟩ := hdb3; exact ⟨o, ho⟩
      · rcases List.mem_append.mp hb with q | q
        · exact .inl q
        · rw [List.mem_singleton.mp q]; exact .inr bnew
      · rw [List.nodup_append]
        refine ⟨nd, by simp, fun b hb b' hb' q => ?_⟩
        rw [List.mem_singleton.mp hb'] at q
        exact bas (q ▸ hb)
      · unfold stored
        rw [rd.miss hmiss]
        simp only [Bool.false_eq_true, if_false]
        exact rd3.snoc (notMods ok i.ext) hdb3
    · rcases List.mem_append.mp hb with q | q
      · exact .inl q
      · rw [List.mem_singleton.mp q]; exact .inr bnew
    · rw [e]; exact .inl ⟨t ++ [s.heap.objs.size], rfl⟩

theorem Rep2.at {hidA : List Addr} {v : List (Str × Value)} {kvs : List (Str × List (Str × Dat))} {bs : List Addr} (R : Rep2 c hidA h v kvs bs) {k : Str} {inner : List (Str × Dat)} (e : getD kvs k = some inner) :
    ∃ b vs, valueAt v k = some (.ref b) ∧ b ∈ bs ∧ (b == sysModules) = false ∧ h.DictOf (PySem.strKind c.prog c.w) b vs ∧ RepD c.prog c.w h hidA vs inner ∧
      (bs.Nodup → ∀ h' vs' inner', Keep h hidA h' hidA → (∀ b' ∈ bs, b' ≠ b → ∀ o, h.get? b' = some o → h'.get? b' = some o) → h'.DictOf (PySem.strKind c.prog c.w) b vs' → RepD c.prog c.w h' hidA vs' inner' → Rep2 c hidA h' v (setD kvs k inner') bs) := by
  induction R with
  | nil => cases e
  | @cons q b vs ds r rs bs hb hd hr R ih =>
    unfold getD at e
    unfold valueAt
    rw [sameS_eq] at e
    by_cases z : q = k
    · subst z
      simp only [decide_true] at e
      cases e
      refine ⟨b, vs, by simp, List.mem_cons_self, hb, hd, hr, fun nd h' vs' inner' kk kb hd' hr' => ?_⟩
      unfold setD
      rw [sameS_eq]
      simp only [decide_true]
      rw [List.nodup_cons] at nd
      exact .cons hb hd' hr' (R.keep kk fun b' hb' o e => kb b' (List.mem_cons_of_mem _ hb') (fun q => nd.1 (q ▸ hb')) o e)
    · simp only [decide_eq_false z] at e
      obtain ⟨b', vs', h1, h2, h3, h4, h5, up⟩ := ih e
      refine ⟨b', vs', ?_, List.mem_cons_of_mem _ h2, h3, h4, h5, fun nd h' vs'' inner' kk kb hd' hr' => ?_⟩
      · simp only [List.find?_cons, decide_eq_false z]
        exact h1
      · unfold setD
        rw [sameS_eq]
        simp only [decide_eq_false z]
        rw [List.nodup_cons] at nd
        have bb : b ≠ b' := fun q => nd.1 (q ▸ h2)
        exact .cons hb (dictOf_at hd fun o e => kb b List.mem_cons_self bb o e) (hr.keep kk) (up nd.2 h' vs'' inner' kk (fun b'' hb'' n o e => kb b'' (List.mem_cons_of_mem _ hb'') n o e) hd' hr')

theorem st_setPath (ok : c.Ok) (S : Snd c n r) (aok : AOk n A) {nv : Str} {x : Nat} {ie je e : PySem.Expr} {y z w : Ex} {p p' q u : Pos} (ow : Owned c.nm env.scope.names nv x) (hp : PlainI ie) (sw : NoSwap env.scope.names e (some (.Subscript (.Subscript (.Name nv p) ie p') je q)))
    (ti : TrE c.nm env.scope.names ie y) (tj : TrE c.nm env.scope.names je z) (te : TrE c.nm env.scope.names e w)
    (ev : stepS r (.setPath x y z w) ρ = some (fl, ρ')) (i : Inv c env hid as ρ s.heap) (pt : 0 < s.toks) : Go c.M A (exec (.Assign [.Subscript (.Subscript (.Name nv p) ie p') je q] e u) env) s (ExP c env hid as ρ' s.heap fl) := by
  dsimp only [stepS] at ev
  split at ev
  rotate_left
  · cases ev
  rename_i d μ1 e1
  split at ev
  rotate_left
  · cases ev
  rename_i kvs em
  split at ev
  rotate_left
  · cases ev
  rename_i kk e2
  split at ev
  rotate_left
  · cases ev
  rename_i inner ein
  split at ev
  rotate_left
  · cases ev
  rename_i k2 e3
  split at ev
  rotate_left
  · cases ev
  rename_i room
  cases ev
  intro Q E hQ
  refine wpAny_Assign_Subscript (S.ev aok te e1 i pt _ _ fun v h1 tk1 le1 ⟨i1, k1, r1⟩ => ?_) (sw _ _ rfl i.fm.kind)
  obtain ⟨_, kind, nl, m, a, hns, hv, hm, hr⟩ := i1.ownAt em
  obtain ⟨bs, has, nd, hsys, vs, hd, rd⟩ := hr
  refine Subscript_ (load_own (s := { s with heap := h1, toks := tk1 }) ok i1 ow hns hm (sev_ok (ρ := ⟨ρ.vars, μ1⟩) (s := { s with heap := h1, toks := tk1 }) S.ev aok ti e2 i1 (lt2 pt le1) _ _ fun kv h2 tk2 le2 hp => ?_))
  obtain ⟨x2, r2⟩ := hp
  cases r2 with
  | @str _ t =>
    obtain ⟨b, vb, hb, bmem, bsys, hdb, rdb, up⟩ := (rd.keep (x2.keep (as ++ hid)) fun b _ o e => x2 b o e).at ein
    refine dict_item (s := { s with heap := h2, toks := tk2 }) (dictOf_at hd fun o e => x2 _ o e) hb hp _ _ fun v' h3 tk3 le3 hp => ?_
    obtain ⟨x3, r3⟩ := hp
    subst x3 r3
    have i2 := i1.grow x2
    refine sev_ok (ρ := ⟨ρ.vars, μ1⟩) (s := { s with heap := h3, toks := tk3 }) S.ev aok tj e3 i2 (lt3 (lt2 pt le1) le2 le3) _ _ fun jv h4 tk4 le4 hp => ?_
    obtain ⟨x4, r4⟩ := hp
    cases r4 with
    | @str _ t' =>
      have i4 := i2.grow x4
      have hdb4 : h4.DictOf (PySem.strKind c.prog c.w) b vb := dictOf_at hdb fun o e => x4 _ o e
      refine wpAny_setItem_pairs (hsz := by rw [rdb.length]; have : lim = sizeLine := lim_eq; omega) (strKind_is c.prog c.w k2 t') hdb4 fun h5 hd5 sb => ?_
      have bas : b ∈ as := has ▸ List.mem_cons_of_mem _ bmem
      have kD : ∀ b' o, b' ≠ b → h4.get? b' = some o → h5.get? b' = some o := sb.extBut
      have kB : KeepB as h4 h5 := keepB_of (has := bas) kD
      have nd' := nd
      rw [has, List.nodup_cons] at nd'
      have ab : a ≠ b := fun q => nd'.1 (q ▸ bmem)
      have x24 := x2.trans x4
      have k35 : Keep h3 (as ++ hid) h5 (as ++ hid) := (x4.keep _).trans (kB.keep _)
      have hda : h5.DictOf (PySem.strKind c.prog c.w) a vs := dictOf_at hd fun o e => kD a o ab (x24 a o e)
      have R5 := up nd'.2 h5 _ (setD inner k2 d) k35 (fun b' _ n o e => kD b' o n (x4 b' o e)) hd5 ((rdb.keep k35).store (dictNodup hdb4) ((r1.keep (x24.keep _)).keep (kB.keep _)))
      refine hQ _ _ _ (Nat.le_trans le1 (Nat.le_trans le2 (Nat.le_trans le3 (Nat.le_trans le4 (Nat.le_succ _))))) ⟨as, ?_, .of_keepB (k1.trans (x24.keepB.trans kB)), .refl, rfl⟩
      refine i4.own kind (hns.keeps x24) (hv.keep (x24.keep _) fun _ a _ o => x24 a o) hm nl kB (fun b' hb' => ?_) (fun _ h => .inl h) ⟨bs, has, nd, hsys, vs, hda, R5⟩
      rw [has] at hb'
      rcases List.mem_cons.mp hb' with rfl | hb'
      · obtain ⟨o, _, _, ho, _⟩ := hda; exact ⟨o, ho⟩
      · exact R5.alive b' hb'

theorem st_ret (S : Snd c n r) (aok : AOk n A) {e : PySem.Expr} {y : Ex} {p : Pos} (t : TrE c.nm env.scope.names e y) (ev : stepS r (.ret y) ρ = some (fl, ρ')) (i : Inv c env hid as ρ s.heap) (pt : 0 < s.toks) :
    Go c.M A (exec (.Return (some e) p) env) s (ExP c env hid as ρ' s.heap fl) := by
  dsimp only [stepS] at ev
  split at ev
  rotate_left
  · cases ev
  rename_i d μ1 e1
  cases ev
  exact fun Q E hQ => wpAny_Return_some (S.ev aok t e1 i pt _ _ fun v h1 tk1 le1 ⟨i1, k1, r1⟩ => hQ _ _ _ le1 ⟨as, i1, .of_keepB k1, .refl, v, rfl, r1⟩)

theorem Rep2.shown {hidA : List Addr} {v : List (Str × Value)} {kvs : List (Str × List (Str × Dat))} {bs : List Addr} (R : Rep2 c hidA h v kvs bs) (hn : ∀ b ∈ bs, b ∉ hid) (kk : Keep h hidA h hid) : RepD c.prog c.w h hid v (kvs.map fun p => (p.1, .dict p.2)) := by
  induction R with
  | nil => exact .nil
  | cons hb hd hr _ ih => exact .cons (.dict (hn _ List.mem_cons_self) hb hd (hr.keep kk)) (ih fun b hb => hn b (List.mem_cons_of_mem _ hb))

theorem st_retOwn (ok : c.Ok) {nv : Str} {x : Nat} {p q : Pos} (ow : Owned c.nm env.scope.names nv x) (ev : stepS r (.retOwn x) ρ = some (fl, ρ')) (i : Inv c env hid as ρ s.heap) :
    Go c.M A (exec (.Return (some (.Name nv p)) q) env) s (ExP c env hid as ρ' s.heap fl) := by
  have kk : Keep s.heap (as ++ hid) s.heap ([] ++ hid) := fun b o nb e => ⟨e, fun q => nb (List.mem_append_right _ q)⟩
  have key : ∃ md d, ownOf ρ.mu x = some md ∧ fl = .ret d ∧ ρ' = ⟨ρ.vars, none⟩ ∧ ∀ a, MRep c (as ++ hid) s.heap a as md → Rep c.prog c.w s.heap ([] ++ hid) (.ref a) d := by
    dsimp only [stepS] at ev
    split at ev
    · rename_i kvs em
      cases ev
      refine ⟨_, _, em, rfl, rfl, fun a hr => ?_⟩
      obtain ⟨has, hsys, vs, hd, rd⟩ := hr
      exact .dict (i.disj a (by simp [has])) hsys hd (rd.keep kk)
    · rename_i kvs em
      cases ev
      refine ⟨_, _, em, rfl, rfl, fun a hr => ?_⟩
      obtain ⟨bs, has, nd, hsys, vs, hd, rd⟩ := hr
      exact .dict (i.disj a (by simp [has])) hsys hd (rd.shown (fun b hb => i.disj b (by rw [has]; exact List.mem_cons_of_mem _ hb)) kk)
    · cases ev
  obtain ⟨md, d, em, rfl, rfl, hrep⟩ := key
  obtain ⟨_, kind, nl, m, a, hns, hv, hm, hr⟩ := i.ownAt em
  intro Q E hQ
  refine wpAny_Return_some (load_own ok i ow hns hm (hQ _ s.heap s.toks (Nat.le_refl _) ⟨[], ?_, ⟨fun b o _ _ _ e => e, fun _ h => (nomatch h)⟩, fun a t e => .inr ⟨rfl, d, rfl⟩, _, rfl, hrep a hr⟩))
  exact ⟨i.fm, fun b hb => i.old b (List.mem_append_right _ hb), i.ext, fun b hb => i.alive b (List.mem_append_right _ hb), fun _ h => (nomatch h), i.cells, ⟨m, hns, hv.keep kk fun _ _ _ _ e => e, rfl⟩, fun _ _ e => (nomatch e)⟩

theorem sx_ite (S : Snd c n r) (X : ExOk c n r) (aok : AOk n A) {e : PySem.Expr} {t : Te} {a b : List PySem.Stmt} {xs ys : List St} {p : Pos} (tt : TrT c.nm env.scope.names e t) (ta : TrSs c.nm env.scope.names a xs) (tb : TrSs c.nm env.scope.names b ys)
    (ev : stepS r (.ite t xs ys) ρ = some (fl, ρ')) (i : Inv c env hid as ρ s.heap) (pt : 0 < s.toks) : Go c.M A (exec (.If e a b p) env) s (ExP c env hid as ρ' s.heap fl) := by
  dsimp only [stepS] at ev
  intro Q E hQ
  split at ev
  · rename_i μ1 e1
    refine wpAny_If (S.te aok tt e1 i pt _ _ fun v h1 tk1 le1 hp => ?_)
    obtain ⟨i1, k1, r1⟩ := hp
    subst r1
    simp only [if_true]
    exact exs_ok (s := { s with heap := h1, toks := tk1 }) X aok ta ev i1 (lt2 pt le1) _ _ fun f h2 tk2 le2 ⟨as2, i2, st2, hk2, fo⟩ => hQ _ _ _ (Nat.le_trans le1 le2) ⟨as2, i2, (StepF.of_keepB k1).trans st2 i1, hk2, fo⟩
  · rename_i μ1 e1
    refine wpAny_If (S.te aok tt e1 i pt _ _ fun v h1 tk1 le1 hp => ?_)
    obtain ⟨i1, k1, r1⟩ := hp
    subst r1
    simp only [Bool.false_eq_true, if_false]
    exact exs_ok (s := { s with heap := h1, toks := tk1 }) X aok tb ev i1 (lt2 pt le1) _ _ fun f h2 tk2 le2 ⟨as2, i2, st2, hk2, fo⟩ => hQ _ _ _ (Nat.le_trans le1 le2) ⟨as2, i2, (StepF.of_keepB k1).trans st2 i1, hk2, fo⟩
  · cases ev

theorem ex_step (ok : c.Ok) (S : Snd c n r) (X : ExOk c n r) : ExOk c (n + 1) (step c.fs r) := by
  intro A env hid as e x ρ ρ' fl s aok t ev i pt
  have aok := aok.le
  replace ev : stepS r x ρ = some (fl, ρ') := ev
  cases t with
  | assign nn sw t => exact st_assign ok S aok nn sw t ev i pt
  | assignC ow sw co hu hl is ti tts te => exact st_assignC ok S aok ow sw co hu hl is ti tts te ev i pt
  | assignT tn sw sw2 t => exact st_assignT ok S aok tn sw sw2 t ev i pt
  | ownList ow ts => exact st_ownList ok S aok ow ts ev i pt
  | ownDict ow => exact st_ownDict ok (.inl ⟨rfl, rfl⟩) ow ev i
  | ownDict2 ow => exact st_ownDict ok (.inr ⟨rfl, rfl⟩) ow ev i
  | append ow hn hl sole t => exact st_append ok S aok ow hn hl sole t ev i pt
  | setKey ow sw tk te => exact st_setKey ok S aok ow sw tk te ev i pt
  | setIdx ow sw tk te => exact st_setIdx ok S aok ow sw tk te ev i pt
  | newKey ow tk => exact st_newKey ok S aok ow tk ev i pt
  | setPath ow hp sw ti tj te => exact st_setPath ok S aok ow hp sw ti tj te ev i pt
  | ret t => exact st_ret S aok t ev i pt
  | retOwn ow => exact st_retOwn ok ow ev i
  | ite tt ta tb => exact sx_ite S X aok tt ta tb ev i pt
  | for1 nn is ti tb => exact st_for ok S X aok (.name nn) is ti tb ev i pt
  | forT tn is ti tb => exact st_for ok S X aok (.tup tn) is ti tb ev i pt
end
end Mine
end

section
open PySem PySem.W PyProof.Rows
set_option Elab.async false
set_option maxRecDepth 10000
namespace Mine

noncomputable abbrev kOf (scope : Scope) : Str → Option NameKind := fun x => scope.names.lookup x
theorem cellsFrom_full : ∀ {names : Sc} {k : Nat} {acc : List (Str × Addr)} (n : Str), ((n, NameKind.cell) ∈ names ∨ ∃ a, acc.lookup n = some a) → ∃ a, (cellsFrom k names acc).lookup n = some a
  | [], _, _, n, h => by
    rcases h with h | h
    · cases h
    · exact h
  | (m, kd) :: r, k, acc, n, h => by
    unfold cellsFrom
    cases z : kd == NameKind.cell with
    | false =>
      simp only [Bool.false_eq_true, if_false]
      refine cellsFrom_full n ?_
      rcases h with h | h
      · rcases List.mem_cons.mp h with e | h
        · cases e; simp at z
        · exact .inl h
      · exact .inr h
    | true =>
      simp only [if_true]
      refine cellsFrom_full n ?_
      rcases h with h | ⟨a, h⟩
      · rcases List.mem_cons.mp h with e | h
        · cases e; exact .inr ⟨k, by simp⟩
        · exact .inl h
      · refine .inr ?_
        rw [List.lookup_cons]
        cases w : n == m with
        | true => exact ⟨_, rfl⟩
        | false => exact ⟨a, h⟩

section
variable {c : Cx} {n : Nat} {r : Rec} {env : Env} {hid as H : List Addr} {ρ ρ' : Rho} {A : Around} {s : Shared} {d : Dat} {μ : Mu} {h h' : Heap}

/-- a function's call, up to its body -/
theorem call_in {f : Nat} {d : FDef} {fa : Addr} {o : Obj} {name : Str} {params : Arguments} {body : List Stmt} {scope : Scope} {pm cd doc : Value} (F : FunAt c f d fa o name params body scope pm cd doc) (ok : c.Ok) (hroom : A.depth < recursionLimit)
    {vs : List Value} (hlen : vs.length = d.params.length) (x : Ext c.h₀ s.heap) {R : Result → Shared → Prop}
    (h : ∀ s₁, s.toks ≤ s₁.toks → InCallC s s.heap.objs.size (bindL (kOf scope) ((d.params.map c.nm).zip vs) fun _ => none) (cellsFrom (s.heap.objs.size + 1) scope.names [])
        (bindC (kOf scope) ((d.params.map c.nm).zip vs) fun _ => none) s₁ →
      ∀ E, wpAny c.M (A.deeper (callEnvC (Calls.docDef name params body scope pm cd doc) s.heap.objs.size fa)) (execs body (callEnvC (Calls.docDef name params body scope pm cd doc) s.heap.objs.size fa))
        (fun f s' => R (.ok (.ret (match f with | .ret v => v | _ => .none))) s') E s₁) : codeAny c.M A (.call (.ref fa) ⟨vs, []⟩) R s := by
  refine codeAny_call_function hroom (x _ _ F.obj) F.data F.co F.gen rfl (F.code.keeps x) ?_
  rw [F.bind vs hlen]
  refine wpAny_pure (wpAny_with_toks (Nat.le_refl _) (wpAny_newFunctionEnv_cells F.kind (fun y hy => ?_) fun env he s' X hle => ?_))
  · obtain ⟨z, hz, e⟩ := List.mem_map.mp (List.of_mem_zip hy).1
    rcases F.kinds z hz with k | k
    · exact .inl (by rw [← e]; exact k)
    · refine .inr ⟨by rw [← e]; exact k, ?_⟩
      obtain ⟨a, ha⟩ := cellsFrom_full (k := s.heap.objs.size + 1) (acc := []) y.1 (.inl (mem_of_lookup' (by rw [← e]; exact k)))
      have : (cellsFrom (s.heap.objs.size + 1) (Calls.docDef name params body scope pm cd doc).scope.names []).lookup y.1 = some a := ha
      rw [this]; rfl
  · subst he
    exact ⟨(ok.lim.keeps x).keeps X.toInCall.keep, codeAny_func (h s' hle X _)⟩

noncomputable def VB (c : Cx) (h : Heap) (hidA : List Addr) (k : Str → Option NameKind) (m cm : Str → Option Value) (vars : Vars) : Prop :=
  ∀ x d, look vars x = some d → ∃ v, Rep c.prog c.w h hidA v d ∧ ((k (c.nm x) = some .local ∧ m (c.nm x) = some v) ∨ (k (c.nm x) = some .cell ∧ cm (c.nm x) = some v))
theorem bind_vars (ok : c.Ok) {k : Str → Option NameKind} : ∀ {xs : List Nat} {ds : List Dat} {vs : List Value} {vars vars' : Vars} {m cm : Str → Option Value}, RepL c.prog c.w h hid vs ds → putAll xs ds vars = some vars' →
    (∀ x ∈ xs, k (c.nm x) = some .local ∨ k (c.nm x) = some .cell) → VB c h hid k m cm vars → VB c h hid k (bindL k ((xs.map c.nm).zip vs) m) (bindC k ((xs.map c.nm).zip vs) cm) vars'
  | [], [], _, _, _, _, _, _, e, _, v => by cases e; exact v
  | [], _ :: _, _, _, _, _, _, _, e, _, _ => by simp [putAll] at e
  | _ :: _, [], _, _, _, _, _, _, e, _, _ => by simp [putAll] at e
  | x :: xs, d :: ds, _, vars, vars', m, cm, rl, e, hk, v => by
    cases rl with
    | @cons u _ vs _ ru rl =>
      simp only [putAll] at e
      rw [List.map_cons, List.zip_cons_cons]
      unfold bindL bindC
      refine bind_vars ok rl e (fun y hy => hk y (List.mem_cons_of_mem _ hy)) fun y z hz => ?_
      rw [look_put] at hz
      by_cases q : y = x
      · subst q
        rw [if_pos rfl] at hz
        cases hz
        refine ⟨u, ru, ?_⟩
        rcases hk y List.mem_cons_self with k1 | k1
        · exact .inl ⟨k1, by rw [if_pos k1]; simp⟩
        · refine .inr ⟨k1, ?_⟩
          have : ¬ k (c.nm y) = some .local := by rw [k1]; decide
          rw [if_neg this]; simp
      · rw [if_neg q] at hz
        obtain ⟨u', ru', l⟩ := v y z hz
        have hne : c.nm y ≠ c.nm x := fun z => q (ok.inj _ _ z)
        refine ⟨u', ru', ?_⟩
        rcases l with ⟨k1, k2⟩ | ⟨k1, k2⟩
        · refine .inl ⟨k1, ?_⟩
          split
          · simp [hne, k2]
          · exact k2
        · refine .inr ⟨k1, ?_⟩
          split
          · exact k2
          · simp [hne, k2]
theorem bindL_other {k : Str → Option NameKind} : ∀ {binds : List (Str × Value)} {m : Str → Option Value} {n : Str}, (∀ p ∈ binds, p.1 ≠ n) → bindL k binds m n = m n
  | [], _, _, _ => rfl
  | (a, v) :: r, m, n, h => by
    unfold bindL
    rw [bindL_other fun p hp => h p (List.mem_cons_of_mem _ hp)]
    split
    · have := h (a, v) List.mem_cons_self
      simp [Ne.symm this]
    · rfl

/-- what a call hides -/
noncomputable def hidF (cs : List (Str × Addr)) (L : Addr) (hid : List Addr) : List Addr := L :: ((cs.filterMap fun p => cs.lookup p.1) ++ hid)
theorem hidF_cell {cs : List (Str × Addr)} {L : Addr} {n : Str} {a : Addr} (e : cs.lookup n = some a) : a ∈ hidF cs L hid := by
  refine List.mem_cons_of_mem _ (List.mem_append_left _ ?_)
  rw [List.mem_filterMap]
  exact ⟨(n, a), mem_of_lookup' e, e⟩
theorem hidF_cases {cs : List (Str × Addr)} {L b : Addr} (e : b ∈ hidF cs L hid) : b = L ∨ (∃ n, cs.lookup n = some b) ∨ b ∈ hid := by
  rcases List.mem_cons.mp e with q | q
  · exact .inl q
  · rcases List.mem_append.mp q with q | q
    · rw [List.mem_filterMap] at q
      obtain ⟨p, _, e⟩ := q
      exact .inr (.inl ⟨p.1, e⟩)
    · exact .inr (.inr q)

theorem frame_inv (ok : c.Ok) {f : Nat} {d : FDef} {fa : Addr} {o : Obj} {name : Str} {params : Arguments} {body : List Stmt} {scope : Scope} {pm cd doc : Value} (F : FunAt c f d fa o name params body scope pm cd doc)
    {m cm : Str → Option Value} {s₁ : Shared} {vars : Vars} (x : Ext c.h₀ s.heap) (ho : ∀ b ∈ as ++ hid, c.h₀.get? b = none) (al : Alive (as ++ hid) s.heap) (dj : ∀ b ∈ as, b ∉ hid)
    (X : InCallC s s.heap.objs.size m (cellsFrom (s.heap.objs.size + 1) scope.names []) cm s₁) (vb : VB c s.heap (as ++ hid) (kOf scope) m cm vars)
    (mu : ∀ h' hidA', Keep s.heap (as ++ hid) h' hidA' → (∀ b ∈ as, ∀ o, s.heap.get? b = some o → h'.get? b = some o) → MuOk c (callEnvC (Calls.docDef name params body scope pm cd doc) s.heap.objs.size fa) hidA' as m h' μ)
    (fr : ∀ y md, μ = some (y, md) → look vars y = none) :
    Inv c (callEnvC (Calls.docDef name params body scope pm cd doc) s.heap.objs.size fa) (hidF (cellsFrom (s.heap.objs.size + 1) scope.names []) s.heap.objs.size hid) as ⟨vars, μ⟩ s₁.heap := by
  have kp := X.toInCall.keep
  have new : ∀ b, b ∈ hidF (cellsFrom (s.heap.objs.size + 1) scope.names []) s.heap.objs.size hid → s.heap.get? b = none ∨ b ∈ hid := fun b hb => by
    rcases hidF_cases hb with rfl | ⟨n, e⟩ | q
    · exact .inl none_of_size
    · left
      cases e' : s.heap.get? b with
      | none => rfl
      | some o => exact absurd (Heap.lt_size e') (Nat.not_lt.mpr (Nat.le_of_lt (X.above n b (mem_of_lookup e))))
    · exact .inr q
  have kk : Keep s.heap (as ++ hid) s₁.heap (as ++ hidF (cellsFrom (s.heap.objs.size + 1) scope.names []) s.heap.objs.size hid) := fun b o nb e => ⟨kp b o e, fun q => by
    rcases List.mem_append.mp q with q | q
    · exact nb (List.mem_append_left _ q)
    · rcases new b q with z | z
      · rw [z] at e; cases e
      · exact nb (List.mem_append_right _ z)⟩
  have ce : ∀ n, scope.names.lookup n = some .cell → ∃ a, (cellsFrom (s.heap.objs.size + 1) scope.names []).lookup n = some a := fun n e => cellsFrom_full n (.inl (mem_of_lookup' e))
  refine ⟨⟨F.kind, rfl, rfl, List.mem_cons_self, fun n a e => ⟨hidF_cell e, fun q => ?_⟩, fun n n' a e e' => name_of_addr X.apart (mem_of_lookup e) (mem_of_lookup e'), ce⟩, fun b hb => ?_, x.trans fun b o e => kp b o e, fun b hb => ?_, fun b hb q => ?_, fun n a e => ⟨_, X.cell n a e⟩, ⟨m, X.toInCall.ns, fun y z hz => ?_, ?_⟩, fr⟩
  · have hab := X.above n a (mem_of_lookup e)
    have q : a = s.heap.objs.size := q
    rw [q] at hab
    exact Nat.lt_irrefl _ hab
  · rcases List.mem_append.mp hb with q | q
    · exact ho b (List.mem_append_left _ q)
    · rcases new b q with z | z
      · cases e : c.h₀.get? b with
        | none => rfl
        | some o => have := x _ _ e; rw [z] at this; cases this
      · exact ho b (List.mem_append_right _ z)
  · rcases List.mem_append.mp hb with q | q
    · obtain ⟨o, e⟩ := al b (List.mem_append_left _ q); exact ⟨o, kp _ _ e⟩
    · rcases hidF_cases q with rfl | ⟨n, e⟩ | q
      · obtain ⟨o, _, _, ho, _⟩ := X.toInCall.ns; exact ⟨o, ho⟩
      · obtain ⟨o, ho, _⟩ := X.cell n b e; exact ⟨o, ho⟩
      · obtain ⟨o, e⟩ := al b (List.mem_append_right _ q); exact ⟨o, kp _ _ e⟩
  · rcases new b q with z | z
    · obtain ⟨o, e⟩ := al b (List.mem_append_left _ hb); rw [z] at e; cases e
    · exact dj b hb z
  · obtain ⟨v, rv, l⟩ := vb y z hz
    refine ⟨v, rv.keep kk, ?_⟩
    rcases l with ⟨k1, k2⟩ | ⟨k1, k2⟩
    · exact .inl ⟨k1, k2⟩
    · obtain ⟨a, ha⟩ := ce _ k1
      exact .inr ⟨k1, a, ha, k2 ▸ X.cell _ a ha⟩
  · exact mu _ _ kk fun b _ o e => kp b o e

theorem call_step (ok : c.Ok) (X : ExOk c n r) : CallOk c (n + 1) (step c.fs r) := by
  intro A hid f ds vs dd s fa aok ev hf x ho al rl pt
  replace ev : stepC c.fs r f ds none = some (dd, none) := ev
  unfold stepC at ev
  split at ev
  rotate_left
  · cases ev
  rename_i d hd
  obtain ⟨fa', o, name, params, body, scope, pm, cd, doc, F⟩ := ok.funs f d hd
  have : fa' = fa := by have := F.glob; rw [hf] at this; cases this; rfl
  subst this
  simp only at ev
  split at ev
  rotate_left
  · cases ev
  rename_i vars hv
  split at ev
  rotate_left
  · cases ev
  rename_i dd' ρ1 e1
  cases ev
  have hlen : vs.length = d.params.length := by rw [rl.length, putAll_len hv]
  intro Q E hQ
  refine wpAny_call (call_in F ok (by have := aok.depth; show A.depth < 1000; omega) hlen x fun s₁ hle XC E' => ?_)
  obtain ⟨h₁, tk, rfl, _⟩ := XC.done
  have vb := bind_vars (h := s.heap) (hid := hid) ok (k := kOf scope) (m := fun _ => none) (cm := fun _ => none) rl hv (fun y hy => F.kinds y hy) fun _ _ e => by cases e
  have iv := frame_inv (as := []) (hid := hid) (μ := none) ok F x (fun b hb => ho b hb) (fun b hb => al b hb) (fun _ h => (nomatch h)) XC vb (fun _ _ _ _ => rfl) fun _ _ e => (nomatch e)
  refine exs_ok (s := { s with heap := h₁, toks := tk }) X (aok.deeper _) F.tr e1 iv (lt2 pt hle) _ E' fun fl h2 tk2 le2 hp => ?_
  obtain ⟨as2, i2, st2, hk2, v, hfl, rv⟩ := hp
  subst hfl
  have sub : ∀ b, b ∈ hid → b ∈ as2 ++ hidF (cellsFrom (s.heap.objs.size + 1) scope.names []) s.heap.objs.size hid := fun b hb => List.mem_append_right _ (List.mem_cons_of_mem _ (List.mem_append_right _ hb))
  refine hQ _ _ _ (Nat.le_trans hle le2) ⟨fun b o e => ?_, rv.keep fun b o nb e => ⟨e, fun q => nb (sub b q)⟩⟩
  refine st2.1 b o (fun q => ?_) (fun n q => ?_) (fun q => (nomatch q)) (XC.toInCall.keep b o e)
  · have q : b = s.heap.objs.size := q
    rw [q, none_of_size] at e; cases e
  · have q : (cellsFrom (s.heap.objs.size + 1) scope.names []).lookup n = some b := q
    exact Nat.lt_asymm (Heap.lt_size e) (XC.above n b (mem_of_lookup q))

theorem callIO_step (ok : c.Ok) (X : ExOk c n r) : CallIO c (n + 1) (step c.fs r) := by
  intro A hid as f ds vs dd s fa a md md' aok ev hf x ho al dj mr rl pt
  replace ev : stepC c.fs r f ds (some md) = some (dd, some md') := ev
  unfold stepC at ev
  split at ev
  rotate_left
  · cases ev
  rename_i d hd
  obtain ⟨fa', o, name, params, body, scope, pm, cd, doc, F⟩ := ok.funs f d hd
  have : fa' = fa := by have := F.glob; rw [hf] at this; cases this; rfl
  subst this
  simp only at ev
  split at ev
  · cases ev
  rename_i xs0 hs0
  split at ev
  rotate_left
  · cases ev
  rename_i x0 ps hps
  split at ev
  rotate_left
  · cases ev
  rename_i vars hv
  split at ev
  rotate_left
  · cases ev
  rename_i hnl
  split at ev
  rotate_left
  · cases ev
  rename_i dd' vars2 y m2 e1
  split at ev
  rotate_left
  · cases ev
  rename_i hy
  split at ev
  rotate_left
  · cases ev
  rename_i xs2 hs2
  cases ev
  have := Nat.eq_of_beq_eq_true hy
  subst this
  obtain ⟨has, _⟩ := seqRep mr hs0
  subst has
  have hlen : (Value.ref a :: vs).length = d.params.length := by rw [hps, List.length_cons, List.length_cons, rl.length, putAll_len hv]
  have kx := F.first y ps hps
  have nd := F.nodup
  rw [hps, List.nodup_cons] at nd
  intro Q E hQ
  refine wpAny_call (call_in F ok (by have := aok.depth; show A.depth < 1000; omega) hlen x fun s₁ hle XC E' => ?_)
  obtain ⟨h₁, tk, rfl, _⟩ := XC.done
  have hz : (d.params.map c.nm).zip (Value.ref a :: vs) = (c.nm y, Value.ref a) :: (ps.map c.nm).zip vs := by rw [hps]; rfl
  rw [hz] at XC
  unfold bindL bindC at XC
  have kx' : kOf scope (c.nm y) = some .local := kx
  rw [if_pos kx', if_pos kx'] at XC
  have vb := bind_vars (h := s.heap) (hid := [a] ++ hid) ok (k := kOf scope) (m := fun z => if z = c.nm y then some (.ref a) else none) (cm := fun _ => none) rl hv (fun z hz => F.kinds z (by rw [hps]; exact List.mem_cons_of_mem _ hz)) fun _ _ e => by cases e
  have hma : bindL (kOf scope) ((ps.map c.nm).zip vs) (fun z => if z = c.nm y then some (.ref a) else none) (c.nm y) = some (.ref a) := by
    rw [bindL_other fun p hp q => ?_]
    · simp
    · obtain ⟨z, hzp, e⟩ := List.mem_map.mp (List.of_mem_zip hp).1
      have hzy := ok.inj _ _ (e.trans q)
      exact nd.1 (hzy ▸ hzp)
  have iv := frame_inv (as := [a]) (hid := hid) (μ := some (y, md)) ok F x ho al dj XC vb (fun h' hidA' kk kb => ⟨kx, a, hma, mr.keep kk kb⟩) fun z md0 e => by cases e; exact hnl
  refine exs_ok (s := { s with heap := h₁, toks := tk }) X (aok.deeper _) F.tr e1 iv (lt2 pt hle) _ E' fun fl h2 tk2 le2 hp => ?_
  obtain ⟨as2, i2, st2, hk2, v, hfl, rv⟩ := hp
  subst hfl
  obtain ⟨m3, hn3, _, ky3, a3, hm3, mr3⟩ := i2.loc
  obtain ⟨has2, _⟩ := seqRep mr3 hs2
  have ha3 : a3 = a := by
    rcases hk2 a [] rfl with ⟨t', e⟩ | ⟨e, _⟩
    · rw [has2] at e; cases e; rfl
    · rw [has2] at e; cases e
  subst ha3
  subst has2
  have sub : ∀ b, b ∈ [a3] ++ hid → b ∈ [a3] ++ hidF (cellsFrom (s.heap.objs.size + 1) scope.names []) s.heap.objs.size hid := fun b hb => by
    rcases List.mem_append.mp hb with q | q
    · exact List.mem_append_left _ q
    · exact List.mem_append_right _ (List.mem_cons_of_mem _ (List.mem_append_right _ q))
  have kk : Keep h2 ([a3] ++ hidF (cellsFrom (s.heap.objs.size + 1) scope.names []) s.heap.objs.size hid) h2 ([a3] ++ hid) := fun b o nb e => ⟨e, fun q => nb (sub b q)⟩
  refine hQ _ _ _ (Nat.le_trans hle le2) ⟨fun b o nb e => ?_, fun b hb => i2.alive b (List.mem_append_left _ hb), mr3.keep kk fun _ _ _ e => e, rv.keep kk⟩
  refine st2.1 b o (fun q => ?_) (fun n q => ?_) nb (XC.toInCall.keep b o e)
  · have q : b = s.heap.objs.size := q
    rw [q, none_of_size] at e; cases e
  · have q : (cellsFrom (s.heap.objs.size + 1) scope.names []).lookup n = some b := q
    exact Nat.lt_asymm (Heap.lt_size e) (XC.above n b (mem_of_lookup q))
end
end Mine
end

section
open PySem PySem.W PyProof.Rows
set_option Elab.async false
set_option maxRecDepth 10000
namespace Mine

/-! a display of texts, of any length -/
inductive SV : List (Str × Value) → List (Str × Str) → Prop
  | nil : SV [] []
  | cons {k v t r q} : SV r q → SV ((k, .str v t) :: r) ((k, v) :: q)
theorem SV.snoc {k v : Str} {t : Tok} {r : List (Str × Value)} {q : List (Str × Str)} (h : SV r q) : SV (r ++ [(k, .str v t)]) (q ++ [(k, v)]) := by
  induction h with
  | nil => exact .cons .nil
  | cons _ ih => exact .cons ih
theorem SV.append {r r' : List (Str × Value)} {q q' : List (Str × Str)} (h : SV r q) (h' : SV r' q') : SV (r ++ r') (q ++ q') := by
  induction h with
  | nil => exact h'
  | cons _ ih => exact .cons ih
theorem SV.keys {r : List (Str × Value)} {q : List (Str × Str)} (h : SV r q) : r.map (·.1) = q.map (·.1) := by
  induction h with
  | nil => rfl
  | cons _ ih => simp [ih]
theorem SV.rep {prog : Program} {w : World} {h : Heap} {hid : List Addr} {r : List (Str × Value)} {q : List (Str × Str)} (x : SV r q) : RepD prog w h hid r (q.map fun p => (p.1, .str p.2)) := by
  induction x with
  | nil => exact .nil
  | cons _ ih => exact .cons .str ih

noncomputable def Lit (M : Model) (t : Sem Value) (x : Str) : Prop := ∀ (A : Around) (s : Shared) (Q : Value → Shared → Prop) (E : Value → Shared → Prop), Q (.str x s.toks) { s with toks := s.toks + 1 } → wpAny M A t Q E s
inductive CP (M : Model) : List (Sem Value × Sem Value) → List (Str × Str) → Prop
  | nil : CP M [] []
  | cons {a b k v ps q} : Lit M a k → Lit M b v → CP M ps q → CP M ((a, b) :: ps) ((k, v) :: q)
theorem CP.snoc {M : Model} {a b : Sem Value} {k v : Str} {ps q} (h : CP M ps q) (ha : Lit M a k) (hb : Lit M b v) : CP M (ps ++ [(a, b)]) (q ++ [(k, v)]) := by
  induction h with
  | nil => exact .cons ha hb .nil
  | cons x y _ ih => exact .cons x y ih
theorem CP.length {M : Model} {ps q} (h : CP M ps q) : ps.length = q.length := by
  induction h with
  | nil => rfl
  | cons _ _ _ ih => simp [ih]

noncomputable def flushD (run : List (Sem Value × Sem Value)) (main : Option Addr) : Sem (Option Addr) := do
  if run.isEmpty then return main
  match main with
  | none => return some (← subDict run)
  | some d =>
    let sub ← holding [.ref d] (subDict run)
    (holding [.ref d, .ref sub] (mergeMapping d (.ref sub) false)).onRaise fun x => do let _ ← holding [.ref d, x] (runValue (.builtin "proto.let_go" {}))
    return some d
noncomputable def loopD : List (Sem Value × Sem Value) → Option Addr × List (Sem Value × Sem Value) → Sem (Option Addr × List (Sem Value × Sem Value))
  | [], st => pure st
  | p :: ps, (main, run) => if ((run ++ [p]).length == 17) = true then (do let main ← flushD (run ++ [p]) main; loopD ps (main, [])) else loopD ps (main, run ++ [p])
theorem forIn_loopD (f : (Option (Sem Value) × Sem Value) → (Option Addr × List (Sem Value × Sem Value)) → Sem (ForInStep (Option Addr × List (Sem Value × Sem Value))))
    (hf : ∀ (p : Sem Value × Sem Value) main run, f (some p.1, p.2) (main, run) = if ((run ++ [p]).length == 17) = true then (do let main ← flushD (run ++ [p]) main; pure (.yield (main, []))) else pure (.yield (main, run ++ [p]))) :
    ∀ (ps : List (Sem Value × Sem Value)) st, forIn (ps.map fun p => (some p.1, p.2)) st f = loopD ps st
  | [], st => rfl
  | p :: ps, (main, run) => by
    rw [List.map_cons, List.forIn_cons, hf]
    unfold loopD
    cases h : (run ++ [p]).length == 17 with
    | true => simp only [if_true, bind_assoc, pure_bind, forIn_loopD f hf ps]
    | false => simp only [Bool.false_eq_true, if_false, pure_bind, forIn_loopD f hf ps]
theorem dictDisplay_is (ps : List (Sem Value × Sem Value)) : dictDisplay (ps.map fun p => (some p.1, p.2)) = (do
    let st ← loopD ps (none, [])
    match ← flushD st.2 st.1 with
    | some d => pure (.ref d)
    | none => newDict) := by
  unfold dictDisplay
  dsimp only
  rw [forIn_loopD]
  · rfl
  · intro p main run
    rfl
end Mine
end

section
open PySem PySem.W PyProof.Rows
set_option Elab.async false
set_option maxRecDepth 10000
namespace Mine
section
variable {prog : Program} {w : World} {A : Around} {E : Value → Shared → Prop} {s : Shared}

theorem put_ok {d : Addr} {kvs : List (Str × Value)} {k : Str} {key v : Value} {Q : Unit → Shared → Prop} (hkey : (PySem.strKind prog w).is k key = true) (hm : s.heap.DictOf (PySem.strKind prog w) d kvs) (hn : k ∉ kvs.map (·.1)) (hsz : kvs.length ≤ sizeLine)
    (hQ : ∀ h', h'.DictOf (PySem.strKind prog w) d (kvs ++ [(k, v)]) → Heap.SameBut d s.heap h' → Q () { s with heap := h' }) : wpAny (model prog w) A (dictPut d ((PySem.strKind prog w).hash k) key v) Q E s := by
  obtain ⟨o, es, ep, ho, hc, hd, hk, hp, hnd⟩ := hm
  have hes : es.size ≤ sizeLine := by
    have e1 := hp.length
    have e2 : es.toList.length = es.size := by simp
    omega
  unfold dictPut
  refine wpAny_bind (wpAny_dictFind_of hkey ho hd hk ?_)
  have hidx : (es.findIdx? fun e => (PySem.strKind prog w).is k e.key) = kvs.findIdx? fun kv => decide (kv.1 = k) := by
    rw [← hp.findIdx k]; obtain ⟨l⟩ := es; simp
  have hnone : (kvs.findIdx? fun kv => decide (kv.1 = k)) = none := by
    rw [List.findIdx?_eq_none_iff]
    intro x hx
    exact decide_eq_false fun e => hn (List.mem_map.mpr ⟨x, hx, e⟩)
  rw [hidx, hnone]
  refine wpAny_updateDictKeys (hz := hes) ho hd (hQ _ ⟨_, _, ep + 1, Heap.get?_update_self _ ho (Obj.isFreed_of_dict (Obj.data_mapDictKeys hd _)), hc.mapDictKeys _, Obj.data_mapDictKeys hd _, hk.push hkey _, ?_, ?_⟩ (Heap.SameBut.update ..))
  · have := hp.append hkey ((PySem.strKind prog w).hash k) v
    obtain ⟨l⟩ := es
    simpa using this
  · rw [List.map_append, List.nodup_append]
    refine ⟨hnd, by simp, ?_⟩
    intro a ha b hb
    simp only [List.map_cons, List.map_nil, List.mem_singleton] at hb
    subst hb
    exact fun e => hn (e ▸ ha)

theorem merge_ok {d o : Addr} {kvs more : List (Str × Value)} {Q : Unit → Shared → Prop} (hdo : d ≠ o) (hoS : (o == sysModules) = false) (hne : kvs ≠ []) (hd : s.heap.DictOf (PySem.strKind prog w) d kvs) (ho : s.heap.DictOf (PySem.strKind prog w) o more)
    (hnd : ((kvs ++ more).map (·.1)).Nodup) (hsz : kvs.length + more.length ≤ sizeLine)
    (hQ : ∀ h', h'.DictOf (PySem.strKind prog w) d (kvs ++ more) → Heap.SameBut d s.heap h' → Q () { s with heap := h' }) : wpAny (model prog w) A (mergeMapping d (.ref o) false) Q E s := by
  obtain ⟨od, esd, epd, hod, hcd, hdd, hkd, hpd, hndd⟩ := id hd
  obtain ⟨oo, eso, epo, hoo, hco, hdo', hko, hpo, hno⟩ := id ho
  have hlen : more.length = eso.size := by rw [← hpo.length]; simp
  unfold mergeMapping
  refine wpAny_bind (wpAny_isInstance (T := "dict") (b := true) ho.typeIs isSubtype_dict_dict ?_)
  simp only [if_true]
  refine wpAny_bind (wpAny_specialOf ho.typeIs PySem.F.slot_dict_iter.lookup ?_)
  have hb : (some (Value.builtin "dict.__iter__") == some (Value.builtin "dict.__iter__")) = true := by rfl
  rw [hb]
  refine wpAny_bind (wpAny_pure ?_)
  dsimp only
  rw [if_neg (by rw [hoS]; decide)]
  refine wpAny_bind (wpAny_dictEntries hod hdd ?_)
  have hemp : esd.isEmpty = false := by
    cases h : esd.isEmpty with
    | false => rfl
    | true =>
      have h0 : esd = #[] := Array.isEmpty_iff.mp h
      have := hpd.length
      rw [h0] at this
      exact absurd (List.length_eq_zero_iff.mp (by simpa using this.symm)) hne
  rw [if_neg (by rw [hemp]; decide)]
  refine wpAny_bind (wpAny_dictEntries hoo hdo' (wpAny_bind (wpAny_dictEpoch hoo hdo' (wpAny_bind ?_))))
  refine wpAny_forIn_list _
    (fun rest _ s' => ∃ h' i, s' = { s with heap := h' } ∧ rest = List.range' i (eso.size - i) ∧ i ≤ eso.size ∧ h'.DictOf (PySem.strKind prog w) d (kvs ++ more.take i) ∧ h'.get? o = some oo ∧ Heap.SameBut d s.heap h')
    _ ?_ ?_ _ _ ⟨s.heap, 0, rfl, by simp [List.range_eq_range'], Nat.zero_le _, by simpa using hd, hoo, Heap.SameBut.refl _ _⟩
  · rintro x rest b s' ⟨h', i, rfl, hr, hi, hd', hoo', hs'⟩
    have hlt : i < eso.size := by
      rcases Nat.lt_or_ge i eso.size with h | h
      · exact h
      · rw [Nat.sub_eq_zero_of_le h] at hr; simp at hr
    obtain ⟨hx, hrest⟩ : x = i ∧ rest = List.range' (i + 1) (eso.size - (i + 1)) := by
      have e : eso.size - i = (eso.size - (i + 1)) + 1 := by omega
      rw [e, List.range'_succ] at hr
      injection hr with h1 h2
      exact ⟨h1, h2⟩
    subst hx
    refine wpAny_bind (wpAny_dictEntries hoo' hdo' ?_)
    rw [Array.getElem?_eq_getElem hlt]
    have hxm : x < more.length := by rw [hlen]; exact hlt
    obtain ⟨kv, hkv⟩ : ∃ kv, more[x]? = some kv := ⟨more[x], List.getElem?_eq_getElem _⟩
    obtain ⟨k, v⟩ := kv
    obtain ⟨hkey, hval⟩ := hpo.get? (e := eso[x]) (by simp [hlt]) hkv
    obtain ⟨k', hkey', hhash⟩ := hko eso[x] (Array.getElem_mem hlt)
    have hkk : k' = k := (PySem.strKind prog w).inj _ _ _ hkey' hkey
    subst hkk
    dsimp only
    rw [if_neg (by decide), hhash, hval]
    have htake : more.take (x + 1) = more.take x ++ [(k', v)] := by rw [List.take_add_one, hkv]; rfl
    have hnotin : k' ∉ (kvs ++ more.take x).map (·.1) := by
      have e2 : more = more.take x ++ (k', v) :: more.drop (x + 1) := by
        have := List.getElem?_eq_some_iff.mp hkv
        obtain ⟨h1, h2⟩ := this
        have h3 : more.drop x = (k', v) :: more.drop (x + 1) := by rw [List.drop_eq_getElem_cons h1, h2]
        conv => lhs; rw [← List.take_append_drop x more, h3]
      rw [e2, ← List.append_assoc, List.map_append, List.nodup_append] at hnd
      intro q
      exact hnd.2.2 k' q k' (by simp) rfl
    refine wpAny_bind (wpAny_holding (put_ok hkey hd' hnotin (by rw [List.length_append, List.length_take]; omega) fun h'' hd'' hs'' => ?_))
    have hoo'' : h''.get? o = some oo := (hs''.2 o (Ne.symm hdo)).trans hoo'
    refine wpAny_bind (wpAny_dictEpoch hoo'' hdo' ?_)
    rw [if_neg (by simp)]
    exact wpAny_pure ⟨h'', x + 1, rfl, hrest, hlt, by rw [htake, ← List.append_assoc]; exact hd'', hoo'', hs'.trans hs''⟩
  · rintro b s' ⟨h', i, rfl, hr, hi, hd', hoo', hs'⟩
    have hin : i = eso.size := by
      rcases Nat.lt_or_ge i eso.size with h | h
      · have e : eso.size - i = (eso.size - (i + 1)) + 1 := by omega
        rw [e, List.range'_succ] at hr; exact nomatch hr
      · exact Nat.le_antisymm hi h
    refine wpAny_pure (hQ h' ?_ hs')
    rw [hin, ← hlen, List.take_length] at hd'; exact hd'

theorem Lit.holds {t : Sem Value} {x : Str} (h : Lit (model prog w) t x) {Q : Value → Shared → Prop} (q : Q (.str x s.toks) { s with toks := s.toks + 1 }) : wpAny (model prog w) A t Q E s := h A s Q E q

/-- one dict of the pending pairs -/
theorem evalCP : ∀ {ps : List (Sem Value × Sem Value)} {q : List (Str × Str)} {s : Shared} {Q : List (Value × Value) → Shared → Prop}, CP (model prog w) ps q →
    (∀ vs kvs tk, Carries (PySem.strKind prog w) vs kvs → SV kvs q → Q vs { s with toks := tk }) → wpAny (model prog w) A (evalPairs ps) Q E s
  | _, _, s, Q, .nil, h => evalPairs_nil (h [] [] s.toks trivial .nil)
  | _, _, s, Q, .cons (k := k) (v := v) a b r, h => evalPairs_cons (a.holds (b.holds (evalCP r fun vs kvs tk hc hs => h _ ((k, .str v (s.toks + 1)) :: kvs) tk ⟨strKind_is prog w k _, rfl, hc⟩ (.cons hs))))
theorem longCP {d : Addr} : ∀ {ps : List (Sem Value × Sem Value)} {q q0 : List (Str × Str)} {kvs0 : List (Str × Value)} {s : Shared} {Q : PUnit → Shared → Prop}, CP (model prog w) ps q → s.heap.DictOf (PySem.strKind prog w) d kvs0 → SV kvs0 q0 →
    ((q0 ++ q).map (·.1)).Nodup → (q0 ++ q).length ≤ sizeLine →
    (∀ kvs h' tk, h'.DictOf (PySem.strKind prog w) d kvs → SV kvs (q0 ++ q) → Heap.SameBut d s.heap h' → Q ⟨⟩ { s with heap := h', toks := tk }) →
    wpAny (model prog w) A (forIn ps PUnit.unit fun (p : Sem Value × Sem Value) (_ : PUnit) => (do let kv ← p.1; let vv ← holding [kv] p.2; holding [kv, vv] (dictSet d kv vv); pure (ForInStep.yield PUnit.unit) : Sem (ForInStep PUnit))) Q E s
  | _, _, q0, kvs0, s, Q, .nil, hd, hs, _, _, h => by
    rw [List.forIn_nil]
    exact wpAny_pure (h kvs0 s.heap s.toks hd (by simpa using hs) (Heap.SameBut.refl _ _))
  | _, _, q0, kvs0, s, Q, .cons (k := k) (v := v) (q := q) a b r, hd, hs, hn, hl, h => by
    rw [List.forIn_cons]
    have hnot : k ∉ kvs0.map (·.1) := by
      rw [hs.keys]
      rw [List.map_append, List.nodup_append] at hn
      intro z
      exact hn.2.2 k z k (by simp) rfl
    have hlen : kvs0.length ≤ sizeLine := by
      have := congrArg List.length hs.keys
      simp at this
      rw [List.length_append] at hl
      omega
    have hst : ∀ u, stored kvs0 k u = kvs0 ++ [(k, u)] := fun u => by
      unfold stored
      rw [if_neg]
      intro z
      rw [List.any_eq_true] at z
      obtain ⟨p, hp, e⟩ := z
      exact hnot (List.mem_map.mpr ⟨p, hp, of_decide_eq_true e⟩)
    refine wpAny_bind (wpAny_bind (a.holds (wpAny_bind (wpAny_holding (b.holds (wpAny_bind (wpAny_holding (wpAny_dictSet_pairs (hsz := hlen) (strKind_is prog w k _) hd fun h1 hd1 sb1 => wpAny_pure ?_))))))))
    rw [hst] at hd1
    have e1 : q0 ++ (k, v) :: q = (q0 ++ [(k, v)]) ++ q := by simp
    refine longCP (q0 := q0 ++ [(k, v)]) r hd1 hs.snoc (by rw [← e1]; exact hn) (by rw [← e1]; exact hl) fun kvs h' tk hd' hs' sb' => ?_
    exact h kvs h' tk hd' (by rw [e1]; exact hs') (sb1.trans sb')

theorem sub_ok {ps : List (Sem Value × Sem Value)} {q : List (Str × Str)} {Q : Addr → Shared → Prop} (cp : CP (model prog w) ps q) (hn : (q.map (·.1)).Nodup) (hl : q.length ≤ sizeLine)
    (h : ∀ kvs h' tk, h'.DictOf (PySem.strKind prog w) s.heap.objs.size kvs → SV kvs q → Ext s.heap h' → Q s.heap.objs.size { s with heap := h', toks := tk }) : wpAny (model prog w) A (subDict ps) Q E s := by
  have ext : ∀ h', Heap.SameBut s.heap.objs.size (s.heap.push { cls := .type "dict", data := .dict #[] }) h' → Ext s.heap h' := fun h' sb b o e => sb.extBut b o (Nat.ne_of_lt (Heap.lt_size e)) (Heap.get?_push_of_some _ e)
  by_cases h15 : ps.length ≤ 15
  · refine wpAny_subDict (knd := PySem.strKind prog w) h15 (evalCP cp fun vs kvs tk hc hs => ⟨kvs, hc, Heap.DictOf.new _, fun h' hd sb => ?_⟩)
    rw [merged_nil_of_nodup kvs (by rw [hs.keys]; exact hn)] at hd
    exact h kvs h' _ hd hs (ext h' sb)
  · unfold subDict
    refine wpAny_bind (wpAny_alloc ?_)
    refine wpAny_bind (wpAny_holding ?_)
    rw [if_neg h15]
    refine wpAny_bind (wpAny_rule (wpAny_bind ?_))
    refine longCP (q0 := []) (kvs0 := []) cp (Heap.DictOf.new _) .nil (by simpa using hn) (by simpa using hl) fun kvs h' tk hd hs sb => ?_
    exact wpAny_pure (wpAny_pure (h kvs h' tk hd (by simpa using hs) (ext h' sb)))
end
end Mine
end

section
open PySem PySem.W PyProof.Rows
set_option Elab.async false
set_option maxRecDepth 10000
namespace Mine
section
variable {prog : Program} {w : World} {A : Around} {E : Value → Shared → Prop} {s : Shared}

/-- the display so far: what stands in the dict, what is pending -/
noncomputable def MainAt (prog : Program) (w : World) (h₀ h : Heap) (main : Option Addr) (q0 : List (Str × Str)) : Prop :=
  match main with
  | none => q0 = []
  | some d => h₀.get? d = none ∧ (d == sysModules) = false ∧ q0 ≠ [] ∧ ∃ kvs, h.DictOf (PySem.strKind prog w) d kvs ∧ SV kvs q0

theorem flush_ok {h₀ : Heap} {main : Option Addr} {run : List (Sem Value × Sem Value)} {q0 q : List (Str × Str)} {Q : Option Addr → Shared → Prop} (mods : ∀ h, Ext h₀ h → (h.objs.size == sysModules) = false) (x0 : Ext h₀ s.heap) (ma : MainAt prog w h₀ s.heap main q0) (cp : CP (model prog w) run q)
    (hn : ((q0 ++ q).map (·.1)).Nodup) (hl : (q0 ++ q).length ≤ sizeLine)
    (h : ∀ main' h' tk, Ext h₀ h' → MainAt prog w h₀ h' main' (q0 ++ q) → Q main' { s with heap := h', toks := tk }) : wpAny (model prog w) A (flushD run main) Q E s := by
  unfold flushD
  cases cp with
  | nil => exact wpAny_pure (h main s.heap s.toks x0 (by simpa using ma))
  | @cons a b k v ps q ha hb r =>
    have cp : CP (model prog w) ((a, b) :: ps) ((k, v) :: q) := .cons ha hb r
    rw [if_neg (by simp)]
    have hn2 : (((k, v) :: q).map (·.1)).Nodup := by rw [List.map_append, List.nodup_append] at hn; exact hn.2.1
    have hl2 : ((k, v) :: q).length ≤ sizeLine := by rw [List.length_append] at hl; omega
    have fresh : ∀ h, Ext h₀ h → h₀.get? h.objs.size = none := fun h x => by
      cases e : h₀.get? h.objs.size with
      | none => rfl
      | some o => exact absurd (Heap.lt_size (x _ _ e)) (Nat.lt_irrefl _)
    cases main with
    | none =>
      have : q0 = [] := ma
      subst this
      refine wpAny_bind (sub_ok cp hn2 hl2 fun kvs h' tk hd hs x => wpAny_pure ?_)
      exact h _ _ _ (x0.trans x) ⟨fresh _ x0, mods _ x0, by simp, kvs, hd, by simpa using hs⟩
    | some d =>
      obtain ⟨d0, dsys, hq0, kvs0, hd0, hs0⟩ := ma
      refine wpAny_bind (wpAny_holding (sub_ok cp hn2 hl2 fun kvs h' tk hd hs x => ?_))
      obtain ⟨o0, _, _, ho0, _⟩ := id hd0
      have dne : d ≠ s.heap.objs.size := Nat.ne_of_lt (Heap.lt_size ho0)
      have hd0' : h'.DictOf (PySem.strKind prog w) d kvs0 := dictOf_at hd0 fun o e => x _ o e
      have hk0 : kvs0.map (·.1) = q0.map (·.1) := hs0.keys
      have hk : kvs.map (·.1) = ((k, v) :: q).map (·.1) := hs.keys
      have hne : kvs0 ≠ [] := fun e => by
        subst e
        cases hs0
        exact hq0 rfl
      refine wpAny_bind (wpAny_onRaise (wpAny_mono (wpAny_holding (merge_ok (E := fun _ _ => False) (s := { s with heap := h', toks := tk }) dne (mods _ x0) hne hd0' hd ?_ ?_ fun h2 hd2 sb2 => ?_)) (fun _ _ hq => hq) fun _ _ f => f.elim))
      · rw [List.map_append, hk0, hk, ← List.map_append]; exact hn
      · have e1 := congrArg List.length hk0
        have e2 := congrArg List.length hk
        simp only [List.length_map] at e1 e2
        rw [e1, e2, ← List.length_append]; exact hl
      · refine wpAny_pure (h _ _ _ (fun b o e => sb2.extBut b o (fun z => by rw [z, d0] at e; cases e) (x b o (x0 b o e))) ⟨d0, dsys, by simp, _, hd2, hs0.append hs⟩)

theorem loopD_ok {h₀ : Heap} (mods : ∀ h, Ext h₀ h → (h.objs.size == sysModules) = false) : ∀ {ps run : List (Sem Value × Sem Value)} {q qr q0 : List (Str × Str)} {main : Option Addr} {s : Shared} {Q : Option Addr × List (Sem Value × Sem Value) → Shared → Prop}, Ext h₀ s.heap → MainAt prog w h₀ s.heap main q0 →
    CP (model prog w) run qr → CP (model prog w) ps q → ((q0 ++ qr ++ q).map (·.1)).Nodup → (q0 ++ qr ++ q).length ≤ sizeLine →
    (∀ main' run' q0' qr' h' tk, Ext h₀ h' → MainAt prog w h₀ h' main' q0' → CP (model prog w) run' qr' → q0' ++ qr' = q0 ++ qr ++ q → Q (main', run') { s with heap := h', toks := tk }) →
    wpAny (model prog w) A (loopD ps (main, run)) Q E s
  | _, run, _, qr, q0, main, s, Q, x0, ma, cr, .nil, hn, hl, h => wpAny_pure (h main run q0 qr s.heap s.toks x0 ma cr (by simp))
  | _, run, _, qr, q0, main, s, Q, x0, ma, cr, .cons (k := k) (v := v) (q := q) a b r, hn, hl, h => by
    unfold loopD
    have cr' := cr.snoc a b
    have e1 : q0 ++ qr ++ (k, v) :: q = (q0 ++ (qr ++ [(k, v)])) ++ q := by simp
    rw [e1] at hn hl
    split
    · have hn1 : ((q0 ++ (qr ++ [(k, v)])).map (·.1)).Nodup := by rw [List.map_append, List.nodup_append] at hn; exact hn.1
      have hl1 : (q0 ++ (qr ++ [(k, v)])).length ≤ sizeLine := by rw [List.length_append] at hl; omega
      refine wpAny_bind (flush_ok mods x0 ma cr' hn1 hl1 fun main' h' tk x' ma' => ?_)
      refine loopD_ok (s := { s with heap := h', toks := tk }) mods x' ma' .nil r (by simpa using hn) (by simpa using hl) fun main2 run2 q02 qr2 h2 tk2 x2 ma2 cr2 e2 => ?_
      exact h _ _ _ _ _ _ x2 ma2 cr2 (by rw [e2, e1]; simp)
    · refine loopD_ok mods x0 ma cr' r hn hl fun main2 run2 q02 qr2 h2 tk2 x2 ma2 cr2 e2 => ?_
      exact h _ _ _ _ _ _ x2 ma2 cr2 (by rw [e2, e1])

theorem display_ok {ps : List (Sem Value × Sem Value)} {q : List (Str × Str)} {Q : Value → Shared → Prop} (mods : ∀ h, Ext s.heap h → (h.objs.size == sysModules) = false) (cp : CP (model prog w) ps q) (hq : q ≠ []) (hn : (q.map (·.1)).Nodup) (hl : q.length ≤ sizeLine)
    (h : ∀ d kvs h' tk, s.heap.get? d = none → (d == sysModules) = false → Ext s.heap h' → h'.DictOf (PySem.strKind prog w) d kvs → SV kvs q → Q (.ref d) { s with heap := h', toks := tk }) :
    wpAny (model prog w) A (dictDisplay (ps.map fun p => (some p.1, p.2))) Q E s := by
  rw [dictDisplay_is]
  refine wpAny_bind (loopD_ok (h₀ := s.heap) (q0 := []) (qr := []) mods .refl rfl .nil cp (by simpa using hn) (by simpa using hl) fun main run q0 qr h1 tk1 x1 ma1 cr1 e1 => ?_)
  have e1 : q0 ++ qr = q := by simpa using e1
  refine wpAny_bind (flush_ok (s := { s with heap := h1, toks := tk1 }) mods x1 ma1 cr1 (by rw [e1]; exact hn) (by rw [e1]; exact hl) fun main2 h2 tk2 x2 ma2 => ?_)
  rw [e1] at ma2
  cases main2 with
  | none => exact absurd ma2 hq
  | some d =>
    obtain ⟨d0, dsys, _, kvs, hd, hs⟩ := ma2
    exact wpAny_pure (h d kvs h2 tk2 d0 dsys x2 hd hs)
end

section
variable {c : Cx} {n : Nat} {r : Rec} {env : Env} {hid as : List Addr} {ρ : Rho} {A : Around} {s : Shared} {d : Dat} {μ : Mu}
theorem trD_pairs {pos : Pos} {ks : List (Option PySem.Expr)} {vs : List PySem.Expr} {kvs : List (Str × Str)} (t : TrD ks vs kvs) :
    ∃ ps, (evalEachOpt ks env).zip ((evalEach vs env).map fun v => do let x ← v; standAt pos; pure x) = ps.map (fun p => (some p.1, p.2)) ∧ CP c.M ps kvs := by
  induction t with
  | nil => exact ⟨[], rfl, .nil⟩
  | @cons k v k' v' n p n' p' ks vs kvs hk hv t ih =>
    obtain ⟨ps, e, cp⟩ := ih
    subst hk hv
    refine ⟨(eval (.Constant (.str _) n p) env, do let x ← eval (.Constant (.str _) n' p') env; standAt pos; pure x) :: ps, ?_, .cons (fun A s Q E q => wpAny_Constant_str q) (fun A s Q E q => wpAny_bind (wpAny_Constant_str (wpAny_bind (wpAny_standAt (wpAny_pure q))))) cp⟩
    rw [List.map_cons, ← e]
    rfl
theorem st_dictS (ok : c.Ok) {ks : List (Option PySem.Expr)} {vs : List PySem.Expr} {kvs : List (Str × Str)} {p : Pos} (t : TrD ks vs kvs) (hn : (kvs.map (·.1)).Nodup) (h0 : kvs ≠ []) (hl : kvs.length ≤ sizeLine)
    (e : stepE r (.dictS kvs) ρ = some (d, μ)) (i : Inv c env hid as ρ s.heap) : Go c.M A (eval (.Dict ks vs p) env) s (EvP c env hid as ρ μ s.heap d) := by
  dsimp only [stepE] at e
  cases e
  refine Go.of fun Q E hQ => ?_
  obtain ⟨ps, hs, cp⟩ := trD_pairs (c := c) (env := env) (pos := p) t
  rw [arm_eval_Dict, hs]
  refine wpAny_bind (wpAny_standAt (display_ok (fun h x => notMods ok (i.ext.trans x)) cp h0 hn hl fun d kvs' h' tk d0 dsys x hd sv => hQ _ _ tk ⟨i.grow x, x.keepB, ?_⟩))
  refine .dict (fun q => ?_) dsys hd sv.rep
  obtain ⟨o, e⟩ := i.alive d q
  rw [d0] at e; cases e
end
end Mine
end

section
open PySem PySem.W PyProof.Rows
set_option Elab.async false
set_option maxRecDepth 10000
namespace Mine
section
variable {c : Cx} {n : Nat} {r : Rec} {env : Env} {hid as : List Addr} {ρ : Rho} {A : Around} {s : Shared} {d : Dat} {μ : Mu}
theorem ev_step (ok : c.Ok) (S : Snd c n r) : EvOk c (n + 1) (step c.fs r) := by
  intro A env hid as e x ρ d μ s aok t ev i pt
  have aok := aok.le
  replace ev : stepE r x ρ = some (d, μ) := ev
  cases t with
  | int =>
    dsimp only [stepE] at ev; cases ev
    exact fun Q E hQ => wpAny_Constant_int (hQ _ _ _ (Nat.le_succ _) ⟨i, .refl, .int⟩)
  | str h =>
    subst h
    dsimp only [stepE] at ev; cases ev
    exact fun Q E hQ => wpAny_Constant_str (hQ _ _ _ (Nat.le_succ _) ⟨i, .refl, .str⟩)
  | bool =>
    dsimp only [stepE] at ev; cases ev
    exact fun Q E hQ => wpAny_Constant_bool (hQ _ s.heap s.toks (Nat.le_refl _) ⟨i, .refl, .bool⟩)
  | var nn =>
    dsimp only [stepE] at ev
    split at ev
    · rename_i z hz
      cases ev
      exact fun Q E hQ => load_var ok i nn hz fun v rv => hQ _ s.heap s.toks (Nat.le_refl _) ⟨i, .refl, rv⟩
    · cases ev
  | neg =>
    dsimp only [stepE] at ev; cases ev
    exact fun Q E hQ => wpAny_UnaryOp (wpAny_Constant_int (PyProof.Rows.neg_int (hQ _ _ _ (Nat.le_trans (Nat.le_succ _) (Nat.le_succ _)) ⟨i, .refl, .int⟩)))
  | bin ho ta tb => exact st_bin S aok ho ta tb ev i pt
  | cmp ho hb ta tb => exact st_cmp S aok ho hb ta tb ev i pt
  | btw ta tb tc => exact st_btw S aok ta tb tc ev i pt
  | ite tt ta tb => exact st_ite S aok tt ta tb ev i pt
  | list ts => exact st_list S aok ts ev i pt
  | tup ts => exact st_tup S aok ts ev i pt
  | dict0 => exact st_dict0 ok ev i
  | dictS t hn h0 hl => exact st_dictS ok t hn h0 (by rw [← lim_eq]; exact hl) ev i
  | idx hp ta tb => exact st_idx S aok hp ta tb ev i pt
  | slice ta tl th => exact st_slice S aok ta tl th ev i pt
  | call hn hk ts => exact st_call ok S aok hn hk ts ev i pt
  | callIO hn hk ow ts => exact st_callIO ok S aok hn hk ow ts ev i pt
  | fn hn hk sole ta => exact st_fn ok S aok hn hk sole ta ev i pt
  | m0 hn hb hl ta => exact st_m0 S aok hn hb hl ta ev i pt
  | m1 hn hb hl sole ta tb => exact st_m1 S aok hn hb hl sole ta tb ev i pt
  | replace hn hb hl hy hz ta =>
    subst hy hz
    exact st_replace S aok hn hb hl ta ev i pt
  | get hn hb hl s1 s2 ta tb tc => exact st_get S aok hn hb hl s1 s2 ta tb tc ev i pt
  | joinOwn hn hl hs ow =>
    subst hs
    exact join_own ok hn hl ow ev i
  | ownIdx ow hp ti => exact own_idx ok S aok ow hp ti ev i pt
  | ownPath ow hp hj ti tj => exact own_path ok S aok ow hp hj ti tj ev i pt
  | comp1 co hv hl is ti tts te => exact st_comp1 ok S aok co hv hl is ti tts te ev i pt
  | comp2 co hv hl hv2 hl2 hx is is2 ti ti2 tts te => exact st_comp2 ok S aok co hv hl hv2 hl2 hx is is2 ti ti2 tts te ev i pt

theorem snd_step (ok : c.Ok) (S : Snd c n r) (X : ExOk c n r) : Snd c (n + 1) (step c.fs r) where
  ev := ev_step ok S
  te := te_step S
  call := call_step ok X
  callIO := callIO_step ok X
  glob := fun {f ds m z} e => by
    replace e : stepC c.fs r f ds m = some z := e
    unfold stepC at e
    split at e
    · rename_i d hd
      obtain ⟨fa, o, _, _, _, _, _, _, _, F⟩ := ok.funs f d hd
      exact ⟨fa, o, _, F.glob, F.obj, F.data⟩
    · cases e
  lit := fun {t ρ d μ} e => by
    replace e : stepE r (.str t) ρ = some (d, μ) := e
    cases e
    exact ⟨rfl, rfl⟩

theorem sound (ok : c.Ok) : ∀ n, Snd c n (run c.fs n) ∧ ExOk c n (run c.fs n)
  | 0 => by
    refine ⟨⟨?_, ?_, ?_, ?_, ?_, ?_⟩, ?_⟩
    · intro A env hid as e x ρ d μ s _ _ h; cases h
    · intro A env hid as e x ρ d μ s _ _ h; cases h
    · intro A hid f ds vs d s fa _ h; cases h
    · intro A hid as f ds vs d s fa a m m' _ h; cases h
    · intro f ds m z h; cases h
    · intro t ρ d μ h; cases h
    · intro A env hid as e x ρ ρ' fl s _ _ h; cases h
  | n + 1 => by
    obtain ⟨S, X⟩ := sound ok n
    exact ⟨snd_step ok S X, ex_step ok S X⟩
end
end Mine
end

section
open PySem PySem.W PyProof.Rows
set_option Elab.async false
set_option maxRecDepth 100000
namespace Mine
noncomputable def names : List Str := [⟨#[105, 115, 95, 108, 111, 119, 101, 114]⟩, ⟨#[105, 115, 95, 100, 105, 103, 105, 116]⟩, ⟨#[100, 105, 103, 105, 116, 95, 118, 97, 108, 117, 101]⟩, ⟨#[114, 111, 119, 95, 111, 102]⟩, ⟨#[116, 101, 120, 116, 95, 111, 102]⟩, ⟨#[110, 97, 109, 101, 115, 95, 111, 102]⟩, ⟨#[110, 97, 109, 101, 100, 95, 116, 101, 120, 116]⟩, ⟨#[108, 111, 110, 103, 101, 115, 116]⟩, ⟨#[95, 108, 97, 119, 95, 100, 105, 103, 105, 116]⟩, ⟨#[95, 108, 97, 119, 95, 112, 105, 99, 107]⟩, ⟨#[95, 108, 97, 119, 95, 108, 97, 116, 105, 110]⟩, ⟨#[95, 108, 97, 119, 95, 103, 114, 101, 101, 107]⟩, ⟨#[95, 108, 97, 119, 95, 98, 108, 111, 99, 107, 115]⟩, ⟨#[95, 108, 97, 119, 95, 112, 97, 105, 114, 115]⟩, ⟨#[95, 108, 97, 119, 95, 108, 101, 116, 116, 101, 114, 115]⟩, ⟨#[95, 108, 97, 119, 95, 116, 97, 98, 108, 101]⟩, ⟨#[95, 108, 97, 119, 95, 99, 97, 115, 101]⟩, ⟨#[95, 108, 97, 119, 95, 105, 115, 95, 114, 101, 97, 100]⟩, ⟨#[108, 97, 119]⟩, ⟨#[99]⟩, ⟨#[114, 111, 119, 115]⟩, ⟨#[102, 105, 114, 115, 116]⟩, ⟨#[111, 117, 116]⟩, ⟨#[99, 111, 100, 101]⟩, ⟨#[99, 111, 100, 101, 115]⟩, ⟨#[110, 117, 109, 98, 101, 114]⟩, ⟨#[102, 111, 117, 110, 100]⟩, ⟨#[114, 111, 119]⟩, ⟨#[112, 97, 114, 116, 115]⟩, ⟨#[110, 97, 109, 101]⟩, ⟨#[97, 104, 101, 97, 100]⟩, ⟨#[115, 105, 103, 110, 115]⟩, ⟨#[97, 116]⟩, ⟨#[105, 115, 95, 99, 108, 111, 115, 101, 100]⟩, ⟨#[98, 101, 115, 116]⟩, ⟨#[112, 108, 97, 99, 101]⟩, ⟨#[115, 99, 114, 105, 112, 116]⟩, ⟨#[111, 110, 101]⟩, ⟨#[109, 97, 110, 121]⟩, ⟨#[119, 111, 114, 100, 115]⟩, ⟨#[103, 114, 101, 97, 116]⟩, ⟨#[115, 109, 97, 108, 108]⟩, ⟨#[112, 97, 105, 114, 115]⟩, ⟨#[119, 111, 114, 100]⟩, ⟨#[107]⟩, ⟨#[116, 97, 98, 108, 101]⟩, ⟨#[108, 101, 116, 116, 101, 114]⟩, ⟨#[116, 101, 120, 116]⟩, ⟨#[100, 105, 103, 105, 116]⟩, ⟨#[110, 97, 109, 101, 115]⟩, ⟨#[119, 97, 121]⟩, ⟨#[116, 97, 105, 108]⟩, ⟨#[111, 116, 104, 101, 114]⟩, ⟨#[116, 117, 114, 110, 101, 100]⟩, ⟨#[109, 97, 100, 101]⟩, ⟨#[107, 110, 111, 119, 110]⟩, ⟨#[109, 111, 115, 116]⟩, ⟨#[108, 111, 110, 103, 101, 114]⟩, ⟨#[101, 97, 99, 104]⟩, ⟨#[115, 105, 103, 110]⟩, ⟨#[108, 101, 116, 116, 101, 114, 115]⟩, ⟨#[104, 101, 97, 100]⟩, ⟨#[111, 116, 104, 101, 114, 115]⟩]
-- 0 is_lower, 1 is_digit, 2 digit_value, 3 row_of, 4 text_of, 5 names_of, 6 named_text, 7 longest, 8 _law_digit, 9 _law_pick, 10 _law_latin, 11 _law_greek, 12 _law_blocks, 13 _law_pairs, 14 _law_letters, 15 _law_table, 16 _law_case, 17 _law_is_read, 18 law, 19 c, 20 rows, 21 first, 22 out, 23 code, 24 codes, 25 number, 26 found, 27 row, 28 parts, 29 name, 30 ahead, 31 signs, 32 at, 33 is_closed, 34 best, 35 place, 36 script, 37 one, 38 many, 39 words, 40 great, 41 small, 42 pairs, 43 word, 44 k, 45 table, 46 letter, 47 text, 48 digit, 49 names, 50 way, 51 tail, 52 other, 53 turned, 54 made, 55 known, 56 most, 57 longer, 58 each, 59 sign, 60 letters, 61 head, 62 others
noncomputable def d_is_lower : FDef := ⟨[19], [
    .ret (.btw (.str ⟨#[97]⟩) (.var 19) (.str ⟨#[122]⟩))]⟩
noncomputable def d_is_digit : FDef := ⟨[19], [
    .ret (.btw (.str ⟨#[48]⟩) (.var 19) (.str ⟨#[57]⟩))]⟩
noncomputable def d_digit_value : FDef := ⟨[19], [
    .ite (.val (.call 1 [(.var 19)])) [.ret (.bin .sub (.fn .ord (.var 19)) (.int 48))] [], 
    .ite (.val (.call 0 [(.var 19)])) [.ret (.bin .add (.bin .sub (.fn .ord (.var 19)) (.int 97)) (.int 10))] [], 
    .ret (.bin .add (.bin .sub (.fn .ord (.var 19)) (.int 65)) (.int 10))]⟩
noncomputable def d_row_of : FDef := ⟨[21], [
    .assign 20 (.dictS [(⟨#[65]⟩, ⟨#[65, 69, 108, 105, 103, 59, 61, 67, 54, 32, 65, 69, 108, 105, 103, 61, 67, 54, 32, 65, 77, 80, 59, 61, 50, 54, 32, 65, 77, 80, 61, 50, 54, 32, 65, 97, 99, 117, 116, 101, 59, 61, 67, 49, 32, 65, 97, 99, 117, 116, 101, 61, 67, 49, 32, 65, 99, 105, 114, 99, 59, 61, 67, 50, 32, 65, 99, 105, 114, 99, 61, 67, 50, 32, 65, 103, 114, 97, 118, 101, 59, 61, 67, 48, 32, 65, 103, 114, 97, 118, 101, 61, 67, 48, 32, 65, 114, 105, 110, 103, 59, 61, 67, 53, 32, 65, 114, 105, 110, 103, 61, 67, 53, 32, 65, 116, 105, 108, 100, 101, 59, 61, 67, 51, 32, 65, 116, 105, 108, 100, 101, 61, 67, 51, 32, 65, 117, 109, 108, 59, 61, 67, 52, 32, 65, 117, 109, 108, 61, 67, 52, 32, 65, 108, 112, 104, 97, 59, 61, 51, 57, 49, 32, 65, 111, 103, 111, 110, 59, 61, 49, 48, 52, 32, 65, 111, 112, 102, 59, 61, 49, 68, 53, 51, 56]⟩), (⟨#[66]⟩, ⟨#[66, 101, 116, 97, 59, 61, 51, 57, 50, 32, 66, 102, 114, 59, 61, 49, 68, 53, 48, 53]⟩), (⟨#[67]⟩, ⟨#[67, 79, 80, 89, 59, 61, 65, 57, 32, 67, 79, 80, 89, 61, 65, 57, 32, 67, 99, 101, 100, 105, 108, 59, 61, 67, 55, 32, 67, 99, 101, 100, 105, 108, 61, 67, 55, 32, 67, 99, 97, 114, 111, 110, 59, 61, 49, 48, 67, 32, 67, 101, 100, 105, 108, 108, 97, 59, 61, 66, 56, 32, 67, 104, 105, 59, 61, 51, 65, 55, 32, 67, 111, 112, 102, 59, 61, 50, 49, 48, 50, 32, 67, 111, 117, 110, 116, 101, 114, 67, 108, 111, 99, 107, 119, 105, 115, 101, 67, 111, 110, 116, 111, 117, 114, 73, 110, 116, 101, 103, 114, 97, 108, 59, 61, 50, 50, 51, 51]⟩), (⟨#[68]⟩, ⟨#[68, 97, 103, 103, 101, 114, 59, 61, 50, 48, 50, 49, 32, 68, 101, 108, 116, 97, 59, 61, 51, 57, 52, 32, 68, 105, 97, 99, 114, 105, 116, 105, 99, 97, 108, 71, 114, 97, 118, 101, 59, 61, 54, 48, 32, 68, 111, 116, 59, 61, 65, 56]⟩), (⟨#[69]⟩, ⟨#[69, 84, 72, 59, 61, 68, 48, 32, 69, 84, 72, 61, 68, 48, 32, 69, 97, 99, 117, 116, 101, 59, 61, 67, 57, 32, 69, 97, 99, 117, 116, 101, 61, 67, 57, 32, 69, 99, 105, 114, 99, 59, 61, 67, 65, 32, 69, 99, 105, 114, 99, 61, 67, 65, 32, 69, 103, 114, 97, 118, 101, 59, 61, 67, 56, 32, 69, 103, 114, 97, 118, 101, 61, 67, 56, 32, 69, 117, 109, 108, 59, 61, 67, 66, 32, 69, 117, 109, 108, 61, 67, 66, 32, 69, 78, 71, 59, 61, 49, 52, 65, 32, 69, 112, 115, 105, 108, 111, 110, 59, 61, 51, 57, 53, 32, 69, 116, 97, 59, 61, 51, 57, 55]⟩), (⟨#[70]⟩, ⟨#[70, 111, 114, 65, 108, 108, 59, 61, 50, 50, 48, 48]⟩), (⟨#[71]⟩, ⟨#[71, 84, 59, 61, 51, 69, 32, 71, 84, 61, 51, 69, 32, 71, 97, 109, 109, 97, 59, 61, 51, 57, 51, 32, 71, 103, 59, 61, 50, 50, 68, 57, 32, 71, 116, 59, 61, 50, 50, 54, 66]⟩), (⟨#[72]⟩, ⟨#[72, 97, 116, 59, 61, 53, 69, 32, 72, 111, 112, 102, 59, 61, 50, 49, 48, 68]⟩), (⟨#[73]⟩, ⟨#[73, 97, 99, 117, 116, 101, 59, 61, 67, 68, 32, 73, 97, 99, 117, 116, 101, 61, 67, 68, 32, 73, 99, 105, 114, 99, 59, 61, 67, 69, 32, 73, 99, 105, 114, 99, 61, 67, 69, 32, 73, 103, 114, 97, 118, 101, 59, 61, 67, 67, 32, 73, 103, 114, 97, 118, 101, 61, 67, 67, 32, 73, 117, 109, 108, 59, 61, 67, 70, 32, 73, 117, 109, 108, 61, 67, 70, 32, 73, 100, 111, 116, 59, 61, 49, 51, 48, 32, 73, 110, 116, 101, 103, 114, 97, 108, 59, 61, 50, 50, 50, 66, 32, 73, 111, 116, 97, 59, 61, 51, 57, 57]⟩), (⟨#[74]⟩, ⟨#[74, 99, 105, 114, 99, 59, 61, 49, 51, 52]⟩), (⟨#[75]⟩, ⟨#[75, 97, 112, 112, 97, 59, 61, 51, 57, 65]⟩), (⟨#[76]⟩, ⟨#[76, 84, 59, 61, 51, 67, 32, 76, 84, 61, 51, 67, 32, 76, 97, 109, 98, 100, 97, 59, 61, 51, 57, 66, 32, 76, 115, 116, 114, 111, 107, 59, 61, 49, 52, 49, 32, 76, 116, 59, 61, 50, 50, 54, 65]⟩), (⟨#[77]⟩, ⟨#[77, 117, 59, 61, 51, 57, 67]⟩), (⟨#[78]⟩, ⟨#[78, 116, 105, 108, 100, 101, 59, 61, 68, 49, 32, 78, 116, 105, 108, 100, 101, 61, 68, 49, 32, 78, 101, 119, 76, 105, 110, 101, 59, 61, 65, 32, 78, 111, 110, 66, 114, 101, 97, 107, 105, 110, 103, 83, 112, 97, 99, 101, 59, 61, 65, 48, 32, 78, 111, 112, 102, 59, 61, 50, 49, 49, 53, 32, 78, 111, 116, 59, 61, 50, 65, 69, 67, 32, 78, 111, 116, 69, 113, 117, 97, 108, 84, 105, 108, 100, 101, 59, 61, 50, 50, 52, 50, 44, 51, 51, 56, 32, 78, 117, 59, 61, 51, 57, 68]⟩), (⟨#[79]⟩, ⟨#[79, 97, 99, 117, 116, 101, 59, 61, 68, 51, 32, 79, 97, 99, 117, 116, 101, 61, 68, 51, 32, 79, 99, 105, 114, 99, 59, 61, 68, 52, 32, 79, 99, 105, 114, 99, 61, 68, 52, 32, 79, 103, 114, 97, 118, 101, 59, 61, 68, 50, 32, 79, 103, 114, 97, 118, 101, 61, 68, 50, 32, 79, 115, 108, 97, 115, 104, 59, 61, 68, 56, 32, 79, 115, 108, 97, 115, 104, 61, 68, 56, 32, 79, 116, 105, 108, 100, 101, 59, 61, 68, 53, 32, 79, 116, 105, 108, 100, 101, 61, 68, 53, 32, 79, 117, 109, 108, 59, 61, 68, 54, 32, 79, 117, 109, 108, 61, 68, 54, 32, 79, 69, 108, 105, 103, 59, 61, 49, 53, 50, 32, 79, 100, 98, 108, 97, 99, 59, 61, 49, 53, 48, 32, 79, 109, 101, 103, 97, 59, 61, 51, 65, 57, 32, 79, 109, 105, 99, 114, 111, 110, 59, 61, 51, 57, 70]⟩), (⟨#[80]⟩, ⟨#[80, 104, 105, 59, 61, 51, 65, 54, 32, 80, 105, 59, 61, 51, 65, 48, 32, 80, 108, 117, 115, 77, 105, 110, 117, 115, 59, 61, 66, 49, 32, 80, 114, 105, 109, 101, 59, 61, 50, 48, 51, 51, 32, 80, 115, 105, 59, 61, 51, 65, 56]⟩), (⟨#[81]⟩, ⟨#[81, 85, 79, 84, 59, 61, 50, 50, 32, 81, 85, 79, 84, 61, 50, 50, 32, 81, 111, 112, 102, 59, 61, 50, 49, 49, 65]⟩), (⟨#[82]⟩, ⟨#[82, 69, 71, 59, 61, 65, 69, 32, 82, 69, 71, 61, 65, 69, 32, 82, 101, 59, 61, 50, 49, 49, 67, 32, 82, 104, 111, 59, 61, 51, 65, 49, 32, 82, 111, 112, 102, 59, 61, 50, 49, 49, 68]⟩), (⟨#[83]⟩, ⟨#[83, 99, 97, 114, 111, 110, 59, 61, 49, 54, 48, 32, 83, 99, 101, 100, 105, 108, 59, 61, 49, 53, 69, 32, 83, 105, 103, 109, 97, 59, 61, 51, 65, 51, 32, 83, 113, 114, 116, 59, 61, 50, 50, 49, 65]⟩), (⟨#[84]⟩, ⟨#[84, 72, 79, 82, 78, 59, 61, 68, 69, 32, 84, 72, 79, 82, 78, 61, 68, 69, 32, 84, 97, 98, 59, 61, 57, 32, 84, 97, 117, 59, 61, 51, 65, 52, 32, 84, 104, 101, 116, 97, 59, 61, 51, 57, 56, 32, 84, 104, 105, 99, 107, 83, 112, 97, 99, 101, 59, 61, 50, 48, 53, 70, 44, 50, 48, 48, 65]⟩), (⟨#[85]⟩, ⟨#[85, 97, 99, 117, 116, 101, 59, 61, 68, 65, 32, 85, 97, 99, 117, 116, 101, 61, 68, 65, 32, 85, 99, 105, 114, 99, 59, 61, 68, 66, 32, 85, 99, 105, 114, 99, 61, 68, 66, 32, 85, 103, 114, 97, 118, 101, 59, 61, 68, 57, 32, 85, 103, 114, 97, 118, 101, 61, 68, 57, 32, 85, 117, 109, 108, 59, 61, 68, 67, 32, 85, 117, 109, 108, 61, 68, 67, 32, 85, 110, 100, 101, 114, 66, 97, 114, 59, 61, 53, 70, 32, 85, 112, 115, 105, 108, 111, 110, 59, 61, 51, 65, 53]⟩), (⟨#[86]⟩, ⟨#[86, 101, 114, 116, 59, 61, 50, 48, 49, 54, 32, 86, 101, 114, 116, 105, 99, 97, 108, 76, 105, 110, 101, 59, 61, 55, 67]⟩), (⟨#[87]⟩, ⟨#[87, 101, 100, 103, 101, 59, 61, 50, 50, 67, 48]⟩), (⟨#[88]⟩, ⟨#[88, 105, 59, 61, 51, 57, 69]⟩), (⟨#[89]⟩, ⟨#[89, 97, 99, 117, 116, 101, 59, 61, 68, 68, 32, 89, 97, 99, 117, 116, 101, 61, 68, 68, 32, 89, 117, 109, 108, 59, 61, 49, 55, 56]⟩), (⟨#[90]⟩, ⟨#[90, 99, 97, 114, 111, 110, 59, 61, 49, 55, 68, 32, 90, 101, 116, 97, 59, 61, 51, 57, 54, 32, 90, 111, 112, 102, 59, 61, 50, 49, 50, 52]⟩), (⟨#[97]⟩, ⟨#[97, 97, 99, 117, 116, 101, 59, 61, 69, 49, 32, 97, 97, 99, 117, 116, 101, 61, 69, 49, 32, 97, 99, 105, 114, 99, 59, 61, 69, 50, 32, 97, 99, 105, 114, 99, 61, 69, 50, 32, 97, 99, 117, 116, 101, 59, 61, 66, 52, 32, 97, 99, 117, 116, 101, 61, 66, 52, 32, 97, 101, 108, 105, 103, 59, 61, 69, 54, 32, 97, 101, 108, 105, 103, 61, 69, 54, 32, 97, 103, 114, 97, 118, 101, 59, 61, 69, 48, 32, 97, 103, 114, 97, 118, 101, 61, 69, 48, 32, 97, 109, 112, 59, 61, 50, 54, 32, 97, 109, 112, 61, 50, 54, 32, 97, 114, 105, 110, 103, 59, 61, 69, 53, 32, 97, 114, 105, 110, 103, 61, 69, 53, 32, 97, 116, 105, 108, 100, 101, 59, 61, 69, 51, 32, 97, 116, 105, 108, 100, 101, 61, 69, 51, 32, 97, 117, 109, 108, 59, 61, 69, 52, 32, 97, 117, 109, 108, 61, 69, 52, 32, 97, 99, 69, 59, 61, 50, 50, 51, 69, 44, 51, 51, 51, 32, 97, 108, 101, 102, 115, 121, 109, 59, 61, 50, 49, 51, 53, 32, 97, 108, 112, 104, 97, 59, 61, 51, 66, 49, 32, 97, 110, 100, 59, 61, 50, 50, 50, 55, 32, 97, 110, 103, 59, 61, 50, 50, 50, 48, 32, 97, 110, 103, 115, 116, 59, 61, 67, 53, 32, 97, 111, 103, 111, 110, 59, 61, 49, 48, 53, 32, 97, 112, 111, 115, 59, 61, 50, 55, 32, 97, 115, 116, 59, 61, 50, 65, 32, 97, 115, 121, 109, 112, 59, 61, 50, 50, 52, 56]⟩), (⟨#[98]⟩, ⟨#[98, 114, 118, 98, 97, 114, 59, 61, 65, 54, 32, 98, 114, 118, 98, 97, 114, 61, 65, 54, 32, 98, 100, 113, 117, 111, 59, 61, 50, 48, 49, 69, 32, 98, 101, 116, 97, 59, 61, 51, 66, 50, 32, 98, 110, 101, 59, 61, 51, 68, 44, 50, 48, 69, 53, 32, 98, 115, 111, 108, 59, 61, 53, 67, 32, 98, 117, 108, 108, 59, 61, 50, 48, 50, 50]⟩), (⟨#[99]⟩, ⟨#[99, 99, 101, 100, 105, 108, 59, 61, 69, 55, 32, 99, 99, 101, 100, 105, 108, 61, 69, 55, 32, 99, 101, 100, 105, 108, 59, 61, 66, 56, 32, 99, 101, 100, 105, 108, 61, 66, 56, 32, 99, 101, 110, 116, 59, 61, 65, 50, 32, 99, 101, 110, 116, 61, 65, 50, 32, 99, 111, 112, 121, 59, 61, 65, 57, 32, 99, 111, 112, 121, 61, 65, 57, 32, 99, 117, 114, 114, 101, 110, 59, 61, 65, 52, 32, 99, 117, 114, 114, 101, 110, 61, 65, 52, 32, 99, 97, 112, 59, 61, 50, 50, 50, 57, 32, 99, 97, 112, 115, 59, 61, 50, 50, 50, 57, 44, 70, 69, 48, 48, 32, 99, 99, 97, 114, 111, 110, 59, 61, 49, 48, 68, 32, 99, 101, 110, 116, 101, 114, 100, 111, 116, 59, 61, 66, 55, 32, 99, 104, 105, 59, 61, 51, 67, 55, 32, 99, 105, 114, 99, 59, 61, 50, 67, 54, 32, 99, 108, 117, 98, 115, 59, 61, 50, 54, 54, 51, 32, 99, 111, 108, 111, 110, 59, 61, 51, 65, 32, 99, 111, 109, 109, 97, 59, 61, 50, 67, 32, 99, 111, 109, 109, 97, 116, 59, 61, 52, 48, 32, 99, 111, 110, 103, 59, 61, 50, 50, 52, 53, 32, 99, 111, 112, 121, 115, 114, 59, 61, 50, 49, 49, 55, 32, 99, 114, 97, 114, 114, 59, 61, 50, 49, 66, 53, 32, 99, 117, 112, 59, 61, 50, 50, 50, 65]⟩), (⟨#[100]⟩, ⟨#[100, 101, 103, 59, 61, 66, 48, 32, 100, 101, 103, 61, 66, 48, 32, 100, 105, 118, 105, 100, 101, 59, 61, 70, 55, 32, 100, 105, 118, 105, 100, 101, 61, 70, 55, 32, 100, 65, 114, 114, 59, 61, 50, 49, 68, 51, 32, 100, 97, 103, 103, 101, 114, 59, 61, 50, 48, 50, 48, 32, 100, 97, 114, 114, 59, 61, 50, 49, 57, 51, 32, 100, 101, 108, 116, 97, 59, 61, 51, 66, 52, 32, 100, 105, 97, 109, 115, 59, 61, 50, 54, 54, 54, 32, 100, 105, 118, 59, 61, 70, 55, 32, 100, 105, 118, 105, 100, 101, 111, 110, 116, 105, 109, 101, 115, 59, 61, 50, 50, 67, 55, 32, 100, 111, 108, 108, 97, 114, 59, 61, 50, 52]⟩), (⟨#[101]⟩, ⟨#[101, 97, 99, 117, 116, 101, 59, 61, 69, 57, 32, 101, 97, 99, 117, 116, 101, 61, 69, 57, 32, 101, 99, 105, 114, 99, 59, 61, 69, 65, 32, 101, 99, 105, 114, 99, 61, 69, 65, 32, 101, 103, 114, 97, 118, 101, 59, 61, 69, 56, 32, 101, 103, 114, 97, 118, 101, 61, 69, 56, 32, 101, 116, 104, 59, 61, 70, 48, 32, 101, 116, 104, 61, 70, 48, 32, 101, 117, 109, 108, 59, 61, 69, 66, 32, 101, 117, 109, 108, 61, 69, 66, 32, 101, 109, 112, 116, 121, 59, 61, 50, 50, 48, 53, 32, 101, 109, 115, 112, 59, 61, 50, 48, 48, 51, 32, 101, 109, 115, 112, 49, 51, 59, 61, 50, 48, 48, 52, 32, 101, 109, 115, 112, 49, 52, 59, 61, 50, 48, 48, 53, 32, 101, 110, 103, 59, 61, 49, 52, 66, 32, 101, 110, 115, 112, 59, 61, 50, 48, 48, 50, 32, 101, 112, 115, 105, 108, 111, 110, 59, 61, 51, 66, 53, 32, 101, 113, 117, 97, 108, 115, 59, 61, 51, 68, 32, 101, 113, 117, 105, 118, 59, 61, 50, 50, 54, 49, 32, 101, 116, 97, 59, 61, 51, 66, 55, 32, 101, 117, 114, 111, 59, 61, 50, 48, 65, 67, 32, 101, 120, 99, 108, 59, 61, 50, 49, 32, 101, 120, 105, 115, 116, 59, 61, 50, 50, 48, 51]⟩), (⟨#[102]⟩, ⟨#[102, 114, 97, 99, 49, 50, 59, 61, 66, 68, 32, 102, 114, 97, 99, 49, 50, 61, 66, 68, 32, 102, 114, 97, 99, 49, 52, 59, 61, 66, 67, 32, 102, 114, 97, 99, 49, 52, 61, 66, 67, 32, 102, 114, 97, 99, 51, 52, 59, 61, 66, 69, 32, 102, 114, 97, 99, 51, 52, 61, 66, 69, 32, 102, 105, 108, 105, 103, 59, 61, 70, 66, 48, 49, 32, 102, 106, 108, 105, 103, 59, 61, 54, 54, 44, 54, 65, 32, 102, 110, 111, 102, 59, 61, 49, 57, 50, 32, 102, 111, 114, 97, 108, 108, 59, 61, 50, 50, 48, 48, 32, 102, 114, 97, 99, 49, 51, 59, 61, 50, 49, 53, 51, 32, 102, 114, 97, 115, 108, 59, 61, 50, 48, 52, 52]⟩), (⟨#[103]⟩, ⟨#[103, 116, 59, 61, 51, 69, 32, 103, 116, 61, 51, 69, 32, 103, 97, 109, 109, 97, 59, 61, 51, 66, 51, 32, 103, 101, 59, 61, 50, 50, 54, 53, 32, 103, 114, 97, 118, 101, 59, 61, 54, 48, 32, 103, 116, 99, 99, 59, 61, 50, 65, 65, 55, 32, 103, 116, 100, 111, 116, 59, 61, 50, 50, 68, 55, 32, 103, 116, 114, 115, 105, 109, 59, 61, 50, 50, 55, 51, 32, 103, 118, 110, 69, 59, 61, 50, 50, 54, 57, 44, 70, 69, 48, 48]⟩), (⟨#[104]⟩, ⟨#[104, 65, 114, 114, 59, 61, 50, 49, 68, 52, 32, 104, 97, 108, 102, 59, 61, 66, 68, 32, 104, 97, 114, 114, 59, 61, 50, 49, 57, 52, 32, 104, 101, 97, 114, 116, 115, 59, 61, 50, 54, 54, 53, 32, 104, 101, 108, 108, 105, 112, 59, 61, 50, 48, 50, 54]⟩), (⟨#[105]⟩, ⟨#[105, 97, 99, 117, 116, 101, 59, 61, 69, 68, 32, 105, 97, 99, 117, 116, 101, 61, 69, 68, 32, 105, 99, 105, 114, 99, 59, 61, 69, 69, 32, 105, 99, 105, 114, 99, 61, 69, 69, 32, 105, 101, 120, 99, 108, 59, 61, 65, 49, 32, 105, 101, 120, 99, 108, 61, 65, 49, 32, 105, 103, 114, 97, 118, 101, 59, 61, 69, 67, 32, 105, 103, 114, 97, 118, 101, 61, 69, 67, 32, 105, 113, 117, 101, 115, 116, 59, 61, 66, 70, 32, 105, 113, 117, 101, 115, 116, 61, 66, 70, 32, 105, 117, 109, 108, 59, 61, 69, 70, 32, 105, 117, 109, 108, 61, 69, 70, 32, 105, 109, 97, 103, 101, 59, 61, 50, 49, 49, 49, 32, 105, 110, 59, 61, 50, 50, 48, 56, 32, 105, 110, 102, 105, 110, 59, 61, 50, 50, 49, 69, 32, 105, 110, 111, 100, 111, 116, 59, 61, 49, 51, 49, 32, 105, 110, 116, 59, 61, 50, 50, 50, 66, 32, 105, 111, 116, 97, 59, 61, 51, 66, 57, 32, 105, 115, 105, 110, 59, 61, 50, 50, 48, 56]⟩), (⟨#[106]⟩, ⟨#[106, 99, 105, 114, 99, 59, 61, 49, 51, 53]⟩), (⟨#[107]⟩, ⟨#[107, 97, 112, 112, 97, 59, 61, 51, 66, 65, 32, 107, 103, 114, 101, 101, 110, 59, 61, 49, 51, 56]⟩), (⟨#[108]⟩, ⟨#[108, 97, 113, 117, 111, 59, 61, 65, 66, 32, 108, 97, 113, 117, 111, 61, 65, 66, 32, 108, 116, 59, 61, 51, 67, 32, 108, 116, 61, 51, 67, 32, 108, 65, 114, 114, 59, 61, 50, 49, 68, 48, 32, 108, 97, 109, 98, 100, 97, 59, 61, 51, 66, 66, 32, 108, 97, 110, 103, 59, 61, 50, 55, 69, 56, 32, 108, 97, 114, 114, 59, 61, 50, 49, 57, 48, 32, 108, 98, 114, 97, 99, 101, 59, 61, 55, 66, 32, 108, 98, 114, 97, 99, 107, 59, 61, 53, 66, 32, 108, 99, 101, 105, 108, 59, 61, 50, 51, 48, 56, 32, 108, 99, 117, 98, 59, 61, 55, 66, 32, 108, 100, 113, 117, 111, 59, 61, 50, 48, 49, 67, 32, 108, 101, 59, 61, 50, 50, 54, 52, 32, 108, 102, 108, 111, 111, 114, 59, 61, 50, 51, 48, 65, 32, 108, 111, 119, 97, 115, 116, 59, 61, 50, 50, 49, 55, 32, 108, 111, 119, 98, 97, 114, 59, 61, 53, 70, 32, 108, 111, 122, 59, 61, 50, 53, 67, 65, 32, 108, 112, 97, 114, 59, 61, 50, 56, 32, 108, 114, 109, 59, 61, 50, 48, 48, 69, 32, 108, 115, 97, 113, 117, 111, 59, 61, 50, 48, 51, 57, 32, 108, 115, 113, 98, 59, 61, 53, 66, 32, 108, 115, 113, 117, 111, 59, 61, 50, 48, 49, 56, 32, 108, 115, 116, 114, 111, 107, 59, 61, 49, 52, 50, 32, 108, 116, 99, 99, 59, 61, 50, 65, 65, 54, 32, 108, 116, 100, 111, 116, 59, 61, 50, 50, 68, 54, 32, 108, 116, 105, 109, 101, 115, 59, 61, 50, 50, 67, 57, 32, 108, 118, 110, 69, 59, 61, 50, 50, 54, 56, 44, 70, 69, 48, 48]⟩), (⟨#[109]⟩, ⟨#[109, 97, 99, 114, 59, 61, 65, 70, 32, 109, 97, 99, 114, 61, 65, 70, 32, 109, 105, 99, 114, 111, 59, 61, 66, 53, 32, 109, 105, 99, 114, 111, 61, 66, 53, 32, 109, 105, 100, 100, 111, 116, 59, 61, 66, 55, 32, 109, 105, 100, 100, 111, 116, 61, 66, 55, 32, 109, 100, 97, 115, 104, 59, 61, 50, 48, 49, 52, 32, 109, 105, 100, 97, 115, 116, 59, 61, 50, 65, 32, 109, 105, 110, 117, 115, 59, 61, 50, 50, 49, 50, 32, 109, 117, 59, 61, 51, 66, 67]⟩), (⟨#[110]⟩, ⟨#[110, 98, 115, 112, 59, 61, 65, 48, 32, 110, 98, 115, 112, 61, 65, 48, 32, 110, 111, 116, 59, 61, 65, 67, 32, 110, 111, 116, 61, 65, 67, 32, 110, 116, 105, 108, 100, 101, 59, 61, 70, 49, 32, 110, 116, 105, 108, 100, 101, 61, 70, 49, 32, 110, 76, 116, 59, 61, 50, 50, 54, 65, 44, 50, 48, 68, 50, 32, 110, 97, 98, 108, 97, 59, 61, 50, 50, 48, 55, 32, 110, 100, 97, 115, 104, 59, 61, 50, 48, 49, 51, 32, 110, 101, 59, 61, 50, 50, 54, 48, 32, 110, 105, 59, 61, 50, 50, 48, 66, 32, 110, 111, 116, 105, 110, 59, 61, 50, 50, 48, 57, 32, 110, 111, 116, 105, 110, 69, 59, 61, 50, 50, 70, 57, 44, 51, 51, 56, 32, 110, 111, 116, 110, 105, 59, 61, 50, 50, 48, 67, 32, 110, 115, 117, 98, 59, 61, 50, 50, 56, 52, 32, 110, 117, 59, 61, 51, 66, 68, 32, 110, 117, 109, 59, 61, 50, 51, 32, 110, 118, 108, 116, 59, 61, 51, 67, 44, 50, 48, 68, 50]⟩), (⟨#[111]⟩, ⟨#[111, 97, 99, 117, 116, 101, 59, 61, 70, 51, 32, 111, 97, 99, 117, 116, 101, 61, 70, 51, 32, 111, 99, 105, 114, 99, 59, 61, 70, 52, 32, 111, 99, 105, 114, 99, 61, 70, 52, 32, 111, 103, 114, 97, 118, 101, 59, 61, 70, 50, 32, 111, 103, 114, 97, 118, 101, 61, 70, 50, 32, 111, 114, 100, 102, 59, 61, 65, 65, 32, 111, 114, 100, 102, 61, 65, 65, 32, 111, 114, 100, 109, 59, 61, 66, 65, 32, 111, 114, 100, 109, 61, 66, 65, 32, 111, 115, 108, 97, 115, 104, 59, 61, 70, 56, 32, 111, 115, 108, 97, 115, 104, 61, 70, 56, 32, 111, 116, 105, 108, 100, 101, 59, 61, 70, 53, 32, 111, 116, 105, 108, 100, 101, 61, 70, 53, 32, 111, 117, 109, 108, 59, 61, 70, 54, 32, 111, 117, 109, 108, 61, 70, 54, 32, 111, 100, 98, 108, 97, 99, 59, 61, 49, 53, 49, 32, 111, 101, 108, 105, 103, 59, 61, 49, 53, 51, 32, 111, 108, 105, 110, 101, 59, 61, 50, 48, 51, 69, 32, 111, 109, 101, 103, 97, 59, 61, 51, 67, 57, 32, 111, 109, 105, 99, 114, 111, 110, 59, 61, 51, 66, 70, 32, 111, 112, 108, 117, 115, 59, 61, 50, 50, 57, 53, 32, 111, 114, 59, 61, 50, 50, 50, 56, 32, 111, 114, 100, 101, 114, 59, 61, 50, 49, 51, 52, 32, 111, 116, 105, 109, 101, 115, 59, 61, 50, 50, 57, 55]⟩), (⟨#[112]⟩, ⟨#[112, 97, 114, 97, 59, 61, 66, 54, 32, 112, 97, 114, 97, 61, 66, 54, 32, 112, 108, 117, 115, 109, 110, 59, 61, 66, 49, 32, 112, 108, 117, 115, 109, 110, 61, 66, 49, 32, 112, 111, 117, 110, 100, 59, 61, 65, 51, 32, 112, 111, 117, 110, 100, 61, 65, 51, 32, 112, 97, 114, 97, 108, 108, 101, 108, 59, 61, 50, 50, 50, 53, 32, 112, 97, 114, 116, 59, 61, 50, 50, 48, 50, 32, 112, 101, 114, 99, 110, 116, 59, 61, 50, 53, 32, 112, 101, 114, 105, 111, 100, 59, 61, 50, 69, 32, 112, 101, 114, 109, 105, 108, 59, 61, 50, 48, 51, 48, 32, 112, 101, 114, 112, 59, 61, 50, 50, 65, 53, 32, 112, 104, 105, 59, 61, 51, 67, 54, 32, 112, 105, 59, 61, 51, 67, 48, 32, 112, 105, 118, 59, 61, 51, 68, 54, 32, 112, 108, 117, 115, 59, 61, 50, 66, 32, 112, 114, 105, 109, 101, 59, 61, 50, 48, 51, 50, 32, 112, 114, 111, 100, 59, 61, 50, 50, 48, 70, 32, 112, 114, 111, 112, 59, 61, 50, 50, 49, 68, 32, 112, 115, 105, 59, 61, 51, 67, 56]⟩), (⟨#[113]⟩, ⟨#[113, 117, 111, 116, 59, 61, 50, 50, 32, 113, 117, 111, 116, 61, 50, 50, 32, 113, 117, 101, 115, 116, 59, 61, 51, 70]⟩), (⟨#[114]⟩, ⟨#[114, 97, 113, 117, 111, 59, 61, 66, 66, 32, 114, 97, 113, 117, 111, 61, 66, 66, 32, 114, 101, 103, 59, 61, 65, 69, 32, 114, 101, 103, 61, 65, 69, 32, 114, 65, 114, 114, 59, 61, 50, 49, 68, 50, 32, 114, 97, 100, 105, 99, 59, 61, 50, 50, 49, 65, 32, 114, 97, 110, 103, 59, 61, 50, 55, 69, 57, 32, 114, 97, 114, 114, 59, 61, 50, 49, 57, 50, 32, 114, 98, 114, 97, 99, 101, 59, 61, 55, 68, 32, 114, 98, 114, 97, 99, 107, 59, 61, 53, 68, 32, 114, 99, 101, 105, 108, 59, 61, 50, 51, 48, 57, 32, 114, 99, 117, 98, 59, 61, 55, 68, 32, 114, 100, 113, 117, 111, 59, 61, 50, 48, 49, 68, 32, 114, 101, 97, 108, 59, 61, 50, 49, 49, 67, 32, 114, 102, 108, 111, 111, 114, 59, 61, 50, 51, 48, 66, 32, 114, 104, 111, 59, 61, 51, 67, 49, 32, 114, 108, 109, 59, 61, 50, 48, 48, 70, 32, 114, 112, 97, 114, 59, 61, 50, 57, 32, 114, 115, 97, 113, 117, 111, 59, 61, 50, 48, 51, 65, 32, 114, 115, 113, 98, 59, 61, 53, 68, 32, 114, 115, 113, 117, 111, 59, 61, 50, 48, 49, 57]⟩), (⟨#[115]⟩, ⟨#[115, 101, 99, 116, 59, 61, 65, 55, 32, 115, 101, 99, 116, 61, 65, 55, 32, 115, 104, 121, 59, 61, 65, 68, 32, 115, 104, 121, 61, 65, 68, 32, 115, 117, 112, 49, 59, 61, 66, 57, 32, 115, 117, 112, 49, 61, 66, 57, 32, 115, 117, 112, 50, 59, 61, 66, 50, 32, 115, 117, 112, 50, 61, 66, 50, 32, 115, 117, 112, 51, 59, 61, 66, 51, 32, 115, 117, 112, 51, 61, 66, 51, 32, 115, 122, 108, 105, 103, 59, 61, 68, 70, 32, 115, 122, 108, 105, 103, 61, 68, 70, 32, 115, 98, 113, 117, 111, 59, 61, 50, 48, 49, 65, 32, 115, 99, 97, 114, 111, 110, 59, 61, 49, 54, 49, 32, 115, 99, 101, 100, 105, 108, 59, 61, 49, 53, 70, 32, 115, 100, 111, 116, 59, 61, 50, 50, 67, 53, 32, 115, 101, 109, 105, 59, 61, 51, 66, 32, 115, 105, 103, 109, 97, 59, 61, 51, 67, 51, 32, 115, 105, 103, 109, 97, 102, 59, 61, 51, 67, 50, 32, 115, 105, 109, 59, 61, 50, 50, 51, 67, 32, 115, 111, 108, 59, 61, 50, 70, 32, 115, 112, 97, 100, 101, 115, 59, 61, 50, 54, 54, 48, 32, 115, 117, 98, 59, 61, 50, 50, 56, 50, 32, 115, 117, 98, 101, 59, 61, 50, 50, 56, 54, 32, 115, 117, 109, 59, 61, 50, 50, 49, 49, 32, 115, 117, 112, 59, 61, 50, 50, 56, 51, 32, 115, 117, 112, 101, 59, 61, 50, 50, 56, 55]⟩), (⟨#[116]⟩, ⟨#[116, 104, 111, 114, 110, 59, 61, 70, 69, 32, 116, 104, 111, 114, 110, 61, 70, 69, 32, 116, 105, 109, 101, 115, 59, 61, 68, 55, 32, 116, 105, 109, 101, 115, 61, 68, 55, 32, 116, 97, 117, 59, 61, 51, 67, 52, 32, 116, 104, 101, 114, 101, 52, 59, 61, 50, 50, 51, 52, 32, 116, 104, 101, 116, 97, 59, 61, 51, 66, 56, 32, 116, 104, 101, 116, 97, 115, 121, 109, 59, 61, 51, 68, 49, 32, 116, 104, 105, 110, 115, 112, 59, 61, 50, 48, 48, 57, 32, 116, 105, 108, 100, 101, 59, 61, 50, 68, 67, 32, 116, 105, 109, 101, 115, 98, 59, 61, 50, 50, 65, 48, 32, 116, 114, 97, 100, 101, 59, 61, 50, 49, 50, 50]⟩), (⟨#[117]⟩, ⟨#[117, 97, 99, 117, 116, 101, 59, 61, 70, 65, 32, 117, 97, 99, 117, 116, 101, 61, 70, 65, 32, 117, 99, 105, 114, 99, 59, 61, 70, 66, 32, 117, 99, 105, 114, 99, 61, 70, 66, 32, 117, 103, 114, 97, 118, 101, 59, 61, 70, 57, 32, 117, 103, 114, 97, 118, 101, 61, 70, 57, 32, 117, 109, 108, 59, 61, 65, 56, 32, 117, 109, 108, 61, 65, 56, 32, 117, 117, 109, 108, 59, 61, 70, 67, 32, 117, 117, 109, 108, 61, 70, 67, 32, 117, 65, 114, 114, 59, 61, 50, 49, 68, 49, 32, 117, 97, 114, 114, 59, 61, 50, 49, 57, 49, 32, 117, 112, 115, 105, 104, 59, 61, 51, 68, 50, 32, 117, 112, 115, 105, 108, 111, 110, 59, 61, 51, 67, 53]⟩), (⟨#[118]⟩, ⟨#[118, 101, 114, 98, 97, 114, 59, 61, 55, 67, 32, 118, 101, 114, 116, 59, 61, 55, 67]⟩), (⟨#[119]⟩, ⟨#[119, 101, 100, 103, 101, 59, 61, 50, 50, 50, 55, 32, 119, 101, 105, 101, 114, 112, 59, 61, 50, 49, 49, 56]⟩), (⟨#[120]⟩, ⟨#[120, 105, 59, 61, 51, 66, 69]⟩), (⟨#[121]⟩, ⟨#[121, 97, 99, 117, 116, 101, 59, 61, 70, 68, 32, 121, 97, 99, 117, 116, 101, 61, 70, 68, 32, 121, 101, 110, 59, 61, 65, 53, 32, 121, 101, 110, 61, 65, 53, 32, 121, 117, 109, 108, 59, 61, 70, 70, 32, 121, 117, 109, 108, 61, 70, 70]⟩), (⟨#[122]⟩, ⟨#[122, 99, 97, 114, 111, 110, 59, 61, 49, 55, 69, 32, 122, 101, 116, 97, 59, 61, 51, 66, 54, 32, 122, 119, 106, 59, 61, 50, 48, 48, 68, 32, 122, 119, 110, 106, 59, 61, 50, 48, 48, 67]⟩)]), 
    .ret (.m2 .get (.var 20) (.var 21) (.str ⟨#[]⟩))]⟩
noncomputable def d_text_of : FDef := ⟨[24], [
    .ownList 22 [], 
    .forE [23] false (.val (.m1 .split (.var 24) (.str ⟨#[44]⟩))) [.assign 25 (.int 0), .forE [19] false (.val (.var 23)) [.assign 25 (.bin .add (.bin .mul (.var 25) (.int 16)) (.call 2 [(.var 19)]))], .append 22 (.fn .chr (.var 25))], 
    .ret (.joinOwn ⟨#[]⟩ 22)]⟩
noncomputable def d_names_of : FDef := ⟨[21], [
    .ownDict 26, 
    .forE [27] false (.val (.m0 .split (.call 3 [(.var 21)]) )) [.assign 28 (.m1 .split (.var 27) (.str ⟨#[61]⟩)), .setKey 26 (.idx (.var 28) (.int 0)) (.call 4 [(.idx (.var 28) (.int 1))])], 
    .retOwn 26]⟩
noncomputable def d_named_text : FDef := ⟨[29], [
    .forE [27] false (.val (.m0 .split (.call 3 [(.slice (.var 29) Option.none (some (.int 1)))]) )) [.assign 28 (.m1 .split (.var 27) (.str ⟨#[61]⟩)), .ite (.cmp .eq (.idx (.var 28) (.int 0)) (.var 29)) [.ret (.call 4 [(.idx (.var 28) (.int 1))])] []], 
    .ret (.str ⟨#[]⟩)]⟩
noncomputable def d_longest : FDef := ⟨[31, 32, 33], [
    .assign 30 (.m1 .join (.str ⟨#[]⟩) (.slice (.var 31) (some (.var 32)) (some (.bin .add (.var 32) (.int 40))))), 
    .ite (.and [(.cmp .eq (.var 30) (.str ⟨#[]⟩)), (.not (.val (.var 33)))]) [.ret (.neg 1)] [], 
    .assign 34 (.int 0), 
    .forE [27] false (.val (.m0 .split (.call 3 [(.slice (.var 30) Option.none (some (.int 1)))]) )) [.assign 29 (.idx (.m1 .split (.var 27) (.str ⟨#[61]⟩)) (.int 0)), .ite (.val (.m1 .startswith (.var 30) (.var 29))) [.ite (.cmp .gt (.fn .len (.var 29)) (.var 34)) [.assign 34 (.fn .len (.var 29))] []] [.ite (.and [(.not (.val (.var 33))), (.val (.m1 .startswith (.var 29) (.var 30)))]) [.ret (.neg 1)] []]], 
    .ret (.var 34)]⟩
noncomputable def d__law_digit : FDef := ⟨[36, 35], [
    .ret (.ite (.cmp .lt (.var 35) (.fn .len (.var 36))) (.idx (.var 36) (.var 35)) (.int 0))]⟩
noncomputable def d__law_pick : FDef := ⟨[37, 38], [
    .assign 26 (.bin .fmod (.ownIdx 37 (.int 0)) (.var 38)), 
    .setIdx 37 (.int 0) (.bin .fdiv (.ownIdx 37 (.int 0)) (.var 38)), 
    .ret (.var 26)]⟩
noncomputable def d__law_latin : FDef := ⟨[], [
    .assign 39 (.str ⟨#[110, 98, 115, 112, 32, 105, 101, 120, 99, 108, 32, 99, 101, 110, 116, 32, 112, 111, 117, 110, 100, 32, 99, 117, 114, 114, 101, 110, 32, 121, 101, 110, 32, 98, 114, 118, 98, 97, 114, 32, 115, 101, 99, 116, 32, 117, 109, 108, 32, 99, 111, 112, 121, 32, 111, 114, 100, 102, 32, 108, 97, 113, 117, 111, 32, 110, 111, 116, 32, 115, 104, 121, 32, 114, 101, 103, 32, 109, 97, 99, 114, 32, 100, 101, 103, 32, 112, 108, 117, 115, 109, 110, 32, 115, 117, 112, 50, 32, 115, 117, 112, 51]⟩), 
    .assign 39 (.bin .add (.var 39) (.str ⟨#[32, 97, 99, 117, 116, 101, 32, 109, 105, 99, 114, 111, 32, 112, 97, 114, 97, 32, 109, 105, 100, 100, 111, 116, 32, 99, 101, 100, 105, 108, 32, 115, 117, 112, 49, 32, 111, 114, 100, 109, 32, 114, 97, 113, 117, 111, 32, 102, 114, 97, 99, 49, 52, 32, 102, 114, 97, 99, 49, 50, 32, 102, 114, 97, 99, 51, 52, 32, 105, 113, 117, 101, 115, 116]⟩)), 
    .assign 40 (.str ⟨#[65, 103, 114, 97, 118, 101, 32, 65, 97, 99, 117, 116, 101, 32, 65, 99, 105, 114, 99, 32, 65, 116, 105, 108, 100, 101, 32, 65, 117, 109, 108, 32, 65, 114, 105, 110, 103, 32, 65, 69, 108, 105, 103, 32, 67, 99, 101, 100, 105, 108, 32, 69, 103, 114, 97, 118, 101, 32, 69, 97, 99, 117, 116, 101, 32, 69, 99, 105, 114, 99, 32, 69, 117, 109, 108, 32, 73, 103, 114, 97, 118, 101, 32, 73, 97, 99, 117, 116, 101, 32, 73, 99, 105, 114, 99, 32, 73, 117, 109, 108, 32, 69, 84, 72]⟩), 
    .assign 40 (.bin .add (.var 40) (.str ⟨#[32, 78, 116, 105, 108, 100, 101, 32, 79, 103, 114, 97, 118, 101, 32, 79, 97, 99, 117, 116, 101, 32, 79, 99, 105, 114, 99, 32, 79, 116, 105, 108, 100, 101, 32, 79, 117, 109, 108, 32, 116, 105, 109, 101, 115, 32, 79, 115, 108, 97, 115, 104, 32, 85, 103, 114, 97, 118, 101, 32, 85, 97, 99, 117, 116, 101, 32, 85, 99, 105, 114, 99, 32, 85, 117, 109, 108, 32, 89, 97, 99, 117, 116, 101, 32, 84, 72, 79, 82, 78, 32, 115, 122, 108, 105, 103]⟩)), 
    .assign 41 (.m2 .replace (.m2 .replace (.m0 .lower (.var 40) ) (.str ⟨#[116, 105, 109, 101, 115]⟩) (.str ⟨#[100, 105, 118, 105, 100, 101]⟩)) (.str ⟨#[115, 122, 108, 105, 103]⟩) (.str ⟨#[121, 117, 109, 108]⟩)), 
    .ret (.m0 .split (.bin .add (.bin .add (.bin .add (.bin .add (.var 39) (.str ⟨#[32]⟩)) (.var 40)) (.str ⟨#[32]⟩)) (.var 41)) )]⟩
noncomputable def d__law_greek : FDef := ⟨[], [
    .assign 39 (.str ⟨#[65, 108, 112, 104, 97, 32, 66, 101, 116, 97, 32, 71, 97, 109, 109, 97, 32, 68, 101, 108, 116, 97, 32, 69, 112, 115, 105, 108, 111, 110, 32, 90, 101, 116, 97, 32, 69, 116, 97, 32, 84, 104, 101, 116, 97, 32, 73, 111, 116, 97, 32, 75, 97, 112, 112, 97, 32, 76, 97, 109, 98, 100, 97, 32, 77, 117, 32, 78, 117, 32, 88, 105, 32, 79, 109, 105, 99, 114, 111, 110, 32, 80, 105, 32, 82, 104, 111, 32, 45, 32, 83, 105, 103, 109, 97, 32, 84, 97, 117]⟩), 
    .ret (.bin .add (.var 39) (.str ⟨#[32, 85, 112, 115, 105, 108, 111, 110, 32, 80, 104, 105, 32, 67, 104, 105, 32, 80, 115, 105, 32, 79, 109, 101, 103, 97]⟩))]⟩
noncomputable def d__law_blocks : FDef := ⟨[], [
    .ret (.list [(.tup [(.int 9), (.str ⟨#[84, 97, 98, 32, 78, 101, 119, 76, 105, 110, 101]⟩)]), (.tup [(.int 33), (.str ⟨#[101, 120, 99, 108, 32, 113, 117, 111, 116, 44, 81, 85, 79, 84, 32, 110, 117, 109, 32, 100, 111, 108, 108, 97, 114, 32, 112, 101, 114, 99, 110, 116, 32, 97, 109, 112, 44, 65, 77, 80, 32, 97, 112, 111, 115, 32, 108, 112, 97, 114, 32, 114, 112, 97, 114, 32, 97, 115, 116, 44, 109, 105, 100, 97, 115, 116, 32, 112, 108, 117, 115, 32, 99, 111, 109, 109, 97, 32, 45, 32, 112, 101, 114, 105, 111, 100, 32, 115, 111, 108]⟩)]), (.tup [(.int 58), (.str ⟨#[99, 111, 108, 111, 110, 32, 115, 101, 109, 105, 32, 108, 116, 44, 76, 84, 32, 101, 113, 117, 97, 108, 115, 32, 103, 116, 44, 71, 84, 32, 113, 117, 101, 115, 116, 32, 99, 111, 109, 109, 97, 116]⟩)]), (.tup [(.int 123), (.str ⟨#[108, 99, 117, 98, 44, 108, 98, 114, 97, 99, 101, 32, 118, 101, 114, 98, 97, 114, 44, 118, 101, 114, 116, 44, 86, 101, 114, 116, 105, 99, 97, 108, 76, 105, 110, 101, 32, 114, 99, 117, 98, 44, 114, 98, 114, 97, 99, 101]⟩)]), (.tup [(.int 91), (.str ⟨#[108, 115, 113, 98, 44, 108, 98, 114, 97, 99, 107, 32, 98, 115, 111, 108, 32, 114, 115, 113, 98, 44, 114, 98, 114, 97, 99, 107, 32, 72, 97, 116, 32, 108, 111, 119, 98, 97, 114, 44, 85, 110, 100, 101, 114, 66, 97, 114, 32, 103, 114, 97, 118, 101, 44, 68, 105, 97, 99, 114, 105, 116, 105, 99, 97, 108, 71, 114, 97, 118, 101]⟩)]), (.tup [(.int 160), (.m1 .join (.str ⟨#[32]⟩) (.call 10 []))]), (.tup [(.int 160), (.str ⟨#[78, 111, 110, 66, 114, 101, 97, 107, 105, 110, 103, 83, 112, 97, 99, 101]⟩)]), (.tup [(.int 168), (.str ⟨#[68, 111, 116, 32, 67, 79, 80, 89]⟩)]), (.tup [(.int 174), (.str ⟨#[82, 69, 71, 32, 45, 32, 45, 32, 80, 108, 117, 115, 77, 105, 110, 117, 115]⟩)]), (.tup [(.int 183), (.str ⟨#[99, 101, 110, 116, 101, 114, 100, 111, 116, 32, 67, 101, 100, 105, 108, 108, 97, 32, 45, 32, 45, 32, 45, 32, 45, 32, 104, 97, 108, 102]⟩)]), (.tup [(.int 197), (.str ⟨#[97, 110, 103, 115, 116]⟩)]), (.tup [(.int 247), (.str ⟨#[100, 105, 118]⟩)]), (.tup [(.int 260), (.str ⟨#[65, 111, 103, 111, 110, 32, 97, 111, 103, 111, 110, 32, 45, 32, 45, 32, 45, 32, 45, 32, 45, 32, 45, 32, 67, 99, 97, 114, 111, 110, 32, 99, 99, 97, 114, 111, 110]⟩)]), (.tup [(.int 304), (.str ⟨#[73, 100, 111, 116, 32, 105, 110, 111, 100, 111, 116, 32, 45, 32, 45, 32, 74, 99, 105, 114, 99, 32, 106, 99, 105, 114, 99, 32, 45, 32, 45, 32, 107, 103, 114, 101, 101, 110]⟩)]), (.tup [(.int 321), (.str ⟨#[76, 115, 116, 114, 111, 107, 32, 108, 115, 116, 114, 111, 107]⟩)]), (.tup [(.int 330), (.str ⟨#[69, 78, 71, 32, 101, 110, 103]⟩)]), (.tup [(.int 336), (.str ⟨#[79, 100, 98, 108, 97, 99, 32, 111, 100, 98, 108, 97, 99, 32, 79, 69, 108, 105, 103, 32, 111, 101, 108, 105, 103]⟩)]), (.tup [(.int 350), (.str ⟨#[83, 99, 101, 100, 105, 108, 32, 115, 99, 101, 100, 105, 108, 32, 83, 99, 97, 114, 111, 110, 32, 115, 99, 97, 114, 111, 110]⟩)]), (.tup [(.int 376), (.str ⟨#[89, 117, 109, 108]⟩)]), (.tup [(.int 381), (.str ⟨#[90, 99, 97, 114, 111, 110, 32, 122, 99, 97, 114, 111, 110]⟩)]), (.tup [(.int 402), (.str ⟨#[102, 110, 111, 102]⟩)]), (.tup [(.int 710), (.str ⟨#[99, 105, 114, 99]⟩)]), (.tup [(.int 732), (.str ⟨#[116, 105, 108, 100, 101]⟩)]), (.tup [(.int 913), (.call 11 [])]), (.tup [(.int 945), (.m2 .replace (.m0 .lower (.call 11 []) ) (.str ⟨#[45]⟩) (.str ⟨#[115, 105, 103, 109, 97, 102]⟩))]), (.tup [(.int 977), (.str ⟨#[116, 104, 101, 116, 97, 115, 121, 109, 32, 117, 112, 115, 105, 104, 32, 45, 32, 45, 32, 45, 32, 112, 105, 118]⟩)]), (.tup [(.int 8194), (.str ⟨#[101, 110, 115, 112, 32, 101, 109, 115, 112, 32, 101, 109, 115, 112, 49, 51, 32, 101, 109, 115, 112, 49, 52, 32, 45, 32, 45, 32, 45, 32, 116, 104, 105, 110, 115, 112, 32, 45, 32, 45, 32, 122, 119, 110, 106, 32, 122, 119, 106, 32, 108, 114, 109, 32, 114, 108, 109, 32, 45, 32, 45, 32, 45, 32, 110, 100, 97, 115, 104, 32, 109, 100, 97, 115, 104, 32, 45, 32, 86, 101, 114, 116, 32, 45, 32, 108, 115, 113, 117, 111, 32, 114, 115, 113, 117, 111]⟩)]), (.tup [(.int 8218), (.str ⟨#[115, 98, 113, 117, 111, 32, 45, 32, 108, 100, 113, 117, 111, 32, 114, 100, 113, 117, 111, 32, 98, 100, 113, 117, 111, 32, 45, 32, 100, 97, 103, 103, 101, 114, 32, 68, 97, 103, 103, 101, 114, 32, 98, 117, 108, 108, 32, 45, 32, 45, 32, 45, 32, 104, 101, 108, 108, 105, 112, 32, 45, 32, 45, 32, 45, 32, 45, 32, 45, 32, 45, 32, 45, 32, 45, 32, 45, 32, 112, 101, 114, 109, 105, 108, 32, 45, 32, 112, 114, 105, 109, 101, 32, 80, 114, 105, 109, 101]⟩)]), (.tup [(.int 8249), (.str ⟨#[108, 115, 97, 113, 117, 111, 32, 114, 115, 97, 113, 117, 111, 32, 45, 32, 45, 32, 45, 32, 111, 108, 105, 110, 101, 32, 45, 32, 45, 32, 45, 32, 45, 32, 45, 32, 102, 114, 97, 115, 108]⟩)]), (.tup [(.int 8364), (.str ⟨#[101, 117, 114, 111]⟩)]), (.tup [(.int 8450), (.str ⟨#[67, 111, 112, 102]⟩)]), (.tup [(.int 8461), (.str ⟨#[72, 111, 112, 102]⟩)]), (.tup [(.int 8465), (.str ⟨#[105, 109, 97, 103, 101, 32, 45, 32, 45, 32, 45, 32, 78, 111, 112, 102, 32, 45, 32, 99, 111, 112, 121, 115, 114, 32, 119, 101, 105, 101, 114, 112, 32, 45, 32, 81, 111, 112, 102, 32, 45, 32, 114, 101, 97, 108, 44, 82, 101, 32, 82, 111, 112, 102, 32, 45, 32, 45, 32, 45, 32, 45, 32, 116, 114, 97, 100, 101, 32, 45, 32, 90, 111, 112, 102]⟩)]), (.tup [(.int 8500), (.str ⟨#[111, 114, 100, 101, 114, 32, 97, 108, 101, 102, 115, 121, 109]⟩)]), (.tup [(.int 8531), (.str ⟨#[102, 114, 97, 99, 49, 51]⟩)]), (.tup [(.int 8592), (.str ⟨#[108, 97, 114, 114, 32, 117, 97, 114, 114, 32, 114, 97, 114, 114, 32, 100, 97, 114, 114, 32, 104, 97, 114, 114]⟩)]), (.tup [(.int 8629), (.str ⟨#[99, 114, 97, 114, 114]⟩)]), (.tup [(.int 8656), (.str ⟨#[108, 65, 114, 114, 32, 117, 65, 114, 114, 32, 114, 65, 114, 114, 32, 100, 65, 114, 114, 32, 104, 65, 114, 114]⟩)]), (.tup [(.int 8704), (.str ⟨#[102, 111, 114, 97, 108, 108, 44, 70, 111, 114, 65, 108, 108, 32, 45, 32, 112, 97, 114, 116, 32, 101, 120, 105, 115, 116, 32, 45, 32, 101, 109, 112, 116, 121, 32, 45, 32, 110, 97, 98, 108, 97, 32, 105, 110, 44, 105, 115, 105, 110, 32, 110, 111, 116, 105, 110, 32, 45, 32, 110, 105, 32, 110, 111, 116, 110, 105, 32, 45, 32, 45, 32, 112, 114, 111, 100, 32, 45, 32, 115, 117, 109, 32, 109, 105, 110, 117, 115]⟩)]), (.tup [(.int 8727), (.str ⟨#[108, 111, 119, 97, 115, 116, 32, 45, 32, 45, 32, 114, 97, 100, 105, 99, 44, 83, 113, 114, 116, 32, 45, 32, 45, 32, 112, 114, 111, 112, 32, 105, 110, 102, 105, 110, 32, 45, 32, 97, 110, 103, 32, 45, 32, 45, 32, 45, 32, 45, 32, 112, 97, 114, 97, 108, 108, 101, 108, 32, 45, 32, 97, 110, 100, 44, 119, 101, 100, 103, 101, 32, 111, 114, 32, 99, 97, 112, 32, 99, 117, 112, 32, 105, 110, 116, 44, 73, 110, 116, 101, 103, 114, 97, 108]⟩)]), (.tup [(.int 8755), (.str ⟨#[67, 111, 117, 110, 116, 101, 114, 67, 108, 111, 99, 107, 119, 105, 115, 101, 67, 111, 110, 116, 111, 117, 114, 73, 110, 116, 101, 103, 114, 97, 108, 32, 116, 104, 101, 114, 101, 52, 32, 45, 32, 45, 32, 45, 32, 45, 32, 45, 32, 45, 32, 45, 32, 115, 105, 109]⟩)]), (.tup [(.int 8773), (.str ⟨#[99, 111, 110, 103, 32, 45, 32, 45, 32, 97, 115, 121, 109, 112]⟩)]), (.tup [(.int 8800), (.str ⟨#[110, 101, 32, 101, 113, 117, 105, 118, 32, 45, 32, 45, 32, 108, 101, 32, 103, 101, 32, 45, 32, 45, 32, 45, 32, 45, 32, 76, 116, 32, 71, 116]⟩)]), (.tup [(.int 8819), (.str ⟨#[103, 116, 114, 115, 105, 109]⟩)]), (.tup [(.int 8834), (.str ⟨#[115, 117, 98, 32, 115, 117, 112, 32, 110, 115, 117, 98, 32, 45, 32, 115, 117, 98, 101, 32, 115, 117, 112, 101]⟩)]), (.tup [(.int 8853), (.str ⟨#[111, 112, 108, 117, 115, 32, 45, 32, 111, 116, 105, 109, 101, 115]⟩)]), (.tup [(.int 8864), (.str ⟨#[116, 105, 109, 101, 115, 98, 32, 45, 32, 45, 32, 45, 32, 45, 32, 112, 101, 114, 112]⟩)]), (.tup [(.int 8896), (.str ⟨#[87, 101, 100, 103, 101, 32, 45, 32, 45, 32, 45, 32, 45, 32, 115, 100, 111, 116, 32, 45, 32, 100, 105, 118, 105, 100, 101, 111, 110, 116, 105, 109, 101, 115, 32, 45]⟩)]), (.tup [(.int 8905), (.str ⟨#[108, 116, 105, 109, 101, 115]⟩)]), (.tup [(.int 8918), (.str ⟨#[108, 116, 100, 111, 116, 32, 103, 116, 100, 111, 116, 32, 45, 32, 71, 103]⟩)]), (.tup [(.int 8968), (.str ⟨#[108, 99, 101, 105, 108, 32, 114, 99, 101, 105, 108, 32, 108, 102, 108, 111, 111, 114, 32, 114, 102, 108, 111, 111, 114]⟩)]), (.tup [(.int 9674), (.str ⟨#[108, 111, 122]⟩)]), (.tup [(.int 9824), (.str ⟨#[115, 112, 97, 100, 101, 115, 32, 45, 32, 45, 32, 99, 108, 117, 98, 115, 32, 45, 32, 104, 101, 97, 114, 116, 115, 32, 100, 105, 97, 109, 115]⟩)]), (.tup [(.int 10216), (.str ⟨#[108, 97, 110, 103, 32, 114, 97, 110, 103]⟩)]), (.tup [(.int 10918), (.str ⟨#[108, 116, 99, 99, 32, 103, 116, 99, 99]⟩)]), (.tup [(.int 10988), (.str ⟨#[78, 111, 116]⟩)]), (.tup [(.int 64257), (.str ⟨#[102, 105, 108, 105, 103]⟩)]), (.tup [(.int 120069), (.str ⟨#[66, 102, 114]⟩)]), (.tup [(.int 120120), (.str ⟨#[65, 111, 112, 102]⟩)])])]⟩
noncomputable def d__law_pairs : FDef := ⟨[], [
    .ret (.list [(.tup [(.str ⟨#[110, 118, 108, 116]⟩), (.str ⟨#[60, 8402]⟩)]), (.tup [(.str ⟨#[98, 110, 101]⟩), (.str ⟨#[61, 8421]⟩)]), (.tup [(.str ⟨#[102, 106, 108, 105, 103]⟩), (.str ⟨#[102, 106]⟩)]), (.tup [(.str ⟨#[84, 104, 105, 99, 107, 83, 112, 97, 99, 101]⟩), (.str ⟨#[8287, 8202]⟩)]), (.tup [(.str ⟨#[99, 97, 112, 115]⟩), (.str ⟨#[8745, 65024]⟩)]), (.tup [(.str ⟨#[97, 99, 69]⟩), (.str ⟨#[8766, 819]⟩)]), (.tup [(.str ⟨#[78, 111, 116, 69, 113, 117, 97, 108, 84, 105, 108, 100, 101]⟩), (.str ⟨#[8770, 824]⟩)]), (.tup [(.str ⟨#[108, 118, 110, 69]⟩), (.str ⟨#[8808, 65024]⟩)]), (.tup [(.str ⟨#[103, 118, 110, 69]⟩), (.str ⟨#[8809, 65024]⟩)]), (.tup [(.str ⟨#[110, 76, 116]⟩), (.str ⟨#[8810, 8402]⟩)]), (.tup [(.str ⟨#[110, 111, 116, 105, 110, 69]⟩), (.str ⟨#[8953, 824]⟩)])])]⟩
noncomputable def d__law_letters : FDef := ⟨[], [
    .ret (.str ⟨#[97, 98, 99, 100, 101, 102, 103, 104, 105, 106, 107, 108, 109, 110, 111, 112, 113, 114, 115, 116, 117, 118, 119, 120, 121, 122, 66, 67, 68, 69, 70, 71, 72, 73, 74, 75, 76, 77, 78, 79, 80, 81, 82, 83, 84, 85, 86, 87, 88, 89, 90, 65]⟩)]⟩
noncomputable def d__law_table : FDef := ⟨[], [
    .assign 42 (.call 13 []), 
    .forE [23, 39] true (.val (.call 12 [])) [.assign 27 (.comp (.m1 .split (.var 43) (.str ⟨#[44]⟩)) 43 (.val (.m0 .split (.var 39) )) Option.none [] []), .assign 42 (.bin .add (.var 42) (.comp (.tup [(.var 29), (.fn .chr (.bin .add (.var 23) (.var 44)))]) 44 (.range1 (.fn .len (.var 27))) (some (29, (.val (.idx (.var 27) (.var 44))))) [(.cmp .ne (.var 29) (.str ⟨#[45]⟩))] [23, 27]))], 
    .ownDict2 45, 
    .forE [46] false (.val (.call 14 [])) [.newKey 45 (.var 46)], 
    .forE [29, 47] true (.val (.var 42)) [.setPath 45 (.idx (.var 29) (.int 0)) (.bin .add (.var 29) (.str ⟨#[59]⟩)) (.var 47)], 
    .forE [29] false (.val (.bin .add (.call 10 []) (.m0 .split (.str ⟨#[65, 77, 80, 32, 67, 79, 80, 89, 32, 71, 84, 32, 76, 84, 32, 81, 85, 79, 84, 32, 82, 69, 71, 32, 97, 109, 112, 32, 103, 116, 32, 108, 116, 32, 113, 117, 111, 116]⟩) ))) [.setPath 45 (.idx (.var 29) (.int 0)) (.var 29) (.ownPath 45 (.idx (.var 29) (.int 0)) (.bin .add (.var 29) (.str ⟨#[59]⟩)))], 
    .retOwn 45]⟩
noncomputable def d__law_case : FDef := ⟨[48, 44, 45], [
    .ownList 37 [(.var 48)], 
    .assign 49 (.fn .list (.idx (.var 45) (.idx (.call 14 []) (.bin .fmod (.bin .add (.callIO 9 37 [(.int 52)]) (.bin .mul (.int 2) (.var 44))) (.int 52))))), 
    .assign 29 (.idx (.var 49) (.bin .fmod (.bin .add (.callIO 9 37 [(.int 48)]) (.bin .mul (.int 3) (.var 44))) (.fn .len (.var 49)))), 
    .assign 50 (.bin .fmod (.bin .add (.callIO 9 37 [(.int 6)]) (.var 44)) (.int 6)), 
    .assign 51 (.idx (.tup [(.str ⟨#[]⟩), (.str ⟨#[61]⟩), (.str ⟨#[59]⟩), (.str ⟨#[97]⟩), (.str ⟨#[38]⟩), (.str ⟨#[69, 59]⟩), (.str ⟨#[105, 110, 69, 59]⟩), (.str ⟨#[49]⟩), (.str ⟨#[120, 59]⟩), (.str ⟨#[32]⟩), (.str ⟨#[111, 110, 116, 105, 109, 101, 115, 59]⟩), (.str ⟨#[233]⟩)]) (.bin .fmod (.bin .add (.callIO 9 37 [(.int 12)]) (.bin .mul (.int 5) (.var 44))) (.int 12))), 
    .assign 30 (.bin .fmod (.bin .add (.callIO 9 37 [(.int 3)]) (.var 44)) (.int 3)), 
    .assign 32 (.callIO 9 37 [(.fn .len (.var 29))]), 
    .assign 52 (.idx (.var 49) (.callIO 9 37 [(.fn .len (.var 49))])), 
    .assign 53 (.bin .add (.bin .add (.slice (.var 29) Option.none (some (.var 32))) (.m0 .swapcase (.idx (.var 29) (.var 32)) )) (.slice (.var 29) (some (.bin .add (.var 32) (.int 1))) Option.none)), 
    .assign 54 (.idx (.tup [(.var 29), (.slice (.var 29) Option.none (some (.var 32))), (.slice (.var 29) Option.none (some (.neg 1))), (.var 53), (.bin .add (.var 29) (.var 52)), (.m2 .replace (.var 29) (.str ⟨#[59]⟩) (.str ⟨#[]⟩))]) (.var 50)), 
    .ret (.tup [(.var 29), (.bin .add (.var 54) (.var 51)), (.var 30)])]⟩
noncomputable def d__law_is_read : FDef := ⟨[29, 47, 30, 45], [
    .assign 55 (.m2 .get (.var 45) (.slice (.var 47) Option.none (some (.int 1))) .dict0), 
    .assign 56 (.fn .max (.bin .add (.list [(.int 0)]) (.comp (.var 38) 38 (.range2 (.int 1) (.bin .add (.fn .len (.var 47)) (.int 1))) Option.none [(.cmp .isin (.slice (.var 47) Option.none (some (.var 38))) (.var 55))] [47, 55]))), 
    .assignC 57 (.var 58) 58 (.val (.var 55)) [(.and [(.cmp .eq (.slice (.var 58) Option.none (some (.fn .len (.var 47)))) (.var 47)), (.cmp .ne (.var 58) (.var 47))])] [47], 
    .assignC 31 (.var 59) 59 (.val (.bin .add (.slice (.str ⟨#[113, 38]⟩) Option.none (some (.var 30))) (.var 47))) [] [], 
    .ite (.cmp .ne (.call 7 [(.var 31), (.var 30), (.bool true)]) (.var 56)) [.ret (.bool false)] [], 
    .ite (.cmp .ne (.call 7 [(.var 31), (.var 30), (.bool false)]) (.ite (.or [(.cmp .eq (.var 47) (.str ⟨#[]⟩)), (.cmp .ne (.var 57) (.list []))]) (.neg 1) (.var 56))) [.ret (.bool false)] [], 
    .ite (.or [(.cmp .ne (.call 6 [(.slice (.var 47) Option.none (some (.var 56)))]) (.m2 .get (.var 55) (.slice (.var 47) Option.none (some (.var 56))) (.str ⟨#[]⟩))), (.cmp .ne (.call 6 [(.var 47)]) (.m2 .get (.var 55) (.var 47) (.str ⟨#[]⟩)))]) [.ret (.bool false)] [], 
    .ret (.cmp .eq (.call 6 [(.var 29)]) (.idx (.idx (.var 45) (.idx (.var 29) (.int 0))) (.var 29)))]⟩
noncomputable def d_law : FDef := ⟨[36], [
    .assign 45 (.call 15 []), 
    .assign 60 (.call 14 []), 
    .assign 61 (.call 8 [(.var 36), (.int 0)]), 
    .forE [44] false (.range1 (.int 26)) [.assign 46 (.idx (.var 60) (.bin .fmod (.bin .add (.var 61) (.bin .mul (.int 2) (.var 44))) (.int 52))), .ite (.cmp .ne (.call 5 [(.var 46)]) (.idx (.var 45) (.var 46))) [.ret (.bool false)] []], 
    .assign 62 (.list [(.str ⟨#[]⟩), (.str ⟨#[49]⟩), (.str ⟨#[35]⟩), (.str ⟨#[38]⟩), (.str ⟨#[64]⟩), (.str ⟨#[91]⟩), (.str ⟨#[96]⟩), (.str ⟨#[123]⟩), (.str ⟨#[97, 109]⟩), (.str ⟨#[32]⟩), (.str ⟨#[0]⟩), (.str ⟨#[71, 97]⟩), (.str ⟨#[233]⟩), (.str ⟨#[59]⟩), (.str ⟨#[95]⟩), (.str ⟨#[55296]⟩), (.str ⟨#[122, 122]⟩)]), 
    .forE [44] false (.range1 (.int 3)) [.ite (.cmp .ne (.call 5 [(.idx (.var 62) (.bin .fmod (.bin .add (.call 8 [(.var 36), (.bin .add (.int 1) (.var 44))]) (.bin .mul (.int 6) (.var 44))) (.fn .len (.var 62))))]) .dict0) [.ret (.bool false)] []], 
    .forE [44] false (.range1 (.int 8)) [.assignT [29, 47, 30] (.call 16 [(.call 8 [(.var 36), (.bin .add (.int 4) (.var 44))]), (.var 44), (.var 45)]), .ite (.not (.val (.call 17 [(.var 29), (.var 47), (.var 30), (.var 45)]))) [.ret (.bool false)] []], 
    .ret (.bool true)]⟩
noncomputable def fsL : List FDef := [d_is_lower, d_is_digit, d_digit_value, d_row_of, d_text_of, d_names_of, d_named_text, d_longest, d__law_digit, d__law_pick, d__law_latin, d__law_greek, d__law_blocks, d__law_pairs, d__law_letters, d__law_table, d__law_case, d__law_is_read, d_law]
noncomputable def fs (f : Nat) : Option FDef := fsL[f]?
end Mine
end

section
open PySem PySem.W PyProof.Rows
set_option Elab.async false
set_option maxRecDepth 100000
set_option maxHeartbeats 4000000
namespace Mine
noncomputable def nm (x : Nat) : Str := match names[x]? with | some s => s | none => ⟨#[x + 2000000]⟩
/-- a definition of the program and its form in my syntax -/
structure Def1 (f : Nat) (d : FDef) (e : DefRec) : Prop where
  name : e.name = nm f
  dflt : e.params.defaults = []
  bind : ∀ pm cd doc (vs : List Value), vs.length = d.params.length → bindArgs (Calls.docDef e.name e.params e.body e.scope pm cd doc) ⟨vs, []⟩ = pure ((d.params.map nm).zip vs)
  first : ∀ x r, d.params = x :: r → e.scope.names.lookup (nm x) = some .local
  kinds : ∀ x ∈ d.params, e.scope.names.lookup (nm x) = some .local ∨ e.scope.names.lookup (nm x) = some .cell
  nodup : d.params.Nodup
  co : e.scope.isCoroutine = false
  gen : e.scope.isGenerator = false
  kind : e.scope.kind = .function
  nocell : f = 18 → (e.scope.names.all fun p => !(p.2 == NameKind.cell)) = true
  tr : TrSs nm e.scope.names e.body d.body
theorem noSwap_cell {sc : Sc} {elt : PySem.Expr} {gs : List Comprehension} {scope : Scope} {p q : Pos} {t : Str} (h : sc.lookup t = some .cell) : NoSwap sc (.ListComp elt gs scope p) (some (.Name t q)) := fun env line hs hk => by
  have : env.kindOf t = some .cell := by unfold Env.kindOf; rw [hs]; exact h
  unfold swapsWith
  have e : (some NameKind.cell == some NameKind.local) = false := by decide
  simp only [this, e, Bool.and_false, Bool.false_and]
theorem swap_local {sc : Sc} {elt : PySem.Expr} {gs : List Comprehension} {scope : Scope} {p q : Pos} {t : Str} {line : Nat} (h : sc.lookup t = some .local) (hl : (q.line == p.line) = true) (hn : (scope.names.any fun (n, k) => n == t && (k == .local || k == .cell)) = false) :
    Swap sc (.ListComp elt gs scope p) (some (.Name t q)) line := fun env hs hk => by
  have h1 : env.kindOf t = some .local := by unfold Env.kindOf; rw [hs]; exact h
  unfold swapsWith
  have e1 : (some NameKind.local == some NameKind.local) = true := by decide
  have e2 : (env.blockKind == ScopeKind.function) = true := by unfold Env.blockKind; rw [hk]; rfl
  have e3 : (q.line == (PySem.Expr.ListComp elt gs scope p).pos.line) = true := hl
  simp only [h1, e1, e2, e3, hn]
  rfl
/-- the record of the top's line j -/
noncomputable def bd (j : Nat) : DefRec := match pw.main.body[j]? with
  | some (.FunctionDef n a b _ _ _ sc _ _ pos) => ⟨n, a, b, sc, pos⟩
  | _ => ⟨⟨#[]⟩, ⟨[], [], none, [], [], none, []⟩, [], pw.main.scope, ⟨0, 0, 0, 0⟩⟩
theorem def_of {f : Nat} {d : FDef} {e e' : DefRec} (h : e = e') (x : Def1 f d e') : Def1 f d e := h ▸ x
theorem first0 {l : List Nat} {P : Nat → Prop} (h : l = []) : ∀ x r, l = x :: r → P x := fun x r e => by rw [h] at e; cases e
theorem first1 {l : List Nat} {P : Nat → Prop} {y : Nat} {t : List Nat} (h : l = y :: t) (p : P y) : ∀ x r, l = x :: r → P x := fun x r e => by rw [h] at e; cases e; exact p
noncomputable def kindB (sc : Sc) (x : Nat) : Bool := sc.lookup (nm x) == some .local || sc.lookup (nm x) == some .cell
theorem kinds_of {l : List Nat} {sc : Sc} (h : l.all (kindB sc) = true) : ∀ x ∈ l, sc.lookup (nm x) = some .local ∨ sc.lookup (nm x) = some .cell := fun x hx => by
  have := List.all_eq_true.mp h x hx
  unfold kindB at this
  rwa [Bool.or_eq_true, beq_iff_eq, beq_iff_eq] at this
theorem vlen0 {vs : List Value} (h : vs.length = 0) : vs = [] := List.eq_nil_of_length_eq_zero h
theorem vlen1 {vs : List Value} (h : vs.length = 1) : ∃ a, vs = [a] := List.length_eq_one_iff.mp h
theorem vlen2 {vs : List Value} (h : vs.length = 2) : ∃ a b, vs = [a, b] := by
  cases vs with
  | nil => cases h
  | cons a r => obtain ⟨b, rfl⟩ := vlen1 (Nat.succ.inj h); exact ⟨a, b, rfl⟩
theorem vlen3 {vs : List Value} (h : vs.length = 3) : ∃ a b c, vs = [a, b, c] := by
  cases vs with
  | nil => cases h
  | cons a r => obtain ⟨b, c, rfl⟩ := vlen2 (Nat.succ.inj h); exact ⟨a, b, c, rfl⟩
theorem vlen4 {vs : List Value} (h : vs.length = 4) : ∃ a b c d, vs = [a, b, c, d] := by
  cases vs with
  | nil => cases h
  | cons a r => obtain ⟨b, c, d, rfl⟩ := vlen3 (Nat.succ.inj h); exact ⟨a, b, c, d, rfl⟩
inductive AllD : Nat → List FDef → List DefRec → Prop
  | nil {i} : AllD i [] []
  | cons {i d e ds es} : Def1 i d e → AllD (i + 1) ds es → AllD i (d :: ds) (e :: es)
theorem AllD.get {i : Nat} {ds : List FDef} {es : List DefRec} (h : AllD i ds es) : ∀ f d, ds[f]? = some d → ∃ e, es[f]? = some e ∧ Def1 (i + f) d e := by
  induction h with
  | nil => intro f d e; cases f <;> cases e
  | @cons i _ _ _ _ x _ ih =>
    intro f d e
    cases f with
    | zero => cases e; exact ⟨_, rfl, x⟩
    | succ k =>
      obtain ⟨e', h1, h2⟩ := ih k d e
      exact ⟨e', h1, by rw [show i + (k + 1) = i + 1 + k by omega]; exact h2⟩
theorem def0 : Def1 0 d_is_lower (bd 1) := by
  refine def_of (e' := ⟨_, _, _, _, _⟩) rfl ⟨rfl, rfl, ?_, first1 rfl rfl, kinds_of (by kernel_rfl), by decide, rfl, rfl, rfl, fun h => (by cases h), ?_⟩
  · intro pm cd doc vs hl
    obtain ⟨a, rfl⟩ := vlen1 hl
    rfl
  · delta d_is_lower
    dsimp only
    repeat' first
      | with_reducible rfl
      | kernel_rfl
      | decide +kernel
      | rfl
      | exact Or.inl rfl
      | exact Or.inr rfl
      | exact fun _ => rfl
      | exact fun _ _ => rfl
      | exact fun _ _ _ _ => rfl
      | exact noSwap_cell rfl
      | exact swap_local rfl rfl rfl
      | constructor
theorem def1 : Def1 1 d_is_digit (bd 2) := by
  refine def_of (e' := ⟨_, _, _, _, _⟩) rfl ⟨rfl, rfl, ?_, first1 rfl rfl, kinds_of (by kernel_rfl), by decide, rfl, rfl, rfl, fun h => (by cases h), ?_⟩
  · intro pm cd doc vs hl
    obtain ⟨a, rfl⟩ := vlen1 hl
    rfl
  · delta d_is_digit
    dsimp only
    repeat' first
      | with_reducible rfl
      | kernel_rfl
      | decide +kernel
      | rfl
      | exact Or.inl rfl
      | exact Or.inr rfl
      | exact fun _ => rfl
      | exact fun _ _ => rfl
      | exact fun _ _ _ _ => rfl
      | exact noSwap_cell rfl
      | exact swap_local rfl rfl rfl
      | constructor
theorem def2 : Def1 2 d_digit_value (bd 3) := by
  refine def_of (e' := ⟨_, _, _, _, _⟩) rfl ⟨rfl, rfl, ?_, first1 rfl rfl, kinds_of (by kernel_rfl), by decide, rfl, rfl, rfl, fun h => (by cases h), ?_⟩
  · intro pm cd doc vs hl
    obtain ⟨a, rfl⟩ := vlen1 hl
    rfl
  · delta d_digit_value
    dsimp only
    repeat' first
      | with_reducible rfl
      | kernel_rfl
      | decide +kernel
      | rfl
      | exact Or.inl rfl
      | exact Or.inr rfl
      | exact fun _ => rfl
      | exact fun _ _ => rfl
      | exact fun _ _ _ _ => rfl
      | exact noSwap_cell rfl
      | exact swap_local rfl rfl rfl
      | constructor
theorem def3 : Def1 3 d_row_of (bd 5) := by
  refine def_of (e' := ⟨_, _, _, _, _⟩) rfl ⟨rfl, rfl, ?_, first1 rfl rfl, kinds_of (by kernel_rfl), by decide, rfl, rfl, rfl, fun h => (by cases h), ?_⟩
  · intro pm cd doc vs hl
    obtain ⟨a, rfl⟩ := vlen1 hl
    rfl
  · delta d_row_of
    dsimp only
    repeat' first
      | with_reducible rfl
      | kernel_rfl
      | decide +kernel
      | rfl
      | exact Or.inl rfl
      | exact Or.inr rfl
      | exact fun _ => rfl
      | exact fun _ _ => rfl
      | exact fun _ _ _ _ => rfl
      | exact noSwap_cell rfl
      | exact swap_local rfl rfl rfl
      | constructor
theorem def4 : Def1 4 d_text_of (bd 6) := by
  refine def_of (e' := ⟨_, _, _, _, _⟩) rfl ⟨rfl, rfl, ?_, first1 rfl rfl, kinds_of (by kernel_rfl), by decide, rfl, rfl, rfl, fun h => (by cases h), ?_⟩
  · intro pm cd doc vs hl
    obtain ⟨a, rfl⟩ := vlen1 hl
    rfl
  · delta d_text_of
    dsimp only
    repeat' first
      | with_reducible rfl
      | kernel_rfl
      | decide +kernel
      | rfl
      | exact Or.inl rfl
      | exact Or.inr rfl
      | exact fun _ => rfl
      | exact fun _ _ => rfl
      | exact fun _ _ _ _ => rfl
      | exact noSwap_cell rfl
      | exact swap_local rfl rfl rfl
      | constructor
theorem def5 : Def1 5 d_names_of (bd 7) := by
  refine def_of (e' := ⟨_, _, _, _, _⟩) rfl ⟨rfl, rfl, ?_, first1 rfl rfl, kinds_of (by kernel_rfl), by decide, rfl, rfl, rfl, fun h => (by cases h), ?_⟩
  · intro pm cd doc vs hl
    obtain ⟨a, rfl⟩ := vlen1 hl
    rfl
  · delta d_names_of
    dsimp only
    repeat' first
      | with_reducible rfl
      | kernel_rfl
      | decide +kernel
      | rfl
      | exact Or.inl rfl
      | exact Or.inr rfl
      | exact fun _ => rfl
      | exact fun _ _ => rfl
      | exact fun _ _ _ _ => rfl
      | exact noSwap_cell rfl
      | exact swap_local rfl rfl rfl
      | constructor
theorem def6 : Def1 6 d_named_text (bd 8) := by
  refine def_of (e' := ⟨_, _, _, _, _⟩) rfl ⟨rfl, rfl, ?_, first1 rfl rfl, kinds_of (by kernel_rfl), by decide, rfl, rfl, rfl, fun h => (by cases h), ?_⟩
  · intro pm cd doc vs hl
    obtain ⟨a, rfl⟩ := vlen1 hl
    rfl
  · delta d_named_text
    dsimp only
    repeat' first
      | with_reducible rfl
      | kernel_rfl
      | decide +kernel
      | rfl
      | exact Or.inl rfl
      | exact Or.inr rfl
      | exact fun _ => rfl
      | exact fun _ _ => rfl
      | exact fun _ _ _ _ => rfl
      | exact noSwap_cell rfl
      | exact swap_local rfl rfl rfl
      | constructor
theorem def7 : Def1 7 d_longest (bd 9) := by
  refine def_of (e' := ⟨_, _, _, _, _⟩) rfl ⟨rfl, rfl, ?_, first1 rfl rfl, kinds_of (by kernel_rfl), by decide, rfl, rfl, rfl, fun h => (by cases h), ?_⟩
  · intro pm cd doc vs hl
    obtain ⟨a, b, c, rfl⟩ := vlen3 hl
    rfl
  · delta d_longest
    dsimp only
    repeat' first
      | with_reducible rfl
      | kernel_rfl
      | decide +kernel
      | rfl
      | exact Or.inl rfl
      | exact Or.inr rfl
      | exact fun _ => rfl
      | exact fun _ _ => rfl
      | exact fun _ _ _ _ => rfl
      | exact noSwap_cell rfl
      | exact swap_local rfl rfl rfl
      | constructor
theorem def8 : Def1 8 d__law_digit (bd 11) := by
  refine def_of (e' := ⟨_, _, _, _, _⟩) rfl ⟨rfl, rfl, ?_, first1 rfl rfl, kinds_of (by kernel_rfl), by decide, rfl, rfl, rfl, fun h => (by cases h), ?_⟩
  · intro pm cd doc vs hl
    obtain ⟨a, b, rfl⟩ := vlen2 hl
    rfl
  · delta d__law_digit
    dsimp only
    repeat' first
      | with_reducible rfl
      | kernel_rfl
      | decide +kernel
      | rfl
      | exact Or.inl rfl
      | exact Or.inr rfl
      | exact fun _ => rfl
      | exact fun _ _ => rfl
      | exact fun _ _ _ _ => rfl
      | exact noSwap_cell rfl
      | exact swap_local rfl rfl rfl
      | constructor
theorem def9 : Def1 9 d__law_pick (bd 12) := by
  refine def_of (e' := ⟨_, _, _, _, _⟩) rfl ⟨rfl, rfl, ?_, first1 rfl rfl, kinds_of (by kernel_rfl), by decide, rfl, rfl, rfl, fun h => (by cases h), ?_⟩
  · intro pm cd doc vs hl
    obtain ⟨a, b, rfl⟩ := vlen2 hl
    rfl
  · delta d__law_pick
    dsimp only
    repeat' first
      | with_reducible rfl
      | kernel_rfl
      | decide +kernel
      | rfl
      | exact Or.inl rfl
      | exact Or.inr rfl
      | exact fun _ => rfl
      | exact fun _ _ => rfl
      | exact fun _ _ _ _ => rfl
      | exact noSwap_cell rfl
      | exact swap_local rfl rfl rfl
      | constructor
theorem def10 : Def1 10 d__law_latin (bd 13) := by
  refine def_of (e' := ⟨_, _, _, _, _⟩) rfl ⟨rfl, rfl, ?_, first0 rfl, kinds_of (by kernel_rfl), by decide, rfl, rfl, rfl, fun h => (by cases h), ?_⟩
  · intro pm cd doc vs hl
    obtain rfl := vlen0 hl
    rfl
  · delta d__law_latin
    dsimp only
    repeat' first
      | with_reducible rfl
      | kernel_rfl
      | decide +kernel
      | rfl
      | exact Or.inl rfl
      | exact Or.inr rfl
      | exact fun _ => rfl
      | exact fun _ _ => rfl
      | exact fun _ _ _ _ => rfl
      | exact noSwap_cell rfl
      | exact swap_local rfl rfl rfl
      | constructor
theorem def11 : Def1 11 d__law_greek (bd 14) := by
  refine def_of (e' := ⟨_, _, _, _, _⟩) rfl ⟨rfl, rfl, ?_, first0 rfl, kinds_of (by kernel_rfl), by decide, rfl, rfl, rfl, fun h => (by cases h), ?_⟩
  · intro pm cd doc vs hl
    obtain rfl := vlen0 hl
    rfl
  · delta d__law_greek
    dsimp only
    repeat' first
      | with_reducible rfl
      | kernel_rfl
      | decide +kernel
      | rfl
      | exact Or.inl rfl
      | exact Or.inr rfl
      | exact fun _ => rfl
      | exact fun _ _ => rfl
      | exact fun _ _ _ _ => rfl
      | exact noSwap_cell rfl
      | exact swap_local rfl rfl rfl
      | constructor
theorem def12 : Def1 12 d__law_blocks (bd 15) := by
  refine def_of (e' := ⟨_, _, _, _, _⟩) rfl ⟨rfl, rfl, ?_, first0 rfl, kinds_of (by kernel_rfl), by decide, rfl, rfl, rfl, fun h => (by cases h), ?_⟩
  · intro pm cd doc vs hl
    obtain rfl := vlen0 hl
    rfl
  · delta d__law_blocks
    dsimp only
    repeat' first
      | with_reducible rfl
      | kernel_rfl
      | decide +kernel
      | rfl
      | exact Or.inl rfl
      | exact Or.inr rfl
      | exact fun _ => rfl
      | exact fun _ _ => rfl
      | exact fun _ _ _ _ => rfl
      | exact noSwap_cell rfl
      | exact swap_local rfl rfl rfl
      | constructor
theorem def13 : Def1 13 d__law_pairs (bd 16) := by
  refine def_of (e' := ⟨_, _, _, _, _⟩) rfl ⟨rfl, rfl, ?_, first0 rfl, kinds_of (by kernel_rfl), by decide, rfl, rfl, rfl, fun h => (by cases h), ?_⟩
  · intro pm cd doc vs hl
    obtain rfl := vlen0 hl
    rfl
  · delta d__law_pairs
    dsimp only
    repeat' first
      | with_reducible rfl
      | kernel_rfl
      | decide +kernel
      | rfl
      | exact Or.inl rfl
      | exact Or.inr rfl
      | exact fun _ => rfl
      | exact fun _ _ => rfl
      | exact fun _ _ _ _ => rfl
      | exact noSwap_cell rfl
      | exact swap_local rfl rfl rfl
      | constructor
theorem def14 : Def1 14 d__law_letters (bd 17) := by
  refine def_of (e' := ⟨_, _, _, _, _⟩) rfl ⟨rfl, rfl, ?_, first0 rfl, kinds_of (by kernel_rfl), by decide, rfl, rfl, rfl, fun h => (by cases h), ?_⟩
  · intro pm cd doc vs hl
    obtain rfl := vlen0 hl
    rfl
  · delta d__law_letters
    dsimp only
    repeat' first
      | with_reducible rfl
      | kernel_rfl
      | decide +kernel
      | rfl
      | exact Or.inl rfl
      | exact Or.inr rfl
      | exact fun _ => rfl
      | exact fun _ _ => rfl
      | exact fun _ _ _ _ => rfl
      | exact noSwap_cell rfl
      | exact swap_local rfl rfl rfl
      | constructor
theorem def15 : Def1 15 d__law_table (bd 18) := by
  refine def_of (e' := ⟨_, _, _, _, _⟩) rfl ⟨rfl, rfl, ?_, first0 rfl, kinds_of (by kernel_rfl), by decide, rfl, rfl, rfl, fun h => (by cases h), ?_⟩
  · intro pm cd doc vs hl
    obtain rfl := vlen0 hl
    rfl
  · delta d__law_table
    dsimp only
    repeat' first
      | with_reducible rfl
      | kernel_rfl
      | decide +kernel
      | rfl
      | exact Or.inl rfl
      | exact Or.inr rfl
      | exact fun _ => rfl
      | exact fun _ _ => rfl
      | exact fun _ _ _ _ => rfl
      | exact noSwap_cell rfl
      | exact swap_local rfl rfl rfl
      | constructor
theorem def16 : Def1 16 d__law_case (bd 19) := by
  refine def_of (e' := ⟨_, _, _, _, _⟩) rfl ⟨rfl, rfl, ?_, first1 rfl rfl, kinds_of (by kernel_rfl), by decide, rfl, rfl, rfl, fun h => (by cases h), ?_⟩
  · intro pm cd doc vs hl
    obtain ⟨a, b, c, rfl⟩ := vlen3 hl
    rfl
  · delta d__law_case
    dsimp only
    repeat' first
      | with_reducible rfl
      | kernel_rfl
      | decide +kernel
      | rfl
      | exact Or.inl rfl
      | exact Or.inr rfl
      | exact fun _ => rfl
      | exact fun _ _ => rfl
      | exact fun _ _ _ _ => rfl
      | exact noSwap_cell rfl
      | exact swap_local rfl rfl rfl
      | constructor
theorem def17 : Def1 17 d__law_is_read (bd 20) := by
  refine def_of (e' := ⟨_, _, _, _, _⟩) rfl ⟨rfl, rfl, ?_, first1 rfl rfl, kinds_of (by kernel_rfl), by decide, rfl, rfl, rfl, fun h => (by cases h), ?_⟩
  · intro pm cd doc vs hl
    obtain ⟨a, b, c, d, rfl⟩ := vlen4 hl
    rfl
  · delta d__law_is_read
    dsimp only
    repeat' first
      | with_reducible rfl
      | kernel_rfl
      | decide +kernel
      | rfl
      | exact Or.inl rfl
      | exact Or.inr rfl
      | exact fun _ => rfl
      | exact fun _ _ => rfl
      | exact fun _ _ _ _ => rfl
      | exact noSwap_cell rfl
      | exact swap_local rfl rfl rfl
      | constructor
theorem def18 : Def1 18 d_law (bd 21) := by
  refine def_of (e' := ⟨_, _, _, _, _⟩) rfl ⟨rfl, rfl, ?_, first1 rfl rfl, kinds_of (by kernel_rfl), by decide, rfl, rfl, rfl, fun _ => (by kernel_rfl), ?_⟩
  · intro pm cd doc vs hl
    obtain ⟨a, rfl⟩ := vlen1 hl
    rfl
  · delta d_law
    dsimp only
    repeat' first
      | with_reducible rfl
      | kernel_rfl
      | decide +kernel
      | rfl
      | exact Or.inl rfl
      | exact Or.inr rfl
      | exact fun _ => rfl
      | exact fun _ _ => rfl
      | exact fun _ _ _ _ => rfl
      | exact noSwap_cell rfl
      | exact swap_local rfl rfl rfl
      | constructor
theorem recs_eq : recsOf pw = [bd 1, bd 2, bd 3, bd 5, bd 6, bd 7, bd 8, bd 9, bd 11, bd 12, bd 13, bd 14, bd 15, bd 16, bd 17, bd 18, bd 19, bd 20, bd 21] := by kernel_rfl
theorem defs_all : AllD 0 fsL (recsOf pw) := recs_eq ▸ .cons def0 (.cons def1 (.cons def2 (.cons def3 (.cons def4 (.cons def5 (.cons def6 (.cons def7 (.cons def8 (.cons def9 (.cons def10 (.cons def11 (.cons def12 (.cons def13 (.cons def14 (.cons def15 (.cons def16 (.cons def17 (.cons def18 (.nil)))))))))))))))))))
end Mine
end

section
open PySem PySem.W PyProof.Rows
set_option Elab.async false
set_option maxRecDepth 100000
set_option maxHeartbeats 4000000
namespace Mine
theorem names_nodup : names.Nodup := by decide +kernel
theorem names_small : (names.all fun s => match s.cps.toList with | [c] => Nat.blt c 2000000 | _ => true) = true := by decide +kernel
theorem names_dbg : (names.all fun s => !(s == ("__debug__" : Str))) = true := by decide +kernel
theorem nm_inj (x y : Nat) (e : nm x = nm y) : x = y := by
  unfold nm at e
  have out : ∀ (i : Nat) (s : Str) (k : Nat), names[i]? = some s → s ≠ ⟨#[k + 2000000]⟩ := fun i s k h q => by
    have := List.all_eq_true.mp names_small s (List.mem_of_getElem? h)
    rw [q] at this
    have h2 : Nat.blt (k + 2000000) 2000000 = true := this
    have := Nat.blt_eq.mp h2
    omega
  cases hx : names[x]? with
  | none =>
    cases hy : names[y]? with
    | none => rw [hx, hy] at e; simpa using e
    | some t => rw [hx, hy] at e; exact absurd e.symm (out y t x hy)
  | some s =>
    cases hy : names[y]? with
    | none => rw [hx, hy] at e; exact absurd e (out x s y hx)
    | some t =>
      rw [hx, hy] at e
      have e : s = t := e
      subst e
      obtain ⟨h1, h2⟩ := List.getElem?_eq_some_iff.mp hx
      obtain ⟨h3, h4⟩ := List.getElem?_eq_some_iff.mp hy
      exact (List.getElem_inj names_nodup).mp (h2.trans h4.symm)
theorem nm_dbg (x : Nat) : (nm x == ("__debug__" : Str)) = false := by
  unfold nm
  cases hx : names[x]? with
  | none =>
    simp only
    rw [beq_eq_false_iff_ne]
    intro q
    have h1 := congrArg (fun s : Str => s.cps.size) q
    have h2 : (Str.ofString "__debug__").cps.size = 9 := by decide +kernel
    have h3 : (1 : Nat) = (Str.ofString "__debug__").cps.size := h1
    rw [h2] at h3
    cases h3
  | some s =>
    have := List.all_eq_true.mp names_dbg s (List.mem_of_getElem? hx)
    simpa using this

noncomputable def cx (w : World) (h₀ : Heap) (mg mb : Str → Option Value) : Cx := ⟨pw, w, nm, fs, h₀, mg, mb⟩
theorem funs_all (f : Nat) (d : FDef) (h : fs f = some d) : ∃ e, (recsOf pw)[f]? = some e ∧ Def1 f d e := by
  obtain ⟨e, h1, h2⟩ := defs_all.get f d h
  rw [Nat.zero_add] at h2
  exact ⟨e, h1, h2⟩
theorem cx_ok {w : World} {h₀ : Heap} {mg mb : Str → Option Value} {consts : List (Str × PyData)} {objs : List (Str × (Obj → Prop))} {nms : List Str} (G : Glob 0 mg mb ((recsOf pw).map itemOf) consts objs nms h₀)
    (hn : (["ord", "chr", "len", "max", "list", "range"].all fun x => !(nms.contains (Str.ofString x))) = true) : (cx w h₀ mg mb).Ok where
  inj := nm_inj
  nodbg := nm_dbg
  g := G.g
  b := G.b
  lim := G.nolimit
  fn := fun f => by
    have key : ∀ x ∈ ["ord", "chr", "len", "max", "list", "range"], Str.ofString x ∉ nms := fun x hx q => by
      have := List.all_eq_true.mp hn x hx
      rw [List.contains_iff_mem.mpr q] at this
      cases this
    cases f with
    | ord => exact ⟨G.free _ (key "ord" (by simp)) (by decide +kernel), (G.builtins "ord" (by decide +kernel)).trans (by decide +kernel)⟩
    | chr => exact ⟨G.free _ (key "chr" (by simp)) (by decide +kernel), (G.builtins "chr" (by decide +kernel)).trans (by decide +kernel)⟩
    | len => exact ⟨G.free _ (key "len" (by simp)) (by decide +kernel), (G.builtins "len" (by decide +kernel)).trans (by decide +kernel)⟩
    | max => exact ⟨G.free _ (key "max" (by simp)) (by decide +kernel), (G.builtins "max" (by decide +kernel)).trans (by decide +kernel)⟩
    | list => exact ⟨G.free _ (key "list" (by simp)) (by decide +kernel), (G.builtins "list" (by decide +kernel)).trans (by decide +kernel)⟩
  range := by
    have key : Str.ofString "range" ∉ nms := fun q => by
      have := List.all_eq_true.mp hn "range" (by simp)
      rw [List.contains_iff_mem.mpr q] at this
      cases this
    exact ⟨G.free _ key (by decide +kernel), (G.builtins "range" (by decide +kernel)).trans (by decide +kernel)⟩
  funs := fun f d h => by
    obtain ⟨e, he, D⟩ := funs_all f d h
    obtain ⟨a, c', o, pm, doc, _, _, h3, h4, h5, h6⟩ := (G.made (itemOf e) (List.mem_map_of_mem (List.mem_of_getElem? he))).plain D.dflt
    exact ⟨a, o, e.name, e.params, e.body, e.scope, pm, .ref c', doc, ⟨by have : (itemOf e).name = nm f := D.name; show mg (nm f) = _; rw [← this]; exact h3, h4, h5, h6, D.bind pm (.ref c') doc, D.nodup, D.kinds, D.first, D.co, D.gen, D.kind, D.tr⟩⟩

/-- the law's own frame -/
theorem enter {w : World} {s : Shared} {h₁ : Heap} {mg mb : Str → Option Value} (ok : (cx w s.heap mg mb).Ok) {name : Str} {scope : Scope} {fa : Addr} {cd : Value} {body : List Stmt} {a : Addr} {vs : Array Value} {ds : List Dat} {m : Str → Option Value} {ρ' : Rho}
    (tr : TrSs nm scope.names body d_law.body) (hk : scope.kind = .function) (hc : (scope.names.all fun p => !(p.2 == NameKind.cell)) = true) (hl36 : scope.names.lookup (nm 36) = some .local)
    (F : Fr s.heap s.heap.objs.size h₁ m) (hm : m (nm 36) = some (.ref a)) (hl : s.heap.IsList a vs) (rl : RepL pw w s.heap [] vs.toList ds)
    (law : exs (run fs 63) d_law.body ⟨[(36, .list ds)], none⟩ = some (.ret (.bool true), ρ')) (tk : Nat) (pt : 0 < tk) :
    Go (model pw w) (callerA.deeper (envOf name scope s.heap.objs.size fa cd)) (execs body (envOf name scope s.heap.objs.size fa cd)) { s with heap := h₁, toks := tk }
      fun f h' => f = .ret (.bool true) ∧ ∃ m', Fr s.heap s.heap.objs.size h' m' := by
  have X : ExOk (cx w s.heap mg mb) 63 (run fs 63) := (sound ok 63).2
  have aok : AOk 63 (callerA.deeper (envOf name scope s.heap.objs.size fa cd)) := ⟨rfl, by show 301 + 1 + 63 ≤ 900; decide, by show 4 + 3 + 10 * 63 ≤ 9000; decide⟩
  have L0 : s.heap.get? s.heap.objs.size = none := none_of_size
  have kk : Keep s.heap [] h₁ ([] ++ [s.heap.objs.size]) := fun b o _ e => ⟨F.keep b o e, fun q => by
    rw [List.mem_singleton.mp q, L0] at e; cases e⟩
  have anl : a ∉ [] ++ [s.heap.objs.size] := fun q => by
    obtain ⟨o, ho, _⟩ := hl
    rw [List.mem_singleton.mp q, L0] at ho; cases ho
  have ce : ∀ n, (envOf name scope s.heap.objs.size fa cd).kindOf n = some .cell → False := fun n e => by
    have := List.all_eq_true.mp hc _ (mem_of_lookup' e)
    cases this
  have iv : Inv (cx w s.heap mg mb) (envOf name scope s.heap.objs.size fa cd) [s.heap.objs.size] [] ⟨[(36, .list ds)], none⟩ h₁ := by
    refine ⟨⟨hk, rfl, rfl, List.mem_singleton.mpr rfl, fun n a e => (nomatch e), fun n n' a e _ => (nomatch e), fun n e => (ce n e).elim⟩, fun b hb => ?_, fun b o e => F.keep b o e, fun b hb => ?_, fun _ h => (nomatch h), fun n a e => (nomatch e), ⟨m, F.ns, fun x d e => ?_, rfl⟩, fun _ _ e => (nomatch e)⟩
    · rw [List.mem_singleton.mp hb]; exact L0
    · rw [List.mem_singleton.mp hb]; obtain ⟨o, _, _, ho, _⟩ := F.ns; exact ⟨o, ho⟩
    · unfold look at e
      cases q : Nat.beq 36 x with
      | false => rw [q] at e; cases e
      | true =>
        rw [q] at e
        cases e
        have := Nat.eq_of_beq_eq_true q
        subst this
        exact ⟨.ref a, .list anl (hl.at fun o e => F.keep _ o e) (rl.keep kk), .inl ⟨hl36, hm⟩⟩
  refine (exs_ok (c := cx w s.heap mg mb) (env := envOf name scope s.heap.objs.size fa cd) (s := { s with heap := h₁, toks := tk }) X aok tr law iv pt).mono fun f h' ⟨as2, i2, st2, _, v, hf, rv⟩ => ?_
  cases rv
  refine ⟨hf, ?_⟩
  obtain ⟨m', hn, _⟩ := i2.loc
  exact ⟨m', hn, fun b o e => i2.ext b o e, F.above⟩
end Mine
end

section
open PySem PySem.W PyProof.Rows
set_option Elab.async false
set_option maxRecDepth 10000
namespace Mine
/-! more fuel, the same answers -/
structure Le (r r' : Rec) : Prop where
  ev : ∀ {e ρ z}, r.ev e ρ = some z → r'.ev e ρ = some z
  te : ∀ {e ρ z}, r.te e ρ = some z → r'.te e ρ = some z
  ex : ∀ {e ρ z}, r.ex e ρ = some z → r'.ex e ρ = some z
  call : ∀ {f a m z}, r.call f a m = some z → r'.call f a m = some z
section
variable {r r' : Rec} (L : Le r r') {fs : Nat → Option FDef}
include L
theorem evs_le : ∀ {es : List Ex} {ρ : Rho} {z}, evs r es ρ = some z → evs r' es ρ = some z
  | [], _, _, h => h
  | e :: es, ρ, z, h => by
    unfold evs at h ⊢
    split at h
    · rename_i e1
      rw [L.ev e1]
      simp only
      split at h
      · rename_i e2
        rw [evs_le e2]
        exact h
      · cases h
    · cases h
theorem tesAnd_le : ∀ {es : List Te} {ρ : Rho} {z}, tesAnd r es ρ = some z → tesAnd r' es ρ = some z
  | [], _, _, h => h
  | e :: es, ρ, z, h => by
    unfold tesAnd at h ⊢
    split at h
    · rename_i e1; rw [L.te e1]; exact tesAnd_le h
    · rename_i e1; rw [L.te e1]; exact h
    · cases h
theorem tesOr_le : ∀ {es : List Te} {ρ : Rho} {z}, tesOr r es ρ = some z → tesOr r' es ρ = some z
  | [], _, _, h => h
  | e :: es, ρ, z, h => by
    unfold tesOr at h ⊢
    split at h
    · rename_i e1; rw [L.te e1]; exact tesOr_le h
    · rename_i e1; rw [L.te e1]; exact h
    · cases h
theorem evO_le {e : Option Ex} {ρ : Rho} {z} (h : evO r e ρ = some z) : evO r' e ρ = some z := by
  cases e with
  | none => exact h
  | some e =>
    dsimp only [evO] at h ⊢
    split at h
    · rename_i e1; rw [L.ev e1]; exact h
    · cases h
theorem exs_le : ∀ {es : List St} {ρ : Rho} {z}, exs r es ρ = some z → exs r' es ρ = some z
  | [], _, _, h => h
  | e :: es, ρ, z, h => by
    unfold exs at h ⊢
    split at h
    · rename_i e1; rw [L.ex e1]; exact exs_le h
    · rename_i e1; rw [L.ex e1]; exact h
    · cases h
theorem iter_le {e : It} {ρ : Rho} {z} (h : iter r e ρ = some z) : iter r' e ρ = some z := by
  cases e with
  | val e =>
    dsimp only [iter] at h ⊢
    split at h
    · rename_i e1; rw [L.ev e1]; exact h
    · cases h
  | range1 e =>
    dsimp only [iter] at h ⊢
    split at h
    · rename_i e1; rw [L.ev e1]; exact h
    · cases h
  | range2 a b =>
    dsimp only [iter] at h ⊢
    split at h
    · rename_i e1
      rw [L.ev e1]
      simp only
      split at h
      · rename_i e2; rw [L.ev e2]; exact h
      · cases h
    · cases h
theorem turn_le {elt : Ex} {ifs : List Te} {v : Vars} {acc z} (h : turn r elt ifs v acc = some z) : turn r' elt ifs v acc = some z := by
  unfold turn at h ⊢
  split at h
  · rename_i e1
    rw [tesAnd_le L e1]
    simp only
    split at h
    · rename_i e2; rw [L.ev e2]; exact h
    · cases h
  · rename_i e1; rw [tesAnd_le L e1]; exact h
  · cases h
theorem loop1_le {elt : Ex} {ifs : List Te} {x : Nat} {v : Vars} : ∀ {ds acc z}, loop1 r elt ifs x v ds acc = some z → loop1 r' elt ifs x v ds acc = some z
  | [], _, _, h => h
  | d :: ds, acc, z, h => by
    unfold loop1 at h ⊢
    split at h
    · rename_i e1; rw [turn_le L e1]; exact loop1_le h
    · cases h
theorem loop2_le {elt : Ex} {ifs : List Te} {x y : Nat} {it : It} {v : Vars} : ∀ {ds acc z}, loop2 r elt ifs x y it v ds acc = some z → loop2 r' elt ifs x y it v ds acc = some z
  | [], _, _, h => h
  | d :: ds, acc, z, h => by
    unfold loop2 at h ⊢
    split at h
    · rename_i e1
      rw [iter_le L e1]
      simp only
      split at h
      · rename_i e2; rw [loop1_le L e2]; exact loop2_le h
      · cases h
    · cases h
theorem forL_le {xs : List Nat} {tp : Bool} {body : List St} : ∀ {ds : List Dat} {ρ : Rho} {z}, forL r xs tp body ds ρ = some z → forL r' xs tp body ds ρ = some z
  | [], _, _, h => h
  | d :: ds, ρ, z, h => by
    unfold forL at h ⊢
    split at h
    · cases h
    · split at h
      · split at h
        · rename_i e2; rw [exs_le L e2]; exact forL_le h
        · rename_i e2; rw [exs_le L e2]; exact h
        · cases h
      · cases h
theorem stepE_le {e : Ex} {ρ : Rho} {z} (h : stepE r e ρ = some z) : stepE r' e ρ = some z := by
  cases e <;> dsimp only [stepE] at h ⊢
  all_goals
    repeat' (first
        | exact h
        | exact L.ev h
        | (rw [Option.map_eq_some_iff] at h ⊢; obtain ⟨a, ha, e⟩ := h; first | exact ⟨a, loop1_le L ha, e⟩ | exact ⟨a, loop2_le L ha, e⟩)
        | (cases h; done)
        | (rename_i q; (first | rw [L.ev q] | rw [L.te q] | rw [L.call q] | rw [evs_le L q] | rw [evO_le L q] | rw [iter_le L q] | rw [loop1_le L q] | rw [q]); dsimp only)
        | (split at h))
theorem stepT_le {e : Te} {ρ : Rho} {z} (h : stepT r e ρ = some z) : stepT r' e ρ = some z := by
  cases e with
  | and ts => exact tesAnd_le L h
  | or ts => exact tesOr_le L h
  | _ =>
    dsimp only [stepT] at h ⊢
    repeat' (first
        | exact h
        | (cases h; done)
        | (rename_i q; (first | rw [L.ev q] | rw [L.te q] | rw [L.call q] | rw [evs_le L q] | rw [evO_le L q] | rw [iter_le L q] | rw [loop1_le L q] | rw [q]); dsimp only)
        | (split at h))
theorem stepS_le {e : St} {ρ : Rho} {z} (h : stepS r e ρ = some z) : stepS r' e ρ = some z := by
  cases e <;> dsimp only [stepS] at h ⊢
  all_goals
    repeat' (first
        | exact h | exact exs_le L h | exact forL_le L h
        | (cases h; done)
        | (rename_i q; (first | rw [L.ev q] | rw [L.te q] | rw [L.call q] | rw [evs_le L q] | rw [evO_le L q] | rw [iter_le L q] | rw [loop1_le L q] | rw [exs_le L q] | rw [forL_le L q] | rw [q]); dsimp only)
        | (split at h))
theorem stepC_le {f : Nat} {a : List Dat} {m : Option MDat} {z} (h : stepC fs r f a m = some z) : stepC fs r' f a m = some z := by
  unfold stepC at h ⊢
  cases hf : fs f with
  | none => rw [hf] at h; cases h
  | some d =>
    rw [hf] at h
    dsimp only at h ⊢
    cases m with
    | none =>
      dsimp only at h ⊢
      split at h
      · split at h
        · rename_i q; rw [exs_le L q]; exact h
        · cases h
      · cases h
    | some md =>
      dsimp only at h ⊢
      split at h
      · cases h
      · split at h
        · split at h
          · split at h
            · split at h
              · rename_i q; rw [exs_le L q]; exact h
              · cases h
            · cases h
          · cases h
        · cases h
theorem step_le : Le (step fs r) (step fs r') := ⟨fun h => stepE_le L h, fun h => stepT_le L h, fun h => stepS_le L h, fun h => stepC_le L h⟩
end
theorem run_le1 (fs : Nat → Option FDef) : ∀ n, Le (run fs n) (run fs (n + 1))
  | 0 => ⟨fun h => (by cases h), fun h => (by cases h), fun h => (by cases h), fun h => (by cases h)⟩
  | n + 1 => step_le (run_le1 fs n)
theorem Le.refl (r : Rec) : Le r r := ⟨id, id, id, id⟩
theorem Le.trans {a b c : Rec} (x : Le a b) (y : Le b c) : Le a c := ⟨fun h => y.ev (x.ev h), fun h => y.te (x.te h), fun h => y.ex (x.ex h), fun h => y.call (x.call h)⟩
theorem run_le (fs : Nat → Option FDef) {n m : Nat} (h : n ≤ m) : Le (run fs n) (run fs m) := by
  obtain ⟨k, rfl⟩ := Nat.exists_eq_add_of_le h
  induction k with
  | zero => exact .refl _
  | succ k ih => exact (ih (by omega)).trans (run_le1 fs (n + k))
end Mine
end

section
open PySem PySem.W PyProof.Rows
set_option Elab.async false
set_option maxRecDepth 100000
namespace Mine
theorem ev_succ (fs : Nat → Option FDef) (n : Nat) (e : Ex) (ρ : Rho) : (run fs (n + 1)).ev e ρ = stepE (run fs n) e ρ := rfl
theorem te_succ (fs : Nat → Option FDef) (n : Nat) (e : Te) (ρ : Rho) : (run fs (n + 1)).te e ρ = stepT (run fs n) e ρ := rfl
theorem ex_succ (fs : Nat → Option FDef) (n : Nat) (e : St) (ρ : Rho) : (run fs (n + 1)).ex e ρ = stepS (run fs n) e ρ := rfl
theorem call_succ (fs : Nat → Option FDef) (n : Nat) (f : Nat) (a : List Dat) (m : Option MDat) : (run fs (n + 1)).call f a m = stepC fs (run fs n) f a m := rfl

/-- the rows of the program, by their first sign -/
noncomputable def rowsD : List (Str × Str) := match d_row_of.body with
  | .assign _ (.dictS kvs) :: _ => kvs
  | _ => []
noncomputable def rowS (p : Str) : Str := match getD rowsD p with
  | some s => s
  | none => ⟨#[]⟩
theorem getD_map {α β : Type} (g : α → β) : ∀ (l : List (Str × α)) (k : Str), getD (l.map fun p => (p.1, g p.2)) k = (getD l k).map g
  | [], _ => rfl
  | (q, v) :: r, k => by
    simp only [List.map_cons, getD]
    cases sameS q k with
    | true => rfl
    | false => exact getD_map g r k
theorem row_body : d_row_of = ⟨[21], [.assign 20 (.dictS rowsD), .ret (.m2 .get (.var 20) (.var 21) (.str ⟨#[]⟩))]⟩ := rfl
theorem row_of_spec (p : Str) : (run fs 6).call 3 [.str p] none = some (.str (rowS p), none) := by
  rw [call_succ]
  unfold stepC
  have e : fs 3 = some d_row_of := rfl
  rw [e, row_body]
  simp only [putAll, put, exs, ex_succ, stepS, ev_succ, stepE, isMu, look, Nat.beq]
  simp only [r_rep, r_get, getD_map]
  unfold rowS
  cases getD rowsD p with
  | none => rfl
  | some s => rfl
end Mine
end

section
open PySem PySem.W PyProof.Rows
set_option Elab.async false
set_option maxRecDepth 100000
namespace Mine
noncomputable section
noncomputable def nameOf (w : Str) : Str := match splitF 61 w with
  | a :: _ => a
  | [] => ⟨#[]⟩
noncomputable def textOf (w : Str) : Str := match splitF 61 w with
  | [_, b] => (match (run fs 20).call 4 [.str b] none with
    | some (.str t, _) => t
    | _ => ⟨#[]⟩)
  | _ => ⟨#[]⟩
noncomputable def goodRow (w : Str) : Bool := match Nat.ble (w.cps.size + 2) lim with
  | true => match splitF 61 w with
    | [a, b] => match Nat.ble 1 a.cps.size with
      | true => match Nat.ble a.cps.size 40 with
        | true => (match (run fs 20).call 4 [.str b] none with
          | some (.str _, none) => true
          | _ => false)
        | false => false
      | false => false
    | _ => false
  | false => false
noncomputable def rowsOk : Bool := rowsD.all fun p => match Nat.ble (p.2.cps.size + 2) lim with
  | true => fSs (wordsF p.2) fun ws => ws.all goodRow
  | false => false
theorem rows_ok : rowsOk = true := by decide +kernel
theorem getD_mem {α : Type} : ∀ {l : List (Str × α)} {k : Str} {v : α}, getD l k = some v → ∃ q, (q, v) ∈ l ∧ q = k
  | (q, u) :: r, k, v, h => by
    unfold getD at h
    rw [sameS_eq] at h
    by_cases e : q = k
    · simp only [decide_eq_true e] at h
      cases h
      exact ⟨q, List.mem_cons_self, e⟩
    · simp only [decide_eq_false e] at h
      obtain ⟨q', h1, h2⟩ := getD_mem h
      exact ⟨q', List.mem_cons_of_mem _ h1, h2⟩
theorem row_fit (p : Str) : (rowS p).cps.size + 2 ≤ lim ∧ ∀ w ∈ wordsF (rowS p), goodRow w = true := by
  unfold rowS
  cases h : getD rowsD p with
  | none => exact ⟨by decide, fun w hw => (nomatch hw)⟩
  | some s =>
    obtain ⟨q, hm, _⟩ := getD_mem h
    have := List.all_eq_true.mp rows_ok _ hm
    dsimp only at this
    split at this
    · rename_i hb
      rw [fSs_eq] at this
      exact ⟨Nat.le_of_ble_eq_true hb, fun w hw => List.all_eq_true.mp this w hw⟩
    · cases this
theorem good_split {w : Str} (h : goodRow w = true) : w.cps.size + 2 ≤ lim ∧ (1 ≤ (nameOf w).cps.size ∧ (nameOf w).cps.size ≤ 40) ∧ ∃ b, splitF 61 w = [nameOf w, b] ∧ (run fs 20).call 4 [.str b] none = some (.str (textOf w), none) := by
  unfold goodRow at h
  split at h
  rotate_left
  · cases h
  rename_i hb
  refine ⟨Nat.le_of_ble_eq_true hb, ?_⟩
  split at h
  rotate_left
  · cases h
  rename_i a b hs
  split at h
  rotate_left
  · cases h
  rename_i q1
  split at h
  rotate_left
  · cases h
  rename_i q2
  split at h
  rotate_left
  · cases h
  rename_i t ht
  have hn : nameOf w = a := by unfold nameOf; rw [hs]
  rw [hn]
  refine ⟨⟨Nat.le_of_ble_eq_true q1, Nat.le_of_ble_eq_true q2⟩, b, hs, ?_⟩
  unfold textOf
  rw [hs]
  simp only
  rw [ht]

noncomputable def namedT (x : Str) : Str := match (wordsF (rowS (Txt.slice x none (some 1)))).find? (fun w => sameS (nameOf w) x) with
  | some w => textOf w
  | none => ⟨#[]⟩
noncomputable def namedBody : List St := match d_named_text.body with
  | .forE _ _ _ b :: _ => b
  | _ => []
theorem idx0 (a : Dat) (l : List Dat) : idxD (.list (a :: l)) (.int 0) = some a := rfl
theorem idx1 (a b : Dat) (l : List Dat) : idxD (.list (a :: b :: l)) (.int 1) = some b := rfl
theorem split_row {w b : Str} (hw : w.cps.size + 2 ≤ lim) (hs : splitF 61 w = [nameOf w, b]) : m1D .split (.str w) (.str ⟨#[61]⟩) = some (.list [.str (nameOf w), .str b]) := by
  simp only [r_split, r_join, r_sw, oneOf, someSs_eq, hs, if_pos hw]
  rfl
theorem named_loop (x : Str) : ∀ (ws : List Str), (∀ w ∈ ws, goodRow w = true) → ∀ vars, look vars 29 = some (.str x) →
    ∃ ρ', forL (run fs 26) [27] false namedBody (ws.map .str) ⟨vars, none⟩ = some (match ws.find? (fun w => sameS (nameOf w) x) with | some w => .ret (.str (textOf w)) | none => .next, ρ') ∧ ρ'.mu = none
  | [], _, vars, _ => ⟨_, rfl, rfl⟩
  | w :: ws, hg, vars, hx => by
    obtain ⟨hw, _, b, hs, hc⟩ := good_split (hg w List.mem_cons_self)
    have hc' := (run_le fs (show 20 ≤ 23 by decide)).call hc
    have e1 := split_row hw hs
    have l1 : look (put (put vars 27 (.str w)) 28 (.list [.str (nameOf w), .str b])) 29 = some (.str x) := by
      rw [look_put, look_put]; simpa using hx
    have l2 : look (put (put vars 27 (.str w)) 28 (.list [.str (nameOf w), .str b])) 28 = some (.list [.str (nameOf w), .str b]) := by
      rw [look_put]; simp
    have l3 : look (put vars 27 (.str w)) 27 = some (.str w) := by rw [look_put]; simp
    obtain ⟨ρ2, h2, m2⟩ := named_loop x ws (fun w hw => hg w (List.mem_cons_of_mem _ hw)) _ l1
    rw [List.find?_cons]
    unfold namedBody d_named_text at h2 ⊢
    unfold forL
    simp only [List.map_cons, List.any_cons, List.any_nil, isMu, bindFor, exs, ex_succ, stepS, ev_succ, stepE, te_succ, stepT, Bool.or_false, l1, l2, l3, e1, Option.map_some, idx0, idx1, r_ne, r_eq, r_lt, r_gt, r_isin, r_eqs, r_eqi, r_eqd, evs, hc']
    cases hq : sameS (nameOf w) x with
    | true => exact ⟨_, rfl, rfl⟩
    | false => exact ⟨ρ2, h2, m2⟩
theorem slice_fit (x : Str) (a b : Option Int) : (Txt.slice x a b).cps.size ≤ x.cps.size := Txt.slice_le x a b
theorem slice_str {x : Str} (hx : x.cps.size ≤ lim) (a b : Option Int) : sliceD (.str x) a b = some (.str (Txt.slice x a b)) := by simp only [r_sls, r_sll, if_pos hx]
theorem split_rows (p : Str) : m0D .split (.str (rowS p)) = some (.list ((wordsF (rowS p)).map .str)) := by simp only [r_words, r_lower, r_swap, if_pos (row_fit p).1, someSs_eq]
theorem items_rows (p : Str) : itemsD (.list ((wordsF (rowS p)).map .str)) = some ((wordsF (rowS p)).map .str) := by
  have hl : ((wordsF (rowS p)).map Dat.str).length ≤ lim := by
    rw [List.length_map, ← words_eq]
    have := words_few (rowS p)
    have := (row_fit p).1
    omega
  simp only [r_itl, r_its, r_itd, if_pos hl]
theorem int0 : intO none = some none := rfl
theorem int1 : intO (some (.int 1)) = some (some 1) := rfl
theorem named_spec (x : Str) (hx : x.cps.size ≤ lim) : (run fs 30).call 6 [.str x] none = some (.str (namedT x), none) := by
  obtain ⟨_, hg⟩ := row_fit (Txt.slice x none (some 1))
  obtain ⟨ρ', h, hm⟩ := named_loop x (wordsF (rowS (Txt.slice x none (some 1)))) hg [(29, .str x)] rfl
  have h := forL_le (run_le fs (show 26 ≤ 28 by decide)) h
  have hr := (run_le fs (show 6 ≤ 26 by decide)).call (row_of_spec (Txt.slice x none (some 1)))
  rw [call_succ]
  unfold stepC
  have e : fs 6 = some d_named_text := rfl
  rw [e]
  unfold namedBody at h
  unfold d_named_text at h ⊢
  simp only [putAll, put, exs, ex_succ, stepS, ev_succ, stepE, evs, evO, iter, look, int0, int1, slice_str hx, Option.map_some, hr, split_rows, items_rows]
  dsimp only at h
  rw [h]
  unfold namedT
  cases (wordsF (rowS (Txt.slice x none (some 1)))).find? (fun w => sameS (nameOf w) x) with
  | none => rfl
  | some w => rfl
end
end Mine
end

section
open PySem PySem.W PyProof.Rows
set_option Elab.async false
set_option maxRecDepth 100000
namespace Mine
noncomputable section
noncomputable def goLong (a : Str) (closed : Bool) : List Str → Int → Int
  | [], best => best
  | w :: ws, best => match Txt.startswith a (nameOf w) with
    | true => goLong a closed ws (if best < ((nameOf w).cps.size : Int) then ((nameOf w).cps.size : Int) else best)
    | false => match closed with
      | true => goLong a closed ws best
      | false => match Txt.startswith (nameOf w) a with
        | true => -1
        | false => goLong a closed ws best
noncomputable def longT (a : Str) (closed : Bool) : Int := match sameS a ⟨#[]⟩, closed with
  | true, false => -1
  | _, _ => goLong a closed (wordsF (rowS (Txt.slice a none (some 1)))) 0
noncomputable def longBody : List St := match d_longest.body with
  | _ :: _ :: _ :: .forE _ _ _ b :: _ => b
  | _ => []
theorem len_str {x : Str} (h : x.cps.size ≤ lim) : fnD .len (.str x) = some (.int x.cps.size) := by simp only [r_ord, r_chr, r_lens, r_lenl, r_max, r_flist, if_pos h]
theorem starts_str (a b : Str) : m1D .startswith (.str a) (.str b) = some (.bool (Txt.startswith a b)) := rfl
theorem cmp_gt (a b : Int) : cmpD .gt (.int a) (.int b) = some (decide (b < a)) := rfl
theorem cmp_eqS (a b : Str) : cmpD .eq (.str a) (.str b) = some (sameS a b) := rfl
theorem add_int' (a b : Int) : binD .add (.int a) (.int b) = some (.int (a + b)) := rfl
theorem long_loop (a : Str) (closed : Bool) : ∀ (ws : List Str), (∀ w ∈ ws, goodRow w = true) → ∀ vars best, look vars 30 = some (.str a) → look vars 33 = some (.bool closed) → look vars 34 = some (.int best) →
    (∃ ρ', forL (run fs 27) [27] false longBody (ws.map .str) ⟨vars, none⟩ = some (.ret (.int (goLong a closed ws best)), ρ')) ∨
    (∃ v', forL (run fs 27) [27] false longBody (ws.map .str) ⟨vars, none⟩ = some (.next, ⟨v', none⟩) ∧ look v' 34 = some (.int (goLong a closed ws best)))
  | [], _, vars, best, _, _, h34 => .inr ⟨_, rfl, h34⟩
  | w :: ws, hg, vars, best, h30, h33, h34 => by
    obtain ⟨hw, ⟨_, hn⟩, b, hs, _⟩ := good_split (hg w List.mem_cons_self)
    have hnl : (nameOf w).cps.size ≤ lim := Nat.le_trans hn (by decide)
    have e1 := split_row hw hs
    have e2 := len_str hnl
    have k0 : look (put vars 27 (.str w)) 27 = some (.str w) := by rw [look_put]; simp
    have k1 : look (put (put vars 27 (.str w)) 29 (.str (nameOf w))) 30 = some (.str a) := by rw [look_put, look_put]; simpa using h30
    have k2 : look (put (put vars 27 (.str w)) 29 (.str (nameOf w))) 33 = some (.bool closed) := by rw [look_put, look_put]; simpa using h33
    have k3 : look (put (put vars 27 (.str w)) 29 (.str (nameOf w))) 34 = some (.int best) := by rw [look_put, look_put]; simpa using h34
    have k4 : look (put (put vars 27 (.str w)) 29 (.str (nameOf w))) 29 = some (.str (nameOf w)) := by rw [look_put]; simp
    have ih := fun v' best' a1 a2 a3 => long_loop a closed ws (fun w hw => hg w (List.mem_cons_of_mem _ hw)) v' best' a1 a2 a3
    unfold goLong
    unfold longBody d_longest at ih ⊢
    unfold forL
    dsimp only at ih
    simp only [List.map_cons, List.any_cons, List.any_nil, isMu, bindFor, exs, ex_succ, stepS, ev_succ, stepE, te_succ, stepT, tesAnd, Bool.or_false, k0, k1, k2, k3, k4, e1, e2, Option.map_some, idx0, starts_str, cmp_gt]
    cases q : Txt.startswith a (nameOf w) with
    | true =>
      simp only
      by_cases hb : best < ((nameOf w).cps.size : Int)
      · simp only [decide_eq_true hb, if_pos hb]
        exact ih _ _ (by rw [look_put]; simpa using k1) (by rw [look_put]; simpa using k2) (by rw [look_put]; simp)
      · simp only [decide_eq_false hb, if_neg hb]
        exact ih _ _ k1 k2 k3
    | false =>
      cases closed with
      | true =>
        simp only [Bool.not_true]
        exact ih _ _ k1 k2 k3
      | false =>
        simp only [Bool.not_false]
        cases q2 : Txt.startswith (nameOf w) a with
        | true => exact .inl ⟨_, rfl⟩
        | false => exact ih _ _ k1 k2 k3

theorem strsD_of (l : List Str) : strsD (l.map .str) = some l := by
  induction l with
  | nil => rfl
  | cons x l ih => simp only [List.map_cons, strsD, ih, Option.map_some]
theorem intO_nat (k : Nat) (h : k < lim) : intO (some (.int (k : Int))) = some (some (k : Int)) := by
  simp only [r_intO]
  rw [if_pos]
  constructor
  · have : (0 : Int) ≤ (k : Int) := Int.natCast_nonneg k
    have h2 : (0 : Int) < (lim : Int) := Int.natCast_pos.mpr (Nat.lt_of_le_of_lt (Nat.zero_le _) h)
    omega
  · exact Int.ofNat_lt.mpr h
theorem take40 (signs : List Str) (k : Nat) (hl : signs.length ≤ lim) : sliceD (.list (signs.map .str)) (some (k : Int)) (some ((k : Int) + 40)) = some (.list (((signs.drop k).take 40).map .str)) := by
  simp only [r_sls, r_sll, List.length_map]
  rw [if_pos ⟨by omega, by omega, hl⟩]
  have e1 : (k : Int).toNat = k := by omega
  have e2 : ((k : Int) + 40).toNat - (k : Int).toNat = 40 := by omega
  rw [e1] at e2 ⊢
  rw [e2, ← List.map_drop, ← List.map_take]
theorem join_strs (sep : Str) (l : List Str) (hf : (l.map (·.length)).sum + l.length * sep.length ≤ lim) : m1D .join (.str sep) (.list (l.map .str)) = some (.str (Txt.join sep l)) := by
  simp only [r_split, r_join, r_sw, strsD_of, if_pos hf, someL_eq]
  rw [join_eq]
theorem call_none (fs : Nat → Option FDef) (n f : Nat) (d : FDef) (args : List Dat) (h : fs f = some d) : (run fs (n + 1)).call f args none = match putAll d.params args [] with
    | some v => match exs (run fs n) d.body ⟨v, none⟩ with
      | some (.ret d, _) => some (d, none)
      | _ => none
    | none => none := by
  rw [call_succ]
  unfold stepC
  rw [h]
  all_goals rfl
theorem long_spec (signs : List Str) (k : Nat) (closed : Bool) (hk3 : k = 0 ∨ k = 1 ∨ k = 2) (hl : signs.length ≤ lim) (hf : (((signs.drop k).take 40).map (·.length)).sum + ((signs.drop k).take 40).length * (⟨#[]⟩ : Str).length ≤ lim)
    (has : (Txt.join ⟨#[]⟩ ((signs.drop k).take 40)).cps.size ≤ lim) : (run fs 32).call 7 [.list (signs.map .str), .int k, .bool closed] none = some (.int (longT (Txt.join ⟨#[]⟩ ((signs.drop k).take 40)) closed), none) := by
  have jn := join_strs ⟨#[]⟩ _ hf
  have sl := take40 signs k hl
  have i1 : intO (some (.int (k : Int))) = some (some (k : Int)) := by rcases hk3 with rfl | rfl | rfl <;> rfl
  have i2 : intO (some (.int ((k : Int) + 40))) = some (some ((k : Int) + 40)) := by rcases hk3 with rfl | rfl | rfl <;> rfl
  generalize hkk : (k : Int) = kk at i1 i2 sl ⊢
  have k3 : kk = 0 ∨ kk = 1 ∨ kk = 2 := by omega
  clear hkk
  generalize Txt.join ⟨#[]⟩ ((signs.drop k).take 40) = a at jn has ⊢
  rcases k3 with rfl | rfl | rfl
  · obtain ⟨_, hg⟩ := row_fit (Txt.slice a none (some 1))
    have hr := (run_le fs (show 6 ≤ 28 by decide)).call (row_of_spec (Txt.slice a none (some 1)))
    have lp := long_loop a closed (wordsF (rowS (Txt.slice a none (some 1)))) hg [(31, .list (signs.map .str)), (32, .int 0), (33, .bool closed), (30, .str a), (34, .int 0)] 0 rfl rfl rfl
    have up := @forL_le _ _ (run_le fs (show 27 ≤ 30 by decide))
    have e : fs 7 = some d_longest := rfl
    rw [call_none fs 31 7 d_longest _ e]
    clear hf hl
    unfold longT
    unfold longBody at lp
    unfold d_longest at lp ⊢
    dsimp only at lp
    simp only [putAll, put, Nat.beq, exs, ex_succ, stepS, ev_succ, stepE, te_succ, stepT, tesAnd, evs, evO, iter, look, isMu, add_int', i1, i2, int0, int1, sl, jn, Option.map_some, cmp_eqS]
    cases hs : sameS a ⟨#[]⟩ with
    | true =>
      cases closed with
      | false => rfl
      | true =>
        simp only [Bool.not_true, put, Nat.beq, look, slice_str has, hr, Option.map_some, split_rows, items_rows]
        rcases lp with ⟨ρ', h⟩ | ⟨v', h, h34⟩
        · rw [up h]
        · rw [up h]; simp only [h34]
    | false =>
      simp only [put, Nat.beq, look, slice_str has, hr, Option.map_some, split_rows, items_rows]
      rcases lp with ⟨ρ', h⟩ | ⟨v', h, h34⟩
      · rw [up h]
      · rw [up h]; simp only [h34]
  · obtain ⟨_, hg⟩ := row_fit (Txt.slice a none (some 1))
    have hr := (run_le fs (show 6 ≤ 28 by decide)).call (row_of_spec (Txt.slice a none (some 1)))
    have lp := long_loop a closed (wordsF (rowS (Txt.slice a none (some 1)))) hg [(31, .list (signs.map .str)), (32, .int 1), (33, .bool closed), (30, .str a), (34, .int 0)] 0 rfl rfl rfl
    have up := @forL_le _ _ (run_le fs (show 27 ≤ 30 by decide))
    have e : fs 7 = some d_longest := rfl
    rw [call_none fs 31 7 d_longest _ e]
    clear hf hl
    unfold longT
    unfold longBody at lp
    unfold d_longest at lp ⊢
    dsimp only at lp
    simp only [putAll, put, Nat.beq, exs, ex_succ, stepS, ev_succ, stepE, te_succ, stepT, tesAnd, evs, evO, iter, look, isMu, add_int', i1, i2, int0, int1, sl, jn, Option.map_some, cmp_eqS]
    cases hs : sameS a ⟨#[]⟩ with
    | true =>
      cases closed with
      | false => rfl
      | true =>
        simp only [Bool.not_true, put, Nat.beq, look, slice_str has, hr, Option.map_some, split_rows, items_rows]
        rcases lp with ⟨ρ', h⟩ | ⟨v', h, h34⟩
        · rw [up h]
        · rw [up h]; simp only [h34]
    | false =>
      simp only [put, Nat.beq, look, slice_str has, hr, Option.map_some, split_rows, items_rows]
      rcases lp with ⟨ρ', h⟩ | ⟨v', h, h34⟩
      · rw [up h]
      · rw [up h]; simp only [h34]
  · obtain ⟨_, hg⟩ := row_fit (Txt.slice a none (some 1))
    have hr := (run_le fs (show 6 ≤ 28 by decide)).call (row_of_spec (Txt.slice a none (some 1)))
    have lp := long_loop a closed (wordsF (rowS (Txt.slice a none (some 1)))) hg [(31, .list (signs.map .str)), (32, .int 2), (33, .bool closed), (30, .str a), (34, .int 0)] 0 rfl rfl rfl
    have up := @forL_le _ _ (run_le fs (show 27 ≤ 30 by decide))
    have e : fs 7 = some d_longest := rfl
    rw [call_none fs 31 7 d_longest _ e]
    clear hf hl
    unfold longT
    unfold longBody at lp
    unfold d_longest at lp ⊢
    dsimp only at lp
    simp only [putAll, put, Nat.beq, exs, ex_succ, stepS, ev_succ, stepE, te_succ, stepT, tesAnd, evs, evO, iter, look, isMu, add_int', i1, i2, int0, int1, sl, jn, Option.map_some, cmp_eqS]
    cases hs : sameS a ⟨#[]⟩ with
    | true =>
      cases closed with
      | false => rfl
      | true =>
        simp only [Bool.not_true, put, Nat.beq, look, slice_str has, hr, Option.map_some, split_rows, items_rows]
        rcases lp with ⟨ρ', h⟩ | ⟨v', h, h34⟩
        · rw [up h]
        · rw [up h]; simp only [h34]
    | false =>
      simp only [put, Nat.beq, look, slice_str has, hr, Option.map_some, split_rows, items_rows]
      rcases lp with ⟨ρ', h⟩ | ⟨v', h, h34⟩
      · rw [up h]
      · rw [up h]; simp only [h34]
end
end Mine
end

section
open PySem PySem.W PyProof.Rows
set_option Elab.async false
set_option maxRecDepth 100000
namespace Mine
noncomputable section
/-- a dict of texts, made whole -/
noncomputable def fTexts {α : Type} : List (Str × Dat) → (Option (List (Str × Str)) → α) → α
  | [], k => k (some [])
  | (q, .str t) :: r, k => fS q fun q => fS t fun t => fTexts r fun o => match o with
    | some l => k (some ((q, t) :: l))
    | none => k none
  | _, k => k none
noncomputable def hasB (l : List (Str × Str)) (p : Str × Str) : Bool := match getD l p.1 with
  | some t => sameS t p.2
  | none => false
noncomputable def keyB (p : Str) (ws : List Str) (q : Str × Str) : Bool := (ws.any fun w => sameS (nameOf w) q.1) && (match q.1.cps.toList with | c :: _ => sameL [c] p.cps.toList | [] => false)
noncomputable def sideB (p : Str) (l : List (Str × Str)) (ws : List Str) : Bool := match Nat.ble 1 l.length && Nat.ble l.length 64 with
  | true => match ws.all (fun w => hasB l (nameOf w, textOf w)) with
    | true => l.all (keyB p ws)
    | false => false
  | false => false
noncomputable def namesB (c : Option (Dat × Option MDat)) (inner : List (Str × Dat)) : Bool := match c with
  | some (.dict D, none) => match eqD (.dict D) (.dict inner) with
    | some b => b
    | none => false
  | _ => false
/-- one letter: the table's dict against the rows, and names_of against the table's dict -/
noncomputable def letterB (T : List (Str × Dat)) (p : Str × Str) : Bool := match getD T p.1 with
  | some (.dict inner) => fTexts inner fun o => match o with
    | some l => fSs (wordsF p.2) fun ws => match sideB p.1 l ws with
      | true => namesB ((run fs 24).call 5 [.str p.1] none) inner
      | false => false
    | none => false
  | _ => false
noncomputable def tableC (c : Option (Dat × Option MDat)) : Bool := match c with
  | some (.dict T, none) => match rowsD.all (letterB T) with
    | true => T.all fun p => match getD rowsD p.1 with | some _ => true | none => false
    | false => false
  | _ => false
noncomputable def tabT : List (Str × Dat) := [
  (⟨⟨[97]⟩⟩, .dict [(⟨⟨[97, 99, 69, 59]⟩⟩, .str ⟨⟨[8766, 819]⟩⟩), (⟨⟨[97, 109, 112, 59]⟩⟩, .str ⟨⟨[38]⟩⟩), (⟨⟨[97, 112, 111, 115, 59]⟩⟩, .str ⟨⟨[39]⟩⟩), (⟨⟨[97, 115, 116, 59]⟩⟩, .str ⟨⟨[42]⟩⟩), (⟨⟨[97, 99, 117, 116, 101, 59]⟩⟩, .str ⟨⟨[180]⟩⟩), (⟨⟨[97, 103, 114, 97, 118, 101, 59]⟩⟩, .str ⟨⟨[224]⟩⟩), (⟨⟨[97, 97, 99, 117, 116, 101, 59]⟩⟩, .str ⟨⟨[225]⟩⟩), (⟨⟨[97, 99, 105, 114, 99, 59]⟩⟩, .str ⟨⟨[226]⟩⟩), (⟨⟨[97, 116, 105, 108, 100, 101, 59]⟩⟩, .str ⟨⟨[227]⟩⟩), (⟨⟨[97, 117, 109, 108, 59]⟩⟩, .str ⟨⟨[228]⟩⟩), (⟨⟨[97, 114, 105, 110, 103, 59]⟩⟩, .str ⟨⟨[229]⟩⟩), (⟨⟨[97, 101, 108, 105, 103, 59]⟩⟩, .str ⟨⟨[230]⟩⟩), (⟨⟨[97, 110, 103, 115, 116, 59]⟩⟩, .str ⟨⟨[197]⟩⟩), (⟨⟨[97, 111, 103, 111, 110, 59]⟩⟩, .str ⟨⟨[261]⟩⟩), (⟨⟨[97, 108, 112, 104, 97, 59]⟩⟩, .str ⟨⟨[945]⟩⟩), (⟨⟨[97, 108, 101, 102, 115, 121, 109, 59]⟩⟩, .str ⟨⟨[8501]⟩⟩), (⟨⟨[97, 110, 103, 59]⟩⟩, .str ⟨⟨[8736]⟩⟩), (⟨⟨[97, 110, 100, 59]⟩⟩, .str ⟨⟨[8743]⟩⟩), (⟨⟨[97, 115, 121, 109, 112, 59]⟩⟩, .str ⟨⟨[8776]⟩⟩), (⟨⟨[97, 99, 117, 116, 101]⟩⟩, .str ⟨⟨[180]⟩⟩), (⟨⟨[97, 103, 114, 97, 118, 101]⟩⟩, .str ⟨⟨[224]⟩⟩), (⟨⟨[97, 97, 99, 117, 116, 101]⟩⟩, .str ⟨⟨[225]⟩⟩), (⟨⟨[97, 99, 105, 114, 99]⟩⟩, .str ⟨⟨[226]⟩⟩), (⟨⟨[97, 116, 105, 108, 100, 101]⟩⟩, .str ⟨⟨[227]⟩⟩), (⟨⟨[97, 117, 109, 108]⟩⟩, .str ⟨⟨[228]⟩⟩), (⟨⟨[97, 114, 105, 110, 103]⟩⟩, .str ⟨⟨[229]⟩⟩), (⟨⟨[97, 101, 108, 105, 103]⟩⟩, .str ⟨⟨[230]⟩⟩), (⟨⟨[97, 109, 112]⟩⟩, .str ⟨⟨[38]⟩⟩)]),
  (⟨⟨[98]⟩⟩, .dict [(⟨⟨[98, 110, 101, 59]⟩⟩, .str ⟨⟨[61, 8421]⟩⟩), (⟨⟨[98, 115, 111, 108, 59]⟩⟩, .str ⟨⟨[92]⟩⟩), (⟨⟨[98, 114, 118, 98, 97, 114, 59]⟩⟩, .str ⟨⟨[166]⟩⟩), (⟨⟨[98, 101, 116, 97, 59]⟩⟩, .str ⟨⟨[946]⟩⟩), (⟨⟨[98, 100, 113, 117, 111, 59]⟩⟩, .str ⟨⟨[8222]⟩⟩), (⟨⟨[98, 117, 108, 108, 59]⟩⟩, .str ⟨⟨[8226]⟩⟩), (⟨⟨[98, 114, 118, 98, 97, 114]⟩⟩, .str ⟨⟨[166]⟩⟩)]),
  (⟨⟨[99]⟩⟩, .dict [(⟨⟨[99, 97, 112, 115, 59]⟩⟩, .str ⟨⟨[8745, 65024]⟩⟩), (⟨⟨[99, 111, 109, 109, 97, 59]⟩⟩, .str ⟨⟨[44]⟩⟩), (⟨⟨[99, 111, 108, 111, 110, 59]⟩⟩, .str ⟨⟨[58]⟩⟩), (⟨⟨[99, 111, 109, 109, 97, 116, 59]⟩⟩, .str ⟨⟨[64]⟩⟩), (⟨⟨[99, 101, 110, 116, 59]⟩⟩, .str ⟨⟨[162]⟩⟩), (⟨⟨[99, 117, 114, 114, 101, 110, 59]⟩⟩, .str ⟨⟨[164]⟩⟩), (⟨⟨[99, 111, 112, 121, 59]⟩⟩, .str ⟨⟨[169]⟩⟩), (⟨⟨[99, 101, 100, 105, 108, 59]⟩⟩, .str ⟨⟨[184]⟩⟩), (⟨⟨[99, 99, 101, 100, 105, 108, 59]⟩⟩, .str ⟨⟨[231]⟩⟩), (⟨⟨[99, 101, 110, 116, 101, 114, 100, 111, 116, 59]⟩⟩, .str ⟨⟨[183]⟩⟩), (⟨⟨[99, 99, 97, 114, 111, 110, 59]⟩⟩, .str ⟨⟨[269]⟩⟩), (⟨⟨[99, 105, 114, 99, 59]⟩⟩, .str ⟨⟨[710]⟩⟩), (⟨⟨[99, 104, 105, 59]⟩⟩, .str ⟨⟨[967]⟩⟩), (⟨⟨[99, 111, 112, 121, 115, 114, 59]⟩⟩, .str ⟨⟨[8471]⟩⟩), (⟨⟨[99, 114, 97, 114, 114, 59]⟩⟩, .str ⟨⟨[8629]⟩⟩), (⟨⟨[99, 97, 112, 59]⟩⟩, .str ⟨⟨[8745]⟩⟩), (⟨⟨[99, 117, 112, 59]⟩⟩, .str ⟨⟨[8746]⟩⟩), (⟨⟨[99, 111, 110, 103, 59]⟩⟩, .str ⟨⟨[8773]⟩⟩), (⟨⟨[99, 108, 117, 98, 115, 59]⟩⟩, .str ⟨⟨[9827]⟩⟩), (⟨⟨[99, 101, 110, 116]⟩⟩, .str ⟨⟨[162]⟩⟩), (⟨⟨[99, 117, 114, 114, 101, 110]⟩⟩, .str ⟨⟨[164]⟩⟩), (⟨⟨[99, 111, 112, 121]⟩⟩, .str ⟨⟨[169]⟩⟩), (⟨⟨[99, 101, 100, 105, 108]⟩⟩, .str ⟨⟨[184]⟩⟩), (⟨⟨[99, 99, 101, 100, 105, 108]⟩⟩, .str ⟨⟨[231]⟩⟩)]),
  (⟨⟨[100]⟩⟩, .dict [(⟨⟨[100, 111, 108, 108, 97, 114, 59]⟩⟩, .str ⟨⟨[36]⟩⟩), (⟨⟨[100, 101, 103, 59]⟩⟩, .str ⟨⟨[176]⟩⟩), (⟨⟨[100, 105, 118, 105, 100, 101, 59]⟩⟩, .str ⟨⟨[247]⟩⟩), (⟨⟨[100, 105, 118, 59]⟩⟩, .str ⟨⟨[247]⟩⟩), (⟨⟨[100, 101, 108, 116, 97, 59]⟩⟩, .str ⟨⟨[948]⟩⟩), (⟨⟨[100, 97, 103, 103, 101, 114, 59]⟩⟩, .str ⟨⟨[8224]⟩⟩), (⟨⟨[100, 97, 114, 114, 59]⟩⟩, .str ⟨⟨[8595]⟩⟩), (⟨⟨[100, 65, 114, 114, 59]⟩⟩, .str ⟨⟨[8659]⟩⟩), (⟨⟨[100, 105, 118, 105, 100, 101, 111, 110, 116, 105, 109, 101, 115, 59]⟩⟩, .str ⟨⟨[8903]⟩⟩), (⟨⟨[100, 105, 97, 109, 115, 59]⟩⟩, .str ⟨⟨[9830]⟩⟩), (⟨⟨[100, 101, 103]⟩⟩, .str ⟨⟨[176]⟩⟩), (⟨⟨[100, 105, 118, 105, 100, 101]⟩⟩, .str ⟨⟨[247]⟩⟩)]),
  (⟨⟨[101]⟩⟩, .dict [(⟨⟨[101, 120, 99, 108, 59]⟩⟩, .str ⟨⟨[33]⟩⟩), (⟨⟨[101, 113, 117, 97, 108, 115, 59]⟩⟩, .str ⟨⟨[61]⟩⟩), (⟨⟨[101, 103, 114, 97, 118, 101, 59]⟩⟩, .str ⟨⟨[232]⟩⟩), (⟨⟨[101, 97, 99, 117, 116, 101, 59]⟩⟩, .str ⟨⟨[233]⟩⟩), (⟨⟨[101, 99, 105, 114, 99, 59]⟩⟩, .str ⟨⟨[234]⟩⟩), (⟨⟨[101, 117, 109, 108, 59]⟩⟩, .str ⟨⟨[235]⟩⟩), (⟨⟨[101, 116, 104, 59]⟩⟩, .str ⟨⟨[240]⟩⟩), (⟨⟨[101, 110, 103, 59]⟩⟩, .str ⟨⟨[331]⟩⟩), (⟨⟨[101, 112, 115, 105, 108, 111, 110, 59]⟩⟩, .str ⟨⟨[949]⟩⟩), (⟨⟨[101, 116, 97, 59]⟩⟩, .str ⟨⟨[951]⟩⟩), (⟨⟨[101, 110, 115, 112, 59]⟩⟩, .str ⟨⟨[8194]⟩⟩), (⟨⟨[101, 109, 115, 112, 59]⟩⟩, .str ⟨⟨[8195]⟩⟩), (⟨⟨[101, 109, 115, 112, 49, 51, 59]⟩⟩, .str ⟨⟨[8196]⟩⟩), (⟨⟨[101, 109, 115, 112, 49, 52, 59]⟩⟩, .str ⟨⟨[8197]⟩⟩), (⟨⟨[101, 117, 114, 111, 59]⟩⟩, .str ⟨⟨[8364]⟩⟩), (⟨⟨[101, 120, 105, 115, 116, 59]⟩⟩, .str ⟨⟨[8707]⟩⟩), (⟨⟨[101, 109, 112, 116, 121, 59]⟩⟩, .str ⟨⟨[8709]⟩⟩), (⟨⟨[101, 113, 117, 105, 118, 59]⟩⟩, .str ⟨⟨[8801]⟩⟩), (⟨⟨[101, 103, 114, 97, 118, 101]⟩⟩, .str ⟨⟨[232]⟩⟩), (⟨⟨[101, 97, 99, 117, 116, 101]⟩⟩, .str ⟨⟨[233]⟩⟩), (⟨⟨[101, 99, 105, 114, 99]⟩⟩, .str ⟨⟨[234]⟩⟩), (⟨⟨[101, 117, 109, 108]⟩⟩, .str ⟨⟨[235]⟩⟩), (⟨⟨[101, 116, 104]⟩⟩, .str ⟨⟨[240]⟩⟩)]),
  (⟨⟨[102]⟩⟩, .dict [(⟨⟨[102, 106, 108, 105, 103, 59]⟩⟩, .str ⟨⟨[102, 106]⟩⟩), (⟨⟨[102, 114, 97, 99, 49, 52, 59]⟩⟩, .str ⟨⟨[188]⟩⟩), (⟨⟨[102, 114, 97, 99, 49, 50, 59]⟩⟩, .str ⟨⟨[189]⟩⟩), (⟨⟨[102, 114, 97, 99, 51, 52, 59]⟩⟩, .str ⟨⟨[190]⟩⟩), (⟨⟨[102, 110, 111, 102, 59]⟩⟩, .str ⟨⟨[402]⟩⟩), (⟨⟨[102, 114, 97, 115, 108, 59]⟩⟩, .str ⟨⟨[8260]⟩⟩), (⟨⟨[102, 114, 97, 99, 49, 51, 59]⟩⟩, .str ⟨⟨[8531]⟩⟩), (⟨⟨[102, 111, 114, 97, 108, 108, 59]⟩⟩, .str ⟨⟨[8704]⟩⟩), (⟨⟨[102, 105, 108, 105, 103, 59]⟩⟩, .str ⟨⟨[64257]⟩⟩), (⟨⟨[102, 114, 97, 99, 49, 52]⟩⟩, .str ⟨⟨[188]⟩⟩), (⟨⟨[102, 114, 97, 99, 49, 50]⟩⟩, .str ⟨⟨[189]⟩⟩), (⟨⟨[102, 114, 97, 99, 51, 52]⟩⟩, .str ⟨⟨[190]⟩⟩)]),
  (⟨⟨[103]⟩⟩, .dict [(⟨⟨[103, 118, 110, 69, 59]⟩⟩, .str ⟨⟨[8809, 65024]⟩⟩), (⟨⟨[103, 116, 59]⟩⟩, .str ⟨⟨[62]⟩⟩), (⟨⟨[103, 114, 97, 118, 101, 59]⟩⟩, .str ⟨⟨[96]⟩⟩), (⟨⟨[103, 97, 109, 109, 97, 59]⟩⟩, .str ⟨⟨[947]⟩⟩), (⟨⟨[103, 101, 59]⟩⟩, .str ⟨⟨[8805]⟩⟩), (⟨⟨[103, 116, 114, 115, 105, 109, 59]⟩⟩, .str ⟨⟨[8819]⟩⟩), (⟨⟨[103, 116, 100, 111, 116, 59]⟩⟩, .str ⟨⟨[8919]⟩⟩), (⟨⟨[103, 116, 99, 99, 59]⟩⟩, .str ⟨⟨[10919]⟩⟩), (⟨⟨[103, 116]⟩⟩, .str ⟨⟨[62]⟩⟩)]),
  (⟨⟨[104]⟩⟩, .dict [(⟨⟨[104, 97, 108, 102, 59]⟩⟩, .str ⟨⟨[189]⟩⟩), (⟨⟨[104, 101, 108, 108, 105, 112, 59]⟩⟩, .str ⟨⟨[8230]⟩⟩), (⟨⟨[104, 97, 114, 114, 59]⟩⟩, .str ⟨⟨[8596]⟩⟩), (⟨⟨[104, 65, 114, 114, 59]⟩⟩, .str ⟨⟨[8660]⟩⟩), (⟨⟨[104, 101, 97, 114, 116, 115, 59]⟩⟩, .str ⟨⟨[9829]⟩⟩)]),
  (⟨⟨[105]⟩⟩, .dict [(⟨⟨[105, 101, 120, 99, 108, 59]⟩⟩, .str ⟨⟨[161]⟩⟩), (⟨⟨[105, 113, 117, 101, 115, 116, 59]⟩⟩, .str ⟨⟨[191]⟩⟩), (⟨⟨[105, 103, 114, 97, 118, 101, 59]⟩⟩, .str ⟨⟨[236]⟩⟩), (⟨⟨[105, 97, 99, 117, 116, 101, 59]⟩⟩, .str ⟨⟨[237]⟩⟩), (⟨⟨[105, 99, 105, 114, 99, 59]⟩⟩, .str ⟨⟨[238]⟩⟩), (⟨⟨[105, 117, 109, 108, 59]⟩⟩, .str ⟨⟨[239]⟩⟩), (⟨⟨[105, 110, 111, 100, 111, 116, 59]⟩⟩, .str ⟨⟨[305]⟩⟩), (⟨⟨[105, 111, 116, 97, 59]⟩⟩, .str ⟨⟨[953]⟩⟩), (⟨⟨[105, 109, 97, 103, 101, 59]⟩⟩, .str ⟨⟨[8465]⟩⟩), (⟨⟨[105, 110, 59]⟩⟩, .str ⟨⟨[8712]⟩⟩), (⟨⟨[105, 115, 105, 110, 59]⟩⟩, .str ⟨⟨[8712]⟩⟩), (⟨⟨[105, 110, 102, 105, 110, 59]⟩⟩, .str ⟨⟨[8734]⟩⟩), (⟨⟨[105, 110, 116, 59]⟩⟩, .str ⟨⟨[8747]⟩⟩), (⟨⟨[105, 101, 120, 99, 108]⟩⟩, .str ⟨⟨[161]⟩⟩), (⟨⟨[105, 113, 117, 101, 115, 116]⟩⟩, .str ⟨⟨[191]⟩⟩), (⟨⟨[105, 103, 114, 97, 118, 101]⟩⟩, .str ⟨⟨[236]⟩⟩), (⟨⟨[105, 97, 99, 117, 116, 101]⟩⟩, .str ⟨⟨[237]⟩⟩), (⟨⟨[105, 99, 105, 114, 99]⟩⟩, .str ⟨⟨[238]⟩⟩), (⟨⟨[105, 117, 109, 108]⟩⟩, .str ⟨⟨[239]⟩⟩)]),
  (⟨⟨[106]⟩⟩, .dict [(⟨⟨[106, 99, 105, 114, 99, 59]⟩⟩, .str ⟨⟨[309]⟩⟩)]),
  (⟨⟨[107]⟩⟩, .dict [(⟨⟨[107, 103, 114, 101, 101, 110, 59]⟩⟩, .str ⟨⟨[312]⟩⟩), (⟨⟨[107, 97, 112, 112, 97, 59]⟩⟩, .str ⟨⟨[954]⟩⟩)]),
  (⟨⟨[108]⟩⟩, .dict [(⟨⟨[108, 118, 110, 69, 59]⟩⟩, .str ⟨⟨[8808, 65024]⟩⟩), (⟨⟨[108, 112, 97, 114, 59]⟩⟩, .str ⟨⟨[40]⟩⟩), (⟨⟨[108, 116, 59]⟩⟩, .str ⟨⟨[60]⟩⟩), (⟨⟨[108, 99, 117, 98, 59]⟩⟩, .str ⟨⟨[123]⟩⟩), (⟨⟨[108, 98, 114, 97, 99, 101, 59]⟩⟩, .str ⟨⟨[123]⟩⟩), (⟨⟨[108, 115, 113, 98, 59]⟩⟩, .str ⟨⟨[91]⟩⟩), (⟨⟨[108, 98, 114, 97, 99, 107, 59]⟩⟩, .str ⟨⟨[91]⟩⟩), (⟨⟨[108, 111, 119, 98, 97, 114, 59]⟩⟩, .str ⟨⟨[95]⟩⟩), (⟨⟨[108, 97, 113, 117, 111, 59]⟩⟩, .str ⟨⟨[171]⟩⟩), (⟨⟨[108, 115, 116, 114, 111, 107, 59]⟩⟩, .str ⟨⟨[322]⟩⟩), (⟨⟨[108, 97, 109, 98, 100, 97, 59]⟩⟩, .str ⟨⟨[955]⟩⟩), (⟨⟨[108, 114, 109, 59]⟩⟩, .str ⟨⟨[8206]⟩⟩), (⟨⟨[108, 115, 113, 117, 111, 59]⟩⟩, .str ⟨⟨[8216]⟩⟩), (⟨⟨[108, 100, 113, 117, 111, 59]⟩⟩, .str ⟨⟨[8220]⟩⟩), (⟨⟨[108, 115, 97, 113, 117, 111, 59]⟩⟩, .str ⟨⟨[8249]⟩⟩), (⟨⟨[108, 97, 114, 114, 59]⟩⟩, .str ⟨⟨[8592]⟩⟩), (⟨⟨[108, 65, 114, 114, 59]⟩⟩, .str ⟨⟨[8656]⟩⟩), (⟨⟨[108, 111, 119, 97, 115, 116, 59]⟩⟩, .str ⟨⟨[8727]⟩⟩), (⟨⟨[108, 101, 59]⟩⟩, .str ⟨⟨[8804]⟩⟩), (⟨⟨[108, 116, 105, 109, 101, 115, 59]⟩⟩, .str ⟨⟨[8905]⟩⟩), (⟨⟨[108, 116, 100, 111, 116, 59]⟩⟩, .str ⟨⟨[8918]⟩⟩), (⟨⟨[108, 99, 101, 105, 108, 59]⟩⟩, .str ⟨⟨[8968]⟩⟩), (⟨⟨[108, 102, 108, 111, 111, 114, 59]⟩⟩, .str ⟨⟨[8970]⟩⟩), (⟨⟨[108, 111, 122, 59]⟩⟩, .str ⟨⟨[9674]⟩⟩), (⟨⟨[108, 97, 110, 103, 59]⟩⟩, .str ⟨⟨[10216]⟩⟩), (⟨⟨[108, 116, 99, 99, 59]⟩⟩, .str ⟨⟨[10918]⟩⟩), (⟨⟨[108, 97, 113, 117, 111]⟩⟩, .str ⟨⟨[171]⟩⟩), (⟨⟨[108, 116]⟩⟩, .str ⟨⟨[60]⟩⟩)]),
  (⟨⟨[109]⟩⟩, .dict [(⟨⟨[109, 105, 100, 97, 115, 116, 59]⟩⟩, .str ⟨⟨[42]⟩⟩), (⟨⟨[109, 97, 99, 114, 59]⟩⟩, .str ⟨⟨[175]⟩⟩), (⟨⟨[109, 105, 99, 114, 111, 59]⟩⟩, .str ⟨⟨[181]⟩⟩), (⟨⟨[109, 105, 100, 100, 111, 116, 59]⟩⟩, .str ⟨⟨[183]⟩⟩), (⟨⟨[109, 117, 59]⟩⟩, .str ⟨⟨[956]⟩⟩), (⟨⟨[109, 100, 97, 115, 104, 59]⟩⟩, .str ⟨⟨[8212]⟩⟩), (⟨⟨[109, 105, 110, 117, 115, 59]⟩⟩, .str ⟨⟨[8722]⟩⟩), (⟨⟨[109, 97, 99, 114]⟩⟩, .str ⟨⟨[175]⟩⟩), (⟨⟨[109, 105, 99, 114, 111]⟩⟩, .str ⟨⟨[181]⟩⟩), (⟨⟨[109, 105, 100, 100, 111, 116]⟩⟩, .str ⟨⟨[183]⟩⟩)]),
  (⟨⟨[110]⟩⟩, .dict [(⟨⟨[110, 118, 108, 116, 59]⟩⟩, .str ⟨⟨[60, 8402]⟩⟩), (⟨⟨[110, 76, 116, 59]⟩⟩, .str ⟨⟨[8810, 8402]⟩⟩), (⟨⟨[110, 111, 116, 105, 110, 69, 59]⟩⟩, .str ⟨⟨[8953, 824]⟩⟩), (⟨⟨[110, 117, 109, 59]⟩⟩, .str ⟨⟨[35]⟩⟩), (⟨⟨[110, 98, 115, 112, 59]⟩⟩, .str ⟨⟨[160]⟩⟩), (⟨⟨[110, 111, 116, 59]⟩⟩, .str ⟨⟨[172]⟩⟩), (⟨⟨[110, 116, 105, 108, 100, 101, 59]⟩⟩, .str ⟨⟨[241]⟩⟩), (⟨⟨[110, 117, 59]⟩⟩, .str ⟨⟨[957]⟩⟩), (⟨⟨[110, 100, 97, 115, 104, 59]⟩⟩, .str ⟨⟨[8211]⟩⟩), (⟨⟨[110, 97, 98, 108, 97, 59]⟩⟩, .str ⟨⟨[8711]⟩⟩), (⟨⟨[110, 111, 116, 105, 110, 59]⟩⟩, .str ⟨⟨[8713]⟩⟩), (⟨⟨[110, 105, 59]⟩⟩, .str ⟨⟨[8715]⟩⟩), (⟨⟨[110, 111, 116, 110, 105, 59]⟩⟩, .str ⟨⟨[8716]⟩⟩), (⟨⟨[110, 101, 59]⟩⟩, .str ⟨⟨[8800]⟩⟩), (⟨⟨[110, 115, 117, 98, 59]⟩⟩, .str ⟨⟨[8836]⟩⟩), (⟨⟨[110, 98, 115, 112]⟩⟩, .str ⟨⟨[160]⟩⟩), (⟨⟨[110, 111, 116]⟩⟩, .str ⟨⟨[172]⟩⟩), (⟨⟨[110, 116, 105, 108, 100, 101]⟩⟩, .str ⟨⟨[241]⟩⟩)]),
  (⟨⟨[111]⟩⟩, .dict [(⟨⟨[111, 114, 100, 102, 59]⟩⟩, .str ⟨⟨[170]⟩⟩), (⟨⟨[111, 114, 100, 109, 59]⟩⟩, .str ⟨⟨[186]⟩⟩), (⟨⟨[111, 103, 114, 97, 118, 101, 59]⟩⟩, .str ⟨⟨[242]⟩⟩), (⟨⟨[111, 97, 99, 117, 116, 101, 59]⟩⟩, .str ⟨⟨[243]⟩⟩), (⟨⟨[111, 99, 105, 114, 99, 59]⟩⟩, .str ⟨⟨[244]⟩⟩), (⟨⟨[111, 116, 105, 108, 100, 101, 59]⟩⟩, .str ⟨⟨[245]⟩⟩), (⟨⟨[111, 117, 109, 108, 59]⟩⟩, .str ⟨⟨[246]⟩⟩), (⟨⟨[111, 115, 108, 97, 115, 104, 59]⟩⟩, .str ⟨⟨[248]⟩⟩), (⟨⟨[111, 100, 98, 108, 97, 99, 59]⟩⟩, .str ⟨⟨[337]⟩⟩), (⟨⟨[111, 101, 108, 105, 103, 59]⟩⟩, .str ⟨⟨[339]⟩⟩), (⟨⟨[111, 109, 105, 99, 114, 111, 110, 59]⟩⟩, .str ⟨⟨[959]⟩⟩), (⟨⟨[111, 109, 101, 103, 97, 59]⟩⟩, .str ⟨⟨[969]⟩⟩), (⟨⟨[111, 108, 105, 110, 101, 59]⟩⟩, .str ⟨⟨[8254]⟩⟩), (⟨⟨[111, 114, 100, 101, 114, 59]⟩⟩, .str ⟨⟨[8500]⟩⟩), (⟨⟨[111, 114, 59]⟩⟩, .str ⟨⟨[8744]⟩⟩), (⟨⟨[111, 112, 108, 117, 115, 59]⟩⟩, .str ⟨⟨[8853]⟩⟩), (⟨⟨[111, 116, 105, 109, 101, 115, 59]⟩⟩, .str ⟨⟨[8855]⟩⟩), (⟨⟨[111, 114, 100, 102]⟩⟩, .str ⟨⟨[170]⟩⟩), (⟨⟨[111, 114, 100, 109]⟩⟩, .str ⟨⟨[186]⟩⟩), (⟨⟨[111, 103, 114, 97, 118, 101]⟩⟩, .str ⟨⟨[242]⟩⟩), (⟨⟨[111, 97, 99, 117, 116, 101]⟩⟩, .str ⟨⟨[243]⟩⟩), (⟨⟨[111, 99, 105, 114, 99]⟩⟩, .str ⟨⟨[244]⟩⟩), (⟨⟨[111, 116, 105, 108, 100, 101]⟩⟩, .str ⟨⟨[245]⟩⟩), (⟨⟨[111, 117, 109, 108]⟩⟩, .str ⟨⟨[246]⟩⟩), (⟨⟨[111, 115, 108, 97, 115, 104]⟩⟩, .str ⟨⟨[248]⟩⟩)]),
  (⟨⟨[112]⟩⟩, .dict [(⟨⟨[112, 101, 114, 99, 110, 116, 59]⟩⟩, .str ⟨⟨[37]⟩⟩), (⟨⟨[112, 108, 117, 115, 59]⟩⟩, .str ⟨⟨[43]⟩⟩), (⟨⟨[112, 101, 114, 105, 111, 100, 59]⟩⟩, .str ⟨⟨[46]⟩⟩), (⟨⟨[112, 111, 117, 110, 100, 59]⟩⟩, .str ⟨⟨[163]⟩⟩), (⟨⟨[112, 108, 117, 115, 109, 110, 59]⟩⟩, .str ⟨⟨[177]⟩⟩), (⟨⟨[112, 97, 114, 97, 59]⟩⟩, .str ⟨⟨[182]⟩⟩), (⟨⟨[112, 105, 59]⟩⟩, .str ⟨⟨[960]⟩⟩), (⟨⟨[112, 104, 105, 59]⟩⟩, .str ⟨⟨[966]⟩⟩), (⟨⟨[112, 115, 105, 59]⟩⟩, .str ⟨⟨[968]⟩⟩), (⟨⟨[112, 105, 118, 59]⟩⟩, .str ⟨⟨[982]⟩⟩), (⟨⟨[112, 101, 114, 109, 105, 108, 59]⟩⟩, .str ⟨⟨[8240]⟩⟩), (⟨⟨[112, 114, 105, 109, 101, 59]⟩⟩, .str ⟨⟨[8242]⟩⟩), (⟨⟨[112, 97, 114, 116, 59]⟩⟩, .str ⟨⟨[8706]⟩⟩), (⟨⟨[112, 114, 111, 100, 59]⟩⟩, .str ⟨⟨[8719]⟩⟩), (⟨⟨[112, 114, 111, 112, 59]⟩⟩, .str ⟨⟨[8733]⟩⟩), (⟨⟨[112, 97, 114, 97, 108, 108, 101, 108, 59]⟩⟩, .str ⟨⟨[8741]⟩⟩), (⟨⟨[112, 101, 114, 112, 59]⟩⟩, .str ⟨⟨[8869]⟩⟩), (⟨⟨[112, 111, 117, 110, 100]⟩⟩, .str ⟨⟨[163]⟩⟩), (⟨⟨[112, 108, 117, 115, 109, 110]⟩⟩, .str ⟨⟨[177]⟩⟩), (⟨⟨[112, 97, 114, 97]⟩⟩, .str ⟨⟨[182]⟩⟩)]),
  (⟨⟨[113]⟩⟩, .dict [(⟨⟨[113, 117, 111, 116, 59]⟩⟩, .str ⟨⟨[34]⟩⟩), (⟨⟨[113, 117, 101, 115, 116, 59]⟩⟩, .str ⟨⟨[63]⟩⟩), (⟨⟨[113, 117, 111, 116]⟩⟩, .str ⟨⟨[34]⟩⟩)]),
  (⟨⟨[114]⟩⟩, .dict [(⟨⟨[114, 112, 97, 114, 59]⟩⟩, .str ⟨⟨[41]⟩⟩), (⟨⟨[114, 99, 117, 98, 59]⟩⟩, .str ⟨⟨[125]⟩⟩), (⟨⟨[114, 98, 114, 97, 99, 101, 59]⟩⟩, .str ⟨⟨[125]⟩⟩), (⟨⟨[114, 115, 113, 98, 59]⟩⟩, .str ⟨⟨[93]⟩⟩), (⟨⟨[114, 98, 114, 97, 99, 107, 59]⟩⟩, .str ⟨⟨[93]⟩⟩), (⟨⟨[114, 101, 103, 59]⟩⟩, .str ⟨⟨[174]⟩⟩), (⟨⟨[114, 97, 113, 117, 111, 59]⟩⟩, .str ⟨⟨[187]⟩⟩), (⟨⟨[114, 104, 111, 59]⟩⟩, .str ⟨⟨[961]⟩⟩), (⟨⟨[114, 108, 109, 59]⟩⟩, .str ⟨⟨[8207]⟩⟩), (⟨⟨[114, 115, 113, 117, 111, 59]⟩⟩, .str ⟨⟨[8217]⟩⟩), (⟨⟨[114, 100, 113, 117, 111, 59]⟩⟩, .str ⟨⟨[8221]⟩⟩), (⟨⟨[114, 115, 97, 113, 117, 111, 59]⟩⟩, .str ⟨⟨[8250]⟩⟩), (⟨⟨[114, 101, 97, 108, 59]⟩⟩, .str ⟨⟨[8476]⟩⟩), (⟨⟨[114, 97, 114, 114, 59]⟩⟩, .str ⟨⟨[8594]⟩⟩), (⟨⟨[114, 65, 114, 114, 59]⟩⟩, .str ⟨⟨[8658]⟩⟩), (⟨⟨[114, 97, 100, 105, 99, 59]⟩⟩, .str ⟨⟨[8730]⟩⟩), (⟨⟨[114, 99, 101, 105, 108, 59]⟩⟩, .str ⟨⟨[8969]⟩⟩), (⟨⟨[114, 102, 108, 111, 111, 114, 59]⟩⟩, .str ⟨⟨[8971]⟩⟩), (⟨⟨[114, 97, 110, 103, 59]⟩⟩, .str ⟨⟨[10217]⟩⟩), (⟨⟨[114, 101, 103]⟩⟩, .str ⟨⟨[174]⟩⟩), (⟨⟨[114, 97, 113, 117, 111]⟩⟩, .str ⟨⟨[187]⟩⟩)]),
  (⟨⟨[115]⟩⟩, .dict [(⟨⟨[115, 111, 108, 59]⟩⟩, .str ⟨⟨[47]⟩⟩), (⟨⟨[115, 101, 109, 105, 59]⟩⟩, .str ⟨⟨[59]⟩⟩), (⟨⟨[115, 101, 99, 116, 59]⟩⟩, .str ⟨⟨[167]⟩⟩), (⟨⟨[115, 104, 121, 59]⟩⟩, .str ⟨⟨[173]⟩⟩), (⟨⟨[115, 117, 112, 50, 59]⟩⟩, .str ⟨⟨[178]⟩⟩), (⟨⟨[115, 117, 112, 51, 59]⟩⟩, .str ⟨⟨[179]⟩⟩), (⟨⟨[115, 117, 112, 49, 59]⟩⟩, .str ⟨⟨[185]⟩⟩), (⟨⟨[115, 122, 108, 105, 103, 59]⟩⟩, .str ⟨⟨[223]⟩⟩), (⟨⟨[115, 99, 101, 100, 105, 108, 59]⟩⟩, .str ⟨⟨[351]⟩⟩), (⟨⟨[115, 99, 97, 114, 111, 110, 59]⟩⟩, .str ⟨⟨[353]⟩⟩), (⟨⟨[115, 105, 103, 109, 97, 102, 59]⟩⟩, .str ⟨⟨[962]⟩⟩), (⟨⟨[115, 105, 103, 109, 97, 59]⟩⟩, .str ⟨⟨[963]⟩⟩), (⟨⟨[115, 98, 113, 117, 111, 59]⟩⟩, .str ⟨⟨[8218]⟩⟩), (⟨⟨[115, 117, 109, 59]⟩⟩, .str ⟨⟨[8721]⟩⟩), (⟨⟨[115, 105, 109, 59]⟩⟩, .str ⟨⟨[8764]⟩⟩), (⟨⟨[115, 117, 98, 59]⟩⟩, .str ⟨⟨[8834]⟩⟩), (⟨⟨[115, 117, 112, 59]⟩⟩, .str ⟨⟨[8835]⟩⟩), (⟨⟨[115, 117, 98, 101, 59]⟩⟩, .str ⟨⟨[8838]⟩⟩), (⟨⟨[115, 117, 112, 101, 59]⟩⟩, .str ⟨⟨[8839]⟩⟩), (⟨⟨[115, 100, 111, 116, 59]⟩⟩, .str ⟨⟨[8901]⟩⟩), (⟨⟨[115, 112, 97, 100, 101, 115, 59]⟩⟩, .str ⟨⟨[9824]⟩⟩), (⟨⟨[115, 101, 99, 116]⟩⟩, .str ⟨⟨[167]⟩⟩), (⟨⟨[115, 104, 121]⟩⟩, .str ⟨⟨[173]⟩⟩), (⟨⟨[115, 117, 112, 50]⟩⟩, .str ⟨⟨[178]⟩⟩), (⟨⟨[115, 117, 112, 51]⟩⟩, .str ⟨⟨[179]⟩⟩), (⟨⟨[115, 117, 112, 49]⟩⟩, .str ⟨⟨[185]⟩⟩), (⟨⟨[115, 122, 108, 105, 103]⟩⟩, .str ⟨⟨[223]⟩⟩)]),
  (⟨⟨[116]⟩⟩, .dict [(⟨⟨[116, 105, 109, 101, 115, 59]⟩⟩, .str ⟨⟨[215]⟩⟩), (⟨⟨[116, 104, 111, 114, 110, 59]⟩⟩, .str ⟨⟨[254]⟩⟩), (⟨⟨[116, 105, 108, 100, 101, 59]⟩⟩, .str ⟨⟨[732]⟩⟩), (⟨⟨[116, 104, 101, 116, 97, 59]⟩⟩, .str ⟨⟨[952]⟩⟩), (⟨⟨[116, 97, 117, 59]⟩⟩, .str ⟨⟨[964]⟩⟩), (⟨⟨[116, 104, 101, 116, 97, 115, 121, 109, 59]⟩⟩, .str ⟨⟨[977]⟩⟩), (⟨⟨[116, 104, 105, 110, 115, 112, 59]⟩⟩, .str ⟨⟨[8201]⟩⟩), (⟨⟨[116, 114, 97, 100, 101, 59]⟩⟩, .str ⟨⟨[8482]⟩⟩), (⟨⟨[116, 104, 101, 114, 101, 52, 59]⟩⟩, .str ⟨⟨[8756]⟩⟩), (⟨⟨[116, 105, 109, 101, 115, 98, 59]⟩⟩, .str ⟨⟨[8864]⟩⟩), (⟨⟨[116, 105, 109, 101, 115]⟩⟩, .str ⟨⟨[215]⟩⟩), (⟨⟨[116, 104, 111, 114, 110]⟩⟩, .str ⟨⟨[254]⟩⟩)]),
  (⟨⟨[117]⟩⟩, .dict [(⟨⟨[117, 109, 108, 59]⟩⟩, .str ⟨⟨[168]⟩⟩), (⟨⟨[117, 103, 114, 97, 118, 101, 59]⟩⟩, .str ⟨⟨[249]⟩⟩), (⟨⟨[117, 97, 99, 117, 116, 101, 59]⟩⟩, .str ⟨⟨[250]⟩⟩), (⟨⟨[117, 99, 105, 114, 99, 59]⟩⟩, .str ⟨⟨[251]⟩⟩), (⟨⟨[117, 117, 109, 108, 59]⟩⟩, .str ⟨⟨[252]⟩⟩), (⟨⟨[117, 112, 115, 105, 108, 111, 110, 59]⟩⟩, .str ⟨⟨[965]⟩⟩), (⟨⟨[117, 112, 115, 105, 104, 59]⟩⟩, .str ⟨⟨[978]⟩⟩), (⟨⟨[117, 97, 114, 114, 59]⟩⟩, .str ⟨⟨[8593]⟩⟩), (⟨⟨[117, 65, 114, 114, 59]⟩⟩, .str ⟨⟨[8657]⟩⟩), (⟨⟨[117, 109, 108]⟩⟩, .str ⟨⟨[168]⟩⟩), (⟨⟨[117, 103, 114, 97, 118, 101]⟩⟩, .str ⟨⟨[249]⟩⟩), (⟨⟨[117, 97, 99, 117, 116, 101]⟩⟩, .str ⟨⟨[250]⟩⟩), (⟨⟨[117, 99, 105, 114, 99]⟩⟩, .str ⟨⟨[251]⟩⟩), (⟨⟨[117, 117, 109, 108]⟩⟩, .str ⟨⟨[252]⟩⟩)]),
  (⟨⟨[118]⟩⟩, .dict [(⟨⟨[118, 101, 114, 98, 97, 114, 59]⟩⟩, .str ⟨⟨[124]⟩⟩), (⟨⟨[118, 101, 114, 116, 59]⟩⟩, .str ⟨⟨[124]⟩⟩)]),
  (⟨⟨[119]⟩⟩, .dict [(⟨⟨[119, 101, 105, 101, 114, 112, 59]⟩⟩, .str ⟨⟨[8472]⟩⟩), (⟨⟨[119, 101, 100, 103, 101, 59]⟩⟩, .str ⟨⟨[8743]⟩⟩)]),
  (⟨⟨[120]⟩⟩, .dict [(⟨⟨[120, 105, 59]⟩⟩, .str ⟨⟨[958]⟩⟩)]),
  (⟨⟨[121]⟩⟩, .dict [(⟨⟨[121, 101, 110, 59]⟩⟩, .str ⟨⟨[165]⟩⟩), (⟨⟨[121, 97, 99, 117, 116, 101, 59]⟩⟩, .str ⟨⟨[253]⟩⟩), (⟨⟨[121, 117, 109, 108, 59]⟩⟩, .str ⟨⟨[255]⟩⟩), (⟨⟨[121, 101, 110]⟩⟩, .str ⟨⟨[165]⟩⟩), (⟨⟨[121, 97, 99, 117, 116, 101]⟩⟩, .str ⟨⟨[253]⟩⟩), (⟨⟨[121, 117, 109, 108]⟩⟩, .str ⟨⟨[255]⟩⟩)]),
  (⟨⟨[122]⟩⟩, .dict [(⟨⟨[122, 99, 97, 114, 111, 110, 59]⟩⟩, .str ⟨⟨[382]⟩⟩), (⟨⟨[122, 101, 116, 97, 59]⟩⟩, .str ⟨⟨[950]⟩⟩), (⟨⟨[122, 119, 110, 106, 59]⟩⟩, .str ⟨⟨[8204]⟩⟩), (⟨⟨[122, 119, 106, 59]⟩⟩, .str ⟨⟨[8205]⟩⟩)]),
  (⟨⟨[66]⟩⟩, .dict [(⟨⟨[66, 101, 116, 97, 59]⟩⟩, .str ⟨⟨[914]⟩⟩), (⟨⟨[66, 102, 114, 59]⟩⟩, .str ⟨⟨[120069]⟩⟩)]),
  (⟨⟨[67]⟩⟩, .dict [(⟨⟨[67, 99, 101, 100, 105, 108, 59]⟩⟩, .str ⟨⟨[199]⟩⟩), (⟨⟨[67, 79, 80, 89, 59]⟩⟩, .str ⟨⟨[169]⟩⟩), (⟨⟨[67, 101, 100, 105, 108, 108, 97, 59]⟩⟩, .str ⟨⟨[184]⟩⟩), (⟨⟨[67, 99, 97, 114, 111, 110, 59]⟩⟩, .str ⟨⟨[268]⟩⟩), (⟨⟨[67, 104, 105, 59]⟩⟩, .str ⟨⟨[935]⟩⟩), (⟨⟨[67, 111, 112, 102, 59]⟩⟩, .str ⟨⟨[8450]⟩⟩), (⟨⟨[67, 111, 117, 110, 116, 101, 114, 67, 108, 111, 99, 107, 119, 105, 115, 101, 67, 111, 110, 116, 111, 117, 114, 73, 110, 116, 101, 103, 114, 97, 108, 59]⟩⟩, .str ⟨⟨[8755]⟩⟩), (⟨⟨[67, 99, 101, 100, 105, 108]⟩⟩, .str ⟨⟨[199]⟩⟩), (⟨⟨[67, 79, 80, 89]⟩⟩, .str ⟨⟨[169]⟩⟩)]),
  (⟨⟨[68]⟩⟩, .dict [(⟨⟨[68, 105, 97, 99, 114, 105, 116, 105, 99, 97, 108, 71, 114, 97, 118, 101, 59]⟩⟩, .str ⟨⟨[96]⟩⟩), (⟨⟨[68, 111, 116, 59]⟩⟩, .str ⟨⟨[168]⟩⟩), (⟨⟨[68, 101, 108, 116, 97, 59]⟩⟩, .str ⟨⟨[916]⟩⟩), (⟨⟨[68, 97, 103, 103, 101, 114, 59]⟩⟩, .str ⟨⟨[8225]⟩⟩)]),
  (⟨⟨[69]⟩⟩, .dict [(⟨⟨[69, 103, 114, 97, 118, 101, 59]⟩⟩, .str ⟨⟨[200]⟩⟩), (⟨⟨[69, 97, 99, 117, 116, 101, 59]⟩⟩, .str ⟨⟨[201]⟩⟩), (⟨⟨[69, 99, 105, 114, 99, 59]⟩⟩, .str ⟨⟨[202]⟩⟩), (⟨⟨[69, 117, 109, 108, 59]⟩⟩, .str ⟨⟨[203]⟩⟩), (⟨⟨[69, 84, 72, 59]⟩⟩, .str ⟨⟨[208]⟩⟩), (⟨⟨[69, 78, 71, 59]⟩⟩, .str ⟨⟨[330]⟩⟩), (⟨⟨[69, 112, 115, 105, 108, 111, 110, 59]⟩⟩, .str ⟨⟨[917]⟩⟩), (⟨⟨[69, 116, 97, 59]⟩⟩, .str ⟨⟨[919]⟩⟩), (⟨⟨[69, 103, 114, 97, 118, 101]⟩⟩, .str ⟨⟨[200]⟩⟩), (⟨⟨[69, 97, 99, 117, 116, 101]⟩⟩, .str ⟨⟨[201]⟩⟩), (⟨⟨[69, 99, 105, 114, 99]⟩⟩, .str ⟨⟨[202]⟩⟩), (⟨⟨[69, 117, 109, 108]⟩⟩, .str ⟨⟨[203]⟩⟩), (⟨⟨[69, 84, 72]⟩⟩, .str ⟨⟨[208]⟩⟩)]),
  (⟨⟨[70]⟩⟩, .dict [(⟨⟨[70, 111, 114, 65, 108, 108, 59]⟩⟩, .str ⟨⟨[8704]⟩⟩)]),
  (⟨⟨[71]⟩⟩, .dict [(⟨⟨[71, 84, 59]⟩⟩, .str ⟨⟨[62]⟩⟩), (⟨⟨[71, 97, 109, 109, 97, 59]⟩⟩, .str ⟨⟨[915]⟩⟩), (⟨⟨[71, 116, 59]⟩⟩, .str ⟨⟨[8811]⟩⟩), (⟨⟨[71, 103, 59]⟩⟩, .str ⟨⟨[8921]⟩⟩), (⟨⟨[71, 84]⟩⟩, .str ⟨⟨[62]⟩⟩)]),
  (⟨⟨[72]⟩⟩, .dict [(⟨⟨[72, 97, 116, 59]⟩⟩, .str ⟨⟨[94]⟩⟩), (⟨⟨[72, 111, 112, 102, 59]⟩⟩, .str ⟨⟨[8461]⟩⟩)]),
  (⟨⟨[73]⟩⟩, .dict [(⟨⟨[73, 103, 114, 97, 118, 101, 59]⟩⟩, .str ⟨⟨[204]⟩⟩), (⟨⟨[73, 97, 99, 117, 116, 101, 59]⟩⟩, .str ⟨⟨[205]⟩⟩), (⟨⟨[73, 99, 105, 114, 99, 59]⟩⟩, .str ⟨⟨[206]⟩⟩), (⟨⟨[73, 117, 109, 108, 59]⟩⟩, .str ⟨⟨[207]⟩⟩), (⟨⟨[73, 100, 111, 116, 59]⟩⟩, .str ⟨⟨[304]⟩⟩), (⟨⟨[73, 111, 116, 97, 59]⟩⟩, .str ⟨⟨[921]⟩⟩), (⟨⟨[73, 110, 116, 101, 103, 114, 97, 108, 59]⟩⟩, .str ⟨⟨[8747]⟩⟩), (⟨⟨[73, 103, 114, 97, 118, 101]⟩⟩, .str ⟨⟨[204]⟩⟩), (⟨⟨[73, 97, 99, 117, 116, 101]⟩⟩, .str ⟨⟨[205]⟩⟩), (⟨⟨[73, 99, 105, 114, 99]⟩⟩, .str ⟨⟨[206]⟩⟩), (⟨⟨[73, 117, 109, 108]⟩⟩, .str ⟨⟨[207]⟩⟩)]),
  (⟨⟨[74]⟩⟩, .dict [(⟨⟨[74, 99, 105, 114, 99, 59]⟩⟩, .str ⟨⟨[308]⟩⟩)]),
  (⟨⟨[75]⟩⟩, .dict [(⟨⟨[75, 97, 112, 112, 97, 59]⟩⟩, .str ⟨⟨[922]⟩⟩)]),
  (⟨⟨[76]⟩⟩, .dict [(⟨⟨[76, 84, 59]⟩⟩, .str ⟨⟨[60]⟩⟩), (⟨⟨[76, 115, 116, 114, 111, 107, 59]⟩⟩, .str ⟨⟨[321]⟩⟩), (⟨⟨[76, 97, 109, 98, 100, 97, 59]⟩⟩, .str ⟨⟨[923]⟩⟩), (⟨⟨[76, 116, 59]⟩⟩, .str ⟨⟨[8810]⟩⟩), (⟨⟨[76, 84]⟩⟩, .str ⟨⟨[60]⟩⟩)]),
  (⟨⟨[77]⟩⟩, .dict [(⟨⟨[77, 117, 59]⟩⟩, .str ⟨⟨[924]⟩⟩)]),
  (⟨⟨[78]⟩⟩, .dict [(⟨⟨[78, 111, 116, 69, 113, 117, 97, 108, 84, 105, 108, 100, 101, 59]⟩⟩, .str ⟨⟨[8770, 824]⟩⟩), (⟨⟨[78, 101, 119, 76, 105, 110, 101, 59]⟩⟩, .str ⟨⟨[10]⟩⟩), (⟨⟨[78, 116, 105, 108, 100, 101, 59]⟩⟩, .str ⟨⟨[209]⟩⟩), (⟨⟨[78, 111, 110, 66, 114, 101, 97, 107, 105, 110, 103, 83, 112, 97, 99, 101, 59]⟩⟩, .str ⟨⟨[160]⟩⟩), (⟨⟨[78, 117, 59]⟩⟩, .str ⟨⟨[925]⟩⟩), (⟨⟨[78, 111, 112, 102, 59]⟩⟩, .str ⟨⟨[8469]⟩⟩), (⟨⟨[78, 111, 116, 59]⟩⟩, .str ⟨⟨[10988]⟩⟩), (⟨⟨[78, 116, 105, 108, 100, 101]⟩⟩, .str ⟨⟨[209]⟩⟩)]),
  (⟨⟨[79]⟩⟩, .dict [(⟨⟨[79, 103, 114, 97, 118, 101, 59]⟩⟩, .str ⟨⟨[210]⟩⟩), (⟨⟨[79, 97, 99, 117, 116, 101, 59]⟩⟩, .str ⟨⟨[211]⟩⟩), (⟨⟨[79, 99, 105, 114, 99, 59]⟩⟩, .str ⟨⟨[212]⟩⟩), (⟨⟨[79, 116, 105, 108, 100, 101, 59]⟩⟩, .str ⟨⟨[213]⟩⟩), (⟨⟨[79, 117, 109, 108, 59]⟩⟩, .str ⟨⟨[214]⟩⟩), (⟨⟨[79, 115, 108, 97, 115, 104, 59]⟩⟩, .str ⟨⟨[216]⟩⟩), (⟨⟨[79, 100, 98, 108, 97, 99, 59]⟩⟩, .str ⟨⟨[336]⟩⟩), (⟨⟨[79, 69, 108, 105, 103, 59]⟩⟩, .str ⟨⟨[338]⟩⟩), (⟨⟨[79, 109, 105, 99, 114, 111, 110, 59]⟩⟩, .str ⟨⟨[927]⟩⟩), (⟨⟨[79, 109, 101, 103, 97, 59]⟩⟩, .str ⟨⟨[937]⟩⟩), (⟨⟨[79, 103, 114, 97, 118, 101]⟩⟩, .str ⟨⟨[210]⟩⟩), (⟨⟨[79, 97, 99, 117, 116, 101]⟩⟩, .str ⟨⟨[211]⟩⟩), (⟨⟨[79, 99, 105, 114, 99]⟩⟩, .str ⟨⟨[212]⟩⟩), (⟨⟨[79, 116, 105, 108, 100, 101]⟩⟩, .str ⟨⟨[213]⟩⟩), (⟨⟨[79, 117, 109, 108]⟩⟩, .str ⟨⟨[214]⟩⟩), (⟨⟨[79, 115, 108, 97, 115, 104]⟩⟩, .str ⟨⟨[216]⟩⟩)]),
  (⟨⟨[80]⟩⟩, .dict [(⟨⟨[80, 108, 117, 115, 77, 105, 110, 117, 115, 59]⟩⟩, .str ⟨⟨[177]⟩⟩), (⟨⟨[80, 105, 59]⟩⟩, .str ⟨⟨[928]⟩⟩), (⟨⟨[80, 104, 105, 59]⟩⟩, .str ⟨⟨[934]⟩⟩), (⟨⟨[80, 115, 105, 59]⟩⟩, .str ⟨⟨[936]⟩⟩), (⟨⟨[80, 114, 105, 109, 101, 59]⟩⟩, .str ⟨⟨[8243]⟩⟩)]),
  (⟨⟨[81]⟩⟩, .dict [(⟨⟨[81, 85, 79, 84, 59]⟩⟩, .str ⟨⟨[34]⟩⟩), (⟨⟨[81, 111, 112, 102, 59]⟩⟩, .str ⟨⟨[8474]⟩⟩), (⟨⟨[81, 85, 79, 84]⟩⟩, .str ⟨⟨[34]⟩⟩)]),
  (⟨⟨[82]⟩⟩, .dict [(⟨⟨[82, 69, 71, 59]⟩⟩, .str ⟨⟨[174]⟩⟩), (⟨⟨[82, 104, 111, 59]⟩⟩, .str ⟨⟨[929]⟩⟩), (⟨⟨[82, 101, 59]⟩⟩, .str ⟨⟨[8476]⟩⟩), (⟨⟨[82, 111, 112, 102, 59]⟩⟩, .str ⟨⟨[8477]⟩⟩), (⟨⟨[82, 69, 71]⟩⟩, .str ⟨⟨[174]⟩⟩)]),
  (⟨⟨[83]⟩⟩, .dict [(⟨⟨[83, 99, 101, 100, 105, 108, 59]⟩⟩, .str ⟨⟨[350]⟩⟩), (⟨⟨[83, 99, 97, 114, 111, 110, 59]⟩⟩, .str ⟨⟨[352]⟩⟩), (⟨⟨[83, 105, 103, 109, 97, 59]⟩⟩, .str ⟨⟨[931]⟩⟩), (⟨⟨[83, 113, 114, 116, 59]⟩⟩, .str ⟨⟨[8730]⟩⟩)]),
  (⟨⟨[84]⟩⟩, .dict [(⟨⟨[84, 104, 105, 99, 107, 83, 112, 97, 99, 101, 59]⟩⟩, .str ⟨⟨[8287, 8202]⟩⟩), (⟨⟨[84, 97, 98, 59]⟩⟩, .str ⟨⟨[9]⟩⟩), (⟨⟨[84, 72, 79, 82, 78, 59]⟩⟩, .str ⟨⟨[222]⟩⟩), (⟨⟨[84, 104, 101, 116, 97, 59]⟩⟩, .str ⟨⟨[920]⟩⟩), (⟨⟨[84, 97, 117, 59]⟩⟩, .str ⟨⟨[932]⟩⟩), (⟨⟨[84, 72, 79, 82, 78]⟩⟩, .str ⟨⟨[222]⟩⟩)]),
  (⟨⟨[85]⟩⟩, .dict [(⟨⟨[85, 110, 100, 101, 114, 66, 97, 114, 59]⟩⟩, .str ⟨⟨[95]⟩⟩), (⟨⟨[85, 103, 114, 97, 118, 101, 59]⟩⟩, .str ⟨⟨[217]⟩⟩), (⟨⟨[85, 97, 99, 117, 116, 101, 59]⟩⟩, .str ⟨⟨[218]⟩⟩), (⟨⟨[85, 99, 105, 114, 99, 59]⟩⟩, .str ⟨⟨[219]⟩⟩), (⟨⟨[85, 117, 109, 108, 59]⟩⟩, .str ⟨⟨[220]⟩⟩), (⟨⟨[85, 112, 115, 105, 108, 111, 110, 59]⟩⟩, .str ⟨⟨[933]⟩⟩), (⟨⟨[85, 103, 114, 97, 118, 101]⟩⟩, .str ⟨⟨[217]⟩⟩), (⟨⟨[85, 97, 99, 117, 116, 101]⟩⟩, .str ⟨⟨[218]⟩⟩), (⟨⟨[85, 99, 105, 114, 99]⟩⟩, .str ⟨⟨[219]⟩⟩), (⟨⟨[85, 117, 109, 108]⟩⟩, .str ⟨⟨[220]⟩⟩)]),
  (⟨⟨[86]⟩⟩, .dict [(⟨⟨[86, 101, 114, 116, 105, 99, 97, 108, 76, 105, 110, 101, 59]⟩⟩, .str ⟨⟨[124]⟩⟩), (⟨⟨[86, 101, 114, 116, 59]⟩⟩, .str ⟨⟨[8214]⟩⟩)]),
  (⟨⟨[87]⟩⟩, .dict [(⟨⟨[87, 101, 100, 103, 101, 59]⟩⟩, .str ⟨⟨[8896]⟩⟩)]),
  (⟨⟨[88]⟩⟩, .dict [(⟨⟨[88, 105, 59]⟩⟩, .str ⟨⟨[926]⟩⟩)]),
  (⟨⟨[89]⟩⟩, .dict [(⟨⟨[89, 97, 99, 117, 116, 101, 59]⟩⟩, .str ⟨⟨[221]⟩⟩), (⟨⟨[89, 117, 109, 108, 59]⟩⟩, .str ⟨⟨[376]⟩⟩), (⟨⟨[89, 97, 99, 117, 116, 101]⟩⟩, .str ⟨⟨[221]⟩⟩)]),
  (⟨⟨[90]⟩⟩, .dict [(⟨⟨[90, 99, 97, 114, 111, 110, 59]⟩⟩, .str ⟨⟨[381]⟩⟩), (⟨⟨[90, 101, 116, 97, 59]⟩⟩, .str ⟨⟨[918]⟩⟩), (⟨⟨[90, 111, 112, 102, 59]⟩⟩, .str ⟨⟨[8484]⟩⟩)]),
  (⟨⟨[65]⟩⟩, .dict [(⟨⟨[65, 77, 80, 59]⟩⟩, .str ⟨⟨[38]⟩⟩), (⟨⟨[65, 103, 114, 97, 118, 101, 59]⟩⟩, .str ⟨⟨[192]⟩⟩), (⟨⟨[65, 97, 99, 117, 116, 101, 59]⟩⟩, .str ⟨⟨[193]⟩⟩), (⟨⟨[65, 99, 105, 114, 99, 59]⟩⟩, .str ⟨⟨[194]⟩⟩), (⟨⟨[65, 116, 105, 108, 100, 101, 59]⟩⟩, .str ⟨⟨[195]⟩⟩), (⟨⟨[65, 117, 109, 108, 59]⟩⟩, .str ⟨⟨[196]⟩⟩), (⟨⟨[65, 114, 105, 110, 103, 59]⟩⟩, .str ⟨⟨[197]⟩⟩), (⟨⟨[65, 69, 108, 105, 103, 59]⟩⟩, .str ⟨⟨[198]⟩⟩), (⟨⟨[65, 111, 103, 111, 110, 59]⟩⟩, .str ⟨⟨[260]⟩⟩), (⟨⟨[65, 108, 112, 104, 97, 59]⟩⟩, .str ⟨⟨[913]⟩⟩), (⟨⟨[65, 111, 112, 102, 59]⟩⟩, .str ⟨⟨[120120]⟩⟩), (⟨⟨[65, 103, 114, 97, 118, 101]⟩⟩, .str ⟨⟨[192]⟩⟩), (⟨⟨[65, 97, 99, 117, 116, 101]⟩⟩, .str ⟨⟨[193]⟩⟩), (⟨⟨[65, 99, 105, 114, 99]⟩⟩, .str ⟨⟨[194]⟩⟩), (⟨⟨[65, 116, 105, 108, 100, 101]⟩⟩, .str ⟨⟨[195]⟩⟩), (⟨⟨[65, 117, 109, 108]⟩⟩, .str ⟨⟨[196]⟩⟩), (⟨⟨[65, 114, 105, 110, 103]⟩⟩, .str ⟨⟨[197]⟩⟩), (⟨⟨[65, 69, 108, 105, 103]⟩⟩, .str ⟨⟨[198]⟩⟩), (⟨⟨[65, 77, 80]⟩⟩, .str ⟨⟨[38]⟩⟩)])]
theorem tab_eq : (run fs 24).call 15 [] none = some (.dict tabT, none) := by kernel_rfl
theorem rows1 : (rowsD.take 13).all (letterB tabT) = true := by decide +kernel
theorem rows2 : ((rowsD.drop 13).take 13).all (letterB tabT) = true := by decide +kernel
theorem rows3 : (((rowsD.drop 13).drop 13).take 13).all (letterB tabT) = true := by decide +kernel
theorem rows4 : (((rowsD.drop 13).drop 13).drop 13).all (letterB tabT) = true := by decide +kernel
theorem tabKeys : (tabT.all fun p => match getD rowsD p.1 with | some _ => true | none => false) = true := by decide +kernel
theorem all_parts {α : Type} {f : α → Bool} {n : Nat} {l : List α} (h : (l.take n).all f = true) (h2 : (l.drop n).all f = true) : l.all f = true := by
  rw [← List.take_append_drop n l, List.all_append, h, h2]
  rfl
theorem tableC_of {T : List (Str × Dat)} (h1 : rowsD.all (letterB T) = true) (h2 : (T.all fun p => match getD rowsD p.1 with | some _ => true | none => false) = true) : tableC (some (.dict T, none)) = true := by
  unfold tableC
  dsimp only
  rw [h1]
  exact h2
theorem table_ok : tableC ((run fs 24).call 15 [] none) = true := by
  rw [tab_eq]
  exact tableC_of (all_parts rows1 (all_parts rows2 (all_parts rows3 rows4))) tabKeys
end
end Mine
end

section
open PySem PySem.W PyProof.Rows
set_option Elab.async false
set_option maxRecDepth 100000
namespace Mine
noncomputable section
noncomputable def toTexts : List (Str × Dat) → Option (List (Str × Str))
  | [] => some []
  | (q, .str t) :: r => match toTexts r with
    | some l => some ((q, t) :: l)
    | none => none
  | _ => none
theorem fTexts_eq {α : Type} : ∀ (l : List (Str × Dat)) (k : Option (List (Str × Str)) → α), fTexts l k = k (toTexts l)
  | [], _ => rfl
  | (q, d) :: r, k => by
    cases d with
    | str t =>
      unfold fTexts toTexts
      rw [fS_eq, fS_eq, fTexts_eq r]
      cases toTexts r <;> rfl
    | _ => rfl
noncomputable def asD (l : List (Str × Str)) : List (Str × Dat) := l.map fun q => (q.1, .str q.2)
theorem toTexts_is : ∀ {l : List (Str × Dat)} {q : List (Str × Str)}, toTexts l = some q → l = asD q
  | [], _, h => by cases h; rfl
  | (a, d) :: r, q, h => by
    cases d with
    | str t =>
      unfold toTexts at h
      split at h
      · rename_i l hl
        cases h
        rw [toTexts_is hl]; rfl
      · cases h
    | _ => cases h
/-- the rows and the table's dict at one first sign -/
structure Side (p : Str) (l : List (Str × Str)) (ws : List Str) : Prop where
  few : l.length ≤ 64
  rows : ∀ w ∈ ws, getD l (nameOf w) = some (textOf w)
  keys : ∀ q ∈ l, ∃ w ∈ ws, nameOf w = q.1
  first : ∀ q ∈ l, ∃ c r, q.1.cps.toList = c :: r ∧ p.cps.toList = [c]
theorem side_of {p : Str} {l : List (Str × Str)} {ws : List Str} (h : sideB p l ws = true) : Side p l ws ∧ 1 ≤ l.length := by
  unfold sideB at h
  split at h
  rotate_left
  · cases h
  rename_i h0
  split at h
  rotate_left
  · cases h
  rename_i h1
  rw [Bool.and_eq_true] at h0
  refine ⟨⟨Nat.le_of_ble_eq_true h0.2, fun w hw => ?_, fun x hx => ?_, fun x hx => ?_⟩, Nat.le_of_ble_eq_true h0.1⟩
  · have := List.all_eq_true.mp h1 w hw
    unfold hasB at this
    split at this
    · rename_i t ht
      rw [ht]
      exact congrArg some (sameS_iff.mp this)
    · cases this
  · have := List.all_eq_true.mp h x hx
    unfold keyB at this
    rw [Bool.and_eq_true] at this
    obtain ⟨w, hw, e⟩ := List.any_eq_true.mp this.1
    exact ⟨w, hw, sameS_iff.mp e⟩
  · have := List.all_eq_true.mp h x hx
    unfold keyB at this
    rw [Bool.and_eq_true] at this
    have := this.2
    split at this
    · rename_i c r hc
      exact ⟨c, r, hc, (sameL_iff.mp this).symm⟩
    · cases this
theorem names_is {c : Option (Dat × Option MDat)} {inner : List (Str × Dat)} (h : namesB c inner = true) : ∃ D, c = some (.dict D, none) ∧ eqD (.dict D) (.dict inner) = some true := by
  unfold namesB at h
  split at h
  · rename_i D
    refine ⟨D, rfl, ?_⟩
    split at h
    · rename_i b hb
      rw [hb, h]
    · cases h
  · cases h
/-- what the table holds at one letter -/
structure Letter (T : List (Str × Dat)) (p s : Str) (l : List (Str × Str)) : Prop where
  inner : getD T p = some (.dict (asD l))
  side : Side p l (wordsF s)
  some1 : 1 ≤ l.length
  names : ∃ D, (run fs 24).call 5 [.str p] none = some (.dict D, none) ∧ eqD (.dict D) (.dict (asD l)) = some true
theorem letter_of {T : List (Str × Dat)} {p s : Str} (h : letterB T (p, s) = true) : ∃ l, Letter T p s l := by
  unfold letterB at h
  dsimp only at h
  cases hi : getD T p with
  | none => rw [hi] at h; cases h
  | some d =>
    rw [hi] at h
    cases d with
    | dict inner =>
      dsimp only at h
      rw [fTexts_eq] at h
      cases hl : toTexts inner with
      | none => rw [hl] at h; cases h
      | some l =>
        rw [hl] at h
        dsimp only at h
        rw [fSs_eq] at h
        have hl := toTexts_is hl
        subst hl
        cases hs : sideB p l (wordsF s) with
        | false => rw [hs] at h; cases h
        | true =>
          rw [hs] at h
          obtain ⟨a, b⟩ := side_of hs
          exact ⟨l, hi, a, b, names_is h⟩
    | _ => cases h
noncomputable def TabOk (T : List (Str × Dat)) : Prop := (∀ p s, getD rowsD p = some s → ∃ l, Letter T p s l) ∧ (∀ p, getD rowsD p = none → getD T p = none)
theorem table_of {c : Option (Dat × Option MDat)} (h : tableC c = true) : ∃ T, c = some (.dict T, none) ∧ TabOk T := by
  unfold tableC at h
  split at h
  rotate_left
  · cases h
  rename_i T
  refine ⟨T, rfl, ?_⟩
  generalize hr : rowsD.all (letterB T) = b at h
  cases b with
  | false => cases h
  | true =>
    dsimp only at h
    refine ⟨fun p s hp => ?_, fun p hp => ?_⟩
    · obtain ⟨q, hm, rfl⟩ := getD_mem hp
      exact letter_of (List.all_eq_true.mp hr _ hm)
    · cases e : getD T p with
      | none => rfl
      | some d =>
        obtain ⟨q, hm, rfl⟩ := getD_mem e
        have := List.all_eq_true.mp h _ hm
        dsimp only at this
        rw [hp] at this
        cases this
theorem table_facts : ∃ T, (run fs 24).call 15 [] none = some (.dict T, none) ∧ TabOk T := table_of table_ok
end
end Mine
end

section
open PySem PySem.W PyProof.Rows
set_option Elab.async false
set_option maxRecDepth 100000
namespace Mine
/-! signs as lists -/
theorem size_list (x : Str) : x.cps.size = x.cps.toList.length := Array.length_toList.symm
theorem len_list (x : Str) : x.length = x.cps.toList.length := Array.length_toList.symm
theorem str_ext {a b : Str} (h : a.cps.toList = b.cps.toList) : a = b := Str.ext' (Array.toList_inj.mp h)
theorem slice_to (x : Str) (j : Int) (h : 0 ≤ j) : (Txt.slice x none (some j)).cps.toList = x.cps.toList.take j.toNat := by
  by_cases q : j ≤ x.length
  · rw [beq_iff_eq.mp (slice_closes_toL h q)]
    simp
  · rw [slice_to_beyond (by omega), beq_iff_eq.mp (slice_closes_toL (by omega) (Int.le_refl _))]
    have e := len_list x
    rw [List.take_of_length_le (show x.cps.toList.length ≤ j.toNat by omega)]
    simp
    exact List.take_of_length_le (Nat.le_of_eq (size_list x).symm)
theorem starts_iff (x y : Str) : Txt.startswith x y = true ↔ y.cps.toList <+: x.cps.toList := by
  unfold Txt.startswith
  rw [Bool.and_eq_true, decide_eq_true_iff, StrLaws.subAt_eq, beq_iff_eq, List.drop_zero, len_list x, len_list y, Nat.zero_add]
  constructor
  · intro ⟨_, h⟩
    exact h ▸ List.take_prefix _ _
  · intro h
    exact ⟨h.length_le, (List.prefix_iff_eq_take.mp h).symm⟩
theorem slice1 (x : Str) : (Txt.slice x none (some 1)).cps.toList = x.cps.toList.take 1 := slice_to x 1 (by decide)
/-- the longest name behind a beginning -/
structure Best (a : Str) (ws : List Str) (best G : Int) : Prop where
  ge : best ≤ G
  all : ∀ w ∈ ws, Txt.startswith a (nameOf w) = true → ((nameOf w).cps.size : Int) ≤ G
  one : G = best ∨ ∃ w ∈ ws, Txt.startswith a (nameOf w) = true ∧ ((nameOf w).cps.size : Int) = G
theorem goLong_closed (a : Str) : ∀ (ws : List Str) (best : Int), Best a ws best (goLong a true ws best)
  | [], best => ⟨Int.le_refl _, fun _ h => (nomatch h), .inl rfl⟩
  | w :: ws, best => by
    unfold goLong
    cases q : Txt.startswith a (nameOf w) with
    | true =>
      dsimp only
      have ih := goLong_closed a ws (if best < ((nameOf w).cps.size : Int) then ((nameOf w).cps.size : Int) else best)
      have l1 : best ≤ (if best < ((nameOf w).cps.size : Int) then ((nameOf w).cps.size : Int) else best) := by split <;> omega
      have l2 : ((nameOf w).cps.size : Int) ≤ (if best < ((nameOf w).cps.size : Int) then ((nameOf w).cps.size : Int) else best) := by split <;> omega
      refine ⟨Int.le_trans l1 ih.ge, fun v hv s => ?_, ?_⟩
      · rcases List.mem_cons.mp hv with rfl | hv
        · exact Int.le_trans l2 ih.ge
        · exact ih.all v hv s
      · rcases ih.one with h | ⟨v, hv, h⟩
        · rw [h]
          split
          · exact .inr ⟨w, List.mem_cons_self, q, rfl⟩
          · exact .inl rfl
        · exact .inr ⟨v, List.mem_cons_of_mem _ hv, h⟩
    | false =>
      dsimp only
      have ih := goLong_closed a ws best
      refine ⟨ih.ge, fun v hv s => ?_, ?_⟩
      · rcases List.mem_cons.mp hv with rfl | hv
        · rw [q] at s; cases s
        · exact ih.all v hv s
      · rcases ih.one with h | ⟨v, hv, h⟩
        · exact .inl h
        · exact .inr ⟨v, List.mem_cons_of_mem _ hv, h⟩
noncomputable def Longer (a : Str) (ws : List Str) : Prop := ∃ w ∈ ws, Txt.startswith a (nameOf w) = false ∧ Txt.startswith (nameOf w) a = true
theorem goLong_open (a : Str) : ∀ (ws : List Str) (best : Int), (Longer a ws → goLong a false ws best = -1) ∧ (¬ Longer a ws → goLong a false ws best = goLong a true ws best)
  | [], best => ⟨fun ⟨_, h, _⟩ => (nomatch h), fun _ => rfl⟩
  | w :: ws, best => by
    unfold goLong
    cases q : Txt.startswith a (nameOf w) with
    | true =>
      dsimp only
      have ih := goLong_open a ws (if best < ((nameOf w).cps.size : Int) then ((nameOf w).cps.size : Int) else best)
      refine ⟨fun ⟨v, hv, h1, h2⟩ => ih.1 ?_, fun h => ih.2 fun ⟨v, hv, h1⟩ => h ⟨v, List.mem_cons_of_mem _ hv, h1⟩⟩
      rcases List.mem_cons.mp hv with rfl | hv
      · rw [q] at h1; cases h1
      · exact ⟨v, hv, h1, h2⟩
    | false =>
      dsimp only
      cases q2 : Txt.startswith (nameOf w) a with
      | true =>
        dsimp only
        exact ⟨fun _ => rfl, fun h => absurd ⟨w, List.mem_cons_self, q, q2⟩ h⟩
      | false =>
        dsimp only
        have ih := goLong_open a ws best
        refine ⟨fun ⟨v, hv, h1, h2⟩ => ih.1 ?_, fun h => ih.2 fun ⟨v, hv, h1⟩ => h ⟨v, List.mem_cons_of_mem _ hv, h1⟩⟩
        rcases List.mem_cons.mp hv with rfl | hv
        · rw [q2] at h2; cases h2
        · exact ⟨v, hv, h1, h2⟩
/-! loops of a comprehension -/
theorem loop1_is {r : Rec} {elt : Ex} {ifs : List Te} {x : Nat} {vars : Vars} (f : Dat → Option Dat) : ∀ (ds acc : List Dat), acc.length + ds.length ≤ lim →
    (∀ d ∈ ds, ∀ acc, acc.length < lim → turn r elt ifs (put vars x d) acc = some (match f d with | some e => acc ++ [e] | none => acc)) →
    loop1 r elt ifs x vars ds acc = some (acc ++ ds.filterMap f)
  | [], acc, _, _ => by simp [loop1]
  | d :: ds, acc, hl, h => by
    unfold loop1
    rw [List.length_cons] at hl
    rw [h d List.mem_cons_self acc (by omega)]
    dsimp only
    have h' := fun e he => h e (List.mem_cons_of_mem d he)
    cases q : f d with
    | none =>
      dsimp only
      rw [loop1_is f ds acc (by omega) h', List.filterMap_cons_none q]
    | some e =>
      dsimp only
      rw [loop1_is f ds (acc ++ [e]) (by rw [List.length_append, List.length_cons, List.length_nil]; omega) h', List.filterMap_cons_some q]
      simp
theorem max_is : ∀ (ds : List Int) (i : Int), ∃ M, maxD (.int i :: ds.map .int) = some M ∧ i ≤ M ∧ (∀ d ∈ ds, d ≤ M) ∧ (M = i ∨ M ∈ ds)
  | [], i => ⟨i, rfl, Int.le_refl _, fun _ h => (nomatch h), .inl rfl⟩
  | d :: ds, i => by
    obtain ⟨M, h1, h2, h3, h4⟩ := max_is ds d
    refine ⟨max i M, ?_, by omega, fun e he => ?_, ?_⟩
    · show (maxD (.int d :: ds.map .int)).map (max i ·) = _
      rw [h1]; rfl
    · rcases List.mem_cons.mp he with rfl | he
      · omega
      · have := h3 e he; omega
    · by_cases q : i ≤ M
      · rw [Int.max_eq_right q]
        rcases h4 with rfl | h4
        · exact .inr List.mem_cons_self
        · exact .inr (List.mem_cons_of_mem _ h4)
      · exact .inl (Int.max_eq_left (by omega))
end Mine
end

section
open PySem PySem.W PyProof.Rows
set_option Elab.async false
set_option maxRecDepth 100000
namespace Mine
noncomputable section
noncomputable def Key (l : List (Str × Str)) (k : Str) : Prop := ∃ q ∈ l, q.1 = k
theorem getD_asD (l : List (Str × Str)) (k : Str) : getD (asD l) k = (getD l k).map .str := getD_map Dat.str l k
theorem getD_some {α : Type} : ∀ {l : List (Str × α)} {q : Str × α}, q ∈ l → ∃ v, getD l q.1 = some v
  | (a, u) :: r, q, h => by
    unfold getD
    rw [sameS_eq]
    by_cases e : a = q.1
    · rw [decide_eq_true e]; exact ⟨u, rfl⟩
    · rw [decide_eq_false e]
      rcases List.mem_cons.mp h with rfl | h
      · exact absurd rfl e
      · exact getD_some h
theorem key_iff {l : List (Str × Str)} {k : Str} : (getD (asD l) k).isSome = true ↔ Key l k := by
  rw [getD_asD]
  constructor
  · intro h
    cases e : getD l k with
    | none => rw [e] at h; cases h
    | some v =>
      obtain ⟨q, hm, hq⟩ := getD_mem e
      exact ⟨_, hm, hq⟩
  · rintro ⟨q, hm, rfl⟩
    obtain ⟨v, hv⟩ := getD_some hm
    rw [hv]; rfl
theorem Side.key {p : Str} {l : List (Str × Str)} {ws : List Str} (s : Side p l ws) {k : Str} : Key l k ↔ ∃ w ∈ ws, nameOf w = k := by
  constructor
  · rintro ⟨q, hm, rfl⟩
    exact s.keys q hm
  · rintro ⟨w, hw, rfl⟩
    obtain ⟨q, hm, hq⟩ := getD_mem (s.rows w hw)
    exact ⟨_, hm, hq⟩
noncomputable def first (x : Str) : Str := Txt.slice x none (some 1)
noncomputable def rowsOf (x : Str) : List Str := wordsF (rowS (first x))
theorem size_of {x w : Str} (h : w ∈ rowsOf x) : 1 ≤ (nameOf w).cps.toList.length ∧ (nameOf w).cps.toList.length ≤ 40 := by
  have := ((good_split ((row_fit (first x)).2 w h))).2.1
  rw [size_list] at this
  exact this
/-- named_text is the dict's get -/
theorem named_is {x : Str} {l : List (Str × Str)} (s : Side (first x) l (rowsOf x)) : m2D .get (.dict (asD l)) (.str x) (.str ⟨#[]⟩) = some (.str (namedT x)) := by
  simp only [r_rep, r_get, getD_asD]
  unfold namedT
  show _ = some (Dat.str (match (rowsOf x).find? (fun w => sameS (nameOf w) x) with
    | some w => textOf w
    | none => ⟨#[]⟩))
  cases e : (rowsOf x).find? (fun w => sameS (nameOf w) x) with
  | some w =>
    have hm := List.mem_of_find?_eq_some e
    have hn := List.find?_some e
    have hn : nameOf w = x := sameS_iff.mp hn
    have := s.rows w hm
    rw [hn] at this
    rw [this]; rfl
  | none =>
    cases q : getD l x with
    | none => rfl
    | some v =>
      obtain ⟨k, hm, hk⟩ := getD_mem q
      obtain ⟨w, hw, hn⟩ := s.keys _ hm
      exact absurd (sameS_iff.mpr (hn.trans hk)) (List.find?_eq_none.mp e w hw)
/-- the greatest length of a beginning that is known -/
structure Most (x : Str) (l : List (Str × Str)) (M : Int) : Prop where
  pos : 0 ≤ M
  all : ∀ i : Nat, i < x.cps.toList.length → Key l (Txt.slice x none (some (1 + (i : Int)))) → 1 + (i : Int) ≤ M
  one : M = 0 ∨ ∃ i : Nat, i < x.cps.toList.length ∧ M = 1 + (i : Int) ∧ Key l (Txt.slice x none (some (1 + (i : Int))))
theorem first_cut {x a : Str} (h : a.cps.toList = x.cps.toList.take 40) : first a = first x := by
  refine str_ext ?_
  unfold first
  rw [slice1, slice1, h, List.take_take]
  rfl
theorem slice_nat (x : Str) (i : Nat) : (Txt.slice x none (some (1 + (i : Int)))).cps.toList = x.cps.toList.take (i + 1) := by
  rw [slice_to _ _ (by omega)]
  congr 1
  omega
theorem long_closed {x a : Str} {l : List (Str × Str)} {M : Int} (h : a.cps.toList = x.cps.toList.take 40) (s : Side (first x) l (rowsOf x)) (m : Most x l M) : longT a true = M := by
  have e : longT a true = goLong a true (rowsOf x) 0 := by
    unfold longT
    have : wordsF (rowS (Txt.slice a none (some 1))) = rowsOf x := by
      unfold rowsOf
      rw [← first_cut h]; rfl
    rw [this]
    cases sameS a ⟨#[]⟩ <;> rfl
  rw [e]
  have b := goLong_closed a (rowsOf x) 0
  refine Int.le_antisymm ?_ ?_
  · rcases b.one with g | ⟨w, hw, st, sz⟩
    · rw [g]; exact m.pos
    · rw [← sz]
      have pre := (starts_iff _ _).mp st
      have sz2 := size_of hw
      rw [h] at pre
      have p2 := pre.trans (List.take_prefix _ _)
      have nm := List.prefix_iff_eq_take.mp p2
      have ln := p2.length_le
      have := m.all ((nameOf w).cps.toList.length - 1) (by omega) (s.key.mpr ⟨w, hw, str_ext ?_⟩)
      · rw [size_list]; omega
      · rw [slice_nat, show (nameOf w).cps.toList.length - 1 + 1 = (nameOf w).cps.toList.length by omega]
        exact nm
  · rcases m.one with g | ⟨i, hi, g, k⟩
    · rw [g]; exact b.ge
    · obtain ⟨w, hw, hn⟩ := s.key.mp k
      have sz2 := size_of hw
      have tk : (nameOf w).cps.toList = x.cps.toList.take (i + 1) := by rw [hn, slice_nat]
      have lw : (nameOf w).cps.toList.length = i + 1 := by rw [tk, List.length_take]; omega
      have := b.all w hw ((starts_iff _ _).mpr ?_)
      · rw [size_list] at this; omega
      · rw [tk, h]
        exact List.take_prefix_take_left (by omega)
noncomputable def longerD (x : Str) (l : List (Str × Str)) : List Dat := ((asD l).map fun p => Dat.str p.1).filterMap fun d => match d with
  | .str k => match sameS (Txt.slice k none (some (x.cps.size : Int))) x && !(sameS k x) with
    | true => some (.str k)
    | false => none
  | _ => none
theorem longer_iff {x a : Str} {l : List (Str × Str)} (h : a.cps.toList = x.cps.toList.take 40) (s : Side (first x) l (rowsOf x)) : longerD x l ≠ [] ↔ Longer a (rowsOf x) := by
  have cut : ∀ k : Str, (Txt.slice k none (some (x.cps.size : Int))).cps.toList = k.cps.toList.take x.cps.toList.length := fun k => by
    rw [slice_to _ _ (by omega), size_list]
    congr 1
  have mem : longerD x l ≠ [] ↔ ∃ k, Key l k ∧ k.cps.toList.take x.cps.toList.length = x.cps.toList ∧ k ≠ x := by
    constructor
    · intro hne
      obtain ⟨d, hd⟩ := List.exists_mem_of_ne_nil _ hne
      unfold longerD at hd
      obtain ⟨e, he, hf⟩ := List.mem_filterMap.mp hd
      obtain ⟨q, hq, rfl⟩ := List.mem_map.mp he
      unfold asD at hq
      obtain ⟨q', hq', rfl⟩ := List.mem_map.mp hq
      dsimp only at hf
      refine ⟨q'.1, ⟨q', hq', rfl⟩, ?_⟩
      split at hf
      · rename_i hb
        rw [Bool.and_eq_true] at hb
        refine ⟨?_, fun e => ?_⟩
        · rw [← cut, sameS_iff.mp hb.1]
        · have := hb.2
          rw [sameS_iff.mpr e] at this
          cases this
      · cases hf
    · rintro ⟨k, ⟨q, hq, rfl⟩, e, ne⟩ hnil
      have : Dat.str q.1 ∈ longerD x l := by
        unfold longerD
        refine List.mem_filterMap.mpr ⟨.str q.1, List.mem_map.mpr ⟨(q.1, .str q.2), List.mem_map.mpr ⟨q, hq, rfl⟩, rfl⟩, ?_⟩
        dsimp only
        have e1 : sameS (Txt.slice q.1 none (some (x.cps.size : Int))) x = true := sameS_iff.mpr (str_ext (by rw [cut, e]))
        have e2 : sameS q.1 x = false := by rw [sameS_eq]; exact decide_eq_false ne
        rw [e1, e2]; rfl
      rw [hnil] at this
      cases this
  rw [mem]
  constructor
  · rintro ⟨k, hk, e, ne⟩
    obtain ⟨w, hw, rfl⟩ := s.key.mp hk
    have sz := size_of hw
    have ln : x.cps.toList.length ≤ (nameOf w).cps.toList.length := by
      have := congrArg List.length e
      rw [List.length_take] at this
      omega
    have ax : a.cps.toList = x.cps.toList := by rw [h, List.take_of_length_le (by omega)]
    have pre : x.cps.toList <+: (nameOf w).cps.toList := e ▸ List.take_prefix _ _
    refine ⟨w, hw, ?_, (starts_iff _ _).mpr (ax ▸ pre)⟩
    rw [Bool.eq_false_iff]
    intro st
    have st := (starts_iff _ _).mp st
    rw [ax] at st
    exact ne (str_ext (st.eq_of_length_le pre.length_le))
  · rintro ⟨w, hw, n1, st⟩
    have sz := size_of hw
    have st := (starts_iff _ _).mp st
    have n1 : ¬ (nameOf w).cps.toList <+: a.cps.toList := fun q => by rw [(starts_iff _ _).mpr q] at n1; cases n1
    have sh : x.cps.toList.length ≤ 40 := by
      apply Nat.le_of_not_lt
      intro q
      have la : a.cps.toList.length = 40 := by rw [h, List.length_take]; omega
      have := st.eq_of_length_le (by omega)
      exact n1 (this ▸ List.prefix_rfl)
    have ax : a.cps.toList = x.cps.toList := by rw [h, List.take_of_length_le sh]
    refine ⟨nameOf w, s.key.mpr ⟨w, hw, rfl⟩, ?_, fun e => n1 (by rw [ax, e]; exact List.prefix_rfl)⟩
    exact (List.prefix_iff_eq_take.mp (ax ▸ st)).symm
theorem long_open {x a : Str} {l : List (Str × Str)} {M : Int} (h : a.cps.toList = x.cps.toList.take 40) (s : Side (first x) l (rowsOf x)) (m : Most x l M) :
    longT a false = if x = ⟨#[]⟩ ∨ longerD x l ≠ [] then -1 else M := by
  have emp : sameS a ⟨#[]⟩ = true ↔ x = ⟨#[]⟩ := by
    rw [sameS_iff]
    constructor
    · rintro rfl
      have h : [] = x.cps.toList.take 40 := h
      refine str_ext ?_
      have := congrArg List.length h
      rw [List.length_take, List.length_nil] at this
      exact List.eq_nil_of_length_eq_zero (by omega)
    · rintro rfl
      exact str_ext h
  have e : longT a true = goLong a true (rowsOf x) 0 ∧ (sameS a ⟨#[]⟩ = false → longT a false = goLong a false (rowsOf x) 0) := by
    unfold longT
    have : wordsF (rowS (Txt.slice a none (some 1))) = rowsOf x := by
      unfold rowsOf
      rw [← first_cut h]; rfl
    rw [this]
    cases sameS a ⟨#[]⟩ with
    | true => exact ⟨rfl, fun q => (nomatch q)⟩
    | false => exact ⟨rfl, fun _ => rfl⟩
  cases q : sameS a ⟨#[]⟩ with
  | true =>
    rw [if_pos (.inl (emp.mp q))]
    unfold longT
    rw [q]
  | false =>
    have nx : ¬ x = ⟨#[]⟩ := fun k => by rw [emp.mpr k] at q; cases q
    rw [e.2 q]
    have o := goLong_open a (rowsOf x) 0
    by_cases lg : Longer a (rowsOf x)
    · rw [o.1 lg, if_pos (.inr ((longer_iff h s).mpr lg))]
    · rw [o.2 lg, ← e.1, long_closed h s m, if_neg]
      rintro (k | k)
      · exact nx k
      · exact lg ((longer_iff h s).mp k)
end
end Mine
end

section
open PySem PySem.W PyProof.Rows
set_option Elab.async false
set_option maxRecDepth 100000
namespace Mine
noncomputable section
theorem small_lim {n : Nat} (h : n ≤ 200) : n ≤ lim := Nat.le_trans h (by decide)
theorem small_lt {n : Nat} (h : n ≤ 200) : n < lim := Nat.lt_of_le_of_lt h (by decide)
theorem intO_small {i : Int} (h0 : 0 ≤ i) (h : i ≤ 300) : intO (some (.int i)) = some (some i) := by
  simp only [r_intO]
  have l : (300 : Int) < (lim : Int) := by decide
  have l2 : -(lim : Int) < 0 := by decide
  rw [if_pos ⟨Int.lt_of_lt_of_le l2 h0, Int.lt_of_le_of_lt h l⟩]
theorem range_small {n : Nat} (h : n ≤ 200) : rangeD 1 ((n : Int) + 1) = some ((List.range n).map fun (i : Nat) => .int (1 + (i : Int))) := by
  unfold rangeD
  have e : ((n : Int) + 1 - 1).toNat = n := by omega
  have l : (300 : Int) ≤ (lim : Int) := by decide
  have l2 : -(lim : Int) ≤ 0 := by decide
  have l3 : -(lim : Int) ≤ 1 := Int.le_trans l2 (by decide)
  have l4 : (1 : Int) ≤ (lim : Int) := Int.le_trans (by decide) l
  have c1 : (n : Int) + 1 ≤ (lim : Int) := Int.le_trans (show (n : Int) + 1 ≤ 300 by omega) l
  have c2 : -(lim : Int) ≤ (n : Int) + 1 := Int.le_trans l2 (by omega)
  have c3 : (n : Int) + 1 - 1 ≤ (lim : Int) := Int.le_trans (show (n : Int) + 1 - 1 ≤ 300 by omega) l
  rw [if_pos ⟨l3, l4, c2, c1, c3⟩, e]
theorem look_kept {fr : List Nat} {y : Nat} (hy : y ∈ fr) : ∀ (v : Vars), look (only fr v) y = look v y
  | [] => rfl
  | (z, c) :: r => by
    unfold only
    cases q : fr.any (Nat.beq z) with
    | true =>
      simp only [look]
      rw [look_kept hy r]
    | false =>
      simp only [look]
      rw [look_kept hy r]
      cases p : Nat.beq z y with
      | false => rfl
      | true =>
        have := Nat.eq_of_beq_eq_true p; subst this
        rw [List.any_eq_true.mpr ⟨z, hy, Nat.beq_refl z⟩] at q
        cases q
theorem look_same (v : Vars) (x : Nat) (d : Dat) : look (put v x d) x = some d := by rw [look_put, if_pos rfl]
theorem look_other {v : Vars} {x y : Nat} (d : Dat) (h : y ≠ x) : look (put v x d) y = look v y := by rw [look_put, if_neg h]
theorem isin_D (k : Str) (D : List (Str × Dat)) : cmpD .isin (.str k) (.dict D) = some (getD D k).isSome := rfl
theorem cmp_neS (a b : Str) : cmpD .ne (.str a) (.str b) = some (!sameS a b) := rfl
theorem cmp_neI (a b : Int) : cmpD .ne (.int a) (.int b) = some (!decide (a = b)) := rfl

section
variable {v : Vars} {T : List (Str × Dat)} {x : Str} {l : List (Str × Str)}
theorem st55 (h45 : look v 45 = some (.dict T)) (h47 : look v 47 = some (.str x)) (hx : x.cps.size ≤ 200) (hk : m2D .get (.dict T) (.str (first x)) (.dict []) = some (.dict (asD l))) :
    (run fs 40).ex (.assign 55 (.m2 .get (.var 45) (.slice (.var 47) Option.none (some (.int 1))) .dict0)) ⟨v, none⟩ = some (.next, ⟨put v 55 (.dict (asD l)), none⟩) := by
  have sl : sliceD (.str x) none (some 1) = some (.str (first x)) := slice_str (small_lim hx) none (some 1)
  simp only [ex_succ, stepS, ev_succ, stepE, evO, isMu, h45, h47, int0, int1, sl, Option.map_some, hk]
noncomputable def inKnown (x : Str) (l : List (Str × Str)) : Dat → Option Dat := fun d => match d with
  | .int m => match (getD (asD l) (Txt.slice x none (some m))).isSome with
    | true => some (.int m)
    | false => none
  | _ => none
theorem most_of (x : Str) (l : List (Str × Str)) : ∃ M, maxD (.int 0 :: (((List.range x.cps.size).map fun (i : Nat) => Dat.int (1 + (i : Int))).filterMap (inKnown x l))) = some M ∧ Most x l M := by
  have e : ((List.range x.cps.size).map fun (i : Nat) => Dat.int (1 + (i : Int))).filterMap (inKnown x l) = ((List.range x.cps.size).filterMap fun (i : Nat) => match (getD (asD l) (Txt.slice x none (some (1 + (i : Int))))).isSome with
    | true => some (1 + (i : Int))
    | false => none).map Dat.int := by
    rw [List.filterMap_map, List.map_filterMap]
    refine congrFun (congrArg _ (funext fun i => ?_)) _
    show inKnown x l (Dat.int (1 + (i : Int))) = _
    unfold inKnown
    dsimp only
    cases (getD (asD l) (Txt.slice x none (some (1 + (i : Int))))).isSome <;> rfl
  rw [e]
  obtain ⟨M, h1, h2, h3, h4⟩ := max_is ((List.range x.cps.size).filterMap fun (i : Nat) => match (getD (asD l) (Txt.slice x none (some (1 + (i : Int))))).isSome with
    | true => some (1 + (i : Int))
    | false => none) 0
  refine ⟨M, h1, h2, fun i hi k => h3 _ (List.mem_filterMap.mpr ⟨i, List.mem_range.mpr (by rw [size_list]; exact hi), ?_⟩), ?_⟩
  · rw [key_iff.mpr k]
  · rcases h4 with h4 | h4
    · exact .inl h4
    · obtain ⟨i, hi, h⟩ := List.mem_filterMap.mp h4
      have hi := List.mem_range.mp hi
      rw [size_list] at hi
      cases q : (getD (asD l) (Txt.slice x none (some (1 + (i : Int))))).isSome with
      | false => rw [q] at h; cases h
      | true =>
        rw [q] at h
        cases h
        exact .inr ⟨i, hi, rfl, key_iff.mp q⟩
theorem turn_known (h47 : look v 47 = some (.str x)) (h55 : look v 55 = some (.dict (asD l))) (hx : x.cps.size ≤ 200) {m : Int} (io : intO (some (.int m)) = some (some m)) {acc : List Dat} (ha : acc.length < lim) :
    turn (run fs 36) (.var 38) [(.cmp .isin (.slice (.var 47) Option.none (some (.var 38))) (.var 55))] (put (only [47, 55] v) 38 (.int m)) acc = some (match inKnown x l (.int m) with | some e => acc ++ [e] | none => acc) := by
  have k38 : look (put (only [47, 55] v) 38 (.int m)) 38 = some (.int m) := look_same _ _ _
  have k47 : look (put (only [47, 55] v) 38 (.int m)) 47 = some (.str x) := by rw [look_other _ (by decide), look_kept (by simp)]; exact h47
  have k55 : look (put (only [47, 55] v) 38 (.int m)) 55 = some (.dict (asD l)) := by rw [look_other _ (by decide), look_kept (by simp)]; exact h55
  have sl := slice_str (small_lim hx) none (some m)
  simp only [turn, tesAnd, te_succ, stepT, ev_succ, stepE, evO, k38, k47, k55, int0, io, sl, Option.map_some, isin_D, inKnown]
  cases (getD (asD l) (Txt.slice x none (some m))).isSome with
  | false => simp only
  | true => simp only [if_pos ha]
theorem st56 (h47 : look v 47 = some (.str x)) (h55 : look v 55 = some (.dict (asD l))) (hx : x.cps.size ≤ 200) :
    ∃ M, Most x l M ∧ (run fs 40).ex (.assign 56 (.fn .max (.bin .add (.list [(.int 0)]) (.comp (.var 38) 38 (.range2 (.int 1) (.bin .add (.fn .len (.var 47)) (.int 1))) Option.none [(.cmp .isin (.slice (.var 47) Option.none (some (.var 38))) (.var 55))] [47, 55])))) ⟨v, none⟩ = some (.next, ⟨put v 56 (.int M), none⟩) := by
  obtain ⟨M, hm, mo⟩ := most_of x l
  refine ⟨M, mo, ?_⟩
  have ln := len_str (small_lim hx)
  have rg := range_small hx
  have lp : loop1 (run fs 36) (.var 38) [(.cmp .isin (.slice (.var 47) Option.none (some (.var 38))) (.var 55))] 38 (only [47, 55] v) ((List.range x.cps.size).map fun (i : Nat) => .int (1 + (i : Int))) [] = some ([] ++ ((List.range x.cps.size).map fun (i : Nat) => Dat.int (1 + (i : Int))).filterMap (inKnown x l)) := by
    refine loop1_is (inKnown x l) _ [] ?_ ?_
    · rw [List.length_map, List.length_range]
      exact Nat.le_trans (by simp) (small_lim hx)
    · intro d hd acc ha
      obtain ⟨i, hi, rfl⟩ := List.mem_map.mp hd
      have hi := List.mem_range.mp hi
      have io := intO_small (i := 1 + (i : Int)) (by omega) (by omega)
      exact turn_known h47 h55 hx io ha
  rw [List.nil_append] at lp
  have l1 : ([Dat.int 0] : List Dat).length ≤ lim := by decide
  have fl : (((List.range x.cps.size).map fun (i : Nat) => Dat.int (1 + (i : Int))).filterMap (inKnown x l)).length ≤ 200 := by
    refine Nat.le_trans (List.length_filterMap_le _ _) ?_
    rw [List.length_map, List.length_range]
    exact hx
  generalize ((List.range x.cps.size).map fun (i : Nat) => Dat.int (1 + (i : Int))).filterMap (inKnown x l) = F at lp hm fl
  have l2 : binD .add (.list [.int 0]) (.list F) = some (.list (.int 0 :: F)) := by
    simp only [r_mul, r_fdiv, r_fmod, r_adds, r_addl]
    rw [if_pos (Nat.le_trans (show ([Dat.int 0] : List Dat).length + F.length ≤ 300 by simp; omega) (by decide))]
    rfl
  have l3 : fnD .max (.list (.int 0 :: F)) = some (.int M) := by
    simp only [r_ord, r_chr, r_lens, r_lenl, r_max, r_flist, hm]
    rw [if_pos (Nat.le_trans (show (Dat.int 0 :: F).length ≤ 300 by rw [List.length_cons]; omega) (by decide))]
    rfl
  simp only [ex_succ, stepS, ev_succ, stepE, evs, iter, isMu, h47, if_pos l1, ln, add_int', Option.map_some, rg, lp, l2, l3]
end
end
end Mine
end

section
open PySem PySem.W PyProof.Rows
set_option Elab.async false
set_option maxRecDepth 100000
namespace Mine
noncomputable section
section
variable {v : Vars} {T : List (Str × Dat)} {x : Str} {l : List (Str × Str)}
noncomputable def isLonger (x : Str) : Dat → Option Dat := fun d => match d with
  | .str k => match sameS (Txt.slice k none (some (x.cps.size : Int))) x && !(sameS k x) with
    | true => some (.str k)
    | false => none
  | _ => none
theorem turn_longer (h47 : look v 47 = some (.str x)) {k : Str} (hk : k.cps.size ≤ 200) {m : Int} (hm : m = (x.cps.size : Int)) (ln : fnD .len (.str x) = some (.int m)) (io : intO (some (.int m)) = some (some m)) {acc : List Dat} (ha : acc.length < lim) :
    turn (run fs 38) (.var 58) [(.and [(.cmp .eq (.slice (.var 58) Option.none (some (.fn .len (.var 47)))) (.var 47)), (.cmp .ne (.var 58) (.var 47))])] (put (only [47] v) 58 (.str k)) acc = some (match isLonger x (.str k) with | some e => acc ++ [e] | none => acc) := by
  have k58 : look (put (only [47] v) 58 (.str k)) 58 = some (.str k) := look_same _ _ _
  have k47 : look (put (only [47] v) 58 (.str k)) 47 = some (.str x) := by rw [look_other _ (by decide), look_kept (by simp)]; exact h47
  have sl := slice_str (small_lim hk) none (some m)
  simp only [turn, tesAnd, te_succ, stepT, ev_succ, stepE, evO, k58, k47, int0, ln, io, sl, Option.map_some, cmp_eqS, cmp_neS, isLonger, ← hm]
  cases sameS (Txt.slice k none (some m)) x with
  | false => simp only [Bool.false_and]
  | true =>
    cases sameS k x with
    | true => simp only [Bool.true_and, Bool.not_true]
    | false => simp only [Bool.true_and, Bool.not_false, if_pos ha]
theorem key_size (s : Side (first x) l (rowsOf x)) {q : Str × Str} (hq : q ∈ l) : q.1.cps.size ≤ 40 := by
  obtain ⟨w, hw, hn⟩ := s.keys q hq
  rw [← hn, size_list]
  exact (size_of hw).2
theorem st57 (s : Side (first x) l (rowsOf x)) (h47 : look v 47 = some (.str x)) (h55 : look v 55 = some (.dict (asD l))) (hx : x.cps.size ≤ 200) :
    (run fs 40).ex (.assignC 57 (.var 58) 58 (.val (.var 55)) [(.and [(.cmp .eq (.slice (.var 58) Option.none (some (.fn .len (.var 47)))) (.var 47)), (.cmp .ne (.var 58) (.var 47))])] [47]) ⟨v, none⟩ = some (.next, ⟨put v 57 (.list (longerD x l)), none⟩) := by
  have ln := len_str (small_lim hx)
  have la : (asD l).length ≤ 200 := by
    have := s.few
    unfold asD
    rw [List.length_map]; omega
  have it : itemsD (.dict (asD l)) = some ((asD l).map fun p => .str p.1) := by
    simp only [r_itl, r_its, r_itd, if_pos (small_lim la)]
  have lp : loop1 (run fs 39) (.var 58) [(.and [(.cmp .eq (.slice (.var 58) Option.none (some (.fn .len (.var 47)))) (.var 47)), (.cmp .ne (.var 58) (.var 47))])] 58 (only [47] v) ((asD l).map fun p => Dat.str p.1) [] = some ([] ++ ((asD l).map fun p => Dat.str p.1).filterMap (isLonger x)) := by
    refine loop1_le (run_le fs (show 38 ≤ 39 by decide)) (loop1_is (isLonger x) _ [] ?_ ?_)
    · rw [List.length_map]
      exact Nat.le_trans (show ([] : List Dat).length + (asD l).length ≤ 200 by simpa using la) (by decide)
    · intro d hd acc ha
      obtain ⟨q, hq, rfl⟩ := List.mem_map.mp hd
      unfold asD at hq
      obtain ⟨q', hq', rfl⟩ := List.mem_map.mp hq
      have io := intO_small (i := (x.cps.size : Int)) (by omega) (by omega)
      have := key_size s hq'
      exact turn_longer h47 (by dsimp only; omega) rfl ln io ha
  rw [List.nil_append] at lp
  have e : ((asD l).map fun p => Dat.str p.1).filterMap (isLonger x) = longerD x l := rfl
  rw [e] at lp
  simp only [ex_succ, stepS, ev_succ, stepE, iter, isMu, h55, it, lp, Option.map_some]

noncomputable def sgn (c : Nat) : Str := ⟨#[c]⟩
noncomputable def ahead (k : Nat) : List Nat := [113, 38].take k
theorem join_sgn : ∀ l : List Nat, joinL [] (l.map sgn) = l
  | [] => rfl
  | [c] => rfl
  | c :: d :: r => by
    show (sgn c).cps.toList ++ ([] ++ joinL [] (sgn d :: r.map sgn)) = _
    have := join_sgn (d :: r)
    rw [List.map_cons] at this
    rw [this]; rfl
theorem sum_sgn : ∀ l : List Nat, ((l.map sgn).map (·.length)).sum = l.length
  | [] => rfl
  | c :: r => by
    rw [List.map_cons, List.map_cons, List.sum_cons, sum_sgn r, List.length_cons]
    show 1 + r.length = _
    omega
theorem ev31 {kk : Int} {q y z : Str} {D E : List Dat} (h30 : look v 30 = some (.int kk)) (h47 : look v 47 = some (.str x)) (i1 : intO (some (.int kk)) = some (some kk)) (sl : sliceD (.str q) none (some kk) = some (.str y))
    (ad : binD .add (.str y) (.str x) = some (.str z)) (it : itemsD (.str z) = some D) (lp : loop1 (run fs 39) (.var 59) [] 59 (only [] v) D [] = some E) :
    (run fs 40).ex (.assignC 31 (.var 59) 59 (.val (.bin .add (.slice (.str q) Option.none (some (.var 30))) (.var 47))) [] []) ⟨v, none⟩ = some (.next, ⟨put v 31 (.list E), none⟩) := by
  simp only [ex_succ, stepS, ev_succ, stepE, evO, iter, isMu, h30, h47, int0, i1, sl, ad, it, lp, Option.map_some]
theorem st31 {k : Nat} (hk : k = 0 ∨ k = 1 ∨ k = 2) (h30 : look v 30 = some (.int k)) (h47 : look v 47 = some (.str x)) (hx : x.cps.size ≤ 200) :
    (run fs 40).ex (.assignC 31 (.var 59) 59 (.val (.bin .add (.slice (.str ⟨#[113, 38]⟩) Option.none (some (.var 30))) (.var 47))) [] []) ⟨v, none⟩ = some (.next, ⟨put v 31 (.list (((ahead k ++ x.cps.toList).map sgn).map .str)), none⟩) := by
  have i1 : intO (some (.int (k : Int))) = some (some (k : Int)) := by rcases hk with rfl | rfl | rfl <;> rfl
  have sl : sliceD (.str ⟨#[113, 38]⟩) none (some (k : Int)) = some (.str ⟨⟨ahead k⟩⟩) := by
    rw [slice_str (by decide)]
    refine congrArg some (congrArg Dat.str (str_ext ?_))
    rw [slice_to _ _ (by omega)]
    rcases hk with rfl | rfl | rfl <;> rfl
  have la : (ahead k).length ≤ 2 := by rcases hk with rfl | rfl | rfl <;> decide
  have lx : x.cps.toList.length ≤ 200 := by rw [← size_list]; exact hx
  have ad : binD .add (.str ⟨⟨ahead k⟩⟩) (.str x) = some (.str ⟨⟨ahead k ++ x.cps.toList⟩⟩) := by
    simp only [r_mul, r_fdiv, r_fmod, r_adds, r_addl, someL_eq]
    rw [if_pos]
    refine Nat.le_trans (m := 300) ?_ (by decide)
    rw [size_list x]
    show (ahead k).length + _ ≤ 300
    omega
  generalize ahead k = h at sl la ad ⊢
  have ls : (h ++ x.cps.toList).length ≤ 300 := by rw [List.length_append]; omega
  generalize h ++ x.cps.toList = s at ad ls ⊢
  have it : itemsD (.str ⟨⟨s⟩⟩) = some (s.map fun c => .str ⟨#[c]⟩) := by
    simp only [r_itl, r_its, r_itd]
    rw [if_pos (Nat.le_trans (show (⟨s⟩ : Array Nat).size ≤ 300 from ls) (by decide))]
  have lp : loop1 (run fs 39) (.var 59) [] 59 (only [] v) (s.map fun c => Dat.str ⟨#[c]⟩) [] = some ([] ++ (s.map fun c => Dat.str ⟨#[c]⟩).filterMap some) := by
    refine loop1_is some _ [] ?_ ?_
    · rw [List.length_map]
      exact Nat.le_trans (show ([] : List Dat).length + s.length ≤ 300 by simpa using ls) (by decide)
    · intro d hd acc ha
      have k59 := look_same (only [] v) 59 d
      simp only [turn, tesAnd, ev_succ, stepE, k59, if_pos ha]
  rw [List.nil_append, List.filterMap_some] at lp
  have e : (s.map fun c => Dat.str ⟨#[c]⟩) = (s.map sgn).map .str := by rw [List.map_map]; rfl
  rw [e] at lp it
  exact ev31 h30 h47 i1 sl ad it lp
end
end
end Mine
end

section
open PySem PySem.W PyProof.Rows
set_option Elab.async false
set_option maxRecDepth 100000
namespace Mine
noncomputable section
section
variable {v : Vars} {T : List (Str × Dat)} {x : Str} {l : List (Str × Str)}
theorem neI_same (M : Int) : cmpD .ne (.int M) (.int M) = some false := by rw [cmp_neI]; simp
theorem neS_same (a : Str) : cmpD .ne (.str a) (.str a) = some false := by rw [cmp_neS, sameS_iff.mpr rfl]; rfl
theorem ev_t1 {S : Dat} {kk M : Int} (h31 : look v 31 = some S) (h30 : look v 30 = some (.int kk)) (h56 : look v 56 = some (.int M)) (hc : (run fs 37).call 7 [S, .int kk, .bool true] none = some (.int M, none)) :
    (run fs 40).ex (.ite (.cmp .ne (.call 7 [(.var 31), (.var 30), (.bool true)]) (.var 56)) [.ret (.bool false)] []) ⟨v, none⟩ = some (.next, ⟨v, none⟩) := by
  simp only [ex_succ, stepS, ev_succ, stepE, te_succ, stepT, evs, h31, h30, h56, hc, neI_same, exs, Option.map_some]
theorem cmp_neL (L : List Dat) : cmpD .ne (.list L) (.list []) = some (!L.isEmpty) := by cases L <;> rfl
theorem ev_t2 {S : Dat} {kk M : Int} {L : List Dat} (h31 : look v 31 = some S) (h30 : look v 30 = some (.int kk)) (h56 : look v 56 = some (.int M)) (h57 : look v 57 = some (.list L)) (h47 : look v 47 = some (.str x))
    (hc : (run fs 37).call 7 [S, .int kk, .bool false] none = some (.int (if x = ⟨#[]⟩ ∨ L ≠ [] then -1 else M), none)) :
    (run fs 40).ex (.ite (.cmp .ne (.call 7 [(.var 31), (.var 30), (.bool false)]) (.ite (.or [(.cmp .eq (.var 47) (.str ⟨#[]⟩)), (.cmp .ne (.var 57) (.list []))]) (.neg 1) (.var 56))) [.ret (.bool false)] []) ⟨v, none⟩ = some (.next, ⟨v, none⟩) := by
  have l0 : ([] : List Dat).length ≤ lim := by decide
  cases q : sameS x ⟨#[]⟩ with
  | true =>
    have := sameS_iff.mp q
    rw [if_pos (.inl this)] at hc
    simp only [ex_succ, stepS, ev_succ, stepE, te_succ, stepT, tesOr, evs, h31, h30, h56, h47, hc, neI_same, cmp_eqS, q, exs, Option.map_some]
  | false =>
    have hx : ¬ x = ⟨#[]⟩ := fun h => by rw [sameS_iff.mpr h] at q; cases q
    cases L with
    | nil =>
      rw [if_neg (fun h => h.elim hx fun h => h rfl)] at hc
      simp only [ex_succ, stepS, ev_succ, stepE, te_succ, stepT, tesOr, evs, h31, h30, h56, h57, h47, hc, neI_same, cmp_neL, cmp_eqS, q, exs, if_pos l0, List.isEmpty_nil, Bool.not_true, Option.map_some]
    | cons d L =>
      rw [if_pos (.inr (by simp))] at hc
      simp only [ex_succ, stepS, ev_succ, stepE, te_succ, stepT, tesOr, evs, h31, h30, h56, h57, h47, hc, neI_same, cmp_neL, cmp_eqS, q, exs, if_pos l0, List.isEmpty_cons, Bool.not_false, Option.map_some]
theorem ev_t3 {y a b : Str} {M : Int} (h47 : look v 47 = some (.str x)) (h55 : look v 55 = some (.dict (asD l))) (h56 : look v 56 = some (.int M)) (i1 : intO (some (.int M)) = some (some M)) (sl : sliceD (.str x) none (some M) = some (.str y))
    (c1 : (run fs 36).call 6 [.str y] none = some (.str a, none)) (c2 : (run fs 36).call 6 [.str x] none = some (.str b, none)) (g1 : m2D .get (.dict (asD l)) (.str y) (.str ⟨#[]⟩) = some (.str a)) (g2 : m2D .get (.dict (asD l)) (.str x) (.str ⟨#[]⟩) = some (.str b)) :
    (run fs 40).ex (.ite (.or [(.cmp .ne (.call 6 [(.slice (.var 47) Option.none (some (.var 56)))]) (.m2 .get (.var 55) (.slice (.var 47) Option.none (some (.var 56))) (.str ⟨#[]⟩))), (.cmp .ne (.call 6 [(.var 47)]) (.m2 .get (.var 55) (.var 47) (.str ⟨#[]⟩)))]) [.ret (.bool false)] []) ⟨v, none⟩ = some (.next, ⟨v, none⟩) := by
  simp only [ex_succ, stepS, ev_succ, stepE, te_succ, stepT, tesOr, evs, evO, h47, h55, h56, int0, i1, sl, c1, c2, g1, g2, neS_same, exs, Option.map_some]
theorem ev_t4 {name p t : Str} (h29 : look v 29 = some (.str name)) (h45 : look v 45 = some (.dict T)) (ix : idxD (.str name) (.int 0) = some (.str p)) (hi : getD T p = some (.dict (asD l))) (hg : getD (asD l) name = some (.str t)) (c : (run fs 37).call 6 [.str name] none = some (.str t, none)) :
    (run fs 40).ex (.ret (.cmp .eq (.call 6 [(.var 29)]) (.idx (.idx (.var 45) (.idx (.var 29) (.int 0))) (.var 29)))) ⟨v, none⟩ = some (.ret (.bool true), ⟨v, none⟩) := by
  have e : ∀ a : Str, sameS a a = true := fun a => sameS_iff.mpr rfl
  have id : ∀ (D : List (Str × Dat)) (k : Str), idxD (.dict D) (.str k) = getD D k := fun _ _ => rfl
  simp only [ex_succ, stepS, ev_succ, stepE, evs, h29, h45, ix, id, hi, hg, c, cmp_eqS, e, Option.map_some]
end
theorem known_of {T : List (Str × Dat)} (ok : TabOk T) (x : Str) : ∃ l, Side (first x) l (rowsOf x) ∧ m2D .get (.dict T) (.str (first x)) (.dict []) = some (.dict (asD l)) := by
  cases h : getD rowsD (first x) with
  | none =>
    have e : rowS (first x) = ⟨#[]⟩ := by unfold rowS; rw [h]
    refine ⟨[], ⟨by simp, fun w hw => ?_, fun q hq => (nomatch hq), fun q hq => (nomatch hq)⟩, ?_⟩
    · unfold rowsOf at hw
      rw [e] at hw
      cases hw
    · simp only [r_rep, r_get, ok.2 _ h]
      rfl
  | some s =>
    obtain ⟨l, hl⟩ := ok.1 _ _ h
    have e : rowS (first x) = s := by unfold rowS; rw [h]
    refine ⟨l, ?_, ?_⟩
    · have := hl.side
      unfold rowsOf
      rw [e]
      exact this
    · simp only [r_rep, r_get, hl.inner]
/-- a beginning that is known has the law's text -/
theorem named_cut {x : Str} {l : List (Str × Str)} {M : Int} (s : Side (first x) l (rowsOf x)) (m : Most x l M) : m2D .get (.dict (asD l)) (.str (Txt.slice x none (some M))) (.str ⟨#[]⟩) = some (.str (namedT (Txt.slice x none (some M)))) := by
  rcases m.one with rfl | ⟨i, hi, rfl, _⟩
  · have e : Txt.slice x none (some 0) = ⟨#[]⟩ := str_ext (slice_to x 0 (by decide))
    rw [e]
    have e1 : namedT ⟨#[]⟩ = ⟨#[]⟩ := by decide +kernel
    rw [e1]
    simp only [r_rep, r_get, getD_asD]
    cases q : getD l ⟨#[]⟩ with
    | none => rfl
    | some t =>
      obtain ⟨k, hm, hk⟩ := getD_mem q
      obtain ⟨c, r, h1, _⟩ := s.first _ hm
      subst hk
      cases h1
  · have e : first (Txt.slice x none (some (1 + (i : Int)))) = first x := by
      refine str_ext ?_
      unfold first
      have mn : min 1 (i + 1) = 1 := by omega
      rw [slice1, slice1, slice_nat, List.take_take, mn]
    have e2 : rowsOf (Txt.slice x none (some (1 + (i : Int)))) = rowsOf x := by
      unfold rowsOf; rw [e]
    exact named_is (by rw [e, e2]; exact s)
theorem read_body (R : Rec) {a b c d e : Rho}
    (E55 : R.ex (.assign 55 (.m2 .get (.var 45) (.slice (.var 47) Option.none (some (.int 1))) .dict0)) a = some (.next, b))
    (E56 : R.ex (.assign 56 (.fn .max (.bin .add (.list [(.int 0)]) (.comp (.var 38) 38 (.range2 (.int 1) (.bin .add (.fn .len (.var 47)) (.int 1))) Option.none [(.cmp .isin (.slice (.var 47) Option.none (some (.var 38))) (.var 55))] [47, 55])))) b = some (.next, c))
    (E57 : R.ex (.assignC 57 (.var 58) 58 (.val (.var 55)) [(.and [(.cmp .eq (.slice (.var 58) Option.none (some (.fn .len (.var 47)))) (.var 47)), (.cmp .ne (.var 58) (.var 47))])] [47]) c = some (.next, d))
    (E31 : R.ex (.assignC 31 (.var 59) 59 (.val (.bin .add (.slice (.str ⟨#[113, 38]⟩) Option.none (some (.var 30))) (.var 47))) [] []) d = some (.next, e))
    (T1 : R.ex (.ite (.cmp .ne (.call 7 [(.var 31), (.var 30), (.bool true)]) (.var 56)) [.ret (.bool false)] []) e = some (.next, e))
    (T2 : R.ex (.ite (.cmp .ne (.call 7 [(.var 31), (.var 30), (.bool false)]) (.ite (.or [(.cmp .eq (.var 47) (.str ⟨#[]⟩)), (.cmp .ne (.var 57) (.list []))]) (.neg 1) (.var 56))) [.ret (.bool false)] []) e = some (.next, e))
    (T3 : R.ex (.ite (.or [(.cmp .ne (.call 6 [(.slice (.var 47) Option.none (some (.var 56)))]) (.m2 .get (.var 55) (.slice (.var 47) Option.none (some (.var 56))) (.str ⟨#[]⟩))), (.cmp .ne (.call 6 [(.var 47)]) (.m2 .get (.var 55) (.var 47) (.str ⟨#[]⟩)))]) [.ret (.bool false)] []) e = some (.next, e))
    (T4 : R.ex (.ret (.cmp .eq (.call 6 [(.var 29)]) (.idx (.idx (.var 45) (.idx (.var 29) (.int 0))) (.var 29)))) e = some (.ret (.bool true), e)) :
    exs R d__law_is_read.body a = some (.ret (.bool true), e) := by
  unfold d__law_is_read
  simp only [exs, E55, E56, E57, E31, T1, T2, T3, T4]
theorem read_end {R : Rec} {B : List St} {v : Vars} {e : Rho} (h : exs R B ⟨v, none⟩ = some (.ret (.bool true), e)) :
    (match some v with
    | some v => match exs R B ⟨v, none⟩ with
      | some (.ret d, _) => some (d, none)
      | _ => none
    | none => none : Option (Dat × Option MDat)) = some (.bool true, none) := by
  simp only [h]
theorem is_read_spec {T : List (Str × Dat)} (ok : TabOk T) {x name : Str} {k : Nat} (hk : k = 0 ∨ k = 1 ∨ k = 2) (hx : x.cps.size ≤ 200) {p s : Str} {l0 : List (Str × Str)} (rw0 : getD rowsD p = some s) (lt : Letter T p s l0) (hn : ∃ q ∈ l0, q.1 = name) :
    (run fs 41).call 17 [.str name, .str x, .int k, .dict T] none = some (.bool true, none) := by
  obtain ⟨l, sd, kn⟩ := known_of ok x
  obtain ⟨c, r, n1, p1⟩ : ∃ c r, name.cps.toList = c :: r ∧ p.cps.toList = [c] := by
    obtain ⟨q, hq, rfl⟩ := hn
    exact lt.side.first q hq
  have fn : first name = p := str_ext (by unfold first; rw [slice1, n1, p1]; rfl)
  have rs : rowS p = s := by unfold rowS; rw [rw0]
  have sn : Side (first name) l0 (rowsOf name) := by
    unfold rowsOf
    rw [fn, rs]
    exact lt.side
  have ns : name.cps.size ≤ 200 := by
    obtain ⟨q, hq, rfl⟩ := hn
    have := key_size sn hq
    omega
  have ix : idxD (.str name) (.int 0) = some (.str p) := by
    have : p = ⟨#[c]⟩ := str_ext p1
    subst this
    have h0 : name.cps[(0 : Int).toNat]? = some c := by
      rw [← Array.getElem?_toList, n1]; rfl
    simp only [r_idxl, r_idxt, r_idxs, r_idxd]
    rw [if_pos (by decide), h0]
    rfl
  have gn : ∃ t, getD l0 name = some t := by
    obtain ⟨q, hq, rfl⟩ := hn
    exact getD_some hq
  obtain ⟨t, gt⟩ := gn
  have nt : namedT name = t := by
    have := named_is sn
    simp only [r_rep, r_get, getD_asD, gt, Option.map_some] at this
    cases this; rfl
  have gt' : getD (asD l0) name = some (.str t) := by rw [getD_asD, gt]; rfl
  have cn := (run_le fs (show 30 ≤ 37 by decide)).call (named_spec name (small_lim ns))
  rw [nt] at cn
  have E55 := st55 (v := [(29, .str name), (47, .str x), (30, .int k), (45, .dict T)]) rfl rfl hx kn
  obtain ⟨M, mo, E56⟩ := st56 (v := put [(29, .str name), (47, .str x), (30, .int k), (45, .dict T)] 55 (.dict (asD l))) rfl rfl hx
  have E57 := st57 (v := put (put [(29, .str name), (47, .str x), (30, .int k), (45, .dict T)] 55 (.dict (asD l))) 56 (.int M)) sd rfl rfl hx
  have E31 := st31 (v := put (put (put [(29, .str name), (47, .str x), (30, .int k), (45, .dict T)] 55 (.dict (asD l))) 56 (.int M)) 57 (.list (longerD x l))) hk rfl rfl hx
  have lx : x.cps.toList.length ≤ 200 := by rw [← size_list]; exact hx
  have la : (ahead k).length = k := by rcases hk with rfl | rfl | rfl <;> rfl
  have dr : (((ahead k ++ x.cps.toList).map sgn).drop k).take 40 = (x.cps.toList.take 40).map sgn := by
    rw [List.map_append, List.drop_append_of_le_length (by rw [List.length_map, la]; exact Nat.le_refl _), List.drop_of_length_le (by rw [List.length_map, la]; exact Nat.le_refl _), List.nil_append, List.map_take]
  have aj : (Txt.join ⟨#[]⟩ ((x.cps.toList.take 40).map sgn)).cps.toList = x.cps.toList.take 40 := by
    rw [← join_eq]
    exact join_sgn _
  have f1 : ((ahead k ++ x.cps.toList).map sgn).length ≤ lim := by
    rw [List.length_map, List.length_append, la]
    exact Nat.le_trans (show k + x.cps.toList.length ≤ 300 by omega) (by decide)
  have f2 : ((((((ahead k ++ x.cps.toList).map sgn).drop k).take 40).map (·.length)).sum + ((((ahead k ++ x.cps.toList).map sgn).drop k).take 40).length * (⟨#[]⟩ : Str).length) ≤ lim := by
    rw [dr, sum_sgn]
    refine Nat.le_trans (show _ ≤ 40 from ?_) (by decide)
    have e0 : (⟨#[]⟩ : Str).length = 0 := rfl
    rw [e0, Nat.mul_zero, List.length_take]
    omega
  have f3 : (Txt.join ⟨#[]⟩ ((((ahead k ++ x.cps.toList).map sgn).drop k).take 40)).cps.size ≤ lim := by
    rw [dr, size_list, aj]
    refine Nat.le_trans (show _ ≤ 40 from ?_) (by decide)
    rw [List.length_take]
    omega
  have L1 := (run_le fs (show 32 ≤ 37 by decide)).call (long_spec ((ahead k ++ x.cps.toList).map sgn) k true hk f1 f2 f3)
  have L2 := (run_le fs (show 32 ≤ 37 by decide)).call (long_spec ((ahead k ++ x.cps.toList).map sgn) k false hk f1 f2 f3)
  rw [dr, long_closed aj sd mo] at L1
  rw [dr, long_open aj sd mo] at L2
  generalize ((ahead k ++ x.cps.toList).map sgn).map Dat.str = S at E31 L1 L2
  have Mb : 0 ≤ M ∧ M ≤ 300 := by
    refine ⟨mo.pos, ?_⟩
    rcases mo.one with rfl | ⟨i, hi, rfl, _⟩ <;> omega
  have iM := intO_small Mb.1 Mb.2
  have sl := slice_str (small_lim hx) none (some M)
  have ys : (Txt.slice x none (some M)).cps.size ≤ lim := Nat.le_trans (slice_fit x none (some M)) (small_lim hx)
  have C1 := (run_le fs (show 30 ≤ 36 by decide)).call (named_spec _ ys)
  have C2 := (run_le fs (show 30 ≤ 36 by decide)).call (named_spec x (small_lim hx))
  have g1 := named_cut sd mo
  have g2 := named_is sd
  have T1 := ev_t1 (v := put (put (put (put [(29, .str name), (47, .str x), (30, .int k), (45, .dict T)] 55 (.dict (asD l))) 56 (.int M)) 57 (.list (longerD x l))) 31 (.list S)) rfl rfl rfl L1
  have T2 := ev_t2 (v := put (put (put (put [(29, .str name), (47, .str x), (30, .int k), (45, .dict T)] 55 (.dict (asD l))) 56 (.int M)) 57 (.list (longerD x l))) 31 (.list S)) (x := x) (L := longerD x l) rfl rfl rfl rfl rfl L2
  have T3 := ev_t3 (v := put (put (put (put [(29, .str name), (47, .str x), (30, .int k), (45, .dict T)] 55 (.dict (asD l))) 56 (.int M)) 57 (.list (longerD x l))) 31 (.list S)) rfl rfl rfl iM sl C1 C2 g1 g2
  have T4 := ev_t4 (v := put (put (put (put [(29, .str name), (47, .str x), (30, .int k), (45, .dict T)] 55 (.dict (asD l))) 56 (.int M)) 57 (.list (longerD x l))) 31 (.list S)) rfl rfl ix lt.inner gt' cn
  have e : fs 17 = some d__law_is_read := rfl
  rw [call_none fs 40 17 d__law_is_read _ e]
  have pa : putAll d__law_is_read.params [.str name, .str x, .int k, .dict T] [] = some [(29, .str name), (47, .str x), (30, .int k), (45, .dict T)] := rfl
  rw [pa]
  exact read_end (read_body _ E55 E56 E57 E31 T1 T2 T3 T4)
end
end Mine
end

section
open PySem PySem.W PyProof.Rows
set_option Elab.async false
set_option maxRecDepth 100000
namespace Mine
noncomputable section
/-- the owned list of one number -/
noncomputable def Own (m : MDat) (a : Int) : Prop := seqOf m = some [.int a]
theorem own_list (a : Int) : Own (.list [.int a]) a := rfl
theorem own_arr (a : Int) : Own (.arr [.int a]) a := rfl
theorem fmod_is (a : Int) {n : Int} (h : n ≠ 0) : binD .fmod (.int a) (.int n) = some (.int (a.fmod n)) := by simp only [r_mul, r_fdiv, r_fmod, r_adds, r_addl, if_pos h]
theorem fdiv_is (a : Int) {n : Int} (h : n ≠ 0) (h2 : n.natAbs < 1073741824) : binD .fdiv (.int a) (.int n) = some (.int (a.fdiv n)) := by simp only [r_mul, r_fdiv, r_fmod, r_adds, r_addl]; rw [if_pos ⟨h, h2⟩]
theorem mul_is {a : Int} (h : fitsI a = true) (b : Int) : binD .mul (.int a) (.int b) = some (.int (a * b)) := by simp only [r_mul, r_fdiv, r_fmod, r_adds, r_addl, if_pos h]
theorem set_one (a b : Int) : 0 ≤ (0 : Int) ∧ (0 : Int) < ([Dat.int a].length : Int) ∧ [Dat.int a].length ≤ lim := ⟨by decide, by simp, by
  show 1 ≤ lim
  decide⟩
theorem pick_spec {m : MDat} {a n : Int} (o : Own m a) (h : n ≠ 0) (h2 : n.natAbs < 1073741824) : (run fs 10).call 9 [.int n] (some m) = some (.int (a.fmod n), some (.arr [.int (a.fdiv n)])) := by
  have o : seqOf m = some [.int a] := o
  have e : fs 9 = some d__law_pick := rfl
  have f1 := fmod_is a h
  have f2 := fdiv_is a h h2
  have i0 : idxD (.list [.int a]) (.int 0) = some (.int a) := idx0 _ _
  have st : [Dat.int a].set (0 : Int).toNat (.int (a.fdiv n)) = [.int (a.fdiv n)] := rfl
  have cond := set_one a a
  have sq : seqOf (.arr [.int (a.fdiv n)]) = some [.int (a.fdiv n)] := rfl
  rw [call_succ]
  unfold stepC
  rw [e]
  generalize a.fdiv n = q at f2 st sq ⊢
  generalize a.fmod n = r at f1 ⊢
  unfold d__law_pick
  simp only [o, putAll, put, look, Nat.beq, exs, ex_succ, stepS, ev_succ, stepE, ownOf, isMu, Option.bind_some, i0, f1, f2, Option.map_some, if_pos cond, st, sq]
theorem swap_size (x : Str) : (Txt.swapcase x).cps.size ≤ 3 * x.cps.size := len_swapcase x
theorem repl_size (x y : Str) : (Txt.replace x y ⟨#[]⟩).cps.size ≤ x.cps.size := by
  unfold Txt.replace
  split
  · exact Nat.le_refl _
  · have hy : (Builtin.Str.glued y (Builtin.Str.partsBetween x (Builtin.Str.occurrences x y 0 x.length (x.length + 1)) y.length)).length = x.length := by rw [StrLaws.glued_between_self]
    rw [size_glued, length_partsBetween, Nat.add_sub_cancel] at hy
    have := size_glued ⟨#[]⟩ (Builtin.Str.partsBetween x (Builtin.Str.occurrences x y 0 x.length (x.length + 1)) y.length)
    rw [length_partsBetween, Nat.add_sub_cancel] at this
    show (Builtin.Str.glued _ _).length ≤ x.length
    rw [this]
    have e0 : (⟨#[]⟩ : Str).length = 0 := rfl
    rw [e0]
    omega
noncomputable def lettersS : Str := match d__law_letters.body with
  | [.ret (.str s)] => s
  | _ => ⟨#[]⟩
theorem letters_spec : (run fs 4).call 14 [] none = some (.str lettersS, none) := rfl
noncomputable def letterC (d : Option Dat) : Bool := match d with
  | some (.str p) => (getD rowsD p).isSome
  | _ => false
theorem letter_of_C {d : Option Dat} (h : letterC d = true) : ∃ p s, d = some (.str p) ∧ getD rowsD p = some s := by
  unfold letterC at h
  split at h
  · rename_i p
    cases q : getD rowsD p with
    | none => rw [q] at h; cases h
    | some s => exact ⟨p, s, rfl, q⟩
  · cases h
noncomputable def letterOk (i : Nat) : Bool := letterC (idxD (.str lettersS) (.int (i : Int)))
theorem letters_ok : (List.range 52).all letterOk = true := by decide +kernel
theorem letter_at {i : Int} (h0 : 0 ≤ i) (h1 : i < 52) : ∃ p s, idxD (.str lettersS) (.int i) = some (.str p) ∧ getD rowsD p = some s := by
  have := List.all_eq_true.mp letters_ok i.toNat (List.mem_range.mpr (by omega))
  unfold letterOk at this
  have e : ((i.toNat : Nat) : Int) = i := by omega
  rw [e] at this
  exact letter_of_C this
end
end Mine
end

section
open PySem PySem.W PyProof.Rows
set_option Elab.async false
set_option maxRecDepth 100000
namespace Mine
noncomputable section
theorem intm1 : intO (some (.int (-1))) = some (some (-1)) := rfl
theorem len3 (a b c : Dat) : [a, b, c].length ≤ lim := (by decide : 3 ≤ lim)
theorem len6 (a b c d e f : Dat) : [a, b, c, d, e, f].length ≤ lim := (by decide : 6 ≤ lim)
theorem len12 (a b c d e f g h i j k l : Dat) : [a, b, c, d, e, f, g, h, i, j, k, l].length ≤ lim := (by decide : 12 ≤ lim)
section
variable {v : Vars} {m m' : MDat} {p k k2 i : Int}
theorem case37 {d : Dat} (h48 : look v 48 = some d) (h37 : look v 37 = none) : (run fs 40).ex (.ownList 37 [(.var 48)]) ⟨v, none⟩ = some (.next, ⟨v, some (37, .list [d])⟩) := by
  have c : [d].length ≤ lim ∧ (look v 37).isNone = true := ⟨(by decide : 1 ≤ lim), by rw [h37]; rfl⟩
  simp only [ex_succ, stepS, ev_succ, stepE, evs, h48, if_pos c]
theorem case49 {T D : Dat} {L q : Str} {keys : List Dat} (h44 : look v 44 = some (.int k)) (h45 : look v 45 = some T) (hp : (run fs 33).call 9 [.int 52] (some m) = some (.int p, some m')) (mu : binD .mul (.int 2) (.int k) = some (.int k2)) (fm : binD .fmod (.int (p + k2)) (.int 52) = some (.int i))
    (lt : (run fs 35).call 14 [] none = some (.str L, none)) (ix : idxD (.str L) (.int i) = some (.str q)) (ih : idxD T (.str q) = some D) (ls : fnD .list D = some (.list keys)) :
    (run fs 40).ex (.assign 49 (.fn .list (.idx (.var 45) (.idx (.call 14 []) (.bin .fmod (.bin .add (.callIO 9 37 [(.int 52)]) (.bin .mul (.int 2) (.var 44))) (.int 52)))))) ⟨v, some (37, m)⟩ = some (.next, ⟨put v 49 (.list keys), some (37, m')⟩) := by
  simp only [ex_succ, stepS, ev_succ, stepE, evs, h44, h45, ownOf, isMu, Nat.beq, hp, mu, fm, lt, ix, ih, ls, add_int', Option.map_some]
theorem case29 {keys : List Dat} {n : Int} {name : Dat} (h44 : look v 44 = some (.int k)) (h49 : look v 49 = some (.list keys)) (hp : (run fs 35).call 9 [.int 48] (some m) = some (.int p, some m')) (mu : binD .mul (.int 3) (.int k) = some (.int k2)) (ln : fnD .len (.list keys) = some (.int n)) (fm : binD .fmod (.int (p + k2)) (.int n) = some (.int i))
    (ix : idxD (.list keys) (.int i) = some name) :
    (run fs 40).ex (.assign 29 (.idx (.var 49) (.bin .fmod (.bin .add (.callIO 9 37 [(.int 48)]) (.bin .mul (.int 3) (.var 44))) (.fn .len (.var 49))))) ⟨v, some (37, m)⟩ = some (.next, ⟨put v 29 name, some (37, m')⟩) := by
  simp only [ex_succ, stepS, ev_succ, stepE, evs, h44, h49, ownOf, isMu, Nat.beq, hp, mu, fm, ix, ln, add_int', Option.map_some]
theorem case50 (h44 : look v 44 = some (.int k)) (hp : (run fs 36).call 9 [.int 6] (some m) = some (.int p, some m')) (fm : binD .fmod (.int (p + k)) (.int 6) = some (.int i)) :
    (run fs 40).ex (.assign 50 (.bin .fmod (.bin .add (.callIO 9 37 [(.int 6)]) (.var 44)) (.int 6))) ⟨v, some (37, m)⟩ = some (.next, ⟨put v 50 (.int i), some (37, m')⟩) := by
  simp only [ex_succ, stepS, ev_succ, stepE, evs, h44, ownOf, isMu, Nat.beq, hp, fm, add_int', Option.map_some]
noncomputable def tails : List Dat := [.str ⟨#[]⟩, .str ⟨#[61]⟩, .str ⟨#[59]⟩, .str ⟨#[97]⟩, .str ⟨#[38]⟩, .str ⟨#[69, 59]⟩, .str ⟨#[105, 110, 69, 59]⟩, .str ⟨#[49]⟩, .str ⟨#[120, 59]⟩, .str ⟨#[32]⟩, .str ⟨#[111, 110, 116, 105, 109, 101, 115, 59]⟩, .str ⟨#[233]⟩]
theorem case51 {t : Dat} (h44 : look v 44 = some (.int k)) (hp : (run fs 35).call 9 [.int 12] (some m) = some (.int p, some m')) (mu : binD .mul (.int 5) (.int k) = some (.int k2)) (fm : binD .fmod (.int (p + k2)) (.int 12) = some (.int i)) (ix : idxD (.tup tails) (.int i) = some t) :
    (run fs 40).ex (.assign 51 (.idx (.tup [(.str ⟨#[]⟩), (.str ⟨#[61]⟩), (.str ⟨#[59]⟩), (.str ⟨#[97]⟩), (.str ⟨#[38]⟩), (.str ⟨#[69, 59]⟩), (.str ⟨#[105, 110, 69, 59]⟩), (.str ⟨#[49]⟩), (.str ⟨#[120, 59]⟩), (.str ⟨#[32]⟩), (.str ⟨#[111, 110, 116, 105, 109, 101, 115, 59]⟩), (.str ⟨#[233]⟩)]) (.bin .fmod (.bin .add (.callIO 9 37 [(.int 12)]) (.bin .mul (.int 5) (.var 44))) (.int 12)))) ⟨v, some (37, m)⟩ = some (.next, ⟨put v 51 t, some (37, m')⟩) := by
  unfold tails at ix
  simp only [ex_succ, stepS, ev_succ, stepE, evs, h44, ownOf, isMu, Nat.beq, hp, mu, fm, add_int', Option.map_some, if_pos (len12 _ _ _ _ _ _ _ _ _ _ _ _), ix]
theorem case30 (h44 : look v 44 = some (.int k)) (hp : (run fs 36).call 9 [.int 3] (some m) = some (.int p, some m')) (fm : binD .fmod (.int (p + k)) (.int 3) = some (.int i)) :
    (run fs 40).ex (.assign 30 (.bin .fmod (.bin .add (.callIO 9 37 [(.int 3)]) (.var 44)) (.int 3))) ⟨v, some (37, m)⟩ = some (.next, ⟨put v 30 (.int i), some (37, m')⟩) := by
  simp only [ex_succ, stepS, ev_succ, stepE, evs, h44, ownOf, isMu, Nat.beq, hp, fm, add_int', Option.map_some]
theorem case32 {name : Str} {n : Int} (h29 : look v 29 = some (.str name)) (ln : fnD .len (.str name) = some (.int n)) (hp : (run fs 38).call 9 [.int n] (some m) = some (.int p, some m')) :
    (run fs 40).ex (.assign 32 (.callIO 9 37 [(.fn .len (.var 29))])) ⟨v, some (37, m)⟩ = some (.next, ⟨put v 32 (.int p), some (37, m')⟩) := by
  simp only [ex_succ, stepS, ev_succ, stepE, evs, h29, ownOf, isMu, Nat.beq, ln, hp, Option.map_some]
theorem case52 {keys : List Dat} {n : Int} {o : Dat} (h49 : look v 49 = some (.list keys)) (ln : fnD .len (.list keys) = some (.int n)) (hp : (run fs 37).call 9 [.int n] (some m) = some (.int p, some m')) (ix : idxD (.list keys) (.int p) = some o) :
    (run fs 40).ex (.assign 52 (.idx (.var 49) (.callIO 9 37 [(.fn .len (.var 49))]))) ⟨v, some (37, m)⟩ = some (.next, ⟨put v 52 o, some (37, m')⟩) := by
  simp only [ex_succ, stepS, ev_succ, stepE, evs, h49, ownOf, isMu, Nat.beq, ln, hp, ix, Option.map_some]
theorem case53 {name a b c d e f : Str} {at' : Int} (h29 : look v 29 = some (.str name)) (h32 : look v 32 = some (.int at')) (i1 : intO (some (.int at')) = some (some at')) (i2 : intO (some (.int (at' + 1))) = some (some (at' + 1)))
    (s1 : sliceD (.str name) none (some at') = some (.str a)) (s2 : sliceD (.str name) (some (at' + 1)) none = some (.str b)) (ix : idxD (.str name) (.int at') = some (.str c)) (sw : m0D .swapcase (.str c) = some (.str d))
    (a1 : binD .add (.str a) (.str d) = some (.str e)) (a2 : binD .add (.str e) (.str b) = some (.str f)) :
    (run fs 40).ex (.assign 53 (.bin .add (.bin .add (.slice (.var 29) Option.none (some (.var 32))) (.m0 .swapcase (.idx (.var 29) (.var 32)) )) (.slice (.var 29) (some (.bin .add (.var 32) (.int 1))) Option.none))) ⟨v, some (37, m)⟩ = some (.next, ⟨put v 53 (.str f), some (37, m)⟩) := by
  simp only [ex_succ, stepS, ev_succ, stepE, evs, evO, h29, h32, isMu, Nat.beq, int0, i1, i2, s1, s2, ix, sw, a1, a2, add_int', Option.map_some]
theorem case54 {name a b t o c d made : Str} {at' w : Int} (h29 : look v 29 = some (.str name)) (h32 : look v 32 = some (.int at')) (h53 : look v 53 = some (.str t)) (h52 : look v 52 = some (.str o)) (h50 : look v 50 = some (.int w))
    (i1 : intO (some (.int at')) = some (some at')) (s1 : sliceD (.str name) none (some at') = some (.str a)) (s2 : sliceD (.str name) none (some (-1)) = some (.str b)) (a1 : binD .add (.str name) (.str o) = some (.str c)) (r1 : m2D .replace (.str name) (.str ⟨#[59]⟩) (.str ⟨#[]⟩) = some (.str d))
    (ix : idxD (.tup [.str name, .str a, .str b, .str t, .str c, .str d]) (.int w) = some (.str made)) :
    (run fs 40).ex (.assign 54 (.idx (.tup [(.var 29), (.slice (.var 29) Option.none (some (.var 32))), (.slice (.var 29) Option.none (some (.neg 1))), (.var 53), (.bin .add (.var 29) (.var 52)), (.m2 .replace (.var 29) (.str ⟨#[59]⟩) (.str ⟨#[]⟩))]) (.var 50))) ⟨v, some (37, m)⟩ = some (.next, ⟨put v 54 (.str made), some (37, m)⟩) := by
  simp only [ex_succ, stepS, ev_succ, stepE, evs, evO, h29, h32, h50, h52, h53, isMu, Nat.beq, int0, i1, intm1, s1, s2, a1, r1, if_pos (len6 _ _ _ _ _ _), ix, Option.map_some]
theorem caseR {name made tail x : Str} {ah : Int} (h29 : look v 29 = some (.str name)) (h54 : look v 54 = some (.str made)) (h51 : look v 51 = some (.str tail)) (h30 : look v 30 = some (.int ah)) (a1 : binD .add (.str made) (.str tail) = some (.str x)) :
    (run fs 40).ex (.ret (.tup [(.var 29), (.bin .add (.var 54) (.var 51)), (.var 30)])) ⟨v, some (37, m)⟩ = some (.ret (.tup [.str name, .str x, .int ah]), ⟨v, some (37, m)⟩) := by
  simp only [ex_succ, stepS, ev_succ, stepE, evs, h29, h54, h51, h30, a1, if_pos (len3 _ _ _), Option.map_some]
end
theorem case_body (R : Rec) {a b c d e f g h i j k l : Rho} {x : Dat}
    (E1 : R.ex (.ownList 37 [(.var 48)]) a = some (.next, b))
    (E2 : R.ex (.assign 49 (.fn .list (.idx (.var 45) (.idx (.call 14 []) (.bin .fmod (.bin .add (.callIO 9 37 [(.int 52)]) (.bin .mul (.int 2) (.var 44))) (.int 52)))))) b = some (.next, c))
    (E3 : R.ex (.assign 29 (.idx (.var 49) (.bin .fmod (.bin .add (.callIO 9 37 [(.int 48)]) (.bin .mul (.int 3) (.var 44))) (.fn .len (.var 49))))) c = some (.next, d))
    (E4 : R.ex (.assign 50 (.bin .fmod (.bin .add (.callIO 9 37 [(.int 6)]) (.var 44)) (.int 6))) d = some (.next, e))
    (E5 : R.ex (.assign 51 (.idx (.tup [(.str ⟨#[]⟩), (.str ⟨#[61]⟩), (.str ⟨#[59]⟩), (.str ⟨#[97]⟩), (.str ⟨#[38]⟩), (.str ⟨#[69, 59]⟩), (.str ⟨#[105, 110, 69, 59]⟩), (.str ⟨#[49]⟩), (.str ⟨#[120, 59]⟩), (.str ⟨#[32]⟩), (.str ⟨#[111, 110, 116, 105, 109, 101, 115, 59]⟩), (.str ⟨#[233]⟩)]) (.bin .fmod (.bin .add (.callIO 9 37 [(.int 12)]) (.bin .mul (.int 5) (.var 44))) (.int 12)))) e = some (.next, f))
    (E6 : R.ex (.assign 30 (.bin .fmod (.bin .add (.callIO 9 37 [(.int 3)]) (.var 44)) (.int 3))) f = some (.next, g))
    (E7 : R.ex (.assign 32 (.callIO 9 37 [(.fn .len (.var 29))])) g = some (.next, h))
    (E8 : R.ex (.assign 52 (.idx (.var 49) (.callIO 9 37 [(.fn .len (.var 49))]))) h = some (.next, i))
    (E9 : R.ex (.assign 53 (.bin .add (.bin .add (.slice (.var 29) Option.none (some (.var 32))) (.m0 .swapcase (.idx (.var 29) (.var 32)) )) (.slice (.var 29) (some (.bin .add (.var 32) (.int 1))) Option.none))) i = some (.next, j))
    (E10 : R.ex (.assign 54 (.idx (.tup [(.var 29), (.slice (.var 29) Option.none (some (.var 32))), (.slice (.var 29) Option.none (some (.neg 1))), (.var 53), (.bin .add (.var 29) (.var 52)), (.m2 .replace (.var 29) (.str ⟨#[59]⟩) (.str ⟨#[]⟩))]) (.var 50))) j = some (.next, k))
    (E11 : R.ex (.ret (.tup [(.var 29), (.bin .add (.var 54) (.var 51)), (.var 30)])) k = some (.ret x, l)) :
    exs R d__law_case.body a = some (.ret x, l) := by
  unfold d__law_case
  simp only [exs, E1, E2, E3, E4, E5, E6, E7, E8, E9, E10, E11]
end
end Mine
end

section
open PySem PySem.W PyProof.Rows
set_option Elab.async false
set_option maxRecDepth 100000
namespace Mine
noncomputable section
theorem pick_ex {m : MDat} {a n : Int} (o : Own m a) (h : 0 < n) (h2 : n ≤ 1000) : ∃ p m' a', Own m' a' ∧ (run fs 10).call 9 [.int n] (some m) = some (.int p, some m') ∧ 0 ≤ p ∧ p < n :=
  ⟨_, _, _, own_arr _, pick_spec o (by omega) (by omega), Int.fmod_nonneg_of_pos a h, Int.fmod_lt_of_pos a h⟩
theorem fmod_ex (a : Int) {n : Int} (h : 0 < n) : ∃ i, binD .fmod (.int a) (.int n) = some (.int i) ∧ 0 ≤ i ∧ i < n :=
  ⟨_, fmod_is a (by omega), Int.fmod_nonneg_of_pos a h, Int.fmod_lt_of_pos a h⟩
theorem mul_ex {a : Int} (h : fitsI a = true) (b : Int) : ∃ k, binD .mul (.int a) (.int b) = some (.int k) := ⟨_, mul_is h b⟩
theorem lim_of {i : Int} (h0 : 0 ≤ i) (h : i < 1000) : 0 ≤ i ∧ i < (lim : Int) := ⟨h0, Int.lt_trans h (by decide)⟩
theorem idx_list (l : List Dat) {i : Int} (h0 : 0 ≤ i) (h1 : i < (l.length : Int)) (h2 : l.length ≤ 300) : ∃ d ∈ l, idxD (.list l) (.int i) = some d := by
  have c := lim_of h0 (show i < 1000 by omega)
  have ix : i.toNat < l.length := by omega
  refine ⟨l[i.toNat], List.getElem_mem ix, ?_⟩
  simp only [r_idxl, r_idxt, r_idxs, r_idxd, if_pos c]
  exact List.getElem?_eq_getElem ix
theorem idx_tup (l : List Dat) {i : Int} (h0 : 0 ≤ i) (h1 : i < (l.length : Int)) (h2 : l.length ≤ 300) : ∃ d ∈ l, idxD (.tup l) (.int i) = some d := by
  have c := lim_of h0 (show i < 1000 by omega)
  have ix : i.toNat < l.length := by omega
  refine ⟨l[i.toNat], List.getElem_mem ix, ?_⟩
  simp only [r_idxl, r_idxt, r_idxs, r_idxd, if_pos c]
  exact List.getElem?_eq_getElem ix
theorem idx_str (x : Str) {i : Int} (h0 : 0 ≤ i) (h1 : i < (x.cps.size : Int)) (h2 : x.cps.size ≤ 300) : ∃ c, idxD (.str x) (.int i) = some (.str ⟨#[c]⟩) := by
  have c := lim_of h0 (show i < 1000 by omega)
  have ix : i.toNat < x.cps.size := by omega
  refine ⟨x.cps[i.toNat], ?_⟩
  simp only [r_idxl, r_idxt, r_idxs, r_idxd, if_pos c]
  rw [Array.getElem?_eq_getElem ix]
  rfl
theorem add_ex {a b : Str} (h : a.cps.size + b.cps.size ≤ 300) : ∃ c : Str, binD .add (.str a) (.str b) = some (.str c) ∧ c.cps.size = a.cps.size + b.cps.size := by
  have l : a.cps.size + b.cps.size ≤ lim := Nat.le_trans h (by decide)
  refine ⟨⟨⟨a.cps.toList ++ b.cps.toList⟩⟩, ?_, ?_⟩
  · simp only [r_mul, r_fdiv, r_fmod, r_adds, r_addl, someL_eq, if_pos l]
  · rw [size_list, size_list, size_list, List.length_append]
theorem slice_ex {x : Str} (h : x.cps.size ≤ 200) (a b : Option Int) : ∃ y : Str, sliceD (.str x) a b = some (.str y) ∧ y.cps.size ≤ x.cps.size :=
  ⟨_, slice_str (small_lim h) a b, slice_fit x a b⟩
theorem swap_ex (c : Nat) : ∃ y : Str, m0D .swapcase (.str ⟨#[c]⟩) = some (.str y) ∧ y.cps.size ≤ 3 := by
  refine ⟨Txt.swapcase ⟨#[c]⟩, ?_, swap_size ⟨#[c]⟩⟩
  have l : (⟨#[c]⟩ : Str).length ≤ 5592405 := (by decide : 1 ≤ 5592405)
  simp only [r_words, r_lower, r_swap, if_pos l, someS_eq]
theorem repl_ex {x : Str} (h : x.cps.size ≤ 200) : ∃ y : Str, m2D .replace (.str x) (.str ⟨#[59]⟩) (.str ⟨#[]⟩) = some (.str y) ∧ y.cps.size ≤ x.cps.size := by
  refine ⟨Txt.replace x ⟨#[59]⟩ ⟨#[]⟩, ?_, repl_size x _⟩
  have l : ((⟨#[59]⟩ : Str) == ⟨#[]⟩) = false ∧ x.length + (x.length + 1) * (⟨#[]⟩ : Str).length ≤ lim := by
    refine ⟨by decide, ?_⟩
    have e0 : (⟨#[]⟩ : Str).length = 0 := rfl
    rw [e0, Nat.mul_zero]
    exact small_lim h
  simp only [r_rep, r_get, if_pos l, someS_eq]
noncomputable def sizeB (n : Nat) (d : Dat) : Bool := match d with
  | .str s => Nat.ble s.cps.size n
  | _ => false
theorem size_of_B {n : Nat} {d : Dat} (h : sizeB n d = true) : ∃ s : Str, d = .str s ∧ s.cps.size ≤ n := by
  unfold sizeB at h
  split at h
  · rename_i s; exact ⟨s, rfl, Nat.le_of_ble_eq_true h⟩
  · cases h
theorem tails_ok : tails.all (sizeB 8) = true := by decide +kernel
theorem tails_len : tails.length = 12 := rfl
theorem len_list_ok {l : List Dat} (h : l.length ≤ 200) : fnD .len (.list l) = some (.int l.length) := by simp only [r_ord, r_chr, r_lens, r_lenl, r_max, r_flist, if_pos (small_lim h)]
theorem list_keys {l : List (Str × Str)} (h : l.length ≤ 64) : fnD .list (.dict (asD l)) = some (.list (l.map fun q => .str q.1)) := by
  have la : (asD l).length ≤ 200 := by
    unfold asD
    rw [List.length_map]; omega
  simp only [r_ord, r_chr, r_lens, r_lenl, r_max, r_flist, if_pos (small_lim la)]
  unfold asD
  rw [List.map_map]
  rfl
structure CaseOk (x name : Str) (k : Int) (T : List (Str × Dat)) : Prop where
  size : x.cps.size ≤ 200
  ahead : ∃ j : Nat, k = j ∧ (j = 0 ∨ j = 1 ∨ j = 2)
  known : ∃ p s l0, getD rowsD p = some s ∧ Letter T p s l0 ∧ ∃ q ∈ l0, q.1 = name
theorem name_size {T : List (Str × Dat)} {p s : Str} {l0 : List (Str × Str)} (rw0 : getD rowsD p = some s) (lt : Letter T p s l0) {q : Str × Str} (hq : q ∈ l0) : 1 ≤ q.1.cps.size ∧ q.1.cps.size ≤ 40 := by
  obtain ⟨w, hw, hn⟩ := lt.side.keys q hq
  have rs : rowS p = s := by unfold rowS; rw [rw0]
  have := (good_split ((row_fit p).2 w (by rw [rs]; exact hw))).2.1
  rw [hn] at this
  exact this
theorem case_spec {T : List (Str × Dat)} (ok : TabOk T) (a k : Int) : ∃ name x ah, (run fs 41).call 16 [.int a, .int k, .dict T] none = some (.tup [.str name, .str x, .int ah], none) ∧ CaseOk x name ah T := by
  have up : ∀ {n : Nat} {f a m z}, 10 ≤ n → (run fs 10).call f a m = some z → (run fs n).call f a m = some z := fun h => (run_le fs h).call
  obtain ⟨p1, m1, a1, o1, c1, _, _⟩ := pick_ex (own_list a) (show (0 : Int) < 52 by decide) (by decide)
  obtain ⟨k1, hk1⟩ := mul_ex (a := 2) (by decide) k
  obtain ⟨i1, f1, g1, g1'⟩ := fmod_ex (p1 + k1) (show (0 : Int) < 52 by decide)
  obtain ⟨p, s, ix1, rw0⟩ := letter_at g1 g1'
  obtain ⟨l, lt⟩ := ok.1 p s rw0
  have few := lt.side.few
  have some1 := lt.some1
  have ih : idxD (.dict T) (.str p) = some (.dict (asD l)) := lt.inner
  have lk := list_keys few
  have kl : (l.map fun q => Dat.str q.1).length = l.length := List.length_map ..
  have kmem : ∀ d ∈ (l.map fun q => Dat.str q.1), ∃ q ∈ l, d = .str q.1 := fun d hd => by
    obtain ⟨q, hq, rfl⟩ := List.mem_map.mp hd
    exact ⟨q, hq, rfl⟩
  generalize (l.map fun q => Dat.str q.1) = keys at lk kl kmem
  have ln := len_list_ok (show keys.length ≤ 200 by omega)
  have n0 : (0 : Int) < (keys.length : Int) := by omega
  have n1 : (keys.length : Int) ≤ 1000 := by omega
  obtain ⟨p2, m2, a2, o2, c2, _, _⟩ := pick_ex o1 (show (0 : Int) < 48 by decide) (by decide)
  obtain ⟨k2, hk2⟩ := mul_ex (a := 3) (by decide) k
  obtain ⟨i2, f2, g2, g2'⟩ := fmod_ex (p2 + k2) n0
  obtain ⟨d2, hd2, ix2⟩ := idx_list keys g2 g2' (by omega)
  obtain ⟨q, hq, rfl⟩ := kmem d2 hd2
  have ns := name_size rw0 lt hq
  have kn : ∃ q' ∈ l, q'.1 = q.1 := ⟨q, hq, rfl⟩
  generalize q.1 = name at ix2 ns kn
  obtain ⟨p3, m3, a3, o3, c3, _, _⟩ := pick_ex o2 (show (0 : Int) < 6 by decide) (by decide)
  obtain ⟨w, f3, g3, g3'⟩ := fmod_ex (p3 + k) (show (0 : Int) < 6 by decide)
  obtain ⟨p4, m4, a4, o4, c4, _, _⟩ := pick_ex o3 (show (0 : Int) < 12 by decide) (by decide)
  obtain ⟨k4, hk4⟩ := mul_ex (a := 5) (by decide) k
  obtain ⟨i4, f4, g4, g4'⟩ := fmod_ex (p4 + k4) (show (0 : Int) < 12 by decide)
  obtain ⟨d4, hd4, ix4⟩ := idx_tup tails g4 (by rw [tails_len]; exact g4') (by rw [tails_len]; decide)
  obtain ⟨tail, rfl, ts⟩ := size_of_B (List.all_eq_true.mp tails_ok d4 hd4)
  obtain ⟨p5, m5, a5, o5, c5, _, _⟩ := pick_ex o4 (show (0 : Int) < 3 by decide) (by decide)
  obtain ⟨ah, f5, g5, g5'⟩ := fmod_ex (p5 + k) (show (0 : Int) < 3 by decide)
  have lnn := len_str (small_lim (show name.cps.size ≤ 200 by omega))
  obtain ⟨at', m6, a6, o6, c6, g6, g6'⟩ := pick_ex o5 (show (0 : Int) < (name.cps.size : Int) by omega) (by omega)
  obtain ⟨p7, m7, a7, o7, c7, g7, g7'⟩ := pick_ex o6 n0 n1
  obtain ⟨d7, hd7, ix7⟩ := idx_list keys g7 g7' (by omega)
  obtain ⟨q7, hq7, rfl⟩ := kmem d7 hd7
  have ns7 := name_size rw0 lt hq7
  generalize q7.1 = other at ix7 ns7
  have io1 := intO_small (i := at') g6 (by omega)
  have io2 := intO_small (i := at' + 1) (by omega) (by omega)
  obtain ⟨y1, s1, z1⟩ := slice_ex (show name.cps.size ≤ 200 by omega) none (some at')
  obtain ⟨y2, s2, z2⟩ := slice_ex (show name.cps.size ≤ 200 by omega) (some (at' + 1)) none
  obtain ⟨y3, s3, z3⟩ := slice_ex (show name.cps.size ≤ 200 by omega) none (some (-1))
  obtain ⟨ch, ix8⟩ := idx_str name g6 g6' (by omega)
  obtain ⟨y4, s4, z4⟩ := swap_ex ch
  obtain ⟨y5, s5, z5⟩ := add_ex (a := y1) (b := y4) (by omega)
  obtain ⟨y6, s6, z6⟩ := add_ex (a := y5) (b := y2) (by omega)
  obtain ⟨y7, s7, z7⟩ := add_ex (a := name) (b := other) (by omega)
  obtain ⟨y8, s8, z8⟩ := repl_ex (show name.cps.size ≤ 200 by omega)
  obtain ⟨d9, hd9, ix9⟩ := idx_tup [.str name, .str y1, .str y3, .str y6, .str y7, .str y8] g3 g3' (show 6 ≤ 300 by decide)
  have mk : ∃ made : Str, d9 = .str made ∧ made.cps.size ≤ 150 := by
    simp only [List.mem_cons, List.not_mem_nil, or_false] at hd9
    rcases hd9 with rfl | rfl | rfl | rfl | rfl | rfl
    · exact ⟨_, rfl, by omega⟩
    · exact ⟨_, rfl, by omega⟩
    · exact ⟨_, rfl, by omega⟩
    · exact ⟨_, rfl, by omega⟩
    · exact ⟨_, rfl, by omega⟩
    · exact ⟨_, rfl, by omega⟩
  obtain ⟨made, rfl, ms⟩ := mk
  obtain ⟨x, s10, z10⟩ := add_ex (a := made) (b := tail) (by omega)
  refine ⟨name, x, ah, ?_, ⟨by omega, ⟨ah.toNat, by omega, by omega⟩, ⟨p, s, l, rw0, lt, kn⟩⟩⟩
  have e : fs 16 = some d__law_case := rfl
  have ltt := (run_le fs (show 4 ≤ 35 by decide)).call letters_spec
  have E1 := case37 (v := [(48, .int a), (44, .int k), (45, .dict T)]) rfl rfl
  have E2 := case49 (v := [(48, .int a), (44, .int k), (45, .dict T)]) rfl rfl (up (by decide) c1) hk1 f1 ltt ix1 ih lk
  have E3 := case29 (v := put [(48, .int a), (44, .int k), (45, .dict T)] 49 (.list keys)) rfl rfl (up (by decide) c2) hk2 ln f2 ix2
  have E4 := case50 (v := put (put [(48, .int a), (44, .int k), (45, .dict T)] 49 (.list keys)) 29 (.str name)) rfl (up (by decide) c3) f3
  have E5 := case51 (v := put (put (put [(48, .int a), (44, .int k), (45, .dict T)] 49 (.list keys)) 29 (.str name)) 50 (.int w)) rfl (up (by decide) c4) hk4 f4 ix4
  have E6 := case30 (v := put (put (put (put [(48, .int a), (44, .int k), (45, .dict T)] 49 (.list keys)) 29 (.str name)) 50 (.int w)) 51 (.str tail)) rfl (up (by decide) c5) f5
  have E7 := case32 (v := put (put (put (put (put [(48, .int a), (44, .int k), (45, .dict T)] 49 (.list keys)) 29 (.str name)) 50 (.int w)) 51 (.str tail)) 30 (.int ah)) rfl lnn (up (by decide) c6)
  have E8 := case52 (v := put (put (put (put (put (put [(48, .int a), (44, .int k), (45, .dict T)] 49 (.list keys)) 29 (.str name)) 50 (.int w)) 51 (.str tail)) 30 (.int ah)) 32 (.int at')) rfl ln (up (by decide) c7) ix7
  have E9 := case53 (m := m7) (v := put (put (put (put (put (put (put [(48, .int a), (44, .int k), (45, .dict T)] 49 (.list keys)) 29 (.str name)) 50 (.int w)) 51 (.str tail)) 30 (.int ah)) 32 (.int at')) 52 (.str other)) rfl rfl io1 io2 s1 s2 ix8 s4 s5 s6
  have E10 := case54 (m := m7) (v := put (put (put (put (put (put (put (put [(48, .int a), (44, .int k), (45, .dict T)] 49 (.list keys)) 29 (.str name)) 50 (.int w)) 51 (.str tail)) 30 (.int ah)) 32 (.int at')) 52 (.str other)) 53 (.str y6)) rfl rfl rfl rfl rfl io1 s1 s3 s7 s8 ix9
  have E11 := caseR (m := m7) (v := put (put (put (put (put (put (put (put (put [(48, .int a), (44, .int k), (45, .dict T)] 49 (.list keys)) 29 (.str name)) 50 (.int w)) 51 (.str tail)) 30 (.int ah)) 32 (.int at')) 52 (.str other)) 53 (.str y6)) 54 (.str made)) rfl rfl rfl rfl s10
  rw [call_none fs 40 16 d__law_case _ e]
  have pa : putAll d__law_case.params [.int a, .int k, .dict T] [] = some [(48, .int a), (44, .int k), (45, .dict T)] := rfl
  rw [pa]
  have h := case_body _ E1 E2 E3 E4 E5 E6 E7 E8 E9 E10 E11
  simp only [h]
end
end Mine
end

section
open PySem PySem.W PyProof.Rows
set_option Elab.async false
set_option maxRecDepth 100000
namespace Mine
noncomputable section
theorem cmp_lt (a b : Int) : cmpD .lt (.int a) (.int b) = some (decide (a < b)) := rfl
theorem digit_ev {D z : Dat} {i n : Int} (ln : fnD .len D = some (.int n)) (h : (i < n ∧ idxD D (.int i) = some z) ∨ (¬ i < n ∧ z = .int 0)) : (run fs 10).call 8 [D, .int i] none = some (z, none) := by
  have e : fs 8 = some d__law_digit := rfl
  rw [call_none fs 9 8 d__law_digit _ e]
  unfold d__law_digit
  rcases h with ⟨h, ix⟩ | ⟨h, rfl⟩
  · simp only [putAll, put, look, Nat.beq, exs, ex_succ, stepS, ev_succ, stepE, te_succ, stepT, ln, cmp_lt, decide_eq_true h, ix, Option.map_some]
  · simp only [putAll, put, look, Nat.beq, exs, ex_succ, stepS, ev_succ, stepE, te_succ, stepT, ln, cmp_lt, decide_eq_false h, Option.map_some]
theorem digit_ex {ns : List Int} (hl : ns.length ≤ 63) {i : Int} (h0 : 0 ≤ i) : ∃ z : Int, (run fs 10).call 8 [.list (ns.map .int), .int i] none = some (.int z, none) := by
  have hm : (ns.map Dat.int).length ≤ 200 := by rw [List.length_map]; omega
  have ln := len_list_ok hm
  by_cases h : i < ((ns.map Dat.int).length : Int)
  · obtain ⟨d, hd, ix⟩ := idx_list (ns.map Dat.int) h0 h (by omega)
    obtain ⟨z, _, rfl⟩ := List.mem_map.mp hd
    exact ⟨z, digit_ev ln (.inl ⟨h, ix⟩)⟩
  · exact ⟨0, digit_ev ln (.inr ⟨h, rfl⟩)⟩
theorem range_ex {b : Int} (h0 : 0 ≤ b) (h1 : b ≤ 100) : ∃ l, rangeD 0 b = some l ∧ ∀ d ∈ l, ∃ k : Int, d = .int k ∧ 0 ≤ k := by
  have l : (100 : Int) ≤ (lim : Int) := by decide
  have l2 : -(lim : Int) ≤ 0 := by decide
  have l4 : (0 : Int) ≤ (lim : Int) := Int.le_trans (by decide) l
  have c1 : b ≤ (lim : Int) := Int.le_trans h1 l
  have c2 : -(lim : Int) ≤ b := Int.le_trans l2 h0
  have c3 : b - 0 ≤ (lim : Int) := Int.le_trans (show b - 0 ≤ 100 by omega) l
  refine ⟨(List.range (b - 0).toNat).map fun (i : Nat) => .int (0 + i), ?_, ?_⟩
  · unfold rangeD
    rw [if_pos ⟨l2, l4, c2, c1, c3⟩]
  · intro d hd
    obtain ⟨i, _, rfl⟩ := List.mem_map.mp hd
    exact ⟨_, rfl, by omega⟩
theorem forL_inv {r : Rec} {x : Nat} {body : List St} (P : Vars → Prop) : ∀ (items : List Dat), (∀ d ∈ items, ∀ v, P v → ∃ v', exs r body ⟨put v x d, none⟩ = some (.next, ⟨v', none⟩) ∧ P v') → ∀ v, P v → ∃ v', forL r [x] false body items ⟨v, none⟩ = some (.next, ⟨v', none⟩) ∧ P v'
  | [], _, v, hv => ⟨v, rfl, hv⟩
  | d :: ds, h, v, hv => by
    obtain ⟨v1, e1, p1⟩ := h d List.mem_cons_self v hv
    obtain ⟨v2, e2, p2⟩ := forL_inv P ds (fun d hd => h d (List.mem_cons_of_mem _ hd)) v1 p1
    refine ⟨v2, ?_, p2⟩
    unfold forL
    simp only [List.any_cons, List.any_nil, isMu, bindFor, Bool.or_false, e1, e2]
noncomputable def othersL : List Dat := [.str ⟨#[]⟩, .str ⟨#[49]⟩, .str ⟨#[35]⟩, .str ⟨#[38]⟩, .str ⟨#[64]⟩, .str ⟨#[91]⟩, .str ⟨#[96]⟩, .str ⟨#[123]⟩, .str ⟨#[97, 109]⟩, .str ⟨#[32]⟩, .str ⟨#[0]⟩, .str ⟨#[71, 97]⟩, .str ⟨#[233]⟩, .str ⟨#[59]⟩, .str ⟨#[95]⟩, .str ⟨#[55296]⟩, .str ⟨#[122, 122]⟩]
noncomputable def otherC (c : Option (Dat × Option MDat)) : Bool := match c with
  | some (.dict [], none) => true
  | _ => false
theorem other_of_C {c : Option (Dat × Option MDat)} (h : otherC c = true) : c = some (.dict [], none) := by
  unfold otherC at h
  split at h
  · rfl
  · cases h
theorem others_ok : (othersL.all fun x => otherC ((run fs 24).call 5 [x] none)) = true := by decide +kernel
theorem others_len : othersL.length = 17 := rfl
theorem len17 (a b c d e f g h i j k l m n o p q : Dat) : [a, b, c, d, e, f, g, h, i, j, k, l, m, n, o, p, q].length ≤ lim := (by decide : 17 ≤ lim)
theorem ne_dict {D E : List (Str × Dat)} (h : eqD (.dict D) (.dict E) = some true) : cmpD .ne (.dict D) (.dict E) = some false := by
  simp only [r_ne, r_eq, r_lt, r_gt, r_isin, h, Option.map_some]
  rfl
section
variable {v : Vars}
/-- the interpreter below is a variable here: else the kernel runs the call -/
theorem asg_call {r : Rec} {x f : Nat} {T : Dat} (h : r.call f [] none = some (T, none)) : (step fs (step fs r)).ex (.assign x (.call f [])) ⟨v, none⟩ = some (.next, ⟨put v x T, none⟩) := by
  show stepS (step fs r) (.assign x (.call f [])) ⟨v, none⟩ = _
  have e : (step fs r).ev (.call f []) ⟨v, none⟩ = some (T, none) := by
    show stepE r (.call f []) ⟨v, none⟩ = _
    simp only [stepE, evs, h]
  simp only [stepS, isMu, e]
theorem law45 {T : Dat} (h : (run fs 61).call 15 [] none = some (T, none)) : (run fs 63).ex (.assign 45 (.call 15 [])) ⟨v, none⟩ = some (.next, ⟨put v 45 T, none⟩) := asg_call h
theorem law60 {T : Dat} (h : (run fs 61).call 14 [] none = some (T, none)) : (run fs 63).ex (.assign 60 (.call 14 [])) ⟨v, none⟩ = some (.next, ⟨put v 60 T, none⟩) := asg_call h
theorem law61 {S z : Dat} (h36 : look v 36 = some S) (h : (run fs 61).call 8 [S, .int 0] none = some (z, none)) : (run fs 63).ex (.assign 61 (.call 8 [(.var 36), (.int 0)])) ⟨v, none⟩ = some (.next, ⟨put v 61 z, none⟩) := by
  simp only [ex_succ, stepS, ev_succ, stepE, evs, isMu, h36, h]
theorem law46 {L : Str} {q : Dat} {k k2 z i : Int} (h60 : look v 60 = some (.str L)) (h61 : look v 61 = some (.int z)) (h44 : look v 44 = some (.int k)) (mu : binD .mul (.int 2) (.int k) = some (.int k2)) (fm : binD .fmod (.int (z + k2)) (.int 52) = some (.int i)) (ix : idxD (.str L) (.int i) = some q) :
    (run fs 62).ex (.assign 46 (.idx (.var 60) (.bin .fmod (.bin .add (.var 61) (.bin .mul (.int 2) (.var 44))) (.int 52)))) ⟨v, none⟩ = some (.next, ⟨put v 46 q, none⟩) := by
  simp only [ex_succ, stepS, ev_succ, stepE, isMu, h60, h61, h44, mu, fm, ix, add_int', Option.map_some]
theorem lawNe {p : Str} {D E T : List (Str × Dat)} (h46 : look v 46 = some (.str p)) (h45 : look v 45 = some (.dict T)) (hc : (run fs 59).call 5 [.str p] none = some (.dict D, none)) (ih : idxD (.dict T) (.str p) = some (.dict E)) (ne : cmpD .ne (.dict D) (.dict E) = some false) :
    (run fs 62).ex (.ite (.cmp .ne (.call 5 [(.var 46)]) (.idx (.var 45) (.var 46))) [.ret (.bool false)] []) ⟨v, none⟩ = some (.next, ⟨v, none⟩) := by
  simp only [ex_succ, stepS, ev_succ, stepE, te_succ, stepT, evs, h45, h46, hc, ih, ne, exs, Option.map_some]
theorem law62 : (run fs 63).ex (.assign 62 (.list [(.str ⟨#[]⟩), (.str ⟨#[49]⟩), (.str ⟨#[35]⟩), (.str ⟨#[38]⟩), (.str ⟨#[64]⟩), (.str ⟨#[91]⟩), (.str ⟨#[96]⟩), (.str ⟨#[123]⟩), (.str ⟨#[97, 109]⟩), (.str ⟨#[32]⟩), (.str ⟨#[0]⟩), (.str ⟨#[71, 97]⟩), (.str ⟨#[233]⟩), (.str ⟨#[59]⟩), (.str ⟨#[95]⟩), (.str ⟨#[55296]⟩), (.str ⟨#[122, 122]⟩)])) ⟨v, none⟩ = some (.next, ⟨put v 62 (.list othersL), none⟩) := by
  simp only [ex_succ, stepS, ev_succ, stepE, evs, isMu, if_pos (len17 _ _ _ _ _ _ _ _ _ _ _ _ _ _ _ _ _), othersL]
theorem lawOther {S x : Dat} {O : List Dat} {k k6 z i n : Int} {D : List (Str × Dat)} (h36 : look v 36 = some S) (h62 : look v 62 = some (.list O)) (h44 : look v 44 = some (.int k)) (dg : (run fs 55).call 8 [S, .int (1 + k)] none = some (.int z, none)) (mu : binD .mul (.int 6) (.int k) = some (.int k6)) (ln : fnD .len (.list O) = some (.int n))
    (fm : binD .fmod (.int (z + k6)) (.int n) = some (.int i)) (ix : idxD (.list O) (.int i) = some x) (hc : (run fs 59).call 5 [x] none = some (.dict D, none)) (ne : cmpD .ne (.dict D) (.dict []) = some false) :
    (run fs 62).ex (.ite (.cmp .ne (.call 5 [(.idx (.var 62) (.bin .fmod (.bin .add (.call 8 [(.var 36), (.bin .add (.int 1) (.var 44))]) (.bin .mul (.int 6) (.var 44))) (.fn .len (.var 62))))]) .dict0) [.ret (.bool false)] []) ⟨v, none⟩ = some (.next, ⟨v, none⟩) := by
  simp only [ex_succ, stepS, ev_succ, stepE, te_succ, stepT, evs, h36, h62, h44, dg, mu, ln, fm, ix, hc, ne, exs, add_int', Option.map_some]
theorem lawCase {S T : Dat} {a b c : Dat} {k z : Int} (h36 : look v 36 = some S) (h44 : look v 44 = some (.int k)) (h45 : look v 45 = some T) (dg : (run fs 59).call 8 [S, .int (4 + k)] none = some (.int z, none)) (cs : (run fs 60).call 16 [.int z, .int k, T] none = some (.tup [a, b, c], none)) :
    (run fs 62).ex (.assignT [29, 47, 30] (.call 16 [(.call 8 [(.var 36), (.bin .add (.int 4) (.var 44))]), (.var 44), (.var 45)])) ⟨v, none⟩ = some (.next, ⟨put (put (put v 29 a) 47 b) 30 c, none⟩) := by
  simp only [ex_succ, stepS, ev_succ, stepE, evs, h36, h44, h45, dg, cs, isMu, List.any_cons, List.any_nil, Bool.or_false, putAll, add_int', Option.map_some]
theorem lawRead {T a b c : Dat} (h29 : look v 29 = some a) (h47 : look v 47 = some b) (h30 : look v 30 = some c) (h45 : look v 45 = some T) (rd : (run fs 58).call 17 [a, b, c, T] none = some (.bool true, none)) :
    (run fs 62).ex (.ite (.not (.val (.call 17 [(.var 29), (.var 47), (.var 30), (.var 45)]))) [.ret (.bool false)] []) ⟨v, none⟩ = some (.next, ⟨v, none⟩) := by
  simp only [ex_succ, stepS, ev_succ, stepE, te_succ, stepT, evs, h29, h47, h30, h45, rd, exs, Bool.not_true]
theorem lawFor {b : Int} {items : List Dat} {body : List St} {v' : Vars} (hr : rangeD 0 b = some items) (h : forL (run fs 62) [44] false body items ⟨v, none⟩ = some (.next, ⟨v', none⟩)) :
    (run fs 63).ex (.forE [44] false (.range1 (.int b)) body) ⟨v, none⟩ = some (.next, ⟨v', none⟩) := by
  simp only [ex_succ, stepS, iter, ev_succ, stepE, hr, h, Option.map_some]
end
end
end Mine
end

section
open PySem PySem.W PyProof.Rows
set_option Elab.async false
set_option maxRecDepth 100000
namespace Mine
noncomputable section
noncomputable def body1 : List St := [.assign 46 (.idx (.var 60) (.bin .fmod (.bin .add (.var 61) (.bin .mul (.int 2) (.var 44))) (.int 52))), .ite (.cmp .ne (.call 5 [(.var 46)]) (.idx (.var 45) (.var 46))) [.ret (.bool false)] []]
noncomputable def body2 : List St := [.ite (.cmp .ne (.call 5 [(.idx (.var 62) (.bin .fmod (.bin .add (.call 8 [(.var 36), (.bin .add (.int 1) (.var 44))]) (.bin .mul (.int 6) (.var 44))) (.fn .len (.var 62))))]) .dict0) [.ret (.bool false)] []]
noncomputable def body3 : List St := [.assignT [29, 47, 30] (.call 16 [(.call 8 [(.var 36), (.bin .add (.int 4) (.var 44))]), (.var 44), (.var 45)]), .ite (.not (.val (.call 17 [(.var 29), (.var 47), (.var 30), (.var 45)]))) [.ret (.bool false)] []]
structure Vin (ns : List Int) (T : List (Str × Dat)) (h : Int) (v : Vars) : Prop where
  i36 : look v 36 = some (.list (ns.map .int))
  i45 : look v 45 = some (.dict T)
  i60 : look v 60 = some (.str lettersS)
  i61 : look v 61 = some (.int h)
theorem Vin.put {ns : List Int} {T : List (Str × Dat)} {h : Int} {v : Vars} (i : Vin ns T h v) {x : Nat} (d : Dat) (h1 : 36 ≠ x) (h2 : 45 ≠ x) (h3 : 60 ≠ x) (h4 : 61 ≠ x) : Vin ns T h (Mine.put v x d) :=
  ⟨by rw [look_other d h1]; exact i.i36, by rw [look_other d h2]; exact i.i45, by rw [look_other d h3]; exact i.i60, by rw [look_other d h4]; exact i.i61⟩
theorem two {r : Rec} {s t : St} {a b : Rho} {o : Fl × Rho} (h1 : r.ex s a = some (.next, b)) (h2 : r.ex t b = some o) (h3 : o.1 = .next) : exs r [s, t] a = some o := by
  obtain ⟨f, q⟩ := o
  cases h3
  simp only [exs, h1, h2]
theorem one {r : Rec} {s : St} {a b : Rho} (h1 : r.ex s a = some (.next, b)) : exs r [s] a = some (.next, b) := by
  simp only [exs, h1]
section
variable {ns : List Int} {T : List (Str × Dat)} {h : Int}
theorem turn1 (ok : TabOk T) {v : Vars} (i : Vin ns T h v) (k : Int) : ∃ v', exs (run fs 62) body1 ⟨put v 44 (.int k), none⟩ = some (.next, ⟨v', none⟩) ∧ Vin ns T h v' := by
  have i1 := i.put (.int k) (x := 44) (by decide) (by decide) (by decide) (by decide)
  obtain ⟨k2, mu⟩ := mul_ex (a := 2) (by decide) k
  obtain ⟨j, fm, g, g'⟩ := fmod_ex (h + k2) (show (0 : Int) < 52 by decide)
  obtain ⟨p, s, ix, rw0⟩ := letter_at g g'
  obtain ⟨l, lt⟩ := ok.1 p s rw0
  obtain ⟨D, nm, eq⟩ := lt.names
  have i2 := i1.put (.str p) (x := 46) (by decide) (by decide) (by decide) (by decide)
  have E1 := law46 (v := put v 44 (.int k)) i1.i60 i1.i61 (look_same _ _ _) mu fm ix
  have E2 := lawNe (v := put (put v 44 (.int k)) 46 (.str p)) (look_same _ _ _) i2.i45 ((run_le fs (show 24 ≤ 59 by decide)).call nm) lt.inner (ne_dict eq)
  exact ⟨_, two E1 E2 rfl, i2⟩
structure Vin2 (ns : List Int) (T : List (Str × Dat)) (h : Int) (v : Vars) : Prop extends Vin ns T h v where
  i62 : look v 62 = some (.list othersL)
theorem turn2 (hl : ns.length ≤ 63) {v : Vars} (i : Vin2 ns T h v) {k : Int} (h0 : 0 ≤ k) : ∃ v', exs (run fs 62) body2 ⟨put v 44 (.int k), none⟩ = some (.next, ⟨v', none⟩) ∧ Vin2 ns T h v' := by
  have i1 := i.toVin.put (.int k) (x := 44) (by decide) (by decide) (by decide) (by decide)
  have i62 : look (put v 44 (.int k)) 62 = some (.list othersL) := by rw [look_other _ (by decide)]; exact i.i62
  obtain ⟨k6, mu⟩ := mul_ex (a := 6) (by decide) k
  obtain ⟨z, dg⟩ := digit_ex hl (show 0 ≤ 1 + k by omega)
  have ln := len_list_ok (show othersL.length ≤ 200 by rw [others_len]; decide)
  rw [others_len] at ln
  obtain ⟨j, fm, g, g'⟩ := fmod_ex (z + k6) (show (0 : Int) < ((17 : Nat) : Int) by decide)
  obtain ⟨x, hx, ix⟩ := idx_list othersL g (by rw [others_len]; exact g') (by rw [others_len]; decide)
  have hc := other_of_C (List.all_eq_true.mp others_ok x hx)
  have E := lawOther (v := put v 44 (.int k)) i1.i36 i62 (look_same _ _ _) ((run_le fs (show 10 ≤ 55 by decide)).call dg) mu ln fm ix ((run_le fs (show 24 ≤ 59 by decide)).call hc) (ne_dict rfl)
  exact ⟨_, one E, ⟨i1, i62⟩⟩
theorem turn3 (ok : TabOk T) (hl : ns.length ≤ 63) {v : Vars} (i : Vin ns T h v) {k : Int} (h0 : 0 ≤ k) : ∃ v', exs (run fs 62) body3 ⟨put v 44 (.int k), none⟩ = some (.next, ⟨v', none⟩) ∧ Vin ns T h v' := by
  have i1 := i.put (.int k) (x := 44) (by decide) (by decide) (by decide) (by decide)
  obtain ⟨z, dg⟩ := digit_ex hl (show 0 ≤ 4 + k by omega)
  obtain ⟨name, x, ah, cs, co⟩ := case_spec ok z k
  obtain ⟨j, rfl, hj⟩ := co.ahead
  obtain ⟨p, s, l0, rw0, lt, hn⟩ := co.known
  have rd := is_read_spec ok hj co.size rw0 lt hn
  have i2 := ((i1.put (.str name) (x := 29) (by decide) (by decide) (by decide) (by decide)).put (.str x) (x := 47) (by decide) (by decide) (by decide) (by decide)).put (.int (j : Int)) (x := 30) (by decide) (by decide) (by decide) (by decide)
  have E1 := lawCase (v := put v 44 (.int k)) i1.i36 (look_same _ _ _) i1.i45 ((run_le fs (show 10 ≤ 59 by decide)).call dg) ((run_le fs (show 41 ≤ 60 by decide)).call cs)
  have E2 := lawRead (v := put (put (put (put v 44 (.int k)) 29 (.str name)) 47 (.str x)) 30 (.int (j : Int))) (by rw [look_other _ (by decide), look_other _ (by decide)]; exact look_same _ _ _) (by rw [look_other _ (by decide)]; exact look_same _ _ _) (look_same _ _ _) i2.i45 ((run_le fs (show 41 ≤ 58 by decide)).call rd)
  exact ⟨_, two E1 E2 rfl, i2⟩
end
theorem law_body (R : Rec) {a b c d e f g h : Rho}
    (E1 : R.ex (.assign 45 (.call 15 [])) a = some (.next, b))
    (E2 : R.ex (.assign 60 (.call 14 [])) b = some (.next, c))
    (E3 : R.ex (.assign 61 (.call 8 [(.var 36), (.int 0)])) c = some (.next, d))
    (E4 : R.ex (.forE [44] false (.range1 (.int 26)) body1) d = some (.next, e))
    (E5 : R.ex (.assign 62 (.list [(.str ⟨#[]⟩), (.str ⟨#[49]⟩), (.str ⟨#[35]⟩), (.str ⟨#[38]⟩), (.str ⟨#[64]⟩), (.str ⟨#[91]⟩), (.str ⟨#[96]⟩), (.str ⟨#[123]⟩), (.str ⟨#[97, 109]⟩), (.str ⟨#[32]⟩), (.str ⟨#[0]⟩), (.str ⟨#[71, 97]⟩), (.str ⟨#[233]⟩), (.str ⟨#[59]⟩), (.str ⟨#[95]⟩), (.str ⟨#[55296]⟩), (.str ⟨#[122, 122]⟩)])) e = some (.next, f))
    (E6 : R.ex (.forE [44] false (.range1 (.int 3)) body2) f = some (.next, g))
    (E7 : R.ex (.forE [44] false (.range1 (.int 8)) body3) g = some (.next, h))
    (E8 : R.ex (.ret (.bool true)) h = some (.ret (.bool true), h)) :
    exs R d_law.body a = some (.ret (.bool true), h) := by
  unfold body1 at E4
  unfold body2 at E6
  unfold body3 at E7
  unfold d_law
  simp only [exs, E1, E2, E3, E4, E5, E6, E7, E8]
theorem law_true (ns : List Int) (hl : ns.length ≤ 63) : ∃ ρ', exs (run fs 63) d_law.body ⟨[(36, .list (ns.map .int))], none⟩ = some (.ret (.bool true), ρ') := by
  obtain ⟨T, ht, ok⟩ := table_facts
  obtain ⟨h, dg⟩ := digit_ex hl (i := 0) (by decide)
  have E1 := law45 (v := [(36, .list (ns.map .int))]) ((run_le fs (show 24 ≤ 61 by decide)).call ht)
  have E2 := law60 (v := put [(36, .list (ns.map .int))] 45 (.dict T)) ((run_le fs (show 4 ≤ 61 by decide)).call letters_spec)
  have E3 := law61 (v := put (put [(36, .list (ns.map .int))] 45 (.dict T)) 60 (.str lettersS)) rfl ((run_le fs (show 10 ≤ 61 by decide)).call dg)
  have I0 : Vin ns T h (put (put (put [(36, .list (ns.map .int))] 45 (.dict T)) 60 (.str lettersS)) 61 (.int h)) := ⟨rfl, rfl, rfl, rfl⟩
  generalize put (put (put [(36, .list (ns.map .int))] 45 (.dict T)) 60 (.str lettersS)) 61 (.int h) = v0 at E3 I0
  obtain ⟨l1, r1, m1⟩ := range_ex (b := 26) (by decide) (by decide)
  obtain ⟨v1, F1, I1⟩ := forL_inv (r := run fs 62) (x := 44) (body := body1) (Vin ns T h) l1 (fun d hd v iv => by
    obtain ⟨k, rfl, _⟩ := m1 d hd
    exact turn1 ok iv k) v0 I0
  have E4 := lawFor r1 F1
  have E5 := law62 (v := v1)
  have I2 : Vin2 ns T h (put v1 62 (.list othersL)) := ⟨I1.put _ (by decide) (by decide) (by decide) (by decide), look_same _ _ _⟩
  obtain ⟨l2, r2, m2⟩ := range_ex (b := 3) (by decide) (by decide)
  obtain ⟨v2, F2, I3⟩ := forL_inv (r := run fs 62) (x := 44) (body := body2) (Vin2 ns T h) l2 (fun d hd v iv => by
    obtain ⟨k, rfl, h0⟩ := m2 d hd
    exact turn2 hl iv h0) _ I2
  have E6 := lawFor r2 F2
  obtain ⟨l3, r3, m3⟩ := range_ex (b := 8) (by decide) (by decide)
  obtain ⟨v3, F3, I4⟩ := forL_inv (r := run fs 62) (x := 44) (body := body3) (Vin ns T h) l3 (fun d hd v iv => by
    obtain ⟨k, rfl, h0⟩ := m3 d hd
    exact turn3 ok hl iv h0) v2 I3.toVin
  have E7 := lawFor r3 F3
  have E8 : (run fs 63).ex (.ret (.bool true)) ⟨v3, none⟩ = some (.ret (.bool true), ⟨v3, none⟩) := by
    simp only [ex_succ, stepS, ev_succ, stepE]
  exact ⟨_, law_body _ E1 E2 E3 E4 E5 E6 E7 E8⟩
end
end Mine
end

section
open PySem PySem.W PyProof.Rows
set_option Elab.async false
set_option maxRecDepth 100000
set_option maxHeartbeats 0
namespace Mine
theorem ints_dat {h : Heap} {w : World} {vs : List Value} {ns : List Int} (i : IntsAre vs ns) : RepL pw w h [] vs (ns.map .int) := by
  induction i with
  | nil => exact .nil
  | cons n t _ ih => exact .cons .int ih
theorem finish {w : World} {s : Shared} {h₁ : Heap} {mg mb : Str → Option Value} {consts : List (Str × PyData)} {objs : List (Str × (Obj → Prop))} {nms : List Str} (G : Glob 0 mg mb ((recsOf pw).map itemOf) consts objs nms s.heap)
    (hn : (["ord", "chr", "len", "max", "list", "range"].all fun x => !(nms.contains (Str.ofString x))) = true) {e : DefRec} (he : (recsOf pw)[18]? = some e) {fa : Addr} {cd : Value} {a : Addr} {vs : List Value} {ns : List Int}
    (F : Fr s.heap s.heap.objs.size h₁ (fun x => List.lookup x [(nm 36, Value.ref a)].reverse)) (hl : s.heap.IsList a vs.toArray) (hi : IntsAre vs ns) (hlen : ns.length ≤ 63) (tk : Nat) (pt : 0 < tk) {Q : Flow → Shared → Prop} {E : Value → Shared → Prop}
    (hQ : ∀ h' tk m', Fr s.heap s.heap.objs.size h' m' → Q (.ret (.bool true)) { s with heap := h', toks := tk }) :
    wpAny (model pw w) (callerA.deeper (envOf e.name e.scope s.heap.objs.size fa cd)) (execs e.body (envOf e.name e.scope s.heap.objs.size fa cd)) Q E { s with heap := h₁, toks := tk } := by
  obtain ⟨ρ', law⟩ := law_true ns hlen
  obtain ⟨e', he', D⟩ := funs_all 18 d_law rfl
  rw [he] at he'
  cases he'
  refine enter (cx_ok G hn) D.tr D.kind (D.nocell rfl) (D.first 36 [] rfl) F (by simp) hl (by rw [List.toList_toArray]; exact ints_dat hi) law tk pt _ _ fun f h' tk' le ⟨hf, m', F'⟩ => ?_
  subst hf
  exact hQ h' tk' m' F'
end Mine
end

open PySem PySem.W PyProof.Rows
set_option maxRecDepth 1000000 in
set_option maxHeartbeats 0 in
theorem PySem.Challenge.cw_nz0088_01_holds : PySem.Challenge.rw_nz0088_01.Holds := by
  w_on
  refine holds_law Mine.said fun said => ?_
  refine PySem.W.holds_open (q := Mine.qv) (loose := []) (XP := fun _ _ => True) (YP := fun _ _ => True) Mine.left (fun _ _ _ => trivial) (fun _ _ _ _ _ => trivial) (fun _ _ => trivial) (fun _ _ _ _ _ => trivial) (by rfl) (by rfl) (by rfl) (fun _ _ => recFacts_nil (by rfl)) (by rfl) said (by decide +kernel) ⟨rfl, rfl, rfl, rfl, rfl, by decide +kernel⟩ ?hw ?hc
  case hw => w_witness2
  intro w s₀ s₁ mg mb G Y fa o pm cd doc dV kV ho hd hcd hD hmg hg args vals as hpre hlay hrd hwl hlo
  have GL := Mine.glob_ok G
  refine Ground.open G ?_
  intro T B D TE TW
  try (refine guard_noD D (by decide +kernel) ?_; clear D)
  obtain ⟨_, _, M⟩ := bmod_of_top T
  have TA := at_of_top T
  try (obtain ⟨_, _, he, B0⟩ := based_of_top T rfl hmg ho hd; have he' : cd = _ := he; subst he'; clear he)
  clear hmg
  wrow_args hpre hlay hrd hwl hlo
  all_goals (
    first | refine callC_kw (enter_call ?_) | refine enter_call ?_ | refine callC_kw (enter_callW ?_) | refine enter_callW ?_ | w_how
    w_top on
    try refine codeAny_mono ?_ (fun _ _ g => GoodW.toG g)
    have K0 := below_caller (Top.heap T)
    w_call any ho hd hcd hD T F
    clear hd TA
    k_drop
    skip)
  rename Glob _ _ _ _ _ _ _ _ => GL
  rename Fr _ _ _ _ => F
  rename Heap.IsList _ _ _ => hL
  rename IntsAre _ _ => hI
  rename Shared.gens _ = #[] => hg
  rename ¬ _ < _ => hcond
  refine Mine.finish GL (by decide +kernel) (by rfl) F hL hI (by omega) _ (Nat.succ_pos _) fun h' tk m' F' => ?_
  refine goodW_bool F' hg (raisesW_false ?_) ?_
  · wrow_none_raised
  · wrow_post
