import PyProof.Rows.All
import Wide.All
import OpenK.AllK
import Wide.FinOn
import Lean
import PySem.Challenge.RW_nt0644_02
open PySem PySem.W PyProof.Rows
set_option Elab.async false
set_option maxRecDepth 100000
set_option maxHeartbeats 8000000
set_option linter.unusedVariables false
set_option genSizeOf false
set_option genInjectivity false
set_option genInjectivity true
namespace Mn
/-- the top's run over a tree of objects -/
noncomputable def topT (tb : String → Option Builtin) (p : Program) (w : World) (n₀ : Nat) (ann : Option Value) : Nat → SharedT → Thread → Option SharedT
  | 0, _, _ => none
  | n + 1, s, t => match through t with
    | true => some s
    | false => match stepOk n₀ ann t with
      | false => none
      | true => match stepT (denote tb) p w s t with
        | some (s', t') => topT tb p w n₀ ann n s' t'
        | none => none
theorem topT_of {tb : String → Option Builtin} {p : Program} {w : World} {n₀ : Nat} {ann : Option Value} : ∀ {n : Nat} {s s' : SharedT} {t : Thread}, topT tb p w n₀ ann n s t = some s' → topRun tb p w n₀ ann n s.abs t = some s'.abs
  | 0, _, _, _, h => by cases h
  | n + 1, s, s', t, h => by
    unfold topT at h
    unfold topRun
    cases ht : through t with
    | true => rw [ht] at h; cases h; rfl
    | false =>
      rw [ht] at h
      cases hk : stepOk n₀ ann t with
      | false => rw [hk] at h; cases h
      | true =>
        rw [hk] at h
        cases hs : stepT (denote tb) p w s t with
        | none => rw [hs] at h; cases h
        | some r => obtain ⟨s₂, t₂⟩ := r; rw [hs] at h; dsimp only; rw [stepT_spec hs]; exact topT_of h
noncomputable def insAll : List Obj → BT × Nat → BT × Nat
  | [], x => x
  | o :: r, (t, n) => insAll r (t.ins n o, n + 1)
noncomputable def bootBT (P : Params) : BT := (insAll (boot_heap P).objs.toList (.nil, 0)).1
theorem boot_abs (P : Params) : boot_heap P = absHeap (bootBT P) 11 {} := by kernel_rfl
noncomputable def bootT (w : World) (os : OsState) : SharedT := ⟨bootBT w.params, 11, {}, #[], boot_drawn, boot_toks, os⟩
theorem boot_size (w : World) : ((boot_heap w.params).isNs mainGlobals && (Array.mk ([] : List GenState)).size == 0, (boot_heap w.params).objs.size, (boot_heap w.params).nsMap mainGlobals "__annotations__") = (true, 11, some (.ref 6)) := by kernel_rfl

noncomputable def topF (p : Program) (w : World) (n₀ : Nat) (ann : Option Value) : Nat → SharedT → Thread → Option SharedT :=
  Nat.rec (fun _ _ => none) fun _ ih s t => Bool.rec (Bool.rec none (match Fast.tw10156331382660048174 (Fast.tw11892475500146522536 Fast.tw14364793385576792824) p w s t with
        | some (s', t') => ih s' t'
        | none => none) (Fast.tw6613529449190102663 n₀ ann t)) (some s) (through t)
theorem topF_eq (p : Program) (w : World) (n₀ : Nat) (ann : Option Value) : ∀ n s t, topT treeTable p w n₀ ann n s t = topF p w n₀ ann n s t
  | 0, _, _ => rfl
  | n + 1, s, t => by
    have e1 := Fast.te10156331382660048174
    have e2 := Fast.te11892475500146522536
    have e3 := Fast.te14364793385576792824
    have e4 := Fast.te6613529449190102663
    have ih := topF_eq p w n₀ ann n
    show _ = Bool.rec (motive := fun _ => Option SharedT) (Bool.rec (motive := fun _ => Option SharedT) none (match Fast.tw10156331382660048174 (Fast.tw11892475500146522536 Fast.tw14364793385576792824) p w s t with
        | some (s', t') => topF p w n₀ ann n s' t'
        | none => none) (Fast.tw6613529449190102663 n₀ ann t)) (some s) (through t)
    rw [← e1, ← e2, ← e3, ← e4]
    unfold topT
    cases through t with
    | true => rfl
    | false =>
      cases stepOk n₀ ann t with
      | false => rfl
      | true =>
        dsimp only
        split
        · exact ih _ _
        · rfl
theorem left_tree {p q : Program} {loose : List Str} {Xt : Shared → Bool} {α : Type} {Yf : Shared → α} {Ya : World → α} {N : Nat} {g0 : Bool}
    (e : opening p = plainProg p.main.scope.names) (hN : Nat.ble 600 N = true) (f : ∀ s, fenceModules? p s = some s)
    (runA : ∀ (w : World) (os : OsState), (topF p w 11 (some (.ref 6)) N (bootT w os) (topStub p)).map (fun s =>
      (staticsOk (importedModules p.main.body) (boot_heap w.params) s.abs.heap && namesBound p s.abs.heap && gensDone s.abs && laidKept (boot_heap w.params) s.abs.heap, Yf s.abs)) = some (true, Ya w))
    (runB : ∀ (w : World) (os : OsState), (topF p w 11 (some (.ref 6)) N (bootT w os) (topStub p)).map (fun s => Fast.tw4187177175401517315 q loose (importedModules p.main.body) Xt g0 s.abs) = some (openGood q loose)) : LeftO p q loose Xt Yf Ya N g0 := fun w => by
  obtain ⟨⟨h, gs, d, k, os⟩, e1, e'⟩ := Option.map_eq_some_iff.mp (boot_open e hN f w)
  obtain ⟨rfl, rfl, rfl, rfl⟩ : h = boot_heap w.params ∧ gs = #[] ∧ d = boot_drawn ∧ k = boot_toks := by simpa using e'
  obtain ⟨s, hs, hl⟩ := Option.map_eq_some_iff.mp (runA w os)
  obtain ⟨s', hs', l2⟩ := Option.map_eq_some_iff.mp (runB w os)
  rw [hs] at hs'; cases hs'
  obtain ⟨l1, l3⟩ : _ ∧ _ := by simpa only [Prod.mk.injEq] using hl
  rw [← topF_eq] at hs
  rw [← Fast.te4187177175401517315] at l2
  have r := topT_of hs
  have ab : (bootT w os).abs = ⟨boot_heap w.params, #[], boot_drawn, boot_toks, os⟩ := by
    unfold bootT SharedT.abs
    rw [boot_abs]
  rw [ab] at r
  obtain ⟨z1, z2, z3⟩ : _ ∧ _ ∧ _ := by simpa only [Prod.mk.injEq] using boot_size w
  have t : topFrom treeTable p w N ⟨boot_heap w.params, #[], boot_drawn, boot_toks, os⟩ = some s.abs := by
    unfold topFrom
    dsimp only
    rw [z1, z2, z3, r]
    show (match staticsOk (importedModules p.main.body) (boot_heap w.params) s.abs.heap && namesBound p s.abs.heap && gensDone s.abs && laidKept (boot_heap w.params) s.abs.heap with | true => _ | false => _) = _
    rw [l1]
  unfold openEnds
  rw [e1]
  show (topFrom treeTable p w N _).map _ = _
  rw [t]
  exact congrArg some (Prod.ext l2 l3)
end Mn
set_option genInjectivity true
namespace Mn
noncomputable def theLoose : List Str := ["HeapObject", "MAX_ARRAY", "MAX_INT", "Table"]
noncomputable def theView : Program := { PySem.Challenge.pw_nt0644_02 with main := { PySem.Challenge.pw_nt0644_02.main with body := (((PySem.Challenge.pw_nt0644_02.main.body.eraseIdx 32).eraseIdx 23).eraseIdx 22).eraseIdx 11 } }
noncomputable def theLv : List (Str × WData) := [("MAX_ARRAY", WData.int 67108864), ("MAX_INT", WData.int 2147483645)]
end Mn
namespace Mn
theorem runB (w : World) (os : OsState) : (topF PySem.Challenge.pw_nt0644_02 w 11 (some (.ref 6)) 6568 (bootT w os) (topStub PySem.Challenge.pw_nt0644_02)).map (fun s => Fast.tw4187177175401517315 theView theLoose (importedModules PySem.Challenge.pw_nt0644_02.main.body) (fun s => xlAt Mn.theView Mn.theLv s && recOk (RowW.records PySem.Challenge.rw_nt0644_02.row.toRowW) s) true s.abs) = some (openGood theView theLoose) := by kernel_rfl
end Mn
namespace Mn
theorem said : PySem.Challenge.rw_nt0644_02.wellSaid = true := by
  rw [PySem.W.Fast.te9446332074065402090]
  kernel_rfl
theorem head {H : Hook} {d : DefRec} {kwd : List (Str × PySem.Expr)}
    (runA : ∀ (w : World) (os : OsState), (topF PySem.Challenge.pw_nt0644_02 w 11 (some (.ref 6)) 6568 (bootT w os) (topStub PySem.Challenge.pw_nt0644_02)).map (fun s =>
      (staticsOk (importedModules PySem.Challenge.pw_nt0644_02.main.body) (boot_heap w.params) s.abs.heap && namesBound PySem.Challenge.pw_nt0644_02 s.abs.heap && gensDone s.abs && laidKept (boot_heap w.params) s.abs.heap, H.obs s.abs)) = some (true, H.val w))
    (hdef : defOf theView PySem.Challenge.rw_nt0644_02.row.name = some (d, kwd)) (hp : PySem.Challenge.pw_nt0644_02.theDef PySem.Challenge.rw_nt0644_02.row.name = some (d.params, d.body, d.scope)) (hk : kwWritten? d.params.kwonlyargs d.params.kw_defaults = some kwd)
    (hw : PySem.Challenge.rw_nt0644_02.row.toRowW.promised) (hc : WalkO theView theLoose (XL theView theLv) H.says PySem.Challenge.rw_nt0644_02.row.toRowW d kwd fun f vs => PySem.call f vs) : PySem.Challenge.rw_nt0644_02.row.Holds :=
  holds_open (q := theView) (loose := theLoose) (Xt := fun s => xlAt theView theLv s && recOk (RowW.records PySem.Challenge.rw_nt0644_02.row.toRowW) s) (XP := XL theView theLv) (Yf := H.obs) (Ya := H.val) (YP := H.says) (N := 6568)
    (left_tree (by kernel_rfl) (by kernel_rfl) (fun _ => rfl) runA runB) H.of H.keeps (fun s e => xl_of s (Bool.and_eq_true_iff.mp e).1) XL.keeps hdef hp hk (fun s e => recFacts_of (Bool.and_eq_true_iff.mp e).2) rfl (row_said said) (by decide +kernel) ⟨rfl, rfl, rfl, rfl, rfl, by decide +kernel⟩ hw hc
end Mn
local macro_rules | `(tactic| o_law) => `(tactic| refine holds_law Mn.said fun said => ?_)
local macro_rules | `(tactic| o_head $H) => do
  let hw := Lean.mkIdent `hw
  let hc := Lean.mkIdent `hc
  `(tactic| refine Mn.head (H := $H) (fun w os => by kernel_rfl) (by rfl) (by rfl) (by rfl) ?$hw ?$hc)
open_top hd for PySem.Challenge.rw_nt0644_02
open PySem.Calls
set_option genInjectivity false
namespace Mn
/-! many facts, many witnesses at once -/
structure A3 (a1 a2 a3 : Prop) : Prop where
  h1 : a1
  h2 : a2
  h3 : a3
structure A4 (a1 a2 a3 a4 : Prop) : Prop where
  h1 : a1
  h2 : a2
  h3 : a3
  h4 : a4
structure A5 (a1 a2 a3 a4 a5 : Prop) : Prop where
  h1 : a1
  h2 : a2
  h3 : a3
  h4 : a4
  h5 : a5
structure A6 (a1 a2 a3 a4 a5 a6 : Prop) : Prop where
  h1 : a1
  h2 : a2
  h3 : a3
  h4 : a4
  h5 : a5
  h6 : a6
structure A7 (a1 a2 a3 a4 a5 a6 a7 : Prop) : Prop where
  h1 : a1
  h2 : a2
  h3 : a3
  h4 : a4
  h5 : a5
  h6 : a6
  h7 : a7
inductive X2 {α1 α2 : Type} (P : α1 → α2 → Prop) : Prop
  | mk (x1 : α1) (x2 : α2) (h : P x1 x2)
inductive X3 {α1 α2 α3 : Type} (P : α1 → α2 → α3 → Prop) : Prop
  | mk (x1 : α1) (x2 : α2) (x3 : α3) (h : P x1 x2 x3)
inductive X4 {α1 α2 α3 α4 : Type} (P : α1 → α2 → α3 → α4 → Prop) : Prop
  | mk (x1 : α1) (x2 : α2) (x3 : α3) (x4 : α4) (h : P x1 x2 x3 x4)
inductive X5 {α1 α2 α3 α4 α5 : Type} (P : α1 → α2 → α3 → α4 → α5 → Prop) : Prop
  | mk (x1 : α1) (x2 : α2) (x3 : α3) (x4 : α4) (x5 : α5) (h : P x1 x2 x3 x4 x5)

set_option genInjectivity true in
inductive V where
  | none | bool (b : Bool) | int (i : Int) | str (s : Str) | bytes (b : Array UInt8) | typ (n : String) | bi (n : String) | ref (a : Addr) | tup (l : List V)

noncomputable def IsTup (o : Obj) : Prop := o.cls = .type "tuple" ∧ ∃ vs n, o.data = .seq vs n
theorem notTup_cls {o : Obj} (h : o.cls ≠ .type "tuple") : ¬ IsTup o := fun x => h x.1
theorem notTup_dict {o : Obj} {es n} (h : o.data = .dict es n) : ¬ IsTup o := fun ⟨_, vs, k, e⟩ => by rw [h] at e; cases e
theorem notTup_cell {o : Obj} {v} (h : o.data = .cell v) : ¬ IsTup o := fun ⟨_, vs, k, e⟩ => by rw [h] at e; cases e

inductive VRel (h : Heap) : V → Value → Prop
  | none : VRel h .none .none
  | bool (b : Bool) : VRel h (.bool b) (.bool b)
  | int (i : Int) (t : Tok) : VRel h (.int i) (.int i t)
  | str (s : Str) (t : Tok) : VRel h (.str s) (.str s t)
  | bytes (b : Array UInt8) (t : Tok) : VRel h (.bytes b) (.bytes b t)
  | typ (n : String) : VRel h (.typ n) (.type n)
  | bi (n : String) : VRel h (.bi n) (.builtin n)
  | ref (a : Addr) : VRel h (.ref a) (.ref a)
  | tup' {l : List V} {a : Addr} {o : Obj} {vs : Array Value} {n : Nat} (ho : h.get? a = some o) (hc : o.cls = .type "tuple") (hd : o.data = .seq vs n) (hz : vs.toList.length = l.length)
      (hl : ∀ (i : Nat) v r, l[i]? = some v → vs.toList[i]? = some r → VRel h v r) : VRel h (.tup l) (.ref a)
inductive VsRel (h : Heap) : List V → List Value → Prop
  | nil : VsRel h [] []
  | cons {v : V} {r : Value} {vs : List V} {rs : List Value} (hv : VRel h v r) (hs : VsRel h vs rs) : VsRel h (v :: vs) (r :: rs)

section
variable {h h' : Heap}
theorem VsRel.length {vs : List V} {rs : List Value} (x : VsRel h vs rs) : rs.length = vs.length := by
  induction x with
  | nil => rfl
  | cons _ _ ih => exact congrArg (· + 1) ih
theorem VsRel.at' {vs : List V} {rs : List Value} (x : VsRel h vs rs) : ∀ (i : Nat) v r, vs[i]? = some v → rs[i]? = some r → VRel h v r := by
  induction x with
  | nil => intro i v r e; cases e
  | cons hv _ ih =>
    intro i v r e e'
    cases i with
    | zero => cases e; cases e'; exact hv
    | succ i => exact ih i v r e e'
theorem VsRel.of_at : ∀ {vs : List V} {rs : List Value}, rs.length = vs.length → (∀ (i : Nat) v r, vs[i]? = some v → rs[i]? = some r → VRel h v r) → VsRel h vs rs
  | [], rs, hz, _ => by
    cases rs with
    | nil => exact .nil
    | cons => cases hz
  | _ :: _, rs, hz, k => by
    cases rs with
    | nil => cases hz
    | cons => exact .cons (k 0 _ _ rfl rfl) (VsRel.of_at (Nat.succ.inj hz) fun i => k (i + 1))
theorem VRel.tup {l : List V} {a : Addr} {o : Obj} {vs : Array Value} {n : Nat} (ho : h.get? a = some o) (hc : o.cls = .type "tuple") (hd : o.data = .seq vs n) (hl : VsRel h l vs.toList) : VRel h (.tup l) (.ref a) := .tup' ho hc hd hl.length hl.at'
theorem VRel.mono (k : ∀ b o, h.get? b = some o → IsTup o → h'.get? b = some o) {v : V} {r : Value} (x : VRel h v r) : VRel h' v r := by
  induction x with
  | tup' ho hc hd hz _ ih => exact .tup' (k _ _ ho ⟨hc, _, _, hd⟩) hc hd hz ih
  | _ => constructor
theorem VsRel.mono (k : ∀ b o, h.get? b = some o → IsTup o → h'.get? b = some o) {v : List V} {r : List Value} (x : VsRel h v r) : VsRel h' v r := .of_at x.length fun i v r e e' => (x.at' i v r e e').mono k
/-! what a value is told by its kind -/
theorem VRel.int_inv {i r} (x : VRel h (.int i) r) : ∃ t, r = .int i t := by cases x; exact ⟨_, rfl⟩
theorem VRel.bool_inv {i r} (x : VRel h (.bool i) r) : r = .bool i := by cases x; rfl
theorem VRel.none_inv {r} (x : VRel h .none r) : r = .none := by cases x; rfl
theorem VRel.str_inv {i r} (x : VRel h (.str i) r) : ∃ t, r = .str i t := by cases x; exact ⟨_, rfl⟩
theorem VRel.bytes_inv {i r} (x : VRel h (.bytes i) r) : ∃ t, r = .bytes i t := by cases x; exact ⟨_, rfl⟩
theorem VRel.typ_inv {i r} (x : VRel h (.typ i) r) : r = .type i := by cases x; rfl
theorem VRel.bi_inv {i r} (x : VRel h (.bi i) r) : r = .builtin i := by cases x; rfl
theorem VRel.ref_inv {i r} (x : VRel h (.ref i) r) : r = .ref i := by cases x; rfl
inductive TupAt (h : Heap) (l : List V) : Value → Prop
  | mk (a : Addr) (vs : Array Value) (ht : h.IsTuple a vs) (hl : VsRel h l vs.toList) : TupAt h l (.ref a)
theorem VRel.tup_inv {l r} (x : VRel h (.tup l) r) : TupAt h l r := by
  cases x with
  | tup' ho hc hd hz hl => exact ⟨_, _, ⟨_, ho, hc, _, hd⟩, .of_at hz hl⟩
theorem VsRel.nil_inv {rs} (x : VsRel h [] rs) : rs = [] := by cases x; rfl
inductive ConsAt (h : Heap) (v : V) (vs : List V) : List Value → Prop
  | mk (r : Value) (rs : List Value) (hv : VRel h v r) (hs : VsRel h vs rs) : ConsAt h v vs (r :: rs)
theorem VsRel.cons_inv {v vs rs} (x : VsRel h (v :: vs) rs) : ConsAt h v vs rs := by
  cases x with
  | cons hv hs => exact ⟨_, _, hv, hs⟩
theorem VsRel.one {v rs} (x : VsRel h [v] rs) : ∃ r, rs = [r] ∧ VRel h v r := by
  obtain ⟨r, _, hv, hs⟩ := x.cons_inv
  rw [hs.nil_inv]; exact ⟨r, rfl, hv⟩
theorem VsRel.two {v w rs} (x : VsRel h [v, w] rs) : ∃ r q, rs = [r, q] ∧ VRel h v r ∧ VRel h w q := by
  obtain ⟨r, _, hv, hs⟩ := x.cons_inv
  obtain ⟨q, rfl, hw⟩ := hs.one
  exact ⟨r, q, rfl, hv, hw⟩
theorem VsRel.refI {a rs} (x : VsRel h [.ref a] rs) : rs = [.ref a] := by
  obtain ⟨r, rfl, hv⟩ := x.one
  rw [hv.ref_inv]
theorem VsRel.intI {a rs} (x : VsRel h [.int a] rs) : ∃ t, rs = [.int a t] := by
  obtain ⟨r, rfl, hv⟩ := x.one
  obtain ⟨t, rfl⟩ := hv.int_inv
  exact ⟨t, rfl⟩
theorem VsRel.int2 {a b rs} (x : VsRel h [.int a, .int b] rs) : ∃ t u, rs = [.int a t, .int b u] := by
  obtain ⟨r, q, rfl, hv, hw⟩ := x.two
  obtain ⟨t, rfl⟩ := hv.int_inv
  obtain ⟨u, rfl⟩ := hw.int_inv
  exact ⟨t, u, rfl⟩

theorem VsRel.append {vs : List V} {rs : List Value} {ws : List V} {ts : List Value} (x : VsRel h vs rs) (y : VsRel h ws ts) : VsRel h (vs ++ ws) (rs ++ ts) := by
  induction x with
  | nil => exact y
  | cons hv _ ih => exact .cons hv ih
theorem VsRel.get {vs : List V} {rs : List Value} {i : Nat} {v : V} (x : VsRel h vs rs) (e : vs[i]? = some v) : ∃ r, rs[i]? = some r ∧ VRel h v r := by
  have hi := (List.getElem?_eq_some_iff.mp e).1
  rw [← x.length] at hi
  exact ⟨_, List.getElem?_eq_getElem hi, x.at' i _ _ e (List.getElem?_eq_getElem hi)⟩
theorem VsRel.set {vs : List V} {rs : List Value} (i : Nat) {v : V} {r : Value} (x : VsRel h vs rs) (y : VRel h v r) : VsRel h (vs.set i v) (rs.set i r) := by
  induction x generalizing i with
  | nil => exact .nil
  | cons hv hs ih =>
    cases i with
    | zero => exact .cons y hs
    | succ i => exact .cons hv (ih i)
theorem VsRel.take {vs : List V} {rs : List Value} (i : Nat) (x : VsRel h vs rs) : VsRel h (vs.take i) (rs.take i) := by
  induction x generalizing i with
  | nil => rw [List.take_nil, List.take_nil]; exact .nil
  | cons hv hs ih =>
    cases i with
    | zero => exact .nil
    | succ i => exact .cons hv (ih i)
theorem VsRel.drop {vs : List V} {rs : List Value} (i : Nat) (x : VsRel h vs rs) : VsRel h (vs.drop i) (rs.drop i) := by
  induction x generalizing i with
  | nil => rw [List.drop_nil, List.drop_nil]; exact .nil
  | cons hv hs ih =>
    cases i with
    | zero => exact .cons hv hs
    | succ i => exact ih i
theorem VsRel.reverse {vs : List V} {rs : List Value} (x : VsRel h vs rs) : VsRel h vs.reverse rs.reverse := by
  induction x with
  | nil => exact .nil
  | cons hv _ ih => rw [List.reverse_cons, List.reverse_cons]; exact ih.append (.cons hv .nil)
end

/-! objects -/
set_option genInjectivity true in
inductive O where
  | inst (C : Addr) (fs : List (Str × V))
  | list (l : List V)
  | rlist (l : List V)
  | raw (o : Obj)

noncomputable abbrev MH := Addr → Option O
noncomputable abbrev Loc := Str → Option V
noncomputable def upd {α β : Type} [DecidableEq α] (f : α → Option β) (a : α) (b : β) : α → Option β := fun x => if x = a then some b else f x
@[simp] theorem upd_same {α β : Type} [DecidableEq α] (f : α → Option β) (a : α) (b : β) : upd f a b a = some b := by simp [upd]
theorem upd_ne {α β : Type} [DecidableEq α] (f : α → Option β) {a : α} (b : β) {x : α} (h : x ≠ a) : upd f a b x = f x := by simp [upd, h]
theorem upd_upd {α β : Type} [DecidableEq α] (f : α → Option β) (a : α) (b c : β) : upd (upd f a b) a c = upd f a c := by funext x; unfold upd; split <;> rfl
theorem upd_cases {α β : Type} [DecidableEq α] {f : α → Option β} {a x : α} {b y : β} {P : Prop} (e : upd f a b x = some y) (h1 : x = a → b = y → P) (h2 : x ≠ a → f x = some y → P) : P := by
  by_cases z : x = a
  · subst z; rw [upd_same] at e; exact h1 rfl (Option.some.inj e)
  · exact h2 z ((upd_ne f b z).symm.trans e)

inductive FsRel (h : Heap) : List (Str × V) → List DictEntry → Prop
  | nil : FsRel h [] []
  | cons {x : Str} {v : V} {e : DictEntry} {fs : List (Str × V)} {es : List DictEntry} (hk : ∃ t, e.key = .str x t) (hv : VRel h v e.val) (hs : FsRel h fs es) : FsRel h ((x, v) :: fs) (e :: es)
theorem FsRel.mono {h h' : Heap} (k : ∀ b o, h.get? b = some o → IsTup o → h'.get? b = some o) {fs es} (x : FsRel h fs es) : FsRel h' fs es := by
  induction x with
  | nil => exact .nil
  | cons hk hv _ ih => exact .cons hk (hv.mono k) ih

structure G where
  prog : Program
  w : World
  K : Frag
  base : Heap
  p : Program
  loose : List Str
  mg : Str → Option Value
  mb : Str → Option Value
  os : OsState
  cX : Addr
  inK : K.In base
  top : TopRead p loose mg mb base

noncomputable abbrev DM := Addr → Option Addr
inductive Own (σ : MH) (δ : DM) (b : Addr) : Prop
  | inst (C : Addr) (fs : List (Str × V)) (h : σ b = some (.inst C fs))
  | list (l : List V) (h : σ b = some (.list l))
  | dict (a : Addr) (h : δ b = some a)
inductive Dom (σ : MH) (δ : DM) (b : Addr) : Prop
  | obj (o : O) (h : σ b = some o)
  | dict (a : Addr) (h : δ b = some a)
theorem Own.dom {σ δ b} (x : Own σ δ b) : Dom σ δ b := by
  cases x with
  | inst C fs h => exact .obj _ h
  | list l h => exact .obj _ h
  | dict a h => exact .dict a h
inductive RepI (δ : DM) (h : Heap) (a C : Addr) (fs : List (Str × V)) : Prop
  | mk (ox : Obj) (d : Addr) (es : List DictEntry) (n : Nat) (h1 : h.get? a = some ox) (h2 : ox.cls = .ref C) (h3 : ox.data = .plain) (h4 : ox.dict = some d) (h5 : δ d = some a) (h6 : h.get? d = some (dictOf es n)) (h7 : FsRel h fs es)
inductive RepL (h : Heap) (a : Addr) (l : List V) : Prop
  | mk (vs : Array Value) (n : Nat) (h1 : h.get? a = some { cls := .type "list", data := .seq vs n }) (h2 : VsRel h l vs.toList)
inductive RepR (h : Heap) (a : Addr) (l : List V) : Prop
  | mk (o : Obj) (vs : Array Value) (n : Nat) (h1 : h.get? a = some o) (h2 : o.cls = .type "list") (h3 : o.data = .seq vs n) (h4 : VsRel h l vs.toList)
noncomputable def Rep (δ : DM) (h : Heap) (a : Addr) : O → Prop
  | .inst C fs => RepI δ h a C fs
  | .list l => RepL h a l
  | .rlist l => RepR h a l
  | .raw o => h.get? a = some o ∧ ¬ IsTup o

structure AuxOk (σ : MH) (h : Heap) (d a : Addr) : Prop where
  inst : ∃ C fs, σ a = some (.inst C fs)
  no : σ d = none
  at_ : ∃ ox, h.get? a = some ox ∧ ox.dict = some d
structure Sim (g : G) (σ : MH) (δ : DM) (h : Heap) : Prop where
  keep : ∀ b o, g.base.get? b = some o → h.get? b = some o
  rep : ∀ a o, σ a = some o → Rep δ h a o
  new : ∀ b, Own σ δ b → g.base.get? b = none
  aux : ∀ d a, δ d = some a → AuxOk σ h d a

noncomputable def frameAddrs (fl : List Env) : List Addr := fl.filterMap (·.frame)
noncomputable def Fl (fl : List Env) (b : Addr) : Prop := b ∈ frameAddrs fl

structure Evo (fl : List Env) (fa : List Addr) (σ : MH) (δ : DM) (h : Heap) (σ' : MH) (δ' : DM) (h' : Heap) : Prop where
  slots : ∀ b o, h.get? b = some o → ¬ Own σ δ b → b ∉ fa → Fl fl b → ∃ sl, h'.get? b = some { o with slots := sl }
  keep : ∀ b o, h.get? b = some o → ¬ Own σ δ b → b ∉ fa → ¬ Fl fl b → h'.get? b = some o
  own : ∀ b, Own σ' δ' b → Own σ δ b ∨ h.get? b = none
  dom : ∀ b, Dom σ' δ' b → Dom σ δ b ∨ h.get? b = none
  live : ∀ b o, h.get? b = some o → ∃ o', h'.get? b = some o'

/-- a frame above -/
inductive FrA (g : G) (σ : MH) (δ : DM) (h : Heap) (e : Env) : Prop
  | mk (hk : e.scope.kind ≠ .module) (L : Addr) (o : Obj) (es : Array DictEntry) (n : Nat) (h1 : e.frame = some L) (h2 : g.base.get? L = none) (h3 : ¬ Dom σ δ L) (h4 : h.get? L = some o) (h5 : o.data = .dict es n) (h6 : ¬ IsTup o) (h7 : StrKeys es)
structure FrOk (g : G) (σ : MH) (δ : DM) (h : Heap) (fl : List Env) : Prop where
  all : ∀ e ∈ fl, FrA g σ δ h e

/-- where a name of the frame lies -/
inductive Slot (env : Env) (h : Heap) (m : Str → Option Value) (x : Str) (v : V) : Prop
  | loc (hk : env.kindOf x = some .local) (rv : Value) (h1 : m x = some rv) (h2 : VRel h v rv)
  | cell (hk : env.kindOf x = some .cell ∨ env.kindOf x = some .free) (c : Addr) (rv : Value) (h1 : env.cells.lookup x = some c) (h2 : h.IsCell c (some rv)) (h3 : VRel h v rv)
inductive LocOk (env : Env) (l : Loc) (h : Heap) : Prop
  | mk (m : Str → Option Value) (hm : h.Ns env.locals m) (hl : ∀ x v, l x = some v → Slot env h m x v) (hc : ∀ x c, env.kindOf x = some .cell → env.cells.lookup x = some c → ∃ v0, h.IsCell c v0)

structure Frm where
  env : Env
  fa : List Addr
structure EnvOk (f : Frm) : Prop where
  kind : f.env.scope.kind = .function
  globals : f.env.globals = mainGlobals
  builtins : f.env.builtins = builtinsNs
  locals : f.env.locals ∈ f.fa
/-- the cells of a frame are its own -/
noncomputable def CellsOwn (f : Frm) : Prop := ∀ x, f.env.kindOf x = some .cell → ∃ c, f.env.cells.lookup x = some c ∧ c ∈ f.fa ∧ ∀ y, f.env.cells.lookup y = some c → y = x

structure Fx where
  g : G
  fl : List Env
  f : Frm
noncomputable abbrev Ev (φ : Fx) (σ : MH) (δ : DM) (h : Heap) (σ' : MH) (δ' : DM) (h' : Heap) : Prop := Evo φ.fl φ.f.fa σ δ h σ' δ' h'
structure FaOk (g : G) (σ : MH) (δ : DM) (h : Heap) (b : Addr) : Prop where
  base : g.base.get? b = none
  dom : ¬ Dom σ δ b
  at_ : ∃ o, h.get? b = some o ∧ ¬ IsTup o
structure FS (φ : Fx) (l : Loc) (σ : MH) (δ : DM) (s : Shared) : Prop where
  sim : Sim φ.g σ δ s.heap
  envOk : EnvOk φ.f
  loc : LocOk φ.f.env l s.heap
  fa : ∀ b ∈ φ.f.fa, FaOk φ.g σ δ s.heap b
  fr : FrOk φ.g σ δ s.heap φ.fl
  gens : s.gens = #[]
  os : s.os = φ.g.os
structure CS (g : G) (fl : List Env) (σ : MH) (δ : DM) (s : Shared) : Prop where
  sim : Sim g σ δ s.heap
  fr : FrOk g σ δ s.heap fl
  gens : s.gens = #[]
  os : s.os = g.os
theorem FS.cs {φ l σ δ s} (x : FS φ l σ δ s) : CS φ.g φ.fl σ δ s := ⟨x.sim, x.fr, x.gens, x.os⟩

structure Good0 (d : Nat) (A : Around) (fl : List Env) : Prop where
  frames : A.frames = some fl
  handled : A.handled = none
  depth : A.depth + d ≤ 900
  units : A.units + 10 * d ≤ 9000
theorem Good0.le {d d' A fl} (x : Good0 d A fl) (h : d' ≤ d) : Good0 d' A fl := ⟨x.frames, x.handled, by have := x.depth; lia, by have := x.units; lia⟩

theorem Evo.refl (fl fa σ δ h) : Evo fl fa σ δ h σ δ h := ⟨fun _ o e _ _ _ => ⟨o.slots, e⟩, fun _ _ e _ _ _ => e, fun _ x => .inl x, fun _ x => .inl x, fun _ o e => ⟨o, e⟩⟩
theorem isNone_of {α : Type} {x : Option α} (h : ∀ y, x = some y → False) : x = none := by
  cases x with
  | none => rfl
  | some y => exact (h y rfl).elim
theorem some_not_none {α : Type} {x : Option α} {y : α} {P : Prop} (h : x = some y) (e : x = none) : P := by rw [e] at h; cases h
section
variable {fl : List Env} {fa : List Addr} {σ σ' σ'' : MH} {δ δ' δ'' : DM} {h h' h'' : Heap}
theorem Evo.none_of (x : Evo fl fa σ δ h σ' δ' h') {b : Addr} (e : h'.get? b = none) : h.get? b = none := isNone_of fun o q => by
  obtain ⟨o', h1⟩ := x.live b o q
  exact some_not_none h1 e
theorem Evo.notOwn (x : Evo fl fa σ δ h σ' δ' h') {b : Addr} {o : Obj} (e : h.get? b = some o) (n : ¬ Own σ δ b) : ¬ Own σ' δ' b := fun q => (x.own b q).elim n (some_not_none e)
theorem Evo.notDom (x : Evo fl fa σ δ h σ' δ' h') {b : Addr} {o : Obj} (e : h.get? b = some o) (n : ¬ Dom σ δ b) : ¬ Dom σ' δ' b := fun q => (x.dom b q).elim n (some_not_none e)
theorem Evo.trans (x : Evo fl fa σ δ h σ' δ' h') (y : Evo fl fa σ' δ' h' σ'' δ'' h'') : Evo fl fa σ δ h σ'' δ'' h'' where
  slots b o e n q r := by
    obtain ⟨sl, e'⟩ := x.slots b o e n q r
    obtain ⟨sl', e''⟩ := y.slots b _ e' (x.notOwn e n) q r
    exact ⟨sl', e''⟩
  keep b o e n q r := y.keep b o (x.keep b o e n q r) (x.notOwn e n) q r
  own b z := (y.own b z).elim (x.own b) fun z => .inr (x.none_of z)
  dom b z := (y.dom b z).elim (x.dom b) fun z => .inr (x.none_of z)
  live b o e := by obtain ⟨o', e'⟩ := x.live b o e; exact y.live b o' e'
end
theorem Ev.trans {φ : Fx} {σ σ' σ'' : MH} {δ δ' δ'' : DM} {h h' h'' : Heap} (x : Ev φ σ δ h σ' δ' h') (y : Ev φ σ' δ' h' σ'' δ'' h'') : Ev φ σ δ h σ'' δ'' h'' := Evo.trans x y
theorem Ev.refl (φ σ δ h) : Ev φ σ δ h σ δ h := Evo.refl ..

theorem type_ne {a b : String} (h : a ≠ b) : (Value.type a) ≠ .type b := fun e => h (Value.type.inj e)
/-- an own object as it lies in the heap -/
inductive OwnAt (h : Heap) (b : Addr) : Prop
  | mk (o : Obj) (h1 : h.get? b = some o) (h2 : ¬ IsTup o) (h3 : ∀ v, o.data ≠ .cell v)
theorem RepI.plain {δ h a C fs} (x : RepI δ h a C fs) : OwnAt h a := by
  obtain ⟨ox, d, es, n, h1, h2, h3, _⟩ := x
  exact ⟨ox, h1, notTup_cls (by rw [h2]; exact fun z => nomatch z), fun v z => by rw [h3] at z; cases z⟩
theorem Sim.ownAt {g : G} {σ δ h} (S : Sim g σ δ h) {b : Addr} (q : Own σ δ b) : OwnAt h b := by
  cases q with
  | inst C fs q => exact RepI.plain (S.rep _ _ q)
  | list l q =>
    obtain ⟨vs, n, h1, _⟩ := S.rep _ _ q
    exact ⟨_, h1, notTup_cls (type_ne (by decide)), fun v z => nomatch z⟩
  | dict a q =>
    obtain ⟨⟨C, fs, q1⟩, _, ox', h7, h8⟩ := S.aux _ _ q
    obtain ⟨ox, d, es, n, h1, _, _, h4, h5, h6, _⟩ := S.rep _ _ q1
    rw [h7] at h1; cases h1
    rw [h8] at h4; cases h4
    exact ⟨_, h6, notTup_dict rfl, fun v z => nomatch z⟩
inductive FlAt (g : G) (σ : MH) (δ : DM) (h : Heap) (b : Addr) : Prop
  | mk (h1 : g.base.get? b = none) (h2 : ¬ Dom σ δ b) (o : Obj) (es : Array DictEntry) (n : Nat) (h3 : h.get? b = some o) (h4 : o.data = .dict es n) (h5 : ¬ IsTup o)
theorem FrOk.at {g : G} {σ δ h fl} (x : FrOk g σ δ h fl) {b : Addr} (q : Fl fl b) : FlAt g σ δ h b := by
  obtain ⟨env, he, hf⟩ := List.mem_filterMap.mp q
  obtain ⟨_, L, o', es, n, h1, h2, h3, h4, h5, h6, _⟩ := x.all env he
  rw [hf] at h1; cases h1
  exact ⟨h2, h3, o', es, n, h4, h5, h6⟩
/-- tuples stay -/
theorem Evo.tups {g : G} {fl fa σ δ h σ' δ' h'} (x : Evo fl fa σ δ h σ' δ' h') (S : Sim g σ δ h) (FA : ∀ b ∈ fa, ∃ o, h.get? b = some o ∧ ¬ IsTup o) (FR : FrOk g σ δ h fl) :
    ∀ b o, h.get? b = some o → IsTup o → h'.get? b = some o := fun b o e c => by
  refine x.keep b o e (fun q => ?_) (fun q => ?_) fun q => ?_
  · obtain ⟨o', h1, h2, _⟩ := S.ownAt q; rw [e] at h1; cases h1; exact h2 c
  · obtain ⟨o', h1, h2⟩ := FA b q; rw [e] at h1; cases h1; exact h2 c
  · obtain ⟨_, _, o', _, _, h1, _, h2⟩ := FR.at q; rw [e] at h1; cases h1; exact h2 c
section
variable {φ : Fx} {l : Loc} {σ σ' : MH} {δ δ' : DM} {s : Shared} {h' : Heap}
theorem FS.tups (F : FS φ l σ δ s) (x : Ev φ σ δ s.heap σ' δ' h') : ∀ b o, s.heap.get? b = some o → IsTup o → h'.get? b = some o := Evo.tups x F.sim (fun b q => (F.fa b q).at_) F.fr
theorem VRel.evo {v r} (F : FS φ l σ δ s) (x : Ev φ σ δ s.heap σ' δ' h') (y : VRel s.heap v r) : VRel h' v r := y.mono (F.tups x)
theorem VsRel.evo {v r} (F : FS φ l σ δ s) (x : Ev φ σ δ s.heap σ' δ' h') (y : VsRel s.heap v r) : VsRel h' v r := y.mono (F.tups x)
theorem FS.toks {h : Heap} {gs d t os} (F : FS φ l σ δ ⟨h, gs, d, t, os⟩) (t' : Nat) : FS φ l σ δ ⟨h, gs, d, t', os⟩ := ⟨F.sim, F.envOk, F.loc, F.fa, F.fr, F.gens, F.os⟩
theorem FS.tk (F : FS φ l σ δ s) (t' : Nat) : FS φ l σ δ { s with toks := t' } := F.toks t'
end

/-! exceptions: an instance of the one own class, on its way -/
structure ZOk (g : G) (fl : List Env) (fa : List Addr) (h : Heap) (σ' : MH) (δ' : DM) (hr : Heap) (z : Addr) : Prop where
  whose : Fl fl z ∨ h.get? z = none ∨ z ∈ fa
  base : g.base.get? z = none
  dom : ¬ Dom σ' δ' z
  nt : ∀ o, hr.get? z = some o → ¬ IsTup o
inductive ExcAt (g : G) (B : Heap) (ea : Addr) (h' : Heap) : Prop
  | plain (a0 : Value) (oe : Obj) (vs : Array Value) (h1 : h'.get? ea = some oe) (h2 : oe.cls = .ref g.cX) (h3 : oe.data = .fields vs) (h4 : vs[0]? = some a0) (h5 : vs[1]? = some .none)
  | traced (a0 : Value) (h : h'.TracedW B ea (.ref g.cX) a0)
structure FliesAt (g : G) (fl : List Env) (fa : List Addr) (σ : MH) (δ : DM) (h : Heap) (ea : Addr) (σ' : MH) (δ' : DM) (hr B : Heap) (Z : List Addr) (h' : Heap) : Prop where
  sim : Sim g σ' δ' hr
  fr : FrOk g σ' δ' hr fl
  evo : Evo fl fa σ δ h σ' δ' hr
  inB : ∀ b o, hr.get? b = some o → b ∉ Z → B.get? b = some o
  ofB : ∀ b o, B.get? b = some o → hr.get? b = some o
  zs : ∀ z ∈ Z, ZOk g fl fa h σ' δ' hr z
  flZ : ∀ z, Fl fl z → z ∈ Z
  outB : ∀ z ∈ Z, B.get? z = none
  stays : B.StaysIn h'
  upto : hr.UpToSlots h'
  fresh : B.get? ea = none
  exc : ExcAt g B ea h'
inductive Flies (g : G) (fl : List Env) (fa : List Addr) (σ : MH) (δ : DM) (h : Heap) (X : MH → Prop) (ev : Value) (s' : Shared) : Prop
  | mk (ea : Addr) (σ' : MH) (δ' : DM) (hr B : Heap) (Z : List Addr) (he : ev = .ref ea) (hX : X σ') (at_ : FliesAt g fl fa σ δ h ea σ' δ' hr B Z s'.heap) (hg : s'.gens = #[]) (ho : s'.os = g.os)
section
variable {g : G} {fl : List Env} {fa : List Addr} {σ σ1 : MH} {δ δ1 : DM} {h h1 : Heap} {X X' : MH → Prop} {ev : Value} {s' : Shared}
theorem Flies.mono (k : ∀ σ, X σ → X' σ) (x : Flies g fl fa σ δ h X ev s') : Flies g fl fa σ δ h X' ev s' := by
  obtain ⟨ea, σ', δ', hr, B, Z, e, x, r, a, b⟩ := x
  exact ⟨ea, σ', δ', hr, B, Z, e, k _ x, r, a, b⟩
theorem Flies.trans (E : Evo fl fa σ δ h σ1 δ1 h1) (x : Flies g fl fa σ1 δ1 h1 X ev s') : Flies g fl fa σ δ h X ev s' := by
  obtain ⟨ea, σ', δ', hr, B, Z, e, x, y, a, b⟩ := x
  refine ⟨ea, σ', δ', hr, B, Z, e, x, { y with evo := E.trans y.evo, zs := fun z hz => ?_ }, a, b⟩
  have k := y.zs z hz
  exact { k with whose := k.whose.elim .inl fun a => .inr (a.elim (fun a => .inl (E.none_of a)) .inr) }
end
noncomputable def noX : MH → Prop := fun _ => False
theorem Flies.no {g : G} {fl fa σ δ h ev s'} {P : Prop} (x : Flies g fl fa σ δ h noX ev s') : P := by
  obtain ⟨_, _, _, _, _, _, _, x, _⟩ := x
  exact x.elim

/-! judgements -/
structure Cx where
  φ : Fx
  d : Nat
  X : MH → Prop
noncomputable abbrev Cx.nx (κ : Cx) : Cx := ⟨κ.φ, κ.d, noX⟩
noncomputable abbrev Cx.fl (κ : Cx) : List Env := κ.φ.fl
noncomputable abbrev Cx.f (κ : Cx) : Frm := κ.φ.f
noncomputable abbrev Cx.g (κ : Cx) : G := κ.φ.g
noncomputable abbrev Good (κ : Cx) (A : Around) : Prop := Good0 κ.d A κ.φ.fl
noncomputable abbrev FlX (κ : Cx) (σ : MH) (δ : DM) (h : Heap) (ev : Value) (s' : Shared) : Prop := Flies κ.φ.g κ.φ.fl κ.φ.f.fa σ δ h κ.X ev s'
section
variable {α β α' β' : Type}
inductive Ok (R : Heap → β → α → Prop) (φ : Fx) (σ : MH) (δ : DM) (h : Heap) (Q : β → Loc → MH → Prop) (a : α) (s' : Shared) : Prop
  | mk (b : β) (l' : Loc) (σ' : MH) (δ' : DM) (r : R s'.heap b a) (F : FS φ l' σ' δ' s') (E : Ev φ σ δ h σ' δ' s'.heap) (q : Q b l' σ')
noncomputable def At (R : Heap → β → α → Prop) (κ : Cx) (A : Around) (t : Sem α) (Q : β → Loc → MH → Prop) (σ : MH) (δ : DM) (s : Shared) : Prop :=
  wpAny (model κ.φ.g.prog κ.φ.g.w) A t (Ok R κ.φ σ δ s.heap Q) (FlX κ σ δ s.heap) s

variable {κ : Cx} {A : Around} {σ : MH} {δ : DM} {s : Shared} {R : Heap → β → α → Prop} {R' : Heap → β' → α' → Prop}

theorem At.bind {t : Sem α} {k : α → Sem α'} {Q : β → Loc → MH → Prop} {Q' : β' → Loc → MH → Prop} (h : At R κ A t Q σ δ s)
    (hk : ∀ b a l1 σ1 δ1 s1, R s1.heap b a → FS κ.φ l1 σ1 δ1 s1 → Ev κ.φ σ δ s.heap σ1 δ1 s1.heap → Q b l1 σ1 → At R' κ A (k a) Q' σ1 δ1 s1) : At R' κ A (t >>= k) Q' σ δ s :=
  wpAny_bind (wpAny_mono h (fun a s1 ⟨b, l1, σ1, δ1, hR, F, E, q⟩ => wpAny_mono (hk b a l1 σ1 δ1 s1 hR F E q) (fun a' s2 ⟨b', l2, σ2, δ2, hR', F', E', q'⟩ => ⟨b', l2, σ2, δ2, hR', F', E.trans E', q'⟩) fun _ _ e => e.trans E) fun _ _ e => e)
theorem At.mono {t : Sem α} {Q Q' : β → Loc → MH → Prop} (h : At R κ A t Q σ δ s) (k : ∀ b l σ, Q b l σ → Q' b l σ) : At R κ A t Q' σ δ s :=
  wpAny_mono h (fun _ _ ⟨b, l1, σ1, δ1, hR, F, E, q⟩ => ⟨b, l1, σ1, δ1, hR, F, E, k _ _ _ q⟩) fun _ _ e => e
theorem Ok.here {φ : Fx} {l : Loc} {Q : β → Loc → MH → Prop} {a : α} {b : β} (F : FS φ l σ δ s) (hR : R s.heap b a) (q : Q b l σ) : Ok R φ σ δ s.heap Q a s := ⟨b, l, σ, δ, hR, F, Ev.refl .., q⟩
theorem Ok.tok {φ : Fx} {l : Loc} {Q : β → Loc → MH → Prop} {a : α} {b : β} {h : Heap} {gs d t os t'} (F : FS φ l σ δ ⟨h, gs, d, t, os⟩) (hR : R h b a) (q : Q b l σ) : Ok R φ σ δ h Q a ⟨h, gs, d, t', os⟩ :=
  ⟨b, l, σ, δ, hR, F.toks t', Ev.refl .., q⟩
theorem At.pure {l : Loc} {Q : β → Loc → MH → Prop} {a : α} {b : β} (F : FS κ.φ l σ δ s) (hR : R s.heap b a) (q : Q b l σ) : At R κ A (pure a) Q σ δ s := wpAny_pure (Ok.here F hR q)
theorem At.standAt {t : Unit → Sem α} {pos : Pos} {Q : β → Loc → MH → Prop} (h : At R κ A (t ()) Q σ δ s) : At R κ A (standAt pos >>= t) Q σ δ s := wpAny_bind (wpAny_standAt h)
theorem At.holding {t : Sem α} {vs : List Value} {Q : β → Loc → MH → Prop} (h : At R κ A t Q σ δ s) : At R κ A (holding vs t) Q σ δ s := wpAny_holding h
theorem At.operate {t : Sem Value} {R : Heap → β → Value → Prop} {vs : List Value} {Q : β → Loc → MH → Prop} (h : At R κ A t Q σ δ s) : At R κ A (operate vs t) Q σ δ s := wpAny_operating h
end

noncomputable def WE (κ : Cx) (e : PySem.Expr) (Q : V → Loc → MH → Prop) (l : Loc) (σ : MH) : Prop :=
  ∀ A s δ, Good κ A → FS κ.φ l σ δ s → At VRel κ A (eval e κ.φ.f.env) Q σ δ s

end Mn
set_option genInjectivity false
namespace Mn
open PySem.SeqAt

/-! a step on values that leaves the names alone -/
noncomputable def PV (κ : Cx) (t : List Value → Sem Value) (vs : List V) (Q : V → MH → Prop) (σ : MH) : Prop :=
  ∀ A s δ l rs, Good κ A → FS κ.φ l σ δ s → VsRel s.heap vs rs → At VRel κ A (t rs) (fun v l' σ' => l' = l ∧ Q v σ') σ δ s
noncomputable def t1 (k : Value → Sem Value) (rs : List Value) : Sem Value := k (rs.getD 0 .none)
noncomputable def t2 (k : Value → Value → Sem Value) (rs : List Value) : Sem Value := k (rs.getD 0 .none) (rs.getD 1 .none)
section
variable {κ : Cx} {l : Loc} {σ : MH} {δ : DM} {A : Around} {s : Shared} {Q : V → MH → Prop}
theorem PV.run {t vs rs} {Q : V → Loc → MH → Prop} (h : PV κ t vs (fun v σ' => Q v l σ') σ) (G : Good κ A) (F : FS κ.φ l σ δ s) (hv : VsRel s.heap vs rs) : At VRel κ A (t rs) Q σ δ s :=
  (h A s δ l rs G F hv).mono fun _ _ _ ⟨e, q⟩ => e ▸ q
theorem PV.mono {t vs} {Q' : V → MH → Prop} (h : PV κ t vs Q σ) (k : ∀ v σ, Q v σ → Q' v σ) : PV κ t vs Q' σ := fun A s δ l rs G F hv => (h A s δ l rs G F hv).mono fun _ _ _ ⟨e, q⟩ => ⟨e, k _ _ q⟩
/-- what gives a value and changes nothing -/
theorem PV.ret {t vs v} (h : ∀ (A : Around) (s : Shared) (rs : List Value), Good κ A → VsRel s.heap vs rs → ∀ (P : Value → Shared → Prop) E, (∀ r tk, VRel s.heap v r → P r { s with toks := tk }) → wpAny (model κ.φ.g.prog κ.φ.g.w) A (t rs) P E s)
    (q : Q v σ) : PV κ t vs Q σ := fun A s δ l rs G F hv => h A s rs G hv _ _ fun r tk hr => ⟨v, l, σ, δ, hr, F.tk tk, Ev.refl .., rfl, q⟩
end

section
variable {κ : Cx} {l : Loc} {σ : MH} {Q : V → Loc → MH → Prop}
theorem FS.inK {φ l σ δ s} (F : FS φ l σ δ s) : φ.g.K.In s.heap := φ.g.inK.keeps F.sim.keep
theorem FS.top {φ l σ δ s} (F : FS φ l σ δ s) : TopRead φ.g.p φ.g.loose φ.g.mg φ.g.mb s.heap := φ.g.top.keeps F.sim.keep

theorem WE.cInt {i k pos} (h : Q (.int i) l σ) : WE κ (.Constant (.int i) k pos) Q l σ := fun _ _ _ _ F => wpAny_mkInt (Ok.tok F (.int ..) h)
theorem WE.cBytes {x k pos} (h : Q (.bytes x.toArray) l σ) : WE κ (.Constant (.bytes x) k pos) Q l σ := fun _ _ _ _ F => wpAny_mkTextBytes (Ok.tok F (.bytes ..) h)
theorem WE.cNone {k pos} (h : Q .none l σ) : WE κ (.Constant .none k pos) Q l σ := fun _ _ _ _ F => wpAny_pure (Ok.here F .none h)
theorem WE.cBool {b k pos} (h : Q (.bool b) l σ) : WE κ (.Constant (.bool b) k pos) Q l σ := fun _ _ _ _ F => wpAny_pure (Ok.here F (.bool b) h)

theorem load_loc {A s δ x v} (F : FS κ.φ l σ δ s) (hv : l x = some v) (h : Q v l σ) (hn : (x == ("__classdict__" : Str)) = false) : At VRel κ A (loadName κ.φ.f.env x) Q σ δ s := by
  obtain ⟨m, hm, hl, _⟩ := F.loc
  cases hl x v hv with
  | loc hk rv h1 h2 => exact wpAny_loadName_local F.envOk.kind hk hm h1 (Ok.here F h2 h)
  | cell hk c rv h1 h2 h3 =>
    rcases hk with hk | hk
    · exact wpAny_loadName_cell F.envOk.kind hk h1 h2 (Ok.here F h3 h)
    · exact wpAny_loadName_free F.envOk.kind hk h1 h2 (Ok.here F h3 h) hn
theorem WE.loc {x pos v} (hv : l x = some v) (h : Q v l σ) (hd : (x == ("__debug__" : Str)) = false) (hn : (x == ("__classdict__" : Str)) = false) : WE κ (.Name x pos) Q l σ := fun _ _ _ _ F =>
  wpAny_Name (load_loc F hv h hn) hd
theorem WE.glob {x pos v rv} (e : nsIn κ.φ.g.K mainGlobals x = some (some rv)) (hx : κ.φ.f.env.kindOf x = some .globalImplicit) (hv : ∀ h, VRel h v rv) (h : Q v l σ) (hd : (x == ("__debug__" : Str)) = false) : WE κ (.Name x pos) Q l σ :=
  fun _ _ _ _ F => Name_function_global F.envOk.kind hx (loadGlobal_global (by rw [F.envOk.globals]; exact F.top.g) (mg_of κ.φ.g.inK κ.φ.g.top.g e) (Ok.here F (hv _) h)) hd
theorem WE.builtin {x pos v rv} (e : nsIn κ.φ.g.K mainGlobals x = some none) (hb : bootBuiltins x = some rv) (hx : κ.φ.f.env.kindOf x = some .globalImplicit) (hv : ∀ h, VRel h v rv) (h : Q v l σ) (hnm : x ≠ "__name__") (hd : (x == ("__debug__" : Str)) = false) :
    WE κ (.Name x pos) Q l σ := fun _ _ _ _ F =>
  Name_function_global F.envOk.kind hx (loadGlobal_builtin (by rw [F.envOk.globals]; exact F.top.g) (mg_none_of κ.φ.g.inK κ.φ.g.top.g e) (by rw [F.envOk.builtins]; exact F.top.b) ((F.top.builtins x hnm).trans hb) (Ok.here F (hv _) h)) hd

theorem WE.binop {e1 e2 op p} (h : WE κ e1 (fun a l1 σ1 => WE κ e2 (fun b l2 σ2 => PV κ (t2 (binaryOp op)) [a, b] (fun v σ3 => Q v l2 σ3) σ2) l1 σ1) l σ) : WE κ (.BinOp e1 op e2 p) Q l σ := fun A s δ G F => by
  rw [eval_BinOp]
  exact At.bind (h A s δ G F) fun a ra l1 σ1 δ1 s1 hR F1 E1 q1 => At.bind (At.holding (q1 A s1 δ1 G F1)) fun b rb l2 σ2 δ2 s2 hR2 F2 E2 q2 => At.standAt (At.operate (q2.run G F2 (.cons (hR.evo F1 E2) (.cons hR2 .nil))))
theorem WE.unop {op e p} (h : WE κ e (fun a l1 σ1 => PV κ (t1 (unaryOp op)) [a] (fun v σ2 => Q v l1 σ2) σ1) l σ) : WE κ (.UnaryOp op e p) Q l σ := fun A s δ G F => by
  show At VRel κ A (do let v ← eval e κ.φ.f.env; standAt p; holding [v] (unaryOp op v)) Q σ δ s
  exact At.bind (h A s δ G F) fun a ra l1 σ1 δ1 s1 hR F1 E1 q1 => At.standAt (At.holding (q1.run G F1 (.cons hR .nil)))
end

/-! numbers -/
section
variable {κ : Cx} {σ : MH} {Q : V → MH → Prop}
theorem PV.ii {k : Value → Value → Sem Value} {a b : Int} {v : V} (h : ∀ {A : Around} {s : Shared} {t u P E}, (∀ r tk, VRel s.heap v r → P r { s with toks := tk }) → wpAny (model κ.φ.g.prog κ.φ.g.w) A (k (.int a t) (.int b u)) P E s) (q : Q v σ) : PV κ (t2 k) [.int a, .int b] Q σ :=
  .ret (fun A s rs _ hv P E hP => by obtain ⟨t, u, rfl⟩ := hv.int2; exact h hP) q
theorem PV.add {a b : Int} (h : Q (.int (a + b)) σ) : PV κ (t2 (binaryOp .Add)) [.int a, .int b] Q σ := .ii (fun hP => add_int (hP _ _ (.int ..))) h
theorem PV.sub {a b : Int} (h : Q (.int (a - b)) σ) : PV κ (t2 (binaryOp .Sub)) [.int a, .int b] Q σ := .ii (fun hP => sub_int (hP _ _ (.int ..))) h
theorem PV.mul {a b : Int} (hm : IntMulOk a b) (h : Q (.int (a * b)) σ) : PV κ (t2 (binaryOp .Mult)) [.int a, .int b] Q σ := .ii (fun hP => mul_int (hP _ _ (.int ..)) hm) h
theorem small_div {x y : Int} (h : y.natAbs < 2 ^ 64) : Builtin.divisionGoesByPylong x y = false := by
  refine PyProof.noPylong_of_log2 ?_
  by_cases h0 : y.natAbs = 0
  · rw [h0]; decide +kernel
  · have h30 : y.natAbs.log2 < 64 := (Nat.log2_lt h0).mpr h
    lia
theorem PV.div {a b : Int} (hb : b ≠ 0) (hs : b.natAbs < 2 ^ 64) (h : Q (.int (a.fdiv b)) σ) : PV κ (t2 (binaryOp .FloorDiv)) [.int a, .int b] Q σ := .ii (fun hP => floordiv_int hb (hP _ _ (.int ..)) (.inl (small_div hs))) h
theorem PV.mod {a b : Int} (hb : b ≠ 0) (h : Q (.int (a.fmod b)) σ) : PV κ (t2 (binaryOp .Mod)) [.int a, .int b] Q σ := .ii (fun hP => mod_int' hb (hP _ _ (.int ..))) h
theorem PV.band {a b : Int} (h : Q (.int (Builtin.bitAnd a b)) σ) : PV κ (t2 (binaryOp .BitAnd)) [.int a, .int b] Q σ := .ii (fun hP => and_int (hP _ _ (.int ..))) h
theorem PV.bor {a b : Int} (h : Q (.int (Builtin.bitOr a b)) σ) : PV κ (t2 (binaryOp .BitOr)) [.int a, .int b] Q σ := .ii (fun hP => or_int (hP _ _ (.int ..))) h
theorem PV.bxor {a b : Int} (h : Q (.int (Builtin.bitXor a b)) σ) : PV κ (t2 (binaryOp .BitXor)) [.int a, .int b] Q σ := .ii (fun hP => xor_int (hP _ _ (.int ..))) h
theorem PV.shl {a n : Int} (hn : 0 ≤ n) (hn2 : n ≤ 1000000) (ha : a.natAbs < 2 ^ 64) (h : Q (.int (a * 2 ^ n.toNat)) σ) : PV κ (t2 (binaryOp .LShift)) [.int a, .int n] Q σ := .ii (fun hP => lshift_int_small hn hn2 ha (hP _ _ (.int ..))) h
theorem PV.shr {a n : Int} (hn : 0 ≤ n) (h : Q (.int (a.fdiv (2 ^ n.toNat))) σ) : PV κ (t2 (binaryOp .RShift)) [.int a, .int n] Q σ := .ii (fun hP => rshift_int hn (hP _ _ (.int ..))) h
theorem PV.pow {a n : Int} (hn : 0 ≤ n) (hsz : (Builtin.Int.intBits a : Int) * n ≤ 2 ^ 27) (h : Q (.int (a ^ n.toNat)) σ) : PV κ (t2 (binaryOp .Pow)) [.int a, .int n] Q σ := .ii (fun hP => pow_int hn hsz (hP _ _ (.int ..))) h
theorem PV.iadd {a b : Int} (h : Q (.int (a + b)) σ) : PV κ (t2 (inplaceOp .Add)) [.int a, .int b] Q σ := .ii (fun hP => iadd_int (hP _ _ (.int ..))) h
theorem PV.isub {a b : Int} (h : Q (.int (a - b)) σ) : PV κ (t2 (inplaceOp .Sub)) [.int a, .int b] Q σ := .ii (fun hP => isub_int (hP _ _ (.int ..))) h
theorem PV.imul {a b : Int} (hm : IntMulOk a b) (h : Q (.int (a * b)) σ) : PV κ (t2 (inplaceOp .Mult)) [.int a, .int b] Q σ := .ii (fun hP => imul_int (hP _ _ (.int ..)) hm) h
theorem PV.lt {a b : Int} (h : Q (.bool (decide (a < b))) σ) : PV κ (t2 (compareOp .Lt)) [.int a, .int b] Q σ := .ii (fun hP => lt_int (hP _ _ (.bool _))) h
theorem PV.le {a b : Int} (h : Q (.bool (decide (a ≤ b))) σ) : PV κ (t2 (compareOp .LtE)) [.int a, .int b] Q σ := .ii (fun hP => le_int (hP _ _ (.bool _))) h
theorem PV.gt {a b : Int} (h : Q (.bool (decide (b < a))) σ) : PV κ (t2 (compareOp .Gt)) [.int a, .int b] Q σ := .ii (fun hP => gt_int (hP _ _ (.bool _))) h
theorem PV.ge {a b : Int} (h : Q (.bool (decide (b ≤ a))) σ) : PV κ (t2 (compareOp .GtE)) [.int a, .int b] Q σ := .ii (fun hP => ge_int (hP _ _ (.bool _))) h
theorem PV.ne {a b : Int} (h : Q (.bool (!decide (a = b))) σ) : PV κ (t2 (compareOp .NotEq)) [.int a, .int b] Q σ := .ii (fun hP => ne_int (hP _ _ (by rw [show (a != b) = !decide (a = b) from rfl]; exact .bool _))) h
theorem PV.neg {a : Int} (h : Q (.int (-a)) σ) : PV κ (t1 (unaryOp .USub)) [.int a] Q σ := .ret (fun A s rs _ hv P E hP => by obtain ⟨t, rfl⟩ := hv.intI; exact neg_int (hP _ _ (.int ..))) h
theorem PV.not {b : Bool} (h : Q (.bool (!b)) σ) : PV κ (t1 (unaryOp .Not)) [.bool b] Q σ := .ret (fun A s rs _ hv P E hP => by
  obtain ⟨r, rfl, hr⟩ := hv.one
  rw [hr.bool_inv]
  exact not_of (wpAny_truthy_bool (hP _ s.toks (.bool _)))) h
end
end Mn
set_option genInjectivity false
namespace Mn
open PySem.SeqAt

/-! equality -/
open Classical in
noncomputable def veq (a b : V) : Bool := decide (a = b)
theorem veq_iff {a b : V} : veq a b = true ↔ a = b := by unfold veq; exact @decide_eq_true_iff _ (Classical.propDecidable _)
theorem veq_dec {a b : V} {p : Prop} [Decidable p] (h : a = b ↔ p) : veq a b = decide p := by rw [Bool.eq_iff_iff, veq_iff, decide_eq_true_iff]; exact h
/-- the pairs that are compared (to a depth) -/
inductive Cq : Nat → V → V → Prop
  | nn {n} : Cq n .none .none
  | bb {n} (a b) : Cq n (.bool a) (.bool b)
  | ii {n} (a b) : Cq n (.int a) (.int b)
  | ss {n} (a b) : Cq n (.str a) (.str b)
  | yy {n} (a b) : Cq n (.bytes a) (.bytes b)
  | iy {n} (a b) : Cq n (.int a) (.bytes b)
  | yi {n} (a b) : Cq n (.bytes a) (.int b)
  | tt {n a b} (h : ∀ (i : Nat) x y, a[i]? = some x → b[i]? = some y → Cq n x y) : Cq (n + 1) (.tup a) (.tup b)
noncomputable def CqL (n : Nat) (a b : List V) : Prop := ∀ (i : Nat) x y, a[i]? = some x → b[i]? = some y → Cq n x y
theorem CqL.l {n b} : CqL n [] b := fun i _ _ e => nomatch e
theorem CqL.r {n} : ∀ {a}, CqL n a [] := fun i _ _ _ e => nomatch e
theorem CqL.cons {n a b r s} (h : Cq n a b) (t : CqL n r s) : CqL n (a :: r) (b :: s)
  | 0, _, _, e, e' => by cases e; cases e'; exact h
  | i + 1, _, _, e, e' => t i _ _ e e'
theorem Cq.same {h : Heap} {n : Nat} {x y : V} {r : Value} (c : Cq n x y) : VRel h x r → VRel h y r → x = y := by
  induction c generalizing r with
  | nn => intro _ _; rfl
  | bb a b => intro hx hy; rw [hx.bool_inv] at hy; cases hy.bool_inv; rfl
  | ii a b => intro hx hy; obtain ⟨t, rfl⟩ := hx.int_inv; obtain ⟨u, e⟩ := hy.int_inv; cases e; rfl
  | ss a b => intro hx hy; obtain ⟨t, rfl⟩ := hx.str_inv; obtain ⟨u, e⟩ := hy.str_inv; cases e; rfl
  | yy a b => intro hx hy; obtain ⟨t, rfl⟩ := hx.bytes_inv; obtain ⟨u, e⟩ := hy.bytes_inv; cases e; rfl
  | iy a b => intro hx hy; obtain ⟨t, rfl⟩ := hx.int_inv; obtain ⟨u, e⟩ := hy.bytes_inv; cases e
  | yi a b => intro hx hy; obtain ⟨t, rfl⟩ := hx.bytes_inv; obtain ⟨u, e⟩ := hy.int_inv; cases e
  | tt _ ih =>
    intro hx hy
    obtain ⟨a, vs, ⟨o, ho, _, n, hd⟩, hl⟩ := hx.tup_inv
    generalize hr : Value.ref a = r at hy
    obtain ⟨a', vs', ⟨o', ho', _, n', hd'⟩, hl'⟩ := hy.tup_inv
    cases hr
    rw [ho] at ho'; cases ho'
    rw [hd] at hd'; cases hd'
    congr 1
    refine List.ext_getElem (hl.length.symm.trans hl'.length) fun i h1 h2 => ?_
    obtain ⟨q, hq, hv⟩ := hl.get (List.getElem?_eq_getElem h1)
    exact ih i _ _ (List.getElem?_eq_getElem h1) (List.getElem?_eq_getElem h2) hv (hl'.at' i _ _ (List.getElem?_eq_getElem h2) hq)
theorem Cq.fn {h : Heap} {n : Nat} {y y' x : V} {r : Value} (c : Cq n y x) (c' : Cq n y' x) (hy : VRel h y r) (hy' : VRel h y' r) : veq y x = veq y' x := by
  rw [Bool.eq_iff_iff, veq_iff, veq_iff]
  exact ⟨fun e => c'.same hy' (e ▸ hy), fun e => c.same hy (e ▸ hy')⟩

theorem bytes_eq_int_0 (a : Array UInt8) (t : Tok) (b : Int) (u : Tok) : Gives (Builtin.«bytes.__eq__» ⟨[.bytes a t, .int b u], []⟩) (.val (Value.notImplemented)) := by
  refine .of_wp fun M A E s Q hq => ?_
  have e : Builtin.«bytes.__eq__» ⟨[.bytes a t, .int b u], []⟩ = (do
      let r ← isInstance (Value.int b u) (Value.type "bytes")
      if (!r) = true then do
          rule (toString "bytes." ++ toString "__eq__" ++ toString ".declined")
          ret Value.notImplemented
        else do
          let x ← Builtin.Bytes.payload (Value.bytes a t)
          let y ← Builtin.Bytes.payload (Value.int b u)
          ret (Value.bool (Builtin.Bytes.holds "__eq__" (Builtin.Bytes.order x.toList y.toList)))) := rfl
  rw [e]
  refine wpAny_bind (wpAny_isInstance (U := "bytes") (b := false) (typeIs_int s b u) (by rw [isSubtype_type]; kernel_rfl) ?_)
  exact wpAny_bind (wpAny_rule (wpAny_pure ⟨_, rfl, hq⟩))
theorem int_eq_bytes_0 (a : Int) (t : Tok) (b : Array UInt8) (u : Tok) : Gives (Builtin.«int.__eq__» ⟨[.int a t, .bytes b u], []⟩) (.val (Value.notImplemented)) :=
  .of_wp fun M A E s Q h => by obtain ⟨hp, g, d, tk, os⟩ := s; wp_walk; exact ⟨_, rfl, h⟩
section
variable {A : Around} {s : Shared}
theorem rc_bytes_int (a : Array UInt8) (t : Tok) (b : Int) (u : Tok) : RcAt A s (.bytes a t) (.int b u) false := fun prog w E Q h =>
  rc_eq_decline_or (k := false) (typeIs_bytes s a t) (typeIs_int s b u) (by decide) (by rw [isSubtype_type]; kernel_rfl) FB.slot_bytes_eq F.slot_int_eq_refl
    (fun _ hq => call_gives FB.slot_bytes_eq (typeIs_bytes s a t) FB.entry_bytes_eq (FB.args_bytes_eq_2 _ _) (bytes_eq_int_0 a t b u) hq)
    (fun _ hq => call_gives F.slot_int_eq_refl (typeIs_int s b u) F.entry_int_eq (F.args_int_eq_2 _ _) (int_eq_bytes_0 b u a t) hq)
    (fun _ hq => wpAny_of_eq (rfl : isSame (.bytes a t) (.int b u) = pure false) hq) (.inl rfl) h
theorem rc_int_bytes (b : Int) (u : Tok) (a : Array UInt8) (t : Tok) : RcAt A s (.int b u) (.bytes a t) false := fun prog w E Q h =>
  rc_eq_decline_or (k := false) (typeIs_int s b u) (typeIs_bytes s a t) (by decide) (by rw [isSubtype_type]; kernel_rfl) F.slot_int_eq FB.slot_bytes_eq
    (fun _ hq => call_gives F.slot_int_eq (typeIs_int s b u) F.entry_int_eq (F.args_int_eq_2 _ _) (int_eq_bytes_0 b u a t) hq)
    (fun _ hq => call_gives FB.slot_bytes_eq (typeIs_bytes s a t) FB.entry_bytes_eq (FB.args_bytes_eq_2 _ _) (bytes_eq_int_0 a t b u) hq)
    (fun _ hq => wpAny_of_eq (rfl : isSame (.int b u) (.bytes a t) = pure false) hq) (.inl rfl) h
theorem rc_bytes (a : Array UInt8) (t : Tok) (b : Array UInt8) (u : Tok) : RcAt A s (.bytes a t) (.bytes b u) (a.toList == b.toList) := fun prog w E Q h =>
  richCompare_gives (typeIs_bytes s a t) (typeIs_bytes s b u) FB.slot_bytes_eq FB.entry_bytes_eq (FB.args_bytes_eq_2 _ _) (gives_bytes_eq a b t u) (by simp [Made.takes]) h
theorem eq_of_rc {x y : Value} {k : Bool} (h : RcAt A s x y k) (hn : ∀ a b t u, ¬ (x = .float a t ∧ y = .float b u)) (hs : x = y → k = true) : EqAt A s x y k := fun prog w E Q q => by
  unfold eqBool
  refine wpAny_holding (wpAny_ite_split (fun hab => ?_) fun _ => ?_)
  · rw [hs (eq_of_beq hab)] at q
    exact wpAny_bind (wpAny_rule (wpAny_pure q))
  · split
    · rename_i a t b u e
      simp only [Prod.mk.injEq] at e
      exact absurd e (hn a b t u)
    · exact wpAny_bind (h prog w E _ (wpAny_truthy_bool q))
theorem all_range {x y : List V} {P : Nat → Bool} {n : Nat} (hn : n ≤ x.length) (hm : n ≤ y.length) (hP : ∀ i, i < n → (P i = true ↔ x[i]? = y[i]?)) : (List.range n).all P = true ↔ x.take n = y.take n := by
  rw [List.all_eq_true]
  constructor
  · intro h
    refine List.ext_getElem? fun i => ?_
    by_cases z : i < n
    · rw [List.getElem?_take_of_lt z, List.getElem?_take_of_lt z]; exact (hP i z).mp (h i (List.mem_range.mpr z))
    · rw [List.getElem?_take_eq_none (by lia), List.getElem?_take_eq_none (by lia)]
  · intro h i hi
    have z := List.mem_range.mp hi
    refine (hP i z).mpr ?_
    rw [← List.getElem?_take_of_lt z, h, List.getElem?_take_of_lt z]
noncomputable def eqAtI (x y : List V) (i : Nat) : Bool := veq (x.getD i .none) (y.getD i .none)
theorem eqAtI_iff {x y : List V} {i : Nat} (h1 : i < x.length) (h2 : i < y.length) : eqAtI x y i = true ↔ x[i]? = y[i]? := by
  unfold eqAtI
  rw [veq_iff, List.getElem?_eq_getElem h1, List.getElem?_eq_getElem h2, Option.some.injEq, List.getD_eq_getElem?_getD, List.getD_eq_getElem?_getD, List.getElem?_eq_getElem h1, List.getElem?_eq_getElem h2]
  rfl
theorem eq_min (x y : List V) : ((List.range (min x.length y.length)).all (eqAtI x y) && x.length == y.length) = veq (.tup x) (.tup y) := by
  rw [Bool.eq_iff_iff, Bool.and_eq_true, veq_iff, beq_iff_eq, all_range (x := x) (y := y) (Nat.min_le_left ..) (Nat.min_le_right ..) fun i h => eqAtI_iff (by lia) (by lia)]
  constructor
  · rintro ⟨h, e⟩
    rw [← e, Nat.min_self, List.take_length] at h
    rw [h, e, List.take_length]
  · intro h; cases h; exact ⟨rfl, rfl⟩
theorem EqAt.items {x y : List V} {vs ws : Array Value} (h : ∀ (i : Nat) a b, x[i]? = some a → y[i]? = some b → ∀ {ra rb}, VRel s.heap a ra → VRel s.heap b rb → EqAt A s ra rb (veq a b)) (hx : VsRel s.heap x vs.toList) (hy : VsRel s.heap y ws.toList) :
    ∀ j (h1 : j < vs.size) (h2 : j < ws.size), EqAt A s vs[j] ws[j] (eqAtI x y j) := fun j h1 h2 => by
  have l1 := hx.length; have l2 := hy.length
  rw [Array.length_toList] at l1 l2
  have e1 : x[j]? = some x[j] := List.getElem?_eq_getElem (by omega)
  have e2 : y[j]? = some y[j] := List.getElem?_eq_getElem (by omega)
  unfold eqAtI
  rw [List.getD_eq_getElem?_getD, List.getD_eq_getElem?_getD, e1, e2]
  exact h j _ _ e1 e2 (hx.at' j _ _ e1 (by rw [Array.getElem?_toList]; exact Array.getElem?_eq_getElem h1)) (hy.at' j _ _ e2 (by rw [Array.getElem?_toList]; exact Array.getElem?_eq_getElem h2))
theorem Cq.rc {n : Nat} {x y : V} (c : Cq n x y) : ∀ {rx ry : Value} {A : Around}, VRel s.heap x rx → VRel s.heap y ry → A.units + n < cLine → RcAt A s rx ry (veq x y) := by
  induction c with
  | nn => intro rx ry A hx hy _; rw [hx.none_inv, hy.none_inv, show veq .none .none = true from veq_iff.mpr rfl]; exact RcAt.none_none
  | bb a b => intro rx ry A hx hy _; rw [hx.bool_inv, hy.bool_inv, show veq (.bool a) (.bool b) = (a == b) by rw [Bool.eq_iff_iff, veq_iff, beq_iff_eq, V.bool.injEq]]; exact RcAt.bool_bool a b
  | ii a b => intro rx ry A hx hy _; obtain ⟨t, rfl⟩ := hx.int_inv; obtain ⟨u, rfl⟩ := hy.int_inv; rw [show veq (.int a) (.int b) = (a == b) by rw [Bool.eq_iff_iff, veq_iff, beq_iff_eq, V.int.injEq]]; exact RcAt.int_int a t b u
  | ss a b => intro rx ry A hx hy _; obtain ⟨t, rfl⟩ := hx.str_inv; obtain ⟨u, rfl⟩ := hy.str_inv; rw [show veq (.str a) (.str b) = (a == b) by rw [Bool.eq_iff_iff, veq_iff, beq_iff_eq, V.str.injEq]]; exact RcAt.str_str a t b u
  | yy a b => intro rx ry A hx hy _; obtain ⟨t, rfl⟩ := hx.bytes_inv; obtain ⟨u, rfl⟩ := hy.bytes_inv; rw [show veq (.bytes a) (.bytes b) = (a.toList == b.toList) by rw [Bool.eq_iff_iff, veq_iff, beq_iff_eq, V.bytes.injEq, Array.toList_inj]]; exact rc_bytes a t b u
  | iy a b => intro rx ry A hx hy _; obtain ⟨t, rfl⟩ := hx.int_inv; obtain ⟨u, rfl⟩ := hy.bytes_inv; rw [show veq (.int a) (.bytes b) = false from Bool.eq_false_iff.mpr fun e => nomatch veq_iff.mp e]; exact rc_int_bytes a t b u
  | yi a b => intro rx ry A hx hy _; obtain ⟨t, rfl⟩ := hx.bytes_inv; obtain ⟨u, rfl⟩ := hy.int_inv; rw [show veq (.bytes a) (.int b) = false from Bool.eq_false_iff.mpr fun e => nomatch veq_iff.mp e]; exact rc_bytes_int a t b u
  | @tt n a b h ih =>
    intro rx ry A hx hy hu
    obtain ⟨a1, vs, ht, hl⟩ := hx.tup_inv
    obtain ⟨a2, ws, ht', hl'⟩ := hy.tup_inv
    have l1 := hl.length; have l2 := hl'.length
    rw [Array.length_toList] at l1 l2
    rw [← eq_min, ← l1, ← l2]
    refine RcAt.tuples ht ht' (by lia) (EqAt.items (fun i p q e e' ra rb ha hb => eq_of_rc (ih i p q e e' ha hb (by show A.units + 1 + n < cLine; lia)) (fun _ _ _ _ z => ?_) fun z => ?_) hl hl')
    · rw [z.1] at ha; cases ha
    · rw [← z] at hb; exact veq_iff.mpr ((h i p q e e').same ha hb)
theorem Cq.eqb {n : Nat} {x y : V} {rx ry : Value} {A : Around} (c : Cq n x y) (hx : VRel s.heap x rx) (hy : VRel s.heap y ry) (hu : A.units + n < cLine) : EqAt A s rx ry (veq x y) :=
  eq_of_rc (c.rc hx hy hu) (fun a b t u e => by rw [e.1] at hx; cases hx) fun e => by rw [← e] at hy; exact veq_iff.mpr (c.same hx hy)
end
section
variable {κ : Cx} {σ : MH} {Q : V → MH → Prop}
theorem PV.eq {n a b} (c : Cq n a b) (hn : n ≤ 100) (h : Q (.bool (veq a b)) σ) : PV κ (t2 (compareOp .Eq)) [a, b] Q σ := .ret (fun A s rs G hv P E hP => by
  obtain ⟨ra, rb, rfl, ha, hb⟩ := hv.two
  exact c.rc ha hb (by have := G.units; show A.units + n < 9900; lia) κ.φ.g.prog κ.φ.g.w _ _ (hP _ s.toks (.bool _))) h
theorem PV.neTup {n a b} (c : Cq n (.tup a) (.tup b)) (hn : n ≤ 100) (h : Q (.bool (!veq (.tup a) (.tup b))) σ) : PV κ (t2 (compareOp .NotEq)) [.tup a, .tup b] Q σ := .ret (fun A s rs G hv P E hP => by
  obtain ⟨ra, rb, rfl, ha, hb⟩ := hv.two
  obtain ⟨a1, vs, ht, hl⟩ := ha.tup_inv
  obtain ⟨a2, ws, ht', hl'⟩ := hb.tup_inv
  have l1 := hl.length; have l2 := hl'.length
  rw [Array.length_toList] at l1 l2
  have hu := G.units
  cases c with
  | tt c =>
    have t := RcNeAt.tuples (A := A) ht ht' (by show A.units < 9900; lia) (EqAt.items (fun i p q e e' ra rb ha hb => (c i p q e e').eqb ha hb (by show A.units + 1 + _ < 9900; lia)) hl hl')
    rw [l1, l2, eq_min] at t
    exact t κ.φ.g.prog κ.φ.g.w _ _ (hP _ s.toks (.bool _))) h
end
end Mn
set_option genInjectivity false
namespace Mn
open PySem.SeqAt

noncomputable def BRel (_ : Heap) (b a : Bool) : Prop := b = a
noncomputable def WB (κ : Cx) (e : PySem.Expr) (Q : Bool → Loc → MH → Prop) (l : Loc) (σ : MH) : Prop :=
  ∀ A s δ, Good κ A → FS κ.φ l σ δ s → At BRel κ A (isTrue e κ.φ.f.env (eval e κ.φ.f.env)) Q σ δ s
/-- a value that is a bool -/
inductive asB (Q : Bool → Prop) : V → Prop
  | mk (b : Bool) (h : Q b) : asB Q (.bool b)
noncomputable def brk2 (P R : Prop) : Bool → Prop
  | true => P
  | false => R

section
variable {κ : Cx} {l : Loc} {σ : MH} {Q : V → Loc → MH → Prop} {P : Bool → Loc → MH → Prop}
theorem truthy_b {A s δ v r} (F : FS κ.φ l σ δ s) (hR : VRel s.heap v r) (h : asB (fun b => P b l σ) v) : At BRel κ A (truthy r) P σ δ s := by
  cases h with
  | mk b h => rw [hR.bool_inv]; exact wpAny_truthy_bool (Ok.here F rfl h)
theorem WE.cmp1 {e1 op e2 pos} (h : WE κ e1 (fun a l1 σ1 => WE κ e2 (fun b l2 σ2 => PV κ (t2 (compareOp op)) [a, b] (fun v σ3 => Q v l2 σ3) σ2) l1 σ1) l σ) (hm : behindInMarks op e2 = false) :
    WE κ (.Compare e1 [op] [e2] pos) Q l σ := fun A s δ G F => by
  rw [eval_Compare1, markedBehindIn_of_false hm]
  exact At.bind (h A s δ G F) fun a ra l1 σ1 δ1 s1 hR F1 E1 q1 => At.bind (At.holding (q1 A s1 δ1 G F1)) fun b rb l2 σ2 δ2 s2 hR2 F2 E2 q2 => At.standAt (At.operate (q2.run G F2 (.cons (hR.evo F1 E2) (.cons hR2 .nil))))
theorem WB.cmp1 {e1 op e2 pos} (h : WE κ e1 (fun a l1 σ1 => WE κ e2 (fun b l2 σ2 => PV κ (t2 (compareOp op)) [a, b] (fun v σ3 => asB (fun b => P b l2 σ3) v) σ2) l1 σ1) l σ) (hm : behindInMarks op e2 = false) :
    WB κ (.Compare e1 [op] [e2] pos) P l σ := fun A s δ G F => by
  rw [isTrue_Compare1, markedBehindIn_of_false hm]
  exact At.bind (h A s δ G F) fun a ra l1 σ1 δ1 s1 hR F1 E1 q1 => At.bind (At.holding (q1 A s1 δ1 G F1)) fun b rb l2 σ2 δ2 s2 hR2 F2 E2 q2 => At.standAt
    (At.bind (At.operate (q2.run (Q := fun v l σ => asB (fun b => P b l σ) v) G F2 (.cons (hR.evo F1 E2) (.cons hR2 .nil)))) fun c rc l3 σ3 δ3 s3 hR3 F3 E3 q3 => At.holding (truthy_b F3 hR3 q3))
theorem At.release {α β : Type} {R : Heap → β → α → Prop} {A s δ} {vs ks : List Value} {k : Unit → Sem α} {Q : β → Loc → MH → Prop} (h : At R κ A (k ()) Q σ δ s) : At R κ A (release vs ks >>= k) Q σ δ s :=
  wpAny_bind (wpAny_release h)
theorem At.ite {α β : Type} {R : Heap → β → α → Prop} {A s δ} {b : Bool} {x y : Sem α} {Q : β → Loc → MH → Prop} (h1 : b = true → At R κ A x Q σ δ s) (h2 : b = false → At R κ A y Q σ δ s) :
    At R κ A (if b = true then x else y) Q σ δ s := by
  cases b
  · exact h2 rfl
  · exact h1 rfl
/-- the first half of a chain of two -/
theorem chain2 {α β : Type} {R : Heap → β → α → Prop} {e1 op1 e2 pos} {A s δ} {Q : β → Loc → MH → Prop} {k : Value → Sem α} {z : Value → Sem α} {N : V → Loc → MH → Prop} {Z : Loc → MH → Prop} (G : Good κ A) (F : FS κ.φ l σ δ s)
    (h : WE κ e1 (fun a l1 σ1 => WE κ e2 (fun b l2 σ2 => PV κ (t2 (compareOp op1)) [a, b] (fun v σ3 => asB (brk2 (N b l2 σ3) (Z l2 σ3)) v) σ2) l1 σ1) l σ)
    (hk : ∀ b rb l1 σ1 δ1 s1, VRel s1.heap b rb → FS κ.φ l1 σ1 δ1 s1 → N b l1 σ1 → At R κ A (k rb) Q σ1 δ1 s1) (hz : ∀ rc l1 σ1 δ1 s1, VRel s1.heap (.bool false) rc → FS κ.φ l1 σ1 δ1 s1 → Z l1 σ1 → At R κ A (z rc) Q σ1 δ1 s1) :
    At R κ A (do
      let a ← eval e1 κ.φ.f.env
      let b ← holding [a] (eval e2 κ.φ.f.env)
      standAt pos
      let c ← holding [a, b] (compareOp op1 a b)
      release [a, b] [c]
      if ← holding [c, b] (truthy c) then k b else z c) Q σ δ s := by
  refine At.bind (h A s δ G F) fun a ra l1 σ1 δ1 s1 hR F1 E1 q1 => At.bind (At.holding (q1 A s1 δ1 G F1)) fun b rb l2 σ2 δ2 s2 hR2 F2 E2 q2 => At.standAt
    (At.bind (At.holding (q2.run (Q := fun v l3 σ3 => asB (brk2 (N b l3 σ3) (Z l3 σ3)) v) G F2 (.cons (hR.evo F1 E2) (.cons hR2 .nil)))) fun c rc l3 σ3 δ3 s3 hR3 F3 E3 q3 => At.release ?_)
  cases q3 with
  | mk cb q3 =>
    refine At.bind (R := BRel) (Q := fun b' l' σ' => brk2 (N b l' σ') (Z l' σ') b' ∧ b' = cb) (At.holding (truthy_b F3 hR3 (.mk cb ⟨q3, rfl⟩))) fun b' b'' l4 σ4 δ4 s4 hb F4 E4 q4 => ?_
    obtain ⟨q4, rfl⟩ := q4
    cases hb
    refine At.ite (fun e => ?_) fun e => ?_ <;> subst e
    · exact hk _ _ _ _ _ _ ((hR2.evo F2 E3).evo F3 E4) F4 q4
    · exact hz _ _ _ _ _ (hR3.evo F3 E4) F4 q4
theorem WB.cmp2 {e1 op1 op2 e2 e3 pos}
    (h : WE κ e1 (fun a l1 σ1 => WE κ e2 (fun b l2 σ2 => PV κ (t2 (compareOp op1)) [a, b] (fun v σ3 => asB (brk2 (WE κ e3 (fun v l4 σ4 => PV κ (t2 (compareOp op2)) [b, v] (fun v σ5 => asB (fun b => P b l4 σ5) v) σ4) l2 σ3) (P false l2 σ3)) v) σ2) l1 σ1) l σ)
    (hm : behindInMarks op2 e3 = false) : WB κ (.Compare e1 [op1, op2] [e2, e3] pos) P l σ := fun A s δ G F => by
  show At BRel κ A (eval e1 κ.φ.f.env >>= fun a => testChain pos a [op1, op2] [eval e2 κ.φ.f.env, markedBehindIn op2 e3 (eval e3 κ.φ.f.env)]) P σ δ s
  rw [markedBehindIn_of_false hm]
  exact chain2 (N := fun b l2 σ3 => WE κ e3 (fun v l4 σ4 => PV κ (t2 (compareOp op2)) [b, v] (fun v σ5 => asB (fun b => P b l4 σ5) v) σ4) l2 σ3) (Z := fun l σ => P false l σ) (k := fun b => do
      let rv ← holding [b] (eval e3 κ.φ.f.env)
      standAt pos
      let c ← operate [b, rv] (compareOp op2 b rv)
      holding [c] (truthy c)) (z := fun _ => pure false) G F h (fun b rb l4 σ4 δ4 s4 hR F4 q => At.bind (At.holding (q A s4 δ4 G F4)) fun v rv l5 σ5 δ5 s5 hR5 F5 E5 q5 => At.standAt
        (At.bind (At.operate (q5.run (Q := fun v l σ => asB (fun b => P b l σ) v) G F5 (.cons (hR.evo F4 E5) (.cons hR5 .nil)))) fun c rc l6 σ6 δ6 s6 hR6 F6 E6 q6 => At.holding (truthy_b F6 hR6 q6)))
    fun rc l4 σ4 δ4 s4 hR F4 q => At.pure F4 rfl q

/-! tests -/
theorem WB.val {e : PySem.Expr} (he : ∀ env whole, isTrue e env whole = (do let v ← whole; standAt e.pos; holding [v] (truthy v))) (h : WE κ e (fun v l1 σ1 => asB (fun b => P b l1 σ1) v) l σ) : WB κ e P l σ := fun A s δ G F => by
  rw [he]
  exact At.bind (h A s δ G F) fun a ra l1 σ1 δ1 s1 hR F1 E1 q1 => At.standAt (At.holding (truthy_b F1 hR q1))
theorem WB.not {e p} (h : WB κ e (fun b l1 σ1 => P (!b) l1 σ1) l σ) : WB κ (.UnaryOp .Not e p) P l σ := fun A s δ G F => by
  show At BRel κ A (isTrue e κ.φ.f.env (eval e κ.φ.f.env) >>= fun b => pure (!b)) P σ δ s
  refine At.bind (h A s δ G F) fun a ra l1 σ1 δ1 s1 hR F1 E1 q1 => ?_
  cases hR
  exact At.pure F1 rfl q1
/-- tests joined by and, or -/
noncomputable def WAll (κ : Cx) (op : BoolOp) (es : List PySem.Expr) (P : Bool → Loc → MH → Prop) (l : Loc) (σ : MH) : Prop :=
  ∀ A s δ, Good κ A → FS κ.φ l σ δ s → At BRel κ A (allTrue op es κ.φ.f.env) P σ δ s
theorem WAll.andN (h : P true l σ) : WAll κ .And [] P l σ := fun _ _ _ _ F => wpAny_allTrue_And_nil (Ok.here F rfl h)
theorem WAll.orN (h : P false l σ) : WAll κ .Or [] P l σ := fun _ _ _ _ F => wpAny_allTrue_Or_nil (Ok.here F rfl h)
theorem WAll.andC {a es} (h : WB κ a (fun x l1 σ1 => brk2 (WAll κ .And es P l1 σ1) (P false l1 σ1) x) l σ) : WAll κ .And (a :: es) P l σ := fun A s δ G F => by
  refine wpAny_allTrue_And_cons (wpAny_mono (h A s δ G F) (fun x s1 ⟨x', l1, σ1, δ1, hR, F1, E1, q1⟩ => ?_) fun _ _ e => e)
  cases hR
  cases x
  · exact ⟨_, l1, σ1, δ1, rfl, F1, E1, q1⟩
  · exact wpAny_mono ((show WAll κ .And es P l1 σ1 from q1) A s1 δ1 G F1) (fun y s2 ⟨y', l2, σ2, δ2, hR2, F2, E2, q2⟩ => ⟨y', l2, σ2, δ2, hR2, F2, E1.trans E2, q2⟩) fun _ _ e => e.trans E1
theorem WAll.orC {a es} (h : WB κ a (fun x l1 σ1 => brk2 (P true l1 σ1) (WAll κ .Or es P l1 σ1) x) l σ) : WAll κ .Or (a :: es) P l σ := fun A s δ G F => by
  refine wpAny_allTrue_Or_cons (wpAny_mono (h A s δ G F) (fun x s1 ⟨x', l1, σ1, δ1, hR, F1, E1, q1⟩ => ?_) fun _ _ e => e)
  cases hR
  cases x
  · exact wpAny_mono ((show WAll κ .Or es P l1 σ1 from q1) A s1 δ1 G F1) (fun y s2 ⟨y', l2, σ2, δ2, hR2, F2, E2, q2⟩ => ⟨y', l2, σ2, δ2, hR2, F2, E1.trans E2, q2⟩) fun _ _ e => e.trans E1
  · exact ⟨_, l1, σ1, δ1, rfl, F1, E1, q1⟩
theorem WB.all {op es p} (h : WAll κ op es P l σ) : WB κ (.BoolOp op es p) P l σ := fun A s δ G F => wpAny_isTrue_BoolOp (h A s δ G F)

/-- boolean operators as values (the operands are booleans) -/
noncomputable def WBo (κ : Cx) (op : BoolOp) (es : List PySem.Expr) (P : V → Loc → MH → Prop) (l : Loc) (σ : MH) : Prop :=
  ∀ A s δ p, Good κ A → FS κ.φ l σ δ s → At VRel κ A (boolOp p op (evalEach es κ.φ.f.env)) P σ δ s
theorem WBo.last {op a} (h : WE κ a Q l σ) : WBo κ op [a] Q l σ := fun A s δ p G F => by
  show At VRel κ A (boolOp p op [eval a κ.φ.f.env]) Q σ δ s
  exact h A s δ G F
theorem bo_step {z : Bool} {a : PySem.Expr} {p : Pos} {A s δ} {t : Sem Value} {Q' : V → Loc → MH → Prop} (G : Good κ A) (F : FS κ.φ l σ δ s) (h : WE κ a (fun v l1 σ1 => asB (fun b => if b = z then Q (.bool b) l1 σ1 else Q' (.bool b) l1 σ1) v) l σ)
    (hk : ∀ b l1 σ1 δ1 s1, FS κ.φ l1 σ1 δ1 s1 → Q' b l1 σ1 → At VRel κ A t Q σ1 δ1 s1) :
    At VRel κ A (do
      let v ← eval a κ.φ.f.env
      standAt p
      let t' ← holding [v] (truthy v)
      if (t' == z) = true then pure v else t) Q σ δ s := by
  refine At.bind (h A s δ G F) fun v rv l1 σ1 δ1 s1 hR F1 E1 q1 => At.standAt ?_
  cases q1 with
  | mk c q1 =>
    refine At.bind (R := BRel) (Q := fun b l' σ' => b = c ∧ (if c = z then Q (.bool c) l' σ' else Q' (.bool c) l' σ')) (At.holding (truthy_b F1 hR (.mk c ⟨rfl, q1⟩))) fun t t' l2 σ2 δ2 s2 hR2 F2 E2 q2 => ?_
    cases hR2
    obtain ⟨rfl, q2⟩ := q2
    refine At.ite (fun e => ?_) fun e => ?_
    · rw [if_pos (eq_of_beq e)] at q2; exact At.pure F2 (hR.evo F1 E2) q2
    · rw [if_neg (ne_of_beq_false e)] at q2; exact hk _ _ _ _ _ F2 q2
theorem WBo.andC {a b es} (h : WE κ a (fun v l1 σ1 => asB (fun c => if c = false then Q (.bool c) l1 σ1 else WBo κ .And (b :: es) Q l1 σ1) v) l σ) : WBo κ .And (a :: b :: es) Q l σ := fun A s δ p G F => by
  have e : boolOp p .And (evalEach (a :: b :: es) κ.φ.f.env) = (do
      let v ← eval a κ.φ.f.env
      standAt p
      let t' ← holding [v] (truthy v)
      if (t' == false) = true then pure v else boolOp p .And (evalEach (b :: es) κ.φ.f.env)) := by
    show (eval a κ.φ.f.env >>= fun v => standAt p >>= fun _ => holding [v] (truthy v) >>= fun t => _) = _
    refine congrArg _ (funext fun v => congrArg _ (funext fun _ => congrArg _ (funext fun t => ?_)))
    cases t <;> rfl
  rw [e]
  exact bo_step (Q' := fun _ => WBo κ .And (b :: es) Q) G F h fun _ l1 σ1 δ1 s1 F1 q => q A s1 δ1 p G F1
theorem WE.bo {op es p} (h : WBo κ op es Q l σ) : WE κ (.BoolOp op es p) Q l σ := fun A s δ G F => by
  rw [arm_eval_BoolOp]
  exact h A s δ p G F
theorem WE.ifexp {t b o pos} (h : WB κ t (fun c l1 σ1 => brk2 (WE κ b Q l1 σ1) (WE κ o Q l1 σ1) c) l σ) : WE κ (.IfExp t b o pos) Q l σ := fun A s δ G F => by
  show At VRel κ A (isTrue t κ.φ.f.env (eval t κ.φ.f.env) >>= fun c => if c = true then eval b κ.φ.f.env else eval o κ.φ.f.env) Q σ δ s
  refine At.bind (h A s δ G F) fun c c' l1 σ1 δ1 s1 hR F1 E1 q1 => ?_
  cases hR
  refine At.ite (fun e => ?_) fun e => ?_ <;> subst e
  · exact (show WE κ b Q l1 σ1 from q1) A s1 δ1 G F1
  · exact (show WE κ o Q l1 σ1 from q1) A s1 δ1 G F1
end
end Mn
set_option genInjectivity false
namespace Mn
open PySem.SeqAt

/-! changes of the heap: one object at the most is another -/
noncomputable def But (c : Addr) (h h' : Heap) : Prop := ∀ b o, h.get? b = some o → b ≠ c → h'.get? b = some o
noncomputable def NoTup (h : Heap) (c : Addr) : Prop := ∀ o, h.get? c = some o → ¬ IsTup o
section
variable {φ : Fx} {l l' : Loc} {σ σ' : MH} {δ δ' : DM} {s : Shared} {h h' : Heap} {c a : Addr}
theorem But.tups (k : But c h h') (n : NoTup h c) : ∀ b o, h.get? b = some o → IsTup o → h'.get? b = some o := fun b o e t => k b o e fun z => n o (z ▸ e) t
theorem But.cell {b v} (k : But c h h') (x : h.IsCell b v) (n : b ≠ c) : h'.IsCell b v := by
  obtain ⟨o, h1, h2⟩ := x
  exact ⟨o, k _ _ h1 n, h2⟩
theorem But.ns {b m} (k : But c h h') (x : h.Ns b m) (n : b ≠ c) : h'.Ns b m := by
  obtain ⟨o, es, ep, ho, r⟩ := x
  exact ⟨o, es, ep, k _ _ ho n, r⟩
theorem Slot.but {env : Env} {m x v} (k : But c h h') (t : NoTup h c) (hc : ∀ v, ¬ h.IsCell c v) (y : Slot env h m x v) : Slot env h' m x v := by
  cases y with
  | loc hk rv h1 h2 => exact .loc hk rv h1 (h2.mono (k.tups t))
  | cell hk b rv h1 h2 h3 => exact .cell hk b rv h1 (k.cell h2 fun z => hc _ (z ▸ h2)) (h3.mono (k.tups t))
theorem LocOk.but {env : Env} (x : LocOk env l h) (k : But c h h') (t : NoTup h c) (hl : env.locals ≠ c) (hc : ∀ v, ¬ h.IsCell c v) : LocOk env l h' := by
  obtain ⟨m, hm, hs, hce⟩ := x
  refine ⟨m, k.ns hm hl, fun y v e => (hs y v e).but k t hc, fun y b e e' => ?_⟩
  obtain ⟨v0, h2⟩ := hce y b e e'
  exact ⟨v0, k.cell h2 fun z => hc _ (z ▸ h2)⟩
theorem Rep.but {o : O} (r : Rep δ h a o) (k : But c h h') (t : NoTup h c) (ha : a ≠ c) (hd : ∀ d, δ d = some a → d ≠ c ∧ δ' d = some a) : Rep δ' h' a o := by
  cases o with
  | inst C fs =>
    obtain ⟨ox, d, es, n, h1, h2, h3, h4, h5, h6, h7⟩ := r
    exact ⟨ox, d, es, n, k _ _ h1 ha, h2, h3, h4, (hd d h5).2, k _ _ h6 (hd d h5).1, h7.mono (k.tups t)⟩
  | list x => obtain ⟨vs, n, h1, h4⟩ := r; exact ⟨vs, n, k _ _ h1 ha, h4.mono (k.tups t)⟩
  | rlist x => obtain ⟨o, vs, n, h1, h2, h3, h4⟩ := r; exact ⟨o, vs, n, k _ _ h1 ha, h2, h3, h4.mono (k.tups t)⟩
  | raw x => exact ⟨k _ _ r.1 ha, r.2⟩
theorem AuxOk.but {d : Addr} (x : AuxOk σ h d a) (k : But c h h') (ha : a ≠ c) : AuxOk σ h' d a := by
  obtain ⟨q, q2, ox, q3, q4⟩ := x
  exact ⟨q, q2, ox, k _ _ q3 ha, q4⟩

/-- what the changed object must be, if it is a frame's -/
noncomputable def Stays (φ : Fx) (h h' : Heap) (c : Addr) : Prop := (c ∈ φ.f.fa ∨ Fl φ.fl c) → ∀ o, h.get? c = some o → ∃ o', A3 (h'.get? c = some o') (¬ IsTup o') (∀ es n, o.data = .dict es n → StrKeys es → X2 fun es' n' => o'.data = .dict es' n' ∧ StrKeys es')
noncomputable def DomLe (σ : MH) (δ : DM) (h : Heap) (σ' : MH) (δ' : DM) : Prop := ∀ b, Dom σ' δ' b → Dom σ δ b ∨ h.get? b = none
noncomputable def OwnLe (σ : MH) (δ : DM) (h : Heap) (σ' : MH) (δ' : DM) : Prop := ∀ b, Own σ' δ' b → Own σ δ b ∨ h.get? b = none
theorem FS.chg {tk : Nat} (F : FS φ l σ δ s) (k : But c s.heap h') (hb0 : φ.g.base.get? c = none) (hs : Stays φ s.heap h' c) (dom : DomLe σ δ s.heap σ' δ') (own : OwnLe σ δ s.heap σ' δ')
    (rep : ∀ b o, σ' b = some o → Rep δ' h' b o) (aux : ∀ d b, δ' d = some b → AuxOk σ' h' d b) (loc : LocOk φ.f.env l' h') : FS φ l' σ' δ' { s with heap := h', toks := tk } := by
  have nd : ∀ b o, s.heap.get? b = some o → ¬ Dom σ δ b → ¬ Dom σ' δ' b := fun b o e n q => (dom b q).elim n (some_not_none e)
  refine ⟨⟨fun b o e => k b o (F.sim.keep b o e) fun z => some_not_none e (z ▸ hb0), rep, fun b q => ?_, aux⟩, F.envOk, loc, fun b hb => ?_, ⟨fun e he => ?_⟩, F.gens, F.os⟩
  · exact (own b q).elim (F.sim.new b) fun e => isNone_of fun y z => some_not_none (F.sim.keep b y z) e
  · obtain ⟨h1, h2, o, h3, h4⟩ := F.fa b hb
    by_cases z : b = c
    · subst z
      obtain ⟨o', h5, h6, _⟩ := hs (.inl hb) o h3
      exact ⟨h1, nd _ _ h3 h2, o', h5, h6⟩
    · exact ⟨h1, nd _ _ h3 h2, o, k _ _ h3 z, h4⟩
  · obtain ⟨kk, L, o, es, n, h1, h2, h3, h4, h5, h6, h7⟩ := F.fr.all e he
    by_cases z : L = c
    · subst z
      obtain ⟨o', h8, h9, hd⟩ := hs (.inr (List.mem_filterMap.mpr ⟨e, he, h1⟩)) o h4
      obtain ⟨es', n', h10, h11⟩ := hd es n h5 h7
      exact ⟨kk, L, o', es', n', h1, h2, nd _ _ h4 h3, h8, h10, h9, h11⟩
    · exact ⟨kk, L, o, es, n, h1, h2, nd _ _ h4 h3, k _ _ h4 z, h5, h6, h7⟩
theorem Ev.chg (k : But c h h') (hc : c ∈ φ.f.fa ∨ Own σ δ c ∨ h.get? c = none) (live : ∀ o, h.get? c = some o → ∃ x, h'.get? c = some x) (dom : DomLe σ δ h σ' δ') (own : OwnLe σ δ h σ' δ') : Ev φ σ δ h σ' δ' h' := by
  have ne : ∀ b o, h.get? b = some o → ¬ Own σ δ b → b ∉ φ.f.fa → b ≠ c := fun b o e n q z => by
    subst z
    exact hc.elim q fun z => z.elim n (some_not_none e)
  refine ⟨fun b o e n q _ => ⟨o.slots, k b o e (ne b o e n q)⟩, fun b o e n q _ => k b o e (ne b o e n q), own, dom, fun b o e => ?_⟩
  by_cases z : b = c
  · subst z; exact live o e
  · exact ⟨o, k b o e z⟩
theorem DomLe.refl : DomLe σ δ h σ δ := fun _ x => .inl x
theorem OwnLe.refl : OwnLe σ δ h σ δ := fun _ x => .inl x
theorem Sim.lt {g : G} (S : Sim g σ δ h) {a : Addr} {o : O} (e : σ a = some o) : a < h.objs.size := by
  have r := S.rep a o e
  cases o with
  | inst C fs => obtain ⟨ox, d, es, n, h1, _⟩ := r; exact Heap.lt_size h1
  | list x => obtain ⟨vs, n, h1, _⟩ := r; exact Heap.lt_size h1
  | rlist x => obtain ⟨o, vs, n, h1, _⟩ := r; exact Heap.lt_size h1
  | raw x => exact Heap.lt_size r.1
theorem Sim.ltD {g : G} (S : Sim g σ δ h) {a b : Addr} (e : δ b = some a) : b < h.objs.size := by
  obtain ⟨o, h1, _⟩ := S.ownAt (.dict a e)
  exact Heap.lt_size h1
theorem Sim.freshσ {g : G} (S : Sim g σ δ h) {a : Addr} (k : h.objs.size ≤ a) : σ a = none := isNone_of fun o q => absurd (S.lt q) (Nat.not_lt.mpr k)
theorem Sim.freshδ {g : G} (S : Sim g σ δ h) {a : Addr} (k : h.objs.size ≤ a) : δ a = none := isNone_of fun o q => absurd (S.ltD q) (Nat.not_lt.mpr k)
theorem fresh_get {b : Addr} (hb : h.objs.size ≤ b) : h.get? b = none := isNone_of fun x q => absurd (Heap.lt_size q) (Nat.not_lt.mpr hb)
theorem FS.out (F : FS φ l σ δ s) (hc : ¬ Dom σ δ c) {b o} (e : σ b = some o) : b ≠ c ∧ ∀ d, δ d = some b → d ≠ c ∧ δ d = some b :=
  ⟨fun z => hc (z ▸ .obj o e), fun d q => ⟨fun z => hc (z ▸ .dict b q), q⟩⟩
/-- what is nobody's in the mini heap is changed -/
theorem FS.other {tk : Nat} (F : FS φ l σ δ s) (k : But c s.heap h') (hb : φ.g.base.get? c = none) (hs : Stays φ s.heap h' c) (nt : NoTup s.heap c) (hc : ¬ Dom σ δ c) (loc : LocOk φ.f.env l' h') : FS φ l' σ δ { s with heap := h', toks := tk } :=
  F.chg k hb hs .refl .refl (fun b o e => (F.sim.rep b o e).but k nt (F.out hc e).1 (F.out hc e).2) (fun d b e => by
    obtain ⟨C, fs, q⟩ := (F.sim.aux d b e).inst
    exact (F.sim.aux d b e).but k (F.out hc q).1) loc
theorem FS.baseNone (F : FS φ l σ δ s) {b : Addr} (e : s.heap.get? b = none) : φ.g.base.get? b = none := isNone_of fun y z => some_not_none (F.sim.keep b y z) e

/-- nothing that stands is changed; what is new is nobody's -/
theorem FS.grow {tk : Nat} (F : FS φ l σ δ s) (k : ∀ b o, s.heap.get? b = some o → h'.get? b = some o) : FS φ l σ δ { s with heap := h', toks := tk } ∧ Ev φ σ δ s.heap σ δ h' := by
  have e0 := fresh_get (Nat.le_refl s.heap.objs.size)
  have k' : But s.heap.objs.size s.heap h' := fun b o e _ => k b o e
  have nt : NoTup s.heap s.heap.objs.size := fun o e => some_not_none e e0
  refine ⟨F.other k' (F.baseNone e0) (fun _ o e => some_not_none e e0) nt (fun z => ?_) (F.loc.but k' nt (fun z => ?_) fun v ⟨o, z, _⟩ => some_not_none z e0), .chg k' (.inr (.inr e0)) (fun o e => some_not_none e e0) .refl .refl⟩
  · cases z with
    | obj o z => exact some_not_none z (F.sim.freshσ (Nat.le_refl _))
    | dict o z => exact some_not_none z (F.sim.freshδ (Nat.le_refl _))
  · obtain ⟨o, z', _⟩ := (F.fa _ F.envOk.locals).at_
    rw [z] at z'; exact some_not_none z' e0
/-- an object nobody owns is changed (an iterator): neither a frame, nor a tuple, nor of the base -/
theorem FS.scratch {tk : Nat} (F : FS φ l σ δ s) (k : But c s.heap h') (hc : ¬ Dom σ δ c) (hb : φ.g.base.get? c = none) (hn : c ∉ φ.f.fa) (hfl : ¬ Fl φ.fl c) (hcell : ∀ v, ¬ s.heap.IsCell c v) (ht : NoTup s.heap c) :
    FS φ l σ δ { s with heap := h', toks := tk } :=
  F.other k hb (fun z => (z.elim hn hfl).elim) ht hc (F.loc.but k ht (fun z => hn (z ▸ F.envOk.locals)) hcell)
/-- an object of the frame's own changes -/
theorem FS.frame {tk : Nat} (F : FS φ l σ δ s) (hc : c ∈ φ.f.fa) (k : But c s.heap h') (hs : ∃ o, A3 (h'.get? c = some o) (¬ IsTup o) (∀ o', s.heap.get? c = some o' → ∀ es n, o'.data = .dict es n → StrKeys es → X2 fun es n => o.data = .dict es n ∧ StrKeys es)) (hl : LocOk φ.f.env l' h') :
    FS φ l' σ δ { s with heap := h', toks := tk } ∧ Ev φ σ δ s.heap σ δ h' := by
  obtain ⟨o, h1, h2, h3⟩ := hs
  obtain ⟨hb, hd, oc, h4, h5⟩ := F.fa c hc
  exact ⟨F.other k hb (fun _ o' e => ⟨o, h1, h2, h3 o' e⟩) (fun o e => by rw [h4] at e; cases e; exact h5) hd hl, .chg k (.inl hc) (fun _ _ => ⟨o, h1⟩) .refl .refl⟩

/-- one owned object is changed -/
inductive WrAt (δ : DM) (c a : Addr) : O → O → Prop
  | list (e : c = a) (y y' : List V) : WrAt δ c a (.list y) (.list y')
  | inst (e : δ c = some a) (C : Addr) (y y' : List (Str × V)) : WrAt δ c a (.inst C y) (.inst C y')
theorem FS.write {tk : Nat} {o o' : O} (F : FS φ l σ δ s) (k : But c s.heap h') (live : ∃ x, h'.get? c = some x) (ho : σ a = some o) (hca : WrAt δ c a o o') (hr : Rep δ h' a o') :
    FS φ l (upd σ a o') δ { s with heap := h', toks := tk } ∧ Ev φ σ δ s.heap (upd σ a o') δ h' := by
  have own : Own σ δ c := by
    cases hca with
    | list e y y' => subst e; exact .list y ho
    | inst e C y y' => exact .dict a e
  obtain ⟨oc, c1, c2, c3⟩ := F.sim.ownAt own
  have nt : NoTup s.heap c := fun x e => by rw [c1] at e; cases e; exact c2
  have le : DomLe σ δ s.heap (upd σ a o') δ := fun b q => .inl (by
    cases q with
    | obj x e => exact upd_cases e (fun z _ => z ▸ .obj o ho) fun _ e => .obj x e
    | dict x e => exact .dict x e)
  have ownle : OwnLe σ δ s.heap (upd σ a o') δ := fun b q => .inl (by
    cases q with
    | inst C fs e => exact upd_cases e (fun z w => by subst z w; cases hca with | inst e C y y' => exact .inst C y ho) fun _ e => .inst C fs e
    | list x e => exact upd_cases e (fun z w => by subst z w; cases hca with | list e y y' => exact .list y ho) fun _ e => .list x e
    | dict x e => exact .dict x e)
  have nσ : ∀ b x, σ b = some x → b ≠ a → b ≠ c := fun b x e n z => by
    subst z
    cases hca with
    | list e' => exact n e'
    | inst e' => exact some_not_none e (F.sim.aux b a e').no
  have nδ : ∀ b x, δ b = some x → x ≠ a → b ≠ c := fun b x e n z => by
    subst z
    cases hca with
    | list e' => subst e'; exact some_not_none ho (F.sim.aux b x e).no
    | inst e' => rw [e] at e'; cases e'; exact n rfl
  refine ⟨F.chg k (F.sim.new c own) (fun z x e => ?st) le ownle (fun b x e => ?rep) (fun d x e => ?aux) (F.loc.but k nt (fun z => (F.fa _ F.envOk.locals).dom (z ▸ own.dom)) fun v z => ?cell), .chg k (.inr (.inl own)) (fun _ _ => live) le ownle⟩
  case st =>
    rcases z with z | z
    · exact ((F.fa c z).dom own.dom).elim
    · obtain ⟨_, nd, _⟩ := F.fr.at z
      exact (nd own.dom).elim
  case rep => exact upd_cases e (fun z w => by subst z w; exact hr) fun z e => (F.sim.rep b x e).but k nt (nσ b x e z) fun d q => ⟨nδ d b q z, q⟩
  case aux =>
    obtain ⟨⟨C, fs, q⟩, q2, ox, q3, q4⟩ := F.sim.aux d x e
    refine ⟨?_, (upd_ne _ _ fun z => ?_).trans q2, ox, k _ _ q3 ?_, q4⟩
    · by_cases z : x = a
      · subst z; rw [ho] at q; cases q
        cases hca with
        | inst _ _ y y' => exact ⟨C, y', upd_same ..⟩
      · exact ⟨C, fs, (upd_ne _ _ z).trans q⟩
    · subst z; exact some_not_none ho q2
    · by_cases z : x = a
      · subst z; rw [ho] at q; cases q
        cases hca with
        | inst e' => exact fun w => some_not_none ho ((F.sim.aux c x e').no |> fun q5 => w ▸ q5)
      · exact nσ _ _ q z
  case cell =>
    obtain ⟨o2, z1, z2⟩ := z
    rw [c1] at z1; cases z1; exact c3 _ z2

/-- a new object of the mini heap -/
theorem FS.new {tk : Nat} {o : O} (F : FS φ l σ δ s) (k : ∀ b x, s.heap.get? b = some x → h'.get? b = some x) (ha : s.heap.objs.size ≤ a) (hr : Rep δ' h' a o)
    (hδ : ∀ b x, δ' b = some x → δ b = some x ∨ (s.heap.objs.size ≤ b ∧ b ≠ a ∧ x = a ∧ (X2 fun C fs => o = .inst C fs) ∧ ∃ ox, h'.get? a = some ox ∧ ox.dict = some b)) (hδ' : ∀ b x, δ b = some x → δ' b = some x) :
    FS φ l (upd σ a o) δ' { s with heap := h', toks := tk } ∧ Ev φ σ δ s.heap (upd σ a o) δ' h' := by
  have e0 := fresh_get (h := s.heap) ha
  have k' : But a s.heap h' := fun b o e _ => k b o e
  have nt : NoTup s.heap a := fun o e => some_not_none e e0
  have le : DomLe σ δ s.heap (upd σ a o) δ' := fun b q => by
    cases q with
    | obj x e => exact upd_cases e (fun z _ => .inr (z ▸ e0)) fun _ e => .inl (.obj x e)
    | dict x e => exact (hδ b x e).elim (fun e => .inl (.dict x e)) fun e => .inr (fresh_get e.1)
  have ownle : OwnLe σ δ s.heap (upd σ a o) δ' := fun b q => by
    cases q with
    | inst C fs e => exact upd_cases e (fun z _ => .inr (z ▸ e0)) fun _ e => .inl (.inst C fs e)
    | list x e => exact upd_cases e (fun z _ => .inr (z ▸ e0)) fun _ e => .inl (.list x e)
    | dict x e => exact (hδ b x e).elim (fun e => .inl (.dict x e)) fun e => .inr (fresh_get e.1)
  have na : ∀ b x, σ b = some x → b ≠ a := fun b x e z => some_not_none e (z ▸ F.sim.freshσ ha)
  have nd : ∀ b x, δ b = some x → b ≠ a := fun b x e z => some_not_none e (z ▸ F.sim.freshδ ha)
  refine ⟨F.chg k' (F.baseNone e0) (fun _ o e => some_not_none e e0) le ownle (fun b x e => ?rep) (fun b x e => ?aux) (F.loc.but k' nt (fun z => ?_) fun v ⟨o, z, _⟩ => some_not_none z e0), .chg k' (.inr (.inr e0)) (fun o e => some_not_none e e0) le ownle⟩
  case rep => exact upd_cases e (fun z w => by subst z w; exact hr) fun z e => (F.sim.rep b x e).but k' nt z fun d q => ⟨nd d b q, hδ' d b q⟩
  case aux =>
    rcases hδ b x e with e | ⟨h1, h2, rfl, ⟨C, fs, rfl⟩, ox, h4, h5⟩
    · obtain ⟨⟨C, fs, q⟩, q2, ox, q3, q4⟩ := F.sim.aux b x e
      exact ⟨⟨C, fs, (upd_ne _ _ (na _ _ q)).trans q⟩, (upd_ne _ _ (nd _ _ e)).trans q2, ox, k _ _ q3, q4⟩
    · exact ⟨⟨C, fs, upd_same ..⟩, (upd_ne _ _ h2).trans (F.sim.freshσ h1), ox, h4, h5⟩
  · obtain ⟨o, z', _⟩ := (F.fa _ F.envOk.locals).at_
    rw [z] at z'; exact some_not_none z' e0
end
end Mn
set_option genInjectivity false
namespace Mn
open PySem.SeqAt

/-! fields -/
noncomputable def getF : List (Str × V) → Str → Option V
  | [], _ => none
  | p :: r, x => if p.1 = x then some p.2 else getF r x
noncomputable def setF : List (Str × V) → Str → V → List (Str × V)
  | [], x, v => [(x, v)]
  | p :: r, x, v => if p.1 = x then (p.1, v) :: r else p :: setF r x v
theorem isStr_str (x y : Str) (t : Tok) : (Value.str x t).isStr y = decide (x = y) := by
  show (x == y) = _
  rw [Bool.eq_iff_iff]; simp
section
variable {h : Heap} {x : Str} {fs : List (Str × V)} {es : List DictEntry}
theorem FsRel.noRef (r : FsRel h fs es) : es.any (·.refKey) = false := by
  induction r with
  | nil => rfl
  | @cons _ _ e _ _ hk _ _ ih =>
    obtain ⟨t, hk⟩ := hk
    rw [List.any_cons, ih]
    unfold DictEntry.refKey
    rw [hk]; rfl
theorem getL_cons {y : Str} {t : Tok} {e : DictEntry} (hk : e.key = .str y t) (hn : es.any (·.refKey) = false) : getL x (e :: es) = if y = x then some (some e.val) else getL x es := by
  unfold getL
  rw [List.find?_cons, hk, isStr_str, List.any_cons, hn]
  have : e.refKey = false := by unfold DictEntry.refKey; rw [hk]
  rw [this]
  by_cases z : y = x
  · rw [if_pos z, decide_eq_true z]
  · rw [if_neg z, decide_eq_false z]; rfl
theorem FsRel.get {v} (r : FsRel h fs es) (q : getF fs x = some v) : ∃ rv, getL x es = some (some rv) ∧ VRel h v rv := by
  induction r with
  | nil => cases q
  | cons hk hv hs ih =>
    obtain ⟨t, hk⟩ := hk
    rw [getL_cons hk hs.noRef]
    unfold getF at q
    dsimp only at q
    split at q
    · cases q; rw [if_pos ‹_›]; exact ⟨_, rfl, hv⟩
    · rw [if_neg ‹_›]; exact ih q
theorem FsRel.none (r : FsRel h fs es) (q : getF fs x = .none) : getL x es = .some .none := by
  induction r with
  | nil => rfl
  | cons hk hv hs ih =>
    obtain ⟨t, hk⟩ := hk
    rw [getL_cons hk hs.noRef]
    unfold getF at q
    dsimp only at q
    split at q
    · cases q
    · rw [if_neg ‹_›]; exact ih q
theorem FsRel.length (r : FsRel h fs es) : es.length = fs.length := by
  induction r with
  | nil => rfl
  | cons _ _ _ ih => exact congrArg (· + 1) ih
theorem FsRel.put {v : V} {rv : Value} {hsh : Int} {t : Tok} (hv : VRel h v rv) (r : FsRel h fs es) : FsRel h (setF fs x v) (putL x hsh (.str x t) rv es) := by
  induction r with
  | nil => exact .cons ⟨t, rfl⟩ hv .nil
  | @cons y _ e _ _ hk hw hs ih =>
    obtain ⟨t', hk⟩ := hk
    unfold setF putL
    rw [hk, isStr_str]
    by_cases z : y = x
    · rw [if_pos z, if_pos (decide_eq_true z)]
      exact .cons ⟨t', rfl⟩ hv hs
    · rw [if_neg z, if_neg (by rw [decide_eq_false z]; exact Bool.false_ne_true)]
      exact .cons ⟨t', hk⟩ hw ih
end
/-- what the text's classes are asked for an attribute of an instance -/
noncomputable def fldK (K : Frag) (C : Addr) (x : Str) : Bool :=
  plainGet K C x && hasDictIn K C && (findIn K (.ref C) x).any (noGet K) && findIn K (.ref C) "__setattr__" == some (some (.builtin "object.__setattr__")) && plainOver K C && takerIn K C x == some none
noncomputable def methK (K : Frag) (C : Addr) (x : Str) (fn : Addr) : Bool :=
  plainGet K C x && findIn K (.ref C) x == some (some (.ref fn)) && isFn K (.ref fn) && keepIn K (.ref fn)
/-- a plain class attribute -/
noncomputable def cattrK (K : Frag) (C : Addr) (x : Str) (v : Value) : Bool :=
  plainGet K C x && hasDictIn K C && findIn K (.ref C) x == some (some v) && specialIn K v "__get__" == some none && handedIn v && !copiedNames.contains x
noncomputable def V.plain : V → Bool
  | .bi _ => false
  | _ => true
theorem VRel.handed {h : Heap} {v : V} {r : Value} (x : VRel h v r) (p : v.plain = true) : handedIn r = true := by
  cases x with
  | bi => cases p
  | _ => rfl
theorem putL_length (name : Str) (hsh : Int) (key v : Value) (es : List DictEntry) : (putL name hsh key v es).length ≤ es.length + 1 := by
  induction es with
  | nil => exact Nat.le_refl _
  | cons e r ih =>
    unfold putL; split
    · exact Nat.le_succ _
    · exact Nat.succ_le_succ ih
section
variable {prog : Program} {w : World} {A : Around} {K : Frag} {C x : Addr} {s : Shared} {R : Result → Shared → Prop}
theorem osaD {ox : Obj} {dx : Addr} {name : Str} {tk : Tok} {v : Value} {es : List DictEntry} {n : Nat} (X : K.In s.heap) (I : InstAt s.heap x ox C (some (dictOf es n))) (hd : ox.dict = some dx)
    (hp : plainOver K C = true) (ht : takerIn K C name = some none) (hh : (clsIn K C).any (·.hasDict) = true) (hnr : es.any (·.refKey) = false) (hz : es.length ≤ 1000)
    (h : R (.ok (.ret .none)) { s with heap := s.heap.update dx (Obj.putName name (PyData.keyHash w.params name) (.str name s.toks) v), toks := s.toks + 1 }) :
    codeAny (model prog w) A (.call (.builtin "object.__setattr__") ⟨[.ref x, .str name tk, v], []⟩) R s := by
  refine osa_open X I hp ht fun b => ?_
  obtain ⟨cd, hc, hd'⟩ := any_some hh
  obtain ⟨hx, hcl, hn, hdd⟩ := I
  rw [hd] at hdd
  have D : s.heap.get? dx = some (dictOf es n) := hdd
  have D' := Heap.get?_update_self (Obj.putName name (PyData.keyHash w.params name) (.str name s.toks) v) D (by rw [putName_dict]; rfl)
  rw [putName_dict] at D'
  obtain ⟨oc, odi, oda, osl⟩ := ox
  dsimp only at hcl hd
  subst hcl hd
  refine wpAny_bind (wpAny_pure (wpAny_bind (wpAny_bind (wpAny_loadPart hx (wpAny_bind ((looks_clsIn X hc).here ?_))))))
  rw [hd']
  refine wpAny_pure (a := some dx) (wpAny_bind (wpAny_pure (wpAny_bind ?_)))
  unfold nsSet
  refine wpAny_bind (wpAny_bind (wpAny_askSetting (wpAny_pure (wpAny_bind (wpAny_mkText (wpAny_bind (wpAny_loadPart D ?_)))))))
  dsimp only
  have c : aRefKeyMayBeTheName name es.toArray = false := by
    rw [aRefKeyMayBeTheName_at]
    simp [hnr]
  rw [c]
  refine wpAny_updatePart D ?_
  have hlen := putL_length name (PyData.keyHash w.params name) (.str name s.toks) v es
  refine wpAny_bind (wpAny_lookBehind D' (pastItsLine_dict (by rw [List.size_toArray, sizeLine_eq]; lia)) ?_)
  exact wpAny_pure h
end

/-! steps that give nothing back -/
noncomputable def URel (_ : Heap) (_ : Unit) (_ : Unit) : Prop := True
noncomputable def PU (κ : Cx) (t : List Value → Sem Unit) (vs : List V) (Q : MH → Prop) (σ : MH) : Prop :=
  ∀ A s δ l rs, Good κ A → FS κ.φ l σ δ s → VsRel s.heap vs rs → At URel κ A (t rs) (fun _ l' σ' => l' = l ∧ Q σ') σ δ s
noncomputable def u2 (k : Value → Value → Sem Unit) (rs : List Value) : Sem Unit := k (rs.getD 0 .none) (rs.getD 1 .none)
noncomputable def u3 (k : Value → Value → Value → Sem Unit) (rs : List Value) : Sem Unit := k (rs.getD 0 .none) (rs.getD 1 .none) (rs.getD 2 .none)
inductive Fw where
  | next | brk | cont | ret (v : V)
inductive FwRel (h : Heap) : Fw → Flow → Prop
  | next : FwRel h .next .next
  | brk : FwRel h .brk .brk
  | cont : FwRel h .cont .cont
  | ret {v r} (hv : VRel h v r) : FwRel h (.ret v) (.ret r)
noncomputable def WS1 (κ : Cx) (st : PySem.Stmt) (Q : Fw → Loc → MH → Prop) (l : Loc) (σ : MH) : Prop :=
  ∀ A s δ, Good κ A → FS κ.φ l σ δ s → At FwRel κ A (exec st κ.φ.f.env) Q σ δ s
noncomputable def WS (κ : Cx) (ss : List PySem.Stmt) (Q : Fw → Loc → MH → Prop) (l : Loc) (σ : MH) : Prop :=
  ∀ A s δ, Good κ A → FS κ.φ l σ δ s → At FwRel κ A (execs ss κ.φ.f.env) Q σ δ s
/-- store a value at a target -/
noncomputable def WA (κ : Cx) (t : PySem.Expr) (v : V) (Q : Loc → MH → Prop) (l : Loc) (σ : MH) : Prop :=
  ∀ A s δ rv, Good κ A → FS κ.φ l σ δ s → VRel s.heap v rv → At URel κ A (assign t κ.φ.f.env rv) (fun _ => Q) σ δ s
noncomputable def thenS (n : Loc → MH → Prop) (Q : Fw → Loc → MH → Prop) : Fw → Loc → MH → Prop
  | .next => n
  | w => Q w

section
variable {κ : Cx} {l : Loc} {σ : MH} {δ : DM} {A : Around} {s : Shared}
theorem PU.run {t vs rs} {Q : Loc → MH → Prop} (h : PU κ t vs (fun σ' => Q l σ') σ) (G : Good κ A) (F : FS κ.φ l σ δ s) (hv : VsRel s.heap vs rs) : At URel κ A (t rs) (fun _ => Q) σ δ s :=
  (h A s δ l rs G F hv).mono fun _ _ _ ⟨e, q⟩ => e ▸ q
end
section
variable {κ : Cx} {l : Loc} {σ : MH} {Q : Fw → Loc → MH → Prop}
theorem WS.nil (h : Q .next l σ) : WS κ [] Q l σ := fun _ _ _ _ F => wpAny_execs_nil (Ok.here F .next h)
theorem WS.cons {st rest} (h : WS1 κ st (thenS (WS κ rest Q) Q) l σ) : WS κ (st :: rest) Q l σ := fun A s δ G F => by
  refine wpAny_execs_cons (wpAny_mono (h A s δ G F) (fun fw s1 ⟨w, l1, σ1, δ1, hR, F1, E1, q1⟩ => ?_) fun _ _ e => e)
  cases hR with
  | next => exact wpAny_mono ((show WS κ rest Q l1 σ1 from q1) A s1 δ1 G F1) (fun _ s2 ⟨w, l2, σ2, δ2, hR2, F2, E2, q2⟩ => ⟨w, l2, σ2, δ2, hR2, F2, E1.trans E2, q2⟩) fun _ _ e => e.trans E1
  | brk => exact ⟨_, l1, σ1, δ1, .brk, F1, E1, q1⟩
  | cont => exact ⟨_, l1, σ1, δ1, .cont, F1, E1, q1⟩
  | ret hv => exact ⟨_, l1, σ1, δ1, .ret hv, F1, E1, q1⟩
theorem WS1.mono {st} {Q' : Fw → Loc → MH → Prop} (h : WS1 κ st Q l σ) (k : ∀ w l σ, Q w l σ → Q' w l σ) : WS1 κ st Q' l σ := fun A s δ G F => (h A s δ G F).mono k
theorem WS.mono {ss} {Q' : Fw → Loc → MH → Prop} (h : WS κ ss Q l σ) (k : ∀ w l σ, Q w l σ → Q' w l σ) : WS κ ss Q' l σ := fun A s δ G F => (h A s δ G F).mono k
theorem WE.mono {e} {Q Q' : V → Loc → MH → Prop} (h : WE κ e Q l σ) (k : ∀ w l σ, Q w l σ → Q' w l σ) : WE κ e Q' l σ := fun A s δ G F => (h A s δ G F).mono k
theorem WB.mono {e} {Q Q' : Bool → Loc → MH → Prop} (h : WB κ e Q l σ) (k : ∀ w l σ, Q w l σ → Q' w l σ) : WB κ e Q' l σ := fun A s δ G F => (h A s δ G F).mono k
theorem WS1.pass {pos} (h : Q .next l σ) : WS1 κ (.Pass pos) Q l σ := fun _ _ _ _ F => wpAny_Pass (Ok.here F .next h)
theorem WS1.brk {pos} (h : Q .brk l σ) : WS1 κ (.Break pos) Q l σ := fun _ _ _ _ F => wpAny_Break (Ok.here F .brk h)
theorem WS1.ite {test body orelse pos} (h : WB κ test (fun b l1 σ1 => brk2 (WS κ body Q l1 σ1) (WS κ orelse Q l1 σ1) b) l σ) : WS1 κ (.If test body orelse pos) Q l σ := fun A s δ G F => by
  refine wpAny_If (wpAny_mono (h A s δ G F) (fun b s1 ⟨b', l1, σ1, δ1, hR, F1, E1, q1⟩ => ?_) fun _ _ e => e)
  cases hR
  have fin : ∀ {ss}, WS κ ss Q l1 σ1 → wpAny _ A (execs ss κ.φ.f.env) _ _ s1 := fun q => wpAny_mono (q A s1 δ1 G F1) (fun _ s2 ⟨w, l2, σ2, δ2, hR2, F2, E2, q2⟩ => (⟨w, l2, σ2, δ2, hR2, F2, E1.trans E2, q2⟩ : Ok FwRel κ.φ σ δ s.heap Q _ s2)) fun _ _ e => (e.trans E1 : FlX κ σ δ s.heap _ _)
  cases b
  · exact fin q1
  · exact fin q1
theorem WS1.ret {e pos} (h : WE κ e (fun v l1 σ1 => Q (.ret v) l1 σ1) l σ) : WS1 κ (.Return (some e) pos) Q l σ := fun A s δ G F =>
  wpAny_Return_some (wpAny_mono (h A s δ G F) (fun _ _ ⟨_, l1, σ1, δ1, hR, F1, E1, q1⟩ => ⟨_, l1, σ1, δ1, .ret hR, F1, E1, q1⟩) fun _ _ e => e)
theorem WS1.ret0 {pos} (h : Q (.ret .none) l σ) : WS1 κ (.Return none pos) Q l σ := fun _ _ _ _ F => wpAny_Return_none (Ok.here F (.ret .none) h)
theorem WS1.expr {e pos} (h : WE κ e (fun _ l1 σ1 => Q .next l1 σ1) l σ) (hs : swapsWith e none pos.line κ.φ.f.env = pure false) : WS1 κ (.Expr e pos) Q l σ := fun A s δ G F =>
  wpAny_Expr_any (wpAny_mono (h A s δ G F) (fun _ _ ⟨_, l1, σ1, δ1, hR, F1, E1, q1⟩ => ⟨.next, l1, σ1, δ1, .next, F1, E1, q1⟩) fun _ _ e => e) (by unfold interactive; rw [F.envOk.kind]; rfl) hs
end
/-! names that are stored -/
section
variable {κ : Cx} {l : Loc} {σ : MH} {Q : Loc → MH → Prop}
theorem But.of {c : Addr} {h h' : Heap} (x : Heap.SameBut c h h') : But c h h' := fun b o e n => (x.2 b n).trans e
theorem store_name {A s δ x v rv} (F : FS κ.φ l σ δ s) (hv : VRel s.heap v rv) (hl : κ.φ.f.env.kindOf x = some .local ∨ κ.φ.f.env.kindOf x = some .cell ∧ CellsOwn κ.φ.f) (h : Q (upd l x v) σ) :
    At URel κ A (storeName κ.φ.f.env x rv) (fun _ => Q) σ δ s := by
  obtain ⟨m, hm, hlo, hce⟩ := F.loc
  obtain ⟨oL, esL, epL, hoL, hdL, hkL, hfL⟩ := id hm
  rcases hl with hl | ⟨hl, hco⟩
  · refine wpAny_storeName_local hl hm (fun h' hn hs => ?_) (by rw [F.envOk.kind]; rfl)
    have nt : NoTup s.heap κ.φ.f.env.locals := fun o e => by rw [hoL] at e; cases e; exact notTup_dict hdL
    obtain ⟨o', es, ep, ho', hd', hsk, _⟩ := id hn
    have nc : ∀ v, ¬ s.heap.IsCell κ.φ.f.env.locals v := fun v ⟨o, h1, h2⟩ => by rw [hoL] at h1; cases h1; rw [hdL] at h2; cases h2
    have fin := F.frame (h' := h') (tk := s.toks + 1) (l' := upd l x v) F.envOk.locals (.of hs) ⟨o', ho', notTup_dict hd', fun _ _ _ _ _ _ => ⟨_, _, hd', hsk⟩⟩ ⟨_, hn, fun y w hy => ?_, fun y c k e => ?_⟩
    · exact ⟨(), _, σ, δ, trivial, fin.1, fin.2, h⟩
    · refine upd_cases hy (fun e e' => ?_) fun e hy => ?_
      · subst e e'; exact .loc hl rv (if_pos rfl) (hv.mono ((But.of hs).tups nt))
      · have z := (hlo y w hy).but (.of hs) nt nc
        cases z with
        | loc hk r h1 h2 => exact .loc hk r ((if_neg e).trans h1) h2
        | cell hk c r h1 h2 h3 => exact .cell hk c r h1 h2 h3
    · obtain ⟨v0, h2⟩ := hce y c k e
      exact ⟨v0, (But.of hs).cell h2 fun z => nc _ (z ▸ h2)⟩
  · obtain ⟨c, hc, hcf, hap⟩ := hco x hl
    obtain ⟨v0, hin⟩ := hce x c hl hc
    refine wpAny_storeName_cell F.envOk.kind hl hc hin (fun h' hn hs => ?_)
    obtain ⟨o', ho', hd'⟩ := id hn
    obtain ⟨oc, hoc, hdc⟩ := id hin
    have nt : NoTup s.heap c := fun o e => by rw [hoc] at e; cases e; exact notTup_cell hdc
    have nL : κ.φ.f.env.locals ≠ c := fun z => by rw [z, hoc] at hoL; cases hoL; rw [hdc] at hdL; cases hdL
    have fin := F.frame (h' := h') (tk := s.toks) (l' := upd l x v) hcf (.of hs) ⟨o', ho', notTup_cell hd', fun o z es n w => ?_⟩ ⟨m, (But.of hs).ns hm nL, fun y w hy => ?_, fun y c' k e => ?_⟩
    · exact ⟨(), _, σ, δ, trivial, fin.1, fin.2, h⟩
    · rw [hoc] at z; cases z; rw [hdc] at w; cases w
    · refine upd_cases hy (fun e e' => ?_) fun e hy => ?_
      · subst e e'; exact .cell (.inl hl) c rv hc hn (hv.mono ((But.of hs).tups nt))
      · cases hlo y w hy with
        | loc hk r h1 h2 => exact .loc hk r h1 (h2.mono ((But.of hs).tups nt))
        | cell hk c' r h1 h2 h3 => exact .cell hk c' r h1 ((But.of hs).cell h2 fun z => e (hap y (z ▸ h1))) (h3.mono ((But.of hs).tups nt))
    · by_cases z : c' = c
      · subst z; exact ⟨_, hn⟩
      · obtain ⟨v1, h2⟩ := hce y c' k e
        exact ⟨v1, (But.of hs).cell h2 z⟩
/-- a name of the frame -/
noncomputable def MyName (κ : Cx) (x : Str) : Prop := κ.φ.f.env.kindOf x = some .local ∨ κ.φ.f.env.kindOf x = some .cell ∧ CellsOwn κ.φ.f
theorem WA.name {x pos v} (hl : MyName κ x) (h : Q (upd l x v) σ) : WA κ (.Name x pos) v Q l σ := fun _ _ _ _ _ F hv => wpAny_assign_Name (store_name F hv hl h)
theorem WS1.assign {t value pos} {Q : Fw → Loc → MH → Prop} (h : WE κ value (fun v l1 σ1 => WA κ t v (Q .next) l1 σ1) l σ) (hs : swapsWithSole [t] value pos.line κ.φ.f.env = pure false) (hw : swappedStores [t] value κ.φ.f.env = pure none)
    (ha : (assignEach [t] κ.φ.f.env).map (·.2) = [assign t κ.φ.f.env]) : WS1 κ (.Assign [t] value pos) Q l σ := fun A s δ G F => by
  refine wpAny_Assign_stores (wpAny_mono (h A s δ G F) (fun rv s1 ⟨v, l1, σ1, δ1, hR, F1, E1, q1⟩ => ?_) fun _ _ e => e) hs hw
  rw [ha]
  exact wpAny_mono (q1 A s1 δ1 rv G F1 hR) (fun _ s2 ⟨_, l2, σ2, δ2, _, F2, E2, q2⟩ => ⟨.next, l2, σ2, δ2, .next, F2, E1.trans E2, q2⟩) fun _ _ e => e.trans E1
theorem WS1.augName {x p op value pos v} {Q : Fw → Loc → MH → Prop} (hv : l x = some v) (hl : MyName κ x) (h : WE κ value (fun w l1 σ1 => PV κ (t2 (inplaceOp op)) [v, w] (fun r σ2 => Q .next (upd l1 x r) σ2) σ1) l σ) (hn : (x == ("__classdict__" : Str)) = false) :
    WS1 κ (.AugAssign (.Name x p) op value pos) Q l σ := fun A s δ G F => by
  rw [exec_AugAssign_Name]
  refine At.standAt (At.bind (R := VRel) (Q := fun v' l' σ' => v' = v ∧ WE κ value (fun w l1 σ1 => PV κ (t2 (inplaceOp op)) [v, w] (fun r σ2 => Q .next (upd l1 x r) σ2) σ1) l' σ') (load_loc F hv ⟨rfl, h⟩ hn) fun a ra l1 σ1 δ1 s1 hR F1 E1 q1 => ?_)
  obtain ⟨rfl, q1⟩ := q1
  refine At.bind (At.holding (q1 A s1 δ1 G F1)) fun b rb l2 σ2 δ2 s2 hR2 F2 E2 q2 => At.standAt (At.bind (At.operate (q2.run (Q := fun r l σ => Q .next (upd l x r) σ) G F2 (.cons (hR.evo F1 E2) (.cons hR2 .nil)))) fun c rc l3 σ3 δ3 s3 hR3 F3 E3 q3 => At.standAt ?_)
  exact At.bind (wpAny_bindName (store_name F3 hR3 hl q3)) fun _ _ l4 σ4 δ4 s4 _ F4 E4 q4 => At.pure F4 .next q4

/-! fields of instances -/
inductive InstA (g : G) (δ : DM) (h : Heap) (a C : Addr) (fs : List (Str × V)) : Prop
  | mk (ox : Obj) (dx : Addr) (es : List DictEntry) (n : Nat) (I : InstAt h a ox C (some (dictOf es n))) (h1 : ox.dict = some dx) (h2 : δ dx = some a) (h3 : h.get? dx = some (dictOf es n)) (h4 : FsRel h fs es) (h5 : ox.data = .plain)
theorem Sim.instAt {g : G} {σ δ h} (S : Sim g σ δ h) {a C : Addr} {fs} (e : σ a = some (.inst C fs)) : InstA g δ h a C fs := by
  obtain ⟨ox, dx, es, n, h1, h2, h3, h4, h5, h6, h7⟩ := S.rep _ _ e
  refine ⟨ox, dx, es, n, ⟨h1, h2, by unfold notCls; rw [h3], ?_⟩, h4, h5, h6, h7, h3⟩
  rw [h4]; exact h6
theorem PV.fld {a C fs x v} {Q : V → MH → Prop} (hσ : σ a = some (.inst C fs)) (hk : fldK κ.φ.g.K C x = true) (hx : getF fs x = some v) (hp : v.plain = true) (h : Q v σ) : PV κ (t1 fun r => getAttr r x true) [.ref a] Q σ := fun A s δ l rs G F hv => by
  rw [hv.refI]
  obtain ⟨ox, dx, es, n, I, h1, h2, h3, h4, _⟩ := F.sim.instAt hσ
  unfold fldK at hk
  simp only [Bool.and_eq_true] at hk
  obtain ⟨⟨⟨⟨⟨k1, k2⟩, k3⟩, _⟩, _⟩, _⟩ := hk
  obtain ⟨at_, ka, kn⟩ := any_some k3
  obtain ⟨rv, hg, hv⟩ := h4.get hx
  exact get_value F.inK I (plainGet_of k1).1 (findObj_own k2 ka kn hg) (hv.handed hp) (Ok.tok F hv ⟨rfl, h⟩)
theorem PV.cattr {a C fs x v rv} {Q : V → MH → Prop} (hσ : σ a = some (.inst C fs)) (hk : cattrK κ.φ.g.K C x rv = true) (hx : getF fs x = none) (hv : ∀ h, VRel h v rv) (h : Q v σ) : PV κ (t1 fun r => getAttr r x true) [.ref a] Q σ := fun A s δ l rs G F hr => by
  rw [hr.refI]
  obtain ⟨ox, dx, es, n, I, h1, h2, h3, h4, _⟩ := F.sim.instAt hσ
  unfold cattrK at hk
  simp only [Bool.and_eq_true, beq_iff_eq, Bool.not_eq_true'] at hk
  obtain ⟨⟨⟨⟨⟨k1, k2⟩, k3⟩, k4⟩, k5⟩, k6⟩ := hk
  exact get_value F.inK I (plainGet_of k1).1 (findObj_cls k2 k3 k4 k5 k6 (h4.none hx)) k5 (Ok.tok F (hv _) ⟨rfl, h⟩)
theorem PU.setattr {a C fs x v} {Q : MH → Prop} (hσ : σ a = some (.inst C fs)) (hk : fldK κ.φ.g.K C x = true) (hz : fs.length ≤ 900) (h : Q (upd σ a (.inst C (setF fs x v)))) : PU κ (u2 fun ro rv => setAttr ro x rv) [.ref a, v] Q σ := fun A s δ l rs G F hv => by
  obtain ⟨ra, rv, rfl, hra, hv⟩ := hv.two
  rw [hra.ref_inv]
  show At URel κ A (setAttr (.ref a) x rv) _ σ δ s
  obtain ⟨ox, dx, es, n, I, h1, h2, h3, h4, h5⟩ := F.sim.instAt hσ
  unfold fldK at hk
  simp only [Bool.and_eq_true, beq_iff_eq] at hk
  obtain ⟨⟨⟨⟨⟨k1, k2⟩, k3⟩, k4⟩, k5⟩, k6⟩ := hk
  refine set_plain F.inK I k4 (osaD (s := { s with toks := s.toks + 1 }) F.inK I h1 k5 k6 k2 h4.noRef (by rw [h4.length]; lia) ?_)
  have D' := Heap.get?_update_self (Obj.putName x (PyData.keyHash κ.φ.g.w.params x) (.str x (s.toks + 1)) rv) h3 (by rw [putName_dict]; rfl)
  rw [putName_dict] at D'
  have oth : But dx s.heap (s.heap.update dx (Obj.putName x (PyData.keyHash κ.φ.g.w.params x) (.str x (s.toks + 1)) rv)) := fun b y e z => (Heap.get?_update_other _ _ (Ne.symm z)).trans e
  have nt : NoTup s.heap dx := fun o e => by rw [h3] at e; cases e; exact notTup_dict rfl
  have nx : a ≠ dx := fun z => some_not_none hσ (z ▸ (F.sim.aux dx a h2).no)
  have fin := F.write (tk := s.toks + 2) oth ⟨_, D'⟩ hσ (.inst h2 C fs (setF fs x v)) ⟨ox, dx, _, _, oth _ _ I.at_ nx, I.cls, h5, h1, h2, D', (h4.mono (oth.tups nt)).put (hv.mono (oth.tups nt))⟩
  exact ⟨(), l, _, δ, trivial, fin.1, fin.2, rfl, h⟩
theorem WE.attr {o attr pos} {Q : V → Loc → MH → Prop} (h : WE κ o (fun v l1 σ1 => PV κ (t1 fun r => getAttr r attr true) [v] (fun w σ2 => Q w l1 σ2) σ1) l σ) (hb : attributeBase o attr κ.φ.f.env (eval o κ.φ.f.env) = eval o κ.φ.f.env) :
    WE κ (.Attribute o attr pos) Q l σ := fun A s δ G F => by
  show At VRel κ A (do
    let ov ← attributeBase o attr κ.φ.f.env (eval o κ.φ.f.env)
    standAt pos.atName
    let r ← holding [ov] (getAttr ov attr true)
    letTemporaryGo o ov r
    pure r) Q σ δ s
  rw [hb]
  refine At.bind (h A s δ G F) fun a ra l1 σ1 δ1 s1 hR F1 E1 q1 => At.standAt (At.bind (At.holding (q1.run G F1 (.cons hR .nil))) fun b rb l2 σ2 δ2 s2 hR2 F2 E2 q2 => ?_)
  exact wpAny_bind (wpAny_letTemporaryGo (wpAny_pure (Ok.here F2 hR2 q2)))
theorem assign_Attribute' (env : Env) (o : PySem.Expr) (attr : Str) (pos : Pos) (v : Value) : assign (.Attribute o attr pos) env v = (do
    let ov ← holding [v] (eval o env)
    standAt pos.atName
    holding [v, ov] (setAttr ov attr v)
    release [v, ov] []) := rfl
theorem WA.attr {o attr pos v} (h : WE κ o (fun ov l1 σ1 => PU κ (u2 fun ro rv => setAttr ro attr rv) [ov, v] (fun σ2 => Q l1 σ2) σ1) l σ) : WA κ (.Attribute o attr pos) v Q l σ := fun A s δ rv G F hv => by
  rw [assign_Attribute']
  refine At.bind (At.holding (h A s δ G F)) fun a ra l1 σ1 δ1 s1 hR F1 E1 q1 => At.standAt ?_
  exact At.bind (At.holding (q1.run G F1 (.cons hR (.cons (hv.evo F E1) .nil)))) fun _ _ l2 σ2 δ2 s2 _ F2 E2 q2 => wpAny_release (Ok.here (b := ()) F2 trivial q2)
theorem WS1.augAttr {o attr tpos op value pos} {Q : Fw → Loc → MH → Prop}
    (h : WE κ o (fun ov l1 σ1 => PV κ (t1 fun r => getAttr r attr true) [ov] (fun old σ2 => WE κ value (fun v l3 σ3 => PV κ (t2 (inplaceOp op)) [old, v] (fun n σ4 => PU κ (u2 fun ro rv => setAttr ro attr rv) [ov, n] (fun σ5 => Q .next l3 σ5) σ4) σ3) l1 σ2) σ1) l σ) :
    WS1 κ (.AugAssign (.Attribute o attr tpos) op value pos) Q l σ := fun A s δ G F => by
  refine wpAny_AugAssign_AttributeAny ?_
  refine wpAny_mono (h A s δ G F) (fun ro s1 ⟨ov, l1, σ1, δ1, hR, F1, E1, q1⟩ => ?_) fun _ _ e => e
  refine wpAny_mono (q1.run (Q := fun old l1 σ2 => WE κ value (fun v l3 σ3 => PV κ (t2 (inplaceOp op)) [old, v] (fun n σ4 => PU κ (u2 fun ro rv => setAttr ro attr rv) [ov, n] (fun σ5 => Q .next l3 σ5) σ4) σ3) l1 σ2) G F1 (.cons hR .nil)) (fun rold s2 ⟨old, l2, σ2, δ2, hR2, F2, E2, q2⟩ => ?_) fun _ _ e => e.trans E1
  have E12 := E1.trans E2
  refine wpAny_mono (q2 A s2 δ2 G F2) (fun rv s3 ⟨v, l3, σ3, δ3, hR3, F3, E3, q3⟩ => ?_) fun _ _ e => e.trans E12
  have E13 := E12.trans E3
  refine wpAny_mono (q3.run (Q := fun n l3 σ4 => PU κ (u2 fun ro rv => setAttr ro attr rv) [ov, n] (fun σ5 => Q .next l3 σ5) σ4) G F3 (.cons (hR2.evo F2 E3) (.cons hR3 .nil))) (fun rn s4 ⟨n, l4, σ4, δ4, hR4, F4, E4, q4⟩ => ?_) fun _ _ e => e.trans E13
  have E14 := E13.trans E4
  exact wpAny_mono (q4.run (Q := fun l σ => Q .next l σ) G F4 (.cons (((hR.evo F1 E2).evo F2 E3).evo F3 E4) (.cons hR4 .nil))) (fun _ s5 ⟨_, l5, σ5, δ5, _, F5, E5, q5⟩ => ⟨.next, l5, σ5, δ5, .next, F5, E14.trans E5, q5⟩) fun _ _ e => e.trans E14
end
end Mn
set_option genInjectivity false
namespace Mn
open PySem.SeqAt

/-! calls -/
inductive CRet (g : G) (fl : List Env) (σ : MH) (δ : DM) (h : Heap) (Q : V → MH → Prop) (rv : Value) (s' : Shared) : Prop
  | mk (v : V) (σ' : MH) (δ' : DM) (hv : VRel s'.heap v rv) (C : CS g fl σ' δ' s') (E : Evo fl [] σ δ h σ' δ' s'.heap) (q : Q v σ')
noncomputable def CRes (g : G) (fl : List Env) (σ : MH) (δ : DM) (h : Heap) (Q : V → MH → Prop) (X : MH → Prop) (r : Result) (s' : Shared) : Prop :=
  match r with
  | .ok (.ret rv) => CRet g fl σ δ h Q rv s'
  | .ok _ => False
  | .error e => Flies g fl [] σ δ h X e s'
/-- what a call of a def of the text does -/
noncomputable def WCall (g : G) (d : Nat) (fn : Addr) (args : List V) (Q : V → MH → Prop) (X : MH → Prop) (σ : MH) : Prop :=
  ∀ A fl s δ rargs, Good0 d A fl → CS g fl σ δ s → VsRel s.heap args rargs → codeAny (model g.prog g.w) A (.call (.ref fn) ⟨rargs, []⟩) (CRes g fl σ δ s.heap Q X) s
section
variable {g : G} {fl : List Env} {σ : MH} {δ : DM}
theorem WCall.mono {d fn args} {Q Q' : V → MH → Prop} {X X' : MH → Prop} (h : WCall g d fn args Q X σ) (k : ∀ v σ, Q v σ → Q' v σ) (kx : ∀ σ, X σ → X' σ) : WCall g d fn args Q' X' σ := fun A fl s δ ra G C hv =>
  codeAny_mono (h A fl s δ ra G C hv) fun r s' z => by
    cases r with
    | error e => exact Flies.mono kx z
    | ok w =>
      cases w with
      | ret rv => obtain ⟨v, σ', δ', h1, h2, h3, h4⟩ := z; exact ⟨v, σ', δ', h1, h2, h3, k _ _ h4⟩
      | _ => exact z.elim
theorem WCall.le {d d' fn args} {Q : V → MH → Prop} {X : MH → Prop} (h : WCall g d fn args Q X σ) (k : d ≤ d') : WCall g d' fn args Q X σ := fun A fl s δ ra G C hv => h A fl s δ ra (G.le k) C hv
theorem Fl.cons {env : Env} {fl : List Env} {b L : Addr} (hf : env.frame = some L) : Fl (env :: fl) b ↔ b = L ∨ Fl fl b := by
  unfold Fl frameAddrs
  rw [List.filterMap_cons, hf]
  exact List.mem_cons

theorem FliesAt.funFrames {fl fa h ea σ' δ' hr B Z h'} (x : FliesAt g fl fa σ δ h ea σ' δ' hr B Z h') : h'.FunFrames B fl := by
  have aux : ∀ l : List Env, (∀ e ∈ l, e ∈ fl) → h'.FunFrames B l := by
    intro l
    induction l with
    | nil => intro _; trivial
    | cons e r ih =>
      intro hl
      obtain ⟨hk, L, o, es, n, h1, h2, h3, h4, h5, h6, _⟩ := x.fr.all e (hl e (.head _))
      have hz := x.outB L (x.flZ L (List.mem_filterMap.mpr ⟨e, hl e (.head _), h1⟩))
      have nf : ∀ vs, o.data ≠ .fields vs := fun vs z => by rw [h5] at z; cases z
      obtain ⟨sl, q⟩ := x.upto L o h4 nf
      exact ⟨hk, ⟨L, _, h1, hz, q, nf⟩, ih fun e he => hl e (.tail _ he)⟩
  exact aux fl fun _ h => h

/-- a frame below a call: heap, frame objects, locals -/
structure NewFr (g : G) (s : Shared) (h0 : Heap) (f : Frm) (L : Addr) (l : Loc) : Prop where
  k : ∀ b o, s.heap.get? b = some o → h0.get? b = some o
  envOk : EnvOk f
  loc : LocOk f.env l h0
  fa : ∀ b ∈ f.fa, s.heap.objs.size ≤ b ∧ ∃ o, h0.get? b = some o ∧ ¬ IsTup o
  frame : f.env.frame = some L
  inFa : L ∈ f.fa
  isNs : ∃ m, h0.Ns L m
theorem NewFr.out {s h0 f L l} (N : NewFr g s h0 f L l) {b : Addr} (hb : b ∈ f.fa) : s.heap.get? b = none := fresh_get (N.fa b hb).1
theorem NewFr.back {s h0 f L l} (N : NewFr g s h0 f L l) {b : Addr} (z : h0.get? b = none) : s.heap.get? b = none := isNone_of fun o e => some_not_none (N.k b o e) z
/-- what the body moves, seen from above the call -/
theorem NewFr.evo {s h0 f L l σ' δ' h'} (N : NewFr g s h0 f L l) (E : Evo (f.env :: fl) f.fa σ δ h0 σ' δ' h') : Evo fl [] σ δ s.heap σ' δ' h' := by
  have nf : ∀ b o, s.heap.get? b = some o → b ∉ f.fa := fun b o e z => some_not_none e (N.out z)
  refine ⟨fun b o e n _ q => E.slots b o (N.k b o e) n (nf b o e) ((Fl.cons N.frame).mpr (.inr q)), fun b o e n _ q => E.keep b o (N.k b o e) n (nf b o e) fun z => ?_, fun b q => (E.own b q).imp_right N.back, fun b q => (E.dom b q).imp_right N.back, fun b o e => E.live b o (N.k b o e)⟩
  exact ((Fl.cons N.frame).mp z).elim (fun w => nf b o e (w ▸ N.inFa)) q
theorem NewFr.fs {s h0 f L l} {tk : Nat} (N : NewFr g s h0 f L l) (C : CS g fl σ δ s) : FS ⟨g, f.env :: fl, f⟩ l σ δ { s with heap := h0, toks := tk } := by
  have e0 := fresh_get (Nat.le_refl s.heap.objs.size)
  have k' : But s.heap.objs.size s.heap h0 := fun b o e _ => N.k b o e
  have nt : NoTup s.heap s.heap.objs.size := fun o e => some_not_none e e0
  have fo : ∀ b, s.heap.objs.size ≤ b → g.base.get? b = none ∧ ¬ Dom σ δ b := fun b hb => by
    refine ⟨isNone_of fun y z => some_not_none (C.sim.keep b y z) (fresh_get hb), fun q => ?_⟩
    cases q with
    | obj o q => exact some_not_none q (C.sim.freshσ hb)
    | dict a q => exact some_not_none q (C.sim.freshδ hb)
  refine ⟨⟨fun b o e => N.k b o (C.sim.keep b o e), fun b o e => (C.sim.rep b o e).but k' nt (fun z => ?_) fun d q => ⟨fun z => ?_, q⟩, C.sim.new, fun d b e => ?_⟩, N.envOk, N.loc, fun b hb => ?_, ⟨fun e he => ?_⟩, C.gens, C.os⟩
  · exact some_not_none e (z ▸ C.sim.freshσ (Nat.le_refl _))
  · exact some_not_none q (z ▸ C.sim.freshδ (Nat.le_refl _))
  · obtain ⟨q, q2, ox, q3, q4⟩ := C.sim.aux d b e
    exact ⟨q, q2, ox, N.k _ _ q3, q4⟩
  · obtain ⟨h1, h2⟩ := N.fa b hb
    exact ⟨(fo b h1).1, (fo b h1).2, h2⟩
  · rcases List.mem_cons.mp he with rfl | he
    · obtain ⟨m, o, es, n, h1, h2, h3, _⟩ := N.isNs
      have h4 := N.fa L N.inFa
      exact ⟨fun z => (by rw [N.envOk.kind] at z; cases z), L, o, es, n, N.frame, (fo L h4.1).1, (fo L h4.1).2, h1, h2, notTup_dict h2, h3⟩
    · obtain ⟨kk, L, o, es, n, q1, q2, q3, q4, q5, q6, q7⟩ := C.fr.all e he
      exact ⟨kk, L, o, es, n, q1, q2, q3, N.k _ _ q4, q5, q6, q7⟩

/-- the exception leaves the frame -/
theorem leave_flies {A : Around} {s s' : Shared} {h0 : Heap} {f : Frm} {L : Addr} {l : Loc} {X : MH → Prop} {e : Value} {E : Value → Shared → Prop} (hA : A.frames = some fl) (N : NewFr g s h0 f L l) (x : Flies g (f.env :: fl) f.fa σ δ h0 X e s') :
    wpAny (model g.prog g.w) (A.deeper f.env) (leaving f.env e) (fun _ s'' => Flies g fl [] σ δ s.heap X e s'') E s' := by
  obtain ⟨ea, σ', δ', hr, B, Z, rfl, hX, x, hg, ho⟩ := x
  have fin : ∀ h', B.StaysIn h' → s'.heap.UpToSlots h' → (∃ a0, h'.TracedW B ea (.ref g.cX) a0) → Flies g fl [] σ δ s.heap X (.ref ea) { s' with heap := h' } := by
    intro h' st up ⟨a0, tr⟩
    refine ⟨ea, σ', δ', hr, B, Z, rfl, hX, ⟨x.sim, ⟨fun e he => x.fr.all e (.tail _ he)⟩, N.evo x.evo, x.inB, x.ofB, fun z hz => ?_, fun z hz => x.flZ z ((Fl.cons N.frame).mpr (.inr hz)), x.outB, st, x.upto.trans up, x.fresh, .traced a0 tr⟩, hg, ho⟩
    have y := x.zs z hz
    refine { y with whose := ?_ }
    rcases y.whose with a | a | a
    · exact ((Fl.cons N.frame).mp a).elim (fun a => .inr (.inl (a ▸ N.out N.inFa))) .inl
    · exact .inr (.inl (N.back a))
    · exact .inr (.inl (N.out a))
  cases x.exc with
  | plain a0 oe vs h1 h2 h3 h4 h5 =>
    refine wpAny_leaving_firstW (Around.frames_deeper hA) x.funFrames N.frame h1 x.stays x.fresh h3 h5 h4 fun h' ⟨q1, q2, q3, q4⟩ => ?_
    rw [h2] at q3
    exact fin h' q1 q4 ⟨a0, q3⟩
  | traced a0 tr => exact wpAny_leaves_onW (Around.frames_deeper hA) N.frame ⟨x.stays, x.fresh, x.funFrames, tr⟩ fun h' q1 q2 => fin h' q1.1 q2 ⟨a0, q1.2.2.2⟩
theorem Good0.deeper {d A} (x : Good0 (d + 1) A fl) (env : Env) : Good0 d (A.deeper env) (env :: fl) :=
  ⟨Around.frames_deeper x.frames, x.handled, by show A.depth + 1 + d ≤ 900; have := x.depth; lia, by show A.units + 3 + 10 * d ≤ 9000; have := x.units; lia⟩
noncomputable def retQ (Q : V → MH → Prop) : Fw → Loc → MH → Prop
  | .ret v, _, σ => Q v σ
  | .next, _, σ => Q .none σ
  | _, _, _ => False
/-- the body of a call -/
theorem NewFr.body {d : Nat} {A : Around} {s : Shared} {h0 : Heap} {f : Frm} {L : Addr} {l : Loc} {tk : Nat} {Q : V → MH → Prop} {X : MH → Prop} {body : List PySem.Stmt} (N : NewFr g s h0 f L l) (C : CS g fl σ δ s) (G : Good0 (d + 1) A fl)
    (h : WS ⟨⟨g, f.env :: fl, f⟩, d, X⟩ body (retQ Q) l σ) :
    wpAny (model g.prog g.w) (A.deeper f.env) (execs body f.env) (fun fw s' => CRes g fl σ δ s.heap Q X (.ok (.ret (match fw with | .ret v => v | _ => .none))) s')
      (fun e s' => wpAny (model g.prog g.w) (A.deeper f.env) (leaving f.env e) (fun _ s'' => CRes g fl σ δ s.heap Q X (.error e) s'') (fun e' s'' => CRes g fl σ δ s.heap Q X (.error e') s'') s') { s with heap := h0, toks := tk } := by
  refine wpAny_mono (h (A.deeper _) _ δ (G.deeper _) (N.fs C)) (fun fw s' ⟨w, l', σ', δ', hR, F', E', q⟩ => ?_) (fun e s' x => leave_flies G.frames N x)
  have cs : CS g fl σ' δ' s' := ⟨F'.sim, ⟨fun e he => F'.fr.all e (.tail _ he)⟩, F'.gens, F'.os⟩
  have ev := N.evo E'
  cases hR with
  | next => exact ⟨.none, σ', δ', .none, cs, ev, q⟩
  | brk => exact q.elim
  | cont => exact q.elim
  | ret hv => exact ⟨_, σ', δ', hv, cs, ev, q⟩

inductive BdRel (h : Heap) : List (Str × V) → List (Str × Value) → Prop
  | nil : BdRel h [] []
  | cons {x v r bs rs} (hv : VRel h v r) (hs : BdRel h bs rs) : BdRel h ((x, v) :: bs) ((x, r) :: rs)
noncomputable def bindLoc (bs : List (Str × V)) : Loc := fun x => bs.reverse.lookup x
section
variable {h h' : Heap} {bs : List (Str × V)} {rs : List (Str × Value)}
theorem BdRel.snoc {x : Str} {v : V} {r : Value} (hv : VRel h v r) (y : BdRel h bs rs) : BdRel h (bs ++ [(x, v)]) (rs ++ [(x, r)]) := by
  induction y with
  | nil => exact .cons hv .nil
  | cons a _ ih => exact .cons a ih
theorem BdRel.rev (y : BdRel h bs rs) : BdRel h bs.reverse rs.reverse := by
  induction y with
  | nil => exact .nil
  | cons a _ ih => rw [List.reverse_cons, List.reverse_cons]; exact BdRel.snoc a ih
theorem BdRel.look (y : BdRel h bs rs) {x v} (e : bs.lookup x = some v) : ∃ r, rs.lookup x = some r ∧ VRel h v r := by
  induction y with
  | nil => cases e
  | cons a _ ih =>
    rw [List.lookup_cons] at e ⊢
    split at e
    · cases e; exact ⟨_, rfl, a⟩
    · exact ih e
theorem BdRel.names (y : BdRel h bs rs) : rs.map (·.1) = bs.map (·.1) := by
  induction y with
  | nil => rfl
  | cons a _ ih => rw [List.map_cons, List.map_cons, ih]
end
noncomputable def fnK (K : Frag) (fn : Addr) (fd : FuncData) : Prop := X3 fun oc od sl => K.lookup fn = some ⟨oc, od, .func fd, sl⟩

/-- a call: the body from its first locals on -/
theorem WCall.enter {d fn args} {Q : V → MH → Prop} {X : MH → Prop} {fd : FuncData} {body : List PySem.Stmt} {bs : List (Str × V)} (hfn : fnK g.K fn fd) (hcd : codeIn g.K fd.code fd.qualname = true) (hbody : fd.body = .stmts body)
    (hgl : fd.globals = mainGlobals) (hbu : fd.builtins = builtinsNs)
    (hb : ∀ (s : Shared) rargs, g.K.In s.heap → VsRel s.heap args rargs → ∃ rs, BindsTo s fd ⟨rargs, []⟩ rs ∧ BdRel s.heap bs rs)
    (hcell : ∀ x ∈ fd.scope.names, x.2 ≠ .cell) (hloc : ∀ x ∈ bs, fd.scope.names.lookup x.1 = some .local)
    (hco : fd.scope.isCoroutine = false) (hgen : fd.scope.isGenerator = false) (hk : fd.scope.kind = .function)
    (h : ∀ L fl, WS ⟨⟨g, callEnv fd L fn :: fl, ⟨callEnv fd L fn, [L]⟩⟩, d, X⟩ body (retQ Q) (bindLoc bs) σ) : WCall g (d + 1) fn args Q X σ := fun A fl s δ rargs G C hv => by
  obtain ⟨oc, od, sl, hl⟩ := hfn
  have KI : g.K.In s.heap := g.inK.keeps C.sim.keep
  obtain ⟨rs, hb1, hb2⟩ := hb s rargs KI hv
  have hlr : ∀ x ∈ rs, fd.scope.names.lookup x.1 = some .local := fun x hx => by
    have : x.1 ∈ bs.map (·.1) := by rw [← hb2.names]; exact List.mem_map_of_mem hx
    obtain ⟨y, hy, e⟩ := List.mem_map.mp this
    rw [← e]; exact hloc y hy
  refine codeAny_call_def (body := body) (by have := G.depth; show A.depth < 1000; lia) (KI _ _ hl) rfl (g.top.nolimit.keeps C.sim.keep) (codeRec_of KI hcd) hbody hb1 hcell hlr (fun h0 hn hk0 => ?_) hco hgen hk
  obtain ⟨oL, es, ep, h1, h2, h3, h4⟩ := id hn
  refine NewFr.body (f := ⟨callEnv fd s.heap.objs.size fn, [s.heap.objs.size]⟩) ⟨hk0, ⟨hk, hgl, hbu, .head _⟩, ⟨_, hn, fun x v e => ?_, fun x c q => absurd rfl (hcell _ (mem_of_lookup q))⟩, fun b hb => ?_, rfl, .head _, ⟨_, hn⟩⟩ C G (h _ _)
  · obtain ⟨r, e1, e2⟩ := hb2.rev.look e
    exact .loc (hloc (x, v) (List.mem_reverse.mp (mem_of_lookup e))) r e1 (e2.mono fun b o e _ => hk0 b o e)
  · rw [List.mem_singleton.mp hb]; exact ⟨Nat.le_refl _, oL, h1, notTup_dict h2⟩

/-! a call of a def with cells -/
section
variable {k : Str → Option NameKind}
theorem bindL_other {x : Str} : ∀ {rs : List (Str × Value)} {m : Str → Option Value}, x ∉ rs.map (·.1) → bindL k rs m x = m x
  | [], _, _ => rfl
  | (n, v) :: r, m, h => by
    unfold bindL
    rw [bindL_other fun z => h (.tail _ z)]
    split
    · exact if_neg fun z : x = n => h (z ▸ .head _)
    · rfl
theorem bindC_other {x : Str} : ∀ {rs : List (Str × Value)} {m : Str → Option Value}, x ∉ rs.map (·.1) → bindC k rs m x = m x
  | [], _, _ => rfl
  | (n, v) :: r, m, h => by
    unfold bindC
    rw [bindC_other fun z => h (.tail _ z)]
    split
    · rfl
    · exact if_neg fun z : x = n => h (z ▸ .head _)
theorem bindL_mem {x : Str} {v : Value} (hk : k x = some .local) : ∀ {rs : List (Str × Value)} {m : Str → Option Value}, (rs.map (·.1)).Nodup → (x, v) ∈ rs → bindL k rs m x = some v
  | (n, w) :: r, m, nd, h => by
    rw [List.map_cons, List.nodup_cons] at nd
    unfold bindL
    rcases List.mem_cons.mp h with h | h
    · cases h
      rw [bindL_other nd.1, if_pos hk]; exact if_pos rfl
    · exact bindL_mem hk nd.2 h
theorem bindC_mem {x : Str} {v : Value} (hk : k x ≠ some .local) : ∀ {rs : List (Str × Value)} {m : Str → Option Value}, (rs.map (·.1)).Nodup → (x, v) ∈ rs → bindC k rs m x = some v
  | (n, w) :: r, m, nd, h => by
    rw [List.map_cons, List.nodup_cons] at nd
    unfold bindC
    rcases List.mem_cons.mp h with h | h
    · cases h
      rw [bindC_other nd.1, if_neg hk]; exact if_pos rfl
    · exact bindC_mem hk nd.2 h
end
theorem cellsFrom_some {x : Str} : ∀ (names : List (Str × NameKind)) (n : Nat) (acc : List (Str × Addr)), ((x, NameKind.cell) ∈ names ∨ ∃ c, acc.lookup x = some c) → ∃ c, (cellsFrom n names acc).lookup x = some c
  | [], _, _, h => h.elim (fun h => nomatch h) id
  | (y, k) :: r, n, acc, h => by
    unfold cellsFrom
    split
    · refine cellsFrom_some r _ _ ?_
      by_cases z : x = y
      · exact .inr ⟨_, by rw [List.lookup_cons, z, beq_self_eq_true]⟩
      · exact h.elim (fun h => .inl ((List.mem_cons.mp h).elim (fun e => (z (Prod.mk.inj e).1).elim) id)) fun ⟨c, h⟩ => .inr ⟨c, by rw [List.lookup_cons, beq_eq_false_iff_ne.mpr z]; exact h⟩
    · rename_i hk
      exact cellsFrom_some r _ _ (h.imp_left fun h => (List.mem_cons.mp h).elim (fun e => absurd (show (k == NameKind.cell) = true by rw [← (Prod.mk.inj e).2]; rfl) hk) id)
noncomputable def cellAddrs (fd : FuncData) (L : Addr) : List Addr := (fd.scope.names.filter fun x => x.2 == .cell).filterMap fun x => (cellsFrom (L + 1) fd.scope.names []).lookup x.1
theorem mem_cellAddrs {fd : FuncData} {L c : Addr} : c ∈ cellAddrs fd L ↔ ∃ x, (x, NameKind.cell) ∈ fd.scope.names ∧ (cellsFrom (L + 1) fd.scope.names []).lookup x = some c := by
  unfold cellAddrs
  rw [List.mem_filterMap]
  constructor
  · rintro ⟨⟨x, k⟩, h1, h2⟩
    obtain ⟨h3, h4⟩ := List.mem_filter.mp h1
    have hk : k = .cell := by cases k <;> first | rfl | cases h4
    exact ⟨x, hk ▸ h3, h2⟩
  · rintro ⟨x, h1, h2⟩
    exact ⟨(x, .cell), List.mem_filter.mpr ⟨h1, rfl⟩, h2⟩
theorem WCall.enterC {d fn args} {Q : V → MH → Prop} {X : MH → Prop} {fd : FuncData} {body : List PySem.Stmt} {bs : List (Str × V)} (hfn : fnK g.K fn fd) (hcd : codeIn g.K fd.code fd.qualname = true) (hbody : fd.body = .stmts body)
    (hgl : fd.globals = mainGlobals) (hbu : fd.builtins = builtinsNs) (hclo : fd.closure = [])
    (hb : ∀ rargs : List Value, rargs.length = args.length → ∃ rs, bindArgs fd ⟨rargs, []⟩ = pure rs ∧ ∀ h, VsRel h args rargs → BdRel h bs rs)
    (hnd : (bs.map (·.1)).Nodup) (hloc : ∀ x ∈ bs, fd.scope.names.lookup x.1 = some .local ∨ fd.scope.names.lookup x.1 = some .cell)
    (hco : fd.scope.isCoroutine = false) (hgen : fd.scope.isGenerator = false) (hk : fd.scope.kind = .function)
    (h : ∀ L fl, CellsOwn ⟨callEnvC fd L fn, L :: cellAddrs fd L⟩ → WS ⟨⟨g, callEnvC fd L fn :: fl, ⟨callEnvC fd L fn, L :: cellAddrs fd L⟩⟩, d, X⟩ body (retQ Q) (bindLoc bs) σ) : WCall g (d + 1) fn args Q X σ := fun A fl s δ rargs G C hv => by
  obtain ⟨oc, od, sl, hl⟩ := hfn
  have KI : g.K.In s.heap := g.inK.keeps C.sim.keep
  obtain ⟨rs, hb1, hb2⟩ := hb rargs hv.length
  have hb2' := hb2 _ hv
  have hnames := hb2'.names
  have hcs : ∀ x, fd.scope.names.lookup x = some .cell → ∃ c, (cellsFrom (s.heap.objs.size + 1) fd.scope.names []).lookup x = some c := fun x e => cellsFrom_some _ _ _ (.inl (mem_of_lookup e))
  have hlr : ∀ x ∈ rs, fd.scope.names.lookup x.1 = some .local ∨ (fd.scope.names.lookup x.1 = some .cell ∧ ((cellsFrom (s.heap.objs.size + 1) fd.scope.names []).lookup x.1).isSome = true) := fun x hx => by
    have : x.1 ∈ bs.map (·.1) := by rw [← hnames]; exact List.mem_map_of_mem hx
    obtain ⟨y, hy, e⟩ := List.mem_map.mp this
    rw [← e]
    exact (hloc y hy).imp id fun q => ⟨q, Option.isSome_iff_exists.mpr (hcs _ q)⟩
  refine codeAny_call_cells (body := body) (by have := G.depth; show A.depth < 1000; lia) (KI _ _ hl) rfl (g.top.nolimit.keeps C.sim.keep) (codeRec_of KI hcd) hbody hb1 hclo hlr (fun s1 I => ?_) hco hgen hk
  obtain ⟨⟨⟨h0, tk, rfl⟩, hn, hk0, hfr⟩, hcell, hapart, habove⟩ := I
  obtain ⟨oL, es, ep, h1, h2, h3, h4⟩ := id hn
  have cellAt : ∀ x c, (callEnvC fd s.heap.objs.size fn).cells.lookup x = some c → s.heap.objs.size < c := fun x c e => habove x c (mem_of_lookup e)
  have own : CellsOwn ⟨callEnvC fd s.heap.objs.size fn, s.heap.objs.size :: cellAddrs fd s.heap.objs.size⟩ := fun x e => by
    obtain ⟨c, hc⟩ := hcs x e
    exact ⟨c, hc, .tail _ (mem_cellAddrs.mpr ⟨x, mem_of_lookup e, hc⟩), fun y hy => name_of_addr hapart (mem_of_lookup hy) (mem_of_lookup hc)⟩
  have hndr : (rs.map (·.1)).Nodup := by rw [hnames]; exact hnd
  have kt : ∀ b o, s.heap.get? b = some o → IsTup o → h0.get? b = some o := fun b o e _ => hk0 b o e
  refine NewFr.body (f := ⟨callEnvC fd s.heap.objs.size fn, s.heap.objs.size :: cellAddrs fd s.heap.objs.size⟩) ⟨hk0, ⟨hk, hgl, hbu, .head _⟩, ⟨_, hn, fun x v e => ?_, fun x c q e => ⟨_, hcell x c e⟩⟩, fun b hb => ?_, rfl, .head _, ⟨_, hn⟩⟩ C G (h _ _ own)
  · obtain ⟨r, e1, e2⟩ := hb2'.rev.look e
    have hm : (x, r) ∈ rs := List.mem_reverse.mp (mem_of_lookup e1)
    rcases hloc _ (List.mem_reverse.mp (mem_of_lookup e)) with q | q
    · exact .loc q r (bindL_mem q hndr hm) (e2.mono kt)
    · obtain ⟨c, hc⟩ := hcs x q
      have := hcell x c hc
      rw [bindC_mem (fun z => by rw [show (callEnvC fd s.heap.objs.size fn).kindOf x = fd.scope.names.lookup x from rfl, q] at z; cases z) hndr hm] at this
      exact .cell (.inl q) c r hc this (e2.mono kt)
  · rcases List.mem_cons.mp hb with rfl | hb
    · exact ⟨Nat.le_refl _, oL, h1, notTup_dict h2⟩
    · obtain ⟨y, _, hy⟩ := mem_cellAddrs.mp hb
      obtain ⟨oc', w1, w2⟩ := hcell y b hy
      exact ⟨Nat.le_of_lt (cellAt y b hy), oc', w1, notTup_cell w2⟩
end
end Mn
set_option genInjectivity false
namespace Mn
open PySem.SeqAt

theorem notTup_slots {o : Obj} {sl} (h : ¬ IsTup o) : ¬ IsTup { o with slots := sl } := fun ⟨a, vs, n, b⟩ => h ⟨a, vs, n, b⟩
theorem Evo.weak {fl} {fa fa' : List Addr} {σ δ h σ' δ' h'} (E : Evo fl fa σ δ h σ' δ' h') (k : ∀ b ∈ fa, b ∈ fa') : Evo fl fa' σ δ h σ' δ' h' :=
  ⟨fun b o e n q => E.slots b o e n fun z => q (k b z), fun b o e n q => E.keep b o e n fun z => q (k b z), E.own, E.dom, E.live⟩
theorem Flies.weak {g fl} {fa fa' : List Addr} {σ δ h X ev s'} (k : ∀ b ∈ fa, b ∈ fa') (x : Flies g fl fa σ δ h X ev s') : Flies g fl fa' σ δ h X ev s' := by
  obtain ⟨ea, σ', δ', hr, B, Z, e, x, y, a, b⟩ := x
  refine ⟨ea, σ', δ', hr, B, Z, e, x, { y with evo := y.evo.weak k, zs := fun z hz => ?_ }, a, b⟩
  have w := y.zs z hz
  exact { w with whose := w.whose.imp_right fun a => a.imp_right (k _) }
section
variable {κ : Cx} {l : Loc} {σ σ' : MH} {δ δ' : DM} {s s' : Shared} {Q : V → Loc → MH → Prop}
/-- what a callee or a comprehension's frame owns of ours: nothing -/
structure Apart (f : Frm) (h : Heap) (c : Addr) : Prop where
  fa : c ∉ f.fa
  at_ : ∃ o, h.get? c = some o ∧ ¬ IsTup o
  cell : ∀ v, ¬ h.IsCell c v
theorem FS.afterG {φ : Fx} {fa' : List Addr} (F : FS φ l σ δ s) (C : CS φ.g φ.fl σ' δ' s') (E : Evo φ.fl fa' σ δ s.heap σ' δ' s'.heap) (hfa : ∀ c ∈ fa', Apart φ.f s.heap c) : FS φ l σ' δ' s' := by
  have at_ : ∀ b o, b ∈ φ.f.fa → s.heap.get? b = some o → ¬ Dom σ δ b → ∃ sl, s'.heap.get? b = some { o with slots := sl } := fun b o hb e n => by
    by_cases q : Fl φ.fl b
    · exact E.slots b o e (fun z => n z.dom) (fun z => (hfa b z).fa hb) q
    · exact ⟨o.slots, E.keep b o e (fun z => n z.dom) (fun z => (hfa b z).fa hb) q⟩
  have kt := E.tups F.sim (fun b hb => (hfa b hb).at_) F.fr
  have kc : ∀ c v, s.heap.IsCell c v → s'.heap.IsCell c v := fun c v ⟨oc, h2, h3⟩ => by
    refine ⟨oc, E.keep c oc h2 (fun z => ?_) (fun z => (hfa c z).cell v ⟨oc, h2, h3⟩) fun z => ?_, h3⟩
    · obtain ⟨o, c1, _, c3⟩ := F.sim.ownAt z
      rw [h2] at c1; cases c1; exact c3 _ h3
    · obtain ⟨_, _, o2, es2, n2, q1, q2, _⟩ := F.fr.at z
      rw [h2] at q1; cases q1; rw [h3] at q2; cases q2
  refine ⟨C.sim, F.envOk, ?_, fun b hb => ?_, C.fr, C.gens, C.os⟩
  · obtain ⟨m, ⟨o, es, ep, ho, r⟩, hl, hce⟩ := F.loc
    obtain ⟨sl, q⟩ := at_ _ o F.envOk.locals ho (F.fa _ F.envOk.locals).dom
    refine ⟨m, ⟨_, es, ep, q, r⟩, fun y v hy => ?_, fun y c k e => ?_⟩
    · cases hl y v hy with
      | loc hk rv h1 h2 => exact .loc hk rv h1 (h2.mono kt)
      | cell hk c rv h1 h2 h3 => exact .cell hk c rv h1 (kc _ _ h2) (h3.mono kt)
    · obtain ⟨v0, h2⟩ := hce y c k e
      exact ⟨v0, kc _ _ h2⟩
  · obtain ⟨h1, h2, o, h3, h4⟩ := F.fa b hb
    obtain ⟨sl, q⟩ := at_ _ o hb h3 h2
    exact ⟨h1, E.notDom h3 h2, _, q, notTup_slots h4⟩
theorem FS.after {φ : Fx} (F : FS φ l σ δ s) (C : CS φ.g φ.fl σ' δ' s') (E : Evo φ.fl [] σ δ s.heap σ' δ' s'.heap) : FS φ l σ' δ' s' := F.afterG C E fun _ h => nomatch h

/-- a call of a value upon values -/
noncomputable def tcall (rs : List Value) : Sem Value := call (rs.getD 0 .none) (rs.drop 1)
theorem PV.fn {d fn args} {Q : V → MH → Prop} (h : WCall κ.φ.g d fn args Q κ.X σ) (hd : d ≤ κ.d) : PV κ tcall (.ref fn :: args) Q σ := fun A s δ l rs G F hv => by
  obtain ⟨rf, ra, hf, hvs⟩ := hv.cons_inv
  rw [hf.ref_inv]
  refine wpAny_call (codeAny_mono (h A κ.φ.fl s δ ra (G.le hd) F.cs hvs) fun r s' z => ?_)
  cases r with
  | error e => exact Flies.weak (fa := []) (fun _ h => nomatch h) z
  | ok w =>
    cases w with
    | ret rv =>
      obtain ⟨v, σ', δ', h1, h2, h3, h4⟩ := z
      exact ⟨v, l, σ', δ', h1, F.after h2 h3, h3.weak (fun _ h => nomatch h), rfl, h4⟩
    | _ => exact z.elim

/-- arguments from left to right -/
noncomputable def WArgs (κ : Cx) (es : List PySem.Expr) (Q : List V → Loc → MH → Prop) (l : Loc) (σ : MH) : Prop :=
  ∀ A s δ pos, Good κ A → FS κ.φ l σ δ s → At VsRel κ A (spliced (backTo pos (starEach es κ.φ.f.env))) Q σ δ s
theorem WArgs.nil {Q : List V → Loc → MH → Prop} (h : Q [] l σ) : WArgs κ [] Q l σ := fun _ _ _ _ _ F => spliced_nil (Ok.here F .nil h)
theorem WArgs.cons {e rest} {Q : List V → Loc → MH → Prop} (h : WE κ e (fun v l1 σ1 => WArgs κ rest (fun vs l2 σ2 => Q (v :: vs) l2 σ2) l1 σ1) l σ)
    (he : starEach (e :: rest) κ.φ.f.env = (false, eval e κ.φ.f.env) :: starEach rest κ.φ.f.env) : WArgs κ (e :: rest) Q l σ := fun A s δ pos G F => by
  rw [he]
  refine spliced_cons (wpAny_mono (h A s δ G F) (fun rv s1 ⟨v, l1, σ1, δ1, hR, F1, E1, q1⟩ => ?_) fun _ _ e => e)
  exact wpAny_mono (q1 A s1 δ1 pos G F1) (fun rvs s2 ⟨vs, l2, σ2, δ2, hR2, F2, E2, q2⟩ => ⟨v :: vs, l2, σ2, δ2, .cons (hR.evo F1 E2) hR2, F2, E1.trans E2, q2⟩) fun _ _ e => e.trans E1

noncomputable def keepV (K : Frag) : V → Bool
  | .ref a => keepIn K (.ref a)
  | .typ _ => true
  | .bi _ => true
  | _ => false
theorem keepV_of {K : Frag} {fv : V} {rf : Value} {h0 : Heap} (hk : keepV K fv = true) (hR : VRel h0 fv rf) (h : Heap) (Y : K.In h) {M : Model} : ∃ k, (k = Keeper.frame ∨ k = Keeper.machine ∨ k = Keeper.boundFrame) ∧ Looks M h (keeperOf rf) k := by
  cases fv with
  | typ n => rw [hR.typ_inv]; exact ⟨.machine, .inr (.inl rfl), Looks.of_pure rfl⟩
  | bi n => rw [hR.bi_inv]; exact ⟨.machine, .inr (.inl rfl), Looks.of_pure rfl⟩
  | ref a => rw [hR.ref_inv]; exact keeps_K (show keepIn K (.ref a) = true from hk) h Y
  | _ => cases hk
theorem evalArgs_nil {M : Model} {A : Around} {s : Shared} {E : Value → Shared → Prop} {f : Value} {Q : Args → Shared → Prop} (h : wpAny M A (spliced []) (fun vs s' => Q ⟨vs, []⟩ s') E s) : wpAny M A (evalArgs f true [] []) Q E s := by
  unfold evalArgs
  show wpAny M A (spliced [] >>= _) Q E s
  refine wpAny_bind (wpAny_mono h (fun vs s' h' => wpAny_bind (wpAny_pure ?_)) fun _ _ x => x)
  refine wpAny_holding ?_
  exact wpAny_bind (wpAny_pure (wpAny_bind (wpAny_pure (wpAny_pure h'))))
theorem any_back {pos : Pos} : ∀ {xs : List (Bool × Sem Value)}, xs.all (fun x => !x.1) = true → ((backTo pos xs).any (·.1)) = false
  | [], _ => rfl
  | x :: r, hx => by
    rw [List.all_cons, Bool.and_eq_true, Bool.not_eq_true'] at hx
    show (x.1 || (backTo pos r).any (·.1)) = false
    rw [hx.1, any_back hx.2]; rfl
theorem callWith_at {A : Around} {pos : Pos} {fv : V} {rf : Value} {first : List V} {rfirst : List Value} {args : List PySem.Expr} (G : Good κ A) (F : FS κ.φ l σ δ s) (hk : keepV κ.φ.g.K fv = true) (hR : VRel s.heap fv rf) (hF : VsRel s.heap first rfirst)
    (h : WArgs κ args (fun vs l2 σ2 => PV κ tcall (fv :: (first ++ vs)) (fun v σ3 => Q v l2 σ3) σ2) l σ)
    (hplain : (starEach args κ.φ.f.env).all (fun x => !x.1) = true) : At VRel κ A (callWith pos rf rfirst (backTo pos (starEach args κ.φ.f.env)) []) Q σ δ s := by
  refine callWith_of (P := fun h => κ.φ.g.K.In h) (by rw [any_back hplain]; rfl) (fun h Y => keepV_of hk hR h Y) ?_
  have fin : wpAny (model κ.φ.g.prog κ.φ.g.w) A (spliced (backTo pos (starEach args κ.φ.f.env))) (fun vs s₁ => κ.φ.g.K.In s₁.heap ∧ wpAny (model κ.φ.g.prog κ.φ.g.w) A (call rf (rfirst ++ vs)) (Ok VRel κ.φ σ δ s.heap Q) (FlX κ σ δ s.heap) s₁) (FlX κ σ δ s.heap) s := by
    refine wpAny_mono (h A s δ pos G F) (fun rvs s1 ⟨vs, l1, σ1, δ1, hR1, F1, E1, q1⟩ => ⟨F1.inK, ?_⟩) fun _ _ e => e
    exact wpAny_mono (q1.run G F1 (.cons (hR.evo F E1) ((hF.evo F E1).append hR1))) (fun rv s2 ⟨v, l2, σ2, δ2, hR2, F2, E2, q2⟩ => ⟨v, l2, σ2, δ2, hR2, F2, E1.trans E2, q2⟩) fun _ _ e => e.trans E1
  cases hs : starEach args κ.φ.f.env with
  | nil =>
    rw [hs] at fin
    exact evalArgs_nil fin
  | cons x r =>
    rw [hs] at fin hplain
    obtain ⟨b, t⟩ := x
    rw [List.all_cons, Bool.and_eq_true, Bool.not_eq_true'] at hplain
    obtain ⟨rfl, _⟩ := hplain
    exact evalArgs_plain fin
theorem WE.call {fe : PySem.Expr} {args pos} (h : WE κ fe (fun fv l1 σ1 => keepV κ.φ.g.K fv = true ∧ WArgs κ args (fun vs l2 σ2 => PV κ tcall (fv :: vs) (fun v σ3 => Q v l2 σ3) σ2) l1 σ1) l σ)
    (he : eval (.Call fe args [] pos) κ.φ.f.env = (do callWith pos (← eval fe κ.φ.f.env) [] (backTo pos (starEach args κ.φ.f.env)) []))
    (hp : (starEach args κ.φ.f.env).all (fun x => !x.1) = true) : WE κ (.Call fe args [] pos) Q l σ := fun A s δ G F => by
  rw [he]
  exact At.bind (h A s δ G F) fun fv rf l1 σ1 δ1 s1 hR F1 E1 q1 => callWith_at (first := []) G F1 q1.1 hR .nil q1.2 hp

/-- where a method is found -/
inductive MethAt (κ : Cx) (name : Str) (σ : MH) (k : V → List V → Prop) : V → Prop
  | inst (a C : Addr) (fs : List (Str × V)) (fn : Addr) (hσ : σ a = some (.inst C fs)) (hm : methK κ.φ.g.K C name fn = true) (hx : getF fs name = none) (q : k (.ref fn) [.ref a]) : MethAt κ name σ k (.ref a)
  | list (a : Addr) (xs : List V) (hσ : σ a = some (.list xs)) (hn : name = "append") (q : k (.bi "list.append") [.ref a]) : MethAt κ name σ k (.ref a)
noncomputable def clsFnK (K : Frag) (C : Addr) (mc : Value) (x : Str) (fn : Addr) : Prop := specialIn K (.ref C) "__getattribute__" = some (some (.builtin "type.__getattribute__")) ∧ readsIn K C mc = true ∧ findCls K (.ref C) mc x = some (.val (.ref fn)) ∧ keepIn K (.ref fn) = true
/-- a method of an own class upon an instance -/
theorem WE.methI {o : PySem.Expr} {name apos args pos} (h : WE κ o (fun ov l1 σ1 => X4 fun a C fs fn => A5 (ov = .ref a) (σ1 a = some (.inst C fs)) (methK κ.φ.g.K C name fn = true) (getF fs name = none) (WArgs κ args (fun vs l2 σ2 => PV κ tcall (.ref fn :: .ref a :: vs) (fun v σ3 => Q v l2 σ3) σ2) l1 σ1)) l σ) {pl : Sem Bool}
    (he : eval (.Call (.Attribute o name apos) args [] pos) κ.φ.f.env = (do
      let ov ← eval o κ.φ.f.env
      standAt apos.atName
      let (f', first) ← holding [ov] (getMethod ov name pl)
      callWith pos f' first (backTo pos (starEach args κ.φ.f.env)) (backToKw pos (keywordEach [] κ.φ.f.env))))
    (hp : (starEach args κ.φ.f.env).all (fun x => !x.1) = true) : WE κ (.Call (.Attribute o name apos) args [] pos) Q l σ := fun A s δ G F => by
  rw [he]
  refine At.bind (h A s δ G F) fun ov ro l1 σ1 δ1 s1 hR F1 E1 q1 => At.standAt ?_
  obtain ⟨a, C, fs, fn, rfl, hσ, hm, hx, q1⟩ := q1
  rw [hR.ref_inv]
  obtain ⟨ox, dx, es, n, I, h1, h2, h3, h4, _⟩ := F1.sim.instAt hσ
  unfold methK at hm
  simp only [Bool.and_eq_true, beq_iff_eq] at hm
  obtain ⟨⟨⟨k1, k2⟩, k3⟩, k4⟩ := hm
  refine wpAny_bind (wpAny_holding (method_fn F1.inK I (plainGet_of k1).1 (plainGet_of k1).2 k2 (beq_iff_eq.mp k3) (by show (lookIn name (dictOf es n)).map _ = _; rw [lookIn_dict, h4.none hx]; rfl) ?_))
  exact callWith_at (fv := .ref fn) (first := [.ref a]) G F1 (show keepIn κ.φ.g.K (.ref fn) = true from k4) (.ref fn) (.cons (.ref a) .nil) q1 hp
/-- a function of a class, asked of the class -/
theorem WE.methC {o : PySem.Expr} {name apos args pos mc} (h : WE κ o (fun ov l1 σ1 => X2 fun C fn => A3 (ov = .ref C) (clsFnK κ.φ.g.K C mc name fn) (WArgs κ args (fun vs l2 σ2 => PV κ tcall (.ref fn :: vs) (fun v σ3 => Q v l2 σ3) σ2) l1 σ1)) l σ) {pl : Sem Bool}
    (he : eval (.Call (.Attribute o name apos) args [] pos) κ.φ.f.env = (do
      let ov ← eval o κ.φ.f.env
      standAt apos.atName
      let (f', first) ← holding [ov] (getMethod ov name pl)
      callWith pos f' first (backTo pos (starEach args κ.φ.f.env)) (backToKw pos (keywordEach [] κ.φ.f.env))))
    (hp : (starEach args κ.φ.f.env).all (fun x => !x.1) = true) : WE κ (.Call (.Attribute o name apos) args [] pos) Q l σ := fun A s δ G F => by
  rw [he]
  refine At.bind (h A s δ G F) fun ov ro l1 σ1 δ1 s1 hR F1 E1 q1 => At.standAt ?_
  obtain ⟨C, fn, rfl, ⟨k1, k2, k3, k4⟩, q1⟩ := q1
  rw [hR.ref_inv]
  refine wpAny_bind (wpAny_holding (method_cls F1.inK k1 (cls_value F1.inK k2 k3 rfl ?_)))
  show At VRel κ A (callWith pos (.ref fn) [] (backTo pos (starEach args κ.φ.f.env)) []) Q σ1 δ1 { s1 with toks := s1.toks + 1 }
  exact callWith_at (fv := .ref fn) (first := []) G (F1.tk (s1.toks + 1)) (show keepIn κ.φ.g.K (.ref fn) = true from k4) (.ref fn) .nil q1 hp

/-! making an instance -/
noncomputable def makeK (K : Frag) (C fI : Addr) : Bool := makesIn K C && findIn K (.ref C) "__init__" == some (some (.ref fI)) && typeIn K (.ref fI) == some (.type "function") && keepIn K (.ref C)
theorem under_make {d fl} (A : Around) (C : Addr) (rest : List Value) (G : Good0 (d + 1) A fl) : Good0 d (A.under (.builtin "type.__call__" ⟨.ref C :: rest, []⟩)) fl := by
  have e1 : (Code.builtin "type.__call__" ⟨.ref C :: rest, []⟩).weight = 1 := by kernel_rfl
  have e2 : (Code.builtin "type.__call__" ⟨.ref C :: rest, []⟩).cUnits = 1 := by kernel_rfl
  have e3 : (Code.builtin "type.__call__" ⟨.ref C :: rest, []⟩).envs = [] := by kernel_rfl
  refine ⟨?_, G.handled, ?_, ?_⟩
  · show pushEnvs (Code.builtin "type.__call__" ⟨.ref C :: rest, []⟩).envs A.frames = some fl
    rw [e3, G.frames]; rfl
  · show A.depth + (Code.builtin "type.__call__" ⟨.ref C :: rest, []⟩).weight + d ≤ 900
    rw [e1]; have := G.depth; lia
  · show A.units + (Code.builtin "type.__call__" ⟨.ref C :: rest, []⟩).cUnits + 10 * d ≤ 9000
    rw [e2]; have := G.units; lia
theorem PV.make {d C fI args} {Q : V → MH → Prop} (hm : makeK κ.φ.g.K C fI = true) (hd : d + 1 ≤ κ.d) (h : ∀ a, σ a = none → WCall κ.φ.g d fI (.ref a :: args) (fun v σ' => v = .none ∧ Q (.ref a) σ') κ.X (upd σ a (.inst C []))) : PV κ tcall (.ref C :: args) Q σ := fun A s δ l rs G F hv => by
  obtain ⟨rf, ra, hf, hvs⟩ := hv.cons_inv
  rw [hf.ref_inv]
  unfold makeK at hm
  simp only [Bool.and_eq_true, beq_iff_eq] at hm
  obtain ⟨⟨⟨k1, k2⟩, k3⟩, k4⟩ := hm
  obtain ⟨hh, gs, dr, t, os⟩ := s
  refine wpAny_call (make_core (makes_of F.inK k1) (looks_findIn F.inK k2) (fun self => bind_fn F.inK self k3) (.inl rfl) ?_)
  have k : ∀ b o, hh.get? b = some o → ((hh.push emptyDict).push (instObj C hh.objs.size)).get? b = some o := fun b o e => Heap.get?_push_of_some _ (Heap.get?_push_of_some _ e)
  have hx : ((hh.push emptyDict).push (instObj C hh.objs.size)).get? (hh.objs.size + 1) = some (instObj C hh.objs.size) := by heap_get
  have hdx : ((hh.push emptyDict).push (instObj C hh.objs.size)).get? hh.objs.size = some emptyDict := Heap.get?_push_of_some _ (Heap.get?_push_size _ rfl)
  have fin := F.new (tk := t) (δ' := upd δ hh.objs.size (hh.objs.size + 1)) (a := hh.objs.size + 1) (o := .inst C []) k (Nat.le_succ _) ⟨_, _, [], 0, hx, rfl, rfl, rfl, upd_same .., hdx, .nil⟩
    (fun b x e => upd_cases e (fun z w => by subst z w; exact .inr ⟨Nat.le_refl _, Nat.ne_of_lt (Nat.lt_succ_self _), rfl, ⟨C, [], rfl⟩, _, hx, rfl⟩) fun _ e => .inl e)
    (fun b x e => (upd_ne _ _ fun z => some_not_none e (by rw [z]; exact F.sim.freshδ (Nat.le_refl _))).trans e)
  refine codeAny_mono (h (hh.objs.size + 1) (F.sim.freshσ (Nat.le_succ _)) _ κ.φ.fl _ _ (.ref (hh.objs.size + 1) :: ra) (under_make A C ra (G.le hd)) fin.1.cs (.cons (.ref _) (hvs.mono fun b o e _ => k b o e))) fun r s' z => ?_
  cases r with
  | error e => exact Flies.trans fin.2 (Flies.weak (fa := []) (fun _ h => nomatch h) z)
  | ok w =>
    cases w with
    | ret rv =>
      obtain ⟨v', σ', δ', h1, h2, h3, rfl, q⟩ := z
      rw [h1.none_inv]
      exact ⟨rfl, .ref _, l, σ', δ', .ref _, fin.1.after h2 h3, fin.2.trans (h3.weak (fun _ h => nomatch h)), rfl, q⟩
    | _ => exact z.elim
end
end Mn
set_option genInjectivity false
namespace Mn
open PySem.SeqAt

section
variable {κ : Cx} {l : Loc} {σ : MH} {δ : DM} {Q : V → MH → Prop}
/-- the lists of the mini heap, the written ones and the ones that are only read -/
noncomputable def lst (σ : MH) (a : Addr) (xs : List V) : Prop := σ a = some (.list xs) ∨ σ a = some (.rlist xs)
inductive LstAt (h : Heap) (a : Addr) (xs : List V) : Prop
  | mk (vs : Array Value) (h1 : h.IsList a vs) (h2 : VsRel h xs vs.toList) (h3 : vs.size = xs.length)
theorem Sim.lst {g : G} {σ δ h} (S : Sim g σ δ h) {a : Addr} {xs : List V} (e : lst σ a xs) : LstAt h a xs := by
  rcases e with e | e
  · obtain ⟨vs, n, h1, h4⟩ := S.rep _ _ e; exact ⟨vs, ⟨_, h1, rfl, n, rfl⟩, h4, by rw [← h4.length, Array.length_toList]⟩
  · obtain ⟨o, vs, n, h1, h2, h3, h4⟩ := S.rep _ _ e; exact ⟨vs, ⟨o, h1, h2, n, h3⟩, h4, by rw [← h4.length, Array.length_toList]⟩
theorem PV.len_list {a xs} (hσ : lst σ a xs) (hz : xs.length < 2 ^ 60) (h : Q (.int xs.length) σ) : PV κ tcall [.bi "len", .ref a] Q σ := fun A s δ l rs G F hv => by
  obtain ⟨rf, ra, rfl, hf, ha⟩ := hv.two
  rw [hf.bi_inv, ha.ref_inv]
  obtain ⟨vs, h1, h2, h3⟩ := F.sim.lst hσ
  refine call_len_list h1 (by lia) ?_
  rw [h3]
  exact Ok.tok F (.int ..) ⟨rfl, h⟩
theorem PV.len_bytes {b : Array UInt8} (hz : b.size ≤ 2 ^ 30) (h : Q (.int b.size) σ) : PV κ tcall [.bi "len", .bytes b] Q σ := .ret (fun A s rs _ hv P E hP => by
  obtain ⟨rf, ra, rfl, hf, ha⟩ := hv.two
  rw [hf.bi_inv]; obtain ⟨t, rfl⟩ := ha.bytes_inv
  exact W.len_bytes (by lia) (hP _ _ (.int ..))) h
theorem PV.int_bool {b : Bool} (h : Q (.int (if b = true then 1 else 0)) σ) : PV κ tcall [.typ "int", .bool b] Q σ := .ret (fun A s rs _ hv P E hP => by
  obtain ⟨rf, ra, rfl, hf, ha⟩ := hv.two
  rw [hf.typ_inv, ha.bool_inv]
  exact call_int_bool (hP _ _ (.int ..))) h
theorem PV.abs {a : Int} (h : Q (.int (if a < 0 then -a else a)) σ) : PV κ tcall [.bi "abs", .int a] Q σ := .ret (fun A s rs _ hv P E hP => by
  obtain ⟨rf, ra, rfl, hf, ha⟩ := hv.two
  rw [hf.bi_inv]; obtain ⟨t, rfl⟩ := ha.int_inv
  exact call_abs_int fun _ _ => hP _ _ (.int ..)) h
theorem PV.min2 {a b : Int} (h : Q (.int (if b < a then b else a)) σ) : PV κ tcall [.bi "min", .int a, .int b] Q σ := fun A s δ l rs G F hv => by
  obtain ⟨rf, ra, hf, hvs⟩ := hv.cons_inv
  obtain ⟨t, u, rfl⟩ := hvs.int2
  rw [hf.bi_inv]
  refine min_two_ints G.handled fun h' tk hk => ?_
  have k := F.grow (tk := tk) hk
  refine ⟨_, l, σ, _, ?_, k.1, k.2, rfl, h⟩
  split <;> exact .int ..

/-! isinstance -/
inductive ClsOf (σ : MH) : V → Value → Prop
  | none : ClsOf σ .none (.type "NoneType")
  | bool (b) : ClsOf σ (.bool b) (.type "bool")
  | int (i) : ClsOf σ (.int i) (.type "int")
  | bytes (b) : ClsOf σ (.bytes b) (.type "bytes")
  | inst {a C fs} (h : σ a = some (.inst C fs)) : ClsOf σ (.ref a) (.ref C)
noncomputable def toVal : V → Value
  | .typ n => .type n
  | .ref a => .ref a
  | _ => .none
/-- an own class's instances ask for their __class__ in the plain way -/
noncomputable def ownK (K : Frag) (D : Addr) : Bool := plainGet K D "__class__" && hasDictIn K D && findIn K (.ref D) "__class__" == some (some (.builtin "object.__class__")) &&
  specialIn K (.builtin "object.__class__") "__get__" == some (some (.builtin "getset_descriptor.__get__")) && takesIn K (.builtin "object.__class__") == some true && mroIn K D (.type "object") == some true
noncomputable def ownKV (K : Frag) : Value → Bool
  | .ref D => ownK K D
  | _ => true
theorem PV.isi {v c t b} (ht : ClsOf σ v t) (hc : ∀ h r, VRel h c r → r = toVal c) (ho : ownKV κ.φ.g.K t = true) (e : kitOne κ.φ.g.K t (toVal c) = some b) (h : Q (.bool b) σ) : PV κ tcall [.bi "isinstance", v, c] Q σ := fun A s δ l rs G F hv => by
  obtain ⟨rf, ra, hf, hvs⟩ := hv.cons_inv
  obtain ⟨rv, rc, rfl, hv, hcr⟩ := hvs.two
  rw [hf.bi_inv, hc _ _ hcr]
  have fin : ∀ tk, Ok VRel κ.φ σ δ s.heap (fun v l' σ' => l' = l ∧ Q v σ') (.bool b) { s with toks := tk } := fun tk => Ok.tok F (.bool _) ⟨rfl, h⟩
  cases ht with
  | none => rw [hv.none_inv]; exact kia_one kitx_none F.inK trivial e (fun q => nomatch q) fin
  | bool => rw [hv.bool_inv]; exact kia_one kitx_bool F.inK trivial e (fun q => nomatch q) fin
  | int => obtain ⟨t, rfl⟩ := hv.int_inv; exact kia_one kitx_int F.inK trivial e (fun q => nomatch q) fin
  | bytes => obtain ⟨t, rfl⟩ := hv.bytes_inv; exact kia_one kitx_bytes F.inK trivial e (fun q => nomatch q) fin
  | inst hσ =>
    rw [hv.ref_inv]
    obtain ⟨ox, dx, es, n, I, _⟩ := F.sim.instAt hσ
    have ho : ownK _ _ = true := ho
    simp only [ownK, Bool.and_eq_true, beq_iff_eq] at ho
    obtain ⟨⟨⟨⟨⟨k1, k2⟩, k3⟩, k4⟩, k5⟩, k6⟩ := ho
    exact kia_one (kitx_own k1 k2 k3 k4 k5 k6) F.inK I e (fun q => nomatch q) fin

/-! is, is not None -/
noncomputable def isNone : V → Bool
  | .none => true
  | _ => false
theorem isSame_none {h : Heap} {v : V} {r : Value} (hR : VRel h v r) (hb : v.plain = true) : isSame r .none = pure (isNone v) := by
  cases hR with
  | bi => cases hb
  | _ => rfl
theorem PV.isNone {v : V} (hb : v.plain = true) (h : Q (.bool (Mn.isNone v)) σ) : PV κ (t2 (compareOp .Is)) [v, .none] Q σ := .ret (fun A s rs _ hv P E hP => by
  obtain ⟨ra, rb, rfl, ha, hb'⟩ := hv.two
  rw [hb'.none_inv]
  show wpAny _ A (do return .bool (← isSame ra .none)) P E s
  rw [isSame_none ha hb]
  exact wpAny_bind (wpAny_pure (wpAny_pure (hP _ s.toks (.bool _))))) h
theorem PV.isNotNone {v : V} (hb : v.plain = true) (h : Q (.bool (!Mn.isNone v)) σ) : PV κ (t2 (compareOp .IsNot)) [v, .none] Q σ := .ret (fun A s rs _ hv P E hP => by
  obtain ⟨ra, rb, rfl, ha, hb'⟩ := hv.two
  rw [hb'.none_inv]
  show wpAny _ A (do return .bool (!(← isSame ra .none))) P E s
  rw [isSame_none ha hb]
  exact wpAny_bind (wpAny_pure (wpAny_pure (hP _ s.toks (.bool _))))) h

/-! in -/
open Classical in
/-- a value's meaning among some -/
noncomputable def decV (h : Heap) (xs : List V) (r : Value) : V := if p : ∃ y, y ∈ xs ∧ VRel h y r then p.choose else .none
open Classical in
theorem decV_of {h : Heap} {xs : List V} {r : Value} {y : V} (hy : y ∈ xs) (hr : VRel h y r) : decV h xs r ∈ xs ∧ VRel h (decV h xs r) r := by
  unfold decV
  have p : ∃ y, y ∈ xs ∧ VRel h y r := ⟨y, hy, hr⟩
  rw [dif_pos p]; exact p.choose_spec
theorem any_dec {n : Nat} {h : Heap} {ys : List V} {x : V} (c : ∀ y ∈ ys, Cq n y x) {xs : List V} {rs : List Value} (hs : VsRel h xs rs) (k : ∀ y ∈ xs, y ∈ ys) : rs.any (fun r => veq (decV h ys r) x) = xs.any (veq · x) := by
  induction hs with
  | nil => rfl
  | cons hv _ ih =>
    have a := decV_of (k _ (.head _)) hv
    rw [List.any_cons, List.any_cons, ih fun y hy => k y (.tail _ hy), Cq.fn (c _ a.1) (c _ (k _ (.head _))) a.2 hv]
theorem VsRel.mem {h : Heap} {xs : List V} {rs : List Value} (hs : VsRel h xs rs) {r} (m : r ∈ rs) : ∃ y, y ∈ xs ∧ VRel h y r := by
  obtain ⟨i, hi, rfl⟩ := List.getElem_of_mem m
  have e : xs[i]? = some (xs[i]'(by rw [← hs.length]; exact hi)) := List.getElem?_eq_getElem _
  exact ⟨_, List.mem_of_getElem? e, hs.at' i _ _ e (List.getElem?_eq_getElem hi)⟩
theorem ats {n : Nat} {A : Around} {s : Shared} {xs : List V} {x : V} {rx : Value} {vs : Array Value} (c : ∀ y ∈ xs, Cq n y x) (hs : VsRel s.heap xs vs.toList) (hx : VRel s.heap x rx) (hu : A.units + 1 + n < cLine) :
    ∀ y, y ∈ vs → EqAt A.in1 s y rx (veq (decV s.heap xs y) x) := fun y hy => by
  obtain ⟨v, a, b⟩ := hs.mem (Array.mem_toList_iff.mpr hy)
  have e := decV_of a b
  exact Cq.eqb (c _ e.1) e.2 hx hu
theorem PV.inList {n a xs x} (hσ : lst σ a xs) (c : ∀ y ∈ xs, Cq n y x) (hn : n ≤ 100) (h : Q (.bool (xs.any (veq · x))) σ) : PV κ (t2 (compareOp .In)) [x, .ref a] Q σ := fun A s δ l rs G F hv => by
  obtain ⟨rx, rb, rfl, hx, hb⟩ := hv.two
  rw [hb.ref_inv]
  obtain ⟨vs, h1, h2, _⟩ := F.sim.lst hσ
  refine in_listAt _ h1 (ats c h2 hx (by have := G.units; show A.units + 1 + n < 9900; lia)) ?_
  rw [← Array.any_toList, any_dec c h2 fun _ h => h]
  exact Ok.here F (.bool _) ⟨rfl, h⟩
theorem PV.notInList {n a xs x} (hσ : lst σ a xs) (c : ∀ y ∈ xs, Cq n y x) (hn : n ≤ 100) (h : Q (.bool (!xs.any (veq · x))) σ) : PV κ (t2 (compareOp .NotIn)) [x, .ref a] Q σ := fun A s δ l rs G F hv => by
  obtain ⟨rx, rb, rfl, hx, hb⟩ := hv.two
  rw [hb.ref_inv]
  obtain ⟨vs, h1, h2, _⟩ := F.sim.lst hσ
  refine notIn_listAt _ h1 (ats c h2 hx (by have := G.units; show A.units + 1 + n < 9900; lia)) ?_
  rw [← Array.any_toList, any_dec c h2 fun _ h => h]
  exact Ok.here F (.bool _) ⟨rfl, h⟩
theorem PV.inTup {n xs x} (c : ∀ y ∈ xs, Cq n y x) (hn : n ≤ 100) (h : Q (.bool (xs.any (veq · x))) σ) : PV κ (t2 (compareOp .In)) [x, .tup xs] Q σ := fun A s δ l rs G F hv => by
  obtain ⟨rx, rb, rfl, hx, hb⟩ := hv.two
  obtain ⟨a, vs, ht, hl⟩ := hb.tup_inv
  refine in_tupleAt _ ht (ats c hl hx (by have := G.units; show A.units + 1 + n < 9900; lia)) ?_
  rw [← Array.any_toList, any_dec c hl fun _ h => h]
  exact Ok.here F (.bool _) ⟨rfl, h⟩
theorem eq_list_at {n a b xs ys A s δ} {φ : Fx} (F : FS φ l σ δ s) (ha : lst σ a xs) (hb : lst σ b ys) (c : CqL n xs ys) (hu : A.units + 1 + n < cLine) : RcAt A s (.ref a) (.ref b) (veq (.tup xs) (.tup ys)) ∧ RcNeAt A s (.ref a) (.ref b) (!veq (.tup xs) (.tup ys)) := by
  obtain ⟨vs, h1, h2, e1⟩ := F.sim.lst ha
  obtain ⟨ws, h3, h4, e2⟩ := F.sim.lst hb
  by_cases z : vs.size = ws.size
  · have it := EqAt.items (A := A.in1) (fun i p q e e' ra rb ha hb => (c i p q e e').eqb ha hb hu) h2 h4
    have t := RcAt.lists h1 h3 z (by lia) it
    have t' := RcNeAt.lists h1 h3 z (by lia) it
    have e : (List.range vs.size).all (eqAtI xs ys) = veq (.tup xs) (.tup ys) := by
      have zz : xs.length = ys.length := by rw [← e1, ← e2, z]
      rw [← eq_min, ← zz, Nat.min_self, e1, beq_self_eq_true, Bool.and_true]
    rw [e] at t t'
    exact ⟨t, t'⟩
  · have e : veq (.tup xs) (.tup ys) = false := Bool.eq_false_iff.mpr fun q => z (by rw [e1, e2, V.tup.inj (veq_iff.mp q)])
    rw [e]
    exact ⟨RcAt.lists_lengths h1 h3 (bne_iff_ne.mpr z) (by lia), RcNeAt.lists_lengths h1 h3 (bne_iff_ne.mpr z) (by lia)⟩
theorem PV.eqList {n a b xs ys} (ha : lst σ a xs) (hb : lst σ b ys) (c : CqL n xs ys) (hn : n ≤ 100) (h : Q (.bool (veq (.tup xs) (.tup ys))) σ) : PV κ (t2 (compareOp .Eq)) [.ref a, .ref b] Q σ := fun A s δ l rs G F hv => by
  obtain ⟨ra, rb, rfl, hra, hrb⟩ := hv.two
  rw [hra.ref_inv, hrb.ref_inv]
  exact (eq_list_at F ha hb c (by have := G.units; show A.units + 1 + n < 9900; lia)).1 κ.φ.g.prog κ.φ.g.w _ _ (Ok.here F (.bool _) ⟨rfl, h⟩)
theorem PV.neList {n a b xs ys} (ha : lst σ a xs) (hb : lst σ b ys) (c : CqL n xs ys) (hn : n ≤ 100) (h : Q (.bool (!veq (.tup xs) (.tup ys))) σ) : PV κ (t2 (compareOp .NotEq)) [.ref a, .ref b] Q σ := fun A s δ l rs G F hv => by
  obtain ⟨ra, rb, rfl, hra, hrb⟩ := hv.two
  rw [hra.ref_inv, hrb.ref_inv]
  exact (eq_list_at F ha hb c (by have := G.units; show A.units + 1 + n < 9900; lia)).2 κ.φ.g.prog κ.φ.g.w _ _ (Ok.here F (.bool _) ⟨rfl, h⟩)

/-! an item of a list, a tuple or bytes -/
noncomputable def PG (κ : Cx) (a b : V) (Q : V → MH → Prop) (σ : MH) : Prop :=
  ∀ A s δ l ra rb, Good κ A → FS κ.φ l σ δ s → VRel s.heap a ra → VRel s.heap b rb →
    (X2 fun T id => A3 (s.TypeIs ra T) (typeLookup (.type T) "__getitem__" = pure (some (.builtin id))) (ra ≠ .builtin "sys.modules#opaque")) ∧ At VRel κ A (getItem ra rb) (fun v l' σ' => l' = l ∧ Q v σ') σ δ s
theorem PG.list {a xs} {k : Int} {v : V} (hσ : lst σ a xs) (h0 : 0 ≤ k) (hk : k < 2 ^ 63) (hx : xs[k.toNat]? = some v) (h : Q v σ) : PG κ (.ref a) (.int k) Q σ := fun A s δ l ra rb G F ha hb => by
  rw [ha.ref_inv]; obtain ⟨t, rfl⟩ := hb.int_inv
  obtain ⟨vs, h1, h2, _⟩ := F.sim.lst hσ
  obtain ⟨r, h3, h4⟩ := h2.get hx
  exact ⟨⟨"list", _, h1.typeIs, slot_list_getitem.lookup, fun q => nomatch q⟩, wpAny_getItem_list h1 h0 hk (by rw [← Array.getElem?_toList]; exact h3) (Ok.here F h4 ⟨rfl, h⟩)⟩
theorem PG.tup {xs} {k : Int} {v : V} (h0 : 0 ≤ k) (hk : k < 2 ^ 63) (hx : xs[k.toNat]? = some v) (h : Q v σ) : PG κ (.tup xs) (.int k) Q σ := fun A s δ l ra rb G F ha hb => by
  obtain ⟨t, rfl⟩ := hb.int_inv
  obtain ⟨a, vs, ⟨o, ho, hc, n, hd⟩, hl⟩ := ha.tup_inv
  obtain ⟨r, h3, h4⟩ := hl.get hx
  rw [Array.getElem?_toList] at h3
  have hlt := (Array.getElem?_eq_some_iff.mp h3).1
  have ht : PyProof.Rows.IsTup s.heap _ vs := ⟨o, ho, hc, _, hd⟩
  exact ⟨⟨"tuple", _, ⟨o, ho, hc⟩, PyProof.Rows.slot_tuple_getitem.lookup, fun q => nomatch q⟩, PyProof.Rows.getItem_tuple ht (by lia) hk (seqIndex_of (n := vs.size) h0 (by lia)) h3 (Ok.here F h4 ⟨rfl, h⟩)⟩
theorem PG.bytes {b : Array UInt8} {k : Int} (hz : b.size ≤ 2 ^ 30) (h0 : 0 ≤ k) (hk : k < b.size) (h : Q (.int (b.toList.getD k.toNat 0).toNat) σ) : PG κ (.bytes b) (.int k) Q σ := fun A s δ l ra rb G F ha hb => by
  obtain ⟨t, rfl⟩ := ha.bytes_inv
  obtain ⟨u, rfl⟩ := hb.int_inv
  refine ⟨⟨"bytes", _, typeIs_bytes s b t, FB.slot_bytes_getitem.lookup, fun q => nomatch q⟩, ?_⟩
  have e : b = b.toList.toArray := Array.toArray_toList.symm
  rw [e]
  exact W.getItem_bytes (by rw [Array.length_toList]; lia) h0 (by simpa using hk) (Ok.tok F (.int ..) ⟨rfl, h⟩)
end
section
variable {κ : Cx} {l : Loc} {σ : MH} {δ : DM} {Q : V → Loc → MH → Prop}
theorem WE.sub {o i pos} (h : WE κ o (fun ov l1 σ1 => WE κ i (fun iv l2 σ2 => PG κ ov iv (fun v σ3 => Q v l2 σ3) σ2) l1 σ1) l σ)
    (hs : ∀ ro ri, subscripted i false ro ri = operate [ro, ri] (getItem ro ri)) : WE κ (.Subscript o i pos) Q l σ := fun A s δ G F => by
  rw [eval_Subscript]
  refine At.bind (h A s δ G F) fun a ra l1 σ1 δ1 s1 hR F1 E1 q1 => At.bind (At.holding (q1 A s1 δ1 G F1)) fun b rb l2 σ2 δ2 s2 hR2 F2 E2 q2 => At.standAt ?_
  obtain ⟨⟨T, id, hT, hl, hne⟩, q⟩ := q2 A s2 δ2 l2 ra rb G F2 (hR.evo F1 E2) hR2
  rw [getitemInPython_of_ne hne]
  refine wpAny_bind (wpAny_bind (wpAny_specialOf hT hl (wpAny_pure ?_)))
  rw [hs]
  refine At.bind (At.operate q) fun c rc l3 σ3 δ3 s3 hR3 F3 E3 q3 => ?_
  obtain ⟨rfl, q3⟩ := q3
  exact wpAny_bind (wpAny_letTemporaryGo (wpAny_pure (Ok.here F3 hR3 q3)))

/-! slices of lists -/
theorem pick_take (items : Array Value) (b : Nat) : slicePick items none (some (b : Int)) none = (items.toList.take b).toArray := by
  have e : slicePick items none (some (b : Int)) none = slicePick items none (some ((min b items.size : Nat) : Int)) none := by
    unfold slicePick
    simp only [sliceBounds, Option.getD_none, show (1 : Int) > 0 by decide, if_true, show ¬ ((b : Int) < 0) by lia, show ¬ (((min b items.size : Nat) : Int) < 0) by lia, if_false]
    congr 3
    lia
  rw [e, slicePick_upto items _ (Nat.min_le_right ..)]
  by_cases z : b ≤ items.size
  · rw [Nat.min_eq_left z]
  · rw [Nat.min_eq_right (by lia), List.take_of_length_le (by rw [Array.length_toList]; exact Nat.le_refl _), List.take_of_length_le (by rw [Array.length_toList]; lia)]
theorem pick_drop (items : Array Value) (a : Nat) : slicePick items (some (a : Int)) none none = (items.toList.drop a).toArray := by
  have e : slicePick items (some (a : Int)) none none = slicePick items (some ((min a items.size : Nat) : Int)) none none := by
    unfold slicePick
    simp only [sliceBounds, Option.getD_none, show (1 : Int) > 0 by decide, if_true, show ¬ ((a : Int) < 0) by lia, show ¬ (((min a items.size : Nat) : Int) < 0) by lia, if_false]
    congr 3
    lia
  rw [e, slicePick_from items _ (Nat.min_le_right ..)]
  by_cases z : a ≤ items.size
  · rw [Nat.min_eq_left z]
  · rw [Nat.min_eq_right (by lia), List.drop_of_length_le (by rw [Array.length_toList]; exact Nat.le_refl _), List.drop_of_length_le (by rw [Array.length_toList]; lia)]
/-- a new list of the mini heap -/
theorem newL {φ : Fx} {s : Shared} {xs : List V} {vs : Array Value} {h' : Heap} {tk : Nat} (F : FS φ l σ δ s) (k : ∀ b o, s.heap.get? b = some o → h'.get? b = some o) (hl : VsRel s.heap xs vs.toList) {a : Addr} (ha : s.heap.objs.size ≤ a)
    (hd : ∃ n, h'.get? a = some { cls := .type "list", data := .seq vs n }) (h : ∀ a, σ a = none → Q (.ref a) l (upd σ a (.list xs))) : Ok VRel φ σ δ s.heap Q (.ref a) { s with heap := h', toks := tk } := by
  obtain ⟨n, h1⟩ := hd
  have fin := F.new (tk := tk) (δ' := δ) (a := a) (o := .list xs) k ha ⟨vs, n, h1, hl.mono fun b o e _ => k b o e⟩ (fun b x e => .inl e) (fun b x e => e)
  exact ⟨.ref a, l, _, δ, .ref _, fin.1, fin.2, h a (F.sim.freshσ ha)⟩
theorem Ok.after {φ : Fx} {β α : Type} {R : Heap → β → α → Prop} {σ1 : MH} {δ1 : DM} {h h1 : Heap} {Q : β → Loc → MH → Prop} {a : α} {s' : Shared} (E : Ev φ σ δ h σ1 δ1 h1) (x : Ok R φ σ1 δ1 h1 Q a s') : Ok R φ σ δ h Q a s' := by
  obtain ⟨b, l', σ', δ', r, F, E', q⟩ := x
  exact ⟨b, l', σ', δ', r, F, E.trans E', q⟩
/-- what a slice asks -/
inductive SlcQ (f : Nat → List V → List V) (l2 : Loc) (σ2 : MH) (Q : V → Loc → MH → Prop) : V → V → Prop
  | mk (a : Addr) (xs : List V) (k : Nat) (hσ : lst σ2 a xs) (hz : xs.length ≤ 2 ^ 24) (q : ∀ b, σ2 b = none → Q (.ref b) l2 (upd σ2 b (.list (f k xs)))) : SlcQ f l2 σ2 Q (.ref a) (.int (k : Int))
theorem slice_at {A : Around} {o sl : PySem.Expr} {pos : Pos} {a : Addr} {xs ys : List V} {s2 : Shared} {lo hi : Option Int} {rl rh : Value} {vs ws : Array Value} {P : Value → Shared → Prop} {E : Value → Shared → Prop} (F2 : FS κ.φ l σ δ s2) (h1 : s2.heap.IsList a vs) (h3 : vs.size = xs.length)
    (hz : xs.length ≤ 2 ^ 24) (hlo : IsPart rl lo) (hhi : IsPart rh hi) (hp : slicePick vs lo hi none = ws) (hw : VsRel s2.heap ys ws.toList) (q : ∀ b, σ b = none → Q (.ref b) l (upd σ b (.list ys)))
    (hP : ∀ v s', Ok VRel κ.φ σ δ s2.heap Q v s' → P v s') (hs : ∀ ro ri, subscripted sl false ro ri = operate [ri, ro] (getItem ro ri)) :
    wpAny (model κ.φ.g.prog κ.φ.g.w) A (newFields "slice" [rl, rh, .none]) (fun iv s' => wpAny (model κ.φ.g.prog κ.φ.g.w) A (do
      standAt pos
      let r ← subscripted sl (← getitemInPython (.ref a)) (.ref a) iv
      letTemporaryGo o (.ref a) r
      pure r) P E s') E s2 := by
  refine wpAny_newObj_type (wpAny_bind (wpAny_standAt ?_))
  rw [getitemInPython_of_ne (by intro q; cases q)]
  refine wpAny_bind (wpAny_bind (wpAny_specialOf (T := "list") (h1.push _).typeIs slot_list_getitem.lookup (wpAny_pure ?_)))
  rw [hs]
  refine wpAny_bind (wpAny_operating (wpAny_getItem_list_slice (h1.push _) (Heap.IsSliceOf.new ..) hlo hhi .none (fun q => nomatch q) ?_ (by rw [h3, sizeLine_eq]; omega)))
  rw [hp]
  refine wpAny_bind (wpAny_letTemporaryGo (wpAny_pure (hP _ _ ?_)))
  rw [Heap.size_push]
  exact newL (tk := s2.toks) F2 (fun b o e => Heap.get?_push_of_some _ (Heap.get?_push_of_some _ e)) hw (a := s2.heap.objs.size + 1) (Nat.le_succ _) ⟨0, by rw [← Heap.size_push]; exact Heap.get?_push_size _ rfl⟩ q
theorem WE.sliceTo {o u p pos} (h : WE κ o (fun ov l1 σ1 => WE κ u (fun uv l2 σ2 => SlcQ List.take l2 σ2 Q ov uv) l1 σ1) l σ) : WE κ (.Subscript o (.Slice none (some u) none p) pos) Q l σ := fun A s δ G F => by
  rw [eval_Subscript]
  refine At.bind (h A s δ G F) fun ov ro l1 σ1 δ1 s1 hR F1 E1 q1 => ?_
  have es : eval (.Slice none (some u) none p) κ.φ.f.env = (do
      let l ← pure Value.none
      let u ← holding [l] (eval u κ.φ.f.env)
      let s ← holding [l, u] (pure Value.none)
      newFields "slice" [l, u, s]) := rfl
  rw [es]
  refine wpAny_bind (wpAny_holding (wpAny_bind (wpAny_pure (wpAny_bind (wpAny_holding (wpAny_mono (q1 A s1 δ1 G F1) (fun ru s2 ⟨uv, l2, σ2, δ2, hR2, F2, E2, q2⟩ => ?_) fun _ _ e => e))))))
  cases q2 with
  | mk a xs k hσ hz q2 =>
    rw [(hR.evo F1 E2).ref_inv]
    obtain ⟨t, rfl⟩ := hR2.int_inv
    obtain ⟨vs, h1, h2, h3⟩ := F2.sim.lst hσ
    exact wpAny_bind (wpAny_holding (wpAny_pure (slice_at F2 h1 h3 hz .none (.int (k : Int) t) (pick_take vs k) (h2.take k) q2 (fun _ _ x => x.after E2) fun _ _ => rfl)))
theorem WE.sliceFrom {o u p pos} (h : WE κ o (fun ov l1 σ1 => WE κ u (fun uv l2 σ2 => SlcQ List.drop l2 σ2 Q ov uv) l1 σ1) l σ) : WE κ (.Subscript o (.Slice (some u) none none p) pos) Q l σ := fun A s δ G F => by
  rw [eval_Subscript]
  refine At.bind (h A s δ G F) fun ov ro l1 σ1 δ1 s1 hR F1 E1 q1 => ?_
  have es : eval (.Slice (some u) none none p) κ.φ.f.env = (do
      let l ← eval u κ.φ.f.env
      let u ← holding [l] (pure Value.none)
      let s ← holding [l, u] (pure Value.none)
      newFields "slice" [l, u, s]) := rfl
  rw [es]
  refine wpAny_bind (wpAny_holding (wpAny_bind (wpAny_mono (q1 A s1 δ1 G F1) (fun ru s2 ⟨uv, l2, σ2, δ2, hR2, F2, E2, q2⟩ => ?_) fun _ _ e => e)))
  cases q2 with
  | mk a xs k hσ hz q2 =>
    rw [(hR.evo F1 E2).ref_inv]
    obtain ⟨t, rfl⟩ := hR2.int_inv
    obtain ⟨vs, h1, h2, h3⟩ := F2.sim.lst hσ
    exact wpAny_bind (wpAny_holding (wpAny_pure (wpAny_bind (wpAny_holding (wpAny_pure (slice_at F2 h1 h3 hz (.int (k : Int) t) .none (pick_drop vs k) (h2.drop k) q2 (fun _ _ x => x.after E2) fun _ _ => rfl))))))

/-! displays -/
theorem WE.list {elts pos} (h : WArgs κ elts (fun vs l1 σ1 => vs.length ≤ 2 ^ 24 ∧ ∀ a, σ1 a = none → Q (.ref a) l1 (upd σ1 a (.list vs))) l σ) : WE κ (.List elts pos) Q l σ := fun A s δ G F => by
  refine wpAny_List_spliced (wpAny_mono (h A s δ pos G F) (fun rvs s1 ⟨vs, l1, σ1, δ1, hR, F1, E1, hz, q⟩ => ⟨by rw [hR.length, sizeLine_eq]; omega, ?_⟩) fun _ _ e => e)
  exact (newL (tk := s1.toks) (vs := rvs.toArray) F1 (fun b o e => Heap.get?_push_of_some _ e) (by rw [List.toList_toArray]; exact hR) (a := s1.heap.objs.size) (Nat.le_refl _) ⟨0, Heap.get?_push_size _ rfl⟩ q).after E1
theorem WE.tuple {elts k pos} (h : WArgs κ elts (fun vs l1 σ1 => vs.length ≤ 2 ^ 24 ∧ Q (.tup vs) l1 σ1) l σ) : WE κ (.Tuple elts k pos) Q l σ := fun A s δ G F => by
  refine wpAny_Tuple_spliced (wpAny_mono (h A s δ pos G F) (fun rvs s1 ⟨vs, l1, σ1, δ1, hR, F1, E1, hz, q⟩ => ⟨by rw [hR.length, sizeLine_eq]; omega, ?_⟩) fun _ _ e => e)
  have kk : ∀ b o, s1.heap.get? b = some o → (s1.heap.push { cls := .type "tuple", data := .seq rvs.toArray }).get? b = some o := fun b o e => Heap.get?_push_of_some _ e
  have fin := F1.grow (tk := s1.toks) kk
  exact ⟨.tup vs, l1, σ1, δ1, .tup (Heap.get?_push_size _ rfl) rfl rfl (by rw [List.toList_toArray]; exact hR.mono fun b o e _ => kk b o e), fin.1, E1.trans fin.2, q⟩
end

/-! lists that change -/
section
variable {κ : Cx} {l : Loc} {σ : MH} {δ : DM}
theorem FS.setL {φ : Fx} {s : Shared} {h' : Heap} {tk : Nat} {a xs ys} {vs : Array Value} {n n' : Nat} (F : FS φ l σ δ s) (hσ : σ a = some (.list xs)) (h1 : s.heap.get? a = some { cls := .type "list", data := .seq vs n }) (hs : Heap.SameBut a s.heap h')
    {ws : Array Value} (hp : h'.get? a = some { cls := .type "list", data := .seq ws n' }) (hw : (∀ {v r}, VRel s.heap v r → VRel h' v r) → VsRel h' ys ws.toList) : FS φ l (upd σ a (.list ys)) δ { s with heap := h', toks := tk } ∧ Ev φ σ δ s.heap (upd σ a (.list ys)) δ h' := by
  have nt : NoTup s.heap a := fun o e => by rw [h1] at e; cases e; exact notTup_cls (type_ne (by decide))
  exact F.write (tk := tk) (c := a) (a := a) (.of hs) ⟨_, hp⟩ hσ (.list rfl xs ys) ⟨_, n', hp, hw fun x => x.mono ((But.of hs).tups nt)⟩
theorem PV.append {a xs v} {Q : V → MH → Prop} (hσ : σ a = some (.list xs)) (hz : xs.length ≤ 2 ^ 24) (h : Q .none (upd σ a (.list (xs ++ [v])))) : PV κ tcall [.bi "list.append", .ref a, v] Q σ := fun A s δ l rs G F hv => by
  obtain ⟨rf, ra, hf, hvs⟩ := hv.cons_inv
  obtain ⟨rb, rv, rfl, hb, hv⟩ := hvs.two
  rw [hf.bi_inv, hb.ref_inv]
  obtain ⟨vs, n, h1, h2⟩ := F.sim.rep _ _ hσ
  have hl : vs.size = xs.length := by rw [← Array.length_toList]; exact h2.length
  refine wpAny_list_append_plain ⟨n, h1⟩ (fun h' ⟨n', hp⟩ hs => ?_) (by rw [hl, sizeLine_eq]; omega)
  have fin := F.setL (tk := s.toks) (ys := xs ++ [v]) hσ h1 hs hp fun k => by
    rw [Array.toList_push]
    exact .append (.of_at h2.length fun i p r e e' => k (h2.at' i p r e e')) (.cons (k hv) .nil)
  exact ⟨.none, l, _, δ, .none, fin.1, fin.2, rfl, h⟩
theorem setItem_plain {A : Around} {s : Shared} {E : Value → Shared → Prop} {prog : Program} {w : World} {a : Addr} {items : Array Value} {n : Nat} {k : Int} {t : Tok} {v : Value} {Q : Unit → Shared → Prop} (ho : s.heap.get? a = some { cls := .type "list", data := .seq items n })
    (h0 : 0 ≤ k) (hfit : k < 2 ^ 63) (hn : k < items.size)
    (hQ : ∀ h' n', h'.get? a = some { cls := .type "list", data := .seq (items.setIfInBounds k.toNat v) n' } → Heap.SameBut a s.heap h' → Q () { s with heap := h' }) :
    wpAny (model prog w) A (setItem (.ref a) (.int k t) v) Q E s := by
  have hl : s.heap.IsList a items := ⟨_, ho, rfl, n, rfl⟩
  unfold setItem
  try with_reducible refine wpAny_holding ?_
  first | refine wpAny_bind (wpAny_pure ?_) | skip
  refine wpAny_bind (wpAny_sequenceKey hl.typeIs (by decide) ?_)
  refine wpAny_bind (wpAny_callSpecial?_slot (name := Str.ofString "__setitem__") hl.typeIs slot_list_setitem
    (wpAny_call_entry slot_list_setitem hl.typeIs entry_list_setitem ?_ (args_list_setitem _ _ _)))
  show wpAny _ _ (Builtin.List.listSubscript? (.int k t) >>= _) _ _ s
  refine wpAny_bind (wpAny_listSubscript_int (fitsIndex_of h0 hfit) ?_)
  clear hfit
  obtain ⟨j, rfl⟩ := Int.eq_ofNat_of_zero_le h0
  have hj : j < items.size := by omega
  have hx' : items[j]? = some items[j] := Array.getElem?_eq_getElem hj
  show wpAny _ _ ((seqItemAt a j >>= fun r => pure (r.map (j, ·))) >>= _) _ _ s
  refine wpAny_bind (wpAny_bind (wpAny_seqItemAt ho rfl (wpAny_pure ?_)))
  rw [hx']
  show wpAny _ _ (setSeqItemAt a j v >>= _) _ _ s
  have hfin : ∃ n', (s.heap.update a (Obj.mapSeq (·.setIfInBounds j v))).get? a = some { cls := .type "list", data := .seq (items.setIfInBounds j v) n' } := by
    have e : Obj.mapSeq (·.setIfInBounds j v) { cls := .type "list", data := .seq items n } = { cls := .type "list", data := .seq (items.setIfInBounds j v) n } := by simp [Obj.mapSeq]
    exact ⟨n, by rw [Heap.get?_update_self _ ho (by rw [e]; rfl), e]⟩
  obtain ⟨n', hfin⟩ := hfin
  refine wpAny_bind (wpAny_setSeqItemAt ho rfl ?_)
  first
    | exact wpAny_bind (wpAny_pure (wpAny_pure ⟨.none, rfl, wpAny_pure (hQ _ n' hfin (Heap.SameBut.update ..))⟩))
    | exact wpAny_pure ⟨.none, rfl, wpAny_pure (hQ _ n' hfin (Heap.SameBut.update ..))⟩
theorem PU.setList {a xs v} {k : Int} {Q : MH → Prop} (hσ : σ a = some (.list xs)) (h0 : 0 ≤ k) (hk : k < xs.length) (hz : xs.length ≤ 2 ^ 24) (h : Q (upd σ a (.list (xs.set k.toNat v)))) : PU κ (u3 setItem) [.ref a, .int k, v] Q σ := fun A s δ l rs G F hv => by
  obtain ⟨ra, rr, ha, hvs⟩ := hv.cons_inv
  obtain ⟨ri, rv, rfl, hi, hw⟩ := hvs.two
  rw [ha.ref_inv]
  obtain ⟨t, rfl⟩ := hi.int_inv
  obtain ⟨vs, n, h1, h2⟩ := F.sim.rep _ _ hσ
  have hl : vs.size = xs.length := by rw [← Array.length_toList]; exact h2.length
  refine setItem_plain h1 h0 (by lia) (by lia) fun h' n' hp hs => ?_
  have fin := F.setL (tk := s.toks) (ys := xs.set k.toNat v) hσ h1 hs hp fun k' => by
    rw [Array.toList_setIfInBounds]
    exact .set _ (.of_at h2.length fun i p r e e' => k' (h2.at' i p r e e')) (k' hw)
  exact ⟨(), l, _, δ, trivial, fin.1, fin.2, rfl, h⟩
theorem WA.sub {o i pos v} {Q : Loc → MH → Prop} (h : WE κ o (fun ov l1 σ1 => WE κ i (fun iv l2 σ2 => PU κ (u3 setItem) [ov, iv, v] (fun σ3 => Q l2 σ3) σ2) l1 σ1) l σ) : WA κ (.Subscript o i pos) v Q l σ := fun A s δ rv G F hv => by
  rw [assign_Subscript]
  refine At.bind (At.holding (h A s δ G F)) fun a ra l1 σ1 δ1 s1 hR F1 E1 q1 => ?_
  refine At.bind (At.holding (q1 A s1 δ1 G F1)) fun b rb l2 σ2 δ2 s2 hR2 F2 E2 q2 => At.standAt ?_
  exact At.bind (At.holding (q2.run G F2 (.cons (hR.evo F1 E2) (.cons hR2 (.cons ((hv.evo F E1).evo F1 E2) .nil))))) fun _ _ l3 σ3 δ3 s3 _ F3 E3 q3 => wpAny_release (Ok.here (b := ()) F3 trivial q3)
theorem WS1.augSub {o i tpos op value pos} {Q : Fw → Loc → MH → Prop}
    (h : WE κ o (fun ov l1 σ1 => WE κ i (fun iv l2 σ2 => PG κ ov iv (fun old σ3 => WE κ value (fun v l4 σ4 => PV κ (t2 (inplaceOp op)) [old, v] (fun n σ5 => PU κ (u3 setItem) [ov, iv, n] (fun σ6 => Q .next l4 σ6) σ5) σ4) l2 σ3) σ2) l1 σ1) l σ)
    (hi : ∀ ov iv new, augStore i ov iv new = (do holding [new, ov, iv] (setItem ov iv new); release [new, ov, iv] []; pure .next)) :
    WS1 κ (.AugAssign (.Subscript o i tpos) op value pos) Q l σ := fun A s δ G F => by
  refine wpAny_AugAssign_SubscriptAny ?_ hi
  refine wpAny_mono (h A s δ G F) (fun ro s1 ⟨ov, l1, σ1, δ1, hR, F1, E1, q1⟩ => ?_) fun _ _ e => e
  refine wpAny_mono (q1 A s1 δ1 G F1) (fun ri s2 ⟨iv, l2, σ2, δ2, hR2, F2, E2, q2⟩ => ?_) fun _ _ e => e.trans E1
  have E12 := E1.trans E2
  have r2 := hR.evo F1 E2
  refine wpAny_mono (q2 A s2 δ2 l2 ro ri G F2 r2 hR2).2 (fun rold s3 ⟨old, l3, σ3, δ3, hR3, F3, E3, hl3, q3⟩ => ?_) fun _ _ e => e.trans E12
  subst hl3
  have E13 := E12.trans E3
  refine wpAny_mono (q3 A s3 δ3 G F3) (fun rv s4 ⟨v, l4, σ4, δ4, hR4, F4, E4, q4⟩ => ?_) fun _ _ e => e.trans E13
  have E14 := E13.trans E4
  refine wpAny_mono (q4.run (Q := fun n l4 σ5 => PU κ (u3 setItem) [ov, iv, n] (fun σ6 => Q .next l4 σ6) σ5) G F4 (.cons (hR3.evo F3 E4) (.cons hR4 .nil))) (fun rn s5 ⟨n, l5, σ5, δ5, hR5, F5, E5, q5⟩ => ?_) fun _ _ e => e.trans E14
  have E15 := E14.trans E5
  have E25 := (E3.trans E4).trans E5
  exact wpAny_mono (q5.run (Q := fun l σ => Q .next l σ) G F5 (.cons (r2.evo F2 E25) (.cons (hR2.evo F2 E25) (.cons hR5 .nil)))) (fun _ s6 ⟨_, l6, σ6, δ6, _, F6, E6, q6⟩ => ⟨.next, l6, σ6, δ6, .next, F6, E15.trans E6, q6⟩) fun _ _ e => e.trans E15

/-! sums and multiples of lists -/
theorem PV.newL {A : Around} {s : Shared} {xs : List V} {vs : Array Value} {Q : V → MH → Prop} (F : FS κ.φ l σ δ s) (hl : VsRel s.heap xs vs.toList) (h : ∀ a, σ a = none → Q (.ref a) (upd σ a (.list xs))) :
    Ok VRel κ.φ σ δ s.heap (fun v l' σ' => l' = l ∧ Q v σ') (.ref s.heap.objs.size) { s with heap := s.heap.push { cls := .type "list", data := .seq vs } } :=
  Mn.newL (tk := s.toks) F (fun b o e => Heap.get?_push_of_some _ e) hl (Nat.le_refl _) ⟨0, Heap.get?_push_size _ rfl⟩ fun a e => ⟨rfl, h a e⟩
theorem PV.addList {a b xs ys} {Q : V → MH → Prop} (ha : lst σ a xs) (hb : lst σ b ys) (hz : xs.length + ys.length ≤ 2 ^ 24) (h : ∀ c, σ c = none → Q (.ref c) (upd σ c (.list (xs ++ ys)))) : PV κ (t2 (binaryOp .Add)) [.ref a, .ref b] Q σ := fun A s δ l rs G F hv => by
  obtain ⟨ra, rb, rfl, hra, hrb⟩ := hv.two
  rw [hra.ref_inv, hrb.ref_inv]
  obtain ⟨vs, h1, h2, e1⟩ := F.sim.lst ha
  obtain ⟨ws, h3, h4, e2⟩ := F.sim.lst hb
  obtain ⟨⟨cls, dd, data, sl⟩, ho, hc, n, hd⟩ := id h1
  obtain ⟨⟨cls2, dd2, data2, sl2⟩, ho2, hc2, n2, hd2⟩ := id h3
  simp only at hc hd hc2 hd2
  subst hc hd hc2 hd2
  refine concat_meets ⟨_, ho, rfl⟩ ⟨_, ho2, rfl⟩ noFill_list_add seq_list_add PySem.F.slot_list_add PySem.F.entry_list_add (PySem.F.args_list_add_2 _ _) (list_addW a b vs ws n n2 dd dd2 sl sl2 (by rw [e1, e2, sizeLine_eq]; omega)) ⟨ho, ho2, ?_⟩
  exact PV.newL (A := A) F (by rw [Array.toList_append]; exact h2.append h4) h
theorem foldl_rep1 (v : Value) (n : Nat) (acc : Array Value) : (List.foldl (fun x1 x2 => x1 ++ x2) acc (List.replicate n #[v])).toList = acc.toList ++ List.replicate n v := by
  induction n generalizing acc with
  | zero => exact (List.append_nil _).symm
  | succ n ih => rw [List.replicate_succ, List.foldl_cons, ih, Array.toList_append, List.append_assoc]; rfl
theorem VsRel.replicate {h : Heap} {v r} (x : VRel h v r) : ∀ n, VsRel h (List.replicate n v) (List.replicate n r)
  | 0 => .nil
  | n + 1 => .cons x (VsRel.replicate x n)
theorem PV.mulList {a v} {k : Nat} {Q : V → MH → Prop} (ha : σ a = some (.list [v])) (hz : k ≤ 2 ^ 24) (h : ∀ c, σ c = none → Q (.ref c) (upd σ c (.list (List.replicate k v)))) : PV κ (t2 (binaryOp .Mult)) [.ref a, .int (k : Nat)] Q σ := fun A s δ l rs G F hv => by
  obtain ⟨ra, rb, rfl, hra, hrb⟩ := hv.two
  rw [hra.ref_inv]
  obtain ⟨u, rfl⟩ := hrb.int_inv
  obtain ⟨⟨vs⟩, n, ho, h2⟩ := F.sim.rep _ _ ha
  obtain ⟨r, rfl, hvr⟩ := h2.one
  generalize hx : ((k : Nat) : Int) = x
  have hxk : x.toNat = k := by lia
  have c0 : ¬(!Builtin.List.listFitsIndex x) = true := by simp [Builtin.List.listFitsIndex]; lia
  have c1 : ¬1 * x.toNat > (2 ^ 63 - 1) / 8 := by lia
  have c2 : ¬Builtin.List.listTooLong (1 * x.toNat) = true := by rw [hxk]; simp [Builtin.List.listTooLong, sizeLine]; lia
  show At VRel κ A (binaryOp .Mult (.ref a) (.int x u)) _ σ δ s
  refine wpAny_binaryOp_repeat_ref (T := "list") (U := "int") (by decide) ⟨_, ho, rfl⟩ (fun s' => typeIs_int s' x u) noFill_list_mul PySem.F.fills_int_mul PySem.F.slot_int_rmul repeat_list PySem.F.slot_int_index.lookup
    (call_meets PySem.F.slot_int_rmul (typeIs_int s x u) PySem.F.entry_int_rmul (PySem.F.args_int_rmul_2 _ _) (int___rmul___int_list x u a ⟨[r]⟩ n)
      ⟨ho, rfl, ⟨_, ho, rfl⟩, call_meets PySem.F.slot_list_mul ⟨_, ho, rfl⟩ PySem.F.entry_list_mul (PySem.F.args_list_mul_2 _ _)
        (AutoListH.list___mul___list_int_3 a ⟨[r]⟩ n x u c0 c1 c2)
        ⟨ho, ?_⟩⟩)
  refine PV.newL (A := A) F ?_ h
  have e := foldl_rep1 r k #[]
  rw [hxk]
  have e2 := hvr
  by_cases z : (⟨[r]⟩ : Array Value).size = 0
  · cases z
  · have := VsRel.replicate hvr k
    simpa [e] using this
end
end Mn
set_option genInjectivity false
namespace Mn
open PySem.SeqAt

section
variable {κ : Cx} {l : Loc} {σ : MH} {δ : DM}
/-! stores of several values -/
noncomputable def WAs (κ : Cx) (ts : List PySem.Expr) (vs : List V) (Q : Loc → MH → Prop) (l : Loc) (σ : MH) : Prop :=
  ∀ A s δ rvs, Good κ A → FS κ.φ l σ δ s → VsRel s.heap vs rvs → At URel κ A (assignInOrder ((assignEach ts κ.φ.f.env).map (·.2)) rvs) (fun _ => Q) σ δ s
theorem WAs.nil {vs} {Q : Loc → MH → Prop} (h : Q l σ) : WAs κ [] vs Q l σ := fun _ _ δ rvs _ F hv => by
  show At URel κ _ (assignInOrder [] rvs) _ σ δ _
  cases rvs <;> exact wpAny_pure (Ok.here (b := ()) F trivial h)
theorem WAs.cons {t ts v vs} {Q : Loc → MH → Prop} (h : WA κ t v (fun l1 σ1 => WAs κ ts vs Q l1 σ1) l σ) (he : (assignEach (t :: ts) κ.φ.f.env).map (·.2) = assign t κ.φ.f.env :: (assignEach ts κ.φ.f.env).map (·.2)) : WAs κ (t :: ts) (v :: vs) Q l σ := fun A s δ rvs G F hv => by
  obtain ⟨r, rs, hr, hs⟩ := hv.cons_inv
  rw [he]
  show At URel κ A (do holding rs (assign t κ.φ.f.env r); assignInOrder ((assignEach ts κ.φ.f.env).map (·.2)) rs) _ σ δ s
  exact At.bind (At.holding (h A s δ r G F hr)) fun _ _ l1 σ1 δ1 s1 _ F1 E1 q1 => q1 A s1 δ1 rs G F1 (hs.evo F E1)
noncomputable def WNms (κ : Cx) (xs : List Str) (vs : List V) (Q : Loc → MH → Prop) (l : Loc) (σ : MH) : Prop :=
  ∀ A s δ rvs, Good κ A → FS κ.φ l σ δ s → VsRel s.heap vs rvs → At URel κ A (assignInOrder (xs.map fun n => bindName κ.φ.f.env n) rvs) (fun _ => Q) σ δ s
theorem WNms.nil {vs} {Q : Loc → MH → Prop} (h : Q l σ) : WNms κ [] vs Q l σ := fun _ _ δ rvs _ F hv => by
  show At URel κ _ (assignInOrder [] rvs) _ σ δ _
  cases rvs <;> exact wpAny_pure (Ok.here (b := ()) F trivial h)
theorem WNms.cons {x xs v vs} {Q : Loc → MH → Prop} (hx : MyName κ x) (h : WNms κ xs vs Q (upd l x v) σ) : WNms κ (x :: xs) (v :: vs) Q l σ := fun A s δ rvs G F hv => by
  obtain ⟨r, rs, hr, hs⟩ := hv.cons_inv
  show At URel κ A (do holding rs (bindName κ.φ.f.env x r); assignInOrder (xs.map fun n => bindName κ.φ.f.env n) rs) _ σ δ s
  exact At.bind (At.holding (wpAny_bindName (store_name (Q := WNms κ xs vs Q) F hr hx h))) fun _ _ l1 σ1 δ1 s1 _ F1 E1 q1 => q1 A s1 δ1 rs G F1 (hs.evo F E1)
theorem extGrow {s : Shared} {h' : Heap} (he : Heap.ExtBut s.heap.objs.size s.heap h') : ∀ b o, s.heap.get? b = some o → h'.get? b = some o := fun b o e => he b o (Nat.ne_of_lt (Heap.lt_size e)) e
theorem WA.tuple {elts k pos vs} {Q : Loc → MH → Prop} (h : WAs κ elts vs Q l σ) (hn : (assignEach elts κ.φ.f.env).length = vs.length) (hs : (assignEach elts κ.φ.f.env).findIdx? (·.1) = none) :
    WA κ (.Tuple elts k pos) (.tup vs) Q l σ := fun A s δ rv G F hv => by
  obtain ⟨a, rvs, ht, hl⟩ := hv.tup_inv
  refine wpAny_assign_Tuple G.handled ht (by rw [hn, ← hl.length, Array.length_toList]) hs fun h' he => ?_
  have fin := F.grow (tk := s.toks) (extGrow he)
  exact wpAny_mono (h A _ δ rvs.toList G fin.1 (hl.evo F fin.2)) (fun _ s2 x => x.after fin.2) fun _ _ e => e.trans fin.2
/-- the stores of a tuple display, the last name first -/
theorem WS1.assignSwap {elts k tpos value pos} {names : List Str} {Q : Fw → Loc → MH → Prop} (h : WE κ value (fun v l1 σ1 => ∃ vs, A3 (v = .tup vs) (vs.length = names.length) (WNms κ names.reverse vs.reverse (Q .next) l1 σ1)) l σ)
    (hs : swapsWithSole [.Tuple elts k tpos] value pos.line κ.φ.f.env = pure false) (hw : swappedStores [.Tuple elts k tpos] value κ.φ.f.env = pure (some names)) : WS1 κ (.Assign [.Tuple elts k tpos] value pos) Q l σ := fun A s δ G F => by
  refine Assign_Tuple_swapped (names := names) (wpAny_mono (h A s δ G F) (fun rv s1 ⟨v, l1, σ1, δ1, hR, F1, E1, vs, hv, hn, q1⟩ => ?_) fun _ _ e => e) hs hw
  subst hv
  obtain ⟨a, rvs, ht, hl⟩ := hR.tup_inv
  have e1 : rvs.size = names.length := by rw [← Array.length_toList, hl.length, hn]
  rw [← e1]
  refine wpAny_unpackItems_tuple G.handled ht fun h' he => ?_
  have fin := F1.grow (tk := s1.toks) (extGrow he)
  exact wpAny_mono (q1 A _ δ1 rvs.toList.reverse G fin.1 (hl.evo F1 fin.2).reverse) (fun _ s2 ⟨_, l2, σ2, δ2, _, F2, E2, q2⟩ => ⟨.next, l2, σ2, δ2, .next, F2, (E1.trans fin.2).trans E2, q2⟩) fun _ _ e => e.trans (E1.trans fin.2)

/-! loops -/
noncomputable def loopQ (C : Loc → MH → Prop) (Q : Fw → Loc → MH → Prop) : Fw → Loc → MH → Prop
  | .next => C
  | .cont => C
  | .brk => Q .next
  | .ret v => Q (.ret v)
theorem WS1.whileI {test body pos} {Q : Fw → Loc → MH → Prop} (I : Nat → Loc → MH → Prop)
    (turn : ∀ n l1 σ1, I n l1 σ1 → WB κ.nx test (fun b l2 σ2 => brk2 (WS κ.nx body (loopQ (fun l σ => ∃ m, m < n ∧ I m l σ) Q) l2 σ2) (Q .next l2 σ2) b) l1 σ1) (n : Nat) (h : I n l σ) : WS1 κ (.While test body [] pos) Q l σ := fun A s δ G F => by
  refine wpAny_While (codeAny_whileLoop (fun k s1 => X3 fun l1 σ1 δ1 => A3 (FS κ.φ l1 σ1 δ1 s1) (Ev κ.φ σ δ s.heap σ1 δ1 s1.heap) (I k l1 σ1)) (fun k s1 ⟨l1, σ1, δ1, F1, E1, q1⟩ => ?_) n ⟨l, σ, δ, F, Ev.refl .., h⟩)
  refine wpAny_mono (turn k l1 σ1 q1 A s1 δ1 G F1) (fun b s2 ⟨b', l2, σ2, δ2, hR, F2, E2, q2⟩ => ?_) fun _ _ e => Flies.no e
  cases hR
  have E12 := E1.trans E2
  cases b with
  | false => exact wpAny_execs_nil ⟨.next, l2, σ2, δ2, .next, F2, E12, q2⟩
  | true =>
    refine wpAny_mono ((show WS κ.nx body _ l2 σ2 from q2) A s2 δ2 G F2) (fun fw s3 ⟨w, l3, σ3, δ3, hR3, F3, E3, q3⟩ => ?_) fun _ _ e => Flies.no e
    have E13 := E12.trans E3
    cases hR3 with
    | next => obtain ⟨m, hm, q⟩ := q3; exact ⟨m, hm, l3, σ3, δ3, F3, E13, q⟩
    | cont => obtain ⟨m, hm, q⟩ := q3; exact ⟨m, hm, l3, σ3, δ3, F3, E13, q⟩
    | brk => exact ⟨.next, l3, σ3, δ3, .next, F3, E13, q3⟩
    | ret hv => exact ⟨.ret _, l3, σ3, δ3, .ret hv, F3, E13, q3⟩

/-! objects that stand aside: iterators -/
noncomputable def KeepBut (its : List Addr) (h h' : Heap) : Prop := ∀ b o, h.get? b = some o → b ∉ its → h'.get? b = some o
theorem Evo.keepBut {fl fa σ δ h σ1 δ1 h1 h2 its} (E : Evo fl fa σ δ h σ1 δ1 h1) (K : KeepBut its h1 h2) (hn : ∀ b ∈ its, h.get? b = none) : Evo fl fa σ δ h σ1 δ1 h2 := by
  have ni : ∀ b o, h.get? b = some o → b ∉ its := fun b o e q => some_not_none e (hn b q)
  refine ⟨fun b o e n q r => ?_, fun b o e n q r => K b o (E.keep b o e n q r) (ni b o e), E.own, E.dom, fun b o e => ?_⟩
  · obtain ⟨sl, h3⟩ := E.slots b o e n q r; exact ⟨sl, K b _ h3 (ni b o e)⟩
  · obtain ⟨o', h3⟩ := E.live b o e; exact ⟨o', K b o' h3 (ni b o e)⟩
structure Aside (φ : Fx) (σ : MH) (δ : DM) (h : Heap) (b : Addr) (o : Obj) : Prop where
  at_ : h.get? b = some o
  base : φ.g.base.get? b = none
  dom : ¬ Dom σ δ b
  fa : b ∉ φ.f.fa
  fl : ¬ Fl φ.fl b
section
variable {φ : Fx} {b : Addr} {o o' : Obj} {h h' : Heap} {s : Shared}
theorem Aside.stay {σ' δ' fa'} (hb : b ∉ fa') (E : Evo φ.fl fa' σ δ h σ' δ' h') (a : Aside φ σ δ h b o) : Aside φ σ' δ' h' b o :=
  ⟨E.keep b o a.at_ (fun z => a.dom z.dom) hb a.fl, a.base, E.notDom a.at_ a.dom, a.fa, a.fl⟩
theorem Aside.new (F : FS φ l σ δ s) (hb : s.heap.objs.size ≤ b) (ho : h'.get? b = some o) : Aside φ σ δ h' b o := by
  have e0 := fresh_get (h := s.heap) hb
  refine ⟨ho, F.baseNone e0, fun z => ?_, fun z => ?_, fun z => ?_⟩
  · cases z with
    | obj x z => exact some_not_none z (F.sim.freshσ hb)
    | dict x z => exact some_not_none z (F.sim.freshδ hb)
  · obtain ⟨x, h1, _⟩ := (F.fa b z).at_; exact some_not_none h1 e0
  · obtain ⟨_, _, x, _, _, h1, _⟩ := F.fr.at z; exact some_not_none h1 e0
theorem FS.aside {tk : Nat} (F : FS φ l σ δ s) (A : Aside φ σ δ s.heap b o) (k : KeepBut [b] s.heap h') (hc : ∀ v, o.data ≠ .cell v) (ht : ¬ IsTup o) : FS φ l σ δ { s with heap := h', toks := tk } :=
  F.scratch (c := b) (fun b' x e n => k b' x e (fun z => n (List.mem_singleton.mp z))) A.dom A.base A.fa A.fl (fun v ⟨x, e, e'⟩ => by rw [A.at_] at e; cases e; exact hc v e') fun x e => by rw [A.at_] at e; cases e; exact ht
theorem Aside.put (A : Aside φ σ δ h b o) (k : h'.get? b = some o') : Aside φ σ δ h' b o' := ⟨k, A.base, A.dom, A.fa, A.fl⟩
theorem KeepBut.of_ext (x : Heap.ExtBut b h h') : KeepBut [b] h h' := fun c o e n => x c o (fun z => n (List.mem_singleton.mpr z)) e
theorem tupKeep (A : h.get? b = some o) (nt : ¬ IsTup o) (kb : KeepBut [b] h h') : ∀ c o2, h.get? c = some o2 → IsTup o2 → h'.get? c = some o2 := fun c o2 e t => kb c o2 e fun z => by
  rw [List.mem_singleton.mp z, A] at e; cases e; exact nt t
end
/-- an iterator in the heap: `P k` holds where it has given k of the values -/
structure Itr (g : G) (fl : List Env) (it : Value) (target : PySem.Expr) (Inv : MH → Prop) (ys : List V) (its : List Addr) (P : Frm → Nat → MH → DM → Heap → Prop) : Prop where
  stay : ∀ {f k l σ δ} {s : Shared} {σ' δ'} {s' : Shared} {fa' : List Addr}, FS ⟨g, fl, f⟩ l σ δ s → (∀ b ∈ fa', b ∉ its ∧ ∃ o, s.heap.get? b = some o ∧ ¬ IsTup o) → Evo fl fa' σ δ s.heap σ' δ' s'.heap → P f k σ δ s.heap → P f k σ' δ' s'.heap
  next : ∀ {f A s δ l σ k v} {Q : Value → Shared → Prop} {E}, A.handled = none → FS ⟨g, fl, f⟩ l σ δ s → Inv σ → P f k σ δ s.heap → ys[k]? = some v →
    (∀ rv s', VRel s'.heap v rv → FS ⟨g, fl, f⟩ l σ δ s' → KeepBut its s.heap s'.heap → P f (k + 1) σ δ s'.heap → Q rv s') → wpAny (model g.prog g.w) A (pyNext it) (fun r s1 => ∃ rv, A3 (r = some rv) (wpAny (model g.prog g.w) A (letOwnedTupleGo target it rv) (fun _ s2 => Q rv s2) E s1) (((X2 fun x p => target = .Name x p) → Q rv s1))) E s
  done : ∀ {f A s δ l σ k} {Q : Shared → Prop} {E}, A.handled = none → FS ⟨g, fl, f⟩ l σ δ s → Inv σ → P f k σ δ s.heap → ys[k]? = none →
    (∀ s', FS ⟨g, fl, f⟩ l σ δ s' → KeepBut its s.heap s'.heap → Q s') → wpAny (model g.prog g.w) A (pyNext it) (fun r s1 => r = none ∧ Q s1) E s
  again : ∀ {f A s k σ δ} {Q : Value → Shared → Prop} {E}, P f k σ δ s.heap → Q it s → wpAny (model g.prog g.w) A (pyIter it) Q E s
inductive ItOk (φ : Fx) (target : PySem.Expr) (σ : MH) (δ : DM) (h : Heap) (Q : List V → (MH → Prop) → Loc → MH → Prop) (it : Value) (s' : Shared) : Prop
  | mk (l1 : Loc) (σ1 : MH) (δ1 : DM) (P : Frm → Nat → MH → DM → Heap → Prop) (its : List Addr) (ys : List V) (Inv : MH → Prop) (F : FS φ l1 σ1 δ1 s') (E : Ev φ σ δ h σ1 δ1 s'.heap) (hits : ∀ b ∈ its, h.get? b = none) (live : ∀ b ∈ its, ∃ o, s'.heap.get? b = some o)
      (W : Itr φ.g φ.fl it target Inv ys its P) (hP : P φ.f 0 σ1 δ1 s'.heap) (q : Q ys Inv l1 σ1)
theorem ItOk.trans {φ : Fx} {target} {σ1 δ1} {h h1 : Heap} {Q : List V → (MH → Prop) → Loc → MH → Prop} {it s'} (E : Ev φ σ δ h σ1 δ1 h1) (x : ItOk φ target σ1 δ1 h1 Q it s') : ItOk φ target σ δ h Q it s' := by
  obtain ⟨l1, σ2, δ2, P, its, ys, Inv, F2, E2, hits, hlv, W, hP, q⟩ := x
  exact ⟨l1, σ2, δ2, P, its, ys, Inv, F2, E.trans E2, fun b hb => E.none_of (hits b hb), hlv, W, hP, q⟩
/-- an expression that is gone through -/
noncomputable def WIt (κ : Cx) (target : PySem.Expr) (e : PySem.Expr) (Q : List V → (MH → Prop) → Loc → MH → Prop) (l : Loc) (σ : MH) : Prop :=
  ∀ A s δ, Good κ A → FS κ.φ l σ δ s → wpAny (model κ.φ.g.prog κ.φ.g.w) A (eval e κ.φ.f.env) (fun r s1 => wpAny (model κ.φ.g.prog κ.φ.g.w) A (pyIter r) (ItOk κ.φ target σ δ s.heap Q) (FlX κ σ δ s.heap) s1) (FlX κ σ δ s.heap) s
/-- what a for loop asks of the values -/
inductive ForQ (κ : Cx) (target : PySem.Expr) (body : List PySem.Stmt) (Q : Fw → Loc → MH → Prop) (ys : List V) (Inv : MH → Prop) (l1 : Loc) (σ1 : MH) : Prop
  | mk (I : Nat → Loc → MH → Prop) (q0 : I 0 l1 σ1) (qinv : ∀ k l2 σ2, I k l2 σ2 → Inv σ2)
      (qturn : ∀ k x l2 σ2, ys[k]? = some x → I k l2 σ2 → WA κ.nx target x (fun l3 σ3 => WS κ.nx body (loopQ (I (k + 1)) Q) l3 σ3) l2 σ2) (qend : ∀ l2 σ2, I ys.length l2 σ2 → Q .next l2 σ2)
inductive ForAt (κ : Cx) (σ : MH) (δ : DM) (h : Heap) (P : Frm → Nat → MH → DM → Heap → Prop) (I : Nat → Loc → MH → Prop) (m n : Nat) (s' : Shared) : Prop
  | mk (k : Nat) (l3 : Loc) (σ3 : MH) (δ3 : DM) (hn : n = m + 1 - k) (hk : k ≤ m) (F : FS κ.φ l3 σ3 δ3 s') (E : Ev κ.φ σ δ h σ3 δ3 s'.heap) (hP : P κ.φ.f k σ3 δ3 s'.heap) (q : I k l3 σ3)
theorem WS1.forI {target iter body pos} {Q : Fw → Loc → MH → Prop} (h : WIt κ target iter (ForQ κ target body Q) l σ)
    (hs : ∀ x, foldedSetIterable iter κ.φ.f.env x = pure x) : WS1 κ (.For target iter body [] pos) Q l σ := fun A s δ G F => by
  refine wpAny_For (wpAny_mono (h A s δ G F) (fun rv s1 q1 => wpAny_mono q1 (fun it s2 q2 => ?_) fun _ _ e => e) fun _ _ e => e) hs
  obtain ⟨l1, σ1, δ1, P, its, ys, Inv, F2, E2, hits, _, W, hP, I, q0, qinv, qturn, qend⟩ := q2
  refine codeAny_forLoop_any (ForAt κ σ δ s.heap P I ys.length) (fun n s3 ⟨k, l3, σ3, δ3, hn, hk, F3, E3, hP3, q3⟩ => ?_) (ys.length + 1) ⟨0, l1, σ1, δ1, rfl, Nat.zero_le _, F2, E2, hP, q0⟩
  cases hx : ys[k]? with
  | none =>
    have hkk : k = ys.length := Nat.le_antisymm hk (List.getElem?_eq_none_iff.mp hx)
    refine wpAny_mono (W.done (Q := fun s4 => FS κ.φ l3 σ3 δ3 s4 ∧ KeepBut its s3.heap s4.heap) (E := fun _ _ => False) G.handled F3 (qinv _ _ _ q3) hP3 hx fun s' a b => ⟨a, b⟩) (fun r s4 ⟨hr, F4, K4⟩ => ?_) fun _ _ e => e.elim
    subst hr
    exact wpAny_execs_nil ⟨.next, l3, σ3, δ3, .next, F4, E3.keepBut K4 hits, qend _ _ (hkk ▸ q3)⟩
  | some x =>
    have hlt : k < ys.length := (List.getElem?_eq_some_iff.mp hx).1
    refine wpAny_mono (W.next (A := A) (E := fun _ _ => False) (Q := fun rv s4 => VRel s4.heap x rv ∧ FS κ.φ l3 σ3 δ3 s4 ∧ KeepBut its s3.heap s4.heap ∧ P κ.φ.f (k + 1) σ3 δ3 s4.heap) G.handled F3 (qinv _ _ _ q3) hP3 hx fun rv s' a b c d => ⟨a, b, c, d⟩) (fun r s4 h4 => ?_) fun _ _ e => e.elim
    obtain ⟨rx, hrx, h4, _⟩ := h4
    subst hrx
    refine wpAny_mono h4 (fun _ s5 ⟨hR5, F5, K5, hP5⟩ => ?_) fun _ _ e => e.elim
    refine wpAny_mono (qturn k x l3 σ3 hx q3 A s5 δ3 rx G F5 hR5) (fun _ s6 ⟨_, l6, σ6, δ6, _, F6, E6, q6⟩ => ?_) fun _ _ e => Flies.no e
    refine wpAny_mono (q6 A s6 δ6 G F6) (fun fw s7 ⟨w, l7, σ7, δ7, hR7, F7, E7, q7⟩ => ?_) fun _ _ e => Flies.no e
    have E57 := E6.trans E7
    have EE := Ev.trans (E3.keepBut K5 hits) E57
    have next : I (k + 1) l7 σ7 → ForAt κ σ δ s.heap P I ys.length (ys.length + 1 - (k + 1)) s7 := fun q => ⟨k + 1, l7, σ7, δ7, rfl, hlt, F7, EE, W.stay F5 (fun b hb => ⟨fun z => (by obtain ⟨o, h1, _⟩ := (F.fa b hb).at_; exact some_not_none h1 (hits b z)), (F5.fa b hb).at_⟩) E57 hP5, q⟩
    cases hR7 with
    | next => exact ⟨_, by lia, next q7⟩
    | cont => exact ⟨_, by lia, next q7⟩
    | brk => exact ⟨.next, l7, σ7, δ7, .next, F7, EE, q7⟩
    | ret hv => exact ⟨.ret _, l7, σ7, δ7, .ret hv, F7, EE, q7⟩

/-! iterators of one object -/
theorem goName {x pos it} (v : Value) : letOwnedTupleGo (.Name x pos) it v = pure () := rfl
noncomputable def lonely (T : String) : Bool := !["enumerate", "zip", "dict_itemiterator", "dict_reverseitemiterator", "odict_iterator", "itertools.zip_longest", "itertools.pairwise"].contains T
theorem go_listiter {A : Around} {s : Shared} {E : Value → Shared → Prop} {prog w target} {it : Addr} {o : Obj} {v : Value} {Q : Unit → Shared → Prop} {T : String} (ho : s.heap.get? it = some o) (hT : o.cls = .type T) (hc : lonely T = true)
    (h : Q () s) : wpAny (model prog w) A (letOwnedTupleGo target (.ref it) v) Q E s := by
  have hc : ["enumerate", "zip", "dict_itemiterator", "dict_reverseitemiterator", "odict_iterator", "itertools.zip_longest", "itertools.pairwise"].contains T = false := by unfold lonely at hc; rwa [Bool.not_eq_true'] at hc
  have fin : wpAny (model prog w) A (match v with
    | .ref a => (do
      let o ← load it
      match o.cls, o.data with
      | .type n, .fields vs =>
        if ["enumerate", "zip", "dict_itemiterator", "dict_reverseitemiterator", "odict_iterator", "itertools.zip_longest", "itertools.pairwise"].contains n && vs[0]? == some (rawInt a) then
          rule "for.unpacks-the-owned-tuple"
          updateField it 0 .none
      | _, _ => pure ())
    | _ => pure ()) Q E s := by
    cases v with
    | ref a =>
      refine wpAny_bind (wpAny_load ho ?_)
      rw [hT]
      cases o.data with
      | fields vs =>
        dsimp only
        rw [if_neg (by rw [hc]; exact Bool.false_ne_true)]
        exact wpAny_pure h
      | _ => exact wpAny_pure h
    | _ => exact wpAny_pure h
  cases target with
  | Tuple => cases v <;> exact fin
  | List => cases v <;> exact fin
  | _ => exact wpAny_pure h
structure OneIt (g : G) (fl : List Env) (it : Addr) (Inv : MH → Prop) (W : Heap → Prop) (ys : List V) (T : String) (Ob : Nat → Obj → Prop) : Prop where
  nt : (Value.type T) ≠ .type "tuple"
  lo : lonely T = true
  cls : ∀ {k o}, Ob k o → o.cls = .type T
  cell : ∀ {k o}, Ob k o → ∀ v, o.data ≠ .cell v
  mono : ∀ {h h' : Heap}, (∀ b o, h.get? b = some o → IsTup o → h'.get? b = some o) → W h → W h'
  next : ∀ {f A s l σ δ k v o P E}, A.handled = none → FS ⟨g, fl, f⟩ l σ δ s → Inv σ → W s.heap → s.heap.get? it = some o → Ob k o → ys[k]? = some v →
    (∀ r h' o' tk, VRel s.heap v r → h'.get? it = some o' → Ob (k + 1) o' → Heap.ExtBut it s.heap h' → P (some r) { s with heap := h', toks := tk }) → wpAny (model g.prog g.w) A (pyNext (.ref it)) P E s
  done : ∀ {f A s l σ δ k o P E}, A.handled = none → FS ⟨g, fl, f⟩ l σ δ s → Inv σ → W s.heap → s.heap.get? it = some o → Ob k o → ys[k]? = none → (∀ h', Heap.ExtBut it s.heap h' → P none { s with heap := h' }) → wpAny (model g.prog g.w) A (pyNext (.ref it)) P E s
  again : ∀ {A s k o Q E}, s.heap.get? it = some o → Ob k o → Q (.ref it) s → wpAny (model g.prog g.w) A (pyIter (.ref it)) Q E s
inductive OneAt (g : G) (fl : List Env) (it : Addr) (W : Heap → Prop) (Ob : Nat → Obj → Prop) (f : Frm) (k : Nat) (σ : MH) (δ : DM) (h : Heap) : Prop
  | mk (o : Obj) (A : Aside ⟨g, fl, f⟩ σ δ h it o) (ho : Ob k o) (hW : W h)
theorem OneIt.itr {g fl it Inv W ys T Ob target} (X : OneIt g fl it Inv W ys T Ob) : Itr g fl (.ref it) target Inv ys [it] (OneAt g fl it W Ob) where
  stay F k E := fun ⟨o, A, ho, hW⟩ => ⟨o, A.stay (φ := ⟨g, fl, _⟩) (fun z => (k _ z).1 (.head _)) E, ho, X.mono (E.tups F.sim (fun b hb => (k b hb).2) F.fr) hW⟩
  next hh F hi := fun ⟨o, A, ho, hW⟩ hv hQ => by
    refine X.next hh F hi hW A.at_ ho hv fun r h' o' tk hr h1 h2 hs => ?_
    have kb : KeepBut [it] _ h' := KeepBut.of_ext hs
    have nt : ¬ IsTup o := notTup_cls (by rw [X.cls ho]; exact X.nt)
    have kt := tupKeep A.at_ nt kb
    have fin := hQ r _ (hr.mono kt) (F.aside (tk := tk) A kb (X.cell ho) nt) kb ⟨o', A.put h1, h2, X.mono kt hW⟩
    exact ⟨r, rfl, go_listiter h1 (X.cls h2) X.lo fin, fun _ => fin⟩
  done hh F hi := fun ⟨o, A, ho, hW⟩ hv hQ => by
    refine X.done hh F hi hW A.at_ ho hv fun h' hs => ?_
    have kb : KeepBut [it] _ h' := KeepBut.of_ext hs
    exact ⟨rfl, hQ _ (F.aside A kb (X.cell ho) (notTup_cls (by rw [X.cls ho]; exact X.nt))) kb⟩
  again := fun ⟨o, A, ho, _⟩ h => X.again A.at_ ho h
theorem none_past {h : Heap} {xs : List V} {vs : Array Value} {k : Nat} (hl : VsRel h xs vs.toList) (hx : xs[k]? = none) : vs[k]? = none := by
  rw [List.getElem?_eq_none_iff] at hx
  rw [Array.getElem?_eq_none_iff, ← Array.length_toList, hl.length]; exact hx
theorem OneIt.list {g fl it a ys} : OneIt g fl it (fun σ => lst σ a ys) (fun _ => True) ys "list_iterator" (fun k o => o.cls = .type "list_iterator" ∧ o.data = .fields #[.ref a, .int k 0]) where
  nt := type_ne (by decide)
  lo := by decide
  cls h := h.1
  cell h v := by rw [h.2]; exact fun z => nomatch z
  mono _ _ := trivial
  next hh F hi _ ho hO hv hP := by
    obtain ⟨vs, h1, h2, _⟩ := F.sim.lst hi
    obtain ⟨r, h3, h4⟩ := h2.get hv
    exact wpAny_pyNext_list_item ⟨_, ho, hO⟩ h1 (by rw [← Array.getElem?_toList]; exact h3) fun h' ⟨o', q1, q2⟩ hs => hP r h' o' _ h4 q1 q2 hs.extBut
  done hh F hi _ ho hO hv hP := by
    obtain ⟨vs, h1, h2, _⟩ := F.sim.lst hi
    exact wpAny_pyNext_list_end hh ⟨_, ho, hO⟩ h1 (none_past h2 hv) hP
  again ho hO h := wpAny_pyIter_listiter ⟨_, ho, hO⟩ h
theorem OneIt.tup {g fl it t vs ys} : OneIt g fl it (fun _ => True) (fun h => h.IsTuple t vs ∧ VsRel h ys vs.toList) ys "tuple_iterator" (fun k o => o.cls = .type "tuple_iterator" ∧ o.data = .fields #[.ref t, .int k 0]) where
  nt := type_ne (by decide)
  lo := by decide
  cls h := h.1
  cell h v := by rw [h.2]; exact fun z => nomatch z
  mono k := fun ⟨⟨o, h1, h2, n, h3⟩, h4⟩ => ⟨⟨o, k _ _ h1 ⟨h2, _, _, h3⟩, h2, n, h3⟩, h4.mono k⟩
  next hh F hi hW ho hO hv hP := by
    obtain ⟨r, h3, h4⟩ := hW.2.get hv
    exact wpAny_pyNext_tuple_item ⟨_, ho, hO⟩ hW.1 (by rw [← Array.getElem?_toList]; exact h3) fun h' ⟨o', q1, q2⟩ hs => hP r h' o' _ h4 q1 q2 hs.extBut
  done hh F hi hW ho hO hv hP := wpAny_pyNext_tuple_end hh ⟨_, ho, hO⟩ hW.1 (none_past hW.2 hv) hP
  again ho hO h := wpAny_pyIter_tupleiter ⟨_, ho, hO⟩ h
noncomputable def rng (a : Int) (n : Nat) : List V := (List.range n).map fun i => .int (a + (i : Nat))
theorem rng_len (a : Int) (n : Nat) : (rng a n).length = n := by unfold rng; rw [List.length_map, List.length_range]
theorem rng_get (a : Int) (n i : Nat) : (rng a n)[i]? = if i < n then some (.int (a + (i : Nat))) else none := by
  unfold rng
  rw [List.getElem?_map]
  by_cases h : i < n
  · rw [if_pos h, List.getElem?_range h]; rfl
  · rw [if_neg h, List.getElem?_eq_none (by rw [List.length_range]; lia)]; rfl
theorem OneIt.range {g fl it} {a : Int} {n : Nat} : OneIt g fl it (fun _ => True) (fun _ => True) (rng a n) "range_iterator" (fun k o => o = { cls := .type "range_iterator", dict := none, data := .fields #[rawInt (a + (k : Nat)), rawInt ((n : Int) - (k : Nat)), rawInt 1], slots := #[] }) where
  nt := type_ne (by decide)
  lo := by decide
  cls h := by rw [h]
  cell h v := by rw [h]; exact fun z => nomatch z
  mono _ _ := trivial
  next {_ _ _ _ _ _ k _ _ _ _} hh F hi _ ho hO hv hP := by
    subst hO
    rw [rng_get] at hv
    split at hv
    · cases hv
      refine wpAny_pyNext_range_item ho (by lia) fun h' q1 hs => hP _ h' _ _ (.int ..) q1 ?_ hs.extBut
      rw [show a + ((k + 1 : Nat) : Int) = a + (k : Nat) + 1 by lia, show (n : Int) - ((k + 1 : Nat) : Int) = (n : Int) - (k : Nat) - 1 by lia]
    · cases hv
  done hh F hi _ ho hO hv hP := by
    subst hO
    rw [rng_get] at hv
    split at hv
    · cases hv
    · exact wpAny_pyNext_range_end hh ho (by lia) hP
  again ho hO h := by subst hO; exact wpAny_pyIter_rangeiter ho h
theorem OneIt.rev {g fl it a} {ys : List V} : OneIt g fl it (fun σ => lst σ a ys) (fun _ => True) ys.reverse "list_reverseiterator" (fun k o => o.cls = .type "list_reverseiterator" ∧ o.data = .fields #[.ref a, rawInt ((ys.length : Int) - 1 - (k : Nat))] ∧ k ≤ ys.length) where
  nt := type_ne (by decide)
  lo := by decide
  cls h := h.1
  cell h v := by rw [h.2.1]; exact fun z => nomatch z
  mono _ _ := trivial
  next {_ _ _ _ _ _ k _ _ _ _} hh F hi _ ho hO hv hP := by
    obtain ⟨vs, h1, h2, _⟩ := F.sim.lst hi
    have hlt : k < ys.length := by have := (List.getElem?_eq_some_iff.mp hv).1; rwa [List.length_reverse] at this
    rw [List.getElem?_reverse hlt] at hv
    obtain ⟨r, h3, h4⟩ := h2.get hv
    refine wpAny_pyNext_rev_item (i := ys.length - 1 - k) ⟨_, ho, hO.1, by rw [hO.2.1, show ((ys.length - 1 - k : Nat) : Int) = (ys.length : Int) - 1 - (k : Nat) by lia]⟩ h1 (by rw [← Array.getElem?_toList]; exact h3) fun h' ⟨o', q1, q2, q3⟩ hs => hP r h' o' _ h4 q1 ⟨q2, ?_, hlt⟩ hs.extBut
    rw [q3, show ((ys.length - 1 - k : Nat) : Int) - 1 = (ys.length : Int) - 1 - ((k + 1 : Nat) : Int) by lia]
  done {_ _ _ _ _ _ k _ _ _} hh F hi _ ho hO hv hP := by
    rw [List.getElem?_eq_none_iff, List.length_reverse] at hv
    exact wpAny_pyNext_rev_end hh (l := a) ⟨_, ho, hO.1, by rw [hO.2.1, show (ys.length : Int) - 1 - (k : Nat) = -1 by have := hO.2.2; lia]⟩ hP
  again ho hO h := wpAny_pyIter_revIter ⟨_, ho, hO.1, hO.2.1⟩ h
/-- an iterator that is new -/
theorem OneIt.make {φ : Fx} {s : Shared} {h' : Heap} {tk : Nat} {it : Addr} {o : Obj} {Inv : MH → Prop} {W : Heap → Prop} {ys T Ob target} {Q : List V → (MH → Prop) → Loc → MH → Prop} (X : OneIt φ.g φ.fl it Inv W ys T Ob) (F : FS φ l σ δ s) (k : ∀ b o, s.heap.get? b = some o → h'.get? b = some o)
    (hb : s.heap.objs.size ≤ it) (ho : h'.get? it = some o) (hO : Ob 0 o) (hW : W h') (q : Q ys Inv l σ) : ItOk φ target σ δ s.heap Q (.ref it) { s with heap := h', toks := tk } := by
  have fin := F.grow (tk := tk) k
  have as := Aside.new F (h' := h') hb ho
  exact ⟨l, σ, δ, _, [it], ys, Inv, fin.1, fin.2, fun b h => by rw [List.mem_singleton.mp h]; exact fresh_get hb, fun b h => by rw [List.mem_singleton.mp h]; exact ⟨o, ho⟩, X.itr, ⟨o, as, hO, hW⟩, q⟩
/-- what a value is gone through by -/
inductive Seq1 (σ : MH) : V → List V → (MH → Prop) → Prop
  | list (a : Addr) (ys : List V) (h : lst σ a ys) : Seq1 σ (.ref a) ys fun σ => lst σ a ys
  | tup (ys : List V) : Seq1 σ (.tup ys) ys fun _ => True
theorem WIt.val {target e} {Q : List V → (MH → Prop) → Loc → MH → Prop} (h : WE κ e (fun v l1 σ1 => X2 fun ys Inv => Seq1 σ1 v ys Inv ∧ Q ys Inv l1 σ1) l σ) : WIt κ target e Q l σ := fun A s δ G F => by
  refine wpAny_mono (h A s δ G F) (fun r s1 ⟨v, l1, σ1, δ1, hR, F1, E1, ys, Inv, hs, q⟩ => ?_) fun _ _ e => e
  cases hs with
  | list a ys hl =>
    rw [hR.ref_inv]
    obtain ⟨vs, h1, h2, _⟩ := F1.sim.lst hl
    exact wpAny_pyIter_list h1 (ItOk.trans E1 (OneIt.make OneIt.list F1 (fun b o e => Heap.get?_push_of_some _ e) (Nat.le_refl _) (Heap.get?_push_size _ rfl) ⟨rfl, rfl⟩ trivial q))
  | tup ys =>
    obtain ⟨a, vs, ht, hl⟩ := hR.tup_inv
    have kk : ∀ b o, s1.heap.get? b = some o → (s1.heap.push { cls := .type "tuple_iterator", data := .fields #[.ref a, .int 0 0] }).get? b = some o := fun b o e => Heap.get?_push_of_some _ e
    refine wpAny_pyIter_tuple ht (ItOk.trans E1 (OneIt.make (OneIt.tup (t := a) (vs := vs)) F1 kk (Nat.le_refl _) (Heap.get?_push_size _ rfl) ⟨rfl, rfl⟩ ⟨?_, hl.mono fun b o e _ => kk b o e⟩ q))
    obtain ⟨o, h1, h2⟩ := ht
    exact ⟨o, kk _ _ h1, h2⟩

/-! a call whose outcome is an iterable that nobody keeps -/
noncomputable def WItC (κ : Cx) (target : PySem.Expr) (fv : V) (args : List V) (Q : List V → (MH → Prop) → Loc → MH → Prop) (l : Loc) (σ : MH) : Prop :=
  ∀ A s δ rf ra, Good κ A → FS κ.φ l σ δ s → VRel s.heap fv rf → VsRel s.heap args ra →
    wpAny (model κ.φ.g.prog κ.φ.g.w) A (call rf ra) (fun r s1 => wpAny (model κ.φ.g.prog κ.φ.g.w) A (pyIter r) (ItOk κ.φ target σ δ s.heap Q) (fun _ _ => False) s1) (fun _ _ => False) s
theorem WIt.call {target} {fe : PySem.Expr} {args pos} {Q : List V → (MH → Prop) → Loc → MH → Prop} (h : WE κ fe (fun fv l1 σ1 => keepV κ.φ.g.K fv = true ∧ WArgs κ args (fun vs l2 σ2 => WItC κ target fv vs Q l2 σ2) l1 σ1) l σ)
    (he : eval (.Call fe args [] pos) κ.φ.f.env = (do callWith pos (← eval fe κ.φ.f.env) [] (backTo pos (starEach args κ.φ.f.env)) []))
    (hplain : (starEach args κ.φ.f.env).all (fun x => !x.1) = true) : WIt κ target (.Call fe args [] pos) Q l σ := fun A s δ G F => by
  rw [he]
  refine wpAny_bind (wpAny_mono (h A s δ G F) (fun rf s1 ⟨fv, l1, σ1, δ1, hR, F1, E1, hk, q1⟩ => ?_) fun _ _ e => e)
  refine callWith_of (P := fun h => κ.φ.g.K.In h) (by rw [any_back hplain]; rfl) (fun h Y => keepV_of hk hR h Y) ?_
  have fin : wpAny (model κ.φ.g.prog κ.φ.g.w) A (spliced (backTo pos (starEach args κ.φ.f.env))) (fun vs s₁ => κ.φ.g.K.In s₁.heap ∧ wpAny (model κ.φ.g.prog κ.φ.g.w) A (PySem.call rf vs)
      (fun r s1 => wpAny (model κ.φ.g.prog κ.φ.g.w) A (pyIter r) (ItOk κ.φ target σ δ s.heap Q) (FlX κ σ δ s.heap) s1) (FlX κ σ δ s.heap) s₁) (FlX κ σ δ s.heap) s1 := by
    refine wpAny_mono (q1 A s1 δ1 pos G F1) (fun rvs s2 ⟨vs, l2, σ2, δ2, hR2, F2, E2, q2⟩ => ⟨F2.inK, ?_⟩) fun _ _ e => e.trans E1
    exact wpAny_mono (q2 A s2 δ2 rf rvs G F2 (hR.evo F1 E2) hR2) (fun r s3 h3 => wpAny_mono h3 (fun it s4 h4 => ItOk.trans (E1.trans E2) h4) fun _ _ e => e.elim) fun _ _ e => e.elim
  cases hs : starEach args κ.φ.f.env with
  | nil => rw [hs] at fin; exact evalArgs_nil fin
  | cons x r =>
    rw [hs] at fin hplain
    obtain ⟨b, t⟩ := x
    rw [List.all_cons, Bool.and_eq_true, Bool.not_eq_true'] at hplain
    obtain ⟨rfl, _⟩ := hplain
    exact evalArgs_plain fin
theorem fits {i : Int} (h : i.natAbs < 2 ^ 62) : Builtin.Range.rangeFitsLong i = true := by
  unfold Builtin.Range.rangeFitsLong
  rw [Bool.and_eq_true, decide_eq_true_eq, decide_eq_true_eq]
  lia
theorem range_small {a b : Int} (ha : a.natAbs < 2 ^ 60) (hb : b.natAbs < 2 ^ 60) : Builtin.Range.small a b 1 = true := by
  unfold Builtin.Range.small
  rw [rangeSize_nat, fits (Nat.lt_trans ha (by decide)), fits (Nat.lt_trans hb (by decide)), fits (i := ((b - a).toNat : Int)) (by lia), if_pos (by decide), fits (i := b + (1 - 1)) (by lia), Bool.or_true]
  rfl
theorem range_core {target} {A : Around} {s : Shared} {a b : Int} {t u v : Tok} {tk : Nat} {Q : List V → (MH → Prop) → Loc → MH → Prop} (F : FS κ.φ l σ δ s) (ha : a.natAbs < 2 ^ 60) (hb : b.natAbs < 2 ^ 60)
    (h : Q (rng a (b - a).toNat) (fun _ => True) l σ) : wpAny (model κ.φ.g.prog κ.φ.g.w) A (pyIter (.ref s.heap.objs.size)) (ItOk κ.φ target σ δ s.heap Q) (fun _ _ => False)
      { s with heap := s.heap.push { cls := .type "range", data := .fields #[.int a t, .int b u, .int 1 v] }, toks := tk } := by
  refine wpAny_pyIter_range (a := a) (b := b) (c := 1) (Heap.get?_push_size _ rfl) (range_small ha hb) ?_
  rw [rangeSize_nat a b]
  simp only [Heap.size_push]
  refine OneIt.make (OneIt.range (a := a) (n := (b - a).toNat)) F (fun x o e => Heap.get?_push_of_some _ (Heap.get?_push_of_some _ e)) (Nat.le_succ _) (by rw [← Heap.size_push]; exact Heap.get?_push_size _ rfl) ?_ trivial h
  simp
theorem WItC.range1 {target} {n : Int} {Q : List V → (MH → Prop) → Loc → MH → Prop} (hn : n.natAbs < 2 ^ 60) (h : Q (rng 0 n.toNat) (fun _ => True) l σ) : WItC κ target (.typ "range") [.int n] Q l σ := fun A s δ rf ra G F hf hv => by
  rw [hf.typ_inv]; obtain ⟨t, rfl⟩ := hv.intI
  exact call_range_1 (range_core F (a := 0) (by decide) hn (by rw [Int.sub_zero]; exact h))
theorem WItC.range2 {target} {a b : Int} {Q : List V → (MH → Prop) → Loc → MH → Prop} (ha : a.natAbs < 2 ^ 60) (hb : b.natAbs < 2 ^ 60) (h : Q (rng a (b - a).toNat) (fun _ => True) l σ) : WItC κ target (.typ "range") [.int a, .int b] Q l σ := fun A s δ rf ra G F hf hv => by
  rw [hf.typ_inv]; obtain ⟨t, u, rfl⟩ := hv.int2
  exact call_range_2 (range_core F ha hb h)
theorem WItC.rev {target a ys} {Q : List V → (MH → Prop) → Loc → MH → Prop} (hl : lst σ a ys) (h : Q ys.reverse (fun σ => lst σ a ys) l σ) : WItC κ target (.typ "reversed") [.ref a] Q l σ := fun A s δ rf ra G F hf hv => by
  rw [hf.typ_inv, hv.refI]
  obtain ⟨vs, h1, h2, h3⟩ := F.sim.lst hl
  refine call_reversed_list h1 ?_
  rw [h3]
  refine wpAny_pyIter_revIter (l := a) (i := (ys.length : Int) - 1) ⟨_, Heap.get?_push_size _ rfl, rfl, rfl⟩ ?_
  refine OneIt.make (OneIt.rev (a := a)) F (fun b o e => Heap.get?_push_of_some _ e) (Nat.le_refl _) (Heap.get?_push_size _ rfl) ⟨rfl, ?_, Nat.zero_le _⟩ trivial h
  rw [show (ys.length : Int) - 1 - ((0 : Nat) : Int) = (ys.length : Int) - 1 by lia]; rfl
end
end Mn
set_option genInjectivity false
namespace Mn
open PySem.SeqAt

section
variable {κ : Cx} {l : Loc} {σ : MH} {δ : DM}
/-! enumerate -/
noncomputable def enumL (ys : List V) : List V := ys.zipIdx.map fun p => .tup [.int (p.2 : Nat), p.1]
theorem enumL_get (ys : List V) (k : Nat) : (enumL ys)[k]? = (ys[k]?).map fun v => .tup [.int (k : Nat), v] := by
  unfold enumL
  rw [List.getElem?_map, List.getElem?_zipIdx, Nat.zero_add]
  cases ys[k]? <;> rfl
noncomputable def enumObj (it : Addr) (k : Nat) (old : Value) : Obj := { cls := .type "enumerate", dict := none, data := .fields #[.none, .bool false, .ref it, rawInt (k : Nat), .none, old], slots := #[] }
inductive EnumAt (g : G) (fl : List Env) (e it a : Addr) (f : Frm) (k : Nat) (σ : MH) (δ : DM) (h : Heap) : Prop
  | mk (old : Value) (B : Aside ⟨g, fl, f⟩ σ δ h e (enumObj it k old)) (o : Obj) (A : Aside ⟨g, fl, f⟩ σ δ h it o) (hc : o.cls = .type "list_iterator") (hd : o.data = .fields #[.ref a, .int k 0]) (hn : e ≠ it)
theorem enum_nt {it k old} : ¬ IsTup (enumObj it k old) := notTup_cls (type_ne (by decide))
theorem two_of {b e it : Addr} (h : b ∈ [e, it]) : b = e ∨ b = it := (List.mem_cons.mp h).imp_right List.mem_singleton.mp
/-- two objects that stand aside are changed -/
theorem FS.aside2 {φ : Fx} {s : Shared} {h' : Heap} {tk : Nat} {e it : Addr} {oe oi oe' : Obj} (F : FS φ l σ δ s) (B : Aside φ σ δ s.heap e oe) (A : Aside φ σ δ s.heap it oi) (ne : ¬ IsTup oe) (ni : ¬ IsTup oi) (ce : ∀ v, oe.data ≠ .cell v) (ci : ∀ v, oi.data ≠ .cell v) (hn : e ≠ it)
    (kb : KeepBut [e, it] s.heap h') (he : h'.get? e = some oe') : FS φ l σ δ { s with heap := h', toks := tk } := by
  have ex : ∃ hm : Heap, hm.get? e = some oe' ∧ Heap.SameBut e s.heap hm :=
    ⟨s.heap.update e fun _ => oe', Heap.get?_update_self _ B.at_ (Heap.get?_some_iff.mp he).2, Heap.SameBut.update ..⟩
  obtain ⟨hm, h1, h2⟩ := ex
  have F1 := F.aside (tk := tk) B (fun b x e1 e2 => (h2.2 b fun z => e2 (List.mem_singleton.mpr z)).trans e1) ce ne
  have A1 := A.put ((h2.2 it (Ne.symm hn)).trans A.at_)
  exact F1.aside (s := { s with heap := hm, toks := tk }) (tk := tk) A1 (fun b x e1 e2 => by
    by_cases z : b = e
    · subst z; rw [h1] at e1; cases e1; exact he
    · exact kb b x ((h2.2 b z).symm.trans e1) fun q => (two_of q).elim z fun q => e2 (List.mem_singleton.mpr q)) ci ni
theorem Itr.enum {g fl elts tk tpos} {e it a : Addr} {ys : List V} : Itr g fl (.ref e) (.Tuple elts tk tpos) (fun σ => lst σ a ys) (enumL ys) [e, it] (EnumAt g fl e it a) where
  stay F k E := fun ⟨old, B, o, A, hc, hd, hn⟩ => ⟨old, B.stay (φ := ⟨g, fl, _⟩) (fun z => (k _ z).1 (.head _)) E, o, A.stay (φ := ⟨g, fl, _⟩) (fun z => (k _ z).1 (.tail _ (.head _))) E, hc, hd, hn⟩
  next := fun {f _ s _ _ _ k _ _ _} hh F hi ⟨old, B, o, A, hc, hd, hn⟩ hv hQ => by
    rw [enumL_get] at hv
    obtain ⟨y, hy, rfl⟩ := Option.map_eq_some_iff.mp hv
    obtain ⟨vs, h1, h2, _⟩ := F.sim.lst hi
    obtain ⟨r, h3, h4⟩ := h2.get hy
    refine wpAny_pyNext_enum_item B.at_ ⟨o, A.at_, hc, hd⟩ h1 (by rw [← Array.getElem?_toList]; exact h3) hn fun h' q1 ⟨o', q2, q3, q4⟩ q5 q6 q7 => ?_
    refine ⟨_, rfl, wpAny_letOwnedTupleGo_enum q1 fun h2' q8 hs => ?_, fun ⟨x, p, z⟩ => nomatch z⟩
    have nto : ¬ IsTup o := notTup_cls (by rw [hc]; exact type_ne (by decide))
    have kb : KeepBut [e, it] s.heap h2' := fun b x e1 e2 => (hs.2 b fun z => e2 (z ▸ .head _)).trans (q7 b x (fun z => e2 (z ▸ .head _)) (fun z => e2 (z ▸ .tail _ (.head _))) e1)
    have kt : ∀ b x, s.heap.get? b = some x → IsTup x → h2'.get? b = some x := fun b x e1 t => kb b x e1 fun z => by
      rcases two_of z with rfl | rfl
      · rw [B.at_] at e1; cases e1; exact enum_nt t
      · rw [A.at_] at e1; cases e1; exact nto t
    have Fa := F.aside2 (tk := s.toks + 1) B A enum_nt nto (fun v z => nomatch z) (fun v => by rw [hd]; exact fun z => nomatch z) hn kb q8
    have ene : s.heap.objs.size ≠ e := Ne.symm (Nat.ne_of_lt (Heap.lt_size B.at_))
    exact hQ _ _ (.tup ((hs.2 _ ene).trans q5) rfl rfl (.cons (.int ..) (.cons (h4.mono kt) .nil))) Fa kb ⟨r, B.put q8, o', A.put ((hs.2 it (Ne.symm hn)).trans q2), q3, q4, hn⟩
  done := fun {f _ s _ _ _ k _ _} hh F hi ⟨old, B, o, A, hc, hd, hn⟩ hv hQ => by
    rw [enumL_get] at hv
    obtain ⟨vs, h1, h2, _⟩ := F.sim.lst hi
    refine wpAny_pyNext_enum_end hh B.at_ ⟨o, A.at_, hc, hd⟩ h1 (none_past h2 (Option.map_eq_none_iff.mp hv)) fun h' hs => ?_
    have kb : KeepBut [it] _ h' := KeepBut.of_ext hs
    exact ⟨rfl, hQ _ (F.aside A kb (fun v => by rw [hd]; exact fun z => nomatch z) (notTup_cls (by rw [hc]; exact type_ne (by decide)))) fun b x e1 e2 => kb b x e1 fun z => e2 (.tail _ z)⟩
  again := fun ⟨old, B, _, _, _, _, _⟩ h => wpAny_pyIter_enum B.at_ h
theorem WItC.enum {elts tk tpos a ys} {Q : List V → (MH → Prop) → Loc → MH → Prop} (hl : lst σ a ys) (h : Q (enumL ys) (fun σ => lst σ a ys) l σ) : WItC κ (.Tuple elts tk tpos) (.typ "enumerate") [.ref a] Q l σ := fun A s δ rf ra G F hf hv => by
  rw [hf.typ_inv, hv.refI]
  obtain ⟨vs, h1, h2, _⟩ := F.sim.lst hl
  refine call_enumerate_list h1 fun h' q1 ⟨o, q2, q3, q4⟩ q5 kk => ?_
  have fin := F.grow (tk := s.toks) kk
  refine wpAny_pyIter_enum q1 ?_
  refine ⟨l, σ, δ, _, [s.heap.objs.size + 1, s.heap.objs.size], enumL ys, _, fin.1, fin.2, fun x hx => ?_, fun x hx => ?_, Itr.enum (a := a) (ys := ys), ⟨.none, Aside.new F (Nat.le_succ _) q1, o, Aside.new F (Nat.le_refl _) q2, q3, q4, Nat.succ_ne_self _⟩, h⟩
  · rcases two_of hx with rfl | rfl
    · exact fresh_get (Nat.le_succ _)
    · exact fresh_get (Nat.le_refl _)
  · rcases two_of hx with rfl | rfl
    · exact ⟨_, q1⟩
    · exact ⟨_, q2⟩

/-- list(x) of a list -/
theorem PV.list {a xs} {Q : V → MH → Prop} (hσ : lst σ a xs) (hz : xs.length ≤ 2 ^ 24) (h : ∀ b, σ b = none → Q (.ref b) (upd σ b (.list xs))) : PV κ tcall [.typ "list", .ref a] Q σ := fun A s δ l rs G F hv => by
  obtain ⟨rf, ra, rfl, hf, ha⟩ := hv.two
  rw [hf.typ_inv, ha.ref_inv]
  obtain ⟨vs, h1, h2, h3⟩ := F.sim.lst hσ
  obtain ⟨o, ho, hc, n, hd⟩ := id h1
  refine call_list_seq a (.inl rfl) ho hc hd (fun h' c' kk hn => ?_) (by rw [h3, sizeLine_eq]; omega)
  exact Mn.newL (tk := s.toks) F kk h2 (Nat.le_refl _) ⟨c', hn⟩ fun a e => ⟨rfl, h a e⟩
end
end Mn
set_option genInjectivity false
namespace Mn
open PySem.SeqAt PySem.Builtin PySem.Builtin.ObjectAttr

section
variable {κ : Cx} {l : Loc} {σ : MH} {δ : DM}

/-! the scope of a comprehension -/
noncomputable def clOf (env : Env) (names : List (Str × NameKind)) : List (Str × Addr) := names.foldl (fun cs x => if x.2 == .free then (x.1, (env.cells.lookup x.1).getD 0) :: cs else cs) []
theorem clOf_some {env : Env} {x : Str} : ∀ (names : List (Str × NameKind)) (acc : List (Str × Addr)), ((x, NameKind.free) ∈ names ∨ acc.lookup x = some ((env.cells.lookup x).getD 0)) →
    (names.foldl (fun cs x => if x.2 == .free then (x.1, (env.cells.lookup x.1).getD 0) :: cs else cs) acc).lookup x = some ((env.cells.lookup x).getD 0)
  | [], acc, h => h.elim (fun h => nomatch h) id
  | (y, k) :: r, acc, h => by
    rw [List.foldl_cons]
    refine clOf_some r _ ?_
    dsimp only
    by_cases z : x = y ∧ k = .free
    · obtain ⟨rfl, rfl⟩ := z
      exact .inr (by rw [if_pos (beq_self_eq_true _), List.lookup_cons, beq_self_eq_true])
    · refine h.imp (fun h => (List.mem_cons.mp h).elim (fun e => (z ⟨(Prod.mk.inj e).1, (Prod.mk.inj e).2.symm⟩).elim) id) fun h => ?_
      split
      · rename_i hk
        rw [List.lookup_cons, beq_eq_false_iff_ne.mpr fun e => z ⟨e, eq_of_beq hk⟩]; exact h
      · exact h
theorem closure_eq (scope : Scope) (env : Env) (hc : ∀ x, (x, NameKind.free) ∈ scope.names → ∃ c, env.cells.lookup x = some c) : closureFor scope env = pure (clOf env scope.names) := by
  have go : ∀ (names : List (Str × NameKind)) (acc : List (Str × Addr)), (∀ x, (x, NameKind.free) ∈ names → ∃ c, env.cells.lookup x = some c) →
      (forIn names acc fun x r => (if x.2 == NameKind.free then do let a ← cellOf env x.1; pure (ForInStep.yield ((x.1, a) :: r)) else pure (ForInStep.yield r) : Sem (ForInStep (List (Str × Addr))))) =
      pure (names.foldl (fun cs x => if x.2 == .free then (x.1, (env.cells.lookup x.1).getD 0) :: cs else cs) acc) := by
    intro names
    induction names with
    | nil => intro acc _; rfl
    | cons y r ih =>
      intro acc h
      obtain ⟨y, k⟩ := y
      rw [List.forIn_cons, List.foldl_cons]
      by_cases hk : k = .free
      · subst hk
        obtain ⟨c, hc⟩ := h y (.head _)
        simp only [cellOf, hc, pure_bind, Option.getD_some, beq_self_eq_true, if_true]
        exact ih _ fun x hx => h x (.tail _ hx)
      · have : (k == NameKind.free) = false := by cases k <;> first | rfl | exact absurd rfl hk
        simp only [this, Bool.false_eq_true, if_false, pure_bind]
        exact ih _ fun x hx => h x (.tail _ hx)
  unfold closureFor
  have := go scope.names [] hc
  simp only [bind_pure]
  exact this
open Classical in
noncomputable def compLoc (scope : Scope) (l : Loc) : Loc := fun x => if (x, NameKind.free) ∈ scope.names then l x else none
/-- the frame of a comprehension -/
structure CompF (f : Frm) (scope : Scope) (f' : Frm) : Prop where
  env : X2 fun cl C => f'.env = compEnvC scope cl C f.env
noncomputable def relabK (env : Env) (x : Str) (k : NameKind) : NameKind := if (k == NameKind.free && env.scope.kind == .function && env.kindOf x == some .cell) then NameKind.cell else k
theorem lookup_relab {env : Env} {x : Str} : ∀ (names : List (Str × NameKind)),
    (names.map fun (n, k) => if (k == NameKind.free && env.scope.kind == .function && env.kindOf n == some .cell) then (n, NameKind.cell) else (n, k)).lookup x = (names.lookup x).map (relabK env x)
  | [] => rfl
  | (y, k) :: r => by
    have e0 : (if (k == NameKind.free && env.scope.kind == .function && env.kindOf y == some .cell) = true then (y, NameKind.cell) else (y, k)) = (y, relabK env y k) := by unfold relabK; split <;> rfl
    rw [List.map_cons]
    dsimp only
    rw [e0, List.lookup_cons, List.lookup_cons, lookup_relab r]
    by_cases e : x = y
    · subst e; rw [beq_self_eq_true]; rfl
    · rw [beq_eq_false_iff_ne.mpr e]
theorem CompF.kindOf {f f' : Frm} {scope : Scope} {x : Str} (c : CompF f scope f') : f'.env.kindOf x = (scope.names.lookup x).map (relabK f.env x) := by
  obtain ⟨cl, C, e⟩ := c.env
  rw [e]; exact lookup_relab _
theorem CompF.kind {f f' : Frm} {scope : Scope} {x : Str} {k : NameKind} (c : CompF f scope f') (h : scope.names.lookup x = some k) (hk : k ≠ .free) : f'.env.kindOf x = some k := by
  rw [c.kindOf, h, Option.map_some, relabK, show (k == NameKind.free) = false by cases k <;> first | rfl | exact absurd rfl hk]; rfl

noncomputable def WTs (κ : Cx) (ifs : List PySem.Expr) (Q : Bool → Loc → MH → Prop) (l : Loc) (σ : MH) : Prop :=
  ∀ A s δ, Good κ A → FS κ.φ l σ δ s → At BRel κ A (forIn ifs true fun c r => if r = true then do let ok ← isTrue c κ.φ.f.env (eval c κ.φ.f.env); pure (ForInStep.yield ok) else pure (ForInStep.yield r)) Q σ δ s
theorem WTs.nil {Q : Bool → Loc → MH → Prop} (h : Q true l σ) : WTs κ [] Q l σ := fun A s δ G F => by
  show At BRel κ A (pure true) Q σ δ s
  exact At.pure F rfl h
theorem WTs.one {c} {Q : Bool → Loc → MH → Prop} (h : WB κ c Q l σ) : WTs κ [c] Q l σ := fun A s δ G F => by
  rw [List.forIn_cons]
  simp only [if_true, bind_assoc, pure_bind]
  refine At.bind (h A s δ G F) fun b b' l1 σ1 δ1 s1 hR F1 E1 q1 => ?_
  cases hR
  show At BRel κ A (pure b) Q σ1 δ1 s1
  exact At.pure F1 rfl q1
/-- a free name of the scope is a name of ours -/
structure FreeOk (f : Frm) (scope : Scope) (y : Str) : Prop where
  kind : f.env.kindOf y = some .cell ∨ f.env.kindOf y = some .free
  cell : ∃ c, f.env.cells.lookup y = some c
  look : scope.names.lookup y = some .free
structure CompOk (f : Frm) (scope : Scope) (x : Str) : Prop where
  cell : ∀ y ∈ scope.names, y.2 ≠ .cell
  kind : scope.kind = .function
  names : ∀ y ∈ scope.names, y.2 = .local → scope.names.lookup y.1 = some .local
  x : scope.names.lookup x = some .local
  free : ∀ y ∈ scope.names, y.2 = .free → FreeOk f scope y.1
/-- what a turn asks of the list that grows -/
structure AccAt (Inv : MH → Prop) (D : Addr) (acc : List V) (σ2 : MH) : Prop where
  inv : Inv σ2
  at_ : σ2 D = some (.list acc)
  size : acc.length ≤ 2 ^ 24
noncomputable abbrev Cx.inner (κ : Cx) (f' : Frm) : Cx := ⟨⟨κ.φ.g, κ.φ.fl, f'⟩, κ.d, noX⟩
/-- what a turn asks -/
structure CompTurn (κ : Cx) (scope : Scope) (x : Str) (ifs : List PySem.Expr) (elt : PySem.Expr) (l1 : Loc) (ys : List V) (Inv : MH → Prop) (D : Addr) (I : Nat → List V → MH → Prop) : Prop where
  acc : ∀ k acc σ2, I k acc σ2 → AccAt Inv D acc σ2
  turn : ∀ f' k v acc σ2, CompF κ.φ.f scope f' → ys[k]? = some v → I k acc σ2 → WTs (κ.inner f') ifs (fun b l3 σ3 => l3 = upd (compLoc scope l1) x v ∧
    brk2 (WE (κ.inner f') elt (fun r l4 σ4 => l4 = l3 ∧ σ4 D = some (.list acc) ∧ I (k + 1) (acc ++ [r]) (upd σ4 D (.list (acc ++ [r])))) l3 σ3) (I (k + 1) acc σ3) b) (upd (compLoc scope l1) x v) σ2
theorem comp_env {s : Shared} {scope : Scope} {C : Addr} {x : Str} (F : FS κ.φ l σ δ s) (ok : CompOk κ.φ.f scope x) (hC : FaOk κ.φ.g σ δ s.heap C) (hn : ∃ m, s.heap.Ns C m) :
    FS (κ.inner ⟨compEnvC scope (clOf κ.φ.f.env scope.names) C κ.φ.f.env, [C]⟩).φ (compLoc scope l) σ δ s := by
  have lk : ∀ y c, (y, NameKind.free) ∈ scope.names → κ.φ.f.env.cells.lookup y = some c → (clOf κ.φ.f.env scope.names).lookup y = some c := fun y c hy hc => by
    have := clOf_some (env := κ.φ.f.env) scope.names [] (.inl hy)
    rw [hc] at this; exact this
  obtain ⟨mC, hn⟩ := hn
  obtain ⟨m, _, hlo, hce⟩ := F.loc
  refine ⟨F.sim, ⟨ok.kind, F.envOk.globals, F.envOk.builtins, .head _⟩, ⟨_, hn, fun y v hy => ?_, fun y c hk hc => ?_⟩, fun b hb => by rw [List.mem_singleton.mp hb]; exact hC, F.fr, F.gens, F.os⟩
  · unfold compLoc at hy
    split at hy
    · rename_i hf
      have fo := ok.free _ hf rfl
      cases hlo y v hy with
      | loc k => exact (fo.kind.elim (fun q => by rw [k] at q; cases q) fun q => by rw [k] at q; cases q)
      | cell hk c rv h1 h2 h3 =>
        refine .cell ?_ c rv (lk y c hf h1) h2 h3
        show (scope.names.map _).lookup y = _ ∨ (scope.names.map _).lookup y = _
        rw [lookup_relab, fo.look, Option.map_some, relabK]
        split
        · exact .inl rfl
        · exact .inr rfl
    · cases hy
  · have hk' : (scope.names.map fun (n, k) => if (k == NameKind.free && κ.φ.f.env.scope.kind == .function && κ.φ.f.env.kindOf n == some .cell) then (n, NameKind.cell) else (n, k)).lookup y = some NameKind.cell := hk
    rw [lookup_relab] at hk'
    obtain ⟨k, q, hk'⟩ := Option.map_eq_some_iff.mp hk'
    unfold relabK at hk'
    split at hk'
    · rename_i hz
      simp only [Bool.and_eq_true, beq_iff_eq] at hz
      obtain ⟨⟨rfl, _⟩, hz⟩ := hz
      have hf := mem_of_lookup q
      obtain ⟨c0, hc0⟩ := (ok.free _ hf rfl).cell
      have hc : (clOf κ.φ.f.env scope.names).lookup y = some c := hc
      rw [lk y c0 hf hc0] at hc
      exact hce y c hz (hc0.trans hc)
    · subst hk'; exact absurd rfl (ok.cell _ (mem_of_lookup q))
theorem ns_dict {h : Heap} {C : Addr} {m} (n : h.Ns C m) : OwnAt h C := by
  obtain ⟨o, es, ep, h1, h2, _⟩ := n
  exact ⟨o, h1, notTup_dict h2, fun v z => by rw [h2] at z; cases z⟩
/-- between two turns -/
inductive CompAt (κ : Cx) (C : Addr) (l1 : Loc) (σ0 : MH) (δ0 : DM) (h0 : Heap) (P : Frm → Nat → MH → DM → Heap → Prop) (I : Nat → List V → MH → Prop) (m n : Nat) (s5 : Shared) : Prop
  | mk (k : Nat) (σ5 : MH) (δ5 : DM) (acc : List V) (hn : n = m + 1 - k) (hk : k ≤ m) (F : FS κ.φ l1 σ5 δ5 s5) (E : Ev κ.φ σ0 δ0 h0 σ5 δ5 s5.heap) (N : ∃ m, s5.heap.Ns C m) (D : ¬ Dom σ5 δ5 C) (hP : P κ.φ.f k σ5 δ5 s5.heap) (q : I k acc σ5)
theorem comp_loop {elt x px iter ifs scope pos} {A : Around} {s4 s0 : Shared} {l1 σ0 σ1 δ0 δ1 P its ys Inv D it C} {I : Nat → List V → MH → Prop} (G : Good κ A) (ok : CompOk κ.φ.f scope x) (T : CompTurn κ scope x ifs elt l1 ys Inv D I)
    (F4 : FS κ.φ l1 σ1 δ1 s4) (hCb : κ.φ.g.base.get? C = none) (hCf : C ∉ κ.φ.f.fa) (hCi : C ∉ its) (hCd : ¬ Dom σ1 δ1 C) (hn : ∃ m, s4.heap.Ns C m) (hC0 : s0.heap.get? C = none)
    (E4 : Ev κ.φ σ0 δ0 s0.heap σ1 δ1 s4.heap) (hits : ∀ b ∈ its, s0.heap.get? b = none) (W : Itr κ.φ.g κ.φ.fl it (.Name x px) Inv ys its P) (hP : P κ.φ.f 0 σ1 δ1 s4.heap)
    (hI : I 0 [] σ1) {R : Result → Shared → Prop} (hR : ∀ σ5 δ5 s5 acc, FS κ.φ l1 σ5 δ5 s5 → Ev κ.φ σ0 δ0 s0.heap σ5 δ5 s5.heap → (∃ m, s5.heap.Ns C m) → ¬ Dom σ5 δ5 C → I ys.length acc σ5 → R (.ok .next) s5) :
    codeAny (model κ.φ.g.prog κ.φ.g.w) A (.compLoop (.ListComp elt [⟨.Name x px, iter, ifs, 0⟩] scope pos) 0 it (.ref D) (compEnvC scope (clOf κ.φ.f.env scope.names) C κ.φ.f.env)) R s4 := by
  have cf : CompF κ.φ.f scope ⟨compEnvC scope (clOf κ.φ.f.env scope.names) C κ.φ.f.env, [C]⟩ := ⟨_, _, rfl⟩
  refine codeAny_compLoop_tests (CompAt κ C l1 σ0 δ0 s0.heap P I ys.length) (fun n s5 ⟨k, σ5, δ5, acc, hn, hk, F5, E5, N5, D5, hP5, q5⟩ => ?_) (ys.length + 1) ⟨0, σ1, δ1, [], rfl, Nat.zero_le _, F4, E4, hn, hCd, hP, hI⟩
  obtain ⟨i1, i2, i3⟩ := T.acc _ _ _ q5
  have keepN : ∀ s6 : Shared, KeepBut its s5.heap s6.heap → ∃ m, s6.heap.Ns C m := fun s6 K6 => by
    obtain ⟨m, o, es, ep, h1, r⟩ := N5
    exact ⟨m, o, es, ep, K6 _ _ h1 hCi, r⟩
  cases hx : ys[k]? with
  | none =>
    have hkk : k = ys.length := Nat.le_antisymm hk (List.getElem?_eq_none_iff.mp hx)
    refine wpAny_mono (W.done (Q := fun s4 => FS κ.φ l1 σ5 δ5 s4 ∧ KeepBut its s5.heap s4.heap) (E := fun _ _ => False) G.handled F5 i1 hP5 hx fun s' a b => ⟨a, b⟩) (fun r s6 ⟨hr, F6, K6⟩ => ?_) fun _ _ e => e.elim
    subst hr
    exact hR _ _ _ _ F6 (E5.keepBut K6 hits) (keepN _ K6) D5 (hkk ▸ q5)
  | some v =>
    have hlt : k < ys.length := (List.getElem?_eq_some_iff.mp hx).1
    refine wpAny_mono (W.next (A := A) (E := fun _ _ => False) (Q := fun rv s4 => VRel s4.heap v rv ∧ FS κ.φ l1 σ5 δ5 s4 ∧ KeepBut its s5.heap s4.heap ∧ P κ.φ.f (k + 1) σ5 δ5 s4.heap) G.handled F5 i1 hP5 hx fun rv s' a b c d => ⟨a, b, c, d⟩) (fun r s6 h6 => ?_) fun _ _ e => e.elim
    obtain ⟨rx, hrx, _, h6⟩ := h6
    subst hrx
    obtain ⟨hR6, F6o, K6, hP6⟩ := h6 ⟨x, px, rfl⟩
    have E6 := E5.keepBut K6 hits
    obtain ⟨m6, N6⟩ := keepN _ K6
    obtain ⟨oC, hoC, hnt, hnc⟩ := ns_dict N6
    have apart : Apart κ.φ.f s6.heap C := ⟨hCf, ⟨oC, hoC, hnt⟩, fun v ⟨o, z1, z2⟩ => by rw [hoC] at z1; cases z1; exact hnc _ z2⟩
    have F6 := comp_env F6o ok ⟨hCb, D5, oC, hoC, hnt⟩ ⟨m6, N6⟩
    -- what holds behind the body
    have back : ∀ {l' σ' δ' acc'} {s' : Shared}, FS (κ.inner ⟨compEnvC scope (clOf κ.φ.f.env scope.names) C κ.φ.f.env, [C]⟩).φ l' σ' δ' s' → Evo κ.φ.fl [C] σ5 δ5 s6.heap σ' δ' s'.heap → I (k + 1) acc' σ' →
        CompAt κ C l1 σ0 δ0 s0.heap P I ys.length (ys.length + 1 - (k + 1)) s' := fun {l' σ' δ' acc' s'} F' E' q' => by
      obtain ⟨mm, n', _⟩ := F'.loc
      refine ⟨k + 1, σ', δ', acc', rfl, hlt, F6o.afterG F'.cs E' fun c hc => (List.mem_singleton.mp hc) ▸ apart, ?_, ⟨mm, n'⟩, (F'.fa C (.head _)).dom, W.stay F6o (fun b hb => (List.mem_singleton.mp hb) ▸ ⟨hCi, oC, hoC, hnt⟩) E' hP6, q'⟩
      have nC : ∀ b o, s0.heap.get? b = some o → b ∉ [C] := fun b o e z => some_not_none e (List.mem_singleton.mp z ▸ hC0)
      refine ⟨fun b o e n q r => ?_, fun b o e n q r => E'.keep b o (E6.keep b o e n q r) (E6.notOwn e n) (nC b o e) r, fun b z => (E'.own b z).elim (E6.own b) fun z => .inr (E6.none_of z), fun b z => (E'.dom b z).elim (E6.dom b) fun z => .inr (E6.none_of z), fun b o e => ?_⟩
      · obtain ⟨sl, h1⟩ := E6.slots b o e n q r
        obtain ⟨sl', h2⟩ := E'.slots b _ h1 (E6.notOwn e n) (nC b o e) r
        exact ⟨sl', h2⟩
      · obtain ⟨o', h1⟩ := E6.live b o e; exact E'.live b o' h1
    refine wpAny_mono ((WA.name (κ := κ.inner ⟨compEnvC scope (clOf κ.φ.f.env scope.names) C κ.φ.f.env, [C]⟩) (Q := fun l σ => l = upd (compLoc scope l1) x v ∧ σ = σ5) (.inl (cf.kind ok.x (fun z => nomatch z))) ⟨rfl, rfl⟩) A s6 δ5 rx G F6 hR6)
      (fun _ s7 ⟨_, l7, σ7, δ7, _, F7, E7, q7⟩ => ?_) fun _ _ e => Flies.no e
    obtain ⟨rfl, rfl⟩ := q7
    refine wpAny_mono (T.turn _ k v acc _ cf hx q5 A s7 δ7 G F7) (fun b' s8 ⟨b, l8, σ8, δ8, hb, F8, E8, q8⟩ => ?_) fun _ _ e => Flies.no e
    have hb : b = b' := hb
    subst hb
    obtain ⟨rfl, q8⟩ := q8
    have E78 := Evo.trans E7 E8
    cases b with
    | false => exact ⟨_, by omega, back F8 E78 q8⟩
    | true =>
      rw [if_pos rfl]
      refine wpAny_mono ((show WE _ elt _ _ σ8 from q8) A s8 δ8 G F8) (fun rr s9 ⟨r, l9, σ9, δ9, hR9, F9, E9, hl9, hD9, q9⟩ => ?_) fun _ _ e => Flies.no e
      subst hl9
      refine wpAny_mono ((PV.append (κ := κ.inner ⟨compEnvC scope (clOf κ.φ.f.env scope.names) C κ.φ.f.env, [C]⟩) (Q := fun w σ => I (k + 1) (acc ++ [r]) σ) hD9 i3 q9) A s9 δ9 _ [.builtin "list.append", .ref D, rr] G F9 (.cons (.bi _) (.cons (.ref _) (.cons hR9 .nil))))
        (fun _ s10 ⟨_, l10, σ10, δ10, _, F10, E10, hl, q10⟩ => ?_) fun _ _ e => Flies.no e
      subst hl
      exact ⟨_, by omega, back F10 ((E78.trans E9).trans E10) q10⟩
/-- the block of a comprehension: the new list, its namespace, its loop -/
theorem comp_block {elt x px iter ifs scope pos} {A : Around} {s2 s0 : Shared} {l1 σ0 σ1 δ0 δ1 P its ys Inv it} {I : Addr → Nat → List V → MH → Prop} (G : Good κ A) (ok : CompOk κ.φ.f scope x) (T : ∀ D, σ1 D = none → CompTurn κ scope x ifs elt l1 ys Inv D (I D))
    (hf0 : ∀ b ∈ κ.φ.f.fa, ∃ o, s0.heap.get? b = some o) (F2 : FS κ.φ l1 σ1 δ1 s2) (E2 : Ev κ.φ σ0 δ0 s0.heap σ1 δ1 s2.heap) (hits : ∀ b ∈ its, s0.heap.get? b = none) (hlv : ∀ b ∈ its, ∃ o, s2.heap.get? b = some o) (W : Itr κ.φ.g κ.φ.fl it (.Name x px) Inv ys its P) (hP : P κ.φ.f 0 σ1 δ1 s2.heap)
    (hI : ∀ D, σ1 D = none → I D 0 [] (upd σ1 D (.list []))) {RR : Value → Addr → Result → Shared → Prop} {E : Value → Shared → Prop}
    (hR : ∀ D C σ5 δ5 s5 acc, σ1 D = none → FS κ.φ l1 σ5 δ5 s5 → Ev κ.φ σ0 δ0 s0.heap σ5 δ5 s5.heap → (∃ m, s5.heap.Ns C m) → (∀ o, s5.heap.get? C = some o → Aside κ.φ σ5 δ5 s5.heap C o) → s0.heap.get? C = none → I D ys.length acc σ5 → RR (.ref D) C (.ok .next) s5) :
    wpAny (model κ.φ.g.prog κ.φ.g.w) A (newList []) (fun acc s₃ => wpAny (model κ.φ.g.prog κ.φ.g.w) A (newFunctionEnv scope κ.φ.f.env.globals (clOf κ.φ.f.env scope.names) [] κ.φ.f.env.qual none .none (some κ.φ.f.env)) (fun cenv s₄ =>
      codeAny (model κ.φ.g.prog κ.φ.g.w) A (.compStart (.ListComp elt [⟨.Name x px, iter, ifs, 0⟩] scope pos) 0 it acc { cenv with scope := relabel scope κ.φ.f.env }) (RR acc cenv.locals) s₄) E s₃) E s2 := by
  refine wpAny_newObj_type (wpAny_newFunctionEnv ok.cell (by intro y hy; cases hy) (fun h1 hns1 hsb1 => ?_) ok.kind)
  dsimp only at hns1 hsb1 ⊢
  have dd : σ1 s2.heap.objs.size = none := F2.sim.freshσ (Nat.le_refl _)
  have new := F2.new (tk := s2.toks) (δ' := δ1) (a := s2.heap.objs.size) (o := .list []) (h' := s2.heap.push { cls := .type "list", dict := none, data := .seq ([] : List Value).toArray }) (fun b o e => Heap.get?_push_of_some _ e) (Nat.le_refl _) ⟨#[], 0, Heap.get?_push_size _ rfl, .nil⟩ (fun b x e => .inl e) (fun b x e => e)
  generalize hH2 : s2.heap.push { cls := .type "list", dict := none, data := .seq ([] : List Value).toArray } = H2 at hns1 hsb1 new ⊢
  have sz : H2.objs.size = s2.heap.objs.size + 1 := by rw [← hH2, Heap.size_push]
  have kk : ∀ b o, H2.get? b = some o → h1.get? b = some o := fun b o e => hsb1.extBut b o (Nat.ne_of_lt (Heap.lt_size e)) (Heap.get?_push_of_some _ e)
  have gr := new.1.grow (tk := s2.toks + ([] : List (Str × Value)).length) (h' := h1) kk
  obtain ⟨oC, esC, epC, hoC, hdC, hrC⟩ := id hns1
  have as := Aside.new (b := H2.objs.size) new.1 (Nat.le_refl _) hoC
  have nC2 : s2.heap.get? H2.objs.size = none := fresh_get (by rw [sz]; exact Nat.le_succ _)
  have nC0 : s0.heap.get? H2.objs.size = none := E2.none_of nC2
  have E23 := new.2.trans gr.2
  have hP1 := W.stay (s' := { s2 with heap := h1, toks := s2.toks + ([] : List (Str × Value)).length }) F2 (fun b hb => ⟨fun z => (by obtain ⟨o, h9⟩ := hf0 b hb; exact some_not_none h9 (hits b z)), (F2.fa b hb).at_⟩) E23 hP
  have loop := comp_loop (pos := pos) (iter := iter) (C := H2.objs.size) (s4 := { s2 with heap := h1, toks := s2.toks + ([] : List (Str × Value)).length }) (R := RR (.ref s2.heap.objs.size) H2.objs.size) G ok (T _ dd) gr.1 as.base as.fa (fun z => by obtain ⟨o, h9⟩ := hlv _ z; exact some_not_none h9 nC2) as.dom ⟨_, hns1⟩ nC0 (E2.trans E23) hits W hP1 (hI _ dd)
    fun σ5 δ5 s5 acc a1 a2 a3 a4 a5 => hR _ _ σ5 δ5 s5 acc dd a1 a2 a3 (fun o ho => ⟨ho, as.base, a4, as.fa, as.fl⟩) nC0 a5
  exact codeAny_compStart_list loop (W.again hP1 loop)
/-- what a comprehension asks of its turns; `Qe` takes the new list -/
inductive CompQ (κ : Cx) (scope : Scope) (x : Str) (ifs : List PySem.Expr) (elt : PySem.Expr) (Qe : V → Loc → MH → Prop) (ys : List V) (Inv : MH → Prop) (l1 : Loc) (σ1 : MH) : Prop
  | mk (I : Addr → Nat → List V → MH → Prop) (T : ∀ D, σ1 D = none → CompTurn κ scope x ifs elt l1 ys Inv D (I D)) (h0 : ∀ D, σ1 D = none → I D 0 [] (upd σ1 D (.list []))) (h1 : ∀ D acc σ2, σ1 D = none → I D ys.length acc σ2 → Qe (.ref D) l1 σ2)
theorem CompOk.clos {f : Frm} {scope : Scope} {x : Str} (ok : CompOk f scope x) : closureFor scope f.env = pure (clOf f.env scope.names) := closure_eq scope f.env fun y hy => (ok.free (y, .free) hy rfl).cell
theorem WE.comp {elt x px iter ifs scope pos} {Q : V → Loc → MH → Prop} (ok : CompOk κ.φ.f scope x) (h : WIt κ (.Name x px) iter (CompQ κ scope x ifs elt Q) l σ)
    (hs : ∀ x, foldedSetIterable iter κ.φ.f.env x = pure x) : WE κ (.ListComp elt [⟨.Name x px, iter, ifs, 0⟩] scope pos) Q l σ := fun A s δ G F => by
  rw [eval_ListComp]
  refine wpAny_comprehension_free (use := none) rfl hs ok.clos ok.kind ok.names (wpAny_mono (h A s δ G F) (fun xv s₁ h₁ => wpAny_mono h₁ (fun it s₂ h₂ => ?_) fun _ _ e => e) fun _ _ e => e)
  obtain ⟨l1, σ1, δ1, P, its, ys, Inv, F2, E2, hits, hlv, W, hP, I, T, h0, h1⟩ := h₂
  refine comp_block (RR := fun acc C => compPost (model κ.φ.g.prog κ.φ.g.w) A (FlX κ σ δ s.heap) none _ acc C) G ok T (fun b hb => let ⟨o, h, _⟩ := (F.fa b hb).at_; ⟨o, h⟩) F2 E2 hits hlv W hP h0
    fun D C σ5 δ5 s5 acc hD F5 E5 hN hA hC0 hI => ?_
  obtain ⟨m, hN⟩ := hN
  refine ⟨m, hN, fun h' hs' => ?_⟩
  obtain ⟨o, ho, hnt, hnc⟩ := ns_dict hN
  have kb : KeepBut [C] s5.heap h' := KeepBut.of_ext hs'.extBut
  exact ⟨.ref D, l1, σ5, δ5, .ref D, F5.aside (tk := s5.toks) (hA o ho) kb hnc hnt, E5.keepBut kb (fun b hb => (List.mem_singleton.mp hb) ▸ hC0), h1 D acc σ5 hD hI⟩
/-- a comprehension that a name takes: the stores are exchanged -/
theorem WS1.assignComp {elt x px iter ifs scope pos y py spos} {Q : Fw → Loc → MH → Prop} (ok : CompOk κ.φ.f scope x) (hy : MyName κ y) (h : WIt κ (.Name x px) iter (CompQ κ scope x ifs elt fun v l1 σ1 => Q .next (upd l1 y v) σ1) l σ)
    (hsw : swapsWith (.ListComp elt [⟨.Name x px, iter, ifs, 0⟩] scope pos) (some (.Name y py)) spos.line κ.φ.f.env = pure true)
    (hs : ∀ x, foldedSetIterable iter κ.φ.f.env x = pure x) : WS1 κ (.Assign [.Name y py] (.ListComp elt [⟨.Name x px, iter, ifs, 0⟩] scope pos) spos) Q l σ := fun A s δ G F => by
  show wpAny _ A _ _ _ s
  rw [exec_Assign_Name_used _ _ _ _ hsw]
  refine wpAny_bind (wpAny_standAt (wpAny_bind ?_))
  show wpAny _ A (do let _ ← comprehension (.ListComp elt [⟨.Name x px, iter, ifs, 0⟩] scope pos) scope κ.φ.f.env _ (newList []) false (eval iter κ.φ.f.env) (some (PySem.assign (.Name y py) κ.φ.f.env))) _ _ s
  refine wpAny_bind (wpAny_mono (wpAny_comprehension_free (use := some (PySem.assign (.Name y py) κ.φ.f.env)) (Q := fun _ s' => Ok FwRel κ.φ σ δ s.heap Q .next s') rfl hs ok.clos ok.kind ok.names
    (wpAny_mono (h A s δ G F) (fun xv s₁ h₁ => wpAny_mono h₁ (fun it s₂ h₂ => ?_) fun _ _ e => e) fun _ _ e => e)) (fun _ s' hq => wpAny_pure (wpAny_pure hq)) fun _ _ e => e)
  obtain ⟨l1, σ1, δ1, P, its, ys, Inv, F2, E2, hits, hlv, W, hP, I, T, h0, h1⟩ := h₂
  refine comp_block (RR := fun acc C => compPost (model κ.φ.g.prog κ.φ.g.w) A (FlX κ σ δ s.heap) (some (PySem.assign (.Name y py) κ.φ.f.env)) (fun _ s' => Ok FwRel κ.φ σ δ s.heap Q .next s') acc C) G ok T (fun b hb => let ⟨o, h, _⟩ := (F.fa b hb).at_; ⟨o, h⟩) F2 E2 hits hlv W hP h0
    fun D C σ5 δ5 s5 acc hD F5 E5 hN hA hC0 hI => ?_
  obtain ⟨m, hN⟩ := hN
  obtain ⟨o, ho, hnt, hnc⟩ := ns_dict hN
  have as := hA o ho
  show wpAny _ A (PySem.assign (.Name y py) κ.φ.f.env (.ref D)) _ _ s5
  refine wpAny_mono ((WA.name (κ := κ) (Q := fun l2 σ2 => Q .next l2 σ2) hy (h1 D acc σ5 hD hI)) A s5 δ5 (.ref D) G F5 (.ref D)) (fun _ s6 ⟨_, l6, σ6, δ6, _, F6, E6, q6⟩ => ?_) fun _ _ e => e.trans E5
  have as6 := as.stay as.fa E6
  obtain ⟨o', es, ep, h1, r⟩ := hN
  rw [as.at_] at h1; cases h1
  refine ⟨m, ⟨o, es, ep, as6.at_, r⟩, fun h' hs' => ?_⟩
  have kb : KeepBut [C] s6.heap h' := KeepBut.of_ext hs'.extBut
  exact ⟨.next, _, _, δ6, .next, F6.aside (tk := s6.toks) as6 kb hnc hnt, Evo.keepBut (E5.trans E6) kb (fun b hb => (List.mem_singleton.mp hb) ▸ hC0), q6⟩
end
end Mn
set_option genInjectivity false
namespace Mn
open PySem.SeqAt PySem.Builtin PySem.Builtin.ObjectAttr

noncomputable def excBm : List Value := [.type "Exception", .type "BaseException", .type "object"]
inductive ExcObj (K : Frag) (C N : Addr) : Prop
  | mk (nm q : Str) (bs : List Value) (sn : List Str) (sub : List Value) (ab : Bool) (col : Option Bool) (dd : Option Addr) (k0 k1 k2 k3 k5 : Option Value) (h : K.lookup C = some (excClassObj nm q C N bs excBm true sn sub ab col dd k0 k1 k2 k3 k5 "Exception.__new__"))
structure ExcCls (K : Frag) (C N fI : Addr) : Prop where
  obj : ExcObj K C N
  ok : nsOkIn K N = true
  init : nsIn K N "__init__" = some (some (.ref fI))
  sa : findIn K (.ref C) "__setattr__" = some (some (.builtin "object.__setattr__"))
  value : takerIn K C "value" = some none
  trace : takerIn K C "trace" = some none
inductive ExcBody (b : FuncBody) : Prop
  | mk (p1 p2 p3 p4 p5 p6 p7 p8 : Pos) (h : b = .stmts [.Assign [.Attribute (.Name "self" p1) "value" p2] (.Name "value" p3) p4, .Assign [.Attribute (.Name "self" p5) "trace" p6] (.List [] p7) p8])
structure ExcFn (K : Frag) (fI : Addr) (fd : FuncData) : Prop where
  fn : X2 fun od sl => K.lookup fI = some ⟨.type "function", od, .func fd, sl⟩
  code : codeIn K fd.code fd.qualname = true
  body : ExcBody fd.body
  binds : ∀ e r, bindArgs fd ⟨[e, r], []⟩ = pure [(("self" : Str), e), ("value", r)]
  cell : ∀ x ∈ fd.scope.names, x.2 ≠ .cell
  self : fd.scope.names.lookup ("self" : Str) = some NameKind.local
  value : fd.scope.names.lookup ("value" : Str) = some NameKind.local
  co : fd.scope.isCoroutine = false
  gen : fd.scope.isGenerator = false
  kind : fd.scope.kind = .function

section
variable {prog : Program} {w : World} {A : Around} {E : Value → Shared → Prop} {K : Frag} {C N fI : Addr} {fd : FuncData}

theorem osa_openE {s : Shared} {x : Addr} {R : Result → Shared → Prop} {ox : Obj} {od : Option Obj} {name : Str} {tk : Tok} {v : Value} {r : Option Value} {cd : ClassData} (X : K.In s.heap) (I : InstAt s.heap x ox C od) (hc : clsIn K C = some cd) (hm : cd.mro = .ref C :: excBm)
    (ht : takerIn K C name = some r)
    (h : ∀ b, wpAny (model prog w) A.in1 (match r with | some a => setByDescriptor a (.ref x) v | none => storeInOwnDict (.ref x) (.ref C) (.str name tk) name v b)
      (fun fin s' => match fin with | .done f => R (.ok f) s' | .again c' => c'.quiet = true ∧ codeAny (model prog w) A c' R s') (fun e s' => R (.error e) s') s) :
    codeAny (model prog w) A (.call (.builtin "object.__setattr__") ⟨[.ref x, .str name tk, v], []⟩) R s := by
  have SF := PySem.F.store_object
  have sub : Looks (model prog w) s.heap (isInstance (.ref x) (.type "object")) true := I.type.andThen (looks_mroIn X (by unfold mroIn; rw [hc, Option.bind_some, hm]; rfl))
  refine codeAny_call_builtin SF.slot.plain SF.entry (@check_slot (model prog w) _ _ s "object.__setattr__" "object" "__setattr__" (.ref x) [.str name tk, v] [] _ SF.kind SF.split sub (SF.args (.ref x) (.str name tk) v) ?_)
  obtain ⟨attr, ha, hr⟩ := Option.bind_eq_some_iff.mp ht
  have hm' : Looks (model prog w) s.heap (mroOf (.ref C)) cd.mro := (looks_clsIn X hc).andThen .now
  have L3 : Looks (model prog w) s.heap (storeTaker? attr) r := by
    cases attr with
    | none => cases hr; exact .now
    | some a =>
      obtain ⟨b, hb, rfl⟩ := Option.map_eq_some_iff.mp hr
      refine (looks_takesIn X hb).andThen ?_
      cases b <;> exact .now
  rw [osa_eq, refuse_eq]
  refine wpAny_bind (wpAny_bind (I.type.here (wpAny_bind (hm'.here ?_))))
  rw [hm, refuseLoop_ref, show excBm = [.type "Exception", .type "BaseException", .type "object"] from rfl, PySem.F.store_Exception.passes]
  refine wpAny_pure (wpAny_bind (I.type.here (wpAny_bind ((looks_findIn X ha).here (wpAny_bind (L3.here ?_))))))
  exact h _
/-- the first attribute of an exception: its dict is made -/
theorem osaE {s : Shared} {x : Addr} {R : Result → Shared → Prop} {ox : Obj} {name : Str} {tk : Tok} {v : Value} {cd : ClassData} (X : K.In s.heap) (I : InstAt s.heap x ox C none) (hd : ox.dict = none) (hc : clsIn K C = some cd) (hm : cd.mro = .ref C :: excBm) (hh : cd.hasDict = true)
    (ht : takerIn K C name = some none)
    (h : ∀ h' tk' n, (∀ b o, b ≠ x → s.heap.get? b = some o → h'.get? b = some o) → h'.get? x = some { ox with dict := some s.heap.objs.size } →
      h'.get? s.heap.objs.size = some (dictOf (putL name (PyData.keyHash w.params name) (.str name s.toks) v []) n) → R (.ok (.ret .none)) { s with heap := h', toks := tk' }) :
    codeAny (model prog w) A (.call (.builtin "object.__setattr__") ⟨[.ref x, .str name tk, v], []⟩) R s := by
  refine osa_openE X I hc hm ht fun b => ?_
  obtain ⟨hx, hcl, hn, -⟩ := I
  obtain ⟨oc, odi, oda, osl⟩ := ox
  dsimp only at hcl hd
  subst hcl hd
  have lt := Heap.lt_size hx
  refine wpAny_bind (wpAny_pure (wpAny_bind (wpAny_bind (wpAny_loadPart hx (wpAny_bind ((looks_clsIn X hc).here ?_))))))
  rw [hh]
  have ne : x ≠ s.heap.objs.size := Nat.ne_of_lt lt
  have D1 : (s.heap.push { cls := .type "dict", data := .dict #[] }).get? s.heap.objs.size = some { cls := .type "dict", data := .dict #[] } := Heap.get?_push_size _ rfl
  have X1 : (s.heap.push { cls := .type "dict", data := .dict #[] }).get? x = some { cls := .ref C, dict := none, data := oda, slots := osl } := Heap.get?_push_of_some _ hx
  have fr : (⟨.ref C, some s.heap.objs.size, oda, osl⟩ : Obj).isFreed = false := by
    have := (Heap.get?_some_iff.mp hx).2
    revert this
    cases oda <;> intro this <;> first | rfl | cases this
  have X2 := Heap.get?_update_self (fun o => { o with dict := some s.heap.objs.size }) X1 fr
  have D2 : ((s.heap.push { cls := .type "dict", data := .dict #[] }).update x fun o => { o with dict := some s.heap.objs.size }).get? s.heap.objs.size = some (dictOf [] 0) := (Heap.get?_update_other _ _ ne).trans D1
  have D3 := Heap.get?_update_self (Obj.putName name (PyData.keyHash w.params name) (.str name s.toks) v) D2 (by rw [putName_dict]; rfl)
  rw [putName_dict] at D3
  have fin : wpAny (model prog w) A.in1 (storeInDict s.heap.objs.size (.str name tk) name v) (fun fin s' => match fin with | .done f => R (.ok f) s' | .again c' => c'.quiet = true ∧ codeAny (model prog w) A c' R s') (fun e s' => R (.error e) s')
      { s with heap := (s.heap.push { cls := .type "dict", data := .dict #[] }).update x fun o => { o with dict := some s.heap.objs.size } } := by
    refine wpAny_bind (wpAny_pure (wpAny_bind ?_))
    unfold nsSet
    refine wpAny_bind (wpAny_bind (wpAny_askSetting (wpAny_pure (wpAny_bind (wpAny_mkText (wpAny_bind (wpAny_loadPart D2 ?_)))))))
    dsimp only
    have c : aRefKeyMayBeTheName name (List.toArray []) = false := by rw [aRefKeyMayBeTheName_at]; simp
    rw [c]
    refine wpAny_updatePart D2 ?_
    have hlen := putL_length name (PyData.keyHash w.params name) (.str name s.toks) v []
    refine wpAny_bind (wpAny_lookBehind D3 (pastItsLine_dict (by rw [List.size_toArray, sizeLine_eq]; simp at hlen; lia)) ?_)
    refine wpAny_pure (h _ _ _ (fun b o n e => ?_) ?_ D3)
    · have nb : b ≠ s.heap.objs.size := Nat.ne_of_lt (Heap.lt_size e)
      exact (Heap.get?_update_other _ _ (Ne.symm nb)).trans ((Heap.get?_update_other _ _ (Ne.symm n)).trans (Heap.get?_push_of_some _ e))
    · exact (Heap.get?_update_other _ _ (Ne.symm ne)).trans X2
  cases oda with
  | cls c => simp [notCls] at hn
  | _ => exact wpAny_bind (wpAny_alloc (wpAny_bind (wpAny_update X1 (wpAny_pure fin))))
/-- a further attribute -/
theorem osaF {s : Shared} {x dx : Addr} {R : Result → Shared → Prop} {ox : Obj} {name : Str} {tk : Tok} {v : Value} {cd : ClassData} {es : List DictEntry} {n : Nat} (X : K.In s.heap) (I : InstAt s.heap x ox C (some (dictOf es n))) (hd : ox.dict = some dx) (hc : clsIn K C = some cd) (hm : cd.mro = .ref C :: excBm) (hh : cd.hasDict = true)
    (ht : takerIn K C name = some none) (hnr : es.any (·.refKey) = false) (hz : es.length ≤ 1000)
    (h : R (.ok (.ret .none)) { s with heap := s.heap.update dx (Obj.putName name (PyData.keyHash w.params name) (.str name s.toks) v), toks := s.toks + 1 }) :
    codeAny (model prog w) A (.call (.builtin "object.__setattr__") ⟨[.ref x, .str name tk, v], []⟩) R s := by
  refine osa_openE X I hc hm ht fun b => ?_
  obtain ⟨hx, hcl, hn, hdd⟩ := I
  rw [hd] at hdd
  have D : s.heap.get? dx = some (dictOf es n) := hdd
  have D' := Heap.get?_update_self (Obj.putName name (PyData.keyHash w.params name) (.str name s.toks) v) D (by rw [putName_dict]; rfl)
  rw [putName_dict] at D'
  obtain ⟨oc, odi, oda, osl⟩ := ox
  dsimp only at hcl hd
  subst hcl hd
  refine wpAny_bind (wpAny_pure (wpAny_bind (wpAny_bind (wpAny_loadPart hx (wpAny_bind ((looks_clsIn X hc).here ?_))))))
  rw [hh]
  refine wpAny_pure (a := some dx) (wpAny_bind (wpAny_pure (wpAny_bind ?_)))
  unfold nsSet
  refine wpAny_bind (wpAny_bind (wpAny_askSetting (wpAny_pure (wpAny_bind (wpAny_mkText (wpAny_bind (wpAny_loadPart D ?_)))))))
  dsimp only
  have c : aRefKeyMayBeTheName name es.toArray = false := by
    rw [aRefKeyMayBeTheName_at]
    simp [hnr]
  rw [c]
  refine wpAny_updatePart D ?_
  have hlen := putL_length name (PyData.keyHash w.params name) (.str name s.toks) v es
  refine wpAny_bind (wpAny_lookBehind D' (pastItsLine_dict (by rw [List.size_toArray, sizeLine_eq]; lia)) ?_)
  exact wpAny_pure h

theorem exc_init {s : Shared} {h0 : Heap} {e : Addr} {r : Value} {Q : Value → Shared → Prop} (X0 : K.In h0) (X : K.In s.heap) (lim : s.heap.NoLimit) (hC : ExcCls K C N fI) (hF : ExcFn K fI fd) (hd : A.depth < recursionLimit)
    (M : Heap.MadeExcOf h0 s.heap e (.ref C) [r])
    (hq : ∀ h' tk oe t, (∀ b o, b ≠ e → s.heap.get? b = some o → h'.get? b = some o) → h'.get? e = some oe → oe.cls = .ref C → oe.data = .fields #[.ref t, .none, .none, .none, .bool false, .none] → Q .none { s with heap := h', toks := tk }) :
    wpAny (model prog w) A (call (.ref fI) [.ref e, r]) Q E s := by
  obtain ⟨⟨od, sl, hl⟩, hcd, ⟨p1, p2, p3, p4, p5, p6, p7, p8, hb⟩, hbi, hcell, hself, hval, hco, hgen, hk⟩ := hF
  obtain ⟨⟨nm, q, bs, sn, sub, ab, col, dd, k0, k1, k2, k3, k5, ho⟩, nok, ninit, nsa, nval, ntr⟩ := hC
  obtain ⟨t, he, ht0, ht⟩ := M.there
  have hCo := X _ _ ho
  obtain ⟨cd, hcd', hmro, hhd⟩ : ∃ cd, A3 (clsIn K C = some cd) (cd.mro = .ref C :: excBm) (cd.hasDict = true) := ⟨_, by unfold clsIn; rw [ho], rfl, rfl⟩
  refine wpAny_call (codeAny_call_def (binds := [(("self" : Str), Value.ref e), ("value", r)]) hd (X _ _ hl) rfl lim (codeRec_of X hcd) hb (.of_eq (hbi _ _)) hcell (by intro x hx; simp only [List.mem_cons, List.not_mem_nil, or_false] at hx; rcases hx with rfl | rfl <;> assumption) (fun h1 hn hk0 => ?_) hco hgen hk)
  have heL : e ≠ s.heap.objs.size := Nat.ne_of_lt (Heap.lt_size he)
  have hv : (fun x => [(("self" : Str), Value.ref e), ("value", r)].reverse.lookup x : Str → Option Value) "value" = some r := rfl
  have hs : (fun x => [(("self" : Str), Value.ref e), ("value", r)].reverse.lookup x : Str → Option Value) "self" = some (.ref e) := rfl
  generalize hm0 : (fun x => [(("self" : Str), Value.ref e), ("value", r)].reverse.lookup x : Str → Option Value) = m0 at hn hv hs
  generalize henv : callEnv fd s.heap.objs.size fI = env
  have ek : env.scope.kind = .function := by rw [← henv]; exact hk
  have el : env.locals = s.heap.objs.size := by rw [← henv]; rfl
  have ks : env.kindOf "self" = some .local := by rw [← henv]; exact hself
  have kv : env.kindOf "value" = some .local := by rw [← henv]; exact hval
  rw [← el] at hn heL
  have X1 : K.In h1 := X.keeps hk0
  have he1 := hk0 _ _ he
  refine wpAny_execs_cons ?_
  refine wpAny_Assign_stores (wpAny_Name (wpAny_loadName_local ek kv hn hv ?_) (by decide)) rfl rfl
  show wpAny _ _ (assign (.Attribute (.Name "self" p1) "value" p2) env r) _ _ _
  rw [assign_Attribute']
  refine wpAny_bind (wpAny_holding (wpAny_Name (wpAny_loadName_local ek ks hn hs ?_) (by decide)))
  refine wpAny_bind (wpAny_standAt (wpAny_bind (wpAny_holding ?_)))
  have I1 : InstAt h1 e { cls := .ref C, data := .fields #[.ref t, .none, .none, .none, .bool false, .none] } C none := ⟨he1, rfl, rfl, trivial⟩
  refine set_plain X1 I1 nsa (osaE X1 I1 rfl hcd' hmro hhd nval fun h2 tk2 n k2 e2 d2 => ?_)
  refine wpAny_release ?_
  have hn2 : h2.Ns env.locals m0 := let ⟨o, es, ep, z, r⟩ := hn; ⟨o, es, ep, k2 _ _ (Ne.symm heL) z, r⟩
  refine wpAny_execs_cons ?_
  refine wpAny_Assign_stores ?_ rfl rfl
  refine wpAny_List_spliced (spliced_nil ⟨by decide, ?_⟩)
  show wpAny _ _ (assign (.Attribute (.Name "self" p5) "trace" p6) env _) _ _ _
  rw [assign_Attribute']
  dsimp only
  have k3 : ∀ b o, b ≠ e → s.heap.get? b = some o → (h2.push { cls := .type "list", data := .seq ([] : List Value).toArray }).get? b = some o := fun b o n z => Heap.get?_push_of_some _ (k2 b o n (hk0 b o z))
  have hn3 : (h2.push { cls := .type "list", data := .seq ([] : List Value).toArray }).Ns env.locals m0 := let ⟨o, es, ep, z, r⟩ := hn2; ⟨o, es, ep, Heap.get?_push_of_some _ z, r⟩
  refine wpAny_bind (wpAny_holding (wpAny_Name (wpAny_loadName_local ek ks hn3 hs ?_) (by decide)))
  refine wpAny_bind (wpAny_standAt (wpAny_bind (wpAny_holding ?_)))
  have neK : ∀ b o, K.lookup b = some o → b ≠ e := fun b o z q => by
    have := X0 b o z; rw [q, M.new] at this; cases this
  have X3 : K.In (h2.push { cls := .type "list", data := .seq ([] : List Value).toArray }) := fun b o z => k3 b o (neK b o z) (X b o z)
  have e3 := Heap.get?_push_of_some (h := h2) { cls := .type "list", data := .seq ([] : List Value).toArray } e2
  have d3 := Heap.get?_push_of_some (h := h2) { cls := .type "list", data := .seq ([] : List Value).toArray } d2
  have I3 : InstAt (h2.push { cls := .type "list", data := .seq ([] : List Value).toArray }) e _ C (some _) := ⟨e3, rfl, rfl, d3⟩
  refine set_plain X3 I3 nsa (osaF X3 I3 rfl hcd' hmro hhd ntr (by simp [putL]; rfl) (by simp [putL]) ?_)
  have n1 : s.heap.get? h1.objs.size = none := by
    cases w : s.heap.get? h1.objs.size with
    | none => rfl
    | some o => exact absurd (Heap.lt_size (hk0 _ _ w)) (Nat.lt_irrefl _)
  have nee : e ≠ h1.objs.size := Nat.ne_of_lt (Heap.lt_size he1)
  refine wpAny_release (wpAny_execs_nil ?_)
  refine hq _ _ _ t (fun b o n z => ?_) ((Heap.get?_update_other _ _ (Ne.symm nee)).trans e3) rfl rfl
  exact (Heap.get?_update_other _ _ (fun q => by rw [← q, n1] at z; cases z)).trans (k3 b o n z)
end
end Mn
set_option genInjectivity false
namespace Mn
open PySem.SeqAt

theorem raise_made {prog : Program} {w : World} {A : Around} {E : Value → Shared → Prop} {env : Env} {nm q : Str} {C N : Addr} {bs bm : List Value} {hdct : Bool} {sn : List Str} {sub : List Value} {ab : Bool} {col : Option Bool} {dd : Option Addr} {k0 k1 k2 k3 k5 : Option Value} {newId : String}
    {s : Shared} {x : Sem Value} {Q : Flow → Shared → Prop} (hbase : bm.contains (.type "BaseException") = true) (hh : A.handled = none)
    (h : wpAny (model prog w) A x (fun v s₁ => X2 fun e oe => A6 (v = .ref e) (s₁.heap.get? C = some (excClassObj nm q C N bs bm hdct sn sub ab col dd k0 k1 k2 k3 k5 newId)) (s₁.heap.get? e = some oe) (oe.cls = .ref C) ((∃ t, oe.data = .fields #[.ref t, .none, .none, .none, .bool false, .none])) (E (.ref e) s₁)) E s) :
    wpAny (model prog w) A (raiseStmt env (some x) none) Q E s := by
  have hcB : (Value.ref C :: bm).contains (.type "BaseException") = true := by rw [List.contains_cons, hbase, Bool.or_true]
  unfold raiseStmt
  refine wpAny_bind (wpAny_mono h (fun v s₁ h₁ => ?_) fun _ _ x => x)
  obtain ⟨e, ⟨oc, odi, oda, osl⟩, rfl, hC, he, hc, ⟨tt, hvs⟩, hE⟩ := h₁
  dsimp only at hc hvs
  subst hc hvs
  obtain ⟨hp, g, d, tk, os⟩ := s₁
  repeat (first | with_reducible refine wpAny_loadPart_at he ?_ | with_reducible refine wpAny_loadPart_at hC ?_ | (with_reducible refine wpAny_isSubtype_exc hC ?_; rw [hcB]) | wp_step)
  exact wpAny_raiseNew_none hh hE
theorem ns_of {K : Frag} {h : Heap} {N : Addr} {mg : Str → Option Value} {n : Str} {v : Value} (X : K.In h) (G : h.Ns N mg) (e : nsIn K N n = some (some v)) : mg n = some v := by
  obtain ⟨o, es, ep, ho, hd, _, hf⟩ := G
  unfold nsIn at e
  split at e
  · rename_i c d es' n' sl q
    have := X _ _ q
    rw [ho] at this
    cases this
    cases hd
    split at e
    · rename_i en he
      cases e
      rw [← hf]
      unfold nsFind findBy
      rw [← Array.find?_toList, he]
      rfl
    · split at e <;> cases e
  · cases e
/-- a heap without some objects -/
noncomputable def strip : List Addr → Heap → Heap
  | [], h => h
  | z :: r, h => (strip r h).update z fun o => { o with data := .freed }
theorem update_freed (h : Heap) (z : Addr) (f : Obj → Obj) (hf : ∀ o, (f o).isFreed = true) : (h.update z f).get? z = none := isNone_of fun o q => by
  have := Heap.get?_some_iff.mp q
  obtain ⟨objs, l⟩ := h
  simp only [Heap.update, Array.getElem?_modify, if_true] at this
  obtain ⟨w, h2⟩ := this
  obtain ⟨x, _, rfl⟩ := Option.map_eq_some_iff.mp w
  rw [hf] at h2; cases h2
theorem strip_in : ∀ {Z : List Addr} {h : Heap} {b : Addr}, b ∉ Z → (strip Z h).get? b = h.get? b
  | [], _, _, _ => rfl
  | z :: r, h, b, n => (Heap.get?_update_other _ _ fun q : z = b => n (q ▸ List.Mem.head _)).trans (strip_in fun q => n (.tail _ q))
theorem strip_out : ∀ {Z : List Addr} {h : Heap} {b : Addr}, b ∈ Z → (strip Z h).get? b = none
  | z :: r, h, b, n => by
    by_cases q : b = z
    · subst q; exact update_freed _ _ _ fun o => rfl
    · exact (Heap.get?_update_other _ _ (Ne.symm q)).trans (strip_out ((List.mem_cons.mp n).resolve_left q))
theorem strip_of {Z : List Addr} {h : Heap} {b : Addr} {o : Obj} (e : (strip Z h).get? b = some o) : b ∉ Z ∧ h.get? b = some o := by
  by_cases q : b ∈ Z
  · exact some_not_none e (strip_out q)
  · exact ⟨q, (strip_in q).symm.trans e⟩

section
variable {κ : Cx} {l : Loc} {σ : MH} {δ : DM}
theorem load_globW {A s x rv pos} (F : FS κ.φ l σ δ s) (e : nsIn κ.φ.g.K mainGlobals x = some (some rv)) (hx : κ.φ.f.env.kindOf x = some .globalImplicit) (hd : (x == ("__debug__" : Str)) = false) :
    wpAny (model κ.φ.g.prog κ.φ.g.w) A (eval (.Name x pos) κ.φ.f.env) (fun r s1 => r = rv ∧ s1 = s) (fun _ _ => False) s :=
  Name_function_global F.envOk.kind hx (loadGlobal_global (by rw [F.envOk.globals]; exact F.top.g) (mg_of κ.φ.g.inK κ.φ.g.top.g e) ⟨rfl, rfl⟩) hd
structure ExcOk (K : Frag) (cX N fI : Addr) (fd : FuncData) : Prop where
  c : ExcCls K cX N fI
  f : ExcFn K fI fd
/-- raise LuaError(b"…") -/
theorem WS1.raise {x np cpos pos k bp N fI fd} {b : List UInt8} {Q : Fw → Loc → MH → Prop} (H : ExcOk κ.φ.g.K κ.φ.g.cX N fI fd) (hg : nsIn κ.φ.g.K mainGlobals x = some (some (.ref κ.φ.g.cX))) (hx : κ.φ.f.env.kindOf x = some .globalImplicit) (hdp : 1 ≤ κ.d) (h : κ.X σ)
    (hd : (x == ("__debug__" : Str)) = false) : WS1 κ (.Raise (some (.Call (.Name x np) [.Constant (.bytes b) k bp] [] cpos)) none pos) Q l σ := fun A s δ G F => by
  obtain ⟨hC, hF⟩ := H
  obtain ⟨nm, q, bs, sn, sub, ab, col, dd, k0, k1, k2, k3, k5, ho⟩ := id hC.obj
  obtain ⟨od, sl, hfn⟩ := id hF.fn
  show wpAny _ _ _ _ _ _
  rw [arm_exec_Raise]
  refine wpAny_bind (wpAny_standAt (raise_made (nm := nm) (q := q) (bs := bs) (sn := sn) (sub := sub) (ab := ab) (col := col) (dd := dd) (k0 := k0) (k1 := k1) (k2 := k2) (k3 := k3) (k5 := k5) (hdct := true) (newId := "Exception.__new__")
    (C := κ.φ.g.cX) (N := N) (bm := excBm) (by decide) G.handled (x := do let v ← eval (.Call (.Name x np) [.Constant (.bytes b) k bp] [] cpos) κ.φ.f.env; standAt pos; pure v) ?_))
  refine wpAny_bind (wpAny_mono (Q := fun v s1 => X2 fun e oe => A6 (v = .ref e) (s1.heap.get? κ.φ.g.cX = some (excClassObj nm q κ.φ.g.cX N bs excBm true sn sub ab col dd k0 k1 k2 k3 k5 "Exception.__new__")) (s1.heap.get? e = some oe) (oe.cls = .ref κ.φ.g.cX) ((∃ t, oe.data = .fields #[.ref t, .none, .none, .none, .bool false, .none])) (FlX κ σ δ s.heap (.ref e) s1)) ?_ (fun v s1 z => wpAny_bind (wpAny_standAt (wpAny_pure z))) fun _ _ e => e)
  refine wpAny_Call_ofName ?_
  refine wpAny_mono (load_globW F hg hx hd) (fun rf s1 h1 => ?_) fun _ _ e => e.elim
  obtain ⟨rfl, rfl⟩ := h1
  unfold callWith
  refine wpAny_bind (wpAny_holding (evalArgs_plain (spliced_cons (wpAny_mkTextBytes (spliced_nil (wpAny_bind (wpAny_standAt ?_)))))))
  have inK := F.inK
  have keep := F.sim.keep
  have fr := F.fr
  have sim := F.sim
  have gens := F.gens
  have hos := F.os
  clear F
  obtain ⟨hh, gs, dr, tk, os⟩ := s1
  refine wpAny_bind (wpAny_keeperOf_exc (inK _ _ ho) ?_)
  have hNs : hh.Ns N (hh.nsMap N) := .of_isNs (isNs_of_in inK hC.ok)
  refine wpAny_bind (wpAny_call_exc_init (hrest := by rw [sizeLine_eq]; simp) PySem.F.excBase_Exception (inK _ _ ho) hNs (ns_of inK hNs hC.init) (inK _ _ hfn) rfl fun h' e hm => ?_)
  have X1 : κ.φ.g.K.In h' := inK.keeps hm.keeps
  have G' : Good0 0 (A.under (.builtin "type.__call__" ⟨.ref κ.φ.g.cX :: [Value.bytes b.toArray tk], []⟩)) κ.φ.fl := under_make A κ.φ.g.cX [Value.bytes b.toArray tk] (G.le hdp)
  refine wpAny_mono (exc_init (s := ⟨h', gs, dr, tk + 1, os⟩) inK X1 (κ.φ.g.top.nolimit.keeps fun b o e => hm.keeps b o (keep b o e)) hC hF (Nat.lt_of_le_of_lt (Nat.le_trans (Nat.le_add_right _ _) G'.depth) (by decide)) hm (E := fun _ _ => False)
    (Q := fun r s' => r = .none ∧ X4 fun h'' tk' oe t => A5 (s' = ⟨h'', gs, dr, tk', os⟩) ((∀ b o, b ≠ e → h'.get? b = some o → h''.get? b = some o)) (h''.get? e = some oe) (oe.cls = .ref κ.φ.g.cX) (oe.data = .fields #[.ref t, .none, .none, .none, .bool false, .none]))
    fun h'' tk' oe t a1 a2 a3 a4 => ⟨rfl, h'', tk', oe, t, rfl, a1, a2, a3, a4⟩) (fun r s' z => ?_) fun _ _ e => e.elim
  obtain ⟨rfl, h'', tk', oe, t, rfl, a1, a2, a3, a4⟩ := z
  refine ⟨rfl, wpAny_bind (wpAny_holding (wpAny_point (wpAny_pure ?_)))⟩
  have kk : ∀ b o, hh.get? b = some o → h''.get? b = some o := fun b o z => a1 b o (fun q => by rw [q, hm.new] at z; cases z) (hm.keeps b o z)
  refine ⟨e, oe, rfl, kk _ _ (inK _ _ ho), a2, a3, ⟨t, a4⟩, ?_⟩
  refine ⟨e, σ, δ, hh, strip (frameAddrs κ.φ.fl) hh, frameAddrs κ.φ.fl, rfl, h, ⟨sim, fr, Evo.refl .., fun b o z n => (strip_in n).trans z, fun b o z => (strip_of z).2, fun z hz => ?_, fun z hz => hz, fun z hz => strip_out hz, fun b o z => kk b o (strip_of z).2, fun b o z _ => ⟨o.slots, kk b o z⟩, ?_,
    .plain (.ref t) oe _ a2 a3 a4 rfl rfl⟩, gens, hos⟩
  · obtain ⟨b1, b2, o, _, _, b3, _, b4⟩ := fr.at hz
    exact ⟨.inl hz, b1, b2, fun o' w => by rw [b3] at w; cases w; exact b4⟩
  · exact isNone_of fun o w => by have := (strip_of w).2; rw [hm.new] at this; cases this
end
section
variable {g : G} {fl : List Env} {σ : MH} {δ : DM}
theorem Evo.upTo {fa : List Addr} {σ1 : MH} {δ1 : DM} {h h1 h2 : Heap} {L : Addr} {Z : List Addr} {B : Heap} (hfa : ∀ b ∈ fa, b = L) (hL : Fl fl L) (E : Evo fl fa σ δ h σ1 δ1 h1) (fr : FrOk g σ1 δ1 h1 fl) (zs : ∀ z ∈ Z, Fl fl z ∨ h.get? z = none ∨ z ∈ fa) (inB : ∀ b o, h1.get? b = some o → b ∉ Z → B.get? b = some o)
    (st : Heap.StaysIn B h2) (up : h1.UpToSlots h2) : Evo fl fa σ δ h σ1 δ1 h2 := by
  have fl_ : ∀ b o, h.get? b = some o → b ∈ Z → Fl fl b := fun b o e z => (zs b z).elim id fun q => q.elim (some_not_none e) fun q => hfa b q ▸ hL
  have frd : ∀ b o, Fl fl b → h1.get? b = some o → ∀ vs, o.data ≠ .fields vs := fun b o q e vs z => by
    obtain ⟨_, _, o', es, n, a1, a2, _⟩ := fr.at q
    rw [e] at a1; cases a1; rw [a2] at z; cases z
  refine ⟨fun b o e n q r => ?_, fun b o e n q r => st b o (inB b o (E.keep b o e n q r) fun z => r (fl_ b o e z)), E.own, E.dom, fun b o e => ?_⟩
  · obtain ⟨sl, h3⟩ := E.slots b o e n q r
    obtain ⟨sl', h4⟩ := up b _ h3 (frd b _ r h3)
    exact ⟨sl', h4⟩
  · obtain ⟨o', h3⟩ := E.live b o e
    by_cases z : b ∈ Z
    · obtain ⟨sl, h4⟩ := up b o' h3 (frd b o' (fl_ b o e z) h3); exact ⟨_, h4⟩
    · exact ⟨o', st b o' (inB b o' h3 z)⟩
theorem Rep.keeps {h h' : Heap} {a : Addr} {o : O} (r : Rep δ h a o) (k : ∀ y, h.get? a = some y → h'.get? a = some y) (kd : ∀ d y, δ d = some a → h.get? d = some y → h'.get? d = some y) (t : ∀ b o, h.get? b = some o → IsTup o → h'.get? b = some o) : Rep δ h' a o := by
  cases o with
  | inst C fs =>
    obtain ⟨ox, d, es, n, h1, h2, h3, h4, h5, h6, h7⟩ := r
    exact ⟨ox, d, es, n, k _ h1, h2, h3, h4, h5, kd _ _ h5 h6, h7.mono t⟩
  | list x => obtain ⟨vs, n, h1, h4⟩ := r; exact ⟨vs, n, k _ h1, h4.mono t⟩
  | rlist x => obtain ⟨o, vs, n, h1, h2, h3, h4⟩ := r; exact ⟨o, vs, n, k _ h1, h2, h3, h4.mono t⟩
  | raw x => exact ⟨k _ r.1, r.2⟩
/-- a frame without cells, the topmost -/
structure Sole (φ : Fx) : Prop where
  fl : ∃ outer, φ.fl = φ.f.env :: outer
  fr : φ.f.env.frame = some φ.f.env.locals
  fa : φ.f.fa = [φ.f.env.locals]
  nc : ∀ y, φ.f.env.kindOf y ≠ some .cell
theorem Sole.at {φ : Fx} (S : Sole φ) : Fl φ.fl φ.f.env.locals := by
  obtain ⟨outer, e⟩ := S.fl
  exact List.mem_filterMap.mpr ⟨φ.f.env, by rw [e]; exact .head _, S.fr⟩
/-- what holds where an exception is caught -/
theorem FliesAt.caught {φ : Fx} {s h' : Heap} {ea : Addr} {σ1 : MH} {δ1 : DM} {hr B : Heap} {Z : List Addr} {sh : Shared} (x : FliesAt φ.g φ.fl φ.f.fa σ δ s ea σ1 δ1 hr B Z h') (S : Sole φ) (hk : EnvOk φ.f) (hg : sh.gens = #[]) (ho : sh.os = φ.g.os) {h2 : Heap}
    (st : B.StaysIn h2) (up : hr.UpToSlots h2) (hs : sh.heap = h2) : FS φ (fun _ => none) σ1 δ1 sh ∧ Ev φ σ δ s σ1 δ1 h2 := by
  subst hs
  have hfr := S.at
  have outZ : ∀ b o, hr.get? b = some o → b ∉ Z → sh.heap.get? b = some o := fun b o e n => st b o (x.inB b o e n)
  have kt : ∀ b o, hr.get? b = some o → IsTup o → sh.heap.get? b = some o := fun b o e t => outZ b o e fun z => (x.zs b z).nt o e t
  have nd : ∀ b, Dom σ1 δ1 b → b ∉ Z := fun b e z => (x.zs b z).dom e
  have frames : ∀ b o es n, Fl φ.fl b → hr.get? b = some o → o.data = .dict es n → ∃ sl, sh.heap.get? b = some { o with slots := sl } := fun b o es n q e d => up b o e fun vs z => by rw [d] at z; cases z
  obtain ⟨f1, f2, oL, esL, nL, f3, f4, f5⟩ := x.fr.at hfr
  obtain ⟨slL, f6⟩ := frames _ _ _ _ hfr f3 f4
  have keys : StrKeys esL := by
    obtain ⟨e, he, hl⟩ := List.mem_filterMap.mp hfr
    obtain ⟨_, L, o, es, n, q1, _, _, q4, q5, _, q7⟩ := x.fr.all e he
    rw [hl] at q1; cases q1
    rw [f3] at q4; cases q4
    rw [f4] at q5; cases q5
    exact q7
  refine ⟨⟨⟨fun b o e => outZ b o (x.sim.keep b o e) fun z => some_not_none e (x.zs b z).base, fun a o e => (x.sim.rep a o e).keeps (fun y q => outZ a y q (nd a (.obj _ e))) (fun dd y q1 q2 => outZ dd y q2 (nd dd (.dict _ q1))) kt, x.sim.new, fun b a e => ?_⟩, hk,
    ⟨fun y => nsFind esL y, ⟨_, esL, nL, f6, f4, keys, fun _ => rfl⟩, fun y v hy => (nomatch hy), fun y c hc => absurd hc (S.nc y)⟩, fun b hb => ?_, ⟨fun e he => ?_⟩, hg, ho⟩, ?_⟩
  · obtain ⟨⟨C, fs, q⟩, q2, ox, q3, q4⟩ := x.sim.aux b a e
    exact ⟨⟨C, fs, q⟩, q2, ox, outZ _ _ q3 (nd _ (.obj _ q)), q4⟩
  · rw [S.fa] at hb
    rw [List.mem_singleton.mp hb]
    exact ⟨f1, f2, _, f6, notTup_slots f5⟩
  · obtain ⟨kk, L, o, es, n, q1, q2, q3, q4, q5, q6, q7⟩ := x.fr.all e he
    obtain ⟨sl, w⟩ := frames L o es n (List.mem_filterMap.mpr ⟨e, he, q1⟩) q4 q5
    exact ⟨kk, L, _, es, n, q1, q2, q3, w, q5, notTup_slots q6, q7⟩
  · exact Evo.upTo (L := φ.f.env.locals) (fun b hb => by rw [S.fa] at hb; exact List.mem_singleton.mp hb) hfr x.evo x.fr (fun z hz => (x.zs z hz).whose) x.inB st up
theorem note_first {M : Model} {A : Around} {E : Value → Shared → Prop} {s : Shared} {base : Heap} {env : Env} {outer : List Env} {L e : Addr} {oe : Obj} {vs : Array Value} {a0 : Value} {Q : Unit → Shared → Prop}
    (hfr : A.frames = some (env :: outer)) (hl : s.heap.FunFrames base (env :: outer)) (hf : env.frame = some L) (he : s.heap.get? e = some oe) (hkb : base.StaysIn s.heap) (hen : base.get? e = none) (hd : oe.data = .fields vs) (h1 : vs[1]? = some .none) (h0 : vs[0]? = some a0)
    (h : ∀ h', Heap.HeldW base (env :: outer) e oe.cls a0 L h' → s.heap.UpToSlots h' → Q () { s with heap := h' }) : wpAny M A (noteFrame (.ref e) env) Q E s := by
  unfold noteFrame
  simp only [hf]
  refine wpAny_bind (wpAny_field he hd h1 ?_)
  rw [if_neg (by simp)]
  exact wpAny_entryW hfr hl hf he hkb hen hd (Array.getElem?_eq_some_iff.mp h1).1 h0 fun h' ⟨a, b, c, d⟩ => h h' ⟨a, hen, b, c⟩ d
end
section
variable {κ : Cx} {l : Loc} {σ : MH}
/-- try … except LuaError: return … -/
theorem WS1.tryRet {body x np b bk bp rpos hpos pos N fI fd} {X' : MH → Prop} {Q : Fw → Loc → MH → Prop} (H : ExcOk κ.φ.g.K κ.φ.g.cX N fI fd) (hg : nsIn κ.φ.g.K mainGlobals x = some (some (.ref κ.φ.g.cX))) (hx : κ.φ.f.env.kindOf x = some .globalImplicit) (S : Sole κ.φ)
    (h : WS ⟨κ.φ, κ.d, X'⟩ body Q l σ) (hX : ∀ σ1, X' σ1 → Q (.ret (.bool b)) (fun _ => none) σ1) (hd : (x == ("__debug__" : Str)) = false) :
    WS1 κ (.Try body [.ExceptHandler (some (.Name x np)) none [.Return (some (.Constant (.bool b) bk bp)) rpos] hpos] [] [] pos) Q l σ := fun A s δ G F => by
  obtain ⟨nm, q, bs, sn, sub, ab, col, dd, k0, k1, k2, k3, k5, ho⟩ := id H.c.obj
  obtain ⟨outer, hfl⟩ := S.fl
  have hA : A.frames = some (κ.φ.f.env :: outer) := by rw [G.frames, hfl]
  refine wpAny_Try_except (wpAny_mono (h A s δ G F) (fun fw s1 ⟨w, l1, σ1, δ1, hR, F1, E1, q1⟩ => ?_) fun ev s1 fx => ?_)
  · cases hR with
    | next => exact wpAny_execs_nil ⟨.next, l1, σ1, δ1, .next, F1, E1, q1⟩
    | brk => exact ⟨.brk, l1, σ1, δ1, .brk, F1, E1, q1⟩
    | cont => exact ⟨.cont, l1, σ1, δ1, .cont, F1, E1, q1⟩
    | ret hv => exact ⟨.ret _, l1, σ1, δ1, .ret hv, F1, E1, q1⟩
  · obtain ⟨ea, σ1, δ1, hr, B, Z, rfl, hX1, fx, hgs, hos⟩ := fx
    have ff : s1.heap.FunFrames B (κ.φ.f.env :: outer) := hfl ▸ fx.funFrames
    -- behind the notes
    have rest : ∀ a0 h2, Heap.HeldW B (κ.φ.f.env :: outer) ea (.ref κ.φ.g.cX) a0 κ.φ.f.env.locals h2 → s1.heap.UpToSlots h2 → wpAny (model κ.φ.g.prog κ.φ.g.w) A (setFlight (.ref ea) none) (fun _ s₃ =>
        wpAny (model κ.φ.g.prog κ.φ.g.w) A (handleBy (.ref ea) κ.φ.f.env [.ExceptHandler (some (.Name x np)) none [.Return (some (.Constant (.bool b) bk bp)) rpos] hpos]) (Ok FwRel κ.φ σ δ s.heap Q) (FlX κ σ δ s.heap) s₃) (FlX κ σ δ s.heap) { s1 with heap := h2 } := fun a0 h2 hheld u2 => by
      refine wpAny_landsW hheld fun h3 hfl3 u3 => ?_
      have C3 := fx.caught (sh := { s1 with heap := h3 }) S F.envOk hgs hos hfl3.1 ((fx.upto.trans u2).trans u3) rfl
      obtain ⟨ob, hob, hobc⟩ := hfl3.there
      refine wpAny_handleBy_cons (codeAny_handlers_test (wpAny_mono (load_globW (s := { s1 with heap := h3 }) C3.1 hg hx hd) (fun r s2 ⟨r1, r2⟩ => ?_) fun _ _ e => e.elim)) (by intro q; cases q)
      subst r1 r2
      refine wpAny_excMatches_sub_self (C3.1.inK _ _ ho) hob hobc (by decide) (codeAny_handlers_suite ?_)
      refine lands_againW hfl3 fun h4 hfl4 u4 => ?_
      have C4 := fx.caught (sh := { s1 with heap := h4 }) S F.envOk hgs hos hfl4.1 (((fx.upto.trans u2).trans u3).trans u4) rfl
      refine wpAny_execs_cons (wpAny_Return_some (wpAny_pure ?_))
      exact ⟨.ret (.bool b), fun _ => none, σ1, δ1, .ret (.bool b), C4.1, C4.2, hX σ1 hX1⟩
    cases fx.exc with
    | plain a0 oe vs e1 e2 e3 e4 e5 =>
      refine note_first hA ff S.fr e1 fx.stays fx.fresh e3 e5 e4 fun h2 hheld u2 => ?_
      rw [e2] at hheld
      exact rest _ h2 hheld u2
    | traced a0 tr => exact wpAny_looks_onW hA S.fr ⟨fx.stays, fx.fresh, ff, tr⟩ fun h2 hheld u2 => rest _ h2 hheld u2
end
end Mn
set_option genInjectivity false
namespace Mn
/-! the sort of distinct keys (plain) -/
noncomputable def Sp {α : Type} (lt : Nat → Nat → Bool) (N : Nat) : KasT α → (α → Prop) → Prop
  | .ret a, P => P a
  | .ask i j k, P => i < N ∧ j < N ∧ Sp lt N (k (lt i j)) P
theorem Sp.bind {α β : Type} {lt N} {f : α → KasT β} {P : β → Prop} : ∀ {t : KasT α}, Sp lt N t (fun a => Sp lt N (f a) P) → Sp lt N (t.bind f) P
  | .ret _, h => h
  | .ask _ _ _, ⟨a, b, h⟩ => ⟨a, b, Sp.bind h⟩
theorem Sp.mono {α : Type} {lt N} {P P' : α → Prop} (k : ∀ a, P a → P' a) : ∀ {t : KasT α}, Sp lt N t P → Sp lt N t P'
  | .ret _, h => k _ h
  | .ask _ _ _, ⟨a, b, h⟩ => ⟨a, b, Sp.mono k h⟩
theorem Sp.wp {α : Type} {lt N} {P : α → Prop} {cmp : Nat → Nat → (Bool → Shared → Prop) → Shared → Prop} {Q : α → Shared → Prop} {s : Shared} (hc : ∀ i j C, i < N → j < N → C (lt i j) s → cmp i j C s) (hq : ∀ a, P a → Q a s) : ∀ {t : KasT α}, Sp lt N t P → t.kasWp cmp Q s
  | .ret _, h => hq _ h
  | .ask i j k, ⟨a, b, h⟩ => hc i j _ a b (Sp.wp hc hq h)
theorem Sp.if {α : Type} {lt N} {P : α → Prop} {A B : KasT α} {c : Prop} [Decidable c] (a : c → Sp lt N A P) (b : ¬ c → Sp lt N B P) : Sp lt N (if c then A else B) P := by
  by_cases h : c
  · rw [if_pos h]; exact a h
  · rw [if_neg h]; exact b h
theorem Sp.ask {α : Type} {lt N} {P : α → Prop} {A B : KasT α} {i j} (hi : i < N) (hj : j < N) (a : lt i j = true → Sp lt N A P) (b : lt i j = false → Sp lt N B P) : Sp lt N (.ask i j fun c => if c = true then A else B) P := ⟨hi, hj, Sp.if a fun h => b (Bool.not_eq_true _ ▸ h)⟩
structure Ord (lt : Nat → Nat → Bool) (N : Nat) : Prop where
  irr : ∀ i, lt i i = false
  tr : ∀ i j k, lt i j = true → lt j k = true → lt i k = true
  tot : ∀ i j, i < N → j < N → i ≠ j → lt i j = false → lt j i = true
noncomputable abbrev gp (p : Array Nat) (i : Nat) : Nat := p.getD i 0
noncomputable def Pm (N : Nat) (p : Array Nat) : Prop := p.Perm (List.toArray (List.range N))
section
variable {lt : Nat → Nat → Bool} {N : Nat} {p : Array Nat}
theorem Pm.size (h : Pm N p) : p.size = N := by rw [Array.Perm.size_eq h]; simp
theorem Pm.list (h : Pm N p) : p.toList.Perm (List.range N) := by
  have := Array.perm_iff_toList_perm.mp h
  simpa using this
theorem gp_some {i} (h : i < p.size) : p[i]? = some (gp p i) := by
  rw [Array.getElem?_eq_getElem h]; simp [gp, Array.getD, h]
theorem gp_congr {q : Array Nat} {i j} (h : p[i]? = q[j]?) : gp p i = gp q j := by
  unfold gp
  simp only [Array.getD_eq_getD_getElem?, h]
theorem Pm.lo (h : Pm N p) {i} (hi : i < N) : gp p i < N := by
  have hi' : i < p.size := by rw [h.size]; exact hi
  have e := gp_some hi'
  have : gp p i ∈ p.toList := by
    rw [Array.getElem?_eq_getElem hi'] at e
    rw [← Option.some.inj e]
    exact Array.getElem_mem_toList hi'
  exact List.mem_range.mp (h.list.mem_iff.mp this)
theorem Pm.ne (h : Pm N p) {i j} (hi : i < N) (hj : j < N) (hne : i ≠ j) : gp p i ≠ gp p j := fun e => by
  have nd : p.toList.Nodup := h.list.nodup_iff.mpr List.nodup_range
  have hi' : i < p.toList.length := by rw [Array.length_toList, h.size]; exact hi
  have hj' : j < p.toList.length := by rw [Array.length_toList, h.size]; exact hj
  have e1 : p.toList[i] = gp p i := by
    have := gp_some (p := p) (i := i) (by simpa using hi')
    rw [Array.getElem?_eq_getElem (by simpa using hi')] at this
    simpa using this
  have e2 : p.toList[j] = gp p j := by
    have := gp_some (p := p) (i := j) (by simpa using hj')
    rw [Array.getElem?_eq_getElem (by simpa using hj')] at this
    simpa using this
  exact hne (List.getElem_inj nd |>.mp (by rw [e1, e2, e]))
noncomputable def Up (lt : Nat → Nat → Bool) (p : Array Nat) (m : Nat) : Prop := ∀ i, i + 1 < m → lt (gp p i) (gp p (i + 1)) = true
noncomputable def Dn (lt : Nat → Nat → Bool) (p : Array Nat) (m : Nat) : Prop := ∀ i, i + 1 < m → lt (gp p (i + 1)) (gp p i) = true
theorem Up.all (O : Ord lt N) {m} (h : Up lt p m) : ∀ {j i}, i < j → j < m → lt (gp p i) (gp p j) = true
  | 0, _, a, _ => absurd a (Nat.not_lt_zero _)
  | j + 1, i, a, b => (Nat.eq_or_lt_of_le (Nat.le_of_lt_succ a)).elim (fun e => e ▸ h _ (e ▸ b)) fun c => O.tr _ _ _ (Up.all O h c (Nat.lt_of_succ_lt b)) (h j b)
theorem Up.succ {m} (h : Up lt p m) (k : lt (gp p (m - 1)) (gp p m) = true) : Up lt p (m + 1) := fun i hi => by
  rcases Nat.lt_or_ge (i + 1) m with c | c
  · exact h i c
  · obtain rfl : m = i + 1 := Nat.le_antisymm c (Nat.le_of_lt_succ hi)
    exact k
theorem Dn.succ {m} (h : Dn lt p m) (k : lt (gp p m) (gp p (m - 1)) = true) : Dn lt p (m + 1) := Up.succ (lt := fun a b => lt b a) h k
theorem sp_asc (O : Ord lt N) (hp : Pm N p) : ∀ {f n}, 1 ≤ n → n + f ≤ N → Up lt p n → Sp lt N (kas_asc p f n) (fun m => n ≤ m ∧ m ≤ n + f ∧ Up lt p m ∧ (m = n + f ∨ lt (gp p m) (gp p (m - 1)) = true))
  | 0, n, _, _, u => ⟨Nat.le_refl _, Nat.le_refl _, u, .inl rfl⟩
  | f + 1, n, h1, h2, u =>
    have e := Nat.succ_add_eq_add_succ n f
    have a1 : n < N := Nat.lt_of_lt_of_le (Nat.lt_add_of_pos_right (Nat.succ_pos f)) h2
    have a2 : n - 1 < N := Nat.lt_of_le_of_lt (Nat.sub_le _ _) a1
    Sp.ask (hp.lo a1) (hp.lo a2) (fun c => ⟨Nat.le_refl _, Nat.le_add_right _ _, u, .inr c⟩) fun c =>
      (sp_asc O hp (n := n + 1) (Nat.le_add_left _ _) (Nat.le_trans (Nat.le_of_eq e) h2) (u.succ (O.tot _ _ (hp.lo a1) (hp.lo a2) (hp.ne a1 a2 (Nat.ne_of_gt (Nat.sub_lt h1 Nat.one_pos))) c))).mono fun m ⟨a, b, c, z⟩ => ⟨Nat.le_of_succ_le a, Nat.le_trans b (Nat.le_of_eq e), c, z.imp (·.trans e) id⟩
theorem sp_desc (O : Ord lt N) (hp : Pm N p) : ∀ {f n}, 1 ≤ n → n + f ≤ N → Dn lt p n → Sp lt N (kas_desc f p n 0) (fun r => r.1 = p ∧ r.2.2 = 0 ∧ n ≤ r.2.1 ∧ r.2.1 ≤ n + f ∧ Dn lt p r.2.1)
  | 0, n, _, _, u => ⟨rfl, rfl, Nat.le_refl _, Nat.le_refl _, u⟩
  | f + 1, n, h1, h2, u =>
    have e := Nat.succ_add_eq_add_succ n f
    have a1 : n < N := Nat.lt_of_lt_of_le (Nat.lt_add_of_pos_right (Nat.succ_pos f)) h2
    have a2 : n - 1 < N := Nat.lt_of_le_of_lt (Nat.sub_le _ _) a1
    Sp.ask (hp.lo a1) (hp.lo a2) (fun c => Sp.if (fun z => absurd z (Nat.lt_irrefl 0)) fun _ =>
      (sp_desc O hp (n := n + 1) (Nat.le_add_left _ _) (Nat.le_trans (Nat.le_of_eq e) h2) (u.succ c)).mono fun r ⟨a, b, c, z, k⟩ => ⟨a, b, Nat.le_of_succ_le c, Nat.le_trans z (Nat.le_of_eq e), k⟩) fun c =>
      Sp.ask (hp.lo a2) (hp.lo a1) (fun _ => ⟨rfl, rfl, Nat.le_refl _, Nat.le_add_right _ _, u⟩) fun z => nomatch (O.tot _ _ (hp.lo a1) (hp.lo a2) (hp.ne a1 a2 (Nat.ne_of_gt (Nat.sub_lt h1 Nat.one_pos))) c).symm.trans z
theorem rev_pm (hp : Pm N p) {i j} : Pm N (kas_rev p i j) := Array.Perm.trans (mirror_perm _ _ _ _) hp
theorem rev_gp {j k} (hj : j ≤ p.size) (h : k < j) : gp (kas_rev p 0 j) k = gp p (j - 1 - k) :=
  gp_congr ((getElem?_mirror_all (xs := p) (i := 0) (j := j) hj k).trans (by rw [if_pos ⟨Nat.zero_le _, h⟩, Nat.zero_add]))
theorem sp_descPart (O : Ord lt N) (hp : Pm N p) (h2 : 2 ≤ N) (d2 : Dn lt p 2) : Sp lt N (kas_descPart 1 N p) (fun r => 1 ≤ r.1 ∧ r.1 ≤ N ∧ Pm N r.2 ∧ Up lt r.2 r.1) := by
  refine Sp.bind ((sp_desc O hp (f := N - 2) (n := 2) (by decide) (Nat.le_of_eq (Nat.add_sub_cancel' h2)) d2).mono fun ⟨q, m, z⟩ ⟨a, b, c, e, k⟩ => ?_)
  have a : p = q := a.symm
  subst a
  cases (b : z = 0)
  have c : 1 ≤ m := Nat.le_of_succ_le c
  have e : m ≤ N := Nat.le_trans e (Nat.le_of_eq (Nat.add_sub_cancel' h2))
  have u : Up lt (kas_rev p 0 m) m := fun i hi => by
    rw [rev_gp (hp.size.symm ▸ e) (Nat.lt_of_succ_lt hi), rev_gp (hp.size.symm ▸ e) hi]
    have k := k (m - 1 - (i + 1))
    rw [show m - 1 - (i + 1) + 1 = m - 1 - i by lia] at k
    exact k (by lia)
  exact Sp.if (fun z => absurd z (Nat.lt_irrefl 0)) fun _ => Sp.bind ((sp_asc O (rev_pm hp) (f := N - m) (n := m) c (Nat.le_of_eq (Nat.add_sub_cancel' e)) u).mono fun j ⟨a, b, w, _⟩ => ⟨Nat.le_trans c a, Nat.le_trans b (Nat.le_of_eq (Nat.add_sub_cancel' e)), rev_pm hp, w⟩)
theorem sp_count (O : Ord lt N) (hp : Pm N p) (h2 : 2 ≤ N) : Sp lt N (kas_count N p) (fun r => 1 ≤ r.1 ∧ r.1 ≤ N ∧ Pm N r.2 ∧ Up lt r.2 r.1) := by
  have e1 : 1 + (N - 1) = N := Nat.add_sub_cancel' (Nat.le_of_succ_le h2)
  refine Sp.bind ((sp_asc O hp (f := N - 1) (n := 1) (Nat.le_refl _) (Nat.le_of_eq e1) fun i hi => absurd (Nat.lt_of_succ_lt_succ hi) (Nat.not_lt_zero _)).mono fun n ⟨a, b, u, e⟩ => ?_)
  have b : n ≤ N := Nat.le_trans b (Nat.le_of_eq e1)
  refine Sp.if (fun _ => ⟨a, b, hp, u⟩) fun z => ?_
  have e := e.resolve_left fun q => z (beq_iff_eq.mpr (q.trans e1))
  have n1 := Nat.sub_lt a Nat.one_pos
  refine Sp.if (fun z => Sp.ask (hp.lo (Nat.lt_of_lt_of_le Nat.zero_lt_two h2)) (hp.lo (Nat.lt_of_lt_of_le n1 b)) (fun _ => ⟨a, b, hp, u⟩) fun c => nomatch (u.all O (i := 0) (j := n - 1) (Nat.sub_pos_of_lt z) n1).symm.trans c) fun z => ?_
  obtain rfl : n = 1 := Nat.le_antisymm (Nat.not_lt.mp z) a
  exact sp_descPart O hp h2 fun i hi => match i, hi with
    | 0, _ => e
    | i + 1, hi => absurd hi (Nat.not_lt.mpr (Nat.le_add_left 2 i))
theorem sp_place (O : Ord lt N) (hp : Pm N p) {k} (hk : k < N) (u : Up lt p k) : ∀ {f l r}, r - l ≤ f → l ≤ r → r ≤ k → (∀ i, i < l → lt (gp p i) (gp p k) = true) → (∀ i, r ≤ i → i < k → lt (gp p k) (gp p i) = true) →
    Sp lt N (kas_place p k f l r) (fun m => m ≤ k ∧ (∀ i, i < m → lt (gp p i) (gp p k) = true) ∧ ∀ i, m ≤ i → i < k → lt (gp p k) (gp p i) = true)
  | 0, l, r, h1, h2, h3, h4, h5 => ⟨Nat.le_trans h2 h3, h4, fun i a b => h5 i (Nat.le_trans (Nat.sub_eq_zero_iff_le.mp (Nat.le_zero.mp h1)) a) b⟩
  | f + 1, l, r, h1, h2, h3, h4, h5 =>
    Sp.if (fun z => ⟨Nat.le_trans h2 h3, h4, fun i a b => h5 i (Nat.le_trans z a) b⟩) fun z => by
    have z := Nat.not_le.mp z
    have m1 : l ≤ (l + r) / 2 ∧ (l + r) / 2 < r ∧ (l + r) / 2 - l ≤ f ∧ r - ((l + r) / 2 + 1) ≤ f := by clear h4 h5; lia
    obtain ⟨m1, m2, m3, m4⟩ := m1
    have mk := Nat.lt_of_lt_of_le m2 h3
    have mN := Nat.lt_trans mk hk
    exact Sp.ask (hp.lo hk) (hp.lo mN) (fun c => sp_place O hp hk u m3 m1 (Nat.le_of_lt mk) h4 fun i a b => (Nat.eq_or_lt_of_le a).elim (fun e => e ▸ c) fun q => O.tr _ _ _ c (u.all O q b)) fun c =>
      have t := O.tot _ _ (hp.lo hk) (hp.lo mN) (hp.ne hk mN (Nat.ne_of_gt mk)) c
      sp_place O hp hk u m4 m2 h3 (fun i a => (Nat.eq_or_lt_of_le (Nat.le_of_lt_succ a)).elim (fun e => e ▸ t) fun q => O.tr _ _ _ (u.all O q mk) t) h5
section
variable {k l : Nat} (hk : k < p.size) (a : l ≤ k)
include hk a
theorem bub_gp (i : Nat) : (bubble p k (k - l))[i]? = if i = l then p[k]? else if l < i ∧ i ≤ k then p[i - 1]? else p[i]? := by
  have e := getElem?_bubble hk (k - l) (Nat.sub_le ..) i
  rwa [Nat.sub_sub_self a] at e
theorem bub_lo {i} (h : i < l) : gp (bubble p k (k - l)) i = gp p i := gp_congr ((bub_gp hk a i).trans ((if_neg (Nat.ne_of_lt h)).trans (if_neg fun z => absurd z.1 (Nat.lt_asymm h))))
theorem bub_at : gp (bubble p k (k - l)) l = gp p k := gp_congr ((bub_gp hk a l).trans (if_pos rfl))
theorem bub_hi {i} (h : l ≤ i) (h2 : i < k) : gp (bubble p k (k - l)) (i + 1) = gp p i := gp_congr ((bub_gp hk a _).trans ((if_neg (Nat.ne_of_gt (Nat.lt_succ_of_le h))).trans (if_pos ⟨Nat.lt_succ_of_le h, h2⟩)))
end
theorem sp_bin (O : Ord lt N) : ∀ {f p k}, Pm N p → k + f = N → Up lt p k → Sp lt N (kas_bin f p k) (fun q => Pm N q ∧ Up lt q N)
  | 0, p, k, hp, h, u => ⟨hp, (show k = N from h) ▸ u⟩
  | f + 1, p, k, hp, h, u => by
    have hk : k < N := h ▸ Nat.lt_add_of_pos_right (Nat.succ_pos f)
    have hz : k < p.size := hp.size.symm ▸ hk
    refine Sp.bind ((sp_place O hp hk u (f := k) (l := 0) (r := k) (Nat.le_refl _) (Nat.zero_le _) (Nat.le_refl _) (fun i a => absurd a (Nat.not_lt_zero _)) fun i a b => absurd b (Nat.not_lt.mpr a)).mono fun l ⟨a, b, c⟩ => ?_)
    refine sp_bin O (Array.Perm.trans (bubble_perm _ _ _) hp) ((Nat.succ_add_eq_add_succ k f).trans h) fun i hi => ?_
    have hi := Nat.lt_of_succ_lt_succ hi
    rcases Nat.lt_trichotomy i l with q | rfl | q
    · rw [bub_lo hz a q]
      rcases Nat.eq_or_lt_of_le q with e | e
      · rw [show i + 1 = l from e, bub_at hz a]; exact b i q
      · rw [bub_lo hz a e]; exact u i (Nat.lt_of_lt_of_le e a)
    · rw [bub_at hz a, bub_hi hz a (Nat.le_refl _) hi]
      exact c _ (Nat.le_refl _) hi
    · cases i with
      | zero => exact absurd q (Nat.not_lt_zero _)
      | succ j =>
        rw [bub_hi hz a (Nat.le_of_lt_succ q) (Nat.lt_of_succ_lt hi), bub_hi hz a (Nat.le_of_lt q) hi]
        exact u j hi
theorem sp_sort (O : Ord lt N) (h2 : 2 ≤ N) : Sp lt N (kas_sort N) (fun q => Pm N q ∧ Up lt q N) :=
  Sp.bind ((sp_count O (Array.Perm.refl _) h2).mono fun r ⟨a, b, c, e⟩ => Sp.if (fun z => by rw [Nat.max_eq_left a]; exact sp_bin O c (Nat.add_sub_cancel' b) e) fun z => ⟨c, Nat.le_antisymm b (Nat.not_lt.mp z) ▸ e⟩)
end
end Mn
set_option genInjectivity false
namespace Mn
/-! the sort of tags in the model -/
section
variable {prog : Program} {w : World} {A : Around} {E : Value → Shared → Prop} {s : Shared}
theorem slot_bytes_lt : PySem.Slot "bytes" (cmpInfo .Lt).2.1 "bytes.__lt__" :=
  .of (owner := "bytes") (n := "__lt__") (by rw [typeLookup_type, builtinLookup_eq_fast]; kernel_rfl) (by decide +kernel) (by decide +kernel) (by decide +kernel)
    (by first | exact .inl (by decide +kernel) | exact .inr (by decide +kernel)) (by rw [isSubtype_type]; kernel_rfl)
theorem entry_bytes_lt : entryFor table "bytes.__lt__" = some Builtin.«bytes.__lt__» := entryFor_of_tree (by kernel_rfl)
theorem args_bytes_lt_2 (a b : Value) : argsOk "bytes.__lt__" ⟨[a, b], []⟩ := by
  unfold argsOk; rw [signature?_of (id := "bytes.__lt__") (n := ['_', '_', 't', 'l', '_', '_']) (o := ['s', 'e', 't', 'y', 'b']) (by kernel_rfl) FB.owner_bytes]; kernel_rfl
noncomputable def blt (b c : List UInt8) : Bool := PySem.Builtin.Bytes.order b c == .lt
theorem gives_bytes_lt (b c : Array UInt8) (t u : Tok) : Gives (Builtin.«bytes.__lt__» ⟨[.bytes b t, .bytes c u], []⟩) (.val (.bool (blt b.toList c.toList))) := by
  refine .of_wp fun M A E s Q hq => ?_
  show wpAny M A (isInstance (.bytes c u) (.type "bytes") >>= fun r => _) _ E s
  refine wpAny_bind (wpAny_isInstance (typeIs_bytes s c u) F.sub_bytes_bytes ?_)
  exact wpAny_pure ⟨_, rfl, hq⟩
theorem lt_bytes {b c : Array UInt8} {t u : Tok} {Q : Value → Shared → Prop} (h : Q (.bool (blt b.toList c.toList)) s) : wpAny (model prog w) A (compareOp .Lt (.bytes b t) (.bytes c u)) Q E s :=
  compareOp_gives (op := .Lt) (typeIs_bytes s b t) (typeIs_bytes s c u) slot_bytes_lt entry_bytes_lt (args_bytes_lt_2 _ _) (gives_bytes_lt b c t u) (fun e => nomatch e) h

theorem my_list_sort {a : Addr} {κ : SortKind} {R : Array Nat → Prop} {vs : List Value} {n : Nat} {P : PySem.Fin → Shared → Prop} (ho : s.heap.get? a = some (seqObj "list" vs.toArray n)) (h2 : 2 ≤ vs.length) (h64 : vs.length < 64)
    (hk : ∀ h', (∀ b o, b ≠ a → s.heap.get? b = some o → h'.get? b = some o) → ∀ Q : SortKind → Shared → Prop, Q κ { s with heap := h' } → wpAny (model prog w) A (keyKind' vs.toArray) Q (fun _ _ => False) { s with heap := h' })
    (hs : ∀ h', (∀ b o, b ≠ a → s.heap.get? b = some o → h'.get? b = some o) → ∀ G : Array Nat → Shared → Prop, (∀ q, R q → G q { s with heap := h' }) → (kas_sort vs.length).kasWp (kas_ask prog w A κ vs) G { s with heap := h' })
    (h : ∀ h' c q, (∀ b o, b ≠ a → s.heap.get? b = some o → h'.get? b = some o) → R q → h'.get? a = some (seqObj "list" (List.toArray (q.toList.map fun i => vs.getD i Value.none)) c) → P (.done (.ret .none)) { s with heap := h' }) :
    wpAny (model prog w) A (Builtin.«list.sort» ⟨[.ref a], []⟩) P E s := by
  have ha : a < s.heap.objs.size := Heap.lt_size ho
  have s1 := Heap.SameBut.update s.heap a (Obj.mapSeq fun _ => (#[] : Array Value))
  obtain ⟨e1, ho1⟩ : ∃ e1, (s.heap.update a (Obj.mapSeq fun _ => (#[] : Array Value))).get? a = some (seqObj "list" #[] e1) := ⟨_, get?_update_seq ho fun _ => #[]⟩
  have k3 : ∀ b o, b ≠ a → s.heap.get? b = some o → (((s.heap.update a (Obj.mapSeq fun _ => (#[] : Array Value))).push (seqObj "tuple" vs.toArray 0)).push (seqObj "list" #[] 0)).get? b = some o := fun b o ne e =>
    Heap.get?_push_of_some _ (Heap.get?_push_of_some _ ((s1.2 b ne).trans e))
  have ho3 : (((s.heap.update a (Obj.mapSeq fun _ => (#[] : Array Value))).push (seqObj "tuple" vs.toArray 0)).push (seqObj "list" #[] 0)).get? a = some (seqObj "list" #[] e1) := Heap.get?_push_of_some _ (Heap.get?_push_of_some _ ho1)
  rw [list_sort_plain]
  refine wpAny_bind (listItems_at ho rfl ?_)
  refine wpAny_bind (listUpdate_at ho rfl ?_ (by rw [List.size_toArray, sizeLine_eq]; lia) (Nat.zero_le _))
  refine wpAny_bind (seqEpoch_at ho1 rfl ?_)
  refine wpAny_bind (wpAny_newTuple ?_ (by show vs.length ≤ _; rw [sizeLine_eq]; lia))
  refine wpAny_bind (wpAny_newList ?_ (Nat.zero_le _))
  refine wpAny_holding ?_
  show wpAny (model prog w) A _ P E { s with heap := ((s.heap.update a (Obj.mapSeq fun _ => (#[] : Array Value))).push (seqObj "tuple" vs.toArray 0)).push (seqObj "list" #[] 0) }
  dsimp only
  have hn2 : ¬ vs.toArray.size < 2 := by rw [List.size_toArray]; lia
  rw [if_neg hn2, if_neg hn2]
  revert k3 ho3
  generalize ((s.heap.update a (Obj.mapSeq fun _ => (#[] : Array Value))).push (seqObj "tuple" vs.toArray 0)).push (seqObj "list" #[] 0) = h3
  intro k3 ho3
  refine wpAny_bind (wpAny_mono (hk h3 k3 (fun κ' s' => κ' = κ ∧ s' = { s with heap := h3 }) ⟨rfl, rfl⟩) (fun κ' s0 hkk => ?_) fun _ _ x => x.elim)
  obtain ⟨rfl, rfl⟩ := hkk
  refine wpAny_bind (wpAny_mono (kat_run (Q := fun st' s' => ∃ p : Array Nat, p.size = vs.length ∧ arrOf st' = p.map (kas_item (vs.toArray.zip vs.toArray)) ∧ failedOf st' = none ∧ R p ∧ s' = { s with heap := h3 }) (G := fun p s' => R p ∧ s' = { s with heap := h3 })
    rfl h2 h64 (fun p' st' s' a1 a2 a3 a4 => ⟨p', a1, a2, a3, a4⟩) (hs h3 k3 _ fun q hq => ⟨hq, rfl⟩)) ?_ fun _ _ e => e)
  rintro ⟨⟨⟩, st'⟩ s' ⟨p, hp, har, hf, hR, rfl⟩
  dsimp only
  have hout := kat_snds rfl har
  have hsz : (List.toArray (p.toList.map fun i => vs.getD i Value.none)).size = vs.length := by rw [List.size_toArray, List.length_map, Array.length_toList, hp]
  rw [hout]
  have s2 := Heap.SameBut.update h3 a (Obj.mapSeq fun _ => List.toArray (p.toList.map fun i => vs.getD i Value.none))
  obtain ⟨c2, hc2⟩ : ∃ c2, (h3.update a (Obj.mapSeq fun _ => List.toArray (p.toList.map fun i => vs.getD i Value.none))).get? a = some (seqObj "list" (List.toArray (p.toList.map fun i => vs.getD i Value.none)) c2) := ⟨_, get?_update_seq ho3 fun _ => List.toArray (p.toList.map fun i => vs.getD i Value.none)⟩
  refine wpAny_bind (seqEpoch_at ho3 rfl ?_)
  refine wpAny_bind (listUpdate_at ho3 rfl ?_ (Nat.zero_le _) (Nat.le_trans (Nat.le_of_eq hsz) (by rw [sizeLine_eq]; lia)))
  rw [hf]
  simp only [bne_self_eq_false, Bool.false_eq_true, if_false]
  exact wpAny_pure (h _ c2 p (fun b o ne e => (s2.2 b ne).trans (k3 b o ne e)) hR hc2)

theorem my_list_sort0 {a : Addr} {vs : List Value} {n : Nat} {P : PySem.Fin → Shared → Prop} (ho : s.heap.get? a = some (seqObj "list" vs.toArray n)) (h2 : vs.length < 2)
    (h : ∀ h' c, (∀ b o, b ≠ a → s.heap.get? b = some o → h'.get? b = some o) → h'.get? a = some (seqObj "list" (List.toArray vs) c) → P (.done (.ret .none)) { s with heap := h' }) :
    wpAny (model prog w) A (Builtin.«list.sort» ⟨[.ref a], []⟩) P E s := by
  have s1 := Heap.SameBut.update s.heap a (Obj.mapSeq fun _ => (#[] : Array Value))
  obtain ⟨e1, ho1⟩ : ∃ e1, (s.heap.update a (Obj.mapSeq fun _ => (#[] : Array Value))).get? a = some (seqObj "list" #[] e1) := ⟨_, get?_update_seq ho fun _ => #[]⟩
  have k3 : ∀ b o, b ≠ a → s.heap.get? b = some o → (((s.heap.update a (Obj.mapSeq fun _ => (#[] : Array Value))).push (seqObj "tuple" vs.toArray 0)).push (seqObj "list" #[] 0)).get? b = some o := fun b o ne e =>
    Heap.get?_push_of_some _ (Heap.get?_push_of_some _ ((s1.2 b ne).trans e))
  have ho3 : (((s.heap.update a (Obj.mapSeq fun _ => (#[] : Array Value))).push (seqObj "tuple" vs.toArray 0)).push (seqObj "list" #[] 0)).get? a = some (seqObj "list" #[] e1) := Heap.get?_push_of_some _ (Heap.get?_push_of_some _ ho1)
  rw [list_sort_plain]
  refine wpAny_bind (listItems_at ho rfl ?_)
  refine wpAny_bind (listUpdate_at ho rfl ?_ (by rw [List.size_toArray, sizeLine_eq]; lia) (Nat.zero_le _))
  refine wpAny_bind (seqEpoch_at ho1 rfl ?_)
  refine wpAny_bind (wpAny_newTuple ?_ (by show vs.length ≤ _; rw [sizeLine_eq]; lia))
  refine wpAny_bind (wpAny_newList ?_ (Nat.zero_le _))
  refine wpAny_holding ?_
  show wpAny (model prog w) A _ P E { s with heap := ((s.heap.update a (Obj.mapSeq fun _ => (#[] : Array Value))).push (seqObj "tuple" vs.toArray 0)).push (seqObj "list" #[] 0) }
  dsimp only
  have hn2 : vs.toArray.size < 2 := by rw [List.size_toArray]; lia
  rw [if_pos hn2, if_pos hn2]
  revert k3 ho3
  generalize ((s.heap.update a (Obj.mapSeq fun _ => (#[] : Array Value))).push (seqObj "tuple" vs.toArray 0)).push (seqObj "list" #[] 0) = h3
  intro k3 ho3
  refine wpAny_bind (wpAny_pure ?_)
  rw [StateT.run_pure]
  refine wpAny_bind (wpAny_pure ?_)
  dsimp only
  have hout : (arrOf (SortSt.mk' general' (vs.toArray.zip vs.toArray) #[] 7 none)).map (·.2) = List.toArray vs := by
    apply Array.toList_inj.mp
    show (Array.map (·.2) (vs.toArray.zip vs.toArray)).toList = _
    simp
    rw [List.map_snd_zip (Nat.le_refl _)]
  rw [hout]
  have s2 := Heap.SameBut.update h3 a (Obj.mapSeq fun _ => List.toArray vs)
  obtain ⟨c2, hc2⟩ : ∃ c2, (h3.update a (Obj.mapSeq fun _ => List.toArray vs)).get? a = some (seqObj "list" (List.toArray vs) c2) := ⟨_, get?_update_seq ho3 fun _ => List.toArray vs⟩
  refine wpAny_bind (seqEpoch_at ho3 rfl ?_)
  refine wpAny_bind (listUpdate_at ho3 rfl ?_ (Nat.zero_le _) (by rw [List.size_toArray, sizeLine_eq]; lia))
  simp only [bne_self_eq_false, Bool.false_eq_true, if_false]
  exact wpAny_pure (h _ c2 (fun b o ne e => (s2.2 b ne).trans (k3 b o ne e)) hc2)

theorem my_sorted {l : Addr} {R : List Value → Prop} {vs : List Value} {Q : Value → Shared → Prop} (hl : s.heap.IsList l vs.toArray) (h64 : vs.length < 64)
    (hS : ∀ (h1 : Heap) a n (P : PySem.Fin → Shared → Prop) E, (∀ b o, s.heap.get? b = some o → h1.get? b = some o) → s.heap.objs.size ≤ a → h1.get? a = some (seqObj "list" vs.toArray n) →
      (∀ (h' : Heap) c out, (∀ b o, b ≠ a → h1.get? b = some o → h'.get? b = some o) → R out → h'.get? a = some (seqObj "list" (List.toArray out) c) → P (.done (.ret .none)) { s with heap := h' }) → wpAny (model prog w) A.in1.in1 (Builtin.«list.sort» ⟨[.ref a], []⟩) P E { s with heap := h1 })
    (h : ∀ h' D c out, (∀ b o, s.heap.get? b = some o → h'.get? b = some o) → R out → s.heap.objs.size ≤ D → h'.get? D = some (seqObj "list" (List.toArray out) c) → Q (.ref D) { s with heap := h' }) :
    wpAny (model prog w) A (call (.builtin "sorted") [.ref l]) Q E s := by
  refine Calls.call_function_entry kind_sorted plain_sorted entry_sorted (args_sorted1 _) ?_
  unfold Builtin.«sorted»
  refine wpAny_bind (m := checkCount "sorted" 1 1 _) (wpAny_pure ?_)
  refine wpAny_bind (collect_list hl ?_ (by rw [sizeLine_eq]; lia))
  refine wpAny_bind (wpAny_newList ?_ (by rw [sizeLine_eq]; lia))
  have hsz : ((s.heap.push (seqObj "list" #[] 0)).update s.heap.objs.size (Obj.mapSeq (· ++ vs.toArray))).objs.size = s.heap.objs.size + 1 := by
    rw [Heap.size_update, size_push']
  have hoL : (((s.heap.push (seqObj "list" #[] 0)).update s.heap.objs.size (Obj.mapSeq (· ++ vs.toArray))).push (seqObj "list" vs.toArray 0)).get? (s.heap.objs.size + 1) = some (seqObj "list" vs.toArray 0) := by
    rw [← hsz]; exact Heap.get?_push_size _ rfl
  have keep : ∀ b o, s.heap.get? b = some o → (((s.heap.push (seqObj "list" #[] 0)).update s.heap.objs.size (Obj.mapSeq (· ++ vs.toArray))).push (seqObj "list" vs.toArray 0)).get? b = some o := fun b o q => by
    have hlt : b < s.heap.objs.size := Heap.lt_size q
    rw [Heap.get?_push_ne _ _ _ (by rw [hsz]; exact Nat.ne_of_lt (Nat.lt_succ_of_lt hlt)), Heap.get?_update_ne _ _ _ _ (Nat.ne_of_lt hlt), Heap.get?_push_ne _ _ _ (Nat.ne_of_lt hlt)]
    exact q
  have all : ∀ h' : Heap, (∀ b o, b ≠ s.heap.objs.size + 1 → (((s.heap.push (seqObj "list" #[] 0)).update s.heap.objs.size (Obj.mapSeq (· ++ vs.toArray))).push (seqObj "list" vs.toArray 0)).get? b = some o → h'.get? b = some o) → ∀ b o, s.heap.get? b = some o → h'.get? b = some o := fun h' k b o e =>
    k b o (Nat.ne_of_lt (Nat.lt_succ_of_lt (Heap.lt_size e))) (keep b o e)
  show wpAny _ _ _ _ _ { s with heap := ((s.heap.push (seqObj "list" #[] 0)).update s.heap.objs.size (Obj.mapSeq (· ++ vs.toArray))).push (seqObj "list" vs.toArray 0) }
  rw [hsz]
  refine wpAny_bind (wpAny_holding (wpAny_call_entry slot_list_sort ⟨_, hoL, rfl⟩ entry_list_sort ?body (args_list_sort _)))
  case body =>
    refine hS _ _ 0 _ _ keep (Nat.le_succ _) hoL fun h' c out k hR e => ?_
    exact ⟨_, rfl, wpAny_pure ⟨_, rfl, h h' _ c out (all h' k) hR (Nat.le_succ _) e⟩⟩
end

/-- a tag of two parts -/
inductive SK where
  | i (k x : Int)
  | b (x : List UInt8)
noncomputable def SK.v : SK → V
  | .i k x => .tup [.int k, .int x]
  | .b x => .tup [.int 2, .bytes x.toArray]
noncomputable def SK.ok : SK → Prop
  | .i k _ => k ≠ 2
  | .b _ => True
noncomputable def SK.k : SK → Int
  | .i k _ => k
  | .b _ => 2
noncomputable def SK.cmp : SK → SK → Bool
  | .i _ x, .i _ y => decide (x < y)
  | .b x, .b y => blt x y
  | _, _ => false
noncomputable def SK.lt (x y : SK) : Bool := decide (x.k < y.k) || (decide (x.k = y.k) && x.cmp y)
theorem SK.lt_iff {x y : SK} : x.lt y = true ↔ x.k < y.k ∨ (x.k = y.k ∧ x.cmp y = true) := by
  unfold SK.lt; simp
theorem SK.lt_eq {x y : SK} (h : x.k = y.k) : x.lt y = x.cmp y := Bool.eq_iff_iff.mpr (SK.lt_iff.trans ⟨fun q => q.elim (fun q => absurd (h ▸ q) (Int.lt_irrefl _)) (·.2), fun q => .inr ⟨h, q⟩⟩)
theorem SK.lt_ne {x y : SK} (h : x.k ≠ y.k) : x.lt y = decide (x.k < y.k) := Bool.eq_iff_iff.mpr (SK.lt_iff.trans ⟨fun q => decide_eq_true (q.elim id fun q => absurd q.1 h), fun q => .inl (of_decide_eq_true q)⟩)
theorem blt_irr : ∀ a, blt a a = false
  | [] => rfl
  | x :: a => by
    have := blt_irr a
    unfold blt at *
    unfold PySem.Builtin.Bytes.order
    rw [if_neg (UInt8.lt_irrefl x), if_neg (UInt8.lt_irrefl x)]; exact this
theorem blt_cons {x y : UInt8} {a b} : blt (x :: a) (y :: b) = true ↔ x < y ∨ (x = y ∧ blt a b = true) := by
  unfold blt
  rw [show PySem.Builtin.Bytes.order (x :: a) (y :: b) = if x < y then .lt else if x > y then .gt else PySem.Builtin.Bytes.order a b from rfl]
  by_cases h1 : x < y
  · simp [h1]
  · by_cases h2 : x > y
    · have : x ≠ y := fun e => by subst e; exact absurd h2 (UInt8.lt_irrefl _)
      simp [h1, h2, this]
    · have : x = y := UInt8.le_antisymm (UInt8.not_lt.mp h2) (UInt8.not_lt.mp h1)
      subst this
      simp [h1]
theorem blt_tr : ∀ a b c, blt a b = true → blt b c = true → blt a c = true
  | [], [], _, h, _ => by simp [blt, PySem.Builtin.Bytes.order] at h
  | _ :: _, [], _, h, _ => by simp [blt, PySem.Builtin.Bytes.order] at h
  | [], _ :: _, [], _, h => by simp [blt, PySem.Builtin.Bytes.order] at h
  | [], _ :: _, _ :: _, _, _ => rfl
  | _ :: _, _ :: _, [], _, h => by simp [blt, PySem.Builtin.Bytes.order] at h
  | x :: a, y :: b, z :: c, h1, h2 => by
    rw [blt_cons] at *
    rcases h1 with h1 | ⟨rfl, h1⟩
    · rcases h2 with h2 | ⟨rfl, h2⟩
      · exact .inl (UInt8.lt_trans h1 h2)
      · exact .inl h1
    · rcases h2 with h2 | ⟨rfl, h2⟩
      · exact .inl h2
      · exact .inr ⟨rfl, blt_tr a b c h1 h2⟩
theorem blt_tot : ∀ a b, a ≠ b → blt a b = false → blt b a = true
  | [], [], h, _ => absurd rfl h
  | [], _ :: _, _, h => by simp [blt, PySem.Builtin.Bytes.order] at h
  | _ :: _, [], _, _ => rfl
  | x :: a, y :: b, hn, h => by
    have h : ¬ blt (x :: a) (y :: b) = true := by rw [h]; decide
    rw [blt_cons] at *
    by_cases h1 : x < y
    · exact absurd (.inl h1) h
    · by_cases e : x = y
      · subst e
        refine .inr ⟨rfl, blt_tot a b (fun z => hn (by rw [z])) ?_⟩
        cases q : blt a b with
        | false => rfl
        | true => exact absurd (.inr ⟨rfl, q⟩) h
      · exact .inl (UInt8.lt_of_le_of_ne (UInt8.not_lt.mp h1) (Ne.symm e))
theorem SK.irr (x : SK) : x.lt x = false := by
  cases h : x.lt x with
  | false => rfl
  | true =>
    rcases SK.lt_iff.mp h with h | ⟨_, h⟩
    · lia
    · cases x with
      | i k x => exact absurd (of_decide_eq_true h) (Int.lt_irrefl x)
      | b x => rw [show SK.cmp (.b x) (.b x) = blt x x from rfl, blt_irr] at h; cases h
theorem SK.tr {x y z : SK} (h1 : x.lt y = true) (h2 : y.lt z = true) : x.lt z = true := by
  rw [SK.lt_iff] at *
  rcases h1 with h1 | ⟨h1, c1⟩
  · rcases h2 with h2 | ⟨h2, c2⟩ <;> exact .inl (by lia)
  · rcases h2 with h2 | ⟨h2, c2⟩
    · exact .inl (by lia)
    · refine .inr ⟨h1.trans h2, ?_⟩
      cases x <;> cases y <;> first | (cases c1; done) | skip
      all_goals (cases z <;> first | (cases c2; done) | skip)
      · exact decide_eq_true (Int.lt_trans (of_decide_eq_true c1) (of_decide_eq_true c2))
      · exact blt_tr _ _ _ c1 c2
theorem SK.tot {x y : SK} (hx : x.ok) (hy : y.ok) (hn : x ≠ y) (h : x.lt y = false) : y.lt x = true := by
  have h : ¬ x.lt y = true := by rw [h]; decide
  rw [SK.lt_iff] at *
  have h1 := fun z => h (.inl z)
  have h2 := fun z c => h (.inr ⟨z, c⟩)
  rcases Int.lt_trichotomy x.k y.k with q | q | q
  · exact absurd q h1
  · refine .inr ⟨q.symm, ?_⟩
    have h2 := h2 q
    cases x with
    | i k x =>
      cases y with
      | i j y =>
        have q : k = j := q
        subst q
        exact decide_eq_true (Int.lt_iff_le_and_ne.mpr ⟨Int.not_lt.mp fun z => h2 (decide_eq_true z), fun z => hn (by rw [z])⟩)
      | b y => exact absurd q hx
    | b x =>
      cases y with
      | i j y => exact absurd q.symm hy
      | b y =>
        refine blt_tot _ _ (fun z => hn (by rw [z])) ?_
        cases e : blt x y with
        | false => rfl
        | true => exact absurd e h2
  · exact .inl q
end Mn
set_option genInjectivity false
namespace Mn
theorem Looks.int {M : Model} {h : Heap} {i : Int} {t : Tok} : Looks M h (typeOf (.int i t)) (.type "int") := Looks.of_pure rfl
section
variable {prog : Program} {w : World} {A : Around} {E : Value → Shared → Prop} {s : Shared}
noncomputable def SK.first : SK → Int
  | .i k _ => k
  | .b _ => 2
/-- a tag as it lies in the heap -/
inductive SkAt (h : Heap) : SK → Value → Prop
  | i (a : Addr) (o : Obj) (n : Nat) (i j : Int) (t u : Tok) (ho : h.get? a = some o) (hc : o.cls = .type "tuple") (hd : o.data = .seq #[.int i t, .int j u] n) : SkAt h (.i i j) (.ref a)
  | b (a : Addr) (o : Obj) (n : Nat) (y : List UInt8) (t u : Tok) (ho : h.get? a = some o) (hc : o.cls = .type "tuple") (hd : o.data = .seq #[.int 2 t, .bytes y.toArray u] n) : SkAt h (.b y) (.ref a)
theorem skv_inv {h : Heap} {k : SK} {r : Value} (x : VRel h k.v r) : SkAt h k r := by
  cases k with
  | i i j =>
    obtain ⟨a, ⟨vs⟩, ⟨o, ho, hc, n, hd⟩, hl⟩ := VRel.tup_inv x
    obtain ⟨t, u, e⟩ := VsRel.int2 hl
    cases e
    exact .i a o n i j t u ho hc hd
  | b y =>
    obtain ⟨a, ⟨vs⟩, ⟨o, ho, hc, n, hd⟩, hl⟩ := VRel.tup_inv x
    obtain ⟨r, q, e, h1, h2⟩ := VsRel.two hl
    obtain ⟨t, rfl⟩ := h1.int_inv
    obtain ⟨u, rfl⟩ := h2.bytes_inv
    cases e
    exact .b a o n y t u ho hc hd
theorem sk_tups : ∀ {ks : List SK} {vs : List Value}, VsRel s.heap (ks.map SK.v) vs → ∃ fs, A3 (KatTups s.heap vs fs) (fs.length = ks.length) (∀ v ∈ fs, X2 fun i t => v = .int i t)
  | [], vs, h => by rw [h.nil_inv]; exact ⟨[], trivial, rfl, fun _ h => nomatch h⟩
  | k :: ks, vs, h => by
    obtain ⟨r, rs, hv, hs⟩ := h.cons_inv
    obtain ⟨fs, h1, h2, h3⟩ := sk_tups hs
    have fin : ∀ i t, ∀ v ∈ Value.int i t :: fs, X2 fun i t => v = Value.int i t := fun i t v hv => (List.mem_cons.mp hv).elim (fun e => ⟨i, t, e⟩) (h3 v)
    cases skv_inv hv with
    | i a o n i j t u ho hc hd => exact ⟨.int i t :: fs, KatTups.cons ho hc hd rfl h1, congrArg (· + 1) h2, fin i t⟩
    | b a o n y t u ho hc hd => exact ⟨.int 2 t :: fs, KatTups.cons ho hc hd rfl h1, congrArg (· + 1) h2, fin 2 t⟩
theorem sk_lt {x y : SK} (hx : x.ok) (hy : y.ok) {r q : Value} (h1 : VRel s.heap x.v r) (h2 : VRel s.heap y.v q) {C : Bool → Shared → Prop} (hq : C (x.lt y) s) : wpAny (model prog w) A (keyLt' (tuples' true) r q) C E s := by
  cases skv_inv h1 with
  | i a o n i j t u ho hc hd =>
   cases skv_inv h2 with
   | i b o' m i' j' t' u' ho' hc' hd' =>
    refine kat_lt ho hd ho' hd' ?_
    refine kat_cons (wpAny_eqBool_int ?_)
    refine kat_go (fun e => kat_yes ?_) fun e => kat_no ?_
    · have e : i = i' := eq_of_beq e
      subst e
      have L : SK.lt (.i i j) (.i i j') = decide (j < j') := SK.lt_eq rfl
      rw [L] at hq
      refine kat_cons (wpAny_eqBool_int ?_)
      refine kat_go (fun e => kat_yes (kat_nil ?_)) fun e => kat_no (kat_one _ _ (wpAny_lt_int ?_))
      · have e : j = j' := eq_of_beq e
        subst e
        rwa [decide_eq_false (Int.lt_irrefl _)] at hq
      · exact hq
    · have e : i ≠ i' := ne_of_beq_false e
      have L : SK.lt (.i i j) (.i i' j') = decide (i < i') := SK.lt_ne e
      rw [L] at hq
      exact oneLt_int hq
   | b b o' m c' t' u' ho' hc' hd' =>
    refine kat_lt ho hd ho' hd' ?_
    refine kat_cons (wpAny_eqBool_int ?_)
    have hx : i ≠ 2 := hx
    have e : (i == 2) = false := beq_false_of_ne hx
    have L : SK.lt (.i i j) (.b c') = decide (i < 2) := SK.lt_ne hx
    rw [L] at hq
    rw [e]
    exact kat_no (oneLt_int hq)
  | b a o n c t u ho hc hd =>
   cases skv_inv h2 with
   | i b o' m i' j' t' u' ho' hc' hd' =>
    refine kat_lt ho hd ho' hd' ?_
    refine kat_cons (wpAny_eqBool_int ?_)
    have hy : i' ≠ 2 := hy
    have e : ((2 : Int) == i') = false := beq_false_of_ne (Ne.symm hy)
    have L : SK.lt (.b c) (.i i' j') = decide (2 < i') := SK.lt_ne (Ne.symm hy)
    rw [L] at hq
    rw [e]
    exact kat_no (oneLt_int hq)
   | b b o' m c' t' u' ho' hc' hd' =>
    refine kat_lt ho hd ho' hd' ?_
    have L : SK.lt (.b c) (.b c') = blt c c' := SK.lt_eq rfl
    refine kat_cons (wpAny_eqBool_int ?_)
    refine kat_yes (kat_cons (eqBool_bytes ?_))
    refine kat_go (fun e => kat_yes (kat_nil ?_)) fun e => kat_no (kat_one _ _ (lt_bytes ?_))
    · have e : c = c' := of_decide_eq_true e
      subst e
      rwa [L, blt_irr] at hq
    · rw [L] at hq; exact hq
/-- the order of the places -/
noncomputable def sklt (ks : List SK) (i j : Nat) : Bool := (ks.getD i (.b [])).lt (ks.getD j (.b []))
theorem sk_ord {ks : List SK} (hok : ∀ k ∈ ks, k.ok) (hn : ks.Nodup) : Ord (sklt ks) ks.length := by
  refine ⟨fun i => SK.irr _, fun i j k => SK.tr, fun i j hi hj hne h => ?_⟩
  have ei : ks.getD i (.b []) = ks[i] := by simp [hi]
  have ej : ks.getD j (.b []) = ks[j] := by simp [hj]
  unfold sklt at h ⊢
  rw [ei, ej] at h
  rw [ei, ej]
  exact SK.tot (hok _ (List.getElem_mem hi)) (hok _ (List.getElem_mem hj)) (fun e => hne ((List.getElem_inj hn).mp e)) h
theorem pw_of_up {lt N} (O : Ord lt N) {p : Array Nat} (hp : Pm N p) (u : Up lt p N) : p.toList.Pairwise (fun i j => lt i j = true) := by
  rw [List.pairwise_iff_getElem]
  intro i j hi hj hij
  have hi' : i < p.size := by simpa using hi
  have hj' : j < p.size := by simpa using hj
  have e1 := gp_some hi'
  have e2 := gp_some hj'
  rw [Array.getElem?_eq_getElem hi'] at e1
  rw [Array.getElem?_eq_getElem hj'] at e2
  have := u.all O hij (by rw [← hp.size]; exact hj')
  simp only [Array.getElem_toList]
  rw [Option.some.inj e1, Option.some.inj e2]; exact this
theorem sk_out {ks : List SK} {p : Array Nat} (hok : ∀ k ∈ ks, k.ok) (hn : ks.Nodup) (hp : Pm ks.length p) (u : Up (sklt ks) p ks.length) : (p.toList.map fun i => ks.getD i (.b [])).Perm ks ∧ (p.toList.map fun i => ks.getD i (.b [])).Pairwise (fun x y => x.lt y = true) := by
  constructor
  · have h1 := hp.list.map fun i => ks.getD i (.b [])
    have e : (List.range ks.length).map (fun i => ks.getD i (.b [])) = ks := by
      refine List.ext_getElem (by simp) fun i h1 h2 => ?_
      simp [h2]
    rwa [e] at h1
  · rw [List.pairwise_map]
    exact pw_of_up (sk_ord hok hn) hp u
theorem vs_out {h : Heap} {ks : List SK} {vs : List Value} (R : VsRel h (ks.map SK.v) vs) : ∀ {p : List Nat}, (∀ i ∈ p, i < ks.length) → VsRel h ((p.map fun i => ks.getD i (.b [])).map SK.v) (p.map fun i => vs.getD i .none)
  | [], _ => .nil
  | i :: p, hh => by
    have hi := hh i (.head _)
    obtain ⟨v, e, r⟩ := R.get (i := i) (v := (ks[i]).v) (by simp [hi])
    refine .cons ?_ (vs_out R fun j hj => hh j (.tail _ hj))
    have e1 : ks.getD i (.b []) = ks[i] := by simp [hi]
    have e2 : vs.getD i .none = v := by simp [e]
    dsimp only
    rw [e1, e2]; exact r
end
section
variable {κ : Cx} {σ : MH}
/-- sorted(tags), the tags distinct -/
theorem PV.sorted {a} {ks : List SK} {Q : V → MH → Prop} (hσ : lst σ a (ks.map SK.v)) (hz : ks.length < 64) (hok : ∀ k ∈ ks, k.ok) (hn : ks.Nodup)
    (h : ∀ b (ks' : List SK), σ b = none → ks'.Perm ks → ks'.Pairwise (fun x y => x.lt y = true) → Q (.ref b) (upd σ b (.list (ks'.map SK.v)))) : PV κ tcall [.bi "sorted", .ref a] Q σ := fun A s δ l rs G F hv => by
    obtain ⟨rf, ra, rfl, hf, ha⟩ := hv.two
    rw [hf.bi_inv, ha.ref_inv]
    obtain ⟨vs, h1, h2, h3⟩ := F.sim.lst hσ
    have hlen : vs.toList.length = ks.length := by rw [h2.length, List.length_map]
    have kT : ∀ (h' : Heap), (∀ b o, s.heap.get? b = some o → h'.get? b = some o) → VsRel h' (ks.map SK.v) vs.toList := fun h' k => h2.mono fun b o e _ => k b o e
    refine my_sorted (R := fun out => ∃ ks' : List SK, A3 (List.Perm ks' ks) (List.Pairwise (fun x y => x.lt y = true) ks') (VsRel s.heap (List.map SK.v ks') out)) (vs := vs.toList) (by rw [Array.toArray_toList]; exact h1) (by lia) (fun h1 D n P E k1 hD hL hP => ?_) fun h' D c out k hR hD e => ?_
    · by_cases z : vs.toList.length < 2
      · refine my_list_sort0 (s := { s with heap := h1 }) hL z fun h' c k e => hP h' c _ k ⟨ks, List.Perm.refl _, ?_, h2⟩ e
        match ks, hlen with
        | [], _ => exact .nil
        | [x], _ => exact List.pairwise_singleton ..
        | _ :: _ :: _, e => simp only [List.length_cons] at e; lia
      · refine my_list_sort (s := { s with heap := h1 }) (κ := tuples' true) (R := fun p => Pm ks.length p ∧ Up (sklt ks) p ks.length) hL (by lia) (by lia) (fun h' k Q hQ => ?_) (fun h' k G hG => ?_) fun h' c q k ⟨a1, a2⟩ e => ?_
        · have kk : ∀ b o, s.heap.get? b = some o → h'.get? b = some o := fun b o e => k b o (Nat.ne_of_lt (Nat.lt_of_lt_of_le (Heap.lt_size e) hD)) (k1 b o e)
          obtain ⟨fs, f1, f2, f3⟩ := sk_tups (s := { s with heap := h' }) (kT h' kk)
          refine kat_kind (T := .type "int") f1 (by lia) (fun v hv => ?_) rfl hQ
          obtain ⟨i, t, rfl⟩ := f3 v hv
          exact Looks.int
        · have kk : ∀ b o, s.heap.get? b = some o → h'.get? b = some o := fun b o e => k b o (Nat.ne_of_lt (Nat.lt_of_lt_of_le (Heap.lt_size e) hD)) (k1 b o e)
          rw [hlen]
          refine Sp.wp (lt := sklt ks) (N := ks.length) (fun i j C hi hj hC => ?_) (fun q hq => hG q hq) (sp_sort (sk_ord hok hn) (by lia))
          unfold kas_ask
          obtain ⟨v, e1, r1⟩ := (kT h' kk).get (i := i) (v := (ks[i]).v) (by simp [hi])
          obtain ⟨u, e2, r2⟩ := (kT h' kk).get (i := j) (v := (ks[j]).v) (by simp [hj])
          rw [show vs.toList.getD i Value.none = v by rw [List.getD_eq_getElem?_getD, e1]; rfl, show vs.toList.getD j Value.none = u by rw [List.getD_eq_getElem?_getD, e2]; rfl]
          refine sk_lt (s := { s with heap := h' }) (hok _ (List.getElem_mem hi)) (hok _ (List.getElem_mem hj)) r1 r2 ?_
          have e1 : ks.getD i (.b []) = ks[i] := by simp [hi]
          have e2 : ks.getD j (.b []) = ks[j] := by simp [hj]
          unfold sklt at hC
          rw [e1, e2] at hC
          exact hC
        · obtain ⟨b1, b2⟩ := sk_out hok hn a1 a2
          exact hP h' c _ k ⟨_, b1, b2, vs_out h2 fun i hi => List.mem_range.mp (a1.list.mem_iff.mp hi)⟩ e
    · obtain ⟨ks', hp, hs, r⟩ := hR
      exact Mn.newL (vs := out.toArray) (tk := s.toks) F k r hD ⟨c, e⟩ fun b hb => ⟨rfl, h b ks' hb hp hs⟩
/-- one order only -/
theorem sk_unique : ∀ {xs ys : List SK}, xs.Perm ys → xs.Pairwise (fun x y => x.lt y = true) → ys.Pairwise (fun x y => x.lt y = true) → xs = ys
  | [], ys, p, _, _ => by rw [List.nil_perm.mp p]
  | x :: xs, [], p, _, _ => by have := p.length_eq; simp at this
  | x :: xs, y :: ys, p, h1, h2 => by
    rw [List.pairwise_cons] at h1 h2
    have e : x = y := by
      rcases List.mem_cons.mp (p.mem_iff.mp (.head _)) with e | e
      · exact e
      · rcases List.mem_cons.mp (p.mem_iff.mpr (.head _)) with e' | e'
        · exact e'.symm
        · have a := h1.1 _ e'
          have b := h2.1 _ e
          have := SK.tr a b
          rw [SK.irr] at this; cases this
    subst e
    rw [sk_unique (List.perm_cons _ |>.mp p) h1.2 h2.2]
end
end Mn
set_option genInjectivity false
namespace Mn
open PySem.SeqAt

/-! names as numbers -/
noncomputable abbrev Ls := List (Option V)
noncomputable def toL : List Str → Ls → Loc
  | n :: ns, v :: ls => fun x => if x = n then v else toL ns ls x
  | _, _ => fun _ => none
noncomputable def slot : List Str → Str → Option Nat
  | [], _ => none
  | n :: ns, x => if x = n then some 0 else (slot ns x).map (· + 1)
noncomputable def getS : Ls → Nat → Option V
  | [], _ => none
  | v :: _, 0 => v
  | _ :: r, i + 1 => getS r i
noncomputable def setS : Ls → Nat → V → Ls
  | [], 0, v => [some v]
  | [], i + 1, v => none :: setS [] i v
  | _ :: r, 0, v => some v :: r
  | a :: r, i + 1, v => a :: setS r i v
theorem toL_nil (ns : List Str) : toL ns [] = fun _ => none := by cases ns <;> rfl
theorem toL_get {x : Str} {i : Nat} : ∀ {ns : List Str} {ls : Ls}, slot ns x = some i → toL ns ls x = getS ls i
  | [], _, h => nomatch h
  | n :: ns, [], h => by rw [toL_nil]; rfl
  | n :: ns, v :: ls, h => by
    unfold slot at h
    unfold toL
    split at h
    · rw [if_pos ‹_›]; cases h; rfl
    · rw [if_neg ‹_›]
      obtain ⟨j, hj, rfl⟩ := Option.map_eq_some_iff.mp h
      exact toL_get hj
theorem toL_set {x : Str} {v : V} : ∀ {i : Nat} {ns : List Str} {ls : Ls}, slot ns x = some i → upd (toL ns ls) x v = toL ns (setS ls i v)
  | _, [], _, h => nomatch h
  | i, n :: ns, ls, h => by
    unfold slot at h
    funext y
    split at h
    · rename_i e
      cases h; subst e
      cases ls with
      | nil => rw [toL_nil]; unfold setS toL upd; rw [toL_nil]
      | cons w ls => unfold setS toL upd; by_cases z : y = x
                     · rw [if_pos z, if_pos z]
                     · rw [if_neg z, if_neg z]; exact if_neg z
    · rename_i e
      obtain ⟨j, hj, rfl⟩ := Option.map_eq_some_iff.mp h
      cases ls with
      | nil =>
        have := congrFun (toL_set (v := v) (ls := []) hj) y
        rw [toL_nil] at this
        rw [toL_nil]
        refine this.trans ?_
        show toL ns (setS [] j v) y = if y = n then none else toL ns (setS [] j v) y
        by_cases z : y = n
        · rw [if_pos z, ← this]; exact if_neg fun w => e (w.symm.trans z)
        · rw [if_neg z]
      | cons w ls =>
        have := congrFun (toL_set (v := v) (ls := ls) hj) y
        show (if y = x then some v else if y = n then w else toL ns ls y) = if y = n then w else toL ns (setS ls j v) y
        rw [← this]
        unfold upd
        by_cases z : y = n
        · rw [if_pos z, if_pos z]; exact if_neg fun q => e (q.symm.trans z)
        · rw [if_neg z, if_neg z]

/-! what the machine asks of the outer world -/
structure En where
  g : G
  d : Nat
  X : MH → Prop
noncomputable abbrev En.nx (E : En) : En := ⟨E.g, E.d, noX⟩
noncomputable abbrev Cx.en (κ : Cx) : En := ⟨κ.φ.g, κ.d, κ.X⟩
structure Pv (E : En) (t : List Value → Sem Value) (vs : List V) (K : V → MH → Prop) (σ : MH) : Prop where
  h : ∀ φ : Fx, φ.g = E.g → PV ⟨φ, E.d, E.X⟩ t vs K σ
structure Pu (E : En) (t : List Value → Sem Unit) (vs : List V) (K : MH → Prop) (σ : MH) : Prop where
  h : ∀ φ : Fx, φ.g = E.g → PU ⟨φ, E.d, E.X⟩ t vs K σ
structure Pg (E : En) (a b : V) (K : V → MH → Prop) (σ : MH) : Prop where
  h : ∀ φ : Fx, φ.g = E.g → PG ⟨φ, E.d, E.X⟩ a b K σ
theorem Pv.at {κ : Cx} {t vs K σ} (h : Pv κ.en t vs K σ) : PV κ t vs K σ := h.h κ.φ rfl
theorem Pu.at {κ : Cx} {t vs K σ} (h : Pu κ.en t vs K σ) : PU κ t vs K σ := h.h κ.φ rfl
theorem Pg.at {κ : Cx} {a b K σ} (h : Pg κ.en a b K σ) : PG κ a b K σ := h.h κ.φ rfl
noncomputable def gA (x : Str) : List Value → Sem Value := t1 fun r => getAttr r x true
noncomputable def sA (x : Str) : List Value → Sem Unit := u2 fun ro rv => setAttr ro x rv

inductive Slc (f : Nat → List V → List V) (σ : MH) (K : V → MH → Prop) : V → V → Prop
  | mk (a : Addr) (xs : List V) (k : Nat) (hσ : lst σ a xs) (hz : xs.length ≤ 2 ^ 24) (q : ∀ b, σ b = none → K (.ref b) (upd σ b (.list (f k xs)))) : Slc f σ K (.ref a) (.int (k : Int))
/-- a method of an instance -/
inductive Meth (x : Str) (C : Addr) (σ : MH) (K : Prop) : V → Prop
  | mk (a : Addr) (fs : List (Str × V)) (hσ : σ a = some (.inst C fs)) (hx : getF fs x = none) (q : K) : Meth x C σ K (.ref a)
inductive IsL (σ : MH) (K : Prop) : V → Prop
  | mk (a : Addr) (xs : List V) (hσ : σ a = some (.list xs)) (q : K) : IsL σ K (.ref a)
/-- what is gone through -/
inductive It (σ : MH) (K : List V → (MH → Prop) → Prop) : Nat → List V → Prop
  | val (v : V) (ys : List V) (Inv : MH → Prop) (s : Seq1 σ v ys Inv) (q : K ys Inv) : It σ K 0 [v]
  | range1 (n : Int) (hn : n.natAbs < 2 ^ 60) (q : K (rng 0 n.toNat) fun _ => True) : It σ K 1 [.int n]
  | range2 (a b : Int) (ha : a.natAbs < 2 ^ 60) (hb : b.natAbs < 2 ^ 60) (q : K (rng a (b - a).toNat) fun _ => True) : It σ K 1 [.int a, .int b]
  | rev (a : Addr) (ys : List V) (hl : lst σ a ys) (q : K ys.reverse fun σ => lst σ a ys) : It σ K 2 [.ref a]
  | enum (a : Addr) (ys : List V) (hl : lst σ a ys) (q : K (enumL ys) fun σ => lst σ a ys) : It σ K 3 [.ref a]
noncomputable def loopC (C : Ls → MH → Prop) (A : Ls → MH → Prop) (Q : Fw → Ls → MH → Prop) : Fw → Ls → MH → Prop
  | .next => C
  | .cont => C
  | .brk => A
  | .ret v => Q (.ret v)
inductive Whl (step : (Fw → Ls → MH → Prop) → Ls → MH → Prop) (A : Ls → MH → Prop) (Q : Fw → Ls → MH → Prop) (ls : Ls) (σ : MH) : Prop
  | mk (I : Nat → Ls → MH → Prop) (n : Nat) (h0 : I n ls σ) (turn : ∀ n ls σ, I n ls σ → step (loopC (fun ls σ => ∃ m, m < n ∧ I m ls σ) A Q) ls σ)
inductive ForL (step : V → (Fw → Ls → MH → Prop) → Ls → MH → Prop) (A : Ls → MH → Prop) (Q : Fw → Ls → MH → Prop) (ls : Ls) (σ : MH) (ys : List V) (Inv : MH → Prop) : Prop
  | mk (I : Nat → Ls → MH → Prop) (h0 : I 0 ls σ) (inv : ∀ k ls σ, I k ls σ → Inv σ) (turn : ∀ k v ls σ, ys[k]? = some v → I k ls σ → step v (loopC (I (k + 1)) A Q) ls σ) (fin : ∀ ls σ, I ys.length ls σ → A ls σ)
noncomputable def compC (C : MH → Prop) (R : V → MH → Prop) : Fw → Ls → MH → Prop
  | .cont => fun _ => C
  | .ret v => fun _ => R v
  | _ => fun _ _ => False
inductive CmpL (step : V → (Fw → Ls → MH → Prop) → MH → Prop) (K : V → MH → Prop) (σ : MH) (ys : List V) (Inv : MH → Prop) : Prop
  | mk (I : Addr → Nat → List V → MH → Prop) (h0 : ∀ D, σ D = none → I D 0 [] (upd σ D (.list []))) (acc : ∀ D k acc σ2, I D k acc σ2 → AccAt Inv D acc σ2)
      (turn : ∀ D k v acc σ2, σ D = none → ys[k]? = some v → I D k acc σ2 → step v (compC (I D (k + 1) acc) fun r σ4 => σ4 D = some (.list acc) ∧ I D (k + 1) (acc ++ [r]) (upd σ4 D (.list (acc ++ [r])))) σ2)
      (fin : ∀ D acc σ2, σ D = none → I D ys.length acc σ2 → K (.ref D) σ2)

/-! numbers -/
noncomputable def intQ : V → (Int → Prop) → Prop → Prop
  | .int a, K, _ => K a
  | _, _, P => P
noncomputable def optQ {α : Type} : Option α → (α → Prop) → Prop → Prop
  | some f, K, _ => K f
  | none, _, P => P
noncomputable def iiQ (a b : V) (F : Int → Int → Prop) (P : Prop) : Prop := intQ a (fun x => intQ b (fun y => F x y) P) P
theorem iiQ.run {a b : V} {F : Int → Int → Prop} {P : Prop} (h : iiQ a b F P) (k : ∀ x y, a = .int x → b = .int y → F x y → P) : P := by
  cases a with
  | int x =>
    cases b with
    | int y => exact k x y rfl rfl h
    | _ => exact h
  | _ => exact h
noncomputable def binQ (E : En) (op : Operator) (a b : V) (K : V → MH → Prop) (σ : MH) : Prop := match op with
  | .Add => iiQ a b (fun x y => K (.int (x + y)) σ) (Pv E (t2 (binaryOp .Add)) [a, b] K σ)
  | .Sub => iiQ a b (fun x y => K (.int (x - y)) σ) (Pv E (t2 (binaryOp .Sub)) [a, b] K σ)
  | .BitAnd => iiQ a b (fun x y => K (.int (Builtin.bitAnd x y)) σ) (Pv E (t2 (binaryOp .BitAnd)) [a, b] K σ)
  | .BitOr => iiQ a b (fun x y => K (.int (Builtin.bitOr x y)) σ) (Pv E (t2 (binaryOp .BitOr)) [a, b] K σ)
  | .BitXor => iiQ a b (fun x y => K (.int (Builtin.bitXor x y)) σ) (Pv E (t2 (binaryOp .BitXor)) [a, b] K σ)
  | op => Pv E (t2 (binaryOp op)) [a, b] K σ
noncomputable def inpQ (E : En) (op : Operator) (a b : V) (K : V → MH → Prop) (σ : MH) : Prop := match op with
  | .Add => iiQ a b (fun x y => K (.int (x + y)) σ) (Pv E (t2 (inplaceOp .Add)) [a, b] K σ)
  | .Sub => iiQ a b (fun x y => K (.int (x - y)) σ) (Pv E (t2 (inplaceOp .Sub)) [a, b] K σ)
  | op => Pv E (t2 (inplaceOp op)) [a, b] K σ
noncomputable def cmpQ (E : En) (op : CmpOp) (a b : V) (K : V → MH → Prop) (σ : MH) : Prop := match op with
  | .Lt => iiQ a b (fun x y => K (.bool (decide (x < y))) σ) (Pv E (t2 (compareOp .Lt)) [a, b] K σ)
  | .LtE => iiQ a b (fun x y => K (.bool (decide (x ≤ y))) σ) (Pv E (t2 (compareOp .LtE)) [a, b] K σ)
  | .Gt => iiQ a b (fun x y => K (.bool (decide (y < x))) σ) (Pv E (t2 (compareOp .Gt)) [a, b] K σ)
  | .GtE => iiQ a b (fun x y => K (.bool (decide (y ≤ x))) σ) (Pv E (t2 (compareOp .GtE)) [a, b] K σ)
  | .NotEq => iiQ a b (fun x y => K (.bool (!decide (x = y))) σ) (Pv E (t2 (compareOp .NotEq)) [a, b] K σ)
  | .Eq => iiQ a b (fun x y => K (.bool (decide (x = y))) σ) (Pv E (t2 (compareOp .Eq)) [a, b] K σ)
  | op => Pv E (t2 (compareOp op)) [a, b] K σ
noncomputable def unaQ (E : En) : UnaryOp → V → (V → MH → Prop) → MH → Prop
  | .USub, .int x, K, σ => K (.int (-x)) σ
  | .Not, .bool b, K, σ => K (.bool (!b)) σ
  | op, a, K, σ => Pv E (t1 (unaryOp op)) [a] K σ
section
variable {E : En} {a b : V} {K : V → MH → Prop} {σ : MH}
theorem unaQ.run {op} (h : unaQ E op a K σ) : Pv E (t1 (unaryOp op)) [a] K σ := by
  cases op with
  | USub =>
    cases a with
    | int x => exact ⟨fun _ _ => PV.neg h⟩
    | _ => exact h
  | Not =>
    cases a with
    | bool b => exact ⟨fun _ _ => PV.not h⟩
    | _ => exact h
  | _ => exact h
theorem PV.eqI {κ : Cx} {a b : Int} (h : K (.bool (decide (a = b))) σ) : PV κ (t2 (compareOp .Eq)) [.int a, .int b] K σ :=
  PV.eq (n := 0) (.ii _ _) (Nat.zero_le _) (by rw [veq_dec (p := a = b) ⟨fun e => V.int.inj e, fun e => e ▸ rfl⟩]; exact h)
theorem Pv.of2 {x y : Int} {t} (ha : a = .int x) (hb : b = .int y) (h : ∀ κ : Cx, PV κ t [.int x, .int y] K σ) : Pv E t [a, b] K σ := by subst ha hb; exact ⟨fun _ _ => h _⟩
theorem binQ.run {op} (h : binQ E op a b K σ) : Pv E (t2 (binaryOp op)) [a, b] K σ := by
  cases op with
  | Add => exact iiQ.run h fun x y ha hb q => .of2 ha hb fun _ => PV.add q
  | Sub => exact iiQ.run h fun x y ha hb q => .of2 ha hb fun _ => PV.sub q
  | BitAnd => exact iiQ.run h fun x y ha hb q => .of2 ha hb fun _ => PV.band q
  | BitOr => exact iiQ.run h fun x y ha hb q => .of2 ha hb fun _ => PV.bor q
  | BitXor => exact iiQ.run h fun x y ha hb q => .of2 ha hb fun _ => PV.bxor q
  | _ => exact h
theorem inpQ.run {op} (h : inpQ E op a b K σ) : Pv E (t2 (inplaceOp op)) [a, b] K σ := by
  cases op with
  | Add => exact iiQ.run h fun x y ha hb q => .of2 ha hb fun _ => PV.iadd q
  | Sub => exact iiQ.run h fun x y ha hb q => .of2 ha hb fun _ => PV.isub q
  | _ => exact h
theorem cmpQ.run {op} (h : cmpQ E op a b K σ) : Pv E (t2 (compareOp op)) [a, b] K σ := by
  cases op with
  | Lt => exact iiQ.run h fun x y ha hb q => .of2 ha hb fun _ => PV.lt q
  | LtE => exact iiQ.run h fun x y ha hb q => .of2 ha hb fun _ => PV.le q
  | Gt => exact iiQ.run h fun x y ha hb q => .of2 ha hb fun _ => PV.gt q
  | GtE => exact iiQ.run h fun x y ha hb q => .of2 ha hb fun _ => PV.ge q
  | NotEq => exact iiQ.run h fun x y ha hb q => .of2 ha hb fun _ => PV.ne q
  | Eq => exact iiQ.run h fun x y ha hb q => .of2 ha hb fun _ => PV.eqI q
  | _ => exact h
end

/-! the code -/
set_option genCtorIdx false in
inductive Cd
  | lit (v : V) (k : Cd)
  | ld (i : Nat) (k : Cd)
  | st (i : Nat) (k : Cd)
  | pop (k : Cd)
  | dup (n : Nat) (k : Cd)
  | fld (x : Str) (k : Cd)
  | stf (x : Str) (k : Cd)
  | stfr (x : Str) (k : Cd)
  | ix (k : Cd)
  | stx (k : Cd)
  | stxr (k : Cd)
  | slc (b : Bool) (k : Cd)
  | bin (op : Operator) (k : Cd)
  | inp (op : Operator) (k : Cd)
  | cmp (op : CmpOp) (k : Cd)
  | una (op : UnaryOp) (k : Cd)
  | isn (b : Bool) (k : Cd)
  | chn (op : CmpOp) (a b : Cd)
  | br (a b : Cd)
  | tup (n : Nat) (k : Cd)
  | lst (n : Nat) (k : Cd)
  | unp (b : Bool) (is : List Nat) (k : Cd)
  | call (f : V) (n : Nat) (k : Cd)
  | mld (C : Addr) (x : Str) (k : Cd)
  | ald (k : Cd)
  | whl (c k : Cd)
  | forl (it n : Nat) (c k : Cd)
  | comp (it n : Nat) (fr : List Nat) (c k : Cd)
  | ret
  | fin
  | brk
  | cnt
  | raz
  | trx (c : Cd) (b : Bool) (k : Cd)
  | bad
noncomputable def tryC (C : Ls → MH → Prop) (Q : Fw → Ls → MH → Prop) : Fw → Ls → MH → Prop
  | .next => C
  | w => Q w
noncomputable def pop1 : List V → (V → List V → Prop) → Prop
  | v :: s, K => K v s
  | [], _ => False
noncomputable def pop2 (s : List V) (K : V → V → List V → Prop) : Prop := pop1 s fun b s => pop1 s fun a s => K a b s
noncomputable def pop3 (s : List V) (K : V → V → V → List V → Prop) : Prop := pop1 s fun c s => pop2 s fun a b s => K a b c s
noncomputable def popN : Nat → List V → List V → (List V → List V → Prop) → Prop
  | 0, acc, s, K => K acc s
  | n + 1, acc, s, K => pop1 s fun v s => popN n (v :: acc) s K
noncomputable def boolQ : V → (Bool → Prop) → Prop
  | .bool b, K => K b
  | _, _ => False
noncomputable def tupQ : V → (List V → Prop) → Prop
  | .tup l, K => K l
  | _, _ => False
noncomputable def setAll : List Nat → List V → Ls → (Ls → Prop) → Prop
  | [], [], ls, K => K ls
  | i :: is, v :: vs, ls, K => setAll is vs (setS ls i v) K
  | _, _, _, _ => False
noncomputable def wp : Cd → En → (Fw → Ls → MH → Prop) → List V → Ls → MH → Prop
  | .lit v k, E, Q, s, ls, σ => wp k E Q (v :: s) ls σ
  | .ld i k, E, Q, s, ls, σ => optQ (getS ls i) (fun v => wp k E Q (v :: s) ls σ) False
  | .st i k, E, Q, s, ls, σ => pop1 s fun v s => wp k E Q s (setS ls i v) σ
  | .pop k, E, Q, s, ls, σ => pop1 s fun _ s => wp k E Q s ls σ
  | .dup n k, E, Q, s, ls, σ => wp k E Q (s.take n ++ s) ls σ
  | .fld x k, E, Q, s, ls, σ => pop1 s fun o s => Pv E (gA x) [o] (fun v σ => wp k E Q (v :: s) ls σ) σ
  | .stf x k, E, Q, s, ls, σ => pop2 s fun v o s => Pu E (sA x) [o, v] (fun σ => wp k E Q s ls σ) σ
  | .stfr x k, E, Q, s, ls, σ => pop2 s fun o r s => Pu E (sA x) [o, r] (fun σ => wp k E Q s ls σ) σ
  | .ix k, E, Q, s, ls, σ => pop2 s fun o i s => Pg E o i (fun v σ => wp k E Q (v :: s) ls σ) σ
  | .stx k, E, Q, s, ls, σ => pop3 s fun v o i s => Pu E (u3 setItem) [o, i, v] (fun σ => wp k E Q s ls σ) σ
  | .stxr k, E, Q, s, ls, σ => pop3 s fun o i r s => Pu E (u3 setItem) [o, i, r] (fun σ => wp k E Q s ls σ) σ
  | .slc b k, E, Q, s, ls, σ => pop2 s fun o u s => Slc (bif b then List.drop else List.take) σ (fun v σ => wp k E Q (v :: s) ls σ) o u
  | .bin op k, E, Q, s, ls, σ => pop2 s fun a b s => binQ E op a b (fun v σ => wp k E Q (v :: s) ls σ) σ
  | .inp op k, E, Q, s, ls, σ => pop2 s fun a b s => inpQ E op a b (fun v σ => wp k E Q (v :: s) ls σ) σ
  | .cmp op k, E, Q, s, ls, σ => pop2 s fun a b s => cmpQ E op a b (fun v σ => wp k E Q (v :: s) ls σ) σ
  | .una op k, E, Q, s, ls, σ => pop1 s fun a s => unaQ E op a (fun v σ => wp k E Q (v :: s) ls σ) σ
  | .isn b k, E, Q, s, ls, σ => pop1 s fun a s => a.plain = true ∧ wp k E Q (.bool (bif b then isNone a else !isNone a) :: s) ls σ
  | .chn op a b, E, Q, s, ls, σ => pop2 s fun x y s => cmpQ E op x y (fun v σ => boolQ v fun t => brk2 (wp a E Q (y :: s) ls σ) (wp b E Q s ls σ) t) σ
  | .br a b, E, Q, s, ls, σ => pop1 s fun v s => boolQ v fun t => brk2 (wp a E Q s ls σ) (wp b E Q s ls σ) t
  | .tup n k, E, Q, s, ls, σ => popN n [] s fun vs s => wp k E Q (.tup vs :: s) ls σ
  | .lst n k, E, Q, s, ls, σ => popN n [] s fun vs s => ∀ a, σ a = none → wp k E Q (.ref a :: s) ls (upd σ a (.list vs))
  | .unp b is k, E, Q, s, ls, σ => pop1 s fun v s => tupQ v fun vs => setAll is (bif b then vs.reverse else vs) ls fun ls => wp k E Q s ls σ
  | .call f n k, E, Q, s, ls, σ => popN n [] s fun vs s => Pv E tcall (f :: vs) (fun v σ => wp k E Q (v :: s) ls σ) σ
  | .mld C x k, E, Q, s, ls, σ => pop1 s fun o s => Meth x C σ (wp k E Q (o :: s) ls σ) o
  | .ald k, E, Q, s, ls, σ => pop1 s fun o s => IsL σ (wp k E Q (o :: s) ls σ) o
  | .whl c k, E, Q, s, ls, σ => Whl (fun Q ls σ => wp c E.nx Q [] ls σ) (fun ls σ => wp k E Q [] ls σ) Q ls σ
  | .forl it n c k, E, Q, s, ls, σ => popN n [] s fun vs s => It σ (ForL (fun v Q ls σ => wp c E.nx Q [v] ls σ) (fun ls σ => wp k E Q [] ls σ) Q ls σ) it vs
  | .comp it n fr c k, E, Q, s, ls, σ => popN n [] s fun vs s => It σ (CmpL (fun v Q σ => wp c E.nx Q [] (some v :: fr.map (getS ls)) σ) (fun v σ => wp k E Q (v :: s) ls σ) σ) it vs
  | .ret, E, Q, s, ls, σ => pop1 s fun v _ => Q (.ret v) ls σ
  | .fin, E, Q, s, ls, σ => Q .next ls σ
  | .brk, E, Q, s, ls, σ => Q .brk ls σ
  | .cnt, E, Q, s, ls, σ => Q .cont ls σ
  | .raz, E, Q, s, ls, σ => Nat.ble 1 E.d = true ∧ E.X σ
  | .trx c b k, E, Q, s, ls, σ => wp c ⟨E.g, E.d, fun σ => Q (.ret (.bool b)) [] σ⟩ (tryC (fun ls σ => wp k E Q [] ls σ) Q) [] ls σ
  | .bad, _, _, _, _, _ => False
section
variable {k k' : Cd} {E : En} {Q : Fw → Ls → MH → Prop} {a b : V} {s : List V} {ls : Ls} {σ : MH}
theorem run_bin {op} (h : wp (.bin op k) E Q (b :: a :: s) ls σ) : Pv E (t2 (binaryOp op)) [a, b] (fun v σ => wp k E Q (v :: s) ls σ) σ := binQ.run h
theorem run_inp {op} (h : wp (.inp op k) E Q (b :: a :: s) ls σ) : Pv E (t2 (inplaceOp op)) [a, b] (fun v σ => wp k E Q (v :: s) ls σ) σ := inpQ.run h
theorem run_cmp {op} (h : wp (.cmp op k) E Q (b :: a :: s) ls σ) : Pv E (t2 (compareOp op)) [a, b] (fun v σ => wp k E Q (v :: s) ls σ) σ := cmpQ.run h
theorem run_una {op} (h : wp (.una op k) E Q (a :: s) ls σ) : Pv E (t1 (unaryOp op)) [a] (fun v σ => wp k E Q (v :: s) ls σ) σ := unaQ.run h
theorem run_chn {op} (h : wp (.chn op k k') E Q (b :: a :: s) ls σ) : Pv E (t2 (compareOp op)) [a, b] (fun v σ => boolQ v fun t => brk2 (wp k E Q (b :: s) ls σ) (wp k' E Q s ls σ) t) σ := cmpQ.run h
end
end Mn
set_option genInjectivity false
namespace Mn
open PySem.SeqAt

/-! what the text's names are -/
structure Tabs where
  gf : List (Str × Addr)
  gi : List (Str × Int)
  bt : List (Str × V)
  mt : List (Str × (Addr × Addr))
  cf : List (Str × Addr)
  H : Addr
  cX : Addr
noncomputable def okName (x : Str) : Bool := x != "__debug__" && x != "__name__" && x != "__classdict__"
structure GfOk (K : Frag) (a : Addr) (x : Str) : Prop where
  ns : nsIn K mainGlobals x = some (some (.ref a))
  kp : keepIn K (.ref a) = true
structure BtOk (K : Frag) (v : V) (x : Str) : Prop where
  ns : nsIn K mainGlobals x = some none
  at_ : ∃ rv, bootBuiltins x = some rv ∧ ∀ h, VRel h v rv
  kp : keepV K v = true
structure TabsOk (T : Tabs) (K : Frag) : Prop where
  gf : ∀ x a, T.gf.lookup x = some a → GfOk K a x
  gi : ∀ x i, T.gi.lookup x = some i → ∃ t, nsIn K mainGlobals x = some (some (.int i t))
  bt : ∀ x v, T.bt.lookup x = some v → BtOk K v x
  mt : ∀ x c, T.mt.lookup x = some c → methK K c.1 x c.2 = true
  cf : ∀ x fn, T.cf.lookup x = some fn → ∃ mc, clsFnK K T.H mc x fn
  ex : ∃ N fI fd, ExcOk K T.cX N fI fd
/-- the names of a function -/
structure Gm where
  T : Tabs
  ns : List Str
  kd : List (Str × NameKind)
structure GOk (Γ : Gm) (κ : Cx) : Prop where
  tabs : TabsOk Γ.T κ.φ.g.K
  gk : ∀ x, Γ.kd.lookup x = some .globalImplicit → κ.φ.f.env.kindOf x = some .globalImplicit
  ce : ∀ x, Γ.kd.lookup x = some .cell → κ.φ.f.env.kindOf x = some .cell ∧ ∃ c, κ.φ.f.env.cells.lookup x = some c
theorem GOk.nx {Γ κ} (G : GOk Γ κ) : GOk Γ κ.nx := ⟨G.tabs, G.gk, G.ce⟩

/-! what is asked of an expression's form -/
noncomputable def form : PySem.Expr → Nat
  | .Name .. => 1
  | .Attribute .. => 2
  | .Subscript .. => 3
  | .Constant .. => 4
  | .Call .. => 5
  | .BinOp .. => 6
  | .Tuple .. => 7
  | .List .. => 8
  | .UnaryOp .. => 9
  | .Compare .. => 10
  | .BoolOp .. => 11
  | .IfExp .. => 12
  | .ListComp .. => 13
  | _ => 0
structure Form (e : PySem.Expr) : Prop where
  star : ∀ es env, starEach (e :: es) env = (false, eval e env) :: starEach es env
  marks : ∀ op, behindInMarks op e = false
  sub : ∀ ro ri, subscripted e false ro ri = operate [ro, ri] (getItem ro ri)
  aug : ∀ ov iv new, augStore e ov iv new = (do holding [new, ov, iv] (setItem ov iv new); release [new, ov, iv] []; pure .next)
  set : ∀ env x, foldedSetIterable e env x = pure x
  asg : ∀ env ts, assignEach (e :: ts) env = (false, assign e env) :: assignEach ts env
theorem Form.of {e : PySem.Expr} (h : form e ≠ 0) : Form e := by
  cases e <;> first | exact ⟨fun _ _ => rfl, fun _ => rfl, fun _ _ => rfl, fun _ _ _ => rfl, fun _ _ => rfl, fun _ _ => rfl⟩ | exact absurd rfl h
theorem base_of {e : PySem.Expr} (h : form e ≠ 0) (h5 : form e ≠ 5) (a : Str) (env : Env) (w : Sem Value) : attributeBase e a env w = w := by
  cases e <;> first | rfl | exact absurd rfl h5 | exact absurd rfl h
theorem swap_of {e : PySem.Expr} (h : form e ≠ 0) (h5 : form e ≠ 13) (t : Option PySem.Expr) (n : Nat) (env : Env) : swapsWith e t n env = pure false := by
  cases e <;> first | rfl | exact absurd rfl h5 | exact absurd rfl h
theorem true_of {e : PySem.Expr} (h : form e ≠ 0) (h5 : form e < 6) (env : Env) (w : Sem Value) : isTrue e env w = (do let v ← w; standAt e.pos; holding [v] (truthy v)) := by
  cases e <;> first | rfl | exact absurd rfl h | exact absurd (Nat.blt_eq.mpr h5 : _) Bool.false_ne_true

/-! an expression's code -/
section
variable (Γ : Gm)
structure KE (e : PySem.Expr) where
  c : Cd → Cd
  ok : ∀ {κ Q k s ls σ}, GOk Γ κ → wp (c k) κ.en Q s ls σ → WE κ e (fun v l σ => l = toL Γ.ns ls ∧ wp k κ.en Q (v :: s) ls σ) (toL Γ.ns ls) σ
structure KB (e : PySem.Expr) where
  c : Cd → Cd → Cd
  ok : ∀ {κ Q a b s ls σ}, GOk Γ κ → wp (c a b) κ.en Q s ls σ → WB κ e (fun t l σ => l = toL Γ.ns ls ∧ brk2 (wp a κ.en Q s ls σ) (wp b κ.en Q s ls σ) t) (toL Γ.ns ls) σ
structure KL (es : List PySem.Expr) where
  c : Cd → Cd
  ok : ∀ {κ Q k s ls σ}, GOk Γ κ → wp (c k) κ.en Q s ls σ → WArgs κ es (fun vs l σ => l = toL Γ.ns ls ∧ vs.length = es.length ∧ wp k κ.en Q (vs.reverse ++ s) ls σ) (toL Γ.ns ls) σ
  pl : ∀ env, (starEach es env).all (fun x => !x.1) = true
end
section
variable {Γ : Gm} {κ : Cx} {l : Loc} {σ : MH}
theorem popN_rev {K : List V → List V → Prop} {s : List V} : ∀ (n : Nat) (vs acc : List V), vs.length = n → popN n acc (vs.reverse ++ s) K → K (vs ++ acc) s
  | 0, [], _, _, h => h
  | n + 1, vs, acc, hn, h => by
    obtain ⟨ws, w, rfl⟩ : ∃ ws w, vs = ws ++ [w] := ⟨_, _, (List.dropLast_concat_getLast (fun z => by rw [z] at hn; cases hn)).symm⟩
    rw [List.reverse_append] at h
    rw [List.append_assoc]
    exact popN_rev n ws (w :: acc) (by rw [List.length_append] at hn; exact Nat.succ.inj hn) h
theorem WE.then {e l0} {P : V → MH → Prop} {Q : V → Loc → MH → Prop} (h : WE κ e (fun v l1 σ1 => l1 = l0 ∧ P v σ1) l σ) (k : ∀ v σ, P v σ → Q v l0 σ) : WE κ e Q l σ := h.mono fun v l σ h => h.1 ▸ k v σ h.2
theorem WB.then {e l0} {P : Bool → MH → Prop} {Q : Bool → Loc → MH → Prop} (h : WB κ e (fun v l1 σ1 => l1 = l0 ∧ P v σ1) l σ) (k : ∀ v σ, P v σ → Q v l0 σ) : WB κ e Q l σ := h.mono fun v l σ h => h.1 ▸ k v σ h.2
theorem WArgs.then {es l0} {P : List V → MH → Prop} {Q : List V → Loc → MH → Prop} (h : WArgs κ es (fun v l1 σ1 => l1 = l0 ∧ P v σ1) l σ) (k : ∀ v σ, P v σ → Q v l0 σ) : WArgs κ es Q l σ := fun A s δ p G F => (h A s δ p G F).mono fun v l σ h => h.1 ▸ k v σ h.2
theorem asB_of {K : Bool → Prop} {v : V} (h : boolQ v K) : asB K v := by
  cases v with
  | bool b => exact .mk b h
  | _ => exact h.elim
theorem boolQ.mono {K K' : Bool → Prop} {v : V} (h : boolQ v K) (k : ∀ b, K b → K' b) : boolQ v K' := by
  cases v with
  | bool b => exact k b h
  | _ => exact h
theorem brk2.mono {P P' R R' : Prop} {b : Bool} (h : brk2 P R b) (p : P → P') (r : R → R') : brk2 P' R' b := by
  cases b
  · exact r h
  · exact p h
theorem optQ_some {α : Type} {o : Option α} {K : α → Prop} (h : optQ o K False) : ∃ a, o = some a ∧ K a := by
  cases o with
  | none => exact h.elim
  | some a => exact ⟨a, rfl, h⟩
noncomputable def eL (f : ∀ e, Option (KE Γ e)) : (es : List PySem.Expr) → Option (KL Γ es)
  | [] => some ⟨fun k => k, fun _ h => WArgs.nil ⟨rfl, rfl, h⟩, fun _ => rfl⟩
  | e :: es => if hf : form e ≠ 0 then (f e).bind fun x => (eL f es).bind fun y => some ⟨fun k => x.c (y.c k), fun {κ Q k s ls σ} G h =>
      WArgs.cons ((x.ok G h).then fun v σ h => (y.ok G h).then fun vs σ h => ⟨rfl, congrArg (· + 1) h.1, by rw [List.reverse_cons, List.append_assoc]; exact h.2⟩) ((Form.of hf).star _ _),
      fun env => by rw [(Form.of hf).star]; exact y.pl env⟩ else none
/-- conditions -/
noncomputable def eB1 (f : ∀ e, Option (KE Γ e)) (r : ∀ e, Option (KB Γ e)) : (e : PySem.Expr) → Option (KB Γ e)
  | .UnaryOp .Not e p => (r e).bind fun x => some ⟨fun a b => x.c b a, fun G h => WB.not ((x.ok G h).then fun t σ h => ⟨rfl, by cases t <;> exact h⟩)⟩
  | .BoolOp .And [e1, e2] p => (r e1).bind fun x => (r e2).bind fun y => some ⟨fun a b => x.c (y.c a b) b, fun G h => WB.all (WAll.andC ((x.ok G h).then fun t σ h =>
      h.mono (fun h => WAll.andC ((y.ok G h).then fun t σ h => h.mono (fun h => WAll.andN ⟨rfl, h⟩) fun h => ⟨rfl, h⟩)) fun h => ⟨rfl, h⟩))⟩
  | .BoolOp .Or [e1, e2] p => (r e1).bind fun x => (r e2).bind fun y => some ⟨fun a b => x.c a (y.c a b), fun G h => WB.all (WAll.orC ((x.ok G h).then fun t σ h =>
      h.mono (fun h => ⟨rfl, h⟩) fun h => WAll.orC ((y.ok G h).then fun t σ h => h.mono (fun h => ⟨rfl, h⟩) fun h => WAll.orN ⟨rfl, h⟩)))⟩
  | .BoolOp .And [e1, e2, e3] p => (r e1).bind fun x => (r e2).bind fun y => (r e3).bind fun z => some ⟨fun a b => x.c (y.c (z.c a b) b) b, fun G h => WB.all (WAll.andC ((x.ok G h).then fun t σ h =>
      h.mono (fun h => WAll.andC ((y.ok G h).then fun t σ h => h.mono (fun h => WAll.andC ((z.ok G h).then fun t σ h => h.mono (fun h => WAll.andN ⟨rfl, h⟩) fun h => ⟨rfl, h⟩)) fun h => ⟨rfl, h⟩)) fun h => ⟨rfl, h⟩))⟩
  | .BoolOp .Or [e1, e2, e3] p => (r e1).bind fun x => (r e2).bind fun y => (r e3).bind fun z => some ⟨fun a b => x.c a (y.c a (z.c a b)), fun G h => WB.all (WAll.orC ((x.ok G h).then fun t σ h =>
      h.mono (fun h => ⟨rfl, h⟩) fun h => WAll.orC ((y.ok G h).then fun t σ h => h.mono (fun h => ⟨rfl, h⟩) fun h => WAll.orC ((z.ok G h).then fun t σ h => h.mono (fun h => ⟨rfl, h⟩) fun h => WAll.orN ⟨rfl, h⟩))))⟩
  | .Compare e1 [.Is] [.Constant .none kk pp] p => (f e1).bind fun x => some ⟨fun a b => x.c (.isn true (.br a b)), fun G h =>
      WB.cmp1 ((x.ok G h).then fun v σ h => WE.cNone (PV.isNone h.1 (.mk _ ⟨rfl, h.2⟩))) rfl⟩
  | .Compare e1 [.IsNot] [.Constant .none kk pp] p => (f e1).bind fun x => some ⟨fun a b => x.c (.isn false (.br a b)), fun G h =>
      WB.cmp1 ((x.ok G h).then fun v σ h => WE.cNone (PV.isNotNone h.1 (.mk _ ⟨rfl, h.2⟩))) rfl⟩
  | .Compare e1 [op] [e2] p => if hf : form e2 ≠ 0 then (f e1).bind fun x => (f e2).bind fun y => some ⟨fun a b => x.c (y.c (.cmp op (.br a b))), fun G h =>
      WB.cmp1 ((x.ok G h).then fun v σ h => (y.ok G h).then fun w σ h => (run_cmp h).at.mono fun r σ h => asB_of (h.mono fun t h => ⟨rfl, h⟩)) ((Form.of hf).marks op)⟩ else none
  | .Compare e1 [op1, op2] [e2, e3] p => if hf : form e3 ≠ 0 then (f e1).bind fun x => (f e2).bind fun y => (f e3).bind fun z => some ⟨fun a b => x.c (y.c (.chn op1 (z.c (.cmp op2 (.br a b))) b)), fun G h =>
      WB.cmp2 ((x.ok G h).then fun v σ h => (y.ok G h).then fun w σ h => (run_chn h).at.mono fun r σ h => asB_of (h.mono fun t h => h.mono (fun h => (z.ok G h).then fun w σ h => (run_cmp h).at.mono fun r σ h => asB_of (h.mono fun t h => ⟨rfl, h⟩))
        fun h => ⟨rfl, h⟩)) ((Form.of hf).marks op2)⟩ else none
  | e => if hf : form e ≠ 0 ∧ form e < 6 then (f e).bind fun x => some ⟨fun a b => x.c (.br a b), fun G h => WB.val (true_of hf.1 hf.2) ((x.ok G h).then fun v σ h => asB_of (h.mono fun t h => ⟨rfl, h⟩))⟩ else none
noncomputable def eB (f : ∀ e, Option (KE Γ e)) : Nat → (e : PySem.Expr) → Option (KB Γ e)
  | 0 => eB1 f fun _ => none
  | n + 1 => eB1 f (eB f n)
end
end Mn
set_option genInjectivity false
namespace Mn
open PySem.SeqAt

noncomputable abbrev FE := ∀ Γ e, Option (KE Γ e)
section
variable {Γ : Gm} {κ : Cx} {l : Loc} {σ : MH}
structure OkN (x : Str) : Prop where
  db : (x == ("__debug__" : Str)) = false
  nm : x ≠ "__name__"
  cd : (x == ("__classdict__" : Str)) = false
theorem okN {x : Str} (h : okName x = true) : OkN x := by
  unfold okName at h; simp only [Bool.and_eq_true, bne_iff_ne, ne_eq] at h
  exact ⟨beq_eq_false_iff_ne.mpr h.1.1, h.1.2, beq_eq_false_iff_ne.mpr h.2⟩
/-- names -/
noncomputable def eName (Γ : Gm) (x : Str) (p : Pos) : Option (KE Γ (.Name x p)) :=
  if hn : okName x = true then
    match hs : slot Γ.ns x with
    | some i => some ⟨.ld i, fun {κ Q k s ls σ} G h => by
        obtain ⟨v, hv, h⟩ := optQ_some h
        exact WE.loc ((toL_get hs).trans hv) ⟨rfl, h⟩ (okN hn).db (okN hn).cd⟩
    | none => if hk : Γ.kd.lookup x = some .globalImplicit then
        match hi : Γ.T.gi.lookup x, hg : Γ.T.gf.lookup x, hb : Γ.T.bt.lookup x with
        | some i, _, _ => some ⟨.lit (.int i), fun G h => by
            obtain ⟨t, e⟩ := G.tabs.gi x i hi
            exact WE.glob e (G.gk x hk) (fun _ => .int _ _) ⟨rfl, h⟩ (okN hn).db⟩
        | none, some a, _ => some ⟨.lit (.ref a), fun G h => WE.glob (G.tabs.gf x a hg).ns (G.gk x hk) (fun _ => .ref _) ⟨rfl, h⟩ (okN hn).db⟩
        | none, none, some v => some ⟨.lit v, fun G h => by
            obtain ⟨e, ⟨rv, e2, e3⟩, _⟩ := G.tabs.bt x v hb
            exact WE.builtin e e2 (G.gk x hk) e3 ⟨rfl, h⟩ (okN hn).nm (okN hn).db⟩
        | none, none, none => none
      else none
  else none
/-- what a name is, that is called -/
structure KF (Γ : Gm) (x : Str) where
  v : V
  ok : ∀ {κ p l σ} {Q : V → Loc → MH → Prop}, GOk Γ κ → (keepV κ.φ.g.K v = true → Q v l σ) → WE κ (.Name x p) Q l σ
noncomputable def eFn (Γ : Gm) (x : Str) : Option (KF Γ x) :=
  if hn : okName x = true ∧ Γ.kd.lookup x = some .globalImplicit then
    match hg : Γ.T.gf.lookup x, hb : Γ.T.bt.lookup x with
    | some a, _ => some ⟨.ref a, fun G h => WE.glob (G.tabs.gf x a hg).ns (G.gk x hn.2) (fun _ => .ref _) (h (G.tabs.gf x a hg).kp) (okN hn.1).db⟩
    | none, some v => some ⟨v, fun G h => by
        obtain ⟨e, ⟨rv, e2, e3⟩, kp⟩ := G.tabs.bt x v hb
        exact WE.builtin e e2 (G.gk x hn.2) e3 (h kp) (okN hn.1).nm (okN hn.1).db⟩
    | none, none => none
  else none
theorem WE.methL {o : PySem.Expr} {apos args pos} {Q : V → Loc → MH → Prop} (h : WE κ o (fun ov l1 σ1 => ∃ a xs, ov = .ref a ∧ σ1 a = some (.list xs) ∧ WArgs κ args (fun vs l2 σ2 => PV κ tcall (.bi "list.append" :: .ref a :: vs) (fun v σ3 => Q v l2 σ3) σ2) l1 σ1) l σ) {pl : Sem Bool}
    (he : eval (.Call (.Attribute o "append" apos) args [] pos) κ.φ.f.env = (do
      let ov ← eval o κ.φ.f.env
      standAt apos.atName
      let (f', first) ← holding [ov] (getMethod ov "append" pl)
      callWith pos f' first (backTo pos (starEach args κ.φ.f.env)) (backToKw pos (keywordEach [] κ.φ.f.env))))
    (hp : (starEach args κ.φ.f.env).all (fun x => !x.1) = true) : WE κ (.Call (.Attribute o "append" apos) args [] pos) Q l σ := fun A s δ G F => by
  rw [he]
  refine At.bind (h A s δ G F) fun ov ro l1 σ1 δ1 s1 hR F1 E1 q1 => At.standAt ?_
  obtain ⟨a, xs, rfl, hσ, q1⟩ := q1
  rw [hR.ref_inv]
  obtain ⟨vs, n, h1, h2⟩ := F1.sim.rep _ _ hσ
  refine wpAny_bind (wpAny_holding (getMethod_list_append h1 rfl rfl ?_))
  exact callWith_at (fv := .bi "list.append") (first := [.ref a]) G F1 rfl (.bi _) (.cons (.ref a) .nil) q1 hp
theorem all_back {pos : Pos} : ∀ {xs : List (Bool × Sem Value)}, xs.all (fun x => !x.1) = true → ((backTo pos xs).all (!·.1)) = true
  | [], _ => rfl
  | x :: r, hx => by
    rw [List.all_cons, Bool.and_eq_true] at hx
    show (!x.1 && (backTo pos r).all (!·.1)) = true
    rw [hx.1, all_back hx.2]; rfl
theorem eval_meth {o : PySem.Expr} {x : Str} {apos pos : Pos} {args : List PySem.Expr} {env : Env} (hf : form o ≠ 0 ∧ form o ≠ 5) (hn : args.length < 30) (hp : (apos.endLine == pos.line) = true) (ha : (starEach args env).all (fun x => !x.1) = true) :
    eval (.Call (.Attribute o x apos) args [] pos) env = (do
      let ov ← eval o env
      standAt apos.atName
      let (f', first) ← holding [ov] (getMethod ov x (do return (← importBound o env).getD true))
      callWith pos f' first (backTo pos (starEach args env)) (backToKw pos (keywordEach [] env))) := by
  have hm : methodCallForm (args.length + 0) (backTo pos (starEach args env)) (backToKw pos (keywordEach [] env)) = true := by
    unfold methodCallForm
    rw [all_back ha]
    exact decide_eq_true (show args.length + 0 + 0 < 30 from hn)
  show (do
    let ov ← attributeBase o x env (eval o env)
    standAt apos.atName
    methodCall o x apos pos env ov (args.length + 0) (backTo pos (starEach args env)) (backToKw pos (keywordEach [] env))) = _
  rw [base_of hf.1 hf.2]
  unfold methodCall calleeOf methodCallPos
  rw [hm]
  simp only [Bool.not_true, hp, Bool.false_or, if_true, pure_bind]
theorem KL.at {es : List PySem.Expr} (x : KL Γ es) {Q s ls k σ} {fv v : V} (G : GOk Γ κ) (h : wp (x.c (.call fv (es.length + 1) k)) κ.en Q (v :: s) ls σ) :
    WArgs κ es (fun vs l2 σ2 => PV κ tcall (fv :: v :: vs) (fun r σ3 => l2 = toL Γ.ns ls ∧ wp k κ.en Q (r :: s) ls σ3) σ2) (toL Γ.ns ls) σ := (x.ok G h).then fun vs σ h => by
  have := popN_rev (es.length + 1) (v :: vs) [] (congrArg (· + 1) h.1) (K := fun vs s => Pv κ.en tcall (fv :: vs) (fun v σ => wp k κ.en Q (v :: s) ls σ) σ) (s := s) (by rw [List.reverse_cons, List.append_assoc]; exact h.2)
  rw [List.append_nil] at this
  exact this.at.mono fun r σ h => ⟨rfl, h⟩
noncomputable def eCall (f : FE) (Γ : Gm) (apos pos : Pos) (o : PySem.Expr) (x : Str) (args : List PySem.Expr) : Option (KE Γ (.Call (.Attribute o x apos) args [] pos)) :=
  if hc : (form o ≠ 0 ∧ form o ≠ 5) ∧ args.length < 30 ∧ (apos.endLine == pos.line) = true then
    if hx : x = "append" then
      (f Γ o).bind fun y => (eL (f Γ) args).bind fun z => some ⟨fun k => y.c (.ald (z.c (.call (.bi "list.append") (args.length + 1) k))), fun G h => by
        subst hx
        exact WE.methL ((y.ok G h).then fun v σ h => (by cases h with
          | mk a xs hσ q => exact ⟨a, xs, rfl, hσ, z.at G q⟩)) (eval_meth hc.1 hc.2.1 hc.2.2 (z.pl _)) (z.pl _)⟩
    else
      match hm : Γ.T.mt.lookup x with
      | some fn => (f Γ o).bind fun y => (eL (f Γ) args).bind fun z => some ⟨fun k => y.c (.mld fn.1 x (z.c (.call (.ref fn.2) (args.length + 1) k))), fun G h => WE.methI ((y.ok G h).then fun v σ h => (by cases h with
          | mk a fs hσ hx q => exact ⟨a, _, fs, fn.2, rfl, hσ, G.tabs.mt x fn hm, hx, z.at G q⟩)) (eval_meth hc.1 hc.2.1 hc.2.2 (z.pl _)) (z.pl _)⟩
      | none => none
  else none
end
end Mn
set_option genInjectivity false
namespace Mn
open PySem.SeqAt

section
variable {Γ : Gm} {κ : Cx} {l : Loc} {σ : MH}
/-! what is gone through -/
structure KI (Γ : Gm) (tgt e : PySem.Expr) where
  it : Nat
  n : Nat
  c : Cd → Cd
  ok : ∀ {κ Q k s ls σ} {K : MH → List V → (MH → Prop) → Prop}, GOk Γ κ → (∀ vs σ, vs.length = n → wp k κ.en Q (vs.reverse ++ s) ls σ → It σ (K σ) it vs) → wp (c k) κ.en Q s ls σ →
    WIt κ tgt e (fun ys Inv l σ => l = toL Γ.ns ls ∧ K σ ys Inv) (toL Γ.ns ls) σ
noncomputable def eVal (f : FE) (Γ : Gm) (tgt e : PySem.Expr) : Option (KI Γ tgt e) := (f Γ e).bind fun x => some ⟨0, 1, x.c, fun G hk h => WIt.val ((x.ok G h).then fun v σ h => by
  cases hk [v] σ rfl h with
  | val v ys Inv s q => exact ⟨ys, Inv, s, rfl, q⟩)⟩
noncomputable def eIt (f : FE) (Γ : Gm) : (tgt e : PySem.Expr) → Option (KI Γ tgt e)
  | tgt, .Call (.Name g pg) args [] p => (eFn Γ g).bind fun F => (eL (f Γ) args).bind fun x =>
    match F, tgt with
    | ⟨.typ "range", hF⟩, tgt => some ⟨1, args.length, x.c, fun G hk h => WIt.call (hF G fun kp => ⟨kp, (x.ok G h).then fun vs σ h => by
        cases hk vs σ h.1 h.2 with
        | range1 n hn q => exact WItC.range1 hn ⟨rfl, q⟩
        | range2 a b ha hb q => exact WItC.range2 ha hb ⟨rfl, q⟩⟩) rfl (x.pl _)⟩
    | ⟨.typ "reversed", hF⟩, tgt => some ⟨2, args.length, x.c, fun G hk h => WIt.call (hF G fun kp => ⟨kp, (x.ok G h).then fun vs σ h => by
        cases hk vs σ h.1 h.2 with
        | rev a ys hl q => exact WItC.rev hl ⟨rfl, q⟩⟩) rfl (x.pl _)⟩
    | ⟨.typ "enumerate", hF⟩, .Tuple elts tk tp => some ⟨3, args.length, x.c, fun G hk h => WIt.call (hF G fun kp => ⟨kp, (x.ok G h).then fun vs σ h => by
        cases hk vs σ h.1 h.2 with
        | enum a ys hl q => exact WItC.enum hl ⟨rfl, q⟩⟩) rfl (x.pl _)⟩
    | _, _ => none
  | tgt, e => eVal f Γ tgt e

/-! comprehensions -/
noncomputable def frees (ns : List Str) : List (Str × NameKind) → Option (List Str × List Nat)
  | [] => some ([], [])
  | (y, k) :: r => (frees ns r).bind fun q => if k = .free then (slot ns y).map fun i => (y :: q.1, i :: q.2) else some q
theorem frees_ok {ns : List Str} {ls : Ls} : ∀ {names : List (Str × NameKind)} {q}, frees ns names = some q → ∀ y, toL q.1 (q.2.map (getS ls)) y = open Classical in if (y, NameKind.free) ∈ names then toL ns ls y else none
  | [], q, h, y => by cases h; exact (if_neg (fun z => nomatch z)).symm
  | (x, k) :: r, q, h, y => by
    obtain ⟨q', h1, h2⟩ := Option.bind_eq_some_iff.mp h
    have ih := frees_ok (ls := ls) h1 y
    split at h2
    · rename_i hk
      obtain ⟨i, hi, rfl⟩ := Option.map_eq_some_iff.mp h2
      show (if y = x then getS ls i else toL q'.1 (q'.2.map (getS ls)) y) = _
      by_cases z : y = x
      · rw [if_pos z, if_pos (by rw [z, hk]; exact .head _), z]; exact (toL_get hi).symm
      · rw [if_neg z, ih]
        by_cases w : (y, NameKind.free) ∈ r
        · rw [if_pos w, if_pos (.tail _ w)]
        · rw [if_neg w, if_neg fun q => (List.mem_cons.mp q).elim (fun e => z (Prod.mk.inj e).1) w]
    · rename_i hk
      cases h2
      rw [ih]
      by_cases w : (y, NameKind.free) ∈ r
      · rw [if_pos w, if_pos (.tail _ w)]
      · rw [if_neg w, if_neg fun q => (List.mem_cons.mp q).elim (fun e => hk (Prod.mk.inj e).2.symm) w]
structure CompG (Γ : Gm) (scope : Scope) (x : Str) : Prop where
  all : ∀ y ∈ scope.names, y.2 ≠ .cell ∧ (y.2 = .local → scope.names.lookup y.1 = some .local) ∧ (y.2 = .free → scope.names.lookup y.1 = some .free ∧ Γ.kd.lookup y.1 = some .cell)
  kind : scope.kind = .function
  x : scope.names.lookup x = some .local
theorem CompG.ok {scope : Scope} {x : Str} (c : CompG Γ scope x) (G : GOk Γ κ) : CompOk κ.φ.f scope x := ⟨fun y hy => (c.all y hy).1, c.kind, fun y hy => (c.all y hy).2.1, c.x, fun y hy e =>
  have h := (c.all y hy).2.2 e
  ⟨.inl (G.ce _ h.2).1, (G.ce _ h.2).2, h.1⟩⟩
noncomputable abbrev Gm.inner (Γ : Gm) (scope : Scope) (x : Str) (fn : List Str) : Gm := ⟨Γ.T, x :: fn, scope.names⟩
theorem CompG.inner {scope : Scope} {x : Str} {fn} {f'} (c : CompG Γ scope x) (G : GOk Γ κ) (cf : CompF κ.φ.f scope f') : GOk (Γ.inner scope x fn) (κ.inner f') := ⟨G.tabs, fun y e => cf.kind e (fun z => nomatch z), fun y e => absurd rfl (c.all _ (mem_of_lookup e)).1⟩
structure KT (Γ : Gm) (ifs : List PySem.Expr) where
  c : Cd → Cd → Cd
  ok : ∀ {κ Q a b s ls σ}, GOk Γ κ → wp (c a b) κ.en Q s ls σ → WTs κ ifs (fun t l σ => l = toL Γ.ns ls ∧ brk2 (wp a κ.en Q s ls σ) (wp b κ.en Q s ls σ) t) (toL Γ.ns ls) σ
noncomputable def eT (f : FE) (Γ : Gm) : (ifs : List PySem.Expr) → Option (KT Γ ifs)
  | [] => some ⟨fun a _ => a, fun G h => WTs.nil ⟨rfl, h⟩⟩
  | [e] => (eB (f Γ) 4 e).bind fun x => some ⟨x.c, fun G h => WTs.one (x.ok G h)⟩
  | _ => none
structure KC (Γ : Gm) (elt : PySem.Expr) (x : Str) (px : Pos) (iter : PySem.Expr) (ifs : List PySem.Expr) (scope : Scope) where
  c : Cd → Cd
  ok : ∀ {κ Q k s ls σ}, GOk Γ κ → wp (c k) κ.en Q s ls σ → WIt κ (.Name x px) iter (CompQ κ scope x ifs elt fun v l σ => l = toL Γ.ns ls ∧ wp k κ.en Q (v :: s) ls σ) (toL Γ.ns ls) σ
  cg : CompG Γ scope x
theorem WIt.mono {tgt e} {Q Q' : List V → (MH → Prop) → Loc → MH → Prop} (h : WIt κ tgt e Q l σ) (k : ∀ ys Inv l σ, Q ys Inv l σ → Q' ys Inv l σ) : WIt κ tgt e Q' l σ := fun A s δ G F =>
  wpAny_mono (h A s δ G F) (fun r s1 h => wpAny_mono h (fun it s2 ⟨l1, σ1, δ1, P, its, ys, Inv, F, E, hits, live, W, hP, q⟩ => ⟨l1, σ1, δ1, P, its, ys, Inv, F, E, hits, live, W, hP, k _ _ _ _ q⟩) fun _ _ e => e) fun _ _ e => e
noncomputable def eComp (f : FE) (Γ : Gm) (elt : PySem.Expr) (x : Str) (px : Pos) (iter : PySem.Expr) (ifs : List PySem.Expr) (scope : Scope) : Option (KC Γ elt x px iter ifs scope) :=
  if hc : (∀ y ∈ scope.names, y.2 ≠ .cell ∧ (y.2 = .local → scope.names.lookup y.1 = some .local) ∧ (y.2 = .free → scope.names.lookup y.1 = some .free ∧ Γ.kd.lookup y.1 = some .cell)) ∧ scope.kind = .function ∧ scope.names.lookup x = some .local then
    match hq : frees Γ.ns scope.names with
    | some q => (eIt f Γ (.Name x px) iter).bind fun i => (eT f (Γ.inner scope x q.1) ifs).bind fun t => (f (Γ.inner scope x q.1) elt).bind fun e =>
      have cg : CompG Γ scope x := ⟨hc.1, hc.2.1, hc.2.2⟩
      some ⟨fun k => i.c (.comp i.it i.n q.2 (t.c (e.c .ret) .cnt) k), fun {κ Q k s ls σ} G h => by
        refine (i.ok (K := fun σ => CmpL (fun v Q σ => wp (t.c (e.c .ret) .cnt) κ.en.nx Q [] (some v :: q.2.map (getS ls)) σ) (fun v σ => wp k κ.en Q (v :: s) ls σ) σ) G (fun vs σ hn h => ?_) h).mono fun ys Inv l σ h => ?_
        · have := popN_rev (s := s) i.n vs [] hn h
          rw [List.append_nil] at this
          exact this
        · obtain ⟨rfl, I, h0, acc, turn, fin⟩ := h
          refine ⟨I, fun D hD => ⟨acc D, fun f' k v a σ2 cf hv hI => ?_⟩, h0, fun D a σ2 hD hI => ⟨rfl, fin D a σ2 hD hI⟩⟩
          have eq : upd (compLoc scope (toL Γ.ns ls)) x v = toL (x :: q.1) (some v :: q.2.map (getS ls)) := funext fun y => by
            show (if y = x then some v else compLoc scope (toL Γ.ns ls) y) = if y = x then some v else toL q.1 (q.2.map (getS ls)) y
            rw [frees_ok hq]; rfl
          rw [eq]
          have G' := cg.inner (fn := q.1) G cf
          exact fun A s δ gg F => ((t.ok G' (turn D k v a σ2 hD hv hI)) A s δ gg F).mono fun b l σ h => ⟨h.1, h.2.mono (fun h' => h.1 ▸ e.ok G' h') id⟩, cg⟩
    | none => none
  else none
end
end Mn
set_option genInjectivity false
namespace Mn
open PySem.SeqAt

section
variable {Γ : Gm} {κ : Cx} {l : Loc} {σ : MH}
theorem KL.pops {es : List PySem.Expr} (x : KL Γ es) {Q} {s : List V} {ls k} {K : List V → List V → MH → Prop} (G : GOk Γ κ) (h : wp (x.c k) κ.en Q s ls σ) (hk : ∀ (vs : List V) σ, wp k κ.en Q (vs.reverse ++ s) ls σ → popN es.length [] (vs.reverse ++ s) (fun vs s => K vs s σ)) :
    WArgs κ es (fun vs l σ => l = toL Γ.ns ls ∧ vs.length = es.length ∧ K vs s σ) (toL Γ.ns ls) σ := (x.ok G h).then fun vs σ h => ⟨rfl, h.1, by have := popN_rev _ vs [] h.1 (hk vs σ h.2); rwa [List.append_nil] at this⟩
theorem WBo.and2 {a b} {Q : V → Loc → MH → Prop} (h : WE κ a (fun v l1 σ1 => boolQ v fun c => brk2 (WE κ b Q l1 σ1) (Q (.bool false) l1 σ1) c) l σ) : WBo κ .And [a, b] Q l σ := .andC (h.mono fun v l σ h => asB_of (h.mono fun c h => by
  cases c
  · rw [if_pos rfl]; exact h
  · rw [if_neg (fun z => nomatch z)]; exact .last h))
noncomputable def eE1 (r : FE) (Γ : Gm) (e : PySem.Expr) : Option (KE Γ e) := match e with
    | .Constant (.int i) _ _ => some ⟨.lit (.int i), fun G h => WE.cInt ⟨rfl, h⟩⟩
    | .Constant (.bool i) _ _ => some ⟨.lit (.bool i), fun G h => WE.cBool ⟨rfl, h⟩⟩
    | .Constant .none _ _ => some ⟨.lit .none, fun G h => WE.cNone ⟨rfl, h⟩⟩
    | .Constant (.bytes i) _ _ => some ⟨.lit (.bytes i.toArray), fun G h => WE.cBytes ⟨rfl, h⟩⟩
    | .Name x p => eName Γ x p
    | .Attribute o x p => if hf : form o ≠ 0 ∧ form o ≠ 5 then (r Γ o).bind fun y => some ⟨fun k => y.c (.fld x k), fun G h => WE.attr ((y.ok G h).then fun v σ h => (Pv.at h).mono fun w σ h => ⟨rfl, h⟩) (base_of hf.1 hf.2 _ _ _)⟩ else none
    | .Subscript o (.Slice none (some u) none sp) p => (r Γ o).bind fun x => (r Γ u).bind fun y => some ⟨fun k => x.c (y.c (.slc false k)), fun G h => WE.sliceTo ((x.ok G h).then fun v σ h => (y.ok G h).then fun w σ h => by
        cases h with
        | mk a xs k hσ hz q => exact ⟨a, xs, k, hσ, hz, fun b hb => ⟨rfl, q b hb⟩⟩)⟩
    | .Subscript o (.Slice (some u) none none sp) p => (r Γ o).bind fun x => (r Γ u).bind fun y => some ⟨fun k => x.c (y.c (.slc true k)), fun G h => WE.sliceFrom ((x.ok G h).then fun v σ h => (y.ok G h).then fun w σ h => by
        cases h with
        | mk a xs k hσ hz q => exact ⟨a, xs, k, hσ, hz, fun b hb => ⟨rfl, q b hb⟩⟩)⟩
    | .Subscript o i p => if hf : form i ≠ 0 then (r Γ o).bind fun x => (r Γ i).bind fun y => some ⟨fun k => x.c (y.c (.ix k)), fun G h => WE.sub ((x.ok G h).then fun v σ h => (y.ok G h).then fun w σ h =>
        fun A s δ l ra rb gg F ha hb => have q := Pg.at h A s δ l ra rb gg F ha hb
          ⟨q.1, q.2.mono fun v l σ h => ⟨h.1, rfl, h.2⟩⟩) (Form.of hf).sub⟩ else none
    | .BinOp a op b p => (r Γ a).bind fun x => (r Γ b).bind fun y => some ⟨fun k => x.c (y.c (.bin op k)), fun G h => WE.binop ((x.ok G h).then fun v σ h => (y.ok G h).then fun w σ h => (run_bin h).at.mono fun r σ h => ⟨rfl, h⟩)⟩
    | .UnaryOp op a p => (r Γ a).bind fun x => some ⟨fun k => x.c (.una op k), fun G h => WE.unop ((x.ok G h).then fun v σ h => (run_una h).at.mono fun r σ h => ⟨rfl, h⟩)⟩
    | .Compare a [.Is] [.Constant .none kk pp] p => (r Γ a).bind fun x => some ⟨fun k => x.c (.isn true k), fun G h => WE.cmp1 ((x.ok G h).then fun v σ h => WE.cNone (PV.isNone h.1 ⟨rfl, h.2⟩)) rfl⟩
    | .Compare a [.IsNot] [.Constant .none kk pp] p => (r Γ a).bind fun x => some ⟨fun k => x.c (.isn false k), fun G h => WE.cmp1 ((x.ok G h).then fun v σ h => WE.cNone (PV.isNotNone h.1 ⟨rfl, h.2⟩)) rfl⟩
    | .Compare a [op] [b] p => if hf : form b ≠ 0 then (r Γ a).bind fun x => (r Γ b).bind fun y => some ⟨fun k => x.c (y.c (.cmp op k)), fun G h => WE.cmp1 ((x.ok G h).then fun v σ h => (y.ok G h).then fun w σ h => (run_cmp h).at.mono fun r σ h => ⟨rfl, h⟩) ((Form.of hf).marks op)⟩ else none
    | .BoolOp .And [a, b] p => (r Γ a).bind fun x => (r Γ b).bind fun y => some ⟨fun k => x.c (.br (y.c k) (.lit (.bool false) k)), fun G h => WE.bo (WBo.and2 ((x.ok G h).then fun v σ h => h.mono fun c h => h.mono (fun h => y.ok G h) fun h => ⟨rfl, h⟩))⟩
    | .IfExp t a b p => (eB (r Γ) 4 t).bind fun z => (r Γ a).bind fun x => (r Γ b).bind fun y => some ⟨fun k => z.c (x.c k) (y.c k), fun G h => WE.ifexp ((z.ok G h).then fun c σ h => h.mono (fun h => x.ok G h) fun h => y.ok G h)⟩
    | .Tuple es kk p => if hz : es.length ≤ 100 then (eL (r Γ) es).bind fun x => some ⟨fun k => x.c (.tup es.length k), fun {κ Q k s ls σ} G h => WE.tuple ((x.pops (K := fun vs s σ => wp k κ.en Q (.tup vs :: s) ls σ) G h fun vs σ h => h).then fun vs σ h => ⟨by rw [h.1]; exact Nat.le_trans hz (Nat.le_of_ble_eq_true rfl), rfl, h.2⟩)⟩ else none
    | .List es p => if hz : es.length ≤ 100 then (eL (r Γ) es).bind fun x => some ⟨fun k => x.c (.lst es.length k), fun {κ Q k s ls σ} G h => WE.list ((x.pops (K := fun vs s σ => ∀ a, σ a = none → wp k κ.en Q (.ref a :: s) ls (upd σ a (.list vs))) G h fun vs σ h => h).then fun vs σ h => ⟨by rw [h.1]; exact Nat.le_trans hz (Nat.le_of_ble_eq_true rfl), fun a ha => ⟨rfl, h.2 a ha⟩⟩)⟩ else none
    | .Call (.Name g pg) args [] p => (eFn Γ g).bind fun F => (eL (r Γ) args).bind fun x => some ⟨fun k => x.c (.call F.v args.length k), fun {κ Q k s ls σ} G h => WE.call (F.ok G fun kp => ⟨kp, (x.pops (K := fun vs s σ => Pv κ.en tcall (F.v :: vs) (fun v σ => wp k κ.en Q (v :: s) ls σ) σ) G h fun vs σ h => h).then fun vs σ h => h.2.at.mono fun r σ q => ⟨rfl, q⟩⟩) rfl (x.pl _)⟩
    | .Call (.Attribute (.Name o po) x apos) args [] pos => match hs : slot Γ.ns o, hc : Γ.T.cf.lookup x with
      | none, some fn => if hg : Γ.T.gf.lookup o = some Γ.T.H ∧ okName o = true ∧ Γ.kd.lookup o = some .globalImplicit ∧ args.length < 30 ∧ (apos.endLine == pos.line) = true then
          (eL (r Γ) args).bind fun z => some ⟨fun k => z.c (.call (.ref fn) args.length k), fun {κ Q k s ls σ} G h => by
            obtain ⟨mc, hm⟩ := G.tabs.cf x fn hc
            exact WE.methC (mc := mc) (WE.glob (G.tabs.gf o _ hg.1).ns (G.gk o hg.2.2.1) (fun _ => .ref _) ⟨_, fn, rfl, hm, (z.pops (K := fun vs s σ => Pv κ.en tcall (.ref fn :: vs) (fun v σ => wp k κ.en Q (v :: s) ls σ) σ) G h fun vs σ h => h).then fun vs σ h => h.2.at.mono fun r σ q => ⟨rfl, q⟩⟩ (okN hg.2.1).db)
              (eval_meth ⟨(fun z => nomatch z), fun z => nomatch z⟩ hg.2.2.2.1 hg.2.2.2.2 (z.pl _)) (z.pl _)⟩ else none
      | _, _ => eCall r Γ apos pos (.Name o po) x args
    | .Call (.Attribute o x apos) args [] pos => eCall r Γ apos pos o x args
    | .ListComp elt [⟨.Name x px, iter, ifs, 0⟩] scope pos => if hf : form iter ≠ 0 then (eComp r Γ elt x px iter ifs scope).bind fun y => some ⟨y.c, fun G h => WE.comp (y.cg.ok G) (y.ok G h) ((Form.of hf).set _)⟩ else none
    | _ => none
noncomputable def eE : Nat → FE
  | 0 => fun _ _ => none
  | n + 1 => eE1 (eE n)
end
end Mn
set_option genInjectivity false
namespace Mn
open PySem.SeqAt

noncomputable def semPure {α : Type} : Sem α → Option α
  | .pure a => some a
  | _ => none
theorem semPure_some {α : Type} {m : Sem α} {a : α} (h : semPure m = some a) : m = pure a := by
  cases m <;> cases h
  rfl
/-- an environment that has the names' kinds alone -/
noncomputable def fk (kd : List (Str × NameKind)) : Env := { scope := ⟨.function, kd, false, false, []⟩, locals := 0, globals := 0, cells := [] }
structure GS (Γ : Gm) (κ : Cx) : Prop where
  tabs : TabsOk Γ.T κ.φ.g.K
  names : κ.φ.f.env.scope.names = Γ.kd
  kind : κ.φ.f.env.scope.kind = .function
  own : CellsOwn κ.φ.f
  cX : κ.φ.g.cX = Γ.T.cX
  sole : Γ.kd.all (fun x => x.2 != .cell) = true → Sole κ.φ
section
variable {Γ : Gm} {κ : Cx} {l : Loc} {σ : MH}
theorem GS.nx (G : GS Γ κ) : GS Γ κ.nx := ⟨G.tabs, G.names, G.kind, G.own, G.cX, G.sole⟩
theorem GS.kd (G : GS Γ κ) (x : Str) : κ.φ.f.env.kindOf x = Γ.kd.lookup x := by unfold Env.kindOf; rw [G.names]
theorem GS.ok (G : GS Γ κ) : GOk Γ κ := ⟨G.tabs, fun x h => (G.kd x).trans h, fun x h => ⟨(G.kd x).trans h, let ⟨c, hc, _⟩ := G.own x ((G.kd x).trans h); ⟨c, hc⟩⟩⟩
theorem GS.bk (G : GS Γ κ) : κ.φ.f.env.blockKind = .function := by unfold Env.blockKind; rw [G.kind]; rfl
theorem GS.my (G : GS Γ κ) {x : Str} (h : Γ.kd.lookup x = some .local ∨ Γ.kd.lookup x = some .cell) : MyName κ x := h.elim (fun h => .inl ((G.kd x).trans h)) fun h => .inr ⟨(G.kd x).trans h, G.own⟩
theorem GS.stores (G : GS Γ κ) (ts : List PySem.Expr) (v : PySem.Expr) : swappedStores ts v κ.φ.f.env = swappedStores ts v (fk Γ.kd) := by
  delta swappedStores
  rw [show (fk Γ.kd).blockKind = .function from rfl, G.bk, show κ.φ.f.env.kindOf = (fk Γ.kd).kindOf from funext G.kd]
theorem GS.swaps (G : GS Γ κ) (v : PySem.Expr) (t : Option PySem.Expr) (n : Nat) : swapsWith v t n κ.φ.f.env = swapsWith v t n (fk Γ.kd) := by
  delta swapsWith
  rw [show (fk Γ.kd).blockKind = .function from rfl, G.bk, show κ.φ.f.env.kindOf = (fk Γ.kd).kindOf from funext G.kd, show (fk Γ.kd).scope.kind = .function from rfl, G.kind]

noncomputable def aft (Γ : Gm) (κ : Cx) (k : Cd) (Q : Fw → Ls → MH → Prop) : Fw → Loc → MH → Prop
  | .next, l, σ => ∃ ls, l = toL Γ.ns ls ∧ wp k κ.en Q [] ls σ
  | w, l, σ => ∃ ls, l = toL Γ.ns ls ∧ Q w ls σ
variable (Γ) in
structure KS1 (st : PySem.Stmt) where
  c : Cd → Cd
  ok : ∀ {κ Q k ls σ}, GS Γ κ → wp (c k) κ.en Q [] ls σ → WS1 κ st (aft Γ κ k Q) (toL Γ.ns ls) σ
variable (Γ) in
structure KS (ss : List PySem.Stmt) where
  c : Cd → Cd
  ok : ∀ {κ Q k ls σ}, GS Γ κ → wp (c k) κ.en Q [] ls σ → WS κ ss (aft Γ κ k Q) (toL Γ.ns ls) σ
variable (Γ) in
structure KA (t : PySem.Expr) where
  c : Cd → Cd
  ok : ∀ {κ Q k v s ls σ}, GS Γ κ → wp (c k) κ.en Q (v :: s) ls σ → WA κ t v (fun l σ => ∃ ls, l = toL Γ.ns ls ∧ wp k κ.en Q s ls σ) (toL Γ.ns ls) σ
noncomputable def eSs (f : ∀ st, Option (KS1 Γ st)) : (ss : List PySem.Stmt) → Option (KS Γ ss)
  | [] => some ⟨fun k => k, fun G h => WS.nil ⟨_, rfl, h⟩⟩
  | st :: ss => ((f st).or (some ⟨fun _ => .bad, fun _ h => h.elim⟩)).bind fun x => (eSs f ss).bind fun y => some ⟨fun k => x.c (y.c k), fun G h => WS.cons ((x.ok G h).mono fun w l σ h => by
      cases w with
      | next => obtain ⟨ls, rfl, h⟩ := h; exact y.ok G h
      | _ => exact h)⟩
/-! targets -/
noncomputable abbrev KNs (Γ : Gm) (ts : List PySem.Expr) := { is : List Nat // (∀ env, (assignEach ts env).length = ts.length ∧ (assignEach ts env).findIdx? (·.1) = none) ∧ ∀ {κ : Cx} {vs ls σ} {K : Ls → MH → Prop}, GS Γ κ → setAll is vs ls (fun ls => K ls σ) → vs.length = ts.length ∧ WAs κ ts vs (fun l σ => ∃ ls, l = toL Γ.ns ls ∧ K ls σ) (toL Γ.ns ls) σ }
noncomputable def eNames1 (Γ : Gm) {ts : List PySem.Expr} (x : Str) (p : Pos) (r : KNs Γ ts) : Option (KNs Γ (.Name x p :: ts)) := if hx : Γ.kd.lookup x = some .local ∨ Γ.kd.lookup x = some .cell then
      match hs : slot Γ.ns x with
      | some i => some ⟨i :: r.1, fun env => ⟨congrArg (· + 1) (r.2.1 env).1, (List.findIdx?_cons ..).trans (by rw [(r.2.1 env).2]; rfl)⟩, fun {κ vs ls σ K} G h => by
          cases vs with
          | nil => exact h.elim
          | cons v vs =>
            have q := r.2.2 (K := K) G h
            exact ⟨congrArg (· + 1) q.1, WAs.cons (WA.name (G.my hx) (toL_set hs ▸ q.2)) rfl⟩⟩
      | none => none
    else none
noncomputable def eNames (Γ : Gm) : (ts : List PySem.Expr) → Option (KNs Γ ts)
  | [] => some ⟨[], fun _ => ⟨rfl, rfl⟩, fun {κ vs ls σ K} G h => by
      cases vs with
      | nil => exact ⟨rfl, WAs.nil ⟨_, rfl, h⟩⟩
      | cons => exact h.elim⟩
  | .Name x p :: ts => (eNames Γ ts).bind (eNames1 Γ x p)
  | _ => none
theorem PU.mono {t vs σ} {Q Q' : MH → Prop} (h : PU κ t vs Q σ) (k : ∀ σ, Q σ → Q' σ) : PU κ t vs Q' σ := fun A s δ l rs G F hv => (h A s δ l rs G F hv).mono fun _ _ _ h => ⟨h.1, k _ h.2⟩
noncomputable def eA (f : FE) (Γ : Gm) : (t : PySem.Expr) → Option (KA Γ t)
  | .Name x p => if hx : Γ.kd.lookup x = some .local ∨ Γ.kd.lookup x = some .cell then
      match hs : slot Γ.ns x with
      | some i => some ⟨.st i, fun G h => WA.name (G.my hx) ⟨_, toL_set hs, h⟩⟩
      | none => none
    else none
  | .Attribute o x p => (f Γ o).bind fun y => some ⟨fun k => y.c (.stf x k), fun G h => WA.attr ((y.ok G.ok h).then fun v σ h => (Pu.at h).mono fun σ h => ⟨_, rfl, h⟩)⟩
  | .Subscript o i p => (f Γ o).bind fun x => (f Γ i).bind fun y => some ⟨fun k => x.c (y.c (.stx k)), fun G h => WA.sub ((x.ok G.ok h).then fun v σ h => (y.ok G.ok h).then fun w σ h => (Pu.at h).mono fun σ h => ⟨_, rfl, h⟩)⟩
  | .Tuple ts kk p => (eNames Γ ts).bind fun r => some ⟨fun k => .unp false r.1 k, fun {κ Q k v s ls σ} G h => by
      cases v with
      | tup vs =>
        have q := r.2.2 (K := fun ls σ => wp k κ.en Q s ls σ) G h
        exact WA.tuple q.2 ((r.2.1 _).1.trans q.1.symm) (r.2.1 _).2
      | _ => exact h.elim⟩
  | _ => none
noncomputable abbrev KNm (Γ : Gm) (xs : List Str) := { is : List Nat // ∀ {κ : Cx} {vs ls σ} {K : Ls → MH → Prop}, GS Γ κ → setAll is vs ls (fun ls => K ls σ) → vs.length = xs.length ∧ WNms κ xs vs (fun l σ => ∃ ls, l = toL Γ.ns ls ∧ K ls σ) (toL Γ.ns ls) σ }
noncomputable def eNms1 (Γ : Gm) {xs : List Str} (x : Str) (r : KNm Γ xs) : Option (KNm Γ (x :: xs)) := if hx : Γ.kd.lookup x = some .local ∨ Γ.kd.lookup x = some .cell then
      match hs : slot Γ.ns x with
      | some i => some ⟨i :: r.1, fun {κ vs ls σ K} G h => by
          cases vs with
          | nil => exact h.elim
          | cons v vs =>
            have q := r.2 (K := K) G h
            exact ⟨congrArg (· + 1) q.1, WNms.cons (G.my hx) (toL_set hs ▸ q.2)⟩⟩
      | none => none
    else none
noncomputable def eNms (Γ : Gm) : (xs : List Str) → Option (KNm Γ xs)
  | [] => some ⟨[], fun {κ vs ls σ K} G h => by
      cases vs with
      | nil => exact ⟨rfl, WNms.nil ⟨_, rfl, h⟩⟩
      | cons => exact h.elim⟩
  | x :: xs => (eNms Γ xs).bind (eNms1 Γ x)
/-! statements -/
theorem loop_aft {k Q C w l σ} (h : aft Γ κ.nx .fin (loopC C (fun ls σ => wp k κ.en Q [] ls σ) Q) w l σ) : loopQ (fun l σ => ∃ ls, l = toL Γ.ns ls ∧ C ls σ) (aft Γ κ k Q) w l σ := by
  cases w <;> exact h
theorem loopQ.mono {C C' : Loc → MH → Prop} {Q w l σ} (h : loopQ C Q w l σ) (k : C l σ → C' l σ) : loopQ C' Q w l σ := by
  cases w
  · exact k h
  · exact h
  · exact k h
  · exact h
noncomputable def eSwp (f : FE) (Γ : Gm) (pos : Pos) (value : PySem.Expr) (names : List Str) : (t : PySem.Expr) → swapsWith value (some t) pos.line (fk Γ.kd) = pure false → swappedStores [t] value (fk Γ.kd) = pure (some names) → Option (KS1 Γ (.Assign [t] value pos))
  | .Tuple elts kk tp, hs, hw => (eNms Γ names.reverse).bind fun r => (f Γ value).bind fun y => some ⟨fun k => y.c (.unp true r.1 k), fun {κ Q k ls σ} G h => WS1.assignSwap ((y.ok G.ok h).then fun v σ h => by
          cases v with
          | tup vs =>
            have q := r.2 (vs := vs.reverse) (K := fun ls σ => wp k κ.en Q [] ls σ) G h
            exact ⟨vs, rfl, by have := q.1; rwa [List.length_reverse, List.length_reverse] at this, q.2⟩
          | _ => exact h.elim) ((G.swaps _ _ _).trans hs) ((G.stores _ _).trans hw)⟩
  | _, _, _ => none
noncomputable def eGen (f : FE) (Γ : Gm) (pos : Pos) (t value : PySem.Expr) : Option (KS1 Γ (.Assign [t] value pos)) :=
  if hc : form t ≠ 0 ∧ form value ≠ 0 then
    match hs : semPure (swapsWith value (some t) pos.line (fk Γ.kd)), hw : semPure (swappedStores [t] value (fk Γ.kd)) with
    | some false, some (some names) => eSwp f Γ pos value names t (semPure_some hs) (semPure_some hw)
    | some false, some none => (eA f Γ t).bind fun x => (f Γ value).bind fun y => some ⟨fun k => y.c (x.c k), fun G h => WS1.assign ((y.ok G.ok h).then fun v σ h => x.ok G h) ((G.swaps _ _ _).trans (semPure_some hs)) ((G.stores _ _).trans (semPure_some hw)) (by rw [(Form.of hc.1).asg]; rfl)⟩
    | _, _ => none
  else none
noncomputable def eAssign (f : FE) (Γ : Gm) (pos : Pos) : (t value : PySem.Expr) → Option (KS1 Γ (.Assign [t] value pos))
  | .Name y py, .ListComp elt [⟨.Name x px, iter, ifs, 0⟩] scope lp =>
      match hs : slot Γ.ns y, hw : semPure (swapsWith (.ListComp elt [⟨.Name x px, iter, ifs, 0⟩] scope lp) (some (.Name y py)) pos.line (fk Γ.kd)) with
      | some i, some true => if hy : (Γ.kd.lookup y = some .local ∨ Γ.kd.lookup y = some .cell) ∧ form iter ≠ 0 then (eComp f Γ elt x px iter ifs scope).bind fun z => some ⟨fun k => z.c (.st i k), fun G h => WS1.assignComp (z.cg.ok G.ok) (G.my hy.1) ((z.ok G.ok h).mono fun ys Inv l σ ⟨I, T, h0, h1⟩ => ⟨I, T, h0, fun D acc σ2 hD hI => by
            obtain ⟨rfl, h⟩ := h1 D acc σ2 hD hI
            exact ⟨_, toL_set hs, h⟩⟩) ((G.swaps _ _ _).trans (semPure_some hw)) ((Form.of hy.2).set _)⟩ else none
      | _, _ => eGen f Γ pos (.Name y py) (.ListComp elt [⟨.Name x px, iter, ifs, 0⟩] scope lp)
  | t, value => eGen f Γ pos t value
noncomputable def eAug (f : FE) (Γ : Gm) (op : Operator) (value : PySem.Expr) (pos : Pos) : (t : PySem.Expr) → Option (KS1 Γ (.AugAssign t op value pos))
  | .Name x p => if hx : (Γ.kd.lookup x = some .local ∨ Γ.kd.lookup x = some .cell) ∧ okName x = true then
      match hs : slot Γ.ns x with
      | some i => (f Γ value).bind fun y => some ⟨fun k => .ld i (y.c (.inp op (.st i k))), fun G h => by
          obtain ⟨v, hv, h⟩ := optQ_some h
          exact WS1.augName ((toL_get hs).trans hv) (G.my hx.1) ((y.ok G.ok h).then fun w σ h => (run_inp h).at.mono fun r σ h => ⟨_, toL_set hs, h⟩) (okN hx.2).cd⟩
      | none => none
    else none
  | .Attribute o x p => (f Γ o).bind fun y => (f Γ value).bind fun z => some ⟨fun k => y.c (.dup 1 (.fld x (z.c (.inp op (.stfr x k))))), fun G h => WS1.augAttr ((y.ok G.ok h).then fun o σ h => (Pv.at h).mono fun old σ h => (z.ok G.ok h).then fun v σ h =>
      (run_inp h).at.mono fun r σ h => (Pu.at h).mono fun σ h => ⟨_, rfl, h⟩)⟩
  | .Subscript o i p => if hi : form i ≠ 0 then (f Γ o).bind fun x => (f Γ i).bind fun y => (f Γ value).bind fun z => some ⟨fun k => x.c (y.c (.dup 2 (.ix (z.c (.inp op (.stxr k)))))), fun G h => WS1.augSub ((x.ok G.ok h).then fun o σ h => (y.ok G.ok h).then fun i σ h =>
      fun A s δ l ra rb gg F ha hb => have q := Pg.at h A s δ l ra rb gg F ha hb
        ⟨q.1, q.2.mono fun old l σ h => ⟨h.1, (z.ok G.ok h.2).then fun v σ h => (run_inp h).at.mono fun r σ h => (Pu.at h).mono fun σ h => ⟨_, rfl, h⟩⟩⟩) (Form.of hi).aug⟩ else none
  | _ => none
noncomputable def eS1 (f : FE) (Γ : Gm) (r : ∀ st, Option (KS1 Γ st)) (st : PySem.Stmt) : Option (KS1 Γ st) := match st with
    | .If test body orelse pos => (eB (f Γ) 4 test).bind fun z => (eSs r body).bind fun x => (eSs r orelse).bind fun y => some ⟨fun k => z.c (x.c k) (y.c k), fun G h => WS1.ite ((z.ok G.ok h).then fun t σ h => h.mono (fun h => x.ok G h) fun h => y.ok G h)⟩
    | .While test body [] pos => (eB (f Γ) 4 test).bind fun z => (eSs r body).bind fun x => some ⟨fun k => .whl (z.c (x.c .fin) .brk) k, fun {κ Q k ls σ} G h => by
        obtain ⟨I, m, h0, turn⟩ := h
        exact WS1.whileI (fun n l σ => ∃ ls, l = toL Γ.ns ls ∧ I n ls σ) (fun n l σ ⟨ls, e, hI⟩ => e ▸ (z.ok G.ok.nx (turn n ls σ hI)).then fun t σ h => h.mono (fun h => (x.ok G.nx h).mono fun w l σ h => (loop_aft h).mono fun ⟨ls, e, m, hm, h⟩ => ⟨m, hm, ls, e, h⟩) fun h => ⟨_, rfl, h⟩) m ⟨ls, rfl, h0⟩⟩
    | .For tgt iter body [] pos => if hf : form iter ≠ 0 then (eIt f Γ tgt iter).bind fun i => (eA f Γ tgt).bind fun a => (eSs r body).bind fun x => some ⟨fun k => i.c (.forl i.it i.n (a.c (x.c .fin)) k), fun {κ Q k ls σ} G h => by
        refine WS1.forI ((i.ok (K := fun σ => ForL (fun v Q ls σ => wp (a.c (x.c .fin)) κ.en.nx Q [v] ls σ) (fun ls σ => wp k κ.en Q [] ls σ) Q ls σ) G.ok (fun vs σ hn h => ?_) h).mono fun ys Inv l σ h => ?_) ((Form.of hf).set _)
        · have := popN_rev (s := []) i.n vs [] hn h
          rw [List.append_nil] at this
          exact this
        · obtain ⟨rfl, I, h0, inv, turn, fin⟩ := h
          refine ⟨fun n l σ => ∃ ls, l = toL Γ.ns ls ∧ I n ls σ, ⟨ls, rfl, h0⟩, fun k l σ ⟨ls, _, hI⟩ => inv k ls σ hI, fun k v l σ hv ⟨ls, e, hI⟩ => ?_, fun l σ ⟨ls, e, hI⟩ => ⟨ls, e, fin ls σ hI⟩⟩
          subst e
          exact fun A s δ rv gg F hr => (a.ok G.nx (turn k v ls σ hv hI) A s δ rv gg F hr).mono fun _ l σ ⟨ls, e, h⟩ => e ▸ (x.ok G.nx h).mono fun w l σ h => loop_aft h⟩ else none
    | .Return (some e) pos => (f Γ e).bind fun x => some ⟨fun _ => x.c .ret, fun G h => WS1.ret ((x.ok G.ok h).then fun v σ h => ⟨_, rfl, h⟩)⟩
    | .Return none pos => some ⟨fun _ => .lit .none .ret, fun G h => WS1.ret0 ⟨_, rfl, h⟩⟩
    | .Pass pos => some ⟨fun k => k, fun G h => WS1.pass ⟨_, rfl, h⟩⟩
    | .Break pos => some ⟨fun _ => .brk, fun G h => WS1.brk ⟨_, rfl, h⟩⟩
    | .Expr e pos => if hf : form e ≠ 0 ∧ form e ≠ 13 then (f Γ e).bind fun x => some ⟨fun k => x.c (.pop k), fun G h => WS1.expr ((x.ok G.ok h).then fun v σ h => ⟨_, rfl, h⟩) (swap_of hf.1 hf.2 _ _ _)⟩ else none
    | .Assign [t] value pos => eAssign f Γ pos t value
    | .AugAssign t op value pos => eAug f Γ op value pos t
    | .Raise (some (.Call (.Name x np) [.Constant (.bytes b) kb bp] [] cpos)) none pos => if hx : Γ.kd.lookup x = some .globalImplicit ∧ Γ.T.gf.lookup x = some Γ.T.cX ∧ okName x = true then
        some ⟨fun _ => .raz, fun {κ Q k ls σ} G h => by
          obtain ⟨N, fI, fd, H⟩ := G.tabs.ex
          exact WS1.raise (G.cX.symm ▸ H) (G.cX.symm ▸ (G.tabs.gf _ _ hx.2.1).ns) ((G.kd x).trans hx.1) (Nat.le_of_ble_eq_true h.1) h.2 (okN hx.2.2).db⟩ else none
    | .Try body [.ExceptHandler (some (.Name x np)) none [.Return (some (.Constant (.bool b) bk bp)) rpos] hpos] [] [] pos => if hx : Γ.kd.lookup x = some .globalImplicit ∧ Γ.T.gf.lookup x = some Γ.T.cX ∧ okName x = true ∧ Γ.kd.all (fun x => x.2 != .cell) = true then
        (eSs r body).bind fun z => some ⟨fun k => .trx (z.c .fin) b k, fun {κ Q k ls σ} G h => by
          obtain ⟨N, fI, fd, H⟩ := G.tabs.ex
          refine WS1.tryRet (X' := fun σ => Q (.ret (.bool b)) [] σ) (G.cX.symm ▸ H) (G.cX.symm ▸ (G.tabs.gf _ _ hx.2.1).ns) ((G.kd x).trans hx.1) (G.sole hx.2.2.2) ((z.ok (κ := ⟨κ.φ, κ.d, fun σ => Q (.ret (.bool b)) [] σ⟩) ⟨G.tabs, G.names, G.kind, G.own, G.cX, G.sole⟩ h).mono fun w l σ h => ?_) (fun σ1 h => ⟨[], (toL_nil _).symm, h⟩) (okN hx.2.2.1).db
          cases w <;> obtain ⟨ls, e, h⟩ := h <;> exact ⟨ls, e, h⟩⟩ else none
    | _ => none
noncomputable def eS (f : FE) (Γ : Gm) : Nat → (st : PySem.Stmt) → Option (KS1 Γ st)
  | 0 => fun _ => none
  | n + 1 => eS1 f Γ (eS f Γ n)
end
end Mn
set_option genInjectivity false
namespace Mn
open PySem.SeqAt

/-! a function and its code -/
noncomputable def fnAt (K : Frag) (a : Addr) : FuncData := match K.lookup a with | some ⟨_, _, .func fd, _⟩ => fd | _ => default
noncomputable def bodyOf (fd : FuncData) : List PySem.Stmt := match fd.body with | .stmts b => b | _ => []
noncomputable def isFnB (K : Frag) (a : Addr) : Bool := match K.lookup a with | some ⟨_, _, .func _, _⟩ => true | _ => false
noncomputable def fnChk (K : Frag) (fn : Addr) (ps : List Str) : Bool :=
  isFnB K fn && codeIn K (fnAt K fn).code (fnAt K fn).qualname && (match (fnAt K fn).body with | .stmts _ => true | _ => false) && (fnAt K fn).globals == mainGlobals && (fnAt K fn).builtins == builtinsNs &&
  (fnAt K fn).closure.isEmpty && ps.all (fun x => (fnAt K fn).scope.names.lookup x == some .local || (fnAt K fn).scope.names.lookup x == some .cell) && decide ps.Nodup &&
  !(fnAt K fn).scope.isCoroutine && !(fnAt K fn).scope.isGenerator && (fnAt K fn).scope.kind == .function
structure FnOk (K : Frag) (fn : Addr) (ps : List Str) : Prop where
  isfn : fnK K fn (fnAt K fn)
  code : codeIn K (fnAt K fn).code (fnAt K fn).qualname = true
  body : (fnAt K fn).body = .stmts (bodyOf (fnAt K fn))
  gl : (fnAt K fn).globals = mainGlobals
  bu : (fnAt K fn).builtins = builtinsNs
  clo : (fnAt K fn).closure = []
  loc : ∀ x ∈ ps, (fnAt K fn).scope.names.lookup x = some .local ∨ (fnAt K fn).scope.names.lookup x = some .cell
  nd : ps.Nodup
  co : (fnAt K fn).scope.isCoroutine = false
  gen : (fnAt K fn).scope.isGenerator = false
  kind : (fnAt K fn).scope.kind = .function
theorem FnOk.of {K fn ps} (h : fnChk K fn ps = true) : FnOk K fn ps := by
  unfold fnChk at h
  simp only [Bool.and_eq_true] at h
  obtain ⟨⟨⟨⟨⟨⟨⟨⟨⟨⟨h1, h2⟩, h3⟩, h4⟩, h5⟩, h6⟩, h7⟩, h8⟩, h9⟩, h10⟩, h11⟩ := h
  refine ⟨?_, h2, ?_, eq_of_beq h4, eq_of_beq h5, List.isEmpty_iff.mp h6, fun x hx => ?_, of_decide_eq_true h8, Bool.not_eq_true' _ ▸ h9, Bool.not_eq_true' _ ▸ h10, eq_of_beq h11⟩
  · delta isFnB at h1
    delta fnAt
    cases e : K.lookup fn with
    | none => rw [e] at h1; cases h1
    | some o =>
      rw [e] at h1
      obtain ⟨oc, od, d, sl⟩ := o
      cases d with
      | func fd => exact ⟨oc, od, sl, e⟩
      | _ => cases h1
  · delta bodyOf
    generalize (fnAt K fn).body = b at h3
    cases b with
    | stmts b => rfl
    | _ => cases h3
  · have := List.all_eq_true.mp h7 x hx
    rw [Bool.or_eq_true] at this
    exact this.imp eq_of_beq eq_of_beq
noncomputable def codeOf (T : Tabs) (K : Frag) (fn : Addr) (ns : List Str) : Option Cd := (eSs (eS (eE 40) ⟨T, ns, (fnAt K fn).scope.names⟩ 20) (bodyOf (fnAt K fn))).map fun x => x.c .fin
noncomputable def retC (Q : V → MH → Prop) : Fw → Ls → MH → Prop
  | .next => fun _ => Q .none
  | .ret v => fun _ => Q v
  | _ => fun _ _ => False
theorem lookup_rev {x : Str} : ∀ {l : List (Str × V)}, (l.map (·.1)).Nodup → l.reverse.lookup x = l.lookup x
  | [], _ => rfl
  | (y, v) :: r, nd => by
    rw [List.map_cons, List.nodup_cons] at nd
    rw [List.reverse_cons, List.lookup_append, lookup_rev nd.2, List.lookup_cons, List.lookup_cons]
    by_cases z : x = y
    · have e : r.lookup x = none := isNone_of fun w e => nd.1 (List.mem_map.mpr ⟨_, mem_of_lookup e, z⟩)
      rw [e, beq_iff_eq.mpr z]; rfl
    · rw [beq_eq_false_iff_ne.mpr z]; exact Option.or_none
noncomputable def pad (vs : List V) (rest : List Str) : Ls := vs.map some ++ rest.map fun _ => none
theorem toL_none {x : Str} : ∀ {rest : List Str}, toL rest (rest.map fun _ => none) x = none
  | [] => rfl
  | n :: r => by
    show (if x = n then none else toL r (r.map fun _ => none) x) = none
    rw [toL_none]; exact ite_self _
theorem zip_toL {x : Str} : ∀ {ps rest : List Str} {vs : List V}, ps.length = vs.length → (ps.zip vs).lookup x = toL (ps ++ rest) (pad vs rest) x
  | [], rest, [], _ => toL_none.symm
  | p :: ps, rest, v :: vs, h => by
    rw [List.zip_cons_cons, List.lookup_cons]
    show _ = if x = p then some v else toL (ps ++ rest) (pad vs rest) x
    by_cases z : x = p
    · rw [if_pos z, z, beq_self_eq_true]
    · rw [if_neg z, beq_eq_false_iff_ne.mpr z]; exact zip_toL (Nat.succ.inj h)
theorem bind_toL {ps rest : List Str} {vs : List V} (nd : ps.Nodup) (h : ps.length = vs.length) : bindLoc (ps.zip vs) = toL (ps ++ rest) (pad vs rest) := funext fun x =>
  (lookup_rev (by rw [List.map_fst_zip (Nat.le_of_eq h)]; exact nd)).trans (zip_toL h)
theorem bd_zip {h : Heap} : ∀ {ps : List Str} {vs : List V} {rs : List Value}, VsRel h vs rs → BdRel h (ps.zip vs) (ps.zip rs)
  | [], _, _, _ => .nil
  | _ :: _, _, _, .nil => .nil
  | _ :: _, _, _, .cons a b => .cons a (bd_zip b)
section
variable {g : G} {T : Tabs} {fn : Addr} {ps rest : List Str} {code : Cd} {d : Nat} {args dv : List V} {Q : V → MH → Prop} {X : MH → Prop} {σ : MH}
theorem codeOf.run {κ : Cx} {ls} (hc : codeOf T κ.φ.g.K fn (ps ++ rest) = some code) (G : GS ⟨T, ps ++ rest, (fnAt κ.φ.g.K fn).scope.names⟩ κ) (h : wp code κ.en (retC Q) [] ls σ) : WS κ (bodyOf (fnAt κ.φ.g.K fn)) (retQ Q) (toL (ps ++ rest) ls) σ := by
  obtain ⟨x, _, rfl⟩ := Option.map_eq_some_iff.mp hc
  refine (x.ok G h).mono fun w l σ h => ?_
  cases w <;> obtain ⟨ls, _, h⟩ := h
  · exact h
  · exact h
  · exact h
  · exact h
/-- a function without cells -/
theorem WCall.go (TO : TabsOk T g.K) (hX : g.cX = T.cX) (H : fnChk g.K fn ps = true) (hcell : (fnAt g.K fn).scope.names.all (fun x => x.2 != .cell) = true) (hn : ps.length = args.length + dv.length)
    (hb : ∀ (s : Shared) (rargs : List Value), g.K.In s.heap → rargs.length = args.length → ∃ rdv, BindsTo s (fnAt g.K fn) ⟨rargs, []⟩ (ps.zip (rargs ++ rdv)) ∧ ∀ h, VsRel h dv rdv)
    (hc : codeOf T g.K fn (ps ++ rest) = some code) (h : wp code ⟨g, d, X⟩ (retC Q) [] (pad (args ++ dv) rest) σ) : WCall g (d + 1) fn args Q X σ := by
  have H := FnOk.of H
  have hcell : ∀ x ∈ (fnAt g.K fn).scope.names, x.2 ≠ .cell := fun x hx => ne_of_beq_false (Bool.not_eq_true' _ ▸ List.all_eq_true.mp hcell x hx)
  refine WCall.enter (fd := fnAt g.K fn) (bs := ps.zip (args ++ dv)) H.isfn H.code H.body H.gl H.bu (fun s rargs Ki hv => ?_) hcell (fun x hx => ?_) H.co H.gen H.kind (fun L fl => ?_)
  · obtain ⟨rdv, h1, h2⟩ := hb s rargs Ki hv.length
    exact ⟨_, h1, bd_zip (hv.append (h2 _))⟩
  · exact (H.loc x.1 (List.of_mem_zip hx).1).elim id fun e => absurd rfl (hcell _ (mem_of_lookup e))
  · rw [bind_toL H.nd (by rw [hn, List.length_append])]
    exact codeOf.run (κ := ⟨⟨g, _, _⟩, d, X⟩) hc ⟨TO, rfl, H.kind, fun x e => absurd rfl (hcell _ (mem_of_lookup e)), hX, fun _ => ⟨⟨_, rfl⟩, rfl, rfl, fun y e => absurd rfl (hcell _ (mem_of_lookup e))⟩⟩ h
/-- a function with cells -/
theorem WCall.goC (TO : TabsOk T g.K) (hX : g.cX = T.cX) (H : fnChk g.K fn ps = true) (hn : ps.length = args.length)
    (hb : ∀ rargs : List Value, rargs.length = args.length → bindArgs (fnAt g.K fn) ⟨rargs, []⟩ = pure (ps.zip rargs))
    (hc : codeOf T g.K fn (ps ++ rest) = some code) (h : wp code ⟨g, d, X⟩ (retC Q) [] (pad args rest) σ) : WCall g (d + 1) fn args Q X σ := by
  have H := FnOk.of H
  refine WCall.enterC (fd := fnAt g.K fn) (bs := ps.zip args) H.isfn H.code H.body H.gl H.bu H.clo (fun rargs hz => ⟨_, hb rargs hz, fun h hv => bd_zip hv⟩) (by rw [List.map_fst_zip (Nat.le_of_eq hn)]; exact H.nd) (fun x hx => H.loc x.1 (List.of_mem_zip hx).1) H.co H.gen H.kind (fun L fl own => ?_)
  rw [bind_toL H.nd hn]
  exact codeOf.run (κ := ⟨⟨g, _, _⟩, d, X⟩) hc ⟨TO, rfl, H.kind, own, hX, fun hc => ⟨⟨_, rfl⟩, rfl, congrArg (L :: ·) (by unfold cellAddrs; rw [List.filter_eq_nil_iff.mpr fun x hx => by have := List.all_eq_true.mp hc x hx; simpa using this]; rfl), fun y e => ne_of_beq_false (Bool.not_eq_true' _ ▸ List.all_eq_true.mp hc _ (mem_of_lookup e)) rfl⟩⟩ h
end
end Mn
set_option genInjectivity true
namespace Mn
open PySem.SeqAt
/-! what the text's own objects are asked -/
structure Law (g : G) : Prop where
  K : g.K = hd.heap_1 g.w.params
  cX : g.cX = 38
noncomputable abbrev cT : Addr := 408
noncomputable abbrev cN : Addr := 177
noncomputable abbrev cL : Addr := 79
noncomputable abbrev cD : Addr := 149
noncomputable abbrev cH : Addr := 58
noncomputable def theTabs : Tabs where
  gf := [("is_number", 90), ("type_of", 97), ("is_collectable", 104), ("raw_equal", 111), ("string_hash", 118), ("log2", 125), ("ceil_log2", 132), ("array_index", 188), ("compute_sizes", 195), ("count_key", 202), ("Node", 177), ("Table", 408), ("DeadKey", 149), ("LightValue", 79), ("HeapObject", 58), ("LuaError", 38), ("_law_keys", 417), ("_law_tag", 424), ("_law_find", 431), ("_law_put", 436), ("_law_is_border", 443), ("_law_is_refused", 450), ("_law_nil_refused", 457), ("_law_value", 464), ("_law_is_same", 471), ("_law_walk", 476), ("_law_deed", 483)]
  gi := [("MAX_BITS", 26), ("MAX_ARRAY", 67108864), ("MAX_INT", 2147483645), ("BASE_SIZE", 56), ("SLOT_SIZE", 16), ("NODE_SIZE", 32), ("HASH_MASK", 4294967295), ("T_NONE", -1), ("T_NIL", 0), ("T_BOOLEAN", 1), ("T_LIGHT", 2), ("T_NUMBER", 3), ("T_STRING", 4)]
  bt := [("len", .bi "len"), ("isinstance", .bi "isinstance"), ("int", .typ "int"), ("bool", .typ "bool"), ("bytes", .typ "bytes"), ("min", .bi "min"), ("abs", .bi "abs"), ("range", .typ "range"), ("reversed", .typ "reversed"), ("enumerate", .typ "enumerate"), ("list", .typ "list"), ("sorted", .bi "sorted")]
  mt := [("main_position", (cT, 224)), ("find_node", (cT, 231)), ("free_position", (cT, 238)), ("get_int", (cT, 245)), ("get", (cT, 259)), ("set", (cT, 266)), ("set_int", (cT, 273)), ("put", (cT, 287)), ("new_key", (cT, 294)), ("put_again", (cT, 301)), ("count_array", (cT, 308)), ("count_nodes", (cT, 315)), ("rehash", (cT, 322)), ("resize", (cT, 330)), ("put_back", (cT, 337)), ("make_nodes", (cT, 342)), ("weigh", (cT, 356)), ("find_index", (cT, 363)), ("next", (cT, 370)), ("length", (cT, 377)), ("unbound_search", (cT, 384)), ("moved_to", (cN, 174)), ("resize_array", (cT, 349))]
  cf := [("__init__", 55)]
  H := cH
  cX := 38
noncomputable def intAt : Option (Option Value) → Int → Bool
  | some (some (.int b _)), i => b == i
  | _, _ => false
theorem intAt_of {o : Option (Option Value)} {i : Int} (h : intAt o i = true) : ∃ t, o = some (some (.int i t)) := by
  cases o with
  | none => cases h
  | some o =>
    cases o with
    | none => cases h
    | some v =>
      cases v with
      | int b t => exact ⟨t, by rw [show b = i from eq_of_beq h]⟩
      | _ => cases h
noncomputable def btV : V → Option Value
  | .typ n => some (.type n)
  | .bi n => some (.builtin n)
  | _ => none
theorem btV_rel {v : V} {w : Value} (h : btV v = some w) : (∀ h, VRel h v w) ∧ ∀ K, keepV K v = true := by
  cases v with
  | typ n => cases h; exact ⟨fun _ => .typ _, fun _ => rfl⟩
  | bi n => cases h; exact ⟨fun _ => .bi _, fun _ => rfl⟩
  | _ => cases h
noncomputable def tabsB (K : Frag) : Bool :=
  theTabs.gf.all (fun p => nsIn K mainGlobals p.1 == some (some (.ref p.2)) && keepIn K (.ref p.2)) &&
  theTabs.gi.all (fun p => intAt (nsIn K mainGlobals p.1) p.2) &&
  theTabs.bt.all (fun p => nsIn K mainGlobals p.1 == some none && (btV p.2).isSome && bootBuiltins p.1 == btV p.2) &&
  theTabs.mt.all (fun p => methK K p.2.1 p.1 p.2.2)
theorem tabs_ok {g : G} (E : Law g) : TabsOk theTabs g.K := by
  have t : ∀ P, tabsB (hd.heap_1 P) = true := fun P => by kernel_rfl
  have t := t g.w.params
  rw [← E.K] at t
  obtain ⟨t, t4⟩ := Bool.and_eq_true_iff.mp t
  obtain ⟨t, t3⟩ := Bool.and_eq_true_iff.mp t
  obtain ⟨t1, t2⟩ := Bool.and_eq_true_iff.mp t
  refine ⟨fun x a h => ?_, fun x i h => intAt_of (List.all_eq_true.mp t2 (x, i) (mem_of_lookup h)), fun x v h => ?_, fun x c h => List.all_eq_true.mp t4 (x, c) (mem_of_lookup h), fun x fn h => ?_, ?_⟩
  · obtain ⟨h1, h2⟩ := Bool.and_eq_true_iff.mp (List.all_eq_true.mp t1 (x, a) (mem_of_lookup h))
    exact ⟨eq_of_beq h1, h2⟩
  · obtain ⟨h1, h3⟩ := Bool.and_eq_true_iff.mp (List.all_eq_true.mp t3 (x, v) (mem_of_lookup h))
    obtain ⟨h1, h2⟩ := Bool.and_eq_true_iff.mp h1
    obtain ⟨w, hw⟩ := Option.isSome_iff_exists.mp h2
    have r := btV_rel hw
    exact ⟨eq_of_beq h1, ⟨w, (eq_of_beq h3).trans hw, r.1⟩, r.2 _⟩
  · obtain ⟨rfl, rfl⟩ : x = "__init__" ∧ fn = 55 := by
      have := mem_of_lookup h
      simp only [theTabs, List.mem_singleton, Prod.mk.injEq] at this
      exact this
    have e : ∀ P, clsFnK (hd.heap_1 P) cH (.type "type") "__init__" 55 := fun P => ⟨by kernel_rfl, by kernel_rfl, by kernel_rfl, by kernel_rfl⟩
    exact ⟨_, E.K ▸ e _⟩
  · rw [E.K]
    refine ⟨_, _, _, ⟨⟨_, _, _, _, _, _, _, _, _, _, _, _, _, rfl⟩, by kernel_rfl, (by kernel_rfl : nsIn _ _ _ = some (some (.ref 35))), by kernel_rfl, by kernel_rfl, by kernel_rfl⟩,
      ⟨⟨_, _, rfl⟩, by kernel_rfl, ⟨_, _, _, _, _, _, _, _, rfl⟩, fun _ _ => by kernel_rfl, fun x hx => ?_, by kernel_rfl, by kernel_rfl, by kernel_rfl, by kernel_rfl, by kernel_rfl⟩⟩
    have := List.all_eq_true.mp (show List.all _ (fun x : Str × NameKind => x.2 != NameKind.cell) = true from by kernel_rfl) x hx
    simpa using this
/-! what holds at a loop's head: the names' values and the rest -/
inductive Q1 {α : Type} (σ : MH) (r : α → Nat) (L : α → Ls) (P : α → Prop) : Nat → Ls → MH → Prop
  | mk (x : α) (h : P x) : Q1 σ r L P (r x) (L x) σ
inductive Q2 {α β : Type} (σ : MH) (r : α → β → Nat) (L : α → β → Ls) (P : α → β → Prop) : Nat → Ls → MH → Prop
  | mk (x : α) (y : β) (h : P x y) : Q2 σ r L P (r x y) (L x y) σ
inductive Q3 {α β γ : Type} (σ : MH) (r : α → β → γ → Nat) (L : α → β → γ → Ls) (P : α → β → γ → Prop) : Nat → Ls → MH → Prop
  | mk (x : α) (y : β) (z : γ) (h : P x y z) : Q3 σ r L P (r x y z) (L x y z) σ
/-! steps of the machine -/
section
variable {E : En} {K : V → MH → Prop} {σ : MH} {k : Cd} {Q : Fw → Ls → MH → Prop} {s : List V} {ls : Ls}
theorem brk2.dec {P R c : Prop} [Decidable c] (h1 : c → P) (h2 : ¬ c → R) : brk2 P R (decide c) := by
  by_cases h : c
  · rw [decide_eq_true h]; exact h1 h
  · rw [decide_eq_false h]; exact h2 h
theorem brk2.bool {P R : Prop} {b : Bool} (h1 : b = true → P) (h2 : b = false → R) : brk2 P R b := by
  cases b
  · exact h2 rfl
  · exact h1 rfl
theorem nt {b : Bool} (h : (!b) = true) : b = false := by
  cases b with
  | false => rfl
  | true => cases h
theorem nf {b : Bool} (h : (!b) = false) : b = true := by
  cases b with
  | true => rfl
  | false => cases h
theorem ne_of_nd {p : Prop} [Decidable p] (h : (!decide p) = true) : ¬ p := fun z => by rw [decide_eq_true z] at h; cases h
theorem eq_of_nd {p : Prop} [Decidable p] (h : (!decide p) = false) : p := Decidable.byContradiction fun z => by rw [decide_eq_false z] at h; cases h
theorem brk2.nd {P R c : Prop} [Decidable c] (h1 : ¬ c → P) (h2 : c → R) : brk2 P R (!decide c) := brk2.bool (fun e => h1 (ne_of_nd e)) fun e => h2 (eq_of_nd e)
theorem Pv.shr {a n : Int} (hn : 0 ≤ n) (h : K (.int (a.fdiv (2 ^ n.toNat))) σ) : Pv E (t2 (binaryOp .RShift)) [.int a, .int n] K σ := ⟨fun _ _ => PV.shr hn h⟩
theorem Pv.shl {a n : Int} (hn : 0 ≤ n) (hn2 : n ≤ 1000000) (ha : a.natAbs < 2 ^ 64) (h : K (.int (a * 2 ^ n.toNat)) σ) : Pv E (t2 (binaryOp .LShift)) [.int a, .int n] K σ := ⟨fun _ _ => PV.shl hn hn2 ha h⟩
theorem Pv.mul {a b : Int} (hm : IntMulOk a b) (h : K (.int (a * b)) σ) : Pv E (t2 (binaryOp .Mult)) [.int a, .int b] K σ := ⟨fun _ _ => PV.mul hm h⟩
theorem Pv.imul {a b : Int} (hm : IntMulOk a b) (h : K (.int (a * b)) σ) : Pv E (t2 (inplaceOp .Mult)) [.int a, .int b] K σ := ⟨fun _ _ => PV.imul hm h⟩
theorem Pv.div {a b : Int} (hb : b ≠ 0) (hs : b.natAbs < 2 ^ 64) (h : K (.int (a.fdiv b)) σ) : Pv E (t2 (binaryOp .FloorDiv)) [.int a, .int b] K σ := ⟨fun _ _ => PV.div hb hs h⟩
theorem Pv.mod {a b : Int} (hb : b ≠ 0) (h : K (.int (a.fmod b)) σ) : Pv E (t2 (binaryOp .Mod)) [.int a, .int b] K σ := ⟨fun _ _ => PV.mod hb h⟩
end
/-- a call's contract -/
noncomputable abbrev FnX (n : Nat) (fn : Addr) (args : List V) (Q : V → MH → Prop) (X : MH → Prop) (σ : MH) : Prop := ∀ g, Law g → WCall g n fn args Q X σ
noncomputable abbrev Fn (n : Nat) (fn : Addr) (args : List V) (Q : V → MH → Prop) (σ : MH) : Prop := FnX n fn args Q noX σ
theorem Pv.fnX {E : En} (L : Law E.g) {n fn args Q X σ} {K : V → MH → Prop} (h : FnX n fn args Q X σ) (hd : Nat.ble n E.d = true) (k : ∀ v σ, Q v σ → K v σ) (kx : ∀ σ, X σ → E.X σ) : Pv E tcall (.ref fn :: args) K σ := ⟨fun φ e => PV.fn (((h _ (e ▸ L)).mono k kx)) (Nat.le_of_ble_eq_true hd)⟩
theorem Pv.fn {E : En} (L : Law E.g) {n fn args Q σ} {K : V → MH → Prop} (h : Fn n fn args Q σ) (hd : Nat.ble n E.d = true) (k : ∀ v σ, Q v σ → K v σ) : Pv E tcall (.ref fn :: args) K σ := Pv.fnX L h hd k fun _ x => x.elim
theorem Pv.fn1 {E : En} (L : Law E.g) {n fn args r σ} {K : V → MH → Prop} (h : Fn n fn args (fun v σ' => v = r ∧ σ' = σ) σ) (hd : Nat.ble n E.d = true) (k : K r σ) : Pv E tcall (.ref fn :: args) K σ := Pv.fn L h hd fun v σ' e => by rw [e.1, e.2]; exact k
theorem FnX.go {fn : Addr} {ps rest : List Str} {code : Cd} {d : Nat} {args : List V} {Q : V → MH → Prop} {X : MH → Prop} {σ : MH} (H : ∀ P, fnChk (hd.heap_1 P) fn ps = true) (hcell : ∀ P, (fnAt (hd.heap_1 P) fn).scope.names.all (fun x => x.2 != .cell) = true)
    (hb : ∀ P (rargs : List Value), rargs.length = args.length → bindArgs (fnAt (hd.heap_1 P) fn) ⟨rargs, []⟩ = pure (ps.zip rargs)) (hc : ∀ P, codeOf theTabs (hd.heap_1 P) fn (ps ++ rest) = some code) (hn : ps.length = args.length)
    (h : ∀ g, Law g → wp code ⟨g, d, X⟩ (retC Q) [] (pad args rest) σ) : FnX (d + 1) fn args Q X σ := fun g L =>
  WCall.go (dv := []) (tabs_ok L) L.cX (by rw [L.K]; exact H _) (by rw [L.K]; exact hcell _) (by rw [hn]; rfl) (fun s rargs Ki hl => ⟨[], by rw [List.append_nil]; exact .of_eq (by rw [L.K]; exact hb _ _ hl), fun _ => .nil⟩) (by rw [L.K]; exact hc _) (by rw [List.append_nil]; exact h g L)
theorem Fn.go {fn : Addr} {ps rest : List Str} {code : Cd} {d : Nat} {args : List V} {Q : V → MH → Prop} {σ : MH} (H : ∀ P, fnChk (hd.heap_1 P) fn ps = true) (hcell : ∀ P, (fnAt (hd.heap_1 P) fn).scope.names.all (fun x => x.2 != .cell) = true)
    (hb : ∀ P (rargs : List Value), rargs.length = args.length → bindArgs (fnAt (hd.heap_1 P) fn) ⟨rargs, []⟩ = pure (ps.zip rargs)) (hc : ∀ P, codeOf theTabs (hd.heap_1 P) fn (ps ++ rest) = some code) (hn : ps.length = args.length)
    (h : ∀ g, Law g → wp code ⟨g, d, noX⟩ (retC Q) [] (pad args rest) σ) : Fn (d + 1) fn args Q σ := FnX.go H hcell hb hc hn h
theorem args0 {P : List Value → Prop} (h : P []) : ∀ r : List Value, r.length = 0 → P r := fun r e => List.length_eq_zero_iff.mp e ▸ h
theorem argsS {P : List Value → Prop} {n : Nat} (h : ∀ a r, r.length = n → P (a :: r)) : ∀ r : List Value, r.length = n + 1 → P r := fun r e => by
  cases r with
  | nil => cases e
  | cons a r => exact h a r (Nat.succ.inj e)
theorem args1 {P : List Value → Prop} (h : ∀ a, P [a]) : ∀ r : List Value, r.length = 1 → P r := argsS fun a => args0 (P := fun r => P (a :: r)) (h a)
theorem args2 {P : List Value → Prop} (h : ∀ a b, P [a, b]) : ∀ r : List Value, r.length = 2 → P r := argsS fun a => args1 (P := fun r => P (a :: r)) (h a)
theorem args3 {P : List Value → Prop} (h : ∀ a b c, P [a, b, c]) : ∀ r : List Value, r.length = 3 → P r := argsS fun a => args2 (P := fun r => P (a :: r)) (h a)
theorem args4 {P : List Value → Prop} (h : ∀ a b c d, P [a, b, c, d]) : ∀ r : List Value, r.length = 4 → P r := argsS fun a => args3 (P := fun r => P (a :: r)) (h a)
noncomputable def c_log2_1 : Cd := .ld 0 <| .lit (.int (1)) <| .bin .RShift <| .st 0 <| .ld 1 <| .lit (.int (1)) <| .bin .Add <| .st 1 <| .fin
noncomputable def c_log2_2 : Cd := .ld 0 <| .lit (.int (0)) <| .cmp .Gt <| .br (c_log2_1) (.brk)
noncomputable def c_log2 : Cd := .lit (.int (1)) <| .una .USub <| .st 1 <| .whl (c_log2_2) (.ld 1 <| .ret)
/-- where log2 ends -/
noncomputable def lg (n : Int) : Int := if 0 < n then (Nat.log2 n.toNat : Int) else -1
theorem lg_half {n : Int} (h : 0 < n) : lg n = lg (n.fdiv 2) + 1 := by
  unfold lg
  rw [if_pos h]
  obtain ⟨m, rfl⟩ := Int.eq_ofNat_of_zero_le (Int.le_of_lt h)
  have e : (m : Int).fdiv 2 = ((m / 2 : Nat) : Int) := by
    rw [Int.fdiv_eq_ediv_of_nonneg _ (by lia -abstractProof)]; lia -abstractProof
  rw [e]
  simp only [Int.toNat_natCast]
  by_cases h2 : 0 < m / 2
  · rw [if_pos (by lia -abstractProof)]
    rw [Nat.log2_def m, if_pos (by lia -abstractProof)]
    lia -abstractProof
  · rw [if_neg (by lia -abstractProof)]
    have : m = 1 := by lia -abstractProof
    subst this
    decide
theorem log2_ok {n : Int} {σ : MH} : Fn 1 125 [.int n] (fun r σ' => r = .int (lg n) ∧ σ' = σ) σ := by
  refine Fn.go (ps := ["n"]) (rest := ["found"]) (code := c_log2) (fun _ => by kernel_rfl) (fun _ => by kernel_rfl) (fun _ => args1 fun _ => by kernel_rfl) (fun _ => by kernel_rfl) rfl fun g L => ?_
  refine Whl.mk (Q2 σ (fun m _ => m.toNat) (fun (m fnd : Int) => [some (.int m), some (.int fnd)]) fun m fnd => lg m + fnd + 1 = lg n) _ ⟨n, -1, by lia -abstractProof⟩ ?_
  rintro k ls σ1 ⟨m, fnd, he⟩
  refine brk2.dec (fun hp => ?_) fun hp => ?_
  · refine Pv.shr (by decide) ?_
    refine ⟨_, ?_, _, _, ?_⟩
    · have : m.fdiv 2 = m / 2 := Int.fdiv_eq_ediv_of_nonneg _ (by lia -abstractProof)
      show (m.fdiv (2 ^ 1)).toNat < _
      rw [show (2 : Int) ^ 1 = 2 from rfl]
      lia -abstractProof
    · have := lg_half hp
      show lg (m.fdiv (2 ^ 1)) + (fnd + 1) + 1 = _
      simp only [show (2 : Int) ^ 1 = 2 from rfl]
      lia -abstractProof
  · refine ⟨?_, rfl⟩
    have : lg m = -1 := by unfold lg; rw [if_neg hp]
    rw [show fnd = lg n by lia -abstractProof]
/-! the objects of the text -/
structure Rf where
  kind : Nat
  num : Int
noncomputable abbrev Nu := Addr → Option Rf
noncomputable def cls : Nat → Addr
  | 0 => cT
  | 1 => cL
  | _ => cD
structure Knows (σ : MH) (ν : Nu) : Prop where
  at_ : ∀ a r, ν a = some r → r.kind ≤ 2 ∧ ∃ fs, σ a = some (.inst (cls r.kind) fs) ∧ getF fs "number" = some (.int r.num) ∧ getF fs "kind" = none

structure Nd where
  key : V
  value : V
  next : Int
noncomputable def Nd.fs (n : Nd) : List (Str × V) := [("key", n.key), ("value", n.value), ("next", .int n.next)]
structure Tb where
  num : Int
  mark : V
  size : V
  meta_ : V
  flags : V
  weak : V
  aa : Addr
  arr : List V
  na : Addr
  nds : List (Addr × Nd)
  logn : V
  free : Int
noncomputable def Tb.fs (T : Tb) : List (Str × V) := [("number", .int T.num), ("mark", T.mark), ("size", T.size), ("meta", T.meta_), ("flags", T.flags), ("weak", T.weak), ("array", .ref T.aa), ("nodes", .ref T.na), ("log_nodes", T.logn), ("free", .int T.free)]
structure TR (σ : MH) (t : Addr) (T : Tb) : Prop where
  t : σ t = some (.inst cT T.fs)
  arr : σ T.aa = some (.list T.arr)
  nl : σ T.na = some (.list (T.nds.map fun p => .ref p.1))
  nd : ∀ p ∈ T.nds, σ p.1 = some (.inst cN p.2.fs)
  nodup : (T.nds.map (·.1)).Nodup
  ne : T.aa ≠ T.na
  pa : ∀ v ∈ T.arr, v.plain = true
  pn : ∀ p ∈ T.nds, p.2.key.plain = true ∧ p.2.value.plain = true
  sa : T.arr.length ≤ 2 ^ 23
  sn : T.nds.length ≤ 2 ^ 23
noncomputable def foot (t : Addr) (T : Tb) (b : Addr) : Prop := b = t ∨ b = T.aa ∨ b = T.na ∨ b ∈ T.nds.map (·.1)
structure Mv (σ : MH) (t : Addr) (T : Tb) (σ' : MH) (T' : Tb) : Prop where
  keep : ∀ b o, σ b = some o → ¬ foot t T b → σ' b = some o
  ft : ∀ b, foot t T' b → foot t T b ∨ σ b = none
  dom : ∀ b o, σ b = some o → ∃ o', σ' b = some o'
  num : T'.num = T.num
theorem Mv.refl (σ t T) : Mv σ t T σ T := ⟨fun _ _ h _ => h, fun _ h => .inl h, fun _ o h => ⟨o, h⟩, rfl⟩
theorem Mv.none_of {σ t T σ' T'} (m : Mv σ t T σ' T') {b} (h : σ' b = none) : σ b = none := by
  cases q : σ b with
  | none => rfl
  | some o => obtain ⟨o', h'⟩ := m.dom b o q; rw [h] at h'; cases h'
theorem Mv.trans {σ t T σ' T' σ'' T''} (x : Mv σ t T σ' T') (y : Mv σ' t T' σ'' T'') : Mv σ t T σ'' T'' where
  keep b o h n := y.keep b o (x.keep b o h n) fun z => (x.ft b z).elim n fun q => by rw [h] at q; cases q
  ft b h := (y.ft b h).elim (x.ft b) fun z => .inr (x.none_of z)
  dom b o h := by obtain ⟨o', h'⟩ := x.dom b o h; exact y.dom b o' h'
  num := y.num.trans x.num
theorem TR.at_ {σ t T} (h : TR σ t T) {i : Nat} {p} (e : T.nds[i]? = some p) : σ p.1 = some (.inst cN p.2.fs) := h.nd p (List.mem_of_getElem? e)
theorem TR.footD {σ t T} (h : TR σ t T) {b} (f : foot t T b) : ∃ o, σ b = some o := by
  rcases f with rfl | rfl | rfl | f
  · exact ⟨_, h.t⟩
  · exact ⟨_, h.arr⟩
  · exact ⟨_, h.nl⟩
  · obtain ⟨p, hp, rfl⟩ := List.mem_map.mp f; exact ⟨_, h.nd p hp⟩
theorem TR.notFoot {σ t T} (h : TR σ t T) {a C fs} (e : σ a = some (.inst C fs)) (hC : C ≠ cN) (ht : a ≠ t) : ¬ foot t T a := by
  rintro (rfl | rfl | rfl | f)
  · exact ht rfl
  · rw [h.arr] at e; cases e
  · rw [h.nl] at e; cases e
  · obtain ⟨p, hp, rfl⟩ := List.mem_map.mp f
    rw [h.nd p hp] at e; cases e; exact hC rfl
theorem cls_ne (k : Nat) : cls k ≠ cN := by
  unfold cls; split <;> decide
theorem Knows.mv {σ ν t T σ' T'} (k : Knows σ ν) (h : TR σ t T) (m : Mv σ t T σ' T') (hn : ν t = none) : Knows σ' ν := ⟨fun a r e => by
  obtain ⟨h1, fs, h2, h3⟩ := k.at_ a r e
  exact ⟨h1, fs, m.keep _ _ h2 (h.notFoot h2 (cls_ne _) fun z => by rw [z, hn] at e; cases e), h3⟩⟩
theorem Knows.fresh {σ ν a o} (k : Knows σ ν) (h : σ a = none) : Knows (upd σ a o) ν := ⟨fun b r e => by
  obtain ⟨h1, fs, h2, h3⟩ := k.at_ b r e
  exact ⟨h1, fs, (upd_ne _ _ fun z => by rw [z, h] at h2; cases h2).trans h2, h3⟩⟩

noncomputable def Tb.setNd (T : Tb) (i : Nat) (n : Nd) : Tb := { T with nds := T.nds.modify i fun p => (p.1, n) }
theorem map_modify {α β : Type} (f : α → β) (g : α → α) (h : ∀ x, f (g x) = f x) : ∀ (l : List α) (i : Nat), (l.modify i g).map f = l.map f
  | [], 0 => rfl
  | [], _ + 1 => rfl
  | _ :: _, 0 => by simp [h]
  | _ :: r, i + 1 => by simp [map_modify f g h r i]
theorem setNd_ad (T : Tb) (i n) : (T.setNd i n).nds.map (·.1) = T.nds.map (·.1) := map_modify (·.1) (fun p => (p.1, n)) (fun _ => rfl) T.nds i
theorem setNd_refs (T : Tb) (i n) : ((T.setNd i n).nds.map fun p => V.ref p.1) = T.nds.map fun p => V.ref p.1 := map_modify (fun p => V.ref p.1) (fun p => (p.1, n)) (fun _ => rfl) T.nds i
theorem nd_at {σ t T} (h : TR σ t T) {i j : Nat} {p q} (hi : T.nds[i]? = some p) (hj : T.nds[j]? = some q) (e : p.1 = q.1) : i = j := by
  have hi' := List.getElem?_eq_some_iff.mp hi
  have hj' := List.getElem?_eq_some_iff.mp hj
  obtain ⟨li, hi'⟩ := hi'
  obtain ⟨lj, hj'⟩ := hj'
  exact (List.getElem_inj (h₀ := by simpa using li) (h₁ := by simpa using lj) h.nodup).mp (by simp [hi', hj', e])

theorem TR.setNd {σ t T} (h : TR σ t T) {i : Nat} {a n} {n' : Nd} (hi : T.nds[i]? = some (a, n)) (hp : n'.key.plain = true ∧ n'.value.plain = true) :
    TR (upd σ a (.inst cN n'.fs)) t (T.setNd i n') ∧ Mv σ t T (upd σ a (.inst cN n'.fs)) (T.setNd i n') := by
  have ha := h.at_ hi
  have net : t ≠ a := fun z => by rw [← z, h.t] at ha; exact absurd ha (by simp [cT, cN])
  have nea : T.aa ≠ a := fun z => by rw [← z, h.arr] at ha; cases ha
  have nen : T.na ≠ a := fun z => by rw [← z, h.nl] at ha; cases ha
  refine ⟨⟨(upd_ne _ _ net).trans h.t, (upd_ne _ _ nea).trans h.arr, (upd_ne _ _ nen).trans (by rw [setNd_refs]; exact h.nl), fun p hp => ?_, by rw [setNd_ad]; exact h.nodup, h.ne, h.pa, fun p hpq => ?_, h.sa, by show (T.nds.modify i _).length ≤ _; rw [List.length_modify]; exact h.sn⟩,
    fun b o e n => ?_, fun b f => .inl ?_, fun b o e => ?_, rfl⟩
  · obtain ⟨j, hj⟩ := List.getElem?_of_mem hp
    have hj : (T.nds.modify i fun p => (p.1, n'))[j]? = some p := hj
    rw [List.getElem?_modify] at hj
    obtain ⟨q, hq, e⟩ := Option.map_eq_some_iff.mp hj
    by_cases z : i = j
    · subst z
      rw [hi] at hq; cases hq
      simp at e; subst e
      exact upd_same ..
    · simp [z] at e; subst e
      rw [upd_ne]
      · exact h.at_ hq
      · intro w; exact z (nd_at h hi hq w.symm)
  · obtain ⟨j, hj⟩ := List.getElem?_of_mem hpq
    have hj : (T.nds.modify i fun p => (p.1, n'))[j]? = some p := hj
    rw [List.getElem?_modify] at hj
    obtain ⟨q, hq, e⟩ := Option.map_eq_some_iff.mp hj
    by_cases z : i = j
    · simp [z] at e; subst e; exact hp
    · simp [z] at e; subst e; exact h.pn _ (List.mem_of_getElem? hq)
  · rw [upd_ne]
    · exact e
    · intro z; exact n (.inr (.inr (.inr (z ▸ List.mem_map.mpr ⟨_, List.mem_of_getElem? hi, rfl⟩))))
  · rcases f with f | f | f | f
    · exact .inl f
    · exact .inr (.inl f)
    · exact .inr (.inr (.inl f))
    · rw [setNd_ad] at f; exact .inr (.inr (.inr f))
  · by_cases z : b = a
    · subst z; exact ⟨_, upd_same ..⟩
    · exact ⟨o, (upd_ne _ _ z).trans e⟩
/-- a field of the table itself -/
theorem TR.setF {σ t T T'} (h : TR σ t T) (e1 : T'.aa = T.aa) (e2 : T'.arr = T.arr) (e3 : T'.na = T.na) (e4 : T'.nds = T.nds) (e5 : T'.num = T.num) : TR (upd σ t (.inst cT T'.fs)) t T' ∧ Mv σ t T (upd σ t (.inst cT T'.fs)) T' := by
  have nea : T.aa ≠ t := fun z => by have := h.arr; rw [z, h.t] at this; cases this
  have nen : T.na ≠ t := fun z => by have := h.nl; rw [z, h.t] at this; cases this
  refine ⟨⟨upd_same .., by rw [e1, e2]; exact (upd_ne _ _ nea).trans h.arr, by rw [e3, e4]; exact (upd_ne _ _ nen).trans h.nl, fun p hp => ?_, by rw [e4]; exact h.nodup, by rw [e1, e3]; exact h.ne, by rw [e2]; exact h.pa, by rw [e4]; exact h.pn, by rw [e2]; exact h.sa, by rw [e4]; exact h.sn⟩,
    fun b o e n => ?_, fun b f => .inl ?_, fun b o e => ?_, e5⟩
  · rw [e4] at hp
    rw [upd_ne]
    · exact h.nd p hp
    · intro z; have := h.nd p hp; rw [z, h.t] at this; exact absurd this (by simp [cT, cN])
  · rw [upd_ne]
    · exact e
    · intro z; exact n (.inl z)
  · unfold foot at *; rwa [e1, e3, e4] at f
  · by_cases z : b = t
    · subst z; exact ⟨_, upd_same ..⟩
    · exact ⟨o, (upd_ne _ _ z).trans e⟩
/-- the array -/
theorem TR.setA {σ t T} (h : TR σ t T) (xs : List V) (hp : ∀ v ∈ xs, v.plain = true) (hz : xs.length ≤ 2 ^ 23) : TR (upd σ T.aa (.list xs)) t { T with arr := xs } ∧ Mv σ t T (upd σ T.aa (.list xs)) { T with arr := xs } := by
  have nea : t ≠ T.aa := fun z => by have := h.arr; rw [← z, h.t] at this; cases this
  refine ⟨⟨(upd_ne _ _ nea).trans h.t, upd_same .., (upd_ne _ _ h.ne.symm).trans h.nl, fun p hp => ?_, h.nodup, h.ne, hp, h.pn, hz, h.sn⟩, fun b o e n => ?_, fun b f => .inl f, fun b o e => ?_, rfl⟩
  · refine (upd_ne _ _ fun z => ?_).trans (h.nd p hp)
    have := h.nd p hp; rw [z, h.arr] at this; cases this
  · rw [upd_ne]
    · exact e
    · intro z; exact n (.inr (.inl z))
  · by_cases z : b = T.aa
    · subst z; exact ⟨_, upd_same ..⟩
    · exact ⟨o, (upd_ne _ _ z).trans e⟩
/-- something new -/
theorem TR.new {σ t T a o} (h : TR σ t T) (ha : σ a = none) : TR (upd σ a o) t T ∧ Mv σ t T (upd σ a o) T := by
  have ne : ∀ b x, σ b = some x → b ≠ a := fun b x e z => by rw [z, ha] at e; cases e
  refine ⟨⟨(upd_ne _ _ (ne _ _ h.t)).trans h.t, (upd_ne _ _ (ne _ _ h.arr)).trans h.arr, (upd_ne _ _ (ne _ _ h.nl)).trans h.nl, fun p hp => (upd_ne _ _ (ne _ _ (h.nd p hp))).trans (h.nd p hp), h.nodup, h.ne, h.pa, h.pn, h.sa, h.sn⟩,
    fun b o e _ => (upd_ne _ _ (ne _ _ e)).trans e, fun b f => .inl f, fun b o e => ⟨o, (upd_ne _ _ (ne _ _ e)).trans e⟩, rfl⟩
section
variable {g : G} (E : Law g)
include E
theorem Law.fT {x : Str} (h : (["number", "mark", "size", "meta", "flags", "weak", "array", "nodes", "log_nodes", "free"] : List Str).contains x = true) : fldK g.K cT x = true := by
  have : ∀ P, (["number", "mark", "size", "meta", "flags", "weak", "array", "nodes", "log_nodes", "free"] : List Str).all (fun x => fldK (hd.heap_1 P) cT x) = true := fun P => by kernel_rfl
  rw [E.K]
  exact List.all_eq_true.mp (this _) x (by simpa using h)
theorem Law.fN {x : Str} (h : (["key", "value", "next"] : List Str).contains x = true) : fldK g.K cN x = true := by
  have : ∀ P, (["key", "value", "next"] : List Str).all (fun x => fldK (hd.heap_1 P) cN x) = true := fun P => by kernel_rfl
  rw [E.K]
  exact List.all_eq_true.mp (this _) x (by simpa using h)
theorem Law.fNum {k : Nat} : fldK g.K (cls k) "number" = true := by
  unfold cls; rw [E.K]
  split <;> kernel_rfl
end
section
variable {E : En} {σ : MH} {K : V → MH → Prop} {KK : MH → Prop}
theorem Pv.fld {a C fs x v} (hσ : σ a = some (.inst C fs)) (hk : fldK E.g.K C x = true) (hx : getF fs x = some v) (hp : v.plain = true) (h : K v σ) : Pv E (gA x) [.ref a] K σ := ⟨fun φ e => PV.fld hσ (by rw [e]; exact hk) hx hp h⟩
theorem Pu.fld {a C fs x v} (hσ : σ a = some (.inst C fs)) (hk : fldK E.g.K C x = true) (hz : fs.length ≤ 900) (h : KK (upd σ a (.inst C (setF fs x v)))) : Pu E (sA x) [.ref a, v] KK σ := ⟨fun φ e => PU.setattr hσ (by rw [e]; exact hk) hz h⟩
theorem Pg.lst {a xs} {k : Int} {v : V} (hσ : lst σ a xs) (h0 : 0 ≤ k) (hk : k < 2 ^ 63) (hx : xs[k.toNat]? = some v) (h : K v σ) : Pg E (.ref a) (.int k) K σ := ⟨fun _ _ => PG.list hσ h0 hk hx h⟩
theorem Pg.tup {xs} {k : Int} {v : V} (h0 : 0 ≤ k) (hk : k < 2 ^ 63) (hx : xs[k.toNat]? = some v) (h : K v σ) : Pg E (.tup xs) (.int k) K σ := ⟨fun _ _ => PG.tup h0 hk hx h⟩
theorem Pg.bytes {b : Array UInt8} {k : Int} (hz : b.size ≤ 2 ^ 30) (h0 : 0 ≤ k) (hk : k < b.size) (h : K (.int (b.toList.getD k.toNat 0).toNat) σ) : Pg E (.bytes b) (.int k) K σ := ⟨fun _ _ => PG.bytes hz h0 hk h⟩
theorem Pu.lst {a xs v} {k : Int} (hσ : σ a = some (.list xs)) (h0 : 0 ≤ k) (hk : k < xs.length) (hz : xs.length ≤ 2 ^ 24) (h : KK (upd σ a (.list (xs.set k.toNat v)))) : Pu E (u3 setItem) [.ref a, .int k, v] KK σ := ⟨fun _ _ => PU.setList hσ h0 hk hz h⟩
theorem Pv.len {a xs} (hσ : Mn.lst σ a xs) (hz : xs.length < 2 ^ 60) (h : K (.int xs.length) σ) : Pv E tcall [.bi "len", .ref a] K σ := ⟨fun _ _ => PV.len_list hσ hz h⟩
theorem Pv.lenB {b : Array UInt8} (hz : b.size ≤ 2 ^ 30) (h : K (.int b.size) σ) : Pv E tcall [.bi "len", .bytes b] K σ := ⟨fun _ _ => PV.len_bytes hz h⟩
theorem Pv.intB {b : Bool} (h : K (.int (if b = true then 1 else 0)) σ) : Pv E tcall [.typ "int", .bool b] K σ := ⟨fun _ _ => PV.int_bool h⟩
theorem Pv.abs {a : Int} (h : K (.int (if a < 0 then -a else a)) σ) : Pv E tcall [.bi "abs", .int a] K σ := ⟨fun _ _ => PV.abs h⟩
theorem Pv.min2 {a b : Int} (h : K (.int (if b < a then b else a)) σ) : Pv E tcall [.bi "min", .int a, .int b] K σ := ⟨fun _ _ => PV.min2 h⟩
theorem Pv.app {a xs v} (hσ : σ a = some (.list xs)) (hz : xs.length ≤ 2 ^ 24) (h : K .none (upd σ a (.list (xs ++ [v])))) : Pv E tcall [.bi "list.append", .ref a, v] K σ := ⟨fun _ _ => PV.append hσ hz h⟩
theorem Pv.eq {n a b} (c : Cq n a b) (hn : n ≤ 100) (h : K (.bool (veq a b)) σ) : Pv E (t2 (compareOp .Eq)) [a, b] K σ := ⟨fun _ _ => PV.eq c hn h⟩
end
/-! the table's own parts -/
section
variable {E : En} (L : Law E.g) {t : Addr} {T : Tb} {σ : MH} {K : V → MH → Prop} {KK : MH → Prop}
include L
theorem Pv.tf (hT : TR σ t T) {x v} (hx : getF T.fs x = some v) (hk : (["number", "mark", "size", "meta", "flags", "weak", "array", "nodes", "log_nodes", "free"] : List Str).contains x = true) (hp : v.plain = true) (h : K v σ) : Pv E (gA x) [.ref t] K σ :=
  Pv.fld hT.t (L.fT hk) hx hp h
theorem Pv.array (hT : TR σ t T) (h : K (.ref T.aa) σ) : Pv E (gA "array") [.ref t] K σ := Pv.tf L hT (by kernel_rfl) (by kernel_rfl) rfl h
theorem Pv.nodes (hT : TR σ t T) (h : K (.ref T.na) σ) : Pv E (gA "nodes") [.ref t] K σ := Pv.tf L hT (by kernel_rfl) (by kernel_rfl) rfl h
theorem Pv.free (hT : TR σ t T) (h : K (.int T.free) σ) : Pv E (gA "free") [.ref t] K σ := Pv.tf L hT (by kernel_rfl) (by kernel_rfl) rfl h
theorem Pv.logn (hT : TR σ t T) (hp : T.logn.plain = true) (h : K T.logn σ) : Pv E (gA "log_nodes") [.ref t] K σ := Pv.tf L hT (by kernel_rfl) (by kernel_rfl) hp h
theorem Pv.key {a} {i : Nat} {n : Nd} (hT : TR σ t T) (hi : T.nds[i]? = some (a, n)) (h : K n.key σ) : Pv E (gA "key") [.ref a] K σ :=
  Pv.fld (hT.at_ hi) (L.fN (by kernel_rfl)) (show getF (Nd.fs n) "key" = some n.key by kernel_rfl) (hT.pn _ (List.mem_of_getElem? hi)).1 h
theorem Pv.value {a} {i : Nat} {n : Nd} (hT : TR σ t T) (hi : T.nds[i]? = some (a, n)) (h : K n.value σ) : Pv E (gA "value") [.ref a] K σ :=
  Pv.fld (hT.at_ hi) (L.fN (by kernel_rfl)) (show getF (Nd.fs n) "value" = some n.value by kernel_rfl) (hT.pn _ (List.mem_of_getElem? hi)).2 h
theorem Pv.next {a} {i : Nat} {n : Nd} (hT : TR σ t T) (hi : T.nds[i]? = some (a, n)) (h : K (.int n.next) σ) : Pv E (gA "next") [.ref a] K σ :=
  Pv.fld (hT.at_ hi) (L.fN (by kernel_rfl)) (show getF (Nd.fs n) "next" = some (.int n.next) by kernel_rfl) rfl h
theorem Pu.key {a v} {i : Nat} {n : Nd} (hT : TR σ t T) (hi : T.nds[i]? = some (a, n)) (hp : v.plain = true) (h : ∀ σ', TR σ' t (T.setNd i { n with key := v }) → Mv σ t T σ' (T.setNd i { n with key := v }) → KK σ') : Pu E (sA "key") [.ref a, v] KK σ :=
  have r := hT.setNd hi (n' := { n with key := v }) ⟨hp, (hT.pn _ (List.mem_of_getElem? hi)).2⟩
  Pu.fld (hT.at_ hi) (L.fN (by kernel_rfl)) (show _ ≤ 900 from Nat.le_of_ble_eq_true rfl) (by rw [show setF (Nd.fs n) "key" v = Nd.fs { n with key := v } by kernel_rfl]; exact h _ r.1 r.2)
theorem Pu.value {a v} {i : Nat} {n : Nd} (hT : TR σ t T) (hi : T.nds[i]? = some (a, n)) (hp : v.plain = true) (h : ∀ σ', TR σ' t (T.setNd i { n with value := v }) → Mv σ t T σ' (T.setNd i { n with value := v }) → KK σ') : Pu E (sA "value") [.ref a, v] KK σ :=
  have r := hT.setNd hi (n' := { n with value := v }) ⟨(hT.pn _ (List.mem_of_getElem? hi)).1, hp⟩
  Pu.fld (hT.at_ hi) (L.fN (by kernel_rfl)) (show _ ≤ 900 from Nat.le_of_ble_eq_true rfl) (by rw [show setF (Nd.fs n) "value" v = Nd.fs { n with value := v } by kernel_rfl]; exact h _ r.1 r.2)
theorem Pu.next {a} {i : Nat} {n : Nd} {k : Int} (hT : TR σ t T) (hi : T.nds[i]? = some (a, n)) (h : ∀ σ', TR σ' t (T.setNd i { n with next := k }) → Mv σ t T σ' (T.setNd i { n with next := k }) → KK σ') : Pu E (sA "next") [.ref a, .int k] KK σ :=
  have r := hT.setNd hi (n' := { n with next := k }) (hT.pn _ (List.mem_of_getElem? hi))
  Pu.fld (hT.at_ hi) (L.fN (by kernel_rfl)) (show _ ≤ 900 from Nat.le_of_ble_eq_true rfl) (by rw [show setF (Nd.fs n) "next" (.int k) = Nd.fs { n with next := k } by kernel_rfl]; exact h _ r.1 r.2)
theorem Pu.free {k : Int} (hT : TR σ t T) (h : ∀ σ', TR σ' t { T with free := k } → Mv σ t T σ' { T with free := k } → KK σ') : Pu E (sA "free") [.ref t, .int k] KK σ :=
  have r := hT.setF (T' := { T with free := k }) rfl rfl rfl rfl rfl
  Pu.fld hT.t (L.fT (by kernel_rfl)) (show _ ≤ 900 from Nat.le_of_ble_eq_true rfl) (by rw [show setF T.fs "free" (.int k) = Tb.fs { T with free := k } by kernel_rfl]; exact h _ r.1 r.2)
theorem Pu.flags {v} (hT : TR σ t T) (h : ∀ σ', TR σ' t { T with flags := v } → Mv σ t T σ' { T with flags := v } → KK σ') : Pu E (sA "flags") [.ref t, v] KK σ :=
  have r := hT.setF (T' := { T with flags := v }) rfl rfl rfl rfl rfl
  Pu.fld hT.t (L.fT (by kernel_rfl)) (show _ ≤ 900 from Nat.le_of_ble_eq_true rfl) (by rw [show setF T.fs "flags" v = Tb.fs { T with flags := v } by kernel_rfl]; exact h _ r.1 r.2)
theorem Pu.size {v} (hT : TR σ t T) (h : ∀ σ', TR σ' t { T with size := v } → Mv σ t T σ' { T with size := v } → KK σ') : Pu E (sA "size") [.ref t, v] KK σ :=
  have r := hT.setF (T' := { T with size := v }) rfl rfl rfl rfl rfl
  Pu.fld hT.t (L.fT (by kernel_rfl)) (show _ ≤ 900 from Nat.le_of_ble_eq_true rfl) (by rw [show setF T.fs "size" v = Tb.fs { T with size := v } by kernel_rfl]; exact h _ r.1 r.2)
omit L
theorem Pg.arr {k : Int} {v : V} (hT : TR σ t T) (h0 : 0 ≤ k) (hx : T.arr[k.toNat]? = some v) (h : K v σ) : Pg E (.ref T.aa) (.int k) K σ :=
  Pg.lst (.inl hT.arr) h0 (by have := (List.getElem?_eq_some_iff.mp hx).1; have := hT.sa; lia -abstractProof) hx h
theorem Pg.nod {k : Int} {a n} (hT : TR σ t T) (h0 : 0 ≤ k) (hx : T.nds[k.toNat]? = some (a, n)) (h : K (.ref a) σ) : Pg E (.ref T.na) (.int k) K σ :=
  Pg.lst (.inl hT.nl) h0 (by have := (List.getElem?_eq_some_iff.mp hx).1; have := hT.sn; lia -abstractProof) (by rw [List.getElem?_map, hx]; rfl) h
theorem Pv.lenA (hT : TR σ t T) (h : K (.int T.arr.length) σ) : Pv E tcall [.bi "len", .ref T.aa] K σ := Pv.len (.inl hT.arr) (by have := hT.sa; lia -abstractProof) h
theorem Pv.lenN (hT : TR σ t T) (h : K (.int T.nds.length) σ) : Pv E tcall [.bi "len", .ref T.na] K σ :=
  Pv.len (.inl hT.nl) (by have := hT.sn; simp; lia -abstractProof) (by simpa using h)
theorem Pu.arr {k : Int} {v : V} (hT : TR σ t T) (h0 : 0 ≤ k) (hk : k < T.arr.length) (hp : v.plain = true) (h : ∀ σ', TR σ' t { T with arr := T.arr.set k.toNat v } → Mv σ t T σ' { T with arr := T.arr.set k.toNat v } → KK σ') :
    Pu E (u3 setItem) [.ref T.aa, .int k, v] KK σ :=
  have r := hT.setA (T.arr.set k.toNat v) (fun w hw => (List.mem_or_eq_of_mem_set hw).elim (hT.pa w) fun e => e ▸ hp) (by rw [List.length_set]; exact hT.sa)
  Pu.lst hT.arr h0 hk (by have := hT.sa; lia -abstractProof) (h _ r.1 r.2)
/-- a method of a table is found -/
theorem Meth.tab {x : Str} {P : Prop} (hT : TR σ t T) (hx : getF T.fs x = none) (h : P) : Meth x cT σ P (.ref t) := .mk t T.fs hT.t hx h
end
/-! kinds of values -/
inductive Tag where
  | nil | bool (b : Bool) | int (i : Int) | bytes (l : List UInt8) | ref (k : Nat) (n : Int) | bad
  deriving DecidableEq
noncomputable def tag (ν : Nu) : V → Tag
  | .none => .nil
  | .bool b => .bool b
  | .int i => .int i
  | .bytes b => .bytes b.toList
  | .ref a => match ν a with | some r => .ref r.kind r.num | none => .bad
  | _ => .bad
/-- a value that the text's own defs tell the kind of -/
inductive AnyV (ν : Nu) : V → Prop
  | none : AnyV ν .none
  | bool (b : Bool) : AnyV ν (.bool b)
  | int (i : Int) : AnyV ν (.int i)
  | bytes (b : Array UInt8) (h : b.size ≤ 2 ^ 20) : AnyV ν (.bytes b)
  | ref (a : Addr) (r : Rf) (h : ν a = some r) : AnyV ν (.ref a)
theorem AnyV.plain {ν v} (h : AnyV ν v) : v.plain = true := by cases h <;> rfl
noncomputable def isInt : V → Bool
  | .int _ => true
  | _ => false
noncomputable def tcode : Tag → Int
  | .nil => 0
  | .bool _ => 1
  | .int _ => 3
  | .bytes _ => 4
  | .ref 0 _ => 5
  | .ref 1 _ => 2
  | _ => -1
noncomputable def isTab : Tag → Bool
  | .ref 0 _ => true
  | _ => false
/-! isinstance -/
noncomputable def isBool : V → Bool
  | .bool _ => true
  | _ => false
noncomputable def isBytes : V → Bool
  | .bytes _ => true
  | _ => false
noncomputable def isRef (k : Nat) : Tag → Bool
  | .ref j _ => j == k
  | _ => false
theorem tag_ref {ν : Nu} {a r} (h : ν a = some r) : tag ν (.ref a) = .ref r.kind r.num := by show (match ν a with | some r => Tag.ref r.kind r.num | none => .bad) = _; rw [h]
section
variable {E : En} (L : Law E.g) {ν : Nu} {σ : MH} {K : V → MH → Prop} {v : V}
theorem clsVal (c : V) (hc : ∀ h r, VRel h c r → r = toVal c) {b : Bool} (C : Value) (hv : ClsOf σ v C) (e : kitOne E.g.K C (toVal c) = some b) (ho : ownKV E.g.K C = true) (h : K (.bool b) σ) : Pv E tcall [.bi "isinstance", v, c] K σ :=
  ⟨fun φ q => PV.isi hv hc (by rw [q]; exact ho) (by rw [q]; exact e) h⟩
/-- what a kind of value answers for a class -/
structure IsAns (K : Frag) (c : V) (fn fb fi fy f0 f1 f2 : Bool) : Prop where
  val : ∀ h r, VRel h c r → r = toVal c
  n : kitOne K (.type "NoneType") (toVal c) = some fn
  b : kitOne K (.type "bool") (toVal c) = some fb
  i : kitOne K (.type "int") (toVal c) = some fi
  y : kitOne K (.type "bytes") (toVal c) = some fy
  t : kitOne K (.ref cT) (toVal c) = some f0
  l : kitOne K (.ref cL) (toVal c) = some f1
  d : kitOne K (.ref cD) (toVal c) = some f2
theorem Law.own {g : G} (L : Law g) (k : Nat) : ownKV g.K (.ref (cls k)) = true := by unfold cls; rw [L.K]; split <;> kernel_rfl
include L
theorem IsAns.at {c fn fb fi fy f0 f1 f2} (A : IsAns E.g.K c fn fb fi fy f0 f1 f2) (k : Knows σ ν) (hv : AnyV ν v) {q : Bool} (hn : v = .none → fn = q) (hb : ∀ b, v = .bool b → fb = q) (hi : ∀ i, v = .int i → fi = q) (hy : ∀ b, v = .bytes b → fy = q)
    (h0 : ∀ n, tag ν v = .ref 0 n → f0 = q) (h1 : ∀ n, tag ν v = .ref 1 n → f1 = q) (h2 : ∀ n, tag ν v = .ref 2 n → f2 = q) (h : K (.bool q) σ) : Pv E tcall [.bi "isinstance", v, c] K σ := by
  cases hv with
  | none => exact clsVal c A.val _ .none (hn rfl ▸ A.n) rfl h
  | bool b => exact clsVal c A.val _ (.bool b) (hb b rfl ▸ A.b) rfl h
  | int b => exact clsVal c A.val _ (.int b) (hi b rfl ▸ A.i) rfl h
  | bytes b => exact clsVal c A.val _ (.bytes b) (hy b rfl ▸ A.y) rfl h
  | ref a r e =>
    obtain ⟨hk, fs, hσ, _⟩ := k.at_ a r e
    have et := tag_ref e
    obtain ⟨k, n⟩ := r
    have ho := L.own k
    rcases k with _ | _ | _ | k
    · exact clsVal c A.val _ (.inst hσ) (h0 n et ▸ A.t) ho h
    · exact clsVal c A.val _ (.inst hσ) (h1 n et ▸ A.l) ho h
    · exact clsVal c A.val _ (.inst hσ) (h2 n et ▸ A.d) ho h
    · exact absurd hk (by simp)
end
section
variable {E : En} (L : Law E.g) {ν : Nu} {σ : MH} {K : V → MH → Prop} {v : V}
theorem toVal_ref {a : Addr} : ∀ h r, VRel h (.ref a) r → r = toVal (.ref a) := fun _ _ e => e.ref_inv
theorem toVal_typ {n : String} : ∀ h r, VRel h (.typ n) r → r = toVal (.typ n) := fun _ _ e => e.typ_inv
noncomputable def ansB (K : Frag) (c : V) (fn fb fi fy f0 f1 f2 : Bool) : Bool :=
  kitOne K (.type "NoneType") (toVal c) == some fn && (kitOne K (.type "bool") (toVal c) == some fb && (kitOne K (.type "int") (toVal c) == some fi && (kitOne K (.type "bytes") (toVal c) == some fy && (kitOne K (.ref cT) (toVal c) == some f0 && (kitOne K (.ref cL) (toVal c) == some f1 && kitOne K (.ref cD) (toVal c) == some f2)))))
theorem Law.ans {g : G} (L : Law g) {c : V} {fn fb fi fy f0 f1 f2 : Bool} (hv : ∀ h r, VRel h c r → r = toVal c) (h : ∀ P, ansB (hd.heap_1 P) c fn fb fi fy f0 f1 f2 = true) : IsAns g.K c fn fb fi fy f0 f1 f2 := by
  have h := h g.w.params
  rw [← L.K] at h
  obtain ⟨h1, h⟩ := Bool.and_eq_true_iff.mp h
  obtain ⟨h2, h⟩ := Bool.and_eq_true_iff.mp h
  obtain ⟨h3, h⟩ := Bool.and_eq_true_iff.mp h
  obtain ⟨h4, h⟩ := Bool.and_eq_true_iff.mp h
  obtain ⟨h5, h⟩ := Bool.and_eq_true_iff.mp h
  obtain ⟨h6, h7⟩ := Bool.and_eq_true_iff.mp h
  exact ⟨hv, eq_of_beq h1, eq_of_beq h2, eq_of_beq h3, eq_of_beq h4, eq_of_beq h5, eq_of_beq h6, eq_of_beq h7⟩
theorem Law.isI {g : G} (L : Law g) : IsAns g.K (.typ "int") false true true false false false false := L.ans toVal_typ fun _ => by kernel_rfl
theorem Law.isB {g : G} (L : Law g) : IsAns g.K (.typ "bool") false true false false false false false := L.ans toVal_typ fun _ => by kernel_rfl
theorem Law.isY {g : G} (L : Law g) : IsAns g.K (.typ "bytes") false false false true false false false := L.ans toVal_typ fun _ => by kernel_rfl
theorem Law.isH {g : G} (L : Law g) : IsAns g.K (.ref cH) false false false false true false false := L.ans toVal_ref fun _ => by kernel_rfl
theorem Law.isL {g : G} (L : Law g) : IsAns g.K (.ref cL) false false false false false true false := L.ans toVal_ref fun _ => by kernel_rfl
theorem Law.isD {g : G} (L : Law g) : IsAns g.K (.ref cD) false false false false false false true := L.ans toVal_ref fun _ => by kernel_rfl
include L
theorem Pv.isR {k : Nat} {c fn fb fi fy f0 f1 f2} (A : IsAns E.g.K c fn fb fi fy f0 f1 f2) (hk : Knows σ ν) (hv : AnyV ν v) (hz : (!fn && !fb && !fi && !fy && f0 == (0 == k) && f1 == (1 == k) && f2 == (2 == k)) = true) (h : K (.bool (isRef k (tag ν v))) σ) : Pv E tcall [.bi "isinstance", v, c] K σ := by
  simp only [Bool.and_eq_true, Bool.not_eq_true', beq_iff_eq] at hz
  obtain ⟨⟨⟨⟨⟨⟨rfl, rfl⟩, rfl⟩, rfl⟩, rfl⟩, rfl⟩, rfl⟩ := hz
  exact A.at L hk hv (fun e => by rw [e]; rfl) (fun b e => by rw [e]; rfl) (fun b e => by rw [e]; rfl) (fun b e => by rw [e]; rfl) (fun n e => by rw [e]; rfl) (fun n e => by rw [e]; rfl) (fun n e => by rw [e]; rfl) h
omit L in
theorem isVal {f : V → Bool} (hr : ∀ a, f (.ref a) = false) {k n} (e : tag ν v = .ref k n) : false = f v := by
  cases v <;> first | exact (hr _).symm | cases e
theorem Pv.isB (hk : Knows σ ν) (hv : AnyV ν v) (h : K (.bool (isBool v)) σ) : Pv E tcall [.bi "isinstance", v, .typ "bool"] K σ :=
  L.isB.at L hk hv (fun e => by rw [e]; rfl) (fun b e => by rw [e]; rfl) (fun b e => by rw [e]; rfl) (fun b e => by rw [e]; rfl) (fun _ e => isVal (fun _ => rfl) e) (fun _ e => isVal (fun _ => rfl) e) (fun _ e => isVal (fun _ => rfl) e) h
theorem Pv.isI (hk : Knows σ ν) (hv : AnyV ν v) (h : K (.bool (isInt v || isBool v)) σ) : Pv E tcall [.bi "isinstance", v, .typ "int"] K σ :=
  L.isI.at L hk hv (fun e => by rw [e]; rfl) (fun b e => by rw [e]; rfl) (fun b e => by rw [e]; rfl) (fun b e => by rw [e]; rfl) (fun _ e => isVal (f := fun v => isInt v || isBool v) (fun _ => rfl) e) (fun _ e => isVal (f := fun v => isInt v || isBool v) (fun _ => rfl) e) (fun _ e => isVal (f := fun v => isInt v || isBool v) (fun _ => rfl) e) h
theorem Pv.isY (hk : Knows σ ν) (hv : AnyV ν v) (h : K (.bool (isBytes v)) σ) : Pv E tcall [.bi "isinstance", v, .typ "bytes"] K σ :=
  L.isY.at L hk hv (fun e => by rw [e]; rfl) (fun b e => by rw [e]; rfl) (fun b e => by rw [e]; rfl) (fun b e => by rw [e]; rfl) (fun _ e => isVal (fun _ => rfl) e) (fun _ e => isVal (fun _ => rfl) e) (fun _ e => isVal (fun _ => rfl) e) h
theorem Pv.isH (hk : Knows σ ν) (hv : AnyV ν v) (h : K (.bool (isRef 0 (tag ν v))) σ) : Pv E tcall [.bi "isinstance", v, .ref cH] K σ := Pv.isR L L.isH hk hv rfl h
theorem Pv.isL (hk : Knows σ ν) (hv : AnyV ν v) (h : K (.bool (isRef 1 (tag ν v))) σ) : Pv E tcall [.bi "isinstance", v, .ref cL] K σ := Pv.isR L L.isL hk hv rfl h
theorem Pv.isD (hk : Knows σ ν) (hv : AnyV ν v) (h : K (.bool (isRef 2 (tag ν v))) σ) : Pv E tcall [.bi "isinstance", v, .ref cD] K σ := Pv.isR L L.isD hk hv rfl h
end
noncomputable def c_is_number_1 : Cd := .ld 0 <| .lit (.typ "bool") <| .call (.bi "isinstance") 2 <| .una .Not <| .ret
noncomputable def c_is_number_2 : Cd := .lit (.bool false) <| .ret
noncomputable def c_is_number : Cd := .ld 0 <| .lit (.typ "int") <| .call (.bi "isinstance") 2 <| .br (c_is_number_1) (c_is_number_2)
theorem is_number_ok {ν v} {σ : MH} (k : Knows σ ν) (hv : AnyV ν v) : Fn 1 90 [v] (fun r σ' => r = .bool (isInt v) ∧ σ' = σ) σ := by
  refine Fn.go (ps := ["value"]) (rest := []) (code := c_is_number) (fun _ => by kernel_rfl) (fun _ => by kernel_rfl) (fun _ => args1 fun _ => by kernel_rfl) (fun _ => by kernel_rfl) rfl fun g L => ?_
  refine Pv.isI L k hv (brk2.bool (fun e => ?_) fun e => ?_)
  · refine Pv.isB L k hv ⟨?_, rfl⟩
    cases v <;> first | rfl | cases e
  · refine ⟨?_, rfl⟩
    cases v <;> first | rfl | cases e
section
variable {E : En} (L : Law E.g) {ν : Nu} {σ : MH} {K : V → MH → Prop} {v a b : V}
theorem tag_inv {j n} (e : tag ν v = .ref j n) : ∃ a, v = .ref a ∧ ν a = some ⟨j, n⟩ := by
  cases v with
  | ref a =>
    refine ⟨a, rfl, ?_⟩
    change (match ν a with | some r => Tag.ref r.kind r.num | none => .bad) = .ref j n at e
    split at e
    · rename_i r h; cases e; exact h
    · cases e
  | _ => cases e
theorem isRef_eq {k t} (e : isRef k t = true) : ∃ n, t = .ref k n := by
  cases t with
  | ref j n => exact ⟨n, by rw [show j = k from eq_of_beq e]⟩
  | _ => cases e
include L
theorem Pv.num {j n} (k : Knows σ ν) (e : tag ν v = .ref j n) (h : K (.int n) σ) : Pv E (gA "number") [v] K σ := by
  obtain ⟨a, rfl, e2⟩ := tag_inv e
  obtain ⟨_, fs, h2, h3, _⟩ := k.at_ a _ e2
  exact Pv.fld h2 L.fNum h3 rfl h
theorem Pv.kind {n} (k : Knows σ ν) (e : tag ν v = .ref 0 n) (h : K (.int 5) σ) : Pv E (gA "kind") [v] K σ := by
  obtain ⟨a, rfl, e2⟩ := tag_inv e
  obtain ⟨_, fs, h2, _, h3⟩ := k.at_ a _ e2
  have t : ∃ tk, cattrK E.g.K cT "kind" (.int 5 tk) = true := by
    rw [L.K]
    exact ⟨209, by kernel_rfl⟩
  obtain ⟨tk, t⟩ := t
  exact ⟨fun φ q => PV.cattr h2 (by rw [q]; exact t) h3 (fun _ => .int _ _) h⟩
omit L
theorem Pv.inTup {n xs x} (c : ∀ y ∈ xs, Cq n y x) (hn : n ≤ 100) (h : K (.bool (xs.any (veq · x))) σ) : Pv E (t2 (compareOp .In)) [x, .tup xs] K σ := ⟨fun _ _ => PV.inTup c hn h⟩
theorem veq_int {x y : Int} : veq (.int x) (.int y) = decide (x = y) := veq_dec ⟨fun e => V.int.inj e, fun e => e ▸ rfl⟩
/-- equality of any values -/
theorem cmp_eq {n k Q s ls} (c : Cq n a b) (hn : n ≤ 100) (h : wp k E Q (.bool (veq a b) :: s) ls σ) : wp (.cmp .Eq k) E Q (b :: a :: s) ls σ := by
  show cmpQ E .Eq a b (fun v σ => wp k E Q (v :: s) ls σ) σ
  have p : Pv E (t2 (compareOp .Eq)) [a, b] (fun v σ => wp k E Q (v :: s) ls σ) σ := Pv.eq c hn h
  cases a with
  | int x =>
    cases b with
    | int y => rw [veq_int] at h; exact h
    | _ => exact p
  | _ => exact p
end
noncomputable def c_type_of_1 : Cd := .lit (.int (0)) <| .ret
noncomputable def c_type_of_2 : Cd := .lit (.int (1)) <| .ret
noncomputable def c_type_of_3 : Cd := .lit (.int (3)) <| .ret
noncomputable def c_type_of_4 : Cd := .lit (.int (4)) <| .ret
noncomputable def c_type_of_5 : Cd := .lit (.int (2)) <| .ret
noncomputable def c_type_of_6 : Cd := .ld 0 <| .fld "kind" <| .ret
noncomputable def c_type_of_7 : Cd := .lit (.int (-1)) <| .ret
noncomputable def c_type_of_8 : Cd := .ld 0 <| .lit (.ref 58) <| .call (.bi "isinstance") 2 <| .br (c_type_of_6) (c_type_of_7)
noncomputable def c_type_of_9 : Cd := .ld 0 <| .lit (.ref 79) <| .call (.bi "isinstance") 2 <| .br (c_type_of_5) (c_type_of_8)
noncomputable def c_type_of_10 : Cd := .ld 0 <| .lit (.typ "bytes") <| .call (.bi "isinstance") 2 <| .br (c_type_of_4) (c_type_of_9)
noncomputable def c_type_of_11 : Cd := .ld 0 <| .lit (.typ "int") <| .call (.bi "isinstance") 2 <| .br (c_type_of_3) (c_type_of_10)
noncomputable def c_type_of_12 : Cd := .ld 0 <| .lit (.typ "bool") <| .call (.bi "isinstance") 2 <| .br (c_type_of_2) (c_type_of_11)
noncomputable def c_type_of : Cd := .ld 0 <| .isn true <| .br (c_type_of_1) (c_type_of_12)
section
variable {ν : Nu} {σ : MH} {v a b : V}
theorem type_of_ok (k : Knows σ ν) (hv : AnyV ν v) : Fn 1 97 [v] (fun r σ' => r = .int (tcode (tag ν v)) ∧ σ' = σ) σ := by
  refine Fn.go (ps := ["value"]) (rest := []) (code := c_type_of) (fun _ => by kernel_rfl) (fun _ => by kernel_rfl) (fun _ => args1 fun _ => by kernel_rfl) (fun _ => by kernel_rfl) rfl fun g L => ?_
  refine ⟨hv.plain, brk2.bool (fun e => ⟨?_, rfl⟩) fun e0 => Pv.isB L k hv (brk2.bool (fun e => ⟨?_, rfl⟩) fun e1 => Pv.isI L k hv (brk2.bool (fun e => ⟨?_, rfl⟩) fun e2 => Pv.isY L k hv (brk2.bool (fun e => ⟨?_, rfl⟩) fun e3 =>
    Pv.isL L k hv (brk2.bool (fun e => ?_) fun e4 => Pv.isH L k hv (brk2.bool (fun e => ?_) fun e5 => ⟨?_, rfl⟩)))))⟩
  · cases v <;> first | rfl | cases e
  · cases v <;> first | rfl | cases e
  · cases v <;> first | rfl | exact absurd e Bool.false_ne_true | exact absurd e1.symm Bool.false_ne_true
  · cases v <;> first | rfl | cases e
  · obtain ⟨n, e⟩ := isRef_eq e
    exact ⟨by rw [e]; rfl, rfl⟩
  · obtain ⟨n, e⟩ := isRef_eq e
    exact Pv.kind L k e ⟨by rw [e]; rfl, rfl⟩
  · cases hv with
    | ref x r h =>
      rw [tag_ref h] at e4 e5 ⊢
      obtain ⟨j, n⟩ := r
      rcases j with _ | _ | j
      · cases e5
      · cases e4
      · rfl
    | none => cases e0
    | bool => cases e1
    | int => cases e2
    | bytes => cases e3
end
noncomputable def c_raw_equal_1 : Cd := .lit (.bool false) <| .ret
noncomputable def c_raw_equal_2 : Cd := .lit (.bool true) <| .ret
noncomputable def c_raw_equal_3 : Cd := .ld 0 <| .ld 1 <| .cmp .Eq <| .ret
noncomputable def c_raw_equal_4 : Cd := .ld 0 <| .fld "number" <| .ld 1 <| .fld "number" <| .cmp .Eq <| .ret
noncomputable def c_raw_equal_5 : Cd := .ld 2 <| .lit (.int (1)) <| .lit (.int (3)) <| .lit (.int (4)) <| .tup 3 <| .cmp .In <| .br (c_raw_equal_3) (c_raw_equal_4)
noncomputable def c_raw_equal_6 : Cd := .ld 2 <| .lit (.int (0)) <| .cmp .Eq <| .br (c_raw_equal_2) (c_raw_equal_5)
noncomputable def c_raw_equal : Cd := .ld 0 <| .call (.ref 97) 1 <| .st 2 <| .ld 2 <| .ld 1 <| .call (.ref 97) 1 <| .cmp .NotEq <| .br (c_raw_equal_1) (c_raw_equal_6)
section
variable {ν : Nu} {σ : MH} {a b : V}
noncomputable def inTri (t : Int) : Bool := decide (1 = t) || (decide (3 = t) || (decide (4 = t) || false))
theorem any_tri (t : Int) : [V.int 1, .int 3, .int 4].any (veq · (.int t)) = inTri t := by
  show (veq (.int 1) (.int t) || (veq (.int 3) (.int t) || (veq (.int 4) (.int t) || false))) = _
  rw [veq_int, veq_int, veq_int]; rfl
theorem bytes_inj {p q : Array UInt8} (h : p.toList = q.toList) : p = q := by
  cases p; cases q; exact congrArg _ h
structure TriC (ν : Nu) (a b : V) : Prop where
  c : Cq 0 a b
  h : a = b ↔ tag ν a = tag ν b
theorem tri_ref {r : Rf} (h : inTri (tcode (.ref r.kind r.num)) = true) : False := by
  obtain ⟨j, n⟩ := r
  rcases j with _ | _ | j <;> cases h
/-- values of one of the three kinds -/
theorem tri_cq (ha : AnyV ν a) (hb : AnyV ν b) (h : inTri (tcode (tag ν a)) = true) (e : tcode (tag ν a) = tcode (tag ν b)) : TriC ν a b := by
  cases ha with
  | none => cases h
  | bool p =>
    cases hb with
    | bool q => exact ⟨.bb _ _, fun e => e ▸ rfl, fun e => by cases e; rfl⟩
    | ref y s hy => rw [e, tag_ref hy] at h; exact (tri_ref h).elim
    | _ => cases e
  | int p =>
    cases hb with
    | int q => exact ⟨.ii _ _, fun e => e ▸ rfl, fun e => by cases e; rfl⟩
    | ref y s hy => rw [e, tag_ref hy] at h; exact (tri_ref h).elim
    | _ => cases e
  | bytes p =>
    cases hb with
    | bytes q => exact ⟨.yy _ _, fun e => e ▸ rfl, fun e => congrArg V.bytes (bytes_inj (by injection e))⟩
    | ref y s hy => rw [e, tag_ref hy] at h; exact (tri_ref h).elim
    | _ => cases e
  | ref x r hx => rw [tag_ref hx] at h; exact (tri_ref h).elim
theorem two_refs (k : Knows σ ν) (ha : AnyV ν a) (hb : AnyV ν b) (e : tcode (tag ν a) = tcode (tag ν b)) (h0 : tcode (tag ν a) ≠ 0) (h : inTri (tcode (tag ν a)) = false) : X3 fun j n m => tag ν a = .ref j n ∧ tag ν b = .ref j m := by
  have at_ : ∀ {v : V}, AnyV ν v → tcode (tag ν v) ≠ 0 → inTri (tcode (tag ν v)) = false → X2 fun j n => j ≤ 2 ∧ tag ν v = .ref j n := fun hv h0 h => by
    cases hv with
    | none => exact absurd rfl h0
    | ref x r hx => exact ⟨_, _, (k.at_ x r hx).1, tag_ref hx⟩
    | _ => cases h
  obtain ⟨i, n, hi, ea⟩ := at_ ha h0 h
  obtain ⟨j, m, hj, eb⟩ := at_ hb (e ▸ h0) (e ▸ h)
  rw [ea, eb] at e
  refine ⟨i, n, m, ea, ?_⟩
  rcases i with _ | _ | _ | i <;> rcases j with _ | _ | _ | j <;> first | exact eb | lia -abstractProof | cases e
theorem raw_equal_ok (k : Knows σ ν) (ha : AnyV ν a) (hb : AnyV ν b) : Fn 3 111 [a, b] (fun r σ' => r = .bool (decide (tag ν a = tag ν b)) ∧ σ' = σ) σ := by
  refine Fn.go (ps := ["a", "b"]) (rest := ["tag"]) (code := c_raw_equal) (fun _ => by kernel_rfl) (fun _ => by kernel_rfl) (fun _ => args2 fun _ _ => by kernel_rfl) (fun _ => by kernel_rfl) rfl fun g L => ?_
  refine Pv.fn1 L (type_of_ok k ha) rfl ?_
  refine Pv.fn1 L (type_of_ok k hb) rfl ?_
  refine brk2.bool (fun e => ?_) fun e => ?_
  · have hne : tag ν a ≠ tag ν b := fun z => by simp [z] at e
    exact ⟨by rw [decide_eq_false hne], rfl⟩
  have hc : tcode (tag ν a) = tcode (tag ν b) := by simpa using e
  refine brk2.dec (fun h0 => ?_) fun h0 => Pv.inTup (n := 0) (x := .int (tcode (tag ν a))) (xs := [.int 1, .int 3, .int 4]) (fun y hy => ?_) (Nat.zero_le _) ?_
  · have z : ∀ {v}, AnyV ν v → tcode (tag ν v) = 0 → tag ν v = .nil := fun hv h => by
      cases hv with
      | none => rfl
      | ref x r hx =>
        rw [tag_ref hx] at h
        obtain ⟨j, n⟩ := r
        rcases j with _ | _ | j <;> cases h
      | _ => cases h
    exact ⟨by rw [z ha h0, z hb (hc ▸ h0)]; rfl, rfl⟩
  · rcases List.mem_cons.mp hy with rfl | hy
    · exact .ii _ _
    · rcases List.mem_cons.mp hy with rfl | hy
      · exact .ii _ _
      · rw [List.mem_singleton.mp hy]; exact .ii _ _
  · rw [any_tri]
    refine brk2.bool (fun e => ?_) fun e => ?_
    · obtain ⟨c, h⟩ := tri_cq ha hb e hc
      exact cmp_eq c (Nat.zero_le _) ⟨by rw [veq_dec h], rfl⟩
    · obtain ⟨j, n, m, ea, eb⟩ := two_refs k ha hb hc h0 e
      refine Pv.num L k ea (Pv.num L k eb ⟨?_, rfl⟩)
      rw [ea, eb]
      exact congrArg V.bool (by rw [Bool.eq_iff_iff, decide_eq_true_iff, decide_eq_true_iff]; exact ⟨fun e => e ▸ rfl, fun e => by injection e⟩)
end
/-! the chains of the nodes (plain) -/
inductive Rch (N : Nat → Int) : Nat → Nat → Prop
  | refl (i : Nat) : Rch N i i
  | step {i j k : Nat} (h : N i = (j : Int)) (t : Rch N j k) : Rch N i k
structure Gr (n : Nat) (has : Nat → Prop) (mn : Nat → Nat) (N : Nat → Int) : Prop where
  rng : ∀ i, i < n → -1 ≤ N i ∧ N i < n
  free : ∀ i, i < n → ¬ has i → N i = -1 ∧ ∀ j, j < n → N j ≠ i
  inj : ∀ i j, i < n → j < n → N i = N j → 0 ≤ N i → i = j
  rank : ∃ r : Nat → Nat, ∀ i j, i < n → j < n → N i = (j : Int) → r j < r i
  main : ∀ i, i < n → has i → mn i < n ∧ has (mn i) ∧ mn (mn i) = mn i ∧ Rch N (mn i) i
/-- the next one on the way -/
theorem Rch.next {N : Nat → Int} {i k : Nat} (h : Rch N i k) (ne : i ≠ k) : ∃ j : Nat, N i = (j : Int) ∧ Rch N j k := by
  cases h with
  | refl => exact absurd rfl ne
  | step h t => exact ⟨_, h, t⟩
theorem Gr.congr {n has mn N has' mn' N'} (G : Gr n has mn N) (h1 : ∀ i, i < n → (has' i ↔ has i)) (h2 : ∀ i, i < n → has i → mn' i = mn i) (h3 : ∀ i, i < n → N' i = N i) : Gr n has' mn' N' := by
  have rc : ∀ {i j}, Rch N i j → i < n → Rch N' i j := by
    intro i j h
    induction h with
    | refl => intro _; exact .refl _
    | step h _ ih => intro hi; exact .step ((h3 _ hi).trans h) (ih (by have := (G.rng _ hi).2; lia))
  obtain ⟨r, hr⟩ := G.rank
  refine ⟨fun i hi => by rw [h3 i hi]; exact G.rng i hi, fun i hi nh => ?_, fun i j hi hj e p => ?_, ⟨r, fun i j hi hj e => hr i j hi hj (by rw [← h3 i hi]; exact e)⟩, fun i hi hh => ?_⟩
  · have := G.free i hi (fun z => nh ((h1 i hi).mpr z))
    exact ⟨by rw [h3 i hi]; exact this.1, fun j hj => by rw [h3 j hj]; exact this.2 j hj⟩
  · rw [h3 i hi] at e p; rw [h3 j hj] at e; exact G.inj i j hi hj e p
  · have hh' := (h1 i hi).mp hh
    obtain ⟨a, b, c, d⟩ := G.main i hi hh'
    rw [h2 i hi hh']
    exact ⟨a, (h1 _ a).mpr b, by rw [h2 _ a b]; exact c, rc d a⟩
/-- a key comes to its main place, where no value is -/
theorem Gr.fill {n has mn N has' mn'} (G : Gr n has mn N) {m : Nat} (hm : m < n) (a1 : has' m) (a2 : mn' m = m) (a3 : ∀ i, i < n → i ≠ m → (has' i ↔ has i)) (a4 : ∀ i, i < n → i ≠ m → mn' i = mn i) : Gr n has' mn' N := by
  refine ⟨G.rng, fun i hi nh => ?_, G.inj, G.rank, fun i hi hh => ?_⟩
  · have : i ≠ m := fun z => nh (z ▸ a1)
    exact G.free i hi fun z => nh ((a3 i hi this).mpr z)
  · by_cases e : i = m
    · subst e; rw [a2]; exact ⟨hi, a1, a2, .refl _⟩
    · obtain ⟨b1, b2, b3, b4⟩ := G.main i hi ((a3 i hi e).mp hh)
      rw [a4 i hi e]
      by_cases e2 : mn i = m
      · exact ⟨b1, by rw [e2]; exact a1, by rw [e2]; exact a2, b4⟩
      · exact ⟨b1, (a3 _ b1 e2).mpr b2, by rw [a4 _ b1 e2]; exact b3, b4⟩
/-- a key of the same main place is hung behind it -/
theorem Gr.link {n has mn N has' mn' N'} (G : Gr n has mn N) {m s : Nat} (hm : m < n) (hs : s < n) (k1 : has m) (k2 : mn m = m) (k3 : ¬ has s) (n1 : N' m = (s : Int)) (n2 : N' s = N m) (n3 : ∀ i, i < n → i ≠ m → i ≠ s → N' i = N i)
    (a1 : has' s) (a2 : mn' s = m) (a3 : ∀ i, i < n → i ≠ s → (has' i ↔ has i)) (a4 : ∀ i, i < n → i ≠ s → mn' i = mn i) : Gr n has' mn' N' := by
  have ms : m ≠ s := fun z => k3 (z ▸ k1)
  obtain ⟨f1, f2⟩ := G.free s hs k3
  obtain ⟨r, hr⟩ := G.rank
  have rc : ∀ {i j}, Rch N i j → i < n → i ≠ s → Rch N' i j := by
    intro i j h
    induction h with
    | refl => intro _ _; exact .refl _
    | @step i j k h t ih =>
      intro hi hn
      have hj : j < n := by have := (G.rng _ hi).2; lia
      have js : j ≠ s := fun z => f2 i hi (by rw [h, z])
      by_cases e : i = m
      · subst e; exact .step n1 (.step (n2.trans h) (ih hj js))
      · exact .step ((n3 i hi e hn).trans h) (ih hj js)
  refine ⟨fun i hi => ?_, fun i hi nh => ?_, fun i j hi hj e p => ?_, ⟨fun i => if i = s then 2 * r m else 2 * r i + 1, fun i j hi hj e => ?_⟩, fun i hi hh => ?_⟩
  · by_cases e1 : i = m
    · rw [e1, n1]; lia
    · by_cases e2 : i = s
      · rw [e2, n2]; exact G.rng m hm
      · rw [n3 i hi e1 e2]; exact G.rng i hi
  · have is : i ≠ s := fun z => nh (z ▸ a1)
    have nh' : ¬ has i := fun z => nh ((a3 i hi is).mpr z)
    have im : i ≠ m := fun z => nh' (z ▸ k1)
    obtain ⟨g1, g2⟩ := G.free i hi nh'
    refine ⟨by rw [n3 i hi im is]; exact g1, fun j hj => ?_⟩
    by_cases e1 : j = m
    · rw [e1, n1]; intro z; exact is (by lia)
    · by_cases e2 : j = s
      · rw [e2, n2]; exact g2 m hm
      · rw [n3 j hj e1 e2]; exact g2 j hj
  · by_cases i1 : i = m
    · by_cases j1 : j = m
      · rw [i1, j1]
      · exfalso
        rw [i1, n1] at e
        by_cases j2 : j = s
        · rw [j2, n2] at e; exact f2 m hm e.symm
        · rw [n3 j hj j1 j2] at e; exact f2 j hj e.symm
    · by_cases j1 : j = m
      · exfalso
        rw [j1, n1] at e
        by_cases i2 : i = s
        · rw [i2, n2] at e; exact f2 m hm e
        · rw [n3 i hi i1 i2] at e; exact f2 i hi e
      · by_cases i2 : i = s
        · by_cases j2 : j = s
          · rw [i2, j2]
          · exfalso
            rw [i2, n2] at p
            rw [i2, n2, n3 j hj j1 j2] at e
            exact j1 (G.inj m j hm hj e p).symm
        · by_cases j2 : j = s
          · exfalso
            rw [n3 i hi i1 i2] at p
            rw [j2, n2, n3 i hi i1 i2] at e
            exact i1 (G.inj i m hi hm e p)
          · rw [n3 i hi i1 i2] at p
            rw [n3 i hi i1 i2, n3 j hj j1 j2] at e
            exact G.inj i j hi hj e p
  · dsimp only
    by_cases i1 : i = m
    · have : j = s := by rw [i1, n1] at e; lia
      rw [if_pos this, if_neg (i1 ▸ ms), i1]; lia
    · by_cases i2 : i = s
      · rw [i2, n2] at e
        have := hr m j hm hj e
        rw [if_pos i2, if_neg (fun z => f2 m hm (by rw [e, z]))]; lia
      · rw [n3 i hi i1 i2] at e
        have := hr i j hi hj e
        rw [if_neg i2, if_neg (fun z => f2 i hi (by rw [e, z]))]; lia
  · by_cases e : i = s
    · subst e; rw [a2]
      exact ⟨hm, (a3 m hm ms).mpr k1, by rw [a4 m hm ms]; exact k2, .step n1 (.refl _)⟩
    · obtain ⟨b1, b2, b3, b4⟩ := G.main i hi ((a3 i hi e).mp hh)
      have ne : mn i ≠ s := fun z => k3 (z ▸ b2)
      rw [a4 i hi e]
      exact ⟨b1, (a3 _ b1 ne).mpr b2, by rw [a4 _ b1 ne]; exact b3, rc b4 b1 ne⟩
/-- the key that stands in another's main place is moved to a free one -/
theorem Gr.move {n has mn N has' mn' N'} (G : Gr n has mn N) {m s p : Nat} (hm : m < n) (hs : s < n) (hp : p < n) (k1 : has m) (k2 : mn m ≠ m) (k3 : ¬ has s) (kp : N p = (m : Int))
    (n1 : N' p = (s : Int)) (n2 : N' s = N m) (n0 : N' m = -1) (n3 : ∀ i, i < n → i ≠ m → i ≠ s → i ≠ p → N' i = N i)
    (a1 : has' s) (a2 : mn' s = mn m) (b1 : has' m) (b2 : mn' m = m) (a3 : ∀ i, i < n → i ≠ s → i ≠ m → (has' i ↔ has i)) (a4 : ∀ i, i < n → i ≠ s → i ≠ m → mn' i = mn i) : Gr n has' mn' N' := by
  have ms : m ≠ s := fun z => k3 (z ▸ k1)
  obtain ⟨f1, f2⟩ := G.free s hs k3
  obtain ⟨r, hr⟩ := G.rank
  have pm : p ≠ m := fun z => by have := hr p m hp hm kp; rw [z] at this; lia
  have ps : p ≠ s := fun z => by rw [z, f1] at kp; lia
  have mm : ∀ j : Nat, N m = (j : Int) → j < n → j ≠ m := fun j e hj z => by have := hr m j hm hj e; rw [z] at this; lia
  have only : ∀ i, i < n → N i = (m : Int) → i = p := fun i hi e => G.inj i p hi hp (by rw [e, kp]) (by rw [e]; lia)
  have rc : ∀ {i j}, Rch N i j → i < n → i ≠ s → Rch N' (if i = m then s else i) (if j = m then s else j) := by
    intro i j h
    induction h with
    | refl => intro _ _; exact .refl _
    | @step i j k h t ih =>
      intro hi hn
      have hj : j < n := by have := (G.rng _ hi).2; lia
      have js : j ≠ s := fun z => f2 i hi (by rw [h, z])
      have ih := ih hj js
      by_cases e : i = m
      · rw [if_pos e]
        have jm : j ≠ m := mm j (e ▸ h) hj
        rw [if_neg jm] at ih
        exact .step (n2.trans (e ▸ h)) ih
      · rw [if_neg e]
        by_cases jm : j = m
        · rw [if_pos jm] at ih
          have : i = p := only i hi (by rw [h, jm])
          exact .step (this ▸ n1) ih
        · rw [if_neg jm] at ih
          have : i ≠ p := fun z => jm (by rw [z, kp] at h; lia)
          exact .step ((n3 i hi e hn this).trans h) ih
  refine ⟨fun i hi => ?_, fun i hi nh => ?_, fun i j hi hj e q => ?_, ⟨fun i => if i = s then r m else r i, fun i j hi hj e => ?_⟩, fun i hi hh => ?_⟩
  · by_cases e1 : i = m
    · rw [e1, n0]; lia
    · by_cases e2 : i = s
      · rw [e2, n2]; exact G.rng m hm
      · by_cases e3 : i = p
        · rw [e3, n1]; lia
        · rw [n3 i hi e1 e2 e3]; exact G.rng i hi
  · have is : i ≠ s := fun z => nh (z ▸ a1)
    have im : i ≠ m := fun z => nh (z ▸ b1)
    have nh' : ¬ has i := fun z => nh ((a3 i hi is im).mpr z)
    obtain ⟨g1, g2⟩ := G.free i hi nh'
    have ip : i ≠ p := fun z => by rw [z, kp] at g1; lia
    refine ⟨by rw [n3 i hi im is ip]; exact g1, fun j hj => ?_⟩
    by_cases e1 : j = m
    · rw [e1, n0]; lia
    · by_cases e2 : j = s
      · rw [e2, n2]; exact g2 m hm
      · by_cases e3 : j = p
        · rw [e3, n1]; intro z; exact is (by lia)
        · rw [n3 j hj e1 e2 e3]; exact g2 j hj
  · have cl : ∀ i, i < n → 0 ≤ N' i → (i = p ∧ N' i = (s : Int)) ∨ (i ≠ p ∧ i ≠ m ∧ ∃ i', A4 (i' < n) (N' i = N i') (N i' ≠ (s : Int)) (((i = s ∧ i' = m) ∨ (i ≠ s ∧ i' = i)))) := by
      intro i hi q
      by_cases e1 : i = p
      · exact .inl ⟨e1, e1 ▸ n1⟩
      · right
        refine ⟨e1, fun z => by rw [z, n0] at q; lia, ?_⟩
        by_cases e2 : i = s
        · exact ⟨m, hm, e2 ▸ n2, f2 m hm, .inl ⟨e2, rfl⟩⟩
        · exact ⟨i, hi, n3 i hi (fun z => by rw [z, n0] at q; lia) e2 e1, f2 i hi, .inr ⟨e2, rfl⟩⟩
    rcases cl i hi q with ⟨x1, x2⟩ | ⟨x0, xm, i', x1, x2, x3, x4⟩
    · rcases cl j hj (e ▸ q) with ⟨y1, y2⟩ | ⟨y0, ym, j', y1, y2, y3, y4⟩
      · rw [x1, y1]
      · exfalso; rw [x2, y2] at e; exact y3 e.symm
    · rcases cl j hj (e ▸ q) with ⟨y1, y2⟩ | ⟨y0, ym, j', y1, y2, y3, y4⟩
      · exfalso; rw [x2, y2] at e; exact x3 e
      · have := G.inj i' j' x1 y1 (by rw [← x2, ← y2]; exact e) (by rw [← x2]; exact q)
        rcases x4 with ⟨u1, u2⟩ | ⟨u1, u2⟩ <;> rcases y4 with ⟨v1, v2⟩ | ⟨v1, v2⟩
        · rw [u1, v1]
        · exfalso; exact ym (by rw [← v2, ← this, u2])
        · exfalso; exact xm (by rw [← u2, this, v2])
        · rw [← u2, ← v2, this]
  · dsimp only
    by_cases i1 : i = m
    · rw [i1, n0] at e; lia
    · by_cases i2 : i = p
      · have : j = s := by rw [i2, n1] at e; lia
        rw [if_pos this, if_neg (i2 ▸ ps), i2]
        exact hr p m hp hm kp
      · by_cases i3 : i = s
        · rw [i3, n2] at e
          rw [if_pos i3, if_neg (fun z => f2 m hm (by rw [e, z]))]
          exact hr m j hm hj e
        · rw [n3 i hi i1 i3 i2] at e
          rw [if_neg i3, if_neg (fun z => f2 i hi (by rw [e, z]))]
          exact hr i j hi hj e
  · by_cases e : i = s
    · subst e; rw [a2]
      obtain ⟨c1, c2, c3, c4⟩ := G.main m hm k1
      have ne : mn m ≠ i := fun z => k3 (z ▸ c2)
      have := rc c4 c1 ne
      rw [if_neg k2, if_pos rfl] at this
      exact ⟨c1, (a3 _ c1 ne k2).mpr c2, by rw [a4 _ c1 ne k2]; exact c3, this⟩
    · by_cases e2 : i = m
      · subst e2; rw [b2]; exact ⟨hi, b1, b2, .refl _⟩
      · obtain ⟨c1, c2, c3, c4⟩ := G.main i hi ((a3 i hi e e2).mp hh)
        have ne : mn i ≠ s := fun z => k3 (z ▸ c2)
        have ne2 : mn i ≠ m := fun z => k2 (by rw [z] at c3; exact c3)
        have := rc c4 c1 ne
        rw [if_neg ne2, if_neg e2] at this
        rw [a4 i hi e e2]
        exact ⟨c1, (a3 _ c1 ne ne2).mpr c2, by rw [a4 _ c1 ne ne2]; exact c3, this⟩
/-! places and what the table holds (plain) -/
noncomputable def mixH (found : Int) (b : Int) : Int := Builtin.bitAnd (Builtin.bitXor found (found * 2 ^ 5 + found.fdiv (2 ^ 2) + b)) 4294967295
noncomputable def hloop (t : List UInt8) (step : Nat) : Nat → Nat → Int → Int
  | 0, _, found => found
  | k + 1, at_, found => if step ≤ at_ then hloop t step k (at_ - step) (mixH found ((t.getD (at_ - 1) 0).toNat : Nat)) else found
noncomputable def shash (t : List UInt8) : Int := hloop t (t.length / 32 + 1) t.length t.length (Builtin.bitAnd t.length 4294967295)
noncomputable def mpos (many : Nat) : Tag → Int
  | .bool b => Builtin.bitAnd (if b = true then 1 else 0) ((many : Int) - 1)
  | .int i => i.fmod (Builtin.bitOr ((many : Int) - 1) 1)
  | .bytes l => Builtin.bitAnd (shash l) ((many : Int) - 1)
  | .ref _ n => n.fmod (Builtin.bitOr ((many : Int) - 1) 1)
  | _ => 0
theorem bitOr_one (x : Int) : Builtin.bitOr x 1 = x + 1 - x % 2 := by
  have h1 := bitXor_and x 1
  have h2 : Builtin.bitXor x 1 = Builtin.bitOr x 1 - Builtin.bitAnd x 1 := rfl
  have h3 := bitAnd_m1 x
  lia -abstractProof
theorem mask_range (x : Int) {many : Nat} (h : ∃ k, many = 2 ^ k) : 0 ≤ Builtin.bitAnd x ((many : Int) - 1) ∧ Builtin.bitAnd x ((many : Int) - 1) < many := by
  obtain ⟨k, rfl⟩ := h
  have p : (0 : Int) < 2 ^ k := Int.pow_pos (by decide)
  have e : ((2 ^ k : Nat) : Int) = 2 ^ k := by norm_cast
  rw [e, kbt_mask]
  exact ⟨Int.emod_nonneg _ (by lia -abstractProof), Int.emod_lt_of_pos _ p⟩
theorem rest_range (x : Int) {many : Nat} (h : ∃ k, many = 2 ^ k) : Builtin.bitOr ((many : Int) - 1) 1 ≠ 0 ∧ 0 ≤ x.fmod (Builtin.bitOr ((many : Int) - 1) 1) ∧ x.fmod (Builtin.bitOr ((many : Int) - 1) 1) < many := by
  obtain ⟨k, rfl⟩ := h
  have p : 0 < 2 ^ k := Nat.pow_pos (by decide)
  rw [bitOr_one]
  have m := Int.emod_nonneg ((((2 ^ k : Nat) : Int) - 1)) (show (2 : Int) ≠ 0 by decide)
  have m2 := Int.emod_lt_of_pos ((((2 ^ k : Nat) : Int) - 1)) (show (0 : Int) < 2 by decide)
  have pos : 0 < ((2 ^ k : Nat) : Int) - 1 + 1 - (((2 ^ k : Nat) : Int) - 1) % 2 := by
    rcases k with _ | k
    · decide
    · have : 2 ^ (k + 1) = 2 * 2 ^ k := by rw [Nat.pow_succ]; omega
      have : 0 < 2 ^ k := Nat.pow_pos (by decide)
      omega
  refine ⟨by omega, ?_, ?_⟩
  · rw [Int.fmod_eq_emod_of_nonneg _ (by omega)]; exact Int.emod_nonneg _ (by omega)
  · rw [Int.fmod_eq_emod_of_nonneg _ (by omega)]
    have := Int.emod_lt_of_pos x pos
    have : ((2 ^ k : Nat) : Int) - 1 + 1 - (((2 ^ k : Nat) : Int) - 1) % 2 ≤ ((2 ^ k : Nat) : Int) := by omega
    omega
theorem mpos_range {many : Nat} (h : ∃ k, many = 2 ^ k) (t : Tag) : 0 ≤ mpos many t ∧ mpos many t < many := by
  have p : 0 < many := by obtain ⟨k, rfl⟩ := h; exact Nat.pow_pos (by decide)
  cases t with
  | bool b => exact mask_range _ h
  | int i => exact (rest_range _ h).2
  | bytes l => exact mask_range _ h
  | ref k n => exact (rest_range _ h).2
  | nil => exact ⟨Int.le_refl 0, Int.natCast_pos.mpr p⟩
  | bad => exact ⟨Int.le_refl 0, Int.natCast_pos.mpr p⟩

noncomputable def Tb.n (T : Tb) : Nat := T.nds.length
noncomputable def Tb.nd (T : Tb) (i : Nat) : Nd := ((T.nds[i]?).map (·.2)).getD ⟨.none, .none, -1⟩
theorem Tb.nd_of {T : Tb} {i : Nat} {a n} (h : T.nds[i]? = some (a, n)) : T.nd i = n := by unfold Tb.nd; rw [h]; rfl
theorem Tb.nd_get {T : Tb} {i : Nat} (h : i < T.n) : ∃ a, T.nds[i]? = some (a, T.nd i) := by
  unfold Tb.n at h
  refine ⟨(T.nds[i]).1, ?_⟩
  unfold Tb.nd
  rw [List.getElem?_eq_getElem h]; rfl
@[simp] theorem Tb.n_setNd (T : Tb) (i n) : (T.setNd i n).n = T.n := by unfold Tb.n Tb.setNd; simp
theorem Tb.nd_setNd (T : Tb) {i : Nat} (n) (h : i < T.n) (j : Nat) : (T.setNd i n).nd j = if j = i then n else T.nd j := by
  unfold Tb.nd Tb.setNd
  simp only [List.getElem?_modify]
  unfold Tb.n at h
  by_cases e : j = i
  · subst e; simp [List.getElem?_eq_getElem h]
  · simp [e, Ne.symm e]
@[simp] theorem Tb.arr_setNd (T : Tb) (i n) : (T.setNd i n).arr = T.arr := rfl
@[simp] theorem Tb.free_setNd (T : Tb) (i n) : (T.setNd i n).free = T.free := rfl

noncomputable def proper : Tag → Bool
  | .nil => false
  | .bad => false
  | .ref 2 _ => false
  | _ => true
structure Inv (ν : Nu) (T : Tb) : Prop where
  sz : T.n = 0 ∨ ∃ k, k ≤ 20 ∧ T.n = 2 ^ k
  sa : T.arr.length ≤ 2 ^ 22
  fr : 0 ≤ T.free ∧ T.free ≤ T.n
  keys : ∀ i, i < T.n → AnyV ν (T.nd i).key
  vals : ∀ i, i < T.n → proper (tag ν (T.nd i).key) = false → (T.nd i).value = .none
  gr : Gr T.n (fun i => (T.nd i).key ≠ .none) (fun i => (mpos T.n (tag ν (T.nd i).key)).toNat) (fun i => (T.nd i).next)
  full : ∀ i, i < T.n → T.free ≤ i → (T.nd i).key ≠ .none
  uniq : ∀ i j, i < T.n → j < T.n → tag ν (T.nd i).key = tag ν (T.nd j).key → proper (tag ν (T.nd i).key) = true → i = j
  out : ∀ i x, i < T.n → (T.nd i).key = .int x → ¬ (1 ≤ x ∧ x ≤ T.arr.length)
noncomputable def inArr (T : Tb) : Tag → Bool
  | .int x => decide (1 ≤ x ∧ x ≤ T.arr.length)
  | _ => false
noncomputable def IsAt (ν : Nu) (T : Tb) (t : Tag) (i : Nat) : Prop := i < T.n ∧ tag ν (T.nd i).key = t
noncomputable def nlook (ν : Nu) (T : Tb) (t : Tag) : V := ((T.nds.find? fun p => decide (tag ν p.2.key = t)).map (·.2.value)).getD .none
noncomputable def look (ν : Nu) (T : Tb) (t : Tag) : V :=
  match t with
  | .int x => if 1 ≤ x ∧ x ≤ T.arr.length then (T.arr[(x - 1).toNat]?).getD .none else nlook ν T t
  | _ => nlook ν T t
theorem nlook_none {ν T t} (h : ∀ i, ¬ IsAt ν T t i) : nlook ν T t = .none := by
  unfold nlook
  rw [List.find?_eq_none.mpr]
  · rfl
  · intro p hp q
    obtain ⟨i, hi⟩ := List.getElem?_of_mem hp
    have lt := (List.getElem?_eq_some_iff.mp hi).1
    exact h i ⟨lt, by rw [Tb.nd_of (a := p.1) (n := p.2) hi]; simpa using q⟩
theorem nlook_at {ν T t i} (I : Inv ν T) (hp : proper t = true) (h : IsAt ν T t i) : nlook ν T t = (T.nd i).value := by
  obtain ⟨h1, h2⟩ := h
  obtain ⟨a, ha⟩ := Tb.nd_get h1
  have hs : (T.nds.find? fun p => decide (tag ν p.2.key = t)).isSome := by
    rw [List.find?_isSome]
    exact ⟨_, List.mem_of_getElem? ha, by simpa using h2⟩
  obtain ⟨p, hp'⟩ := Option.isSome_iff_exists.mp hs
  unfold nlook
  rw [hp']
  have h3 := List.find?_some hp'
  obtain ⟨j, hj⟩ := List.getElem?_of_mem (List.mem_of_find?_eq_some hp')
  have lt := (List.getElem?_eq_some_iff.mp hj).1
  have e : T.nd j = p.2 := Tb.nd_of (a := p.1) (n := p.2) hj
  have : tag ν (T.nd j).key = t := by rw [e]; simpa using h3
  have := I.uniq j i lt h1 (by rw [this, h2]) (by rw [this]; exact hp)
  subst this
  rw [e]; rfl
theorem look_out {ν T x} (h : ¬ (1 ≤ x ∧ x ≤ (T.arr.length : Int))) : look ν T (.int x) = nlook ν T (.int x) := if_neg h
theorem look_node {ν T t} (h : inArr T t = false) : look ν T t = nlook ν T t := by
  cases t with
  | int x => exact look_out (of_decide_eq_false h)
  | _ => rfl
theorem look_arr {ν T x} (h : 1 ≤ x ∧ x ≤ (T.arr.length : Int)) : look ν T (.int x) = (T.arr[(x - 1).toNat]?).getD .none := if_pos h
/-- a tag of the array part -/
inductive InA (T : Tb) : Tag → Prop
  | mk (x : Int) (h : 1 ≤ x ∧ x ≤ (T.arr.length : Int)) : InA T (.int x)
theorem inA_of {T t} (h : inArr T t = true) : InA T t := by
  cases t with
  | int x => exact .mk x (of_decide_eq_true h)
  | _ => cases h
theorem inA_no {T x} (h : ¬ (1 ≤ x ∧ x ≤ (T.arr.length : Int))) : inArr T (.int x) = false := decide_eq_false h
theorem predN (x : Nat) : ((x : Int) - 1).toNat = x - 1 := by lia -abstractProof
theorem sucN (x : Nat) : ((x : Int) + 1 - 1).toNat = x := by lia -abstractProof
theorem halfN (x : Nat) : (x : Int).fdiv 2 = ((x / 2 : Nat) : Int) := by rw [Int.fdiv_eq_ediv_of_nonneg _ (by decide)]; lia -abstractProof
theorem not_at_arr {ν T t i} (I : Inv ν T) (h : inArr T t = true) : ¬ IsAt ν T t i := fun ⟨h1, h2⟩ => by
  obtain ⟨x, hx⟩ := inA_of h
  clear h
  have k := I.keys i h1
  generalize hk : (T.nd i).key = key at *
  cases k with
  | int y =>
    have h2 := Tag.int.inj h2
    subst h2
    exact I.out i y h1 hk hx
  | ref a r hr => rw [tag_ref hr] at h2; cases h2
  | _ => cases h2
/-! counting (plain) -/
noncomputable def cnt (n : Nat) (p : Nat → Bool) : Nat := (List.range n).countP p
theorem cnt_succ (n p) : cnt (n + 1) p = cnt n p + if p n = true then 1 else 0 := by
  unfold cnt; rw [List.range_succ, List.countP_append]; simp [List.countP_cons]
theorem cnt_zero (p) : cnt 0 p = 0 := rfl
theorem cnt_mono {n p q} (h : ∀ i, i < n → p i = true → q i = true) : cnt n p ≤ cnt n q := by
  induction n with
  | zero => exact Nat.le_refl _
  | succ n ih =>
    rw [cnt_succ, cnt_succ]
    have := ih fun i hi => h i (by lia)
    have := h n (by lia)
    by_cases e : p n = true
    · rw [if_pos e, if_pos (this e)]; lia
    · rw [if_neg e]; split <;> lia
theorem cnt_congr {n p q} (h : ∀ i, i < n → p i = q i) : cnt n p = cnt n q :=
  Nat.le_antisymm (cnt_mono fun i hi e => h i hi ▸ e) (cnt_mono fun i hi e => (h i hi).symm ▸ e)
theorem cnt_ins {n p q} (s : Nat) (h : ∀ i, i < n → p i = true → q i = true ∨ i = s) : cnt n p ≤ cnt n q + 1 := by
  induction n with
  | zero => exact Nat.zero_le _
  | succ n ih =>
    rw [cnt_succ, cnt_succ]
    by_cases z : n = s
    · have : cnt n p ≤ cnt n q := cnt_mono fun i hi e => (h i (by lia) e).elim id fun w => by lia
      split <;> split <;> lia
    · have := ih fun i hi => h i (by lia)
      have := h n (by lia)
      by_cases e : p n = true
      · rw [if_pos e, if_pos ((this e).elim id fun w => absurd w z)]; lia
      · rw [if_neg e]; split <;> lia
theorem cnt_le (n p) : cnt n p ≤ n := by
  induction n with
  | zero => exact Nat.le_refl _
  | succ n ih => rw [cnt_succ]; split <;> lia
theorem cnt_full {n p} (h : cnt n p = n) : ∀ i, i < n → p i = true := by
  induction n with
  | zero => intro i hi; lia
  | succ n ih =>
    rw [cnt_succ] at h
    have := cnt_le n p
    intro i hi
    by_cases e : p n = true
    · rw [if_pos e] at h
      by_cases z : i = n
      · rw [z]; exact e
      · exact ih (by lia) i (by lia)
    · rw [if_neg e] at h; lia
theorem cnt_all {n p} (h : ∀ i, i < n → p i = true) : cnt n p = n := by
  induction n with
  | zero => rfl
  | succ n ih => rw [cnt_succ, ih fun i hi => h i (by lia), if_pos (h n (by lia))]
theorem isNone_iff {v : V} : isNone v = true ↔ v = .none := by cases v <;> first | exact ⟨fun _ => rfl, fun _ => rfl⟩ | exact ⟨(fun h => nomatch h), fun h => nomatch h⟩
noncomputable def kc (T : Tb) : Nat := cnt T.n fun i => !isNone (T.nd i).key
noncomputable def arrL (T : Tb) (i : Nat) : Bool := !isNone (T.arr.getD i .none)
noncomputable def ndL (T : Tb) (i : Nat) : Bool := !isNone (T.nd i).value
noncomputable def lives (T : Tb) : Nat := cnt T.arr.length (arrL T) + cnt T.n (ndL T)
noncomputable def HasKey (ν : Nu) (T : Tb) (t : Tag) : Prop := ∃ i, IsAt ν T t i

theorem look_ext {ν T T' t} (I : Inv ν T) (I' : Inv ν T') (ha : T'.arr = T.arr) (hp : proper t = true) (h1 : ∀ i, IsAt ν T t i → ((T.nd i).value = .none ∧ ∀ i', ¬ IsAt ν T' t i') ∨ ∃ i', IsAt ν T' t i' ∧ (T'.nd i').value = (T.nd i).value)
    (h2 : ∀ i', IsAt ν T' t i' → ∃ i, IsAt ν T t i) : look ν T' t = look ν T t := by
  by_cases hi : inArr T t = true
  · obtain ⟨x, hi'⟩ := inA_of hi
    clear hi
    have hi := hi'
    rw [look_arr hi, look_arr (by rw [ha]; exact hi), ha]
  · have hi : inArr T t = false := by simpa using hi
    have hi' : inArr T' t = false := by
      cases t with
      | int x => exact inA_no (by rw [ha]; exact of_decide_eq_false hi)
      | _ => rfl
    rw [look_node hi, look_node hi']
    by_cases e : ∃ i, IsAt ν T t i
    · obtain ⟨i, e⟩ := e
      rw [nlook_at I hp e]
      rcases h1 i e with ⟨a, b⟩ | ⟨i', a, b⟩
      · rw [nlook_none b, a]
      · rw [nlook_at I' hp a, b]
    · rw [nlook_none (fun i h => e ⟨i, h⟩), nlook_none (fun i h => e (h2 i h))]
structure Ins (ν : Nu) (T T' : Tb) (t : Tag) (v : V) : Prop where
  inv : Inv ν T'
  look : ∀ t', proper t' = true → look ν T' t' = if t' = t then v else look ν T t'
  keys : ∀ t', proper t' = true → HasKey ν T' t' → HasKey ν T t' ∨ t' = t ∨ Mn.look ν T t' ≠ .none
  lives : lives T' ≤ lives T + 1
structure Room (T T' : Tb) : Prop where
  arr : T'.arr.length = T.arr.length
  n : T'.n = T.n
/-- the three ways in which a new key comes in: where it goes (q), and what else is moved -/
theorem ins_of {ν T T' t v q} (I : Inv ν T) (ht : proper t = true) (hin : inArr T t = false) (hno : ∀ i, ¬ IsAt ν T t i) (ea : T'.arr = T.arr) (en : T'.n = T.n)
    (ef : 0 ≤ T'.free ∧ T'.free ≤ (T.n : Int)) (hf : ∀ i : Nat, i < T.n → T'.free ≤ (i : Int) → (T'.nd i).key ≠ .none)
    (gr : Gr T'.n (fun i => (T'.nd i).key ≠ .none) (fun i => (mpos T'.n (tag ν (T'.nd i).key)).toNat) (fun i => (T'.nd i).next))
    (hq : q < T.n) {k : V} (hk : AnyV ν k) (htk : tag ν k = t) (eq1 : (T'.nd q).key = k) (eq2 : (T'.nd q).value = v)
    (from_ : ∀ i, i < T.n → i ≠ q → ∃ j, A3 (j < T.n) ((T'.nd i).key = (T.nd j).key) ((T'.nd i).value = (T.nd j).value))
    (inj : ∀ i j, i < T.n → j < T.n → i ≠ q → j ≠ q → (T'.nd i).key = (T'.nd j).key → (T'.nd i).key ≠ .none → tag ν (T'.nd i).key = tag ν (T'.nd j).key → proper (tag ν (T'.nd i).key) = true → i = j)
    (to : ∀ i, i < T.n → (T.nd i).key ≠ .none → (T.nd i).value = .none ∨ ∃ j, A4 (j < T.n) (j ≠ q) ((T'.nd j).key = (T.nd i).key) ((T'.nd j).value = (T.nd i).value))
    (s : Nat) (lv : ∀ i, i < T.n → ndL T' i = true → ndL T i = true ∨ i = s) : Ins ν T T' t v := by
  have kin := from_
  have tq : ∀ i, i < T.n → i ≠ q → tag ν (T'.nd i).key ≠ t := fun i hi hn z => by
    obtain ⟨j, a, b, _⟩ := kin i hi hn
    exact hno j ⟨a, by rw [← b]; exact z⟩
  have tnn : ∀ x : V, proper (tag ν x) = true → x ≠ .none := fun x h z => by rw [z] at h; cases h
  have I' : Inv ν T' := by
    refine ⟨by rw [en]; exact I.sz, by rw [ea]; exact I.sa, by rw [en]; exact ef, fun i hi => ?_, fun i hi h => ?_, gr, fun i hi => hf i (en ▸ hi), fun i j hi hj e hp => ?_, fun i x hi e => ?_⟩
    · rw [en] at hi
      by_cases z : i = q
      · rw [z, eq1]; exact hk
      · obtain ⟨j, a, b, _⟩ := kin i hi z; rw [b]; exact I.keys j a
    · rw [en] at hi
      by_cases z : i = q
      · rw [z, eq1, htk, ht] at h; cases h
      · obtain ⟨j, a, b, c⟩ := kin i hi z; rw [c]; exact I.vals j a (by rw [← b]; exact h)
    · rw [en] at hi hj
      by_cases z : i = q
      · by_cases w : j = q
        · rw [z, w]
        · exfalso; rw [z, eq1, htk] at e; exact tq j hj w e.symm
      · by_cases w : j = q
        · exfalso; rw [w, eq1, htk] at e; exact tq i hi z e
        · obtain ⟨i', a1, a2, _⟩ := kin i hi z
          obtain ⟨j', b1, b2, _⟩ := kin j hj w
          have : i' = j' := I.uniq i' j' a1 b1 (by rw [← a2, ← b2]; exact e) (by rw [← a2]; exact hp)
          subst this
          exact inj i j hi hj z w (by rw [a2, b2]) (tnn _ hp) e hp
    · rw [en] at hi
      rw [ea]
      by_cases z : i = q
      · rw [z, eq1] at e
        subst e
        have : t = .int x := htk.symm
        rw [this] at hin
        simpa [inArr] using hin
      · obtain ⟨j, a, b, _⟩ := kin i hi z; rw [b] at e; exact I.out j x a e
  have keys : ∀ t', proper t' = true → HasKey ν T' t' → HasKey ν T t' ∨ t' = t := fun t' _ ⟨i, hi, e⟩ => by
    rw [en] at hi
    by_cases z : i = q
    · right; rw [← e, z, eq1, htk]
    · left; obtain ⟨j, a, b, _⟩ := kin i hi z; exact ⟨j, a, by rw [← b]; exact e⟩
  refine ⟨I', fun t' hp => ?_, fun t' hp h => (keys t' hp h).imp id .inl, ?_⟩
  · by_cases e : t' = t
    · subst e
      rw [if_pos rfl]
      have hin' : inArr T' t' = false := by
        cases t' <;> first | rfl | skip
        simpa [inArr, ea] using hin
      rw [look_node hin', nlook_at I' hp ⟨by rw [en]; exact hq, by rw [eq1, htk]⟩, eq2]
    · rw [if_neg e]
      refine look_ext I I' ea hp (fun i hi => ?_) fun i hi => ?_
      · by_cases w : ∃ i', IsAt ν T' t' i'
        · right
          obtain ⟨i', w⟩ := w
          refine ⟨i', w, ?_⟩
          have hi' : i' < T.n := by have := w.1; rwa [en] at this
          by_cases z : i' = q
          · exfalso; have := w.2; rw [z, eq1, htk] at this; exact e this.symm
          · obtain ⟨j, a, b, c⟩ := kin i' hi' z
            have : j = i := I.uniq j i a hi.1 (by rw [← b, w.2, hi.2]) (by rw [← b, w.2]; exact hp)
            rw [c, this]
        · left
          refine ⟨?_, fun i' h => w ⟨i', h⟩⟩
          rcases to i hi.1 (tnn _ (by rw [hi.2]; exact hp)) with a | ⟨j, a, _, b, _⟩
          · exact a
          · exact absurd ⟨j, by rw [en]; exact a, by rw [b]; exact hi.2⟩ w
      · rcases keys t' hp ⟨i, hi⟩ with h | h
        · exact h
        · exact absurd h e
  · unfold lives
    have e1 : arrL T' = arrL T := by unfold arrL; rw [ea]
    rw [e1, ea, en]
    have := cnt_ins s lv
    lia
noncomputable def c_is_collectable : Cd := .ld 0 <| .lit (.ref cH) <| .call (.bi "isinstance") 2 <| .ret
noncomputable def c_ceil_log2 : Cd := .ld 0 <| .lit (.int (1)) <| .bin .Sub <| .call (.ref 125) 1 <| .lit (.int (1)) <| .bin .Add <| .ret
noncomputable def c_string_hash_1 : Cd := .ld 1 <| .ld 1 <| .lit (.int (5)) <| .bin .LShift <| .ld 1 <| .lit (.int (2)) <| .bin .RShift <| .bin .Add <| .ld 0 <| .ld 2 <| .lit (.int (1)) <| .bin .Sub <| .ix <| .bin .Add <| .bin .BitXor <| .lit (.int (4294967295)) <| .bin .BitAnd <| .st 1 <| .ld 2 <| .ld 3 <| .bin .Sub <| .st 2 <| .fin
noncomputable def c_string_hash_2 : Cd := .ld 2 <| .ld 3 <| .cmp .GtE <| .br (c_string_hash_1) (.brk)
noncomputable def c_string_hash : Cd := .ld 0 <| .call (.bi "len") 1 <| .lit (.int (4294967295)) <| .bin .BitAnd <| .ld 0 <| .call (.bi "len") 1 <| .tup 2 <| .unp true [2, 1] <| .ld 0 <| .call (.bi "len") 1 <| .lit (.int (5)) <| .bin .RShift <| .lit (.int (1)) <| .bin .Add <| .st 3 <| .whl (c_string_hash_2) (.ld 1 <| .ret)
noncomputable def c_array_index_1 : Cd := .lit (.int (1)) <| .una .USub <| .ret
noncomputable def c_array_index : Cd := .ld 0 <| .call (.ref 90) 1 <| .br (.ld 0 <| .ret) (c_array_index_1)
noncomputable def c_main_position_1 : Cd := .ld 1 <| .call (.typ "int") 1 <| .ld 2 <| .lit (.int (1)) <| .bin .Sub <| .bin .BitAnd <| .ret
noncomputable def c_main_position_2 : Cd := .ld 1 <| .ld 2 <| .lit (.int (1)) <| .bin .Sub <| .lit (.int (1)) <| .bin .BitOr <| .bin .Mod <| .ret
noncomputable def c_main_position_3 : Cd := .ld 1 <| .call (.ref 118) 1 <| .ld 2 <| .lit (.int (1)) <| .bin .Sub <| .bin .BitAnd <| .ret
noncomputable def c_main_position_4 : Cd := .ld 1 <| .fld "number" <| .ld 2 <| .lit (.int (1)) <| .bin .Sub <| .lit (.int (1)) <| .bin .BitOr <| .bin .Mod <| .ret
noncomputable def c_main_position_5 : Cd := .ld 1 <| .lit (.typ "bytes") <| .call (.bi "isinstance") 2 <| .br (c_main_position_3) (c_main_position_4)
noncomputable def c_main_position_6 : Cd := .ld 1 <| .lit (.typ "int") <| .call (.bi "isinstance") 2 <| .br (c_main_position_2) (c_main_position_5)
noncomputable def c_main_position : Cd := .ld 0 <| .fld "nodes" <| .call (.bi "len") 1 <| .st 2 <| .ld 1 <| .lit (.typ "bool") <| .call (.bi "isinstance") 2 <| .br (c_main_position_1) (c_main_position_6)
noncomputable def clg (n : Int) : Int := lg (n - 1) + 1
noncomputable def aidx : V → Int
  | .int i => i
  | _ => -1
theorem mixH_range (a b : Int) : 0 ≤ mixH a b ∧ mixH a b ≤ 4294967295 := bitAnd_range _ (by decide)
section
variable {ν : Nu} {σ : MH} {v : V}
theorem ceil_log2_ok {n : Int} : Fn 2 132 [.int n] (fun r σ' => r = .int (clg n) ∧ σ' = σ) σ := by
  refine Fn.go (ps := ["n"]) (rest := []) (code := c_ceil_log2) (fun _ => by kernel_rfl) (fun _ => by kernel_rfl) (fun _ => args1 fun _ => by kernel_rfl) (fun _ => by kernel_rfl) rfl fun g L => ?_
  refine Pv.fn1 L log2_ok rfl ?_
  exact ⟨rfl, rfl⟩
theorem array_index_ok (k : Knows σ ν) (hv : AnyV ν v) : Fn 2 188 [v] (fun r σ' => r = .int (aidx v) ∧ σ' = σ) σ := by
  refine Fn.go (ps := ["key"]) (rest := []) (code := c_array_index) (fun _ => by kernel_rfl) (fun _ => by kernel_rfl) (fun _ => args1 fun _ => by kernel_rfl) (fun _ => by kernel_rfl) rfl fun g L => ?_
  refine Pv.fn1 L (is_number_ok k hv) rfl ?_
  cases hv <;> exact ⟨rfl, rfl⟩
theorem string_hash_ok {b : Array UInt8} (hb : b.size ≤ 2 ^ 20) : Fn 1 118 [.bytes b] (fun r σ' => r = .int (shash b.toList) ∧ σ' = σ) σ := by
  refine Fn.go (ps := ["text"]) (rest := ["found", "at", "step"]) (code := c_string_hash) (fun _ => by kernel_rfl) (fun _ => by kernel_rfl) (fun _ => args1 fun _ => by kernel_rfl) (fun _ => by kernel_rfl) rfl fun g L => ?_
  have hs : b.size ≤ 2 ^ 30 := by lia -abstractProof
  have hl : b.toList.length = b.size := Array.length_toList
  have hst : ((b.size : Int).fdiv (2 ^ (5 : Int).toNat)) + 1 = ((b.size / 32 + 1 : Nat) : Int) := by
    show ((b.size : Int).fdiv (2 ^ 5)) + 1 = _
    rw [Int.fdiv_eq_ediv_of_nonneg _ (by decide)]; lia -abstractProof
  refine Pv.lenB hs (Pv.lenB hs (Pv.lenB hs (Pv.shr (by decide) ?_)))
  refine Whl.mk (fun k ls σ1 => σ1 = σ ∧ ∃ fnd : Int, A5 (ls = [some (.bytes b), some (.int fnd), some (.int k), some (.int ((b.size : Int).fdiv (2 ^ (5 : Int).toNat) + 1))]) (k ≤ b.size) (0 ≤ fnd) (fnd ≤ 4294967295) (∃ fu, k ≤ fu ∧ hloop b.toList (b.size / 32 + 1) fu k fnd = shash b.toList)) b.size ⟨rfl, _, rfl, Nat.le_refl _, (bitAnd_range _ (by decide)).1, (bitAnd_range _ (by decide)).2, b.size, Nat.le_refl _, ?_⟩ ?_
  · unfold shash; rw [hl]
  rintro k ls σ1 ⟨rfl, fnd, rfl, a5, a6, a7, fu, a8, a9⟩
  refine brk2.dec (fun hp => ?_) fun hp => ?_
  · rw [hst] at hp
    obtain ⟨fu, rfl⟩ : ∃ q, fu = q + 1 := ⟨fu - 1, by lia -abstractProof⟩
    have r := mixH_range fnd ((b.toList.getD (k - 1) 0).toNat : Nat)
    refine Pv.shl (by decide) (by decide) (by lia -abstractProof) (Pv.shr (by decide) (Pg.bytes hs (by lia -abstractProof) (by lia -abstractProof) ?_))
    rw [predN]
    refine ⟨k - (b.size / 32 + 1), by lia -abstractProof, rfl, mixH fnd ((b.toList.getD (k - 1) 0).toNat : Nat), ?_, by lia -abstractProof, r.1, r.2, fu, by lia -abstractProof, ?_⟩
    · rw [show ((k - (b.size / 32 + 1) : Nat) : Int) = (k : Int) - ((b.size / 32 + 1 : Nat) : Int) by lia -abstractProof, ← hst]; rfl
    · exact (if_pos (c := b.size / 32 + 1 ≤ k) (by lia -abstractProof)).symm.trans a9
  · refine ⟨?_, rfl⟩
    rw [hst] at hp
    rw [← a9]
    cases fu with
    | zero => rfl
    | succ q => exact congrArg V.int (if_neg (c := b.size / 32 + 1 ≤ k) (by lia -abstractProof)).symm
theorem main_position_ok {t T} (k : Knows σ ν) (hT : TR σ t T) (hn : ∃ k, T.n = 2 ^ k) (hv : AnyV ν v) (hv0 : v ≠ .none) : Fn 2 224 [.ref t, v] (fun r σ' => r = .int (mpos T.n (tag ν v)) ∧ σ' = σ) σ := by
  refine Fn.go (ps := ["self", "key"]) (rest := ["many"]) (code := c_main_position) (fun _ => by kernel_rfl) (fun _ => by kernel_rfl) (fun _ => args2 fun _ _ => by kernel_rfl) (fun _ => by kernel_rfl) rfl fun g L => ?_
  have r := fun x => (rest_range x hn).1
  refine Pv.nodes L hT (Pv.lenN hT (Pv.isB L k hv ?_))
  cases hv with
  | none => exact absurd rfl hv0
  | bool b => exact Pv.intB ⟨rfl, rfl⟩
  | int i => exact Pv.isI L k (.int i) (Pv.mod (r i) ⟨rfl, rfl⟩)
  | bytes b hb =>
    refine Pv.isI L k (.bytes b hb) (Pv.isY L k (.bytes b hb) (Pv.fn1 L (string_hash_ok hb) rfl ⟨rfl, rfl⟩))
  | ref a s h =>
    have e := tag_ref h
    refine Pv.isI L k (.ref a s h) (Pv.isY L k (.ref a s h) (Pv.num L k e (Pv.mod (r s.num) ⟨?_, rfl⟩)))
    rw [e]; rfl
end
noncomputable def c_find_node_1 : Cd := .lit (.int (1)) <| .una .USub <| .ret
noncomputable def c_find_node_2 : Cd := .ld 0 <| .fld "nodes" <| .ld 2 <| .ix <| .fld "next" <| .st 2 <| .fin
noncomputable def c_find_node_3 : Cd := .ld 0 <| .fld "nodes" <| .ld 2 <| .ix <| .fld "key" <| .ld 1 <| .call (.ref 111) 2 <| .br (.ld 2 <| .ret) (c_find_node_2)
noncomputable def c_find_node_4 : Cd := .ld 2 <| .lit (.int (0)) <| .cmp .GtE <| .br (c_find_node_3) (.brk)
noncomputable def c_find_node_5 : Cd := .ld 0 <| .mld cT "main_position" <| .ld 1 <| .call (.ref 224) 2 <| .st 2 <| .whl (c_find_node_4) (c_find_node_1)
noncomputable def c_find_node_6 : Cd := .ld 1 <| .isn true <| .br (c_find_node_1) (c_find_node_5)
noncomputable def c_find_node : Cd := .ld 0 <| .fld "nodes" <| .call (.bi "len") 1 <| .lit (.int (0)) <| .cmp .Eq <| .br (c_find_node_1) (c_find_node_6)
section
variable {ν : Nu} {σ : MH} {v : V}
noncomputable def FindR (ν : Nu) (T : Tb) (t : Tag) (j : Int) : Prop := (j = -1 ∧ (t = .nil ∨ ∀ i, ¬ IsAt ν T t i)) ∨ ∃ i : Nat, A3 (j = i) (IsAt ν T t i) (t ≠ .nil)
theorem tag_nil (h : AnyV ν v) : tag ν v = .nil ↔ v = .none := by
  cases h with
  | ref a r h => rw [tag_ref h]; exact ⟨fun e => (nomatch e), fun e => (nomatch e)⟩
  | none => exact ⟨fun _ => rfl, fun _ => rfl⟩
  | _ => exact ⟨fun e => (nomatch e), fun e => (nomatch e)⟩
theorem find_node_ok {t T} (k : Knows σ ν) (hT : TR σ t T) (I : Inv ν T) (hv : AnyV ν v) : Fn 4 231 [.ref t, v] (fun r σ' => (∃ j, r = .int j ∧ FindR ν T (tag ν v) j) ∧ σ' = σ) σ := by
  refine Fn.go (ps := ["self", "key"]) (rest := ["at"]) (code := c_find_node) (fun _ => by kernel_rfl) (fun _ => by kernel_rfl) (fun _ => args2 fun _ _ => by kernel_rfl) (fun _ => by kernel_rfl) rfl fun g L => ?_
  have hlen : (T.nds.length : Int) = T.n := rfl
  refine Pv.nodes L hT (Pv.lenN hT (brk2.dec (fun e0 => ⟨⟨-1, rfl, .inl ⟨rfl, .inr fun i h => by have := h.1; lia -abstractProof⟩⟩, rfl⟩) fun e0 => ⟨hv.plain, brk2.bool (fun e1 => ?_) fun e1 => ?_⟩))
  · cases v with
    | none => exact ⟨⟨-1, rfl, .inl ⟨rfl, .inl rfl⟩⟩, rfl⟩
    | _ => cases e1
  have hv0 : v ≠ .none := fun z => by rw [z] at e1; cases e1
  have hn : ∃ k, T.n = 2 ^ k := by rcases I.sz with h | ⟨k, _, h⟩; exact absurd (by lia -abstractProof) e0; exact ⟨k, h⟩
  have ht0 : tag ν v ≠ .nil := fun z => hv0 ((tag_nil hv).mp z)
  have mr := mpos_range hn (tag ν v)
  refine Meth.tab hT rfl (Pv.fn1 L (main_position_ok k hT hn hv hv0) rfl ?_)
  obtain ⟨r, hr⟩ := I.gr.rank
  refine Whl.mk (fun m ls σ1 => σ1 = σ ∧ ∃ at_ : Int, A5 (ls = [some (.ref t), some v, some (.int at_)]) (-1 ≤ at_) (at_ < T.n) ((∀ i, IsAt ν T (tag ν v) i → 0 ≤ at_ ∧ Rch (fun i => (T.nd i).next) at_.toNat i)) (m = if at_ < 0 then 0 else r at_.toNat + 1)) _
    ⟨rfl, mpos T.n (tag ν v), rfl, by lia -abstractProof, mr.2, fun i hi => ⟨mr.1, ?_⟩, rfl⟩ ?_
  · obtain ⟨_, _, _, h4⟩ := I.gr.main i hi.1 (fun z => ht0 (by rw [← hi.2, z]; rfl))
    rw [hi.2] at h4
    exact h4
  rintro m ls σ1 ⟨rfl, at_, rfl, a4, a5, a6, a7⟩
  refine brk2.dec (fun hp => ?_) fun hp => ⟨⟨-1, rfl, .inl ⟨rfl, .inr fun i hi => hp (a6 i hi).1⟩⟩, rfl⟩
  have lt : at_.toNat < T.n := by lia -abstractProof
  obtain ⟨ad, had⟩ := T.nd_get lt
  have hnx := I.gr.rng _ lt
  refine Pv.nodes L hT (Pg.nod hT hp had (Pv.key L hT had (Pv.fn1 L (raw_equal_ok k (I.keys _ lt) hv) rfl ?_)))
  refine brk2.dec (fun hq => ⟨⟨at_, rfl, .inr ⟨at_.toNat, by lia -abstractProof, ⟨lt, hq⟩, ht0⟩⟩, rfl⟩) fun hq => Pv.nodes L hT (Pg.nod hT hp had (Pv.next L hT had ⟨_, ?_, rfl, (T.nd at_.toNat).next, rfl, hnx.1, hnx.2, ?_, rfl⟩))
  · rw [a7]
    by_cases z : (T.nd at_.toNat).next < 0
    · rw [if_pos z, if_neg (by lia -abstractProof)]; lia -abstractProof
    · rw [if_neg z, if_neg (by lia -abstractProof)]
      have := hr at_.toNat (T.nd at_.toNat).next.toNat lt (by lia -abstractProof) (by lia -abstractProof)
      lia -abstractProof
  · intro i hi
    obtain ⟨b1, b2⟩ := a6 i hi
    obtain ⟨j, c1, c2⟩ := b2.next (fun z => hq (by rw [z]; exact hi.2))
    have c1 : (T.nd at_.toNat).next = (j : Int) := c1
    rw [c1]
    exact ⟨by lia -abstractProof, by simpa using c2⟩
end
noncomputable def c_free_position_1 : Cd := .ld 0 <| .fld "free" <| .ret
noncomputable def c_free_position_2 : Cd := .ld 0 <| .dup 1 <| .fld "free" <| .lit (.int (1)) <| .inp .Sub <| .stfr "free" <| .ld 0 <| .fld "nodes" <| .ld 0 <| .fld "free" <| .ix <| .fld "key" <| .isn true <| .br (c_free_position_1) (.fin)
noncomputable def c_free_position_3 : Cd := .ld 0 <| .fld "free" <| .lit (.int (0)) <| .cmp .Gt <| .br (c_free_position_2) (.brk)
noncomputable def c_free_position_4 : Cd := .lit (.int (1)) <| .una .USub <| .ret
noncomputable def c_free_position : Cd := .whl (c_free_position_3) (c_free_position_4)
noncomputable def c_get_int_1 : Cd := .ld 0 <| .fld "array" <| .ld 1 <| .lit (.int (1)) <| .bin .Sub <| .ix <| .ret
noncomputable def c_get_int_2 : Cd := .lit .none <| .ret
noncomputable def c_get_int_3 : Cd := .ld 0 <| .fld "nodes" <| .ld 2 <| .ix <| .fld "value" <| .ret
noncomputable def c_get_int_4 : Cd := .ld 0 <| .mld cT "find_node" <| .ld 1 <| .call (.ref 231) 2 <| .st 2 <| .ld 2 <| .lit (.int (0)) <| .cmp .Lt <| .br (c_get_int_2) (c_get_int_3)
noncomputable def c_get_int_5 : Cd := .ld 0 <| .fld "array" <| .call (.bi "len") 1 <| .cmp .LtE <| .br (c_get_int_1) (c_get_int_4)
noncomputable def c_get_int : Cd := .lit (.int (1)) <| .ld 1 <| .chn .LtE (c_get_int_5) (c_get_int_4)
noncomputable def c_get_2 : Cd := .ld 0 <| .mld cT "get_int" <| .ld 1 <| .call (.ref 245) 2 <| .ret
noncomputable def c_get_5 : Cd := .ld 1 <| .call (.ref 90) 1 <| .br (c_get_2) (c_get_int_4)
noncomputable def c_get : Cd := .ld 1 <| .isn true <| .br (c_get_int_2) (c_get_5)
section
variable {ν : Nu} {σ : MH} {v : V} {t : Addr} {T : Tb}
theorem isNone_eq (h : isNone v = true) : v = .none := by cases v <;> first | rfl | cases h
theorem FindR.look {t : Tag} {j : Int} (I : Inv ν T) (hp : proper t = true) (h : FindR ν T t j) : (j < 0 ∧ nlook ν T t = .none) ∨ (0 ≤ j ∧ j.toNat < T.n ∧ nlook ν T t = (T.nd j.toNat).value) := by
  rcases h with ⟨rfl, h | h⟩ | ⟨i, rfl, h, _⟩
  · subst h; cases hp
  · exact .inl ⟨by decide, nlook_none h⟩
  · exact .inr ⟨Int.natCast_nonneg _, h.1, nlook_at I hp h⟩
theorem find_tail {g d} (L : Law g) (hd : Nat.ble 4 d = true) (k : Knows σ ν) (hT : TR σ t T) (I : Inv ν T) (hv : AnyV ν v) (hp : proper (tag ν v) = true) (ha : inArr T (tag ν v) = false) : wp c_get_int_4 ⟨g, d, noX⟩ (retC fun r σ' => r = look ν T (tag ν v) ∧ σ' = σ) [] [some (.ref t), some v, none] σ := by
  refine Meth.tab hT rfl (Pv.fn L (find_node_ok k hT I hv) hd ?_)
  rintro r σ' ⟨⟨j, rfl, hj⟩, rfl⟩
  rw [look_node ha]
  refine brk2.dec (fun hz => ?_) fun hz => ?_
  · rcases hj.look I hp with ⟨_, b⟩ | ⟨a, _⟩
    · exact ⟨b.symm, rfl⟩
    · omega
  · rcases hj.look I hp with ⟨a, _⟩ | ⟨a, lt, b⟩
    · exact absurd a hz
    · obtain ⟨ad, had⟩ := T.nd_get lt
      exact Pv.nodes L hT (Pg.nod hT a had (Pv.value L hT had ⟨b.symm, rfl⟩))
theorem get_int_ok {n : Int} (k : Knows σ ν) (hT : TR σ t T) (I : Inv ν T) : Fn 5 245 [.ref t, .int n] (fun r σ' => r = look ν T (.int n) ∧ σ' = σ) σ := by
  refine Fn.go (ps := ["self", "n"]) (rest := ["at"]) (code := c_get_int) (fun _ => by kernel_rfl) (fun _ => by kernel_rfl) (fun _ => args2 fun _ _ => by kernel_rfl) (fun _ => by kernel_rfl) rfl fun g L => ?_
  have tl : inArr T (.int n) = false → _ := find_tail (d := 4) L rfl k hT I (.int n) rfl
  refine brk2.dec (fun hp => Pv.array L hT (Pv.lenA hT (brk2.dec (fun hq => ?_) fun hq => tl ?_))) fun hp => tl ?_
  · obtain ⟨w, hw⟩ : ∃ v, T.arr[(n - 1).toNat]? = some v := ⟨_, List.getElem?_eq_getElem (by omega)⟩
    refine Pv.array L hT (Pg.arr hT (by omega) hw ⟨?_, rfl⟩)
    rw [look_arr ⟨hp, hq⟩, hw]; rfl
  · exact inA_no fun z => hq z.2
  · exact inA_no fun z => hp z.1
theorem look_nil (I : Inv ν T) : look ν T .nil = .none := by
  show nlook ν T .nil = .none
  unfold nlook
  cases h : T.nds.find? (fun p => decide (tag ν p.2.key = .nil)) with
  | none => rfl
  | some p =>
    have h3 := List.find?_some h
    obtain ⟨j, hj⟩ := List.getElem?_of_mem (List.mem_of_find?_eq_some h)
    have e : T.nd j = p.2 := Tb.nd_of (a := p.1) (n := p.2) hj
    have := I.vals j (List.getElem?_eq_some_iff.mp hj).1 (by rw [e, of_decide_eq_true h3]; rfl)
    rw [e] at this
    exact this
theorem get_ok (k : Knows σ ν) (hT : TR σ t T) (I : Inv ν T) (hv : AnyV ν v) (hp : v ≠ .none → proper (tag ν v) = true) : Fn 6 259 [.ref t, v] (fun r σ' => r = look ν T (tag ν v) ∧ σ' = σ) σ := by
  refine Fn.go (ps := ["self", "key"]) (rest := ["at"]) (code := c_get) (fun _ => by kernel_rfl) (fun _ => by kernel_rfl) (fun _ => args2 fun _ _ => by kernel_rfl) (fun _ => by kernel_rfl) rfl fun g L => ?_
  refine ⟨hv.plain, brk2.bool (fun e1 => ?_) fun e1 => Pv.fn1 L (is_number_ok k hv) rfl (brk2.bool (fun hi => ?_) fun hi => find_tail (d := 5) L rfl k hT I hv (hp fun z => by rw [z] at e1; cases e1) ?_)⟩
  · rw [isNone_eq e1]
    exact ⟨(look_nil I).symm, rfl⟩
  · cases v with
    | int n => exact Meth.tab hT rfl (Pv.fn1 L (get_int_ok k hT I) rfl ⟨rfl, rfl⟩)
    | _ => cases hi
  · cases hv with
    | int => cases hi
    | ref a r h => rw [tag_ref h]; rfl
    | _ => rfl
/-- what free_position leaves -/
noncomputable def FreeR (T : Tb) (fr : Int) (r : Int) : Prop := 0 ≤ fr ∧ fr ≤ T.free ∧ ((r = -1 ∧ fr = 0 ∧ ∀ i, i < T.n → (T.nd i).key ≠ .none) ∨ (r = fr ∧ fr < T.n ∧ (T.nd fr.toNat).key = .none ∧ ∀ i : Nat, i < T.n → fr < i → (T.nd i).key ≠ .none))
theorem free_position_ok (hT : TR σ t T) (I : Inv ν T) : Fn 1 238 [.ref t] (fun r σ' => X2 fun (fr j : Int) => A4 (r = .int j) (FreeR T fr j) (TR σ' t { T with free := fr }) (Mv σ t T σ' { T with free := fr })) σ := by
  refine Fn.go (ps := ["self"]) (rest := []) (code := c_free_position) (fun _ => by kernel_rfl) (fun _ => by kernel_rfl) (fun _ => args1 fun _ => by kernel_rfl) (fun _ => by kernel_rfl) rfl fun g L => ?_
  refine Whl.mk (fun m ls σ1 => ls = [some (.ref t)] ∧ ∃ fr : Int, A6 (0 ≤ fr) (fr ≤ T.free) (TR σ1 t { T with free := fr }) (Mv σ t T σ1 { T with free := fr }) ((∀ i : Nat, i < T.n → fr ≤ i → (T.nd i).key ≠ .none)) (m = fr.toNat)) _
    ⟨rfl, T.free, I.fr.1, Int.le_refl _, hT, Mv.refl .., I.full, rfl⟩ ?_
  rintro m ls σ1 ⟨rfl, fr, a2, a3, hT1, m1, a6, rfl⟩
  refine Pv.free L hT1 (brk2.dec (fun (hp : 0 < fr) => Pv.free L hT1 (Pu.free L hT1 fun σ2 hT2 m2 => ?_)) fun (hp : ¬ 0 < fr) => ?_)
  · have lt : (fr - 1).toNat < T.n := by have := I.fr.2; omega
    obtain ⟨ad, had⟩ := T.nd_get lt
    have hT2 : TR σ2 t { T with free := fr - 1 } := hT2
    have m2 : Mv σ t T σ2 { T with free := fr - 1 } := m1.trans m2
    refine Pv.nodes L hT2 (Pv.free L hT2 (Pg.nod hT2 (show 0 ≤ fr - 1 by omega) had (Pv.key L hT2 had ⟨(I.keys _ lt).plain, brk2.bool (fun e => Pv.free L hT2 ⟨fr - 1, fr - 1, rfl, ⟨by omega, by omega, .inr ⟨rfl, by omega, isNone_eq e, fun i hi h => a6 i hi (by omega)⟩⟩, hT2, m2⟩) fun e =>
      ⟨_, ?_, rfl, fr - 1, by omega, by omega, hT2, m2, fun i hi h => ?_, rfl⟩⟩)))
    · omega
    · by_cases z : (i : Int) = fr - 1
      · rw [show i = (fr - 1).toNat by omega]
        intro q; rw [q] at e; cases e
      · exact a6 i hi (by omega)
  · have : fr = 0 := by omega
    subst this
    exact ⟨0, -1, rfl, ⟨Int.le_refl _, a3, .inl ⟨rfl, rfl, fun i hi => a6 i hi (Int.natCast_nonneg _)⟩⟩, hT1, m1⟩
end
theorem setNd_setNd (T : Tb) (i : Nat) (x y : Nd) : (T.setNd i x).setNd i y = T.setNd i y := by
  unfold Tb.setNd
  simp only [List.modify_modify_eq]
  rfl
theorem setNd_get {T : Tb} {i : Nat} {a n x} (h : T.nds[i]? = some (a, n)) : (T.setNd i x).nds[i]? = some (a, x) := by
  unfold Tb.setNd; simp [h]
theorem setNd_get_ne {T : Tb} {i j : Nat} {x} (h : i ≠ j) : (T.setNd i x).nds[j]? = T.nds[j]? := by
  unfold Tb.setNd; simp [h]
noncomputable def c_moved_to : Cd := .ld 0 <| .fld "key" <| .ld 1 <| .stf "key" <| .ld 0 <| .fld "value" <| .ld 1 <| .stf "value" <| .ld 0 <| .fld "next" <| .ld 1 <| .stf "next" <| .fin
section
variable {ν : Nu} {σ : MH}
theorem moved_to_ok {t T a b n m} {i j : Nat} (hT : TR σ t T) (hi : T.nds[i]? = some (a, n)) (hj : T.nds[j]? = some (b, m)) (hij : i ≠ j) : Fn 1 174 [.ref a, .ref b] (fun r σ' => r = .none ∧ TR σ' t (T.setNd j n) ∧ Mv σ t T σ' (T.setNd j n)) σ := by
  refine Fn.go (ps := ["self", "other"]) (rest := []) (code := c_moved_to) (fun _ => by kernel_rfl) (fun _ => by kernel_rfl) (fun _ => args2 fun _ _ => by kernel_rfl) (fun _ => by kernel_rfl) rfl fun g L => ?_
  have pn := hT.pn _ (List.mem_of_getElem? hi)
  have hi' : ∀ x, (T.setNd j x).nds[i]? = some (a, n) := fun x => (setNd_get_ne (Ne.symm hij)).trans hi
  have hj' : ∀ x, (T.setNd j x).nds[j]? = some (b, x) := fun x => setNd_get hj
  refine Pv.key L hT hi (Pu.key L hT hj pn.1 fun σ1 hT1 m1 => Pv.value L hT1 (hi' _) (Pu.value L hT1 (hj' _) pn.2 fun σ2 hT2 m2 => ?_))
  have m2 := m1.trans m2
  rw [setNd_setNd] at hT2 m2
  refine Pv.next L hT2 (hi' _) (Pu.next L hT2 (hj' _) fun σ3 hT3 m3 => ?_)
  have m3 := m2.trans m3
  rw [setNd_setNd] at hT3 m3
  exact ⟨rfl, hT3, m3⟩
end
/-! what comes of a new key (plain) -/
theorem tnn {ν : Nu} {x : V} (h : proper (tag ν x) = true) : x ≠ .none := fun z => by rw [z] at h; cases h
theorem ins_fill {ν T k v m} (I : Inv ν T) (hk : AnyV ν k) (hp : proper (tag ν k) = true) (hin : inArr T (tag ν k) = false) (hno : ∀ i, ¬ IsAt ν T (tag ν k) i) (hm : m < T.n) (hmp : (mpos T.n (tag ν k)).toNat = m) (hv : (T.nd m).value = .none) :
    Ins ν T (T.setNd m { T.nd m with key := k, value := v }) (tag ν k) v ∧ kc (T.setNd m { T.nd m with key := k, value := v }) ≤ kc T + 1 := by
  have nd := T.nd_setNd { T.nd m with key := k, value := v } hm
  have ne : ∀ i, i ≠ m → (T.setNd m { T.nd m with key := k, value := v }).nd i = T.nd i := fun i h => by rw [nd, if_neg h]
  have eq : (T.setNd m { T.nd m with key := k, value := v }).nd m = { T.nd m with key := k, value := v } := by rw [nd, if_pos rfl]
  have k0 := tnn hp
  generalize hT' : T.setNd m { T.nd m with key := k, value := v } = T' at *
  have en : T'.n = T.n := by rw [← hT']; simp
  have ea : T'.arr = T.arr := by rw [← hT']; rfl
  have efr : T'.free = T.free := by rw [← hT']; rfl
  have lv : ∀ i, i < T.n → ndL T' i = true → ndL T i = true ∨ i = m := fun i _ h => by
    by_cases z : i = m
    · exact .inr z
    · left; unfold ndL at *; rwa [ne i z] at h
  refine ⟨ins_of I hp hin hno ea en (by rw [efr]; exact I.fr) (fun i hi h => ?_) ?_ hm hk rfl (by rw [eq]) (by rw [eq]) (fun i hi h => ⟨i, hi, by rw [ne i h], by rw [ne i h]⟩) (fun i j hi hj h1 h2 _ _ e hpr => ?_) (fun i hi h => ?_) m lv, ?_⟩
  · by_cases z : i = m
    · rw [z, eq]; exact k0
    · rw [ne i z]; exact I.full i hi (by rw [← efr]; exact h)
  · rw [en]
    have G := I.gr
    refine (G.congr (N' := fun i => (T'.nd i).next) (fun i _ => Iff.rfl) (fun i _ _ => rfl) (fun i hi => ?_)).fill hm (by rw [eq]; exact k0) (by rw [eq]; exact hmp) (fun i hi h => by rw [ne i h]) (fun i hi h => by rw [ne i h])
    by_cases z : i = m
    · subst z; rw [eq]
    · rw [ne i z]
  · rw [ne i h1] at e hpr; rw [ne j h2] at e; exact I.uniq i j hi hj e hpr
  · by_cases z : i = m
    · left; rw [z]; exact hv
    · right; exact ⟨i, hi, z, by rw [ne i z], by rw [ne i z]⟩
  · unfold kc
    rw [en]
    refine cnt_ins m fun i hi h => ?_
    by_cases z : i = m
    · exact .inr z
    · left; rwa [ne i z] at h
theorem ins_link {ν T T' k v m s} {fr : Int} (I : Inv ν T) (hk : AnyV ν k) (hp : proper (tag ν k) = true) (hin : inArr T (tag ν k) = false) (hno : ∀ i, ¬ IsAt ν T (tag ν k) i) (hm : m < T.n) (hmp : (mpos T.n (tag ν k)).toNat = m)
    (hs : s < T.n) (hfs : fr = s) (hfr : fr ≤ T.free) (hsk : (T.nd s).key = .none) (hfull : ∀ i : Nat, i < T.n → fr < i → (T.nd i).key ≠ .none)
    (hmk : (T.nd m).key ≠ .none) (hmm : (mpos T.n (tag ν (T.nd m).key)).toNat = m)
    (en : T'.n = T.n) (ea : T'.arr = T.arr) (efr : T'.free = fr) (em : T'.nd m = { T.nd m with next := s }) (es : T'.nd s = { key := k, value := v, next := (T.nd m).next }) (eo : ∀ i, i < T.n → i ≠ m → i ≠ s → T'.nd i = T.nd i) :
    Ins ν T T' (tag ν k) v ∧ kc T' ≤ kc T + 1 := by
  have k0 := tnn hp
  have ms : m ≠ s := fun z => hmk (by rw [z]; exact hsk)
  have kv : ∀ i, i < T.n → i ≠ s → (T'.nd i).key = (T.nd i).key ∧ (T'.nd i).value = (T.nd i).value := fun i hi h => by
    by_cases z : i = m
    · subst z; rw [em]; exact ⟨rfl, rfl⟩
    · rw [eo i hi z h]; exact ⟨rfl, rfl⟩
  refine ⟨ins_of I hp hin hno ea en ⟨by rw [efr]; lia, by rw [efr]; lia⟩ (fun i hi h => ?_) ?_ hs hk rfl (by rw [es]) (by rw [es]) (fun i hi h => ⟨i, hi, (kv i hi h).1, (kv i hi h).2⟩) (fun i j hi hj h1 h2 _ _ e hpr => ?_) (fun i hi h => ?_) s (fun i hi h => ?_), ?_⟩
  · by_cases z : i = s
    · rw [z, es]; exact k0
    · rw [(kv i hi z).1]; exact hfull i hi (by rw [efr] at h; lia)
  · rw [en]
    refine I.gr.link hm hs hmk hmm (by rw [hsk]; simp) (by rw [em]) (by rw [es]) (fun i hi h1 h2 => by rw [eo i hi h1 h2]) (by rw [es]; exact k0) (by rw [es]; exact hmp) (fun i hi h => by rw [(kv i hi h).1]) (fun i hi h => by rw [(kv i hi h).1])
  · rw [(kv i hi h1).1] at e hpr; rw [(kv j hj h2).1] at e; exact I.uniq i j hi hj e hpr
  · by_cases z : i = s
    · exact absurd hsk (z ▸ h)
    · right; exact ⟨i, hi, z, (kv i hi z).1, (kv i hi z).2⟩
  · by_cases z : i = s
    · exact .inr z
    · left; unfold ndL at *; rwa [(kv i hi z).2] at h
  · unfold kc
    rw [en]
    refine cnt_ins s fun i hi h => ?_
    by_cases z : i = s
    · exact .inr z
    · left; rwa [(kv i hi z).1] at h
theorem ins_move {ν T T' k v m s p} {fr : Int} (I : Inv ν T) (hk : AnyV ν k) (hp : proper (tag ν k) = true) (hin : inArr T (tag ν k) = false) (hno : ∀ i, ¬ IsAt ν T (tag ν k) i) (hm : m < T.n) (hmp : (mpos T.n (tag ν k)).toNat = m)
    (hs : s < T.n) (hfs : fr = s) (hfr : fr ≤ T.free) (hsk : (T.nd s).key = .none) (hfull : ∀ i : Nat, i < T.n → fr < i → (T.nd i).key ≠ .none)
    (hmk : (T.nd m).key ≠ .none) (hml : (T.nd m).value ≠ .none) (hmm : (mpos T.n (tag ν (T.nd m).key)).toNat ≠ m) (hpn : p < T.n) (hpm : (T.nd p).next = m)
    (en : T'.n = T.n) (ea : T'.arr = T.arr) (efr : T'.free = fr) (em : T'.nd m = { key := k, value := v, next := -1 }) (es : T'.nd s = T.nd m) (ep : T'.nd p = { T.nd p with next := s }) (eo : ∀ i, i < T.n → i ≠ m → i ≠ s → i ≠ p → T'.nd i = T.nd i) :
    Ins ν T T' (tag ν k) v ∧ kc T' ≤ kc T + 1 := by
  have k0 := tnn hp
  have ms : m ≠ s := fun z => hmk (by rw [z]; exact hsk)
  have hmpr : proper (tag ν (T.nd m).key) = true := by
    cases h : proper (tag ν (T.nd m).key) with
    | true => rfl
    | false => exact absurd (I.vals m hm h) hml
  have kv : ∀ i, i < T.n → i ≠ s → i ≠ m → (T'.nd i).key = (T.nd i).key ∧ (T'.nd i).value = (T.nd i).value := fun i hi h h2 => by
    by_cases z : i = p
    · subst z; rw [ep]; exact ⟨rfl, rfl⟩
    · rw [eo i hi h2 h z]; exact ⟨rfl, rfl⟩
  refine ⟨ins_of I hp hin hno ea en ⟨by rw [efr]; lia, by rw [efr]; lia⟩ (fun i hi h => ?_) ?_ hm hk rfl (by rw [em]) (by rw [em]) (fun i hi h => ?_) (fun i j hi hj h1 h2 _ _ e hpr => ?_) (fun i hi h => ?_) s (fun i hi h => ?_), ?_⟩
  · by_cases z : i = s
    · rw [z, es]; exact hmk
    · by_cases w : i = m
      · rw [w, em]; exact k0
      · rw [(kv i hi z w).1]; exact hfull i hi (by rw [efr] at h; lia)
  · rw [en]
    refine I.gr.move hm hs hpn hmk hmm (by rw [hsk]; simp) hpm (by rw [ep]) (by rw [es]) (by rw [em]) (fun i hi h1 h2 h3 => by rw [eo i hi h1 h2 h3]) (by rw [es]; exact hmk) (by rw [es]) (by rw [em]; exact k0) (by rw [em]; exact hmp) (fun i hi h h2 => by rw [(kv i hi h h2).1]) (fun i hi h h2 => by rw [(kv i hi h h2).1])
  · by_cases z : i = s
    · exact ⟨m, hm, by rw [z, es], by rw [z, es]⟩
    · exact ⟨i, hi, (kv i hi z h).1, (kv i hi z h).2⟩
  · have f : ∀ i, i < T.n → i ≠ m → (T'.nd i).key = (T.nd (if i = s then m else i)).key := fun i hi h => by
      by_cases z : i = s
      · rw [if_pos z, z, es]
      · rw [if_neg z, (kv i hi z h).1]
    rw [f i hi h1] at e hpr
    rw [f j hj h2] at e
    have lt : ∀ i, i < T.n → (if i = s then m else i) < T.n := fun i hi => by split <;> assumption
    have := I.uniq _ _ (lt i hi) (lt j hj) e hpr
    by_cases z : i = s <;> by_cases w : j = s <;> simp only [z, w, if_true, if_false] at this
    · rw [z, w]
    · exact absurd this.symm h2
    · exact absurd this h1
    · exact this
  · right
    by_cases w : i = m
    · exact ⟨s, hs, Ne.symm ms, by rw [es, w], by rw [es, w]⟩
    · have z : i ≠ s := fun z => h (by rw [z]; exact hsk)
      exact ⟨i, hi, w, (kv i hi z w).1, (kv i hi z w).2⟩
  · by_cases z : i = s
    · exact .inr z
    · left
      by_cases w : i = m
      · unfold ndL; rw [w, Bool.not_eq_true', ← Bool.not_eq_true, isNone_iff]; exact hml
      · unfold ndL at *; rwa [(kv i hi z w).2] at h
  · unfold kc
    rw [en]
    refine cnt_ins s fun i hi h => ?_
    by_cases z : i = s
    · exact .inr z
    · left
      by_cases w : i = m
      · rw [w, Bool.not_eq_true', ← Bool.not_eq_true, isNone_iff]; exact hmk
      · rwa [(kv i hi z w).1] at h
noncomputable def c_new_key_1 : Cd := .ld 0 <| .mld cT "rehash" <| .ld 1 <| .ld 3 <| .call (.ref 322) 3 <| .pop <| .ld 0 <| .mld cT "put_again" <| .ld 1 <| .ld 2 <| .ld 3 <| .call (.ref 301) 4 <| .pop <| .lit .none <| .ret
noncomputable def c_new_key_2 : Cd := .ld 0 <| .fld "nodes" <| .ld 7 <| .ix <| .fld "next" <| .st 7 <| .fin
noncomputable def c_new_key_3 : Cd := .ld 0 <| .fld "nodes" <| .ld 7 <| .ix <| .fld "next" <| .ld 4 <| .cmp .NotEq <| .br (c_new_key_2) (.brk)
noncomputable def c_new_key_4 : Cd := .ld 6 <| .ld 0 <| .fld "nodes" <| .ld 7 <| .ix <| .stf "next" <| .ld 5 <| .mld cN "moved_to" <| .ld 0 <| .fld "nodes" <| .ld 6 <| .ix <| .call (.ref 174) 2 <| .pop <| .lit (.int (1)) <| .una .USub <| .ld 5 <| .stf "next" <| .lit .none <| .ld 5 <| .stf "value" <| .ld 1 <| .ld 5 <| .stf "key" <| .ld 2 <| .ld 5 <| .stf "value" <| .ld 3 <| .isn false <| .br (.bad) (.fin)
noncomputable def c_new_key_5 : Cd := .whl (c_new_key_3) (c_new_key_4)
noncomputable def c_new_key_6 : Cd := .ld 5 <| .fld "next" <| .ld 0 <| .fld "nodes" <| .ld 6 <| .ix <| .stf "next" <| .ld 6 <| .ld 5 <| .stf "next" <| .ld 0 <| .fld "nodes" <| .ld 6 <| .ix <| .st 5 <| .ld 1 <| .ld 5 <| .stf "key" <| .ld 2 <| .ld 5 <| .stf "value" <| .ld 3 <| .isn false <| .br (.bad) (.fin)
noncomputable def c_new_key_7 : Cd := .ld 0 <| .mld cT "main_position" <| .ld 5 <| .fld "key" <| .call (.ref 224) 2 <| .st 7 <| .ld 7 <| .ld 4 <| .cmp .NotEq <| .br (c_new_key_5) (c_new_key_6)
noncomputable def c_new_key_8 : Cd := .ld 0 <| .mld cT "free_position" <| .call (.ref 238) 1 <| .st 6 <| .ld 6 <| .lit (.int (0)) <| .cmp .Lt <| .br (c_new_key_1) (c_new_key_7)
noncomputable def c_new_key_9 : Cd := .ld 1 <| .ld 5 <| .stf "key" <| .ld 2 <| .ld 5 <| .stf "value" <| .ld 3 <| .isn false <| .br (.bad) (.fin)
noncomputable def c_new_key_10 : Cd := .ld 0 <| .mld cT "main_position" <| .ld 1 <| .call (.ref 224) 2 <| .st 4 <| .ld 0 <| .fld "nodes" <| .ld 4 <| .ix <| .st 5 <| .ld 5 <| .fld "value" <| .isn false <| .br (c_new_key_8) (c_new_key_9)
noncomputable def c_new_key : Cd := .ld 0 <| .fld "nodes" <| .call (.bi "len") 1 <| .lit (.int (0)) <| .cmp .Eq <| .br (c_new_key_1) (c_new_key_10)
section
variable {ν : Nu} {σ : MH}
theorem new_key_ok {d : Nat} {t T k v} {Post : MH → Prop} (hd : 4 ≤ d) (K : Knows σ ν) (hν : ν t = none) (hT : TR σ t T) (I : Inv ν T) (hk : AnyV ν k) (hp : proper (tag ν k) = true) (hin : inArr T (tag ν k) = false) (hno : ∀ i, ¬ IsAt ν T (tag ν k) i) (hv : v.plain = true)
    (hre : kc T = T.n → ∀ σ1 fr, 0 ≤ fr → fr ≤ T.free → TR σ1 t { T with free := fr } → Mv σ t T σ1 { T with free := fr } → Knows σ1 ν →
      Fn d 322 [.ref t, k, .none] (fun r σ2 => r = .none ∧ (∃ T2, TR σ2 t T2) ∧ Fn d 301 [.ref t, k, v, .none] (fun r σ' => r = .none ∧ Post σ') σ2) σ1)
    (hok : ∀ σ' T', TR σ' t T' → Mv σ t T σ' T' → Ins ν T T' (tag ν k) v → T'.arr = T.arr → T'.n = T.n → kc T' ≤ kc T + 1 → Post σ') : Fn (d + 1) 294 [.ref t, k, v, .none] (fun r σ' => r = .none ∧ Post σ') σ := by
  refine Fn.go (ps := ["self", "key", "value", "heap"]) (rest := ["main", "place", "spot", "other"]) (code := c_new_key) (fun _ => by kernel_rfl) (fun _ => by kernel_rfl) (fun _ => args4 fun _ _ _ _ => by kernel_rfl) (fun _ => by kernel_rfl) rfl fun g L => ?_
  have hlen : (T.nds.length : Int) = T.n := rfl
  have k0 := tnn hp
  have hd1 : Nat.ble 1 d = true := Nat.ble_eq.mpr (Nat.le_trans (Nat.le_of_ble_eq_true rfl) hd)
  have hd2 : Nat.ble 2 d = true := Nat.ble_eq.mpr (Nat.le_trans (Nat.le_of_ble_eq_true rfl) hd)
  have hdd : Nat.ble d d = true := Nat.ble_eq.mpr (Nat.le_refl d)
  have again : ∀ {ls σ1 T1}, TR σ1 t T1 → Fn d 322 [.ref t, k, .none] (fun r σ2 => r = .none ∧ (∃ T2, TR σ2 t T2) ∧ Fn d 301 [.ref t, k, v, .none] (fun r σ' => r = .none ∧ Post σ') σ2) σ1 →
      wp c_new_key_1 ⟨g, d, noX⟩ (retC fun r σ' => r = .none ∧ Post σ') [] (some (.ref t) :: some k :: some v :: some .none :: ls) σ1 := fun hT1 h => by
    refine Meth.tab hT1 rfl (Pv.fn L h hdd ?_)
    rintro _ σ2 ⟨rfl, ⟨T2, hT2⟩, hpa⟩
    refine Meth.tab hT2 rfl (Pv.fn L hpa hdd ?_)
    rintro _ σ3 ⟨rfl, hq⟩
    exact ⟨rfl, hq⟩
  refine Pv.nodes L hT (Pv.lenN hT (brk2.dec (fun e0 => ?_) fun e0 => ?_))
  · have e1 : kc T = T.n := by unfold kc; rw [show T.n = 0 by lia -abstractProof]; rfl
    exact again hT (hre e1 σ T.free I.fr.1 (Int.le_refl _) hT (Mv.refl ..) K)
  have hn : ∃ k, T.n = 2 ^ k := by rcases I.sz with h | ⟨k, _, h⟩; exact absurd (by lia -abstractProof) e0; exact ⟨k, h⟩
  have mr := mpos_range hn (tag ν k)
  have hm : (mpos T.n (tag ν k)).toNat < T.n := by lia -abstractProof
  generalize hmd : (mpos T.n (tag ν k)).toNat = m at hm
  have hmi : mpos T.n (tag ν k) = (m : Int) := by lia -abstractProof
  obtain ⟨am, ham⟩ := T.nd_get hm
  have hpm := hT.pn _ (List.mem_of_getElem? ham)
  refine Meth.tab hT rfl (Pv.fn1 L (main_position_ok K hT hn hk k0) hd2 ?_)
  rw [hmi]
  refine Pv.nodes L hT (Pg.nod hT (Int.natCast_nonneg m) (by rw [Int.toNat_natCast]; exact ham) (Pv.value L hT ham ⟨hpm.2, brk2.bool (fun e1 => ?_) fun e1 => ?_⟩))
  rotate_left
  · -- no value is there
    have e1 : (T.nd m).value = .none := isNone_eq (by simpa using e1)
    have fin := ins_fill (v := v) I hk hp hin hno hm hmd e1
    refine Pu.key L hT ham hk.plain fun σ1 hT1 m1 => Pu.value L hT1 (setNd_get ham) hv fun σ2 hT2 m2 => ?_
    have m2 := m1.trans m2
    rw [setNd_setNd] at hT2 m2
    exact ⟨rfl, rfl, hok _ _ hT2 m2 fin.1 rfl (T.n_setNd ..) fin.2⟩
  have e1 : (T.nd m).value ≠ .none := fun z => by rw [z] at e1; cases e1
  have hmk : (T.nd m).key ≠ .none := fun z => e1 (I.vals m hm (by rw [z]; rfl))
  have hkm := I.keys m hm
  refine Meth.tab hT rfl (Pv.fn L (free_position_ok hT I) hd1 ?_)
  rintro _ σ1 ⟨fr, j, rfl, ⟨f1, f2, f3⟩, hT1, m1⟩
  have K1 := K.mv hT m1 hν
  refine brk2.dec (fun hj => ?_) fun hj => ?_
  · -- no place is free
    rcases f3 with ⟨rfl, rfl, f3⟩ | ⟨rfl, _⟩
    · have e2 : kc T = T.n := cnt_all fun i hi => by
        rw [Bool.not_eq_true', ← Bool.not_eq_true]; exact fun z => f3 i hi (isNone_eq z)
      exact again hT1 (hre e2 σ1 0 f1 f2 hT1 m1 K1)
    · lia -abstractProof
  rcases f3 with ⟨rfl, _⟩ | ⟨rfl, f4, f5, f6⟩
  · lia -abstractProof
  generalize hsd : j.toNat = s at f5
  have hji : j = (s : Int) := by lia -abstractProof
  have hs : s < T.n := by lia -abstractProof
  subst hji
  obtain ⟨as, has⟩ := T.nd_get hs
  have ms : m ≠ s := fun z => hmk (by rw [z]; exact f5)
  have ham1 : ({ T with free := (s : Int) } : Tb).nds[m]? = some (am, T.nd m) := ham
  have has1 : ({ T with free := (s : Int) } : Tb).nds[s]? = some (as, T.nd s) := has
  have mr2 := mpos_range hn (tag ν (T.nd m).key)
  refine Meth.tab hT1 rfl (Pv.key L hT1 ham1 (Pv.fn1 L (main_position_ok K1 hT1 hn hkm hmk) hd2 (brk2.bool (fun e2 => ?_) fun e2 => ?_)))
  · -- the key there stands in another's place
    have e2 : mpos T.n (tag ν (T.nd m).key) ≠ (m : Int) := ne_of_nd e2
    have e3 : (mpos T.n (tag ν (T.nd m).key)).toNat ≠ m := by lia -abstractProof
    obtain ⟨r, hr⟩ := I.gr.rank
    obtain ⟨g1, g2, g3, g4⟩ := I.gr.main m hm hmk
    refine Whl.mk (fun q ls σ2 => σ2 = σ1 ∧ ∃ o : Nat, A5 (ls = [some (.ref t), some k, some v, some .none, some (.int m), some (.ref am), some (.int s), some (.int o)]) (o < T.n) (o ≠ m) (Rch (fun i => (T.nd i).next) o m) (q = r o)) _
      ⟨rfl, (mpos T.n (tag ν (T.nd m).key)).toNat, by rw [Int.toNat_of_nonneg mr2.1]; rfl, g1, e3, g4, rfl⟩ ?_
    rintro q ls σ2 ⟨rfl, o, rfl, a9, a10, a11, rfl⟩
    obtain ⟨j, c1, c2⟩ := a11.next a10
    have c1 : (T.nd o).next = (j : Int) := c1
    obtain ⟨ao, hao⟩ := T.nd_get a9
    have hao1 : ({ T with free := (s : Int) } : Tb).nds[o]? = some (ao, T.nd o) := hao
    have jl : j < T.n := by have := (I.gr.rng o a9).2; lia -abstractProof
    refine Pv.nodes L hT1 (Pg.nod hT1 (Int.natCast_nonneg o) (by rw [Int.toNat_natCast]; exact hao1) (Pv.next L hT1 hao1 (brk2.bool (fun e4 => ?_) fun e4 => ?_)))
    · have e4 : j ≠ m := fun z => by rw [c1, z] at e4; simp at e4
      refine Pv.nodes L hT1 (Pg.nod hT1 (Int.natCast_nonneg o) (by rw [Int.toNat_natCast]; exact hao1) (Pv.next L hT1 hao1 ⟨r j, hr o j a9 jl c1, rfl, j, by rw [c1]; rfl, jl, e4, c2, rfl⟩))
    · have e4 : j = m := by have : (T.nd o).next = m := by simpa using e4
                            lia -abstractProof
      subst e4
      have os : o ≠ s := fun z => by
        have := (I.gr.free s hs (fun h => h f5)).1
        rw [z] at c1; lia -abstractProof
      refine Pv.nodes L hT1 (Pg.nod hT1 (Int.natCast_nonneg o) (by rw [Int.toNat_natCast]; exact hao1) (Pu.next L hT1 hao1 fun σ3 hT3 m3 => ?_))
      have m3 := m1.trans m3
      have ham3 := (setNd_get_ne (T := { T with free := (s : Int) }) (x := { T.nd o with next := (s : Int) }) a10).trans ham1
      have has3 := (setNd_get_ne (T := { T with free := (s : Int) }) (x := { T.nd o with next := (s : Int) }) os).trans has1
      refine Meth.mk am _ (hT3.at_ ham3) rfl (Pv.nodes L hT3 (Pg.nod hT3 (Int.natCast_nonneg s) (by rw [Int.toNat_natCast]; exact has3) (Pv.fn L (moved_to_ok hT3 ham3 has3 ms) hd1 ?_)))
      rintro _ σ4 ⟨rfl, hT4, m4⟩
      have m4 := m3.trans m4
      have ham4 := (setNd_get_ne (x := T.nd j) (Ne.symm ms)).trans ham3
      refine Pu.next L hT4 ham4 fun σ5 hT5 m5 => Pu.value L hT5 (setNd_get ham4) rfl fun σ6 hT6 m6 => ?_
      have m6 := (m4.trans m5).trans m6
      rw [setNd_setNd] at hT6 m6
      refine Pu.key L hT6 (setNd_get ham4) hk.plain fun σ7 hT7 m7 => ?_
      have m7 := m6.trans m7
      rw [setNd_setNd] at hT7 m7
      refine Pu.value L hT7 (setNd_get ham4) hv fun σ8 hT8 m8 => ?_
      have m8 := m7.trans m8
      rw [setNd_setNd] at hT8 m8
      have x1 : o < Tb.n { T with free := (s : Int) } := a9
      have x2 : s < (Tb.setNd { T with free := (s : Int) } o { T.nd o with next := (s : Int) }).n := by rw [Tb.n_setNd]; exact hs
      have x3 : j < ((Tb.setNd { T with free := (s : Int) } o { T.nd o with next := (s : Int) }).setNd s (T.nd j)).n := by rw [Tb.n_setNd, Tb.n_setNd]; exact hm
      have fin := ins_move (T' := (((Tb.setNd { T with free := (s : Int) } o { T.nd o with next := (s : Int) }).setNd s (T.nd j)).setNd j { key := k, value := v, next := -1 })) (fr := s) I hk hp hin hno hm hmd hs rfl f2 f5 (fun i hi h => f6 i hi h) hmk e1 e3 a9 c1
        (by rw [Tb.n_setNd, Tb.n_setNd, Tb.n_setNd]; rfl) rfl rfl (by rw [Tb.nd_setNd _ _ x3, if_pos rfl]) (by rw [Tb.nd_setNd _ _ x3, if_neg (Ne.symm ms), Tb.nd_setNd _ _ x2, if_pos rfl])
        (by rw [Tb.nd_setNd _ _ x3, if_neg a10, Tb.nd_setNd _ _ x2, if_neg os, Tb.nd_setNd _ _ x1, if_pos rfl]) (fun i hi h1 h2 h3 => by rw [Tb.nd_setNd _ _ x3, if_neg h1, Tb.nd_setNd _ _ x2, if_neg h2, Tb.nd_setNd _ _ x1, if_neg h3]; rfl)
      exact ⟨rfl, rfl, hok _ _ hT8 m8 fin.1 rfl (by rw [Tb.n_setNd, Tb.n_setNd, Tb.n_setNd]; rfl) fin.2⟩
  · -- it is of the same main place
    have e2 : mpos T.n (tag ν (T.nd m).key) = (m : Int) := eq_of_nd e2
    refine Pv.next L hT1 ham1 (Pv.nodes L hT1 (Pg.nod hT1 (Int.natCast_nonneg s) (by rw [Int.toNat_natCast]; exact has1) (Pu.next L hT1 has1 fun σ3 hT3 m3 => ?_)))
    have m3 := m1.trans m3
    have ham3 := (setNd_get_ne (T := { T with free := (s : Int) }) (x := { T.nd s with next := (T.nd m).next }) (Ne.symm ms)).trans ham1
    refine Pu.next L hT3 ham3 fun σ4 hT4 m4 => ?_
    have m4 := m3.trans m4
    have has4 := (setNd_get_ne (x := { T.nd m with next := (s : Int) }) ms).trans (setNd_get (x := { T.nd s with next := (T.nd m).next }) has1)
    refine Pv.nodes L hT4 (Pg.nod hT4 (Int.natCast_nonneg s) (by rw [Int.toNat_natCast]; exact has4) (Pu.key L hT4 has4 hk.plain fun σ5 hT5 m5 => Pu.value L hT5 (setNd_get has4) hv fun σ6 hT6 m6 => ?_))
    have m6 := (m4.trans m5).trans m6
    rw [setNd_setNd] at hT6 m6
    have x1 : s < Tb.n { T with free := (s : Int) } := hs
    have x2 : m < (Tb.setNd { T with free := (s : Int) } s { T.nd s with next := (T.nd m).next }).n := by rw [Tb.n_setNd]; exact hm
    have x3 : s < ((Tb.setNd { T with free := (s : Int) } s { T.nd s with next := (T.nd m).next }).setNd m { T.nd m with next := (s : Int) }).n := by rw [Tb.n_setNd, Tb.n_setNd]; exact hs
    have fin := ins_link (T' := ((Tb.setNd { T with free := (s : Int) } s { T.nd s with next := (T.nd m).next }).setNd m { T.nd m with next := (s : Int) }).setNd s { key := k, value := v, next := (T.nd m).next }) (fr := s) I hk hp hin hno hm hmd hs rfl f2 f5 (fun i hi h => f6 i hi h) hmk (by lia -abstractProof)
      (by rw [Tb.n_setNd, Tb.n_setNd, Tb.n_setNd]; rfl) rfl rfl (by rw [Tb.nd_setNd _ _ x3, if_neg ms, Tb.nd_setNd _ _ x2, if_pos rfl]) (by rw [Tb.nd_setNd _ _ x3, if_pos rfl])
      (fun i hi h1 h2 => by rw [Tb.nd_setNd _ _ x3, if_neg h2, Tb.nd_setNd _ _ x2, if_neg h1, Tb.nd_setNd _ _ x1, if_neg h2]; rfl)
    exact ⟨rfl, rfl, hok _ _ hT6 m6 fin.1 rfl (by rw [Tb.n_setNd, Tb.n_setNd, Tb.n_setNd]; rfl) fin.2⟩
end
/-- nothing but one object is changed -/
structure Ext1 (σ : MH) (t : Addr) (σ' : MH) : Prop where
  keep : ∀ b o, σ b = some o → b ≠ t → σ' b = some o
  dom : ∀ b o, σ b = some o → ∃ o', σ' b = some o'
theorem Ext1.trans {σ t σ' σ''} (x : Ext1 σ t σ') (y : Ext1 σ' t σ'') : Ext1 σ t σ'' := ⟨fun b o h n => y.keep b o (x.keep b o h n) n, fun b o h => let ⟨o', h'⟩ := x.dom b o h; y.dom b o' h'⟩
theorem Ext1.new {σ t a o} (h : σ a = none) : Ext1 σ t (upd σ a o) := ⟨fun b x e _ => (upd_ne _ _ fun z => by rw [z, h] at e; cases e).trans e, fun b x e => ⟨x, (upd_ne _ _ fun z => by rw [z, h] at e; cases e).trans e⟩⟩
theorem Ext1.put {σ t o} : Ext1 σ t (upd σ t o) := ⟨fun b x e n => (upd_ne _ _ n).trans e, fun b x e => by
  by_cases z : b = t
  · exact ⟨o, z ▸ upd_same ..⟩
  · exact ⟨x, (upd_ne _ _ z).trans e⟩⟩
theorem Ext1.none_of {σ t σ'} (x : Ext1 σ t σ') {b} (h : σ' b = none) : σ b = none := by
  cases q : σ b with
  | none => rfl
  | some o => obtain ⟨o', h'⟩ := x.dom b o q; rw [h] at h'; cases h'
/-- the list of the nodes is another one -/
theorem TR.setN {σ t T a} {nds' : List (Addr × Nd)} (h : TR σ t T) (ha : σ a = some (.list (nds'.map fun p => .ref p.1))) (hnd : ∀ p ∈ nds', σ p.1 = some (.inst cN p.2.fs)) (nd : (nds'.map (·.1)).Nodup) (ne : T.aa ≠ a) (hp : ∀ p ∈ nds', p.2.key.plain = true ∧ p.2.value.plain = true) (hz : nds'.length ≤ 2 ^ 23) :
    TR (upd σ t (.inst cT { T with na := a, nds := nds' }.fs)) t { T with na := a, nds := nds' } := by
  have n1 : T.aa ≠ t := fun z => by have := h.arr; rw [z, h.t] at this; cases this
  have n2 : a ≠ t := fun z => by rw [z, h.t] at ha; cases ha
  exact ⟨upd_same .., (upd_ne _ _ n1).trans h.arr, (upd_ne _ _ n2).trans ha, fun p hpp => (upd_ne _ _ fun z => by have := hnd p hpp; rw [z, h.t] at this; exact absurd this (by simp [cT, cN])).trans (hnd p hpp), nd, ne, h.pa, hp, h.sa, hz⟩
noncomputable def c_Node_init : Cd := .lit .none <| .ld 0 <| .stf "key" <| .lit .none <| .ld 0 <| .stf "value" <| .lit (.int (1)) <| .una .USub <| .ld 0 <| .stf "next" <| .fin
noncomputable def c_weigh_1 : Cd := .lit (.int (56)) <| .lit (.int (16)) <| .ld 0 <| .fld "array" <| .call (.bi "len") 1 <| .bin .Mult <| .bin .Add <| .lit (.int (32)) <| .ld 0 <| .fld "nodes" <| .call (.bi "len") 1 <| .bin .Mult <| .bin .Add <| .ld 0 <| .stf "size" <| .fin
noncomputable def c_weigh : Cd := .ld 1 <| .isn false <| .br (.bad) (c_weigh_1)
section
variable {ν : Nu} {σ : MH} {E : En}
noncomputable def nd0 : Nd := ⟨.none, .none, -1⟩
theorem Pv.make (L : Law E.g) {C fI : Addr} {n : Nat} {args : List V} {K : V → MH → Prop} (hm : ∀ P, makeK (hd.heap_1 P) C fI = true) (hd : Nat.ble (n + 1) E.d = true) (h : ∀ a, σ a = none → Fn n fI (.ref a :: args) (fun v σ' => v = .none ∧ K (.ref a) σ') (upd σ a (.inst C []))) : Pv E tcall (.ref C :: args) K σ := ⟨fun φ e =>
  PV.make (κ := ⟨φ, E.d, E.X⟩) (d := n) (by rw [e, L.K]; exact hm _) (Nat.le_of_ble_eq_true hd) fun a ha => (h a ha _ (e ▸ L)).mono (fun _ _ q => q) fun _ x => x.elim⟩
theorem node_init {a : Addr} (ha : σ a = some (.inst cN [])) : Fn 1 167 [.ref a] (fun v σ' => v = .none ∧ σ' = upd σ a (.inst cN nd0.fs)) σ := by
  refine Fn.go (ps := ["self"]) (rest := []) (code := c_Node_init) (fun _ => by kernel_rfl) (fun _ => by kernel_rfl) (fun _ => args1 fun _ => by kernel_rfl) (fun _ => by kernel_rfl) rfl fun g L => ?_
  refine Pu.fld ha (L.fN (by kernel_rfl)) (Nat.le_of_ble_eq_true rfl) (Pu.fld (upd_same ..) (L.fN (by kernel_rfl)) (Nat.le_of_ble_eq_true rfl) (Pu.fld (upd_same ..) (L.fN (by kernel_rfl)) (Nat.le_of_ble_eq_true rfl) ⟨rfl, ?_⟩))
  rw [upd_upd, upd_upd]
  exact congrArg (fun fs => upd σ a (.inst cN fs)) (show setF (setF (setF [] "key" V.none) "value" V.none) "next" (V.int (-1)) = nd0.fs by kernel_rfl)
theorem Pv.node (L : Law E.g) {K : V → MH → Prop} (hd : Nat.ble 2 E.d = true) (h : ∀ a, σ a = none → K (.ref a) (upd σ a (.inst cN nd0.fs))) : Pv E tcall [.ref cN] K σ :=
  Pv.make L (n := 1) (fI := 167) (fun _ => by kernel_rfl) hd fun a ha g L => (node_init (upd_same ..) g L).mono (fun v σ' e => ⟨e.1, by rw [e.2, upd_upd]; exact h a ha⟩) fun _ x => x
theorem weigh_ok {t T} (hT : TR σ t T) : Fn 1 356 [.ref t, .none] (fun r σ' => r = .none ∧ ∃ v, TR σ' t { T with size := v } ∧ Mv σ t T σ' { T with size := v }) σ := by
  refine Fn.go (ps := ["self", "heap"]) (rest := []) (code := c_weigh) (fun _ => by kernel_rfl) (fun _ => by kernel_rfl) (fun _ => args2 fun _ _ => by kernel_rfl) (fun _ => by kernel_rfl) rfl fun g L => ?_
  have b16 : Builtin.Int.intBits 16 ≤ 64 := by decide +kernel
  have b32 : Builtin.Int.intBits 32 ≤ 64 := by decide +kernel
  exact ⟨rfl, Pv.array L hT (Pv.lenA hT (Pv.mul (IntMulOk.of_left b16) (Pv.nodes L hT (Pv.lenN hT (Pv.mul (IntMulOk.of_left b32) (Pu.size L hT fun σ1 hT1 m1 => ⟨rfl, _, hT1, m1⟩))))))⟩
end
theorem clg_two {h : Nat} (h1 : 1 < h) : clg h = ((h - 1).log2 + 1 : Nat) := by
  unfold clg lg
  rw [if_pos (by lia -abstractProof), predN h]; rfl
theorem clg_range {h : Nat} (h1 : 1 ≤ h) (h2 : h ≤ 2 ^ 20) : 0 ≤ clg h ∧ clg h ≤ 20 ∧ h ≤ 2 ^ (clg h).toNat ∧ (2 ≤ h → 2 ^ ((clg h).toNat - 1) < h) := by
  rcases Nat.eq_or_lt_of_le h1 with e | e
  · subst e; decide
  · rw [clg_two e]
    have z := Nat.sub_ne_zero_of_lt e
    have p := Nat.sub_lt h1 Nat.one_pos
    have l2 : (h - 1).log2 < 20 := (Nat.log2_lt z).mpr (Nat.lt_of_lt_of_le p h2)
    exact ⟨Int.natCast_nonneg _, Int.ofNat_le.mpr l2, Nat.le_of_pred_lt Nat.lt_log2_self, fun _ => Nat.lt_of_le_of_lt (Nat.log2_self_le z) p⟩
noncomputable def places (h : Nat) : Nat := if h = 0 then 0 else 2 ^ (clg h).toNat
theorem places_le {h : Nat} (h2 : h ≤ 2 ^ 20) : h ≤ places h ∧ places h ≤ 2 ^ 20 ∧ (places h = 0 ∨ ∃ k, k ≤ 20 ∧ places h = 2 ^ k) := by
  unfold places
  by_cases e : h = 0
  · simp [e]
  · rw [if_neg e]
    have r := clg_range (h := h) (by lia -abstractProof) h2
    refine ⟨r.2.2.1, Nat.pow_le_pow_right (by decide) (by lia -abstractProof), .inr ⟨_, by lia -abstractProof, rfl⟩⟩
structure MkR (h : Nat) (σ : MH) (t : Addr) (T T' : Tb) : Prop where
  aa : T'.aa = T.aa
  arr : T'.arr = T.arr
  n : T'.n = places h
  nd : ∀ i, i < T'.n → T'.nd i = nd0
  free : T'.free = T'.n
  ft : ∀ b, foot t T' b → b = t ∨ b = T.aa ∨ σ b = none
noncomputable def c_make_nodes_1 : Cd := .call (.ref cN) 0 <| .ret
noncomputable def c_make_nodes_2 : Cd := .lit (.int (1)) <| .ld 0 <| .fld "log_nodes" <| .bin .LShift <| .comp 1 1 [] (c_make_nodes_1) <| .ld 0 <| .stf "nodes" <| .ld 0 <| .fld "nodes" <| .call (.bi "len") 1 <| .ld 0 <| .stf "free" <| .fin
noncomputable def c_make_nodes_3 : Cd := .ld 1 <| .call (.ref 132) 1 <| .ld 0 <| .stf "log_nodes" <| .ld 0 <| .fld "log_nodes" <| .lit (.int (26)) <| .cmp .Gt <| .br (.raz) (c_make_nodes_2)
noncomputable def c_make_nodes_4 : Cd := .ld 0 <| .fld "nodes" <| .call (.bi "len") 1 <| .ld 0 <| .stf "free" <| .fin
noncomputable def c_make_nodes : Cd := .lst 0 <| .ld 0 <| .stf "nodes" <| .lit (.int (0)) <| .ld 0 <| .stf "log_nodes" <| .ld 1 <| .lit (.int (0)) <| .cmp .Gt <| .br (c_make_nodes_3) (c_make_nodes_4)
section
variable {ν : Nu} {σ : MH} {E : En}
theorem Pu.any (L : Law E.g) {t T T' x v} {KK : MH → Prop} (hT : TR σ t T) (hk : (["number", "mark", "size", "meta", "flags", "weak", "array", "nodes", "log_nodes", "free"] : List Str).contains x = true) (hs : setF T.fs x v = T'.fs)
    (e1 : T'.aa = T.aa) (e2 : T'.arr = T.arr) (e3 : T'.na = T.na) (e4 : T'.nds = T.nds) (e5 : T'.num = T.num) (h : ∀ σ', TR σ' t T' → Mv σ t T σ' T' → Ext1 σ t σ' → KK σ') : Pu E (sA x) [.ref t, v] KK σ :=
  have r := hT.setF (T' := T') e1 e2 e3 e4 e5
  Pu.fld hT.t (L.fT hk) (show _ ≤ 900 from Nat.le_of_ble_eq_true rfl) (by rw [hs]; exact h _ r.1 r.2 Ext1.put)
theorem make_nodes_ok {t T} {h : Nat} (hT : TR σ t T) (hh : h ≤ 2 ^ 20) : Fn 4 342 [.ref t, .int h] (fun r σ' => r = .none ∧ ∃ T', A4 (TR σ' t T') (Mv σ t T σ' T') (MkR h σ t T T') (Ext1 σ t σ')) σ := by
  refine Fn.go (ps := ["self", "hash_size"]) (rest := []) (code := c_make_nodes) (fun _ => by kernel_rfl) (fun _ => by kernel_rfl) (fun _ => args2 fun _ _ => by kernel_rfl) (fun _ => by kernel_rfl) rfl fun g L => ?_
  intro a ha
  have hT0 := (hT.new (o := .list []) ha).1
  have na : T.aa ≠ a := fun z => by have := hT.arr; rw [z, ha] at this; cases this
  have tr1 := hT0.setN (a := a) (nds' := []) (upd_same ..) (by simp) (by simp) na (by simp) (by decide)
  refine Pu.fld hT0.t (L.fT (by kernel_rfl)) (show _ ≤ 900 from Nat.le_of_ble_eq_true rfl) ?_
  rw [show setF T.fs "nodes" (.ref a) = Tb.fs { T with na := a, nds := [] } by kernel_rfl]
  have x1 := (Ext1.new (t := t) (o := O.list []) ha).trans (Ext1.put (o := .inst cT (Tb.fs { T with na := a, nds := [] })))
  generalize upd (upd σ a (.list [])) t (.inst cT (Tb.fs { T with na := a, nds := [] })) = σ1 at tr1 x1
  refine Pu.any L (T' := { T with na := a, nds := [], logn := .int 0 }) tr1 (by kernel_rfl) (by kernel_rfl) rfl rfl rfl rfl rfl fun σ2 tr2 _ x2 => ?_
  have x2 := x1.trans x2
  have fin : ∀ {σ' T'}, TR σ' t T' → Ext1 σ t σ' → T'.num = T.num → T'.aa = T.aa → T'.arr = T.arr → T'.n = places h → (∀ i, i < T'.n → T'.nd i = nd0) → T'.free = T'.n → (∀ b, foot t T' b → b = t ∨ b = T.aa ∨ σ b = none) → ∃ T', A4 (TR σ' t T') (Mv σ t T σ' T') (MkR h σ t T T') (Ext1 σ t σ') := fun {σ' T'} h1 h2 h3 h4 h5 h6 h7 h8 h9 =>
    ⟨T', h1, ⟨fun b o e n => h2.keep b o e fun z => n (.inl z), fun b hb => (h9 b hb).elim (fun z => .inl (.inl z)) fun z => z.elim (fun z => .inl (.inr (.inl z))) .inr, h2.dom, h3⟩, ⟨h4, h5, h6, h7, h8, h9⟩, h2⟩
  refine brk2.dec (fun hp => ?_) fun hp => ?_
  · have hp : 0 < h := by lia -abstractProof
    have cr := clg_range (h := h) (by lia -abstractProof) hh
    refine Pv.fn1 L ceil_log2_ok rfl (Pu.any L (T' := { T with na := a, nds := [], logn := .int (clg h) }) tr2 (by kernel_rfl) (by kernel_rfl) rfl rfl rfl rfl rfl fun σ3 tr3 _ x3 => Pv.logn L tr3 rfl (brk2.dec (fun hq => absurd hq (by show ¬ 26 < clg h; lia -abstractProof)) fun hq => Pv.logn L tr3 rfl (Pv.shl cr.1 (by show clg h ≤ 1000000; lia -abstractProof) (by decide) ?_)))
    have x3 := x2.trans x3
    have e1 : (1 : Int) * 2 ^ (clg (h : Int)).toNat = ((places h : Nat) : Int) := by
      unfold places; rw [if_neg (by lia -abstractProof), Int.one_mul]; norm_cast
    have pl := places_le hh
    rw [e1]
    refine It.range1 _ (by lia -abstractProof) ?_
    refine CmpL.mk (fun D k acc σ' => ∃ nds : List (Addr × Nd), A7 (acc = nds.map (fun p => V.ref p.1)) (nds.length = k) ((∀ p ∈ nds, p.2 = nd0 ∧ σ' p.1 = some (.inst cN nd0.fs) ∧ σ3 p.1 = none)) ((nds.map (·.1)).Nodup) (σ' D = some (.list acc)) ((∀ b o, σ3 b = some o → σ' b = some o)) (k ≤ places h))
      (fun D hD => ⟨[], rfl, rfl, by simp, by simp, upd_same .., fun c o e => (upd_ne _ _ fun z => by rw [z, hD] at e; cases e).trans e, Nat.zero_le _⟩)
      (fun D k acc σ' ⟨nds, e, hl, _, _, h5, _, hz⟩ => ⟨trivial, h5, by rw [e, List.length_map]; lia -abstractProof⟩) (fun D k v acc σ' hD hv ⟨nds, e, hl, q1, q2, q3, q4, hz⟩ => Pv.node L rfl fun b hb => ?_) ?_
    · subst e
      have hD' : D ≠ b := fun z => by rw [z, hb] at q3; cases q3
      have hbn : b ∉ nds.map (·.1) := fun z => by
        obtain ⟨p, hp, rfl⟩ := List.mem_map.mp z
        rw [(q1 p hp).2.1] at hb; cases hb
      have lt : k < places h := by
        rw [rng_get] at hv
        split at hv
        · simpa using ‹_›
        · cases hv
      refine ⟨(upd_ne _ _ hD').trans q3, nds ++ [(b, nd0)], by simp, by simp [hl], fun p hp => ?_, ?_, upd_same .., fun c o e => ?_, lt⟩
      · rcases List.mem_append.mp hp with hp | hp
        · obtain ⟨r1, r2, r3⟩ := q1 p hp
          have n1 : p.1 ≠ D := fun z => by rw [z, q3] at r2; cases r2
          have n2 : p.1 ≠ b := fun z => by rw [z, hb] at r2; cases r2
          exact ⟨r1, (upd_ne _ _ n1).trans ((upd_ne _ _ n2).trans r2), r3⟩
        · rw [List.mem_singleton.mp hp]
          refine ⟨rfl, (upd_ne _ _ (Ne.symm hD')).trans (upd_same ..), ?_⟩
          cases w : σ3 b with
          | none => rfl
          | some o => rw [q4 b o w] at hb; cases hb
      · rw [List.map_append, List.nodup_append]
        refine ⟨q2, by simp, fun x hx y hy z => ?_⟩
        have : y = b := by simpa using hy
        exact hbn (this ▸ z ▸ hx)
      · have n1 : c ≠ D := fun z => by rw [z, hD] at e; cases e
        have n2 : c ≠ b := fun z => by have := q4 c o e; rw [z, hb] at this; cases this
        exact (upd_ne _ _ n1).trans ((upd_ne _ _ n2).trans (q4 c o e))
    · rintro D acc σ4 hD ⟨nds, rfl, hl, q1, q2, q3, q4, hz⟩
      have hl : nds.length = places h := by rw [hl, rng_len]; simp
      have tr4 : TR σ4 t { T with na := a, nds := [], logn := .int (clg h) } := ⟨q4 _ _ tr3.t, q4 _ _ tr3.arr, q4 _ _ tr3.nl, by simp, by simp, tr3.ne, tr3.pa, by simp, tr3.sa, by simp⟩
      have nD : T.aa ≠ D := fun z => by have := tr3.arr; rw [show ({ T with na := a, nds := [], logn := .int (clg h) } : Tb).aa = D from z, hD] at this; cases this
      have x4 : Ext1 σ t σ4 := x3.trans ⟨fun b o e _ => q4 b o e, fun b o e => ⟨o, q4 b o e⟩⟩
      have tr5 := tr4.setN (a := D) (nds' := nds) q3 (fun p hp => by rw [(q1 p hp).1]; exact (q1 p hp).2.1) q2 nD (fun p hp => by rw [(q1 p hp).1]; exact ⟨rfl, rfl⟩) (by lia -abstractProof)
      refine Pu.fld tr4.t (L.fT (by kernel_rfl)) (show _ ≤ 900 from Nat.le_of_ble_eq_true rfl) ?_
      rw [show setF (Tb.fs { T with na := a, nds := [], logn := .int (clg h) }) "nodes" (.ref D) = Tb.fs { T with na := D, nds := nds, logn := .int (clg h) } by kernel_rfl]
      have x5 := x4.trans (Ext1.put (o := .inst cT (Tb.fs { T with na := D, nds := nds, logn := .int (clg h) })))
      have tr5 : TR (upd σ4 t (.inst cT (Tb.fs { T with na := D, nds := nds, logn := .int (clg h) }))) t { T with na := D, nds := nds, logn := .int (clg h) } := tr5
      generalize upd σ4 t (.inst cT (Tb.fs { T with na := D, nds := nds, logn := .int (clg h) })) = σ5 at tr5 x5
      refine Pv.nodes L tr5 (Pv.lenN tr5 (Pu.any L (T' := { T with na := D, nds := nds, logn := .int (clg h), free := (nds.length : Int) }) tr5 (by kernel_rfl) (by kernel_rfl) rfl rfl rfl rfl rfl fun σ6 tr6 _ x6 => ?_))
      have x6 := x5.trans x6
      refine ⟨rfl, fin tr6 x6 rfl rfl rfl hl (fun i hi => ?_) rfl fun b hb => ?_⟩
      · obtain ⟨ad, hq⟩ := Tb.nd_get hi
        exact (q1 _ (List.mem_of_getElem? hq)).1
      · rcases hb with hb | hb | hb | hb
        · exact .inl hb
        · exact .inr (.inl hb)
        · right; right
          have hb : b = D := hb
          rw [hb]; exact x3.none_of hD
        · obtain ⟨p, hp, rfl⟩ := List.mem_map.mp hb
          exact .inr (.inr (x3.none_of (q1 p hp).2.2))
  · have hp : h = 0 := by lia -abstractProof
    subst hp
    refine Pv.nodes L tr2 (Pv.lenN tr2 (Pu.any L (T' := { T with na := a, nds := [], logn := .int 0, free := 0 }) tr2 (by kernel_rfl) (by kernel_rfl) rfl rfl rfl rfl rfl fun σ3 tr3 _ x3 => ?_))
    have x3 := x2.trans x3
    refine ⟨rfl, fin tr3 x3 rfl rfl rfl rfl (fun i hi => absurd hi (Nat.not_lt_zero _)) rfl fun b hb => ?_⟩
    rcases hb with hb | hb | hb | hb
    · exact .inl hb
    · exact .inr (.inl hb)
    · have hb : b = a := hb
      exact .inr (.inr (hb ▸ ha))
    · cases hb
end
/-! counting ints by their logarithm -/
noncomputable def CntAt (σ : MH) (c : Addr) (F : Nat → Nat) : Prop := σ c = some (.list ((List.range 27).map fun j => V.int (F j : Nat)))
noncomputable def bkOf : Tag → Option Nat
  | .int x => if 1 ≤ x ∧ x ≤ 2 ^ 26 then some (clg x).toNat else none
  | _ => none
theorem clg_big {x : Int} (h1 : 1 ≤ x) (h2 : x ≤ 2 ^ 26) : 0 ≤ clg x ∧ clg x ≤ 26 := by
  unfold clg lg
  split
  · have l2 : (x - 1).toNat.log2 < 26 := (Nat.log2_lt (by omega)).mpr (by omega)
    omega
  · omega
/-- the bucket that ends at a power of two -/
theorem clg_eq {x : Nat} {k : Nat} (h1 : 1 ≤ x) (h2 : x ≤ 2 ^ k) (h3 : k = 0 ∨ 2 ^ (k - 1) < x) : clg (x : Nat) = k := by
  unfold clg lg
  by_cases e : x = 1
  · subst e
    rcases h3 with h3 | h3
    · subst h3; decide
    · have : 0 < 2 ^ (k - 1) := Nat.pow_pos (by decide)
      lia -abstractProof
  · have hk : k ≠ 0 := fun z => by rw [z] at h2; lia -abstractProof
    have h3 : 2 ^ (k - 1) < x := h3.resolve_left hk
    rw [if_pos (by lia -abstractProof), show ((x : Int) - 1).toNat = x - 1 by lia -abstractProof]
    have a : (x - 1).log2 < k := (Nat.log2_lt (by lia -abstractProof)).mpr (by lia -abstractProof)
    have b : ¬ (x - 1).log2 < k - 1 := fun z => by
      have := (Nat.log2_lt (by lia -abstractProof)).mp z
      lia -abstractProof
    lia -abstractProof
theorem bk_lt {t j} (h : bkOf t = some j) : j < 27 := by
  unfold bkOf at h
  split at h
  · split at h
    · rename_i x hx
      have := clg_big hx.1 hx.2
      have : (clg x).toNat = j := Option.some.inj h
      omega
    · cases h
  · cases h
theorem set_range (F : Nat → Nat) (k v : Nat) : (((List.range 27).map fun j => V.int (F j : Nat)).set k (.int (v : Nat))) = (List.range 27).map fun j => V.int ((if j = k then v else F j : Nat) : Nat) := by
  apply List.ext_getElem?
  intro i
  rw [List.getElem?_set, List.getElem?_map, List.getElem?_map]
  simp only [List.length_map, List.length_range]
  by_cases hi : i < 27
  · rw [List.getElem?_range hi]
    by_cases e : k = i
    · subst e; simp [hi]
    · simp [e, Ne.symm e]
  · have : (List.range 27)[i]? = none := by simp; lia -abstractProof
    rw [this]
    split <;> simp; lia -abstractProof
noncomputable def c_count_key_1 : Cd := .ld 1 <| .ld 2 <| .call (.ref 132) 1 <| .dup 2 <| .ix <| .lit (.int (1)) <| .inp .Add <| .stxr <| .lit (.int (1)) <| .ret
noncomputable def c_count_key_2 : Cd := .lit (.int (0)) <| .ret
noncomputable def c_count_key_3 : Cd := .lit (.int (67108864)) <| .cmp .LtE <| .br (c_count_key_1) (c_count_key_2)
noncomputable def c_count_key : Cd := .ld 0 <| .call (.ref 188) 1 <| .st 2 <| .lit (.int (0)) <| .ld 2 <| .chn .Lt (c_count_key_3) (c_count_key_2)
section
variable {ν : Nu} {σ : MH} {E : En}
theorem Pg.cget {c F} {k : Int} {K : V → MH → Prop} (hc : CntAt σ c F) (h0 : 0 ≤ k) (hk : k < 27) (h : K (.int (F k.toNat : Nat)) σ) : Pg E (.ref c) (.int k) K σ := by
  refine Pg.lst (.inl hc) h0 (by lia -abstractProof) ?_ h
  have hk' : k.toNat < 27 := by lia -abstractProof
  rw [List.getElem?_map, List.getElem?_range hk']; rfl
theorem Pu.cset {c F} {k : Int} {v : Nat} {KK : MH → Prop} (hc : CntAt σ c F) (h0 : 0 ≤ k) (hk : k < 27) (h : ∀ σ', CntAt σ' c (fun j => if j = k.toNat then v else F j) → (∀ b, b ≠ c → σ' b = σ b) → KK σ') : Pu E (u3 setItem) [.ref c, .int k, .int (v : Nat)] KK σ := by
  refine Pu.lst hc h0 (by simp; omega) (by simp) (h _ ?_ fun b hb => upd_ne _ _ hb)
  unfold CntAt
  rw [set_range]; exact upd_same ..
theorem count_key_ok {c F v} (k : Knows σ ν) (hc : CntAt σ c F) (hv : AnyV ν v) : Fn 4 202 [v, .ref c] (fun r σ' => r = .int (if (bkOf (tag ν v)).isSome = true then 1 else 0) ∧ CntAt σ' c (fun j => F j + if bkOf (tag ν v) = some j then 1 else 0) ∧ ∀ b, b ≠ c → σ' b = σ b) σ := by
  refine Fn.go (ps := ["key", "counts"]) (rest := ["at"]) (code := c_count_key) (fun _ => by kernel_rfl) (fun _ => by kernel_rfl) (fun _ => args2 fun _ _ => by kernel_rfl) (fun _ => by kernel_rfl) rfl fun g L => ?_
  have no : ¬ (1 ≤ aidx v ∧ aidx v ≤ 67108864) → retC (fun r σ' => r = .int (if (bkOf (tag ν v)).isSome = true then 1 else 0) ∧ CntAt σ' c (fun j => F j + if bkOf (tag ν v) = some j then 1 else 0) ∧ ∀ b, b ≠ c → σ' b = σ b) (.ret (.int 0)) [] σ := fun hr => by
    have e : bkOf (tag ν v) = none := by
      cases hv with
      | int i => exact if_neg hr
      | ref a r h => rw [tag_ref h]; rfl
      | _ => rfl
    rw [e]
    exact ⟨rfl, by simpa using hc, fun _ _ => rfl⟩
  refine Pv.fn1 L (array_index_ok k hv) rfl (brk2.dec (fun hp => brk2.dec (fun hq => ?_) fun hq => no fun z => hq z.2) fun hp => no fun z => hp (by lia -abstractProof))
  have hb : bkOf (tag ν v) = some (clg (aidx v)).toNat := by
    have hr : 1 ≤ aidx v ∧ aidx v ≤ 2 ^ 26 := ⟨by lia -abstractProof, by lia -abstractProof⟩
    cases v with
    | int i => exact if_pos hr
    | _ => exact absurd hr.1 (show ¬ (1 : Int) ≤ -1 by decide)
  have cr := clg_big (x := aidx v) (by lia -abstractProof) (by lia -abstractProof)
  rw [hb]
  refine Pv.fn1 L ceil_log2_ok rfl (Pg.cget hc cr.1 (by lia -abstractProof) (Pu.cset (v := F (clg (aidx v)).toNat + 1) hc cr.1 (by lia -abstractProof) fun σ1 hc1 hs => ⟨rfl, ?_, hs⟩))
  have e : (fun j => if j = (clg (aidx v)).toNat then F (clg (aidx v)).toNat + 1 else F j) = fun j => F j + if some (clg (aidx v)).toNat = some j then 1 else 0 := by
    funext j
    by_cases z : j = (clg (aidx v)).toNat
    · rw [if_pos z, if_pos (by rw [z]), z]
    · rw [if_neg z, if_neg (fun w => z (Option.some.inj w).symm)]; rfl
  rw [← e]; exact hc1
end
theorem bkOf_int (x : Int) : bkOf (.int x) = if 1 ≤ x ∧ x ≤ 2 ^ 26 then some (clg x).toNat else none := rfl
theorem cnt_seg {p q : Nat → Bool} {a : Nat} : ∀ {b : Nat}, a ≤ b → (∀ i, a ≤ i → i < b → p i = q i) → cnt b p + cnt a q = cnt a p + cnt b q
  | b, hab, h => by
    induction b with
    | zero => have : a = 0 := by lia
              subst this; rfl
    | succ b ih =>
      by_cases e : a = b + 1
      · subst e; lia
      · have := ih (by lia) fun i h1 h2 => h i h1 (by lia)
        rw [cnt_succ, cnt_succ, h b (by lia) (by lia)]; lia
noncomputable def arrB (T : Tb) (j i : Nat) : Bool := arrL T i && (bkOf (.int ((i : Nat) + 1 : Int)) == some j)
noncomputable def ndB (ν : Nu) (T : Tb) (j i : Nat) : Bool := ndL T i && (bkOf (tag ν (T.nd i).key) == some j)
noncomputable def ndW (ν : Nu) (T : Tb) (i : Nat) : Bool := ndL T i && (bkOf (tag ν (T.nd i).key)).isSome
/-- how far the turns of count_array have come -/
noncomputable def mk_ (T : Tb) (k : Nat) : Nat := if k = 0 then 0 else min (2 ^ (k - 1)) T.arr.length
theorem bk_seg {T : Tb} {k i : Nat} (h1 : mk_ T k ≤ i) (h2 : i < min (2 ^ k) T.arr.length) (hs : T.arr.length ≤ 2 ^ 22) (hk : k < 27) : bkOf (.int ((i : Nat) + 1 : Int)) = some k := by
  have h3 : k = 0 ∨ 2 ^ (k - 1) < i + 1 := by
    by_cases e : k = 0
    · exact .inl e
    · right
      unfold mk_ at h1; rw [if_neg e] at h1
      lia
  have := clg_eq (x := i + 1) (k := k) (by lia) (by lia) h3
  have e : ((i : Nat) + 1 : Int) = ((i + 1 : Nat) : Int) := by lia
  rw [bkOf_int, if_pos (by lia), e, this]; simp
noncomputable def c_count_array_1 : Cd := .ld 7 <| .lit (.int (1)) <| .inp .Add <| .st 7 <| .ld 3 <| .lit (.int (1)) <| .inp .Add <| .st 3 <| .fin
noncomputable def c_count_array_2 : Cd := .ld 3 <| .lit (.int (1)) <| .inp .Add <| .st 3 <| .fin
noncomputable def c_count_array_3 : Cd := .ld 0 <| .fld "array" <| .ld 3 <| .lit (.int (1)) <| .bin .Sub <| .ix <| .isn false <| .br (c_count_array_1) (c_count_array_2)
noncomputable def c_count_array_4 : Cd := .ld 3 <| .ld 6 <| .cmp .LtE <| .br (c_count_array_3) (.brk)
noncomputable def c_count_array_5 : Cd := .ld 1 <| .ld 5 <| .dup 2 <| .ix <| .ld 7 <| .inp .Add <| .stxr <| .ld 2 <| .ld 7 <| .inp .Add <| .st 2 <| .ld 4 <| .lit (.int (2)) <| .inp .Mult <| .st 4 <| .fin
noncomputable def c_count_array_6 : Cd := .lit (.int (0)) <| .st 7 <| .whl (c_count_array_4) (c_count_array_5)
noncomputable def c_count_array_7 : Cd := .st 5 <| .ld 4 <| .ld 0 <| .fld "array" <| .call (.bi "len") 1 <| .call (.bi "min") 2 <| .st 6 <| .ld 3 <| .ld 6 <| .cmp .Gt <| .br (.brk) (c_count_array_6)
noncomputable def c_count_array : Cd := .lit (.int (0)) <| .st 2 <| .lit (.int (1)) <| .st 3 <| .lit (.int (1)) <| .st 4 <| .lit (.int (26)) <| .lit (.int (1)) <| .bin .Add <| .forl 1 1 (c_count_array_7) (.ld 2 <| .ret)
section
variable {ν : Nu} {σ : MH}
theorem arrL_at {T : Tb} {i : Nat} {v : V} (h : T.arr[i]? = some v) : arrL T i = !isNone v := by
  unfold arrL; rw [List.getD_eq_getElem?_getD, h]; rfl
theorem cnt_no : ∀ n, cnt n (fun _ => false) = 0
  | 0 => rfl
  | n + 1 => by rw [cnt_succ, cnt_no n]; rfl
theorem cnt_z {n : Nat} {p : Nat → Bool} (h : ∀ i, i < n → p i = false) : cnt n p = 0 := (cnt_congr h).trans (cnt_no n)
theorem mk_end {T : Tb} {k : Nat} (h : mk_ T k = min (2 ^ k) T.arr.length) : mk_ T k = T.arr.length := by
  unfold mk_ at h ⊢
  split at h
  · rename_i e0
    subst e0
    have h0 : (2 : Nat) ^ 0 = 1 := rfl
    rw [h0] at h
    rw [if_pos rfl]; lia
  · rename_i e0
    rw [if_neg e0]
    have : 2 ^ k = 2 * 2 ^ (k - 1) := by
      obtain ⟨q, rfl⟩ : ∃ q, k = q + 1 := ⟨k - 1, by lia⟩
      simp [Nat.pow_succ]; lia
    have := Nat.pow_pos (n := k - 1) (show 0 < 2 by decide)
    lia
theorem arrB_step {T : Tb} {k i here : Nat} (hk27 : k < 27) (hs : T.arr.length ≤ 2 ^ 22) (hm : min (2 ^ k) T.arr.length = i) (b9 : mk_ T k ≤ i) (b11 : here + cnt (mk_ T k) (arrL T) = cnt i (arrL T)) :
    (fun j => if j = (k : Int).toNat then cnt (mk_ T k) (arrB T k) + here else cnt (mk_ T k) (arrB T j)) = fun j => cnt i (arrB T j) := by
  funext j
  by_cases z : j = k
  · subst z
    rw [if_pos (Int.toNat_natCast j).symm]
    have := cnt_seg (p := arrB T j) (q := arrL T) b9 fun i' h1' h2' => by
      unfold arrB; rw [bk_seg h1' (by rw [hm]; exact h2') hs hk27]; simp
    lia
  · rw [if_neg (by rw [Int.toNat_natCast]; exact z)]
    have := cnt_seg (p := arrB T j) (q := fun _ => false) b9 fun i' h1' h2' => by
      unfold arrB; rw [bk_seg h1' (by rw [hm]; exact h2') hs hk27]
      rw [show (some k == some j) = false from beq_eq_false_iff_ne.mpr fun w => z (Option.some.inj w).symm, Bool.and_false]
    rw [cnt_no, cnt_no] at this; lia
/-- the counters are none of the table's own objects -/
structure Away (σ : MH) (T : Tb) (c : Addr) : Prop where
  inst : ∀ fs C, σ c ≠ some (.inst C fs)
  aa : c ≠ T.aa
  na : c ≠ T.na
theorem Away.tr {t T c σ'} (A : Away σ T c) (hT : TR σ t T) (h : ∀ b, b ≠ c → σ' b = σ b) : TR σ' t T :=
  ⟨(h _ fun z => A.inst _ _ (z ▸ hT.t)).trans hT.t, (h _ (Ne.symm A.aa)).trans hT.arr, (h _ (Ne.symm A.na)).trans hT.nl, fun p hp => (h _ fun z => A.inst _ _ (z ▸ hT.nd p hp)).trans (hT.nd p hp), hT.nodup, hT.ne, hT.pa, hT.pn, hT.sa, hT.sn⟩
theorem count_array_ok {t T c} (hT : TR σ t T) (hs : T.arr.length ≤ 2 ^ 22) (hc : CntAt σ c fun _ => 0) (A : Away σ T c) : Fn 3 308 [.ref t, .ref c] (fun r σ' => r = .int (cnt T.arr.length (arrL T) : Nat) ∧ CntAt σ' c (fun j => cnt T.arr.length (arrB T j)) ∧ ∀ b, b ≠ c → σ' b = σ b) σ := by
  refine Fn.go (ps := ["self", "counts"]) (rest := ["total", "at", "limit", "step", "last", "here"]) (code := c_count_array) (fun _ => by kernel_rfl) (fun _ => by kernel_rfl) (fun _ => args2 fun _ _ => by kernel_rfl) (fun _ => by kernel_rfl) rfl fun g L => ?_
  refine It.range1 _ (by decide) (ForL.mk (fun k ls σ1 => X3 fun x y z => A3 (ls = [some (.ref t), some (.ref c), some (.int (cnt (mk_ T k) (arrL T) : Nat)), some (.int ((mk_ T k : Nat) + 1)), some (.int ((2 ^ k : Nat) : Int)), x, y, z]) ((∀ b, b ≠ c → σ1 b = σ b)) (CntAt σ1 c (fun j => cnt (mk_ T k) (arrB T j))))
    ⟨_, _, _, rfl, fun _ _ => rfl, hc⟩ (fun _ _ _ _ => trivial) ?_ ?_)
  · rintro k x ls σ2 hx ⟨x5, x6, x7, rfl, a3, a8⟩
    rw [rng_get] at hx
    split at hx
    rotate_left
    · cases hx
    rename_i hk27
    have hk27 : k < 27 := by simpa using hk27
    rw [show (0 : Int) + (k : Nat) = (k : Nat) by lia] at hx
    cases hx
    have hT2 := A.tr hT a3
    have hlast : (if (T.arr.length : Int) < ((2 ^ k : Nat) : Int) then (T.arr.length : Int) else ((2 ^ k : Nat) : Int)) = ((min (2 ^ k) T.arr.length : Nat) : Int) := by split <;> lia
    have mk1 : mk_ T (k + 1) = min (2 ^ k) T.arr.length := by unfold mk_; rw [if_neg (Nat.succ_ne_zero k), Nat.add_sub_cancel]
    have mkle : mk_ T k ≤ min (2 ^ k) T.arr.length := by
      unfold mk_
      split
      · exact Nat.zero_le _
      · have := Nat.pow_le_pow_right (show 0 < 2 by decide) (show k - 1 ≤ k by lia); lia
    refine Pv.array L hT2 (Pv.lenA hT2 (Pv.min2 ?_))
    rw [hlast]
    generalize hm : min (2 ^ k) T.arr.length = m at *
    refine brk2.dec (fun hp => ?_) fun hp => ?_
    · have e : mk_ T k = T.arr.length := mk_end (by lia)
      rw [← e]
      exact ⟨rfl, a8, a3⟩
    · refine Whl.mk (fun q ls σ3 => σ3 = σ2 ∧ X2 fun (i here : Nat) => ls = [some (.ref t), some (.ref c), some (.int (cnt (mk_ T k) (arrL T) : Nat)), some (.int ((i : Nat) + 1)), some (.int ((2 ^ k : Nat) : Int)), some (.int (k : Nat)), some (.int (m : Nat)), some (.int (here : Nat))] ∧
          mk_ T k ≤ i ∧ i ≤ m ∧ here + cnt (mk_ T k) (arrL T) = cnt i (arrL T) ∧ q = m - i) _ ⟨rfl, mk_ T k, 0, rfl, Nat.le_refl _, mkle, by lia, rfl⟩ ?_
      rintro q ls σ3 ⟨rfl, i, here, rfl, b9, b10, b11, rfl⟩
      refine brk2.dec (fun hq => ?_) fun hq => ?_
      · obtain ⟨v, hv⟩ : ∃ v, T.arr[i]? = some v := ⟨_, List.getElem?_eq_getElem (by lia)⟩
        have hvp := hT.pa v (List.mem_of_getElem? hv)
        have e1 : ((i : Int) + 1 - 1).toNat = i := sucN i
        have hL := arrL_at hv
        refine Pv.array L hT2 (Pg.arr hT2 (by lia) (by rw [e1]; exact hv) ⟨hvp, brk2.bool (fun e => ?_) fun e => ?_⟩)
        · exact ⟨m - (i + 1), by lia, rfl, i + 1, here + 1, rfl, by lia, by lia, by rw [cnt_succ, hL, show (!isNone v) = true from e, if_pos rfl]; lia, rfl⟩
        · exact ⟨m - (i + 1), by lia, rfl, i + 1, here, rfl, by lia, by lia, by rw [cnt_succ, hL, show (!isNone v) = false from e, if_neg Bool.false_ne_true]; exact b11, rfl⟩
      · have hi : i = m := by lia
        subst hi
        refine Pg.cget a8 (by lia) (by lia) ?_
        have ec : ((cnt (mk_ T k) (arrB T (k : Int).toNat) : Nat) : Int) + (here : Int) = ((cnt (mk_ T k) (arrB T k) + here : Nat) : Int) := by rw [Int.toNat_natCast]; rfl
        show Pu _ _ [_, _, .int (((cnt (mk_ T k) (arrB T (k : Int).toNat) : Nat) : Int) + (here : Int))] _ _
        rw [ec]
        refine Pu.cset (v := cnt (mk_ T k) (arrB T k) + here) a8 (by lia) (by lia) fun σ4 hc4 hs4 => Pv.imul (IntMulOk.of_right (by decide +kernel)) ⟨some (.int (k : Nat)), some (.int (i : Nat)), some (.int (here : Nat)), ?_, fun b hb => (hs4 b hb).trans (a3 b hb), ?_⟩
        · rw [mk1, show ((2 ^ (k + 1) : Nat) : Int) = ((2 ^ k : Nat) : Int) * 2 by rw [Nat.pow_succ]; lia, show ((cnt i (arrL T) : Nat) : Int) = ((cnt (mk_ T k) (arrL T) : Nat) : Int) + (here : Int) by lia]; rfl
        · rw [mk1, ← arrB_step hk27 hs hm b9 b11]; exact hc4
  · rintro ls σ2 ⟨x5, x6, x7, rfl, a3, a8⟩
    have e : mk_ T (rng 0 (26 + 1 : Int).toNat).length = T.arr.length := by
      rw [rng_len]
      show mk_ T 27 = _
      unfold mk_
      rw [if_neg (by decide)]
      have : (2 : Nat) ^ 26 = 67108864 := by decide
      lia
    have e : mk_ T (rng 0 (Int.add 26 1).toNat).length = T.arr.length := e
    rw [← e]
    exact ⟨rfl, a8, a3⟩
end
theorem Away.kn {σ σ' ν T c} (A : Away σ T c) (K : Knows σ ν) (h : ∀ b, b ≠ c → σ' b = σ b) : Knows σ' ν := ⟨fun a r e => by
  obtain ⟨h1, fs, h2, h3⟩ := K.at_ a r e
  exact ⟨h1, fs, (h a fun z => A.inst _ _ (z ▸ h2)).trans h2, h3⟩⟩
theorem Away.of {σ T c F} (hc : CntAt σ c F) (ha : c ≠ T.aa) (hn : c ≠ T.na) : Away σ T c := ⟨fun fs C z => (by rw [hc] at z; cases z), ha, hn⟩
noncomputable def Sm (F : Nat → Nat) : Nat → Nat
  | 0 => 0
  | k + 1 => Sm F k + F k
/-- what compute_sizes gives -/
structure SzR (F : Nat → Nat) (size used : Nat) : Prop where
  or : (size = 0 ∧ used = 0) ∨ ∃ s, A4 (s ≤ 26) (size = 2 ^ s) (used = Sm F (s + 1)) (size < 2 * used)
noncomputable def c_count_nodes_1 : Cd := .ld 3 <| .ld 4 <| .fld "key" <| .ld 1 <| .call (.ref 202) 2 <| .inp .Add <| .st 3 <| .ld 2 <| .lit (.int (1)) <| .inp .Add <| .st 2 <| .fin
noncomputable def c_count_nodes_2 : Cd := .st 4 <| .ld 4 <| .fld "value" <| .isn false <| .br (c_count_nodes_1) (.fin)
noncomputable def c_count_nodes_3 : Cd := .ld 2 <| .ld 3 <| .tup 2 <| .ret
noncomputable def c_count_nodes : Cd := .lit (.int (0)) <| .st 2 <| .lit (.int (0)) <| .st 3 <| .ld 0 <| .fld "nodes" <| .forl 0 1 (c_count_nodes_2) (c_count_nodes_3)
noncomputable def c_compute_sizes_1 : Cd := .ld 5 <| .lit (.int (2)) <| .inp .Mult <| .st 5 <| .fin
noncomputable def c_compute_sizes_2 : Cd := .ld 5 <| .st 4 <| .ld 2 <| .st 3 <| .ld 2 <| .ld 1 <| .cmp .Eq <| .br (.brk) (c_compute_sizes_1)
noncomputable def c_compute_sizes_3 : Cd := .ld 2 <| .ld 1 <| .cmp .Eq <| .br (.brk) (c_compute_sizes_1)
noncomputable def c_compute_sizes_4 : Cd := .ld 2 <| .ld 6 <| .inp .Add <| .st 2 <| .ld 2 <| .ld 5 <| .lit (.int (2)) <| .bin .FloorDiv <| .cmp .Gt <| .br (c_compute_sizes_2) (c_compute_sizes_3)
noncomputable def c_compute_sizes_5 : Cd := .ld 6 <| .lit (.int (0)) <| .cmp .Gt <| .br (c_compute_sizes_4) (c_compute_sizes_3)
noncomputable def c_compute_sizes_6 : Cd := .st 6 <| .ld 5 <| .lit (.int (2)) <| .bin .FloorDiv <| .ld 1 <| .cmp .GtE <| .br (.brk) (c_compute_sizes_5)
noncomputable def c_compute_sizes_7 : Cd := .ld 4 <| .ld 3 <| .tup 2 <| .ret
noncomputable def c_compute_sizes : Cd := .lit (.int (0)) <| .st 2 <| .lit (.int (0)) <| .st 3 <| .lit (.int (0)) <| .st 4 <| .lit (.int (1)) <| .st 5 <| .ld 0 <| .forl 0 1 (c_compute_sizes_6) (c_compute_sizes_7)
section
variable {ν : Nu} {σ : MH}
theorem count_nodes_ok {t T c F} (K : Knows σ ν) (hT : TR σ t T) (hk : ∀ i, i < T.n → AnyV ν (T.nd i).key) (hc : CntAt σ c F) (hca : c ≠ T.aa) (hcn : c ≠ T.na) :
    Fn 5 315 [.ref t, .ref c] (fun r σ' => r = .tup [.int (cnt T.n (ndL T) : Nat), .int (cnt T.n (ndW ν T) : Nat)] ∧ CntAt σ' c (fun j => F j + cnt T.n (ndB ν T j)) ∧ ∀ b, b ≠ c → σ' b = σ b) σ := by
  refine Fn.go (ps := ["self", "counts"]) (rest := ["total", "whole", "node"]) (code := c_count_nodes) (fun _ => by kernel_rfl) (fun _ => by kernel_rfl) (fun _ => args2 fun _ _ => by kernel_rfl) (fun _ => by kernel_rfl) rfl fun g L => ?_
  have A := Away.of hc hca hcn
  refine Pv.nodes L hT (It.val _ _ _ (.list T.na _ (.inl hT.nl)) (ForL.mk (fun k ls σ1 => ∃ x, A3 (ls = [some (.ref t), some (.ref c), some (.int (cnt k (ndL T) : Nat)), some (.int (cnt k (ndW ν T) : Nat)), x]) ((∀ b, b ≠ c → σ1 b = σ b)) (CntAt σ1 c (fun j => F j + cnt k (ndB ν T j))))
    ⟨_, rfl, fun _ _ => rfl, hc⟩ (fun k ls σ2 ⟨_, _, a3, _⟩ => .inl ((a3 _ (Ne.symm hcn)).trans hT.nl)) ?_ ?_))
  · rintro k x ls σ2 hx ⟨x4, rfl, a3, a6⟩
    have hT2 := A.tr hT a3
    rw [List.getElem?_map] at hx
    obtain ⟨⟨ad, nd⟩, hp, e⟩ := Option.map_eq_some_iff.mp hx
    subst e
    have lt : k < T.n := (List.getElem?_eq_some_iff.mp hp).1
    have hnd : T.nd k = nd := Tb.nd_of hp
    subst hnd
    refine Pv.value L hT2 hp ⟨(hT.pn _ (List.mem_of_getElem? hp)).2, brk2.bool (fun e => ?_) fun e => ?_⟩
    · have eL : ndL T k = true := e
      refine Pv.key L hT2 hp (Pv.fn L (count_key_ok (A.kn K a3) a6 (hk k lt)) rfl ?_)
      rintro r σ3 ⟨rfl, hc3, hs3⟩
      have e2 : (((cnt k (ndW ν T) : Nat) : Int) + if (bkOf (tag ν (T.nd k).key)).isSome = true then 1 else 0) = ((cnt (k + 1) (ndW ν T) : Nat) : Int) := by
        rw [cnt_succ]; unfold ndW; rw [eL]; simp only [Bool.true_and]; split <;> lia -abstractProof
      have e1 : ((cnt k (ndL T) : Nat) : Int) + 1 = ((cnt (k + 1) (ndL T) : Nat) : Int) := by rw [cnt_succ, eL]; simp
      have e3 : (fun j => F j + cnt k (ndB ν T j) + if bkOf (tag ν (T.nd k).key) = some j then 1 else 0) = fun j => F j + cnt (k + 1) (ndB ν T j) := by
        funext j
        rw [cnt_succ]; unfold ndB; rw [eL]; simp only [Bool.true_and, beq_iff_eq]; split <;> lia -abstractProof
      exact ⟨some (.ref ad), by rw [← e1, ← e2]; rfl, fun b hb => (hs3 b hb).trans (a3 b hb), by rw [← e3]; exact hc3⟩
    · have eL : ndL T k = false := e
      refine ⟨some (.ref ad), ?_, a3, ?_⟩
      · rw [cnt_succ, cnt_succ, eL, show ndW ν T k = false by unfold ndW; rw [eL]; rfl]; rfl
      · have e3 : (fun j => F j + cnt k (ndB ν T j)) = fun j => F j + cnt (k + 1) (ndB ν T j) := by
          funext j
          rw [cnt_succ, show ndB ν T j k = false by unfold ndB; rw [eL]; rfl]; simp
        rw [← e3]; exact a6
  · rintro ls σ2 ⟨x4, rfl, a3, a6⟩
    have e : (T.nds.map fun p => V.ref p.1).length = T.n := List.length_map ..
    rw [e] at a6 ⊢
    exact ⟨rfl, a6, a3⟩
end
section
variable {σ : MH}
theorem compute_sizes_ok {c F} (hc : CntAt σ c F) : Fn 1 195 [.ref c, .int (Sm F 27 : Nat)] (fun r σ' => (X2 fun (size used : Nat) => r = .tup [.int size, .int used] ∧ SzR F size used) ∧ σ' = σ) σ := by
  refine Fn.go (ps := ["counts", "wanted"]) (rest := ["gathered", "used", "size", "power", "count"]) (code := c_compute_sizes) (fun _ => by kernel_rfl) (fun _ => by kernel_rfl) (fun _ => args2 fun _ _ => by kernel_rfl) (fun _ => by kernel_rfl) rfl fun g L => ?_
  refine It.val _ _ _ (.list c _ (.inl hc)) (ForL.mk (fun k ls σ1 => σ1 = σ ∧ X2 fun (size used : Nat) => ∃ x, ls = [some (.ref c), some (.int (Sm F 27 : Nat)), some (.int (Sm F k : Nat)), some (.int used), some (.int size), some (.int (2 ^ k : Nat)), x] ∧ SzR F size used)
    ⟨rfl, 0, 0, _, rfl, ⟨.inl ⟨rfl, rfl⟩⟩⟩ (fun k ls σ2 ⟨e, _⟩ => e ▸ .inl hc) ?_ ?_)
  · rintro k x ls σ2 hx ⟨rfl, size, used, x6, rfl, a7⟩
    have hk : k < 27 := by have := (List.getElem?_eq_some_iff.mp hx).1; simpa using this
    rw [List.getElem?_map, List.getElem?_range hk] at hx
    cases hx
    have hfd : ((2 ^ k : Nat) : Int).fdiv 2 = ((2 ^ k / 2 : Nat) : Int) := halfN _
    have hpw : ((2 ^ k : Nat) : Int) * 2 = ((2 ^ (k + 1) : Nat) : Int) := by rw [Nat.pow_succ]; lia -abstractProof
    have ek : Sm F (k + 1) = Sm F k + F k := rfl
    have eg : ((Sm F k : Nat) : Int) + (F k : Nat) = ((Sm F (k + 1) : Nat) : Int) := by rw [ek]; lia -abstractProof
    -- the end of a turn
    have tl : ∀ size used : Nat, SzR F size used → wp c_compute_sizes_3 ⟨g, 0, noX⟩ (loopC (fun ls σ1 => σ1 = σ2 ∧ X2 fun (size used : Nat) => ∃ x, ls = [some (.ref c), some (.int (Sm F 27 : Nat)), some (.int (Sm F (k + 1) : Nat)), some (.int used), some (.int size), some (.int (2 ^ (k + 1) : Nat)), x] ∧ SzR F size used)
        (fun ls σ1 => wp c_compute_sizes_7 ⟨g, 0, noX⟩ (retC fun r σ' => (X2 fun (size used : Nat) => r = .tup [.int size, .int used] ∧ SzR F size used) ∧ σ' = σ2) [] ls σ1) (retC fun r σ' => (X2 fun (size used : Nat) => r = .tup [.int size, .int used] ∧ SzR F size used) ∧ σ' = σ2)) []
        [some (.ref c), some (.int (Sm F 27 : Nat)), some (.int (Sm F (k + 1) : Nat)), some (.int used), some (.int size), some (.int (2 ^ k : Nat)), some (.int (F k : Nat))] σ2 := fun size used sz =>
      brk2.bool (fun _ => ⟨⟨size, used, rfl, sz⟩, rfl⟩) fun _ => Pv.imul (IntMulOk.of_right (by decide +kernel)) ⟨rfl, size, used, some (.int (F k : Nat)), by rw [← hpw]; rfl, sz⟩
    refine Pv.div (by decide) (by decide) (brk2.dec (fun _ => ⟨⟨size, used, rfl, a7⟩, rfl⟩) fun _ => brk2.dec (fun hq => Pv.div (by decide) (by decide) ?_) fun hq => ?_)
    · rw [hfd]
      refine brk2.dec (fun hr => ?_) fun hr => ?_
      · have hr : ((2 ^ k / 2 : Nat) : Int) < ((Sm F k : Nat) : Int) + (F k : Nat) := hr
        have := tl (2 ^ k) (Sm F (k + 1)) ⟨.inr ⟨k, by lia -abstractProof, rfl, rfl, by
          have : 2 ^ k / 2 < Sm F (k + 1) := by lia -abstractProof
          lia -abstractProof⟩⟩
        rw [← eg] at this
        exact this
      · have := tl size used a7
        rw [← eg] at this
        exact this
    · have e0 : Sm F k = Sm F (k + 1) := by rw [ek]; lia -abstractProof
      rw [e0]
      exact tl size used a7
  · rintro ls σ2 ⟨rfl, size, used, x6, rfl, a7⟩
    exact ⟨⟨size, used, rfl, a7⟩, rfl⟩
end
/-! what a resize puts back (plain) -/
noncomputable def vanR (s : Nat) : List V → List (V × V)
  | [] => []
  | v :: r => if isNone v = true then vanR (s + 1) r else (.int (s : Nat), v) :: vanR (s + 1) r
noncomputable def nodR : List Nd → List (V × V)
  | [] => []
  | n :: r => if isNone n.value = true then nodR r else (n.key, n.value) :: nodR r
theorem mem_vanR {s : Nat} : ∀ {xs : List V} {k v : V}, (k, v) ∈ vanR s xs → ∃ i : Nat, A3 (k = .int ((s + i : Nat) : Int)) (xs[i]? = some v) (v ≠ .none)
  | [], _, _, h => by cases h
  | x :: r, k, v, h => by
    unfold vanR at h
    split at h
    · obtain ⟨i, a, b, c⟩ := mem_vanR h
      exact ⟨i + 1, by rw [a]; congr 2; lia -abstractProof, b, c⟩
    · rename_i e
      rcases List.mem_cons.mp h with h | h
      · cases h
        exact ⟨0, rfl, rfl, fun z => e (isNone_iff.mpr z)⟩
      · obtain ⟨i, a, b, c⟩ := mem_vanR h
        exact ⟨i + 1, by rw [a]; congr 2; lia -abstractProof, b, c⟩
theorem vanR_mem {s : Nat} : ∀ {xs : List V} {i : Nat} {v : V}, xs[i]? = some v → v ≠ .none → (V.int ((s + i : Nat) : Int), v) ∈ vanR s xs
  | x :: r, 0, v, h, hv => by
    cases h
    unfold vanR
    rw [if_neg (fun z => hv (isNone_iff.mp z))]
    exact .head _
  | x :: r, i + 1, v, h, hv => by
    have := vanR_mem (s := s + 1) (xs := r) (i := i) (by simpa using h) hv
    have e : ((s + 1 + i : Nat) : Int) = ((s + (i + 1) : Nat) : Int) := by lia -abstractProof
    rw [e] at this
    unfold vanR
    split
    · exact this
    · exact .tail _ this
theorem mem_nodR : ∀ {xs : List Nd} {k v : V}, (k, v) ∈ nodR xs → ∃ n ∈ xs, k = n.key ∧ v = n.value ∧ v ≠ .none
  | [], _, _, h => by cases h
  | x :: r, k, v, h => by
    unfold nodR at h
    split at h
    · obtain ⟨n, a, b⟩ := mem_nodR h; exact ⟨n, .tail _ a, b⟩
    · rename_i e
      rcases List.mem_cons.mp h with h | h
      · cases h; exact ⟨x, .head _, rfl, rfl, fun z => e (isNone_iff.mpr z)⟩
      · obtain ⟨n, a, b⟩ := mem_nodR h; exact ⟨n, .tail _ a, b⟩
theorem nodR_mem : ∀ {xs : List Nd} {n : Nd}, n ∈ xs → n.value ≠ .none → (n.key, n.value) ∈ nodR xs
  | x :: r, n, h, hv => by
    unfold nodR
    rcases List.mem_cons.mp h with h | h
    · subst h
      rw [if_neg (fun z => hv (isNone_iff.mp z))]; exact .head _
    · have := nodR_mem h hv
      split
      · exact this
      · exact .tail _ this
noncomputable def restL (T : Tb) (a : Nat) : List (V × V) := vanR (a + 1) (T.arr.drop a) ++ nodR (T.nds.map (·.2)).reverse
structure JJ (ν : Nu) (T : Tb) (Tc : Tb) (L : List (V × V)) : Prop where
  inv : Inv ν Tc
  ok : ∀ p ∈ L, AnyV ν p.1 ∧ proper (tag ν p.1) = true ∧ p.2.plain = true ∧ p.2 ≠ .none
  nd : (L.map fun p => tag ν p.1).Nodup
  out : ∀ p ∈ L, ¬ HasKey ν Tc (tag ν p.1)
  was : ∀ p ∈ L, look ν T (tag ν p.1) = p.2
  same : ∀ t, proper t = true → t ∉ (L.map fun p => tag ν p.1) → look ν Tc t = look ν T t
  live : ∀ t, proper t = true → HasKey ν Tc t → look ν T t ≠ .none
  none_ : ∀ p ∈ L, look ν Tc (tag ν p.1) = .none
theorem JJ.step {ν T Tc Tc' k v L} (J : JJ ν T Tc ((k, v) :: L)) (I : Ins ν Tc Tc' (tag ν k) v) : JJ ν T Tc' L := by
  have nd := J.nd
  rw [List.map_cons, List.nodup_cons] at nd
  have ne : ∀ p ∈ L, tag ν p.1 ≠ tag ν k := fun p hp h => nd.1 (h ▸ List.mem_map.mpr ⟨p, hp, rfl⟩)
  refine ⟨I.inv, fun p hp => J.ok p (.tail _ hp), nd.2, fun p hp h => ?_, fun p hp => J.was p (.tail _ hp), fun t ht hn => ?_, fun t ht h => ?_, fun p hp => ?_⟩
  · rcases I.keys _ (J.ok p (.tail _ hp)).2.1 h with h | h | h
    · exact J.out p (.tail _ hp) h
    · exact ne p hp h
    · exact h (J.none_ p (.tail _ hp))
  · rw [I.look t ht]
    by_cases e : t = tag ν k
    · rw [if_pos e, e]; exact (J.was (k, v) (.head _)).symm
    · rw [if_neg e]
      exact J.same t ht fun z => by
        rcases List.mem_cons.mp z with z | z
        · exact e z
        · exact hn z
  · rcases I.keys t ht h with h | h | h
    · exact J.live t ht h
    · rw [h, J.was (k, v) (.head _)]; exact (J.ok (k, v) (.head _)).2.2.2
    · rw [← J.same t ht fun z => ?_]
      · exact h
      · obtain ⟨p, hp, e⟩ := List.mem_map.mp z
        exact h (e ▸ J.none_ p hp)
  · rw [I.look _ (J.ok p (.tail _ hp)).2.1, if_neg (ne p hp)]
    exact J.none_ p (.tail _ hp)
theorem nd_mem {T : Tb} {n : Nd} (h : n ∈ (T.nds.map (·.2)).reverse) : ∃ i, i < T.n ∧ T.nd i = n := by
  rw [List.mem_reverse] at h
  obtain ⟨p, hp, e⟩ := List.mem_map.mp h
  obtain ⟨i, hi⟩ := List.getElem?_of_mem hp
  exact ⟨i, (List.getElem?_eq_some_iff.mp hi).1, by rw [← e]; exact Tb.nd_of (a := p.1) (n := p.2) hi⟩
theorem mem_nd {T : Tb} {i : Nat} (h : i < T.n) : T.nd i ∈ (T.nds.map (·.2)).reverse := by
  rw [List.mem_reverse]
  obtain ⟨a, ha⟩ := T.nd_get h
  exact List.mem_map.mpr ⟨_, List.mem_of_getElem? ha, rfl⟩
theorem live_proper {ν T i} (I : Inv ν T) (h : i < T.n) (hv : (T.nd i).value ≠ .none) : proper (tag ν (T.nd i).key) = true := by
  cases e : proper (tag ν (T.nd i).key) with
  | true => rfl
  | false => exact absurd (I.vals i h e) hv
theorem not_inArr {ν T i} (I : Inv ν T) (h : i < T.n) : inArr T (tag ν (T.nd i).key) = false := by
  cases e : inArr T (tag ν (T.nd i).key) with
  | false => rfl
  | true => exact absurd ⟨h, rfl⟩ (not_at_arr I e)
theorem tag_inj_nodR {ν T} (I : Inv ν T) : ((nodR (T.nds.map (·.2)).reverse).map fun p => tag ν p.1).Nodup := by
  have go : ∀ xs : List Nd, (∀ n ∈ xs, n.value ≠ .none → proper (tag ν n.key) = true) → (xs.filter (fun n => !isNone n.value)).Pairwise (fun a b => tag ν a.key ≠ tag ν b.key) → ((nodR xs).map fun p => tag ν p.1).Nodup := by
    intro xs
    induction xs with
    | nil => intro _ _; exact List.nodup_nil
    | cons x r ih =>
      intro h1 h2
      unfold nodR
      by_cases e : isNone x.value = true
      · rw [if_pos e]
        rw [List.filter_cons_of_neg (by simp [e])] at h2
        exact ih (fun n hn => h1 n (.tail _ hn)) h2
      · rw [if_neg e]
        rw [List.filter_cons_of_pos (by simp [e]), List.pairwise_cons] at h2
        rw [List.map_cons, List.nodup_cons]
        refine ⟨fun z => ?_, ih (fun n hn => h1 n (.tail _ hn)) h2.2⟩
        obtain ⟨⟨k, v⟩, hp, e2⟩ := List.mem_map.mp z
        obtain ⟨n, hn, rfl, rfl, hv⟩ := mem_nodR hp
        exact h2.1 n (List.mem_filter.mpr ⟨hn, by rw [Bool.not_eq_true', ← Bool.not_eq_true]; exact fun w => hv (isNone_iff.mp w)⟩) e2.symm
  refine go _ (fun n hn hv => ?_) ?_
  · obtain ⟨i, hi, rfl⟩ := nd_mem hn
    exact live_proper I hi hv
  · rw [← List.pairwise_map (f := fun n : Nd => n) (R := fun a b => tag ν a.key ≠ tag ν b.key), List.map_id']
    -- by the places
    have hp : (T.nds.map (·.2)).reverse.Pairwise (fun a b => a.value ≠ .none → b.value ≠ .none → tag ν a.key ≠ tag ν b.key) := by
      rw [List.pairwise_reverse]
      rw [List.pairwise_iff_getElem]
      intro i j hi hj hij ha hb
      have hi' : i < T.n := by unfold Tb.n; simpa using hi
      have hj' : j < T.n := by unfold Tb.n; simpa using hj
      have ei : (T.nds.map (·.2))[i] = T.nd i := by
        obtain ⟨a, h⟩ := T.nd_get hi'
        simp [(List.getElem?_eq_some_iff.mp h).2]
      have ej : (T.nds.map (·.2))[j] = T.nd j := by
        obtain ⟨a, h⟩ := T.nd_get hj'
        simp [(List.getElem?_eq_some_iff.mp h).2]
      rw [ei] at hb ⊢; rw [ej] at ha ⊢
      intro e
      have := I.uniq j i hj' hi' e (live_proper I hj' ha)
      lia -abstractProof
    rw [List.pairwise_filter]
    refine hp.imp fun h h1 h2 => h (fun z => ?_) (fun z => ?_)
    · rw [z] at h1; cases h1
    · rw [z] at h2; cases h2
theorem nodup_vanR {ν : Nu} : ∀ (xs : List V) (s : Nat), ((vanR s xs).map fun p => tag ν p.1).Nodup
  | [], _ => List.nodup_nil
  | x :: r, s => by
    unfold vanR
    split
    · exact nodup_vanR r (s + 1)
    · rw [List.map_cons, List.nodup_cons]
      refine ⟨fun z => ?_, nodup_vanR r (s + 1)⟩
      obtain ⟨⟨k, v⟩, hp, e⟩ := List.mem_map.mp z
      obtain ⟨i, rfl, _, _⟩ := mem_vanR hp
      have e := Tag.int.inj e
      lia -abstractProof
/-- the start of a resize -/
theorem JJ.start {ν T T0 a} (I : Inv ν T) (I0 : Inv ν T0) (pl : ∀ v ∈ T.arr, v.plain = true) (pn : ∀ i, i < T.n → (T.nd i).value.plain = true) (ha : T0.arr = T.arr.take a ++ List.replicate (a - T.arr.length) .none) (hn : ∀ i, i < T0.n → (T0.nd i).key = .none) : JJ ν T T0 (restL T a) := by
  have hal : T0.arr.length = a := by rw [ha, List.length_append, List.length_take, List.length_replicate]; lia -abstractProof
  have noK : ∀ t, proper t = true → ¬ HasKey ν T0 t := fun t ht ⟨i, h1, h2⟩ => by rw [hn i h1] at h2; rw [← h2] at ht; cases ht
  have nl0 : ∀ t, proper t = true → nlook ν T0 t = .none := fun t ht => nlook_none fun i h => noK t ht ⟨i, h⟩
  have get0 : ∀ x : Int, 1 ≤ x → x ≤ a → (T0.arr[(x - 1).toNat]?).getD .none = (T.arr[(x - 1).toNat]?).getD .none := fun x h1 h2 => by
    rw [ha]
    by_cases e : (x - 1).toNat < T.arr.length
    · rw [List.getElem?_append_left (by rw [List.length_take]; lia -abstractProof), List.getElem?_take_of_lt (by lia -abstractProof)]
    · rw [List.getElem?_append_right (by rw [List.length_take]; lia -abstractProof), List.getElem?_eq_none (l := T.arr) (by lia -abstractProof), List.getElem?_replicate]
      split <;> rfl
  have van : ∀ k v, (k, v) ∈ vanR (a + 1) (T.arr.drop a) → ∃ x : Nat, A5 (k = .int (x : Nat)) (a < x) (x ≤ T.arr.length) (T.arr[x - 1]? = some v) (v ≠ .none) := fun k v h => by
    obtain ⟨i, e1, e2, e3⟩ := mem_vanR h
    rw [List.getElem?_drop] at e2
    have := (List.getElem?_eq_some_iff.mp e2).1
    exact ⟨a + 1 + i, e1, by lia -abstractProof, by lia -abstractProof, by rw [show a + 1 + i - 1 = a + i by lia -abstractProof]; exact e2, e3⟩
  have nod : ∀ k v, (k, v) ∈ nodR (T.nds.map (·.2)).reverse → ∃ i, A4 (i < T.n) (k = (T.nd i).key) (v = (T.nd i).value) (v ≠ .none) := fun k v h => by
    obtain ⟨n, h1, h2, h3, h4⟩ := mem_nodR h
    obtain ⟨i, hi, rfl⟩ := nd_mem h1
    exact ⟨i, hi, h2, h3, h4⟩
  have was : ∀ p ∈ restL T a, look ν T (tag ν p.1) = p.2 := fun p hp => by
    obtain ⟨k, v⟩ := p
    rcases List.mem_append.mp hp with h | h
    · obtain ⟨x, rfl, h1, h2, h3, h4⟩ := van k v h
      show look ν T (.int x) = v
      rw [look_arr ⟨by lia -abstractProof, by lia -abstractProof⟩, predN, h3]; rfl
    · obtain ⟨i, hi, rfl, rfl, hv⟩ := nod k v h
      show look ν T (tag ν (T.nd i).key) = _
      rw [look_node (not_inArr I hi), nlook_at I (live_proper I hi hv) ⟨hi, rfl⟩]
  have okp : ∀ p ∈ restL T a, AnyV ν p.1 ∧ proper (tag ν p.1) = true ∧ p.2.plain = true ∧ p.2 ≠ .none := fun p hp => by
    obtain ⟨k, v⟩ := p
    rcases List.mem_append.mp hp with h | h
    · obtain ⟨x, rfl, h1, h2, h3, h4⟩ := van k v h
      exact ⟨.int _, rfl, pl _ (List.mem_of_getElem? h3), h4⟩
    · obtain ⟨i, hi, rfl, rfl, hv⟩ := nod k v h
      exact ⟨I.keys i hi, live_proper I hi hv, pn i hi, hv⟩
  refine ⟨I0, okp, ?_, fun p hp => noK _ (okp p hp).2.1, was, fun t ht hnt => ?_, fun t ht h => absurd h (noK t ht), fun p hp => ?_⟩
  · unfold restL
    rw [List.map_append, List.nodup_append]
    refine ⟨nodup_vanR _ _, tag_inj_nodR I, fun x hx y hy e => ?_⟩
    obtain ⟨⟨k, v⟩, h1, rfl⟩ := List.mem_map.mp hx
    obtain ⟨⟨k', v'⟩, h2, rfl⟩ := List.mem_map.mp hy
    obtain ⟨z, rfl, h3, h4, _⟩ := van k v h1
    obtain ⟨i, hi, rfl, _, _⟩ := nod k' v' h2
    have := not_inArr I hi
    rw [← e] at this
    have := of_decide_eq_false this
    lia -abstractProof
  · -- nothing of it is left out
    have lookT : ∀ i, IsAt ν T t i → (T.nd i).value = .none := fun i hi => by
      cases e : isNone (T.nd i).value with
      | true => exact isNone_iff.mp e
      | false =>
        exfalso
        have hv : (T.nd i).value ≠ .none := fun z => by rw [z] at e; cases e
        exact hnt (List.mem_map.mpr ⟨_, List.mem_append.mpr (.inr (nodR_mem (mem_nd hi.1) hv)), hi.2⟩)
    have nlT : nlook ν T t = .none := by
      by_cases e : ∃ i, IsAt ν T t i
      · obtain ⟨i, e⟩ := e; rw [nlook_at I ht e]; exact lookT i e
      · exact nlook_none fun i h => e ⟨i, h⟩
    have nl := nl0 t ht
    cases t with
    | int x =>
      by_cases e0 : 1 ≤ x ∧ x ≤ (a : Int)
      · rw [look_arr (by rw [hal]; exact e0), get0 x e0.1 e0.2]
        by_cases e1 : x ≤ T.arr.length
        · rw [look_arr ⟨e0.1, e1⟩]
        · rw [look_out (by lia -abstractProof), nlT, List.getElem?_eq_none (by lia -abstractProof)]; rfl
      · rw [look_out (by rw [hal]; exact e0), nl]
        by_cases e1 : 1 ≤ x ∧ x ≤ T.arr.length
        · rw [look_arr e1]
          obtain ⟨v, hv⟩ : ∃ v, T.arr[(x - 1).toNat]? = some v := ⟨_, List.getElem?_eq_getElem (by lia -abstractProof)⟩
          rw [hv]
          show V.none = v
          cases e : isNone v with
          | true => exact (isNone_iff.mp e).symm
          | false =>
            exfalso
            have hv0 : v ≠ .none := fun z => by rw [z] at e; cases e
            have := vanR_mem (s := a + 1) (xs := T.arr.drop a) (i := x.toNat - 1 - a) (v := v) (by rw [List.getElem?_drop, show a + (x.toNat - 1 - a) = (x - 1).toNat by lia -abstractProof]; exact hv) hv0
            refine hnt (List.mem_map.mpr ⟨_, List.mem_append.mpr (.inl this), ?_⟩)
            exact congrArg Tag.int (by lia -abstractProof)
        · rw [look_out e1, nlT]
    | _ => exact nl.trans nlT.symm
  · obtain ⟨k, v⟩ := p
    have nl := nl0 _ (okp (k, v) hp).2.1
    rcases List.mem_append.mp hp with h | h
    · obtain ⟨x, rfl, h1, h2, h3, h4⟩ := van k v h
      exact (look_out (by rw [hal]; lia -abstractProof)).trans nl
    · obtain ⟨i, hi, rfl, rfl, hv⟩ := nod k v h
      by_cases e : inArr T0 (tag ν (T.nd i).key) = true
      · have e1 := not_inArr I hi
        show look ν T0 (tag ν (T.nd i).key) = .none
        generalize tag ν (T.nd i).key = tt at e e1
        obtain ⟨x, e'⟩ := inA_of e
        clear e
        have e := e'
        have e1 := of_decide_eq_false e1
        rw [look_arr e, get0 x e.1 (by rw [hal] at e; exact e.2), List.getElem?_eq_none (by lia -abstractProof)]; rfl
      · rw [look_node (by simpa using e)]; exact nl
theorem TR.setA2 {σ t T a xs} (h : TR σ t T) (ha : σ a = some (.list xs)) (ne : a ≠ T.na) (hp : ∀ v ∈ xs, v.plain = true) (hz : xs.length ≤ 2 ^ 23) : TR (upd σ t (.inst cT { T with aa := a, arr := xs }.fs)) t { T with aa := a, arr := xs } := by
  have n1 : T.na ≠ t := fun z => by have := h.nl; rw [z, h.t] at this; cases this
  have n2 : a ≠ t := fun z => by rw [z, h.t] at ha; cases ha
  exact ⟨upd_same .., (upd_ne _ _ n2).trans ha, (upd_ne _ _ n1).trans h.nl, fun p hpp => (upd_ne _ _ fun z => by have := h.nd p hpp; rw [z, h.t] at this; exact absurd this (by simp [cT, cN])).trans (h.nd p hpp), h.nodup, ne, hp, h.pn, hz, h.sn⟩
theorem Knows.ext {σ ν t σ'} (K : Knows σ ν) (hν : ν t = none) (x : Ext1 σ t σ') : Knows σ' ν := ⟨fun a r e => by
  obtain ⟨h1, fs, h2, h3⟩ := K.at_ a r e
  exact ⟨h1, fs, x.keep _ _ h2 fun z => (by rw [z, hν] at e; cases e), h3⟩⟩
noncomputable def c_resize_1 : Cd := .ld 0 <| .fld "array" <| .ald <| .lit .none <| .call (.bi "list.append") 2 <| .pop <| .fin
noncomputable def c_resize_2 : Cd := .ld 0 <| .fld "array" <| .call (.bi "len") 1 <| .ld 1 <| .cmp .Lt <| .br (c_resize_1) (.brk)
noncomputable def c_resize_3 : Cd := .ld 0 <| .mld cT "put_back" <| .ld 1 <| .ld 6 <| .bin .Add <| .lit (.int (1)) <| .bin .Add <| .ld 7 <| .ld 3 <| .call (.ref 337) 4 <| .pop <| .fin
noncomputable def c_resize_4 : Cd := .unp false [6, 7] <| .ld 7 <| .isn false <| .br (c_resize_3) (.fin)
noncomputable def c_resize_5 : Cd := .ld 0 <| .mld cT "put_back" <| .ld 8 <| .fld "key" <| .ld 8 <| .fld "value" <| .ld 3 <| .call (.ref 337) 4 <| .pop <| .fin
noncomputable def c_resize_6 : Cd := .st 8 <| .ld 8 <| .fld "value" <| .isn false <| .br (c_resize_5) (.fin)
noncomputable def c_resize_7 : Cd := .ld 0 <| .mld cT "weigh" <| .ld 3 <| .call (.ref 356) 2 <| .pop <| .fin
noncomputable def c_resize_8 : Cd := .ld 4 <| .forl 2 1 (c_resize_6) (c_resize_7)
noncomputable def c_resize_9 : Cd := .ld 0 <| .mld cT "make_nodes" <| .ld 2 <| .call (.ref 342) 2 <| .pop <| .ld 5 <| .forl 3 1 (c_resize_4) (c_resize_8)
noncomputable def c_resize : Cd := .ld 0 <| .fld "nodes" <| .st 4 <| .ld 0 <| .fld "array" <| .ld 1 <| .slc true <| .st 5 <| .ld 0 <| .fld "array" <| .ld 1 <| .slc false <| .ld 0 <| .stf "array" <| .whl (c_resize_2) (c_resize_9)
section
variable {ν : Nu} {σ : MH} {E : En} {K : V → MH → Prop}
theorem Pv.okey (L : Law E.g) {a} {n : Nd} (hσ : σ a = some (.inst cN n.fs)) (hp : n.key.plain = true) (h : K n.key σ) : Pv E (gA "key") [.ref a] K σ :=
  Pv.fld hσ (L.fN (by kernel_rfl)) (show getF (Nd.fs n) "key" = some n.key by kernel_rfl) hp h
theorem Pv.oval (L : Law E.g) {a} {n : Nd} (hσ : σ a = some (.inst cN n.fs)) (hp : n.value.plain = true) (h : K n.value σ) : Pv E (gA "value") [.ref a] K σ :=
  Pv.fld hσ (L.fN (by kernel_rfl)) (show getF (Nd.fs n) "value" = some n.value by kernel_rfl) hp h
theorem resize_body {g : G} {d : Nat} (L : Law g) {t T} {a h : Nat} {J : Tb → List (V × V) → Prop} (hdd : 5 ≤ d) (K : Knows σ ν) (hν : ν t = none) (hT : TR σ t T) (ha : a ≤ 2 ^ 22) (hh : h ≤ 2 ^ 20)
    (hJ0 : ∀ T4, T4.arr = T.arr.take a ++ List.replicate (a - T.arr.length) .none → T4.n = places h → (∀ i, i < T4.n → T4.nd i = nd0) → T4.free = T4.n → J T4 (restL T a))
    (step : ∀ σc Tc k v rest, J Tc ((k, v) :: rest) → TR σc t Tc → Knows σc ν → Fn d 337 [.ref t, k, v, .none] (fun r σ' => r = .none ∧ ∃ Tc', A3 (TR σ' t Tc') (Mv σc t Tc σ' Tc') (J Tc' rest)) σc) :
    wp c_resize ⟨g, d, noX⟩ (retC fun r σ' => r = .none ∧ X3 fun T' T'' v => A4 (TR σ' t T') (Mv σ t T σ' T') (T' = { T'' with size := v }) (J T'' [])) [] [some (.ref t), some (.int a), some (.int h), some .none, none, none, none, none, none] σ := by
  have hal := hT.sa
  have hall : T.arr.length ≤ 2 ^ 24 := by lia
  have hd1 : Nat.ble 1 d = true := Nat.ble_eq.mpr (by lia)
  have hd4 : Nat.ble 4 d = true := Nat.ble_eq.mpr (by lia)
  have hdd : Nat.ble d d = true := Nat.ble_eq.mpr (Nat.le_refl d)
  refine Pv.nodes L hT (Pv.array L hT (Slc.mk T.aa T.arr a (.inl hT.arr) hall fun va hva => ?_))
  have hT1 := (hT.new (o := .list (T.arr.drop a)) hva).1
  have x1 := Ext1.new (t := t) (o := O.list (T.arr.drop a)) hva
  have v1 : upd σ va (.list (T.arr.drop a)) va = some (.list (T.arr.drop a)) := upd_same ..
  show wp (.st 5 <| .ld 0 <| .fld "array" <| .ld 1 <| .slc false <| .ld 0 <| .stf "array" <| .whl c_resize_2 c_resize_9) _ _ _ _ (upd σ va (.list (T.arr.drop a)))
  generalize upd σ va (.list (T.arr.drop a)) = σ1 at hT1 x1 v1
  refine Pv.array L hT1 (Slc.mk T.aa T.arr a (.inl hT1.arr) hall fun aa haa => ?_)
  have haa0 : σ aa = none := x1.none_of haa
  have nva : va ≠ aa := fun z => by rw [z, haa] at v1; cases v1
  have hT2 := (hT1.new (o := .list (T.arr.take a)) haa).1
  have x2 := x1.trans (Ext1.new (t := t) (o := O.list (T.arr.take a)) haa)
  have na : aa ≠ T.na := fun z => by have := hT1.nl; rw [← z, haa] at this; cases this
  have tr2 := hT2.setA2 (upd_same ..) na (fun v hv => hT.pa v (List.mem_of_mem_take hv)) (by rw [List.length_take]; lia)
  have v2 : upd σ1 aa (.list (T.arr.take a)) va = some (.list (T.arr.drop a)) := (upd_ne _ _ nva).trans v1
  refine Pu.fld hT2.t (L.fT (by kernel_rfl)) (show _ ≤ 900 from Nat.le_of_ble_eq_true rfl) ?_
  rw [show setF T.fs "array" (.ref aa) = Tb.fs { T with aa := aa, arr := T.arr.take a } by kernel_rfl]
  have nvt : va ≠ t := fun z => by rw [z, hT2.t] at v2; cases v2
  have x3 := x2.trans (Ext1.put (o := .inst cT (Tb.fs { T with aa := aa, arr := T.arr.take a })))
  have v3 : upd (upd σ1 aa (.list (T.arr.take a))) t (.inst cT (Tb.fs { T with aa := aa, arr := T.arr.take a })) va = some (.list (T.arr.drop a)) := (upd_ne _ _ nvt).trans v2
  show wp (.whl c_resize_2 c_resize_9) _ _ _ [some (.ref t), some (.int a), some (.int h), some .none, some (.ref T.na), some (.ref va), none, none, none] (upd (upd σ1 aa (.list (T.arr.take a))) t (.inst cT (Tb.fs { T with aa := aa, arr := T.arr.take a })))
  generalize upd (upd σ1 aa (.list (T.arr.take a))) t (.inst cT (Tb.fs { T with aa := aa, arr := T.arr.take a })) = σ3 at tr2 x3 v3
  refine Whl.mk (fun m ls σ4 => ls = [some (.ref t), some (.int a), some (.int h), some .none, some (.ref T.na), some (.ref va), none, none, none] ∧
      ∃ k, A5 (k ≤ a - T.arr.length) (m = a - T.arr.length - k) (TR σ4 t { T with aa := aa, arr := T.arr.take a ++ List.replicate k .none }) (Ext1 σ t σ4) (σ4 va = some (.list (T.arr.drop a)))) _
    ⟨rfl, 0, Nat.zero_le _, rfl, by rw [show T.arr.take a ++ List.replicate 0 V.none = T.arr.take a from List.append_nil _]; exact tr2, x3, v3⟩ ?_
  rintro m ls σ4 ⟨rfl, k, hka, rfl, tr4, x4, v4⟩
  have hlenA : (T.arr.take a ++ List.replicate k V.none).length = min a T.arr.length + k := by rw [List.length_append, List.length_take, List.length_replicate]
  refine Pv.array L tr4 (Pv.lenA tr4 (brk2.dec (fun (hp : ((T.arr.take a ++ List.replicate k V.none).length : Int) < a) => ?_) fun (hp : ¬ ((T.arr.take a ++ List.replicate k V.none).length : Int) < a) => ?_))
  · rw [hlenA] at hp
    refine Pv.array L tr4 (IsL.mk aa _ tr4.arr (Pv.app tr4.arr (by show (T.arr.take a ++ List.replicate k V.none).length ≤ _; rw [hlenA]; lia) ?_))
    have e : (T.arr.take a ++ List.replicate k V.none) ++ [V.none] = T.arr.take a ++ List.replicate (k + 1) V.none := by rw [List.append_assoc, ← List.replicate_succ']
    have tr5 := (tr4.setA ((T.arr.take a ++ List.replicate k V.none) ++ [V.none]) (fun v hv => by
      rcases List.mem_append.mp hv with hv | hv
      · exact tr4.pa v hv
      · rw [List.mem_singleton.mp hv]; rfl) (by rw [List.length_append, hlenA, List.length_singleton]; lia)).1
    rw [e] at tr5
    refine ⟨_, ?_, rfl, k + 1, by lia, rfl, by show TR (upd σ4 aa (.list ((T.arr.take a ++ List.replicate k V.none) ++ [V.none]))) _ _; rw [e]; exact tr5, ⟨fun b o hb hn => (upd_ne _ _ fun z => by rw [z, haa0] at hb; cases hb).trans (x4.keep b o hb hn), fun b o hb => ?_⟩, (upd_ne _ _ nva).trans v4⟩
    · lia
    · obtain ⟨o', h'⟩ := x4.dom b o hb
      exact ⟨o', (upd_ne _ _ fun z => by rw [z, haa0] at hb; cases hb).trans h'⟩
  · rw [hlenA] at hp
    have hk' : k = a - T.arr.length := by lia
    subst hk'
    clear hka
    refine Meth.tab tr4 rfl (Pv.fn L (make_nodes_ok tr4 hh) hd4 ?_)
    rintro _ σ5 ⟨rfl, T5, tr5, m5, mk, x5⟩
    have x5' := x4.trans x5
    have K5 := K.ext hν x5'
    have v5 : σ5 va = some (.list (T.arr.drop a)) := x5.keep _ _ v4 nvt
    have ft5 : ∀ b, foot t T5 b → b = t ∨ b = aa ∨ σ4 b = none := mk.ft
    have vaf : ¬ foot t T5 va := fun z => (ft5 va z).elim nvt fun z => z.elim nva fun z => by rw [v4] at z; cases z
    have oldf : ∀ b o, σ b = some o → b ≠ t → ¬ foot t T5 b := fun b o e n z => (ft5 b z).elim n fun z => z.elim (fun z => by rw [z, haa0] at e; cases e) fun z => by rw [x4.keep b o e n] at z; cases z
    have nat : T.na ≠ t := fun z => by have := hT.nl; rw [z, hT.t] at this; cases this
    have J5 := hJ0 T5 mk.arr mk.n mk.nd mk.free
    refine It.enum _ _ (.inl v5) (ForL.mk (fun i ls σ6 => X2 fun x y => ls = [some (.ref t), some (.int a), some (.int h), some .none, some (.ref T.na), some (.ref va), x, y, none] ∧ ∃ Tc, A3 (TR σ6 t Tc) (Mv σ5 t T5 σ6 Tc) (J Tc (vanR (a + 1 + i) ((T.arr.drop a).drop i) ++ nodR (T.nds.map (·.2)).reverse)))
      ⟨_, _, rfl, T5, tr5, Mv.refl .., J5⟩ (fun i ls σ6 h => by
        obtain ⟨_, _, h⟩ := h
        exact h.2.elim fun Tc h => .inl (h.h2.keep _ _ v5 vaf)) ?_ ?_)
    · rintro i x ls σ6 hx ⟨x6, x7, rfl, Tc, trc, mc, jc⟩
      rw [enumL_get] at hx
      obtain ⟨v, hv, rfl⟩ := Option.map_eq_some_iff.mp hx
      have lt := (List.getElem?_eq_some_iff.mp hv).1
      have hvp : v.plain = true := hT.pa v (List.mem_of_mem_drop (List.mem_of_getElem? hv))
      have ed : (T.arr.drop a).drop i = v :: (T.arr.drop a).drop (i + 1) := by rw [List.drop_eq_getElem_cons lt, (List.getElem?_eq_some_iff.mp hv).2]
      rw [ed] at jc
      unfold vanR at jc
      refine ⟨hvp, brk2.bool (fun e => ?_) fun e => ?_⟩
      · have e : isNone v = false := nt e
        rw [if_neg (by rw [e]; exact Bool.false_ne_true)] at jc
        have e2 : (a : Int) + (i : Nat) + 1 = ((a + 1 + i : Nat) : Int) := by lia
        refine Meth.tab trc rfl ?_
        show Pv _ tcall [.ref 337, .ref t, .int ((a : Int) + (i : Nat) + 1), v, .none] _ _
        rw [e2]
        refine Pv.fn L (step σ6 Tc _ v _ jc trc (K5.mv tr5 mc hν)) hdd ?_
        rintro _ σ7 ⟨rfl, Tc', trc', mc', jc'⟩
        exact ⟨_, _, rfl, Tc', trc', mc.trans mc', jc'⟩
      · have e : isNone v = true := nf e
        rw [if_pos e] at jc
        exact ⟨_, _, rfl, Tc, trc, mc, jc⟩
    · rintro ls σ6 ⟨x6, x7, rfl, Tc, trc, mc, jc⟩
      have e0 : (T.arr.drop a).drop (enumL (T.arr.drop a)).length = [] := by unfold enumL; simp; lia
      rw [e0] at jc
      have jc : J Tc (nodR (T.nds.map (·.2)).reverse) := jc
      have nl6 : σ6 T.na = some (.list (T.nds.map fun p => V.ref p.1)) := mc.keep _ _ (x5'.keep _ _ hT.nl nat) (oldf _ _ hT.nl nat)
      refine It.rev _ _ (.inl nl6) (ForL.mk (fun i ls σ7 => X3 fun x y z => ls = [some (.ref t), some (.int a), some (.int h), some .none, some (.ref T.na), some (.ref va), x, y, z] ∧ ∃ Tc, A3 (TR σ7 t Tc) (Mv σ5 t T5 σ7 Tc) (J Tc (nodR ((T.nds.map (fun p : Addr × Nd => p.2)).reverse.drop i))))
        ⟨_, _, _, rfl, Tc, trc, mc, by rw [List.drop_zero]; exact jc⟩ (fun i ls σ7 h => by
          obtain ⟨_, _, _, h⟩ := h
          exact h.2.elim fun Tc h => .inl (h.h2.keep _ _ (x5'.keep _ _ hT.nl nat) (oldf _ _ hT.nl nat))) ?_ ?_)
      · rintro i x ls σ7 hx ⟨x6, x7, x8, rfl, Tc, trc, mc, jc⟩
        have lt : i < T.nds.length := by have := (List.getElem?_eq_some_iff.mp hx).1; rwa [List.length_reverse, List.length_map] at this
        rw [← List.map_reverse, List.getElem?_map] at hx
        obtain ⟨⟨ad, nd⟩, hp2, e⟩ := Option.map_eq_some_iff.mp hx
        subst e
        have hmem : (ad, nd) ∈ T.nds := List.mem_reverse.mp (List.mem_of_getElem? hp2)
        have nat2 : ad ≠ t := fun z => by have := hT.nd _ hmem; rw [show (ad, nd).1 = t from z, hT.t] at this; exact absurd this (by simp [cT, cN])
        have ho : σ7 ad = some (.inst cN nd.fs) := mc.keep _ _ (x5'.keep _ _ (hT.nd _ hmem) nat2) (oldf _ _ (hT.nd _ hmem) nat2)
        have pl := hT.pn _ hmem
        have ed : (T.nds.map (·.2)).reverse.drop i = nd :: (T.nds.map (·.2)).reverse.drop (i + 1) := by
          have l2 : i < (T.nds.map (·.2)).reverse.length := by rw [List.length_reverse, List.length_map]; exact lt
          rw [List.drop_eq_getElem_cons l2]
          congr 1
          have : (T.nds.map (·.2)).reverse[i]? = some nd := by rw [← List.map_reverse, List.getElem?_map, hp2]; rfl
          exact (List.getElem?_eq_some_iff.mp this).2
        rw [ed] at jc
        unfold nodR at jc
        refine Pv.oval L ho pl.2 ⟨pl.2, brk2.bool (fun e => ?_) fun e => ?_⟩
        · have e : isNone nd.value = false := nt e
          rw [if_neg (by rw [e]; exact Bool.false_ne_true)] at jc
          refine Meth.tab trc rfl (Pv.okey L ho pl.1 (Pv.oval L ho pl.2 (Pv.fn L (step σ7 Tc _ _ _ jc trc (K5.mv tr5 mc hν)) hdd ?_)))
          rintro _ σ8 ⟨rfl, Tc', trc', mc', jc'⟩
          exact ⟨_, _, _, rfl, Tc', trc', mc.trans mc', jc'⟩
        · have e : isNone nd.value = true := nf e
          rw [if_pos e] at jc
          exact ⟨_, _, _, rfl, Tc, trc, mc, jc⟩
      · rintro ls σ7 ⟨x6, x7, x8, rfl, Tc, trc, mc, jc⟩
        have e0 : (T.nds.map (·.2)).reverse.drop ((T.nds.map fun p => V.ref p.1).reverse).length = [] := List.drop_of_length_le (by rw [List.length_reverse, List.length_reverse, List.length_map, List.length_map]; exact Nat.le_refl _)
        rw [e0] at jc
        have jc : J Tc [] := jc
        refine Meth.tab trc rfl (Pv.fn L (weigh_ok trc) hd1 ?_)
        rintro _ σ8 ⟨rfl, v, tr8, m8⟩
        have m58 := mc.trans m8
        refine ⟨rfl, _, Tc, v, tr8, ⟨fun b o e n => m58.keep _ _ (x5'.keep b o e fun z => n (.inl z)) (oldf b o e fun z => n (.inl z)), fun b hb => ?_, fun b o e => ?_, m58.num.trans m5.num⟩, rfl, jc⟩
        · rcases m58.ft b hb with z | z
          · rcases ft5 b z with z | z | z
            · exact .inl (.inl z)
            · exact .inr (z ▸ haa0)
            · exact .inr (x4.none_of z)
          · exact .inr (x5'.none_of z)
        · obtain ⟨o', h'⟩ := x5'.dom b o e
          exact m58.dom b o' h'
end
/-! more counting (plain) -/
theorem cnt_add {n : Nat} {p q : Nat → Bool} (h : ∀ i, i < n → ¬ (p i = true ∧ q i = true)) : cnt n p + cnt n q = cnt n (fun i => p i || q i) := by
  induction n with
  | zero => rfl
  | succ n ih =>
    rw [cnt_succ, cnt_succ, cnt_succ, ← ih fun i hi => h i (by lia -abstractProof)]
    have := h n (by lia -abstractProof)
    cases hp : p n <;> cases hq : q n <;> simp_all <;> lia -abstractProof
theorem cnt_shift (a m : Nat) (p : Nat → Bool) : cnt (a + m) p = cnt a p + cnt m (fun i => p (a + i)) := by
  induction m with
  | zero => rfl
  | succ m ih => rw [← Nat.add_assoc, cnt_succ, ih, cnt_succ]; lia -abstractProof
theorem cnt_list {α : Type} (d : α) (p : α → Bool) : ∀ xs : List α, xs.countP p = cnt xs.length (fun i => p (xs.getD i d))
  | [] => rfl
  | x :: r => by
    have h := cnt_shift 1 r.length (fun i => p ((x :: r).getD i d))
    rw [List.length_cons, Nat.add_comm r.length 1, h, List.countP_cons, cnt_list d p r]
    have e : (fun i => p ((x :: r).getD (1 + i) d)) = fun i => p (r.getD i d) := by
      funext i; rw [Nat.add_comm 1 i]; rfl
    rw [e, cnt_succ]
    show _ + (if p x = true then 1 else 0) = cnt 0 _ + (if p x = true then 1 else 0) + _
    rw [cnt_zero]; lia -abstractProof
theorem Sm_add (F G : Nat → Nat) (k : Nat) : Sm (fun j => F j + G j) k = Sm F k + Sm G k := by
  induction k with
  | zero => rfl
  | succ k ih => show Sm (fun j => F j + G j) k + (F k + G k) = (Sm F k + F k) + (Sm G k + G k); rw [ih]; lia -abstractProof
theorem Sm_one (b : Option Nat) (k : Nat) : Sm (fun j => if b = some j then 1 else 0) k = if b.any (fun j => decide (j < k)) = true then 1 else 0 := by
  induction k with
  | zero => cases b <;> simp [Sm]
  | succ k ih =>
    show Sm _ k + _ = _
    rw [ih]
    cases b with
    | none => simp
    | some j =>
      simp only [Option.any_some, decide_eq_true_eq, Option.some.injEq]
      by_cases h1 : j < k
      · rw [if_pos h1, if_neg (by lia -abstractProof), if_pos (by lia -abstractProof)]
      · by_cases h2 : j = k
        · rw [if_neg h1, if_pos h2, if_pos (by lia -abstractProof)]
        · rw [if_neg h1, if_neg h2, if_neg (by lia -abstractProof)]
theorem Sm_cnt (n : Nat) (L : Nat → Bool) (b : Nat → Option Nat) (k : Nat) : Sm (fun j => cnt n (fun i => L i && (b i == some j))) k = cnt n (fun i => L i && (b i).any (fun j => decide (j < k))) := by
  induction n with
  | zero =>
    have : ∀ k, Sm (fun _ => 0) k = 0 := fun k => by
      induction k with
      | zero => rfl
      | succ k ih => show Sm _ k + 0 = 0; rw [ih]
    exact this k
  | succ n ih =>
    have e : (fun j => cnt (n + 1) (fun i => L i && (b i == some j))) = fun j => cnt n (fun i => L i && (b i == some j)) + (if L n = true then (if b n = some j then 1 else 0) else 0) := by
      funext j
      rw [cnt_succ]
      cases L n <;> simp
    rw [e, Sm_add, ih, cnt_succ]
    cases h : L n with
    | false =>
      have : ∀ k, Sm (fun _ => 0) k = 0 := fun k => by
        induction k with
        | zero => rfl
        | succ k ih => show Sm _ k + 0 = 0; rw [ih]
      show _ + Sm (fun _ => 0) k = _
      rw [this]; rfl
    | true =>
      simp only [if_true, Bool.true_and]
      rw [Sm_one]
noncomputable def inR (a : Nat) : Tag → Bool
  | .int x => decide (1 ≤ x ∧ x ≤ (a : Int))
  | _ => false
theorem inR_0 (t : Tag) : inR 0 t = false := by
  cases t with
  | int x => exact decide_eq_false fun h => by have := h.2; have := h.1; lia -abstractProof
  | _ => rfl
theorem inArr_eq (T : Tb) (t : Tag) : inArr T t = inR T.arr.length t := by cases t <;> rfl
theorem clg_le {x s : Nat} (h1 : 1 ≤ x) : clg (x : Nat) ≤ s ↔ x ≤ 2 ^ s := by
  unfold clg lg
  by_cases e : x = 1
  · subst e
    have : 0 < 2 ^ s := Nat.pow_pos (by decide)
    simp; lia -abstractProof
  · rw [if_pos (by lia -abstractProof), show ((x : Int) - 1).toNat = x - 1 by lia -abstractProof]
    have := Nat.log2_lt (n := x - 1) (k := s) (by lia -abstractProof)
    lia -abstractProof
theorem bk_inR {s : Nat} (hs : s ≤ 26) (t : Tag) : (bkOf t).any (fun j => decide (j < s + 1)) = inR (2 ^ s) t := by
  cases t <;> first | rfl | skip
  rename_i x
  rw [bkOf_int]
  have p26 : 2 ^ s ≤ 2 ^ 26 := Nat.pow_le_pow_right (by decide) hs
  by_cases h : 1 ≤ x ∧ x ≤ 2 ^ 26
  · rw [if_pos h]
    obtain ⟨n, rfl⟩ := Int.eq_ofNat_of_zero_le (show 0 ≤ x by lia -abstractProof)
    have c := clg_le (x := n) (s := s) (by lia -abstractProof)
    have r := clg_big h.1 h.2
    simp only [Option.any_some, inR]
    rw [Bool.eq_iff_iff]
    simp only [decide_eq_true_eq]
    lia -abstractProof
  · rw [if_neg h]
    simp only [Option.any_none, inR]
    symm
    rw [decide_eq_false_iff_not]
    intro z
    apply h
    refine ⟨z.1, ?_⟩
    have : ((2 ^ s : Nat) : Int) ≤ ((2 ^ 26 : Nat) : Int) := by exact_mod_cast p26
    have e : ((2 ^ 26 : Nat) : Int) = 2 ^ 26 := by decide
    lia -abstractProof
theorem bk_some27 (t : Tag) : (bkOf t).any (fun j => decide (j < 27)) = (bkOf t).isSome := by
  cases h : bkOf t with
  | none => rfl
  | some j => simpa using bk_lt h
theorem vanR_len : ∀ (xs : List V) (s : Nat), (vanR s xs).length = xs.countP (fun v => !isNone v)
  | [], _ => rfl
  | x :: r, s => by
    unfold vanR
    rw [List.countP_cons]
    split
    · rename_i e; rw [vanR_len r]; simp [e]
    · rename_i e; rw [List.length_cons, vanR_len r]; simp [e]
theorem nodR_count (q : V → Bool) : ∀ xs : List Nd, (nodR xs).countP (fun p => q p.1) = xs.countP (fun n => !isNone n.value && q n.key)
  | [] => rfl
  | x :: r => by
    unfold nodR
    rw [List.countP_cons]
    split
    · rename_i e; rw [nodR_count q r]; simp [e]
    · rename_i e; rw [List.countP_cons, nodR_count q r]; simp [e]
theorem cnt_nds (T : Tb) (p : Nd → Bool) : ((T.nds.map (·.2)).reverse).countP p = cnt T.n (fun i => p (T.nd i)) := by
  rw [List.countP_reverse, cnt_list ⟨.none, .none, -1⟩]
  unfold Tb.n
  rw [List.length_map]
  refine cnt_congr fun i hi => ?_
  unfold Tb.nd
  rw [List.getD_eq_getElem?_getD, List.getElem?_map]
theorem van_out (ν : Nu) (T : Tb) (a : Nat) : (vanR (a + 1) (T.arr.drop a)).countP (fun p => !inR a (tag ν p.1)) = (T.arr.drop a).countP (fun v => !isNone v) := by
  rw [← vanR_len (T.arr.drop a) (a + 1), List.countP_eq_length]
  intro p hp
  obtain ⟨k, v⟩ := p
  obtain ⟨i, rfl, _, _⟩ := mem_vanR hp
  exact congrArg (!·) (decide_eq_false fun h => by have := h.2; lia -abstractProof)
theorem nd_out (ν : Nu) (T : Tb) (a : Nat) : cnt T.n (fun i => !isNone (T.nd i).value && !inR a (tag ν (T.nd i).key)) + cnt T.n (fun i => ndL T i && inR a (tag ν (T.nd i).key)) = cnt T.n (ndL T) := by
  rw [cnt_add fun i _ h => by cases hx : inR a (tag ν (T.nd i).key) <;> simp [hx] at h]
  refine cnt_congr fun i _ => ?_
  unfold ndL
  cases isNone (T.nd i).value <;> cases inR a (tag ν (T.nd i).key) <;> rfl
theorem arr_out (T : Tb) (a : Nat) : (T.arr.drop a).countP (fun v => !isNone v) + cnt T.arr.length (fun i => arrL T i && decide (i < a)) = cnt T.arr.length (arrL T) := by
  by_cases h : a ≤ T.arr.length
  · obtain ⟨m, hm⟩ : ∃ m, T.arr.length = a + m := ⟨T.arr.length - a, by lia -abstractProof⟩
    rw [cnt_list .none, List.length_drop, hm, cnt_shift a m, cnt_shift a m]
    have c1 : cnt a (fun i => arrL T i && decide (i < a)) = cnt a (arrL T) := cnt_congr fun i hi => by rw [decide_eq_true hi, Bool.and_true]
    have c2 : cnt m (fun i => arrL T (a + i) && decide (a + i < a)) = 0 := by
      exact cnt_z fun i _ => by rw [decide_eq_false (fun h => Nat.not_lt.mpr (Nat.le_add_right a i) h), Bool.and_false]
    have c3 : cnt (a + m - a) (fun i => !isNone ((T.arr.drop a).getD i .none)) = cnt m (fun i => arrL T (a + i)) := by
      rw [show a + m - a = m by lia -abstractProof]
      refine cnt_congr fun i hi => ?_
      unfold arrL
      rw [List.getD_eq_getElem?_getD, List.getD_eq_getElem?_getD, List.getElem?_drop]
    lia -abstractProof
  · rw [List.drop_eq_nil_of_le (by lia -abstractProof)]
    have := cnt_congr (n := T.arr.length) (p := fun i => arrL T i && decide (i < a)) (q := arrL T) fun i hi => by rw [decide_eq_true (Nat.lt_trans hi (Nat.not_le.mp h)), Bool.and_true]
    rw [this]; exact Nat.zero_add _
/-- of what is put back, so much goes to the nodes -/
theorem restL_out (ν : Nu) (T : Tb) (a : Nat) : (restL T a).countP (fun p => !inR a (tag ν p.1)) + (cnt T.arr.length (fun i => arrL T i && decide (i < a)) + cnt T.n (fun i => ndL T i && inR a (tag ν (T.nd i).key))) = lives T := by
  unfold restL lives
  rw [List.countP_append, nodR_count (fun k => !inR a (tag ν k)), cnt_nds]
  have e1 := van_out ν T a
  have e2 := arr_out T a
  have e3 := nd_out ν T a
  lia -abstractProof
theorem restL_len (T : Tb) (a : Nat) : (restL T a).length + cnt T.arr.length (fun i => arrL T i && decide (i < a)) = lives T := by
  unfold restL lives
  rw [List.length_append, vanR_len]
  have h1 := nodR_count (fun _ => true) (T.nds.map (·.2)).reverse
  have h2 : (nodR (T.nds.map (·.2)).reverse).length = cnt T.n (ndL T) := by
    rw [← List.countP_true, h1, cnt_nds]
    refine cnt_congr fun i _ => ?_
    unfold ndL; rw [Bool.and_true]
  rw [h2]
  have e2 := arr_out T a
  lia -abstractProof
theorem ins_arr {ν T x v} (I : Inv ν T) (h : 1 ≤ x ∧ x ≤ (T.arr.length : Int)) : Ins ν T { T with arr := T.arr.set (x - 1).toNat v } (.int x) v := by
  have el : (T.arr.set (x - 1).toNat v).length = T.arr.length := List.length_set ..
  have lk : ∀ t, nlook ν { T with arr := T.arr.set (x - 1).toNat v } t = nlook ν T t := fun _ => rfl
  refine ⟨⟨I.sz, by show (T.arr.set _ _).length ≤ _; rw [el]; exact I.sa, I.fr, I.keys, I.vals, I.gr, I.full, I.uniq, fun i y hi e => ?_⟩, fun t ht => ?_, fun t ht h => .inl h, ?_⟩
  · show ¬ (1 ≤ y ∧ y ≤ ((T.arr.set (x - 1).toNat v).length : Int)); rw [el]; exact I.out i y hi e
  · by_cases e : t = .int x
    · subst e
      rw [if_pos rfl, look_arr (by show 1 ≤ x ∧ x ≤ ((T.arr.set (x - 1).toNat v).length : Int); rw [el]; exact h)]
      show ((T.arr.set (x - 1).toNat v)[(x - 1).toNat]?).getD .none = v
      rw [List.getElem?_set_self (by omega)]; rfl
    · rw [if_neg e]
      by_cases hi : inArr T t = true
      · obtain ⟨y, hi'⟩ := inA_of hi
        clear hi
        have hi := hi'
        rw [look_arr hi, look_arr (by show 1 ≤ y ∧ y ≤ ((T.arr.set (x - 1).toNat v).length : Int); rw [el]; exact hi)]
        show ((T.arr.set (x - 1).toNat v)[(y - 1).toNat]?).getD .none = _
        rw [List.getElem?_set_ne]
        intro z; exact e (by rw [show y = x by omega])
      · have hi : inArr T t = false := by simpa using hi
        rw [look_node hi, look_node (by rw [inArr_eq] at hi ⊢; show inR (T.arr.set (x - 1).toNat v).length t = _; rw [el]; exact hi)]
        rfl
  · unfold lives
    show cnt (T.arr.set (x - 1).toNat v).length _ + cnt T.n _ ≤ _
    rw [el]
    have := cnt_ins (n := T.arr.length) (p := arrL { T with arr := T.arr.set (x - 1).toNat v }) (q := arrL T) (x - 1).toNat fun i hi h => by
      by_cases z : i = (x - 1).toNat
      · exact .inr z
      · left
        unfold arrL at *
        have : (T.arr.set (x - 1).toNat v).getD i .none = T.arr.getD i .none := by
          rw [List.getD_eq_getElem?_getD, List.getD_eq_getElem?_getD, List.getElem?_set_ne (Ne.symm z)]
        rw [← this]; exact h
    have e2 : ndL { T with arr := T.arr.set (x - 1).toNat v } = ndL T := rfl
    rw [e2]; omega
noncomputable def c_put_back_1 : Cd := .ld 2 <| .ld 0 <| .fld "array" <| .ld 4 <| .lit (.int (1)) <| .bin .Sub <| .stx <| .fin
noncomputable def c_put_back_2 : Cd := .ld 0 <| .mld cT "new_key" <| .ld 1 <| .ld 2 <| .ld 3 <| .call (.ref 294) 4 <| .pop <| .fin
noncomputable def c_put_back_3 : Cd := .ld 0 <| .fld "array" <| .call (.bi "len") 1 <| .cmp .LtE <| .br (c_put_back_1) (c_put_back_2)
noncomputable def c_put_back : Cd := .ld 1 <| .call (.ref 188) 1 <| .st 4 <| .lit (.int (1)) <| .ld 4 <| .chn .LtE (c_put_back_3) (c_put_back_2)
section
variable {ν : Nu} {σ : MH}
theorem aidx_arr {T : Tb} {k : V} : inArr T (tag ν k) = decide (1 ≤ aidx k ∧ aidx k ≤ (T.arr.length : Int)) := by
  have no : decide ((1 : Int) ≤ -1 ∧ (-1 : Int) ≤ (T.arr.length : Int)) = false := decide_eq_false fun h => absurd h.1 (by decide)
  cases k with
  | int => rfl
  | ref a =>
    refine Eq.trans ?_ no.symm
    cases e : ν a with
    | none => show inArr T (match ν a with | some r => .ref r.kind r.num | none => .bad) = _; rw [e]; rfl
    | some r => rw [tag_ref e]; rfl
  | _ => exact no.symm
theorem tag_aidx {T : Tb} {k : V} (h : inArr T (tag ν k) = true) : tag ν k = .int (aidx k) := by
  cases k with
  | int => rfl
  | ref a => rw [aidx_arr] at h; exact absurd (of_decide_eq_true h).1 (show ¬ (1 : Int) ≤ -1 by decide)
  | _ => cases h
theorem put_back_wp {g : G} {d : Nat} (L : Law g) {t T k v} {Post : MH → Prop} (hdd : 3 ≤ d) (K : Knows σ ν) (hT : TR σ t T) (I : Inv ν T) (hk : AnyV ν k) (hv : v.plain = true)
    (hn : inArr T (tag ν k) = false → Fn d 294 [.ref t, k, v, .none] (fun r σ' => r = .none ∧ Post σ') σ)
    (ha : inArr T (tag ν k) = true → ∀ σ' T', TR σ' t T' → Mv σ t T σ' T' → Ins ν T T' (tag ν k) v → T'.arr.length = T.arr.length → T'.n = T.n → kc T' = kc T → Post σ') :
    wp c_put_back ⟨g, d, noX⟩ (retC fun r σ' => r = .none ∧ Post σ') [] [some (.ref t), some k, some v, some .none, none] σ := by
  have ai := aidx_arr (ν := ν) (T := T) (k := k)
  have hdd' : Nat.ble d d = true := Nat.ble_eq.mpr (Nat.le_refl d)
  have no : ¬ (1 ≤ aidx k ∧ aidx k ≤ (T.arr.length : Int)) → wp c_put_back_2 ⟨g, d, noX⟩ (retC fun r σ' => r = .none ∧ Post σ') [] [some (.ref t), some k, some v, some .none, some (.int (aidx k))] σ := fun h =>
    Meth.tab hT rfl (Pv.fn L (hn (by rw [ai, decide_eq_false h])) hdd' fun v σ' e => ⟨rfl, e.2⟩)
  refine Pv.fn1 L (array_index_ok K hk) (Nat.ble_eq.mpr (Nat.le_trans (Nat.le_of_ble_eq_true rfl) hdd)) (brk2.dec (fun hp => Pv.array L hT (Pv.lenA hT (brk2.dec (fun hq => ?_) fun hq => no fun z => hq z.2))) fun hp => no fun z => hp z.1)
  refine Pv.array L hT (Pu.arr hT (by lia -abstractProof) (by lia -abstractProof) hv fun σ1 hT1 m1 => ⟨rfl, ?_⟩)
  have e : inArr T (tag ν k) = true := by rw [ai, decide_eq_true ⟨hp, hq⟩]
  refine ha e _ _ hT1 m1 ?_ (List.length_set ..) rfl rfl
  rw [tag_aidx e]
  exact ins_arr I ⟨hp, hq⟩
theorem put_back_gen {d : Nat} {t T k v} {Post : MH → Prop} (hdd : 3 ≤ d) (K : Knows σ ν) (hT : TR σ t T) (I : Inv ν T) (hk : AnyV ν k) (hv : v.plain = true)
    (hn : inArr T (tag ν k) = false → Fn d 294 [.ref t, k, v, .none] (fun r σ' => r = .none ∧ Post σ') σ)
    (ha : inArr T (tag ν k) = true → ∀ σ' T', TR σ' t T' → Mv σ t T σ' T' → Ins ν T T' (tag ν k) v → T'.arr.length = T.arr.length → T'.n = T.n → kc T' = kc T → Post σ') :
    Fn (d + 1) 337 [.ref t, k, v, .none] (fun r σ' => r = .none ∧ Post σ') σ ∧ Fn (d + 1) 301 [.ref t, k, v, .none] (fun r σ' => r = .none ∧ Post σ') σ :=
  ⟨Fn.go (ps := ["self", "key", "value", "heap"]) (rest := ["at"]) (code := c_put_back) (fun _ => by kernel_rfl) (fun _ => by kernel_rfl) (fun _ => args4 fun _ _ _ _ => by kernel_rfl) (fun _ => by kernel_rfl) rfl fun g L => put_back_wp L hdd K hT I hk hv hn ha,
    Fn.go (ps := ["self", "key", "value", "heap"]) (rest := ["at"]) (code := c_put_back) (fun _ => by kernel_rfl) (fun _ => by kernel_rfl) (fun _ => args4 fun _ _ _ _ => by kernel_rfl) (fun _ => by kernel_rfl) rfl fun g L => put_back_wp L hdd K hT I hk hv hn ha⟩
/-- where there is room -/
structure PutR (ν : Nu) (σ : MH) (t : Addr) (T : Tb) (k v : V) (σ' : MH) (T' : Tb) : Prop where
  tr : TR σ' t T'
  mv : Mv σ t T σ' T'
  ins : Ins ν T T' (tag ν k) v
  arr : T'.arr.length = T.arr.length
  n : T'.n = T.n
  kc : kc T' ≤ kc T + if inArr T (tag ν k) = true then 0 else 1
theorem put_room {t T k v} (K : Knows σ ν) (hν : ν t = none) (hT : TR σ t T) (I : Inv ν T) (hk : AnyV ν k) (hp : proper (tag ν k) = true) (hv : v.plain = true)
    (hno : inArr T (tag ν k) = false → ¬ HasKey ν T (tag ν k)) (hr : inArr T (tag ν k) = false → kc T < T.n) :
    Fn 6 337 [.ref t, k, v, .none] (fun r σ' => r = .none ∧ ∃ T', PutR ν σ t T k v σ' T') σ ∧ Fn 6 301 [.ref t, k, v, .none] (fun r σ' => r = .none ∧ ∃ T', PutR ν σ t T k v σ' T') σ := by
  refine put_back_gen (by decide) K hT I hk hv (fun hi => ?_) fun hi σ' T' h1 h2 h3 h4 h5 h6 => ⟨T', h1, h2, h3, h4, h5, by rw [h6]; lia -abstractProof⟩
  refine new_key_ok (d := 4) (by decide) K hν hT I hk hp hi (fun i h => hno hi ⟨i, h⟩) hv (fun e => absurd (hr hi) (by lia -abstractProof)) fun σ' T' h1 h2 h3 h4 h5 h6 => ⟨T', h1, h2, h3, by rw [h4], h5, by rw [hi]; simpa using h6⟩
end
theorem inv_fresh {ν T} (h1 : T.arr.length ≤ 2 ^ 22) (h2 : T.n = 0 ∨ ∃ k, k ≤ 20 ∧ T.n = 2 ^ k) (h3 : T.free = T.n) (h4 : ∀ i, i < T.n → T.nd i = nd0) : Inv ν T := by
  refine ⟨h2, h1, by lia -abstractProof, fun i hi => by rw [h4 i hi]; exact .none, fun i hi _ => by rw [h4 i hi]; rfl, ⟨fun i hi => ?_, fun i hi _ => ?_, fun i j hi hj _ p => ?_, ⟨fun _ => 0, fun i j hi hj e => ?_⟩, fun i hi h => absurd (by rw [h4 i hi]; rfl) h⟩,
    fun i hi h => by lia -abstractProof, fun i j hi _ _ h => (by rw [h4 i hi] at h; cases h), fun i x hi e => (by rw [h4 i hi] at e; cases e)⟩
  · rw [h4 i hi]; show (-1 : Int) ≤ -1 ∧ (-1 : Int) < _; lia -abstractProof
  · refine ⟨by rw [h4 i hi]; rfl, fun j hj => ?_⟩
    rw [h4 j hj]; show (-1 : Int) ≠ _; lia -abstractProof
  · rw [h4 i hi] at p; exact absurd p (by decide)
  · rw [h4 i hi] at e
    have e : (-1 : Int) = j := e
    lia -abstractProof
theorem cnt_drop (T : Tb) (a : Nat) : (T.arr.drop a).countP (fun v => !isNone v) + cnt T.arr.length (fun i => arrL T i && decide (i < a)) = cnt T.arr.length (arrL T) := by
  have := restL_len { T with nds := [] } a
  unfold restL lives at this
  rw [List.length_append, vanR_len] at this
  have e : (nodR (({ T with nds := [] } : Tb).nds.map (·.2)).reverse).length = 0 := rfl
  rw [e] at this
  have e2 : cnt ({ T with nds := [] } : Tb).n (ndL { T with nds := [] }) = 0 := rfl
  rw [e2] at this
  exact this
theorem kc_zero {T : Tb} (h : ∀ i, i < T.n → T.nd i = nd0) : kc T = 0 := by
  unfold kc
  exact cnt_z fun i hi => by rw [h i hi]; rfl
theorem lives_start {T T4 : Tb} {a : Nat} (ha : T4.arr = T.arr.take a ++ List.replicate (a - T.arr.length) .none) (h : ∀ i, i < T4.n → T4.nd i = nd0) : lives T4 = cnt T.arr.length (fun i => arrL T i && decide (i < a)) := by
  have e1 : cnt T4.n (ndL T4) = 0 := cnt_z fun i hi => by unfold ndL; rw [h i hi]; rfl
  have e2 : cnt T4.arr.length (arrL T4) = T4.arr.countP (fun v => !isNone v) := (cnt_list V.none (fun v => !isNone v) T4.arr).symm
  have e3 : cnt T.arr.length (arrL T) = T.arr.countP (fun v => !isNone v) := (cnt_list V.none (fun v => !isNone v) T.arr).symm
  have e4 : T.arr.countP (fun v => !isNone v) = (T.arr.take a).countP (fun v => !isNone v) + (T.arr.drop a).countP (fun v => !isNone v) := by
    rw [← List.countP_append, List.take_append_drop]
  have e5 : T4.arr.countP (fun v => !isNone v) = (T.arr.take a).countP (fun v => !isNone v) := by
    rw [ha, List.countP_append, List.countP_replicate]; simp [isNone]
  have := cnt_drop T a
  unfold lives
  lia -abstractProof
structure RsR (ν : Nu) (T T' : Tb) : Prop where
  inv : Inv ν T'
  look : ∀ t, proper t = true → Mn.look ν T' t = Mn.look ν T t
  live : ∀ t, proper t = true → HasKey ν T' t → Mn.look ν T t ≠ .none
  lives : Mn.lives T' ≤ Mn.lives T
theorem Inv.size {ν T v} (I : Inv ν T) : Inv ν { T with size := v } := ⟨I.sz, I.sa, I.fr, I.keys, I.vals, I.gr, I.full, I.uniq, I.out⟩
theorem JJ.done {ν T T' v} (J : JJ ν T T' []) (h : Mn.lives T' ≤ Mn.lives T) : RsR ν T { T' with size := v } := ⟨J.inv.size, fun t ht => J.same t ht (by simp), fun t ht h => J.live t ht h, h⟩
theorem Mv.of_keep {σ t T σ'} (h : ∀ b o, σ b = some o → σ' b = some o) : Mv σ t T σ' T := ⟨fun b o e _ => h b o e, fun _ h => .inl h, fun b o e => ⟨o, h b o e⟩, rfl⟩
noncomputable def outs (ν : Nu) (T : Tb) (a : Nat) : Nat := (restL T a).countP (fun p => !inR a (tag ν p.1))
theorem fnAt_of {K : Frag} {a : Addr} {P : FuncData → Prop} (h : X4 fun oc od fd sl => K.lookup a = some ⟨oc, od, .func fd, sl⟩ ∧ P fd) : P (fnAt K a) := by
  obtain ⟨oc, od, fd, sl, e, h⟩ := h
  unfold fnAt; rw [e]; exact h
/-- a function with defaults -/
theorem Fn.goD {fn : Addr} {ps rest : List Str} {code : Cd} {d : Nat} {args dv : List V} {Q : V → MH → Prop} {σ : MH} (H : ∀ P, fnChk (hd.heap_1 P) fn ps = true) (hcell : ∀ P, (fnAt (hd.heap_1 P) fn).scope.names.all (fun x => x.2 != .cell) = true)
    (hb : ∀ P (s : Shared) (rargs : List Value), (hd.heap_1 P).In s.heap → rargs.length = args.length → ∃ rdv, BindsTo s (fnAt (hd.heap_1 P) fn) ⟨rargs, []⟩ (ps.zip (rargs ++ rdv)) ∧ ∀ h, VsRel h dv rdv) (hc : ∀ P, codeOf theTabs (hd.heap_1 P) fn (ps ++ rest) = some code) (hn : ps.length = args.length + dv.length)
    (h : ∀ g, Law g → wp code ⟨g, d, noX⟩ (retC Q) [] (pad (args ++ dv) rest) σ) : Fn (d + 1) fn args Q σ := fun g L =>
  WCall.go (dv := dv) (tabs_ok L) L.cX (by rw [L.K]; exact H _) (by rw [L.K]; exact hcell _) hn (fun s rargs Ki hl => by rw [L.K] at Ki ⊢; exact hb _ s rargs Ki hl) (by rw [L.K]; exact hc _) (h g L)
theorem binds_resize4 : ∀ P (s : Shared) (rargs : List Value), (hd.heap_1 P).In s.heap → rargs.length = 4 → ∃ rdv, BindsTo s (fnAt (hd.heap_1 P) 330) ⟨rargs, []⟩ ((["self", "array_size", "hash_size", "heap"] : List Str).zip (rargs ++ rdv)) ∧ ∀ h, VsRel h [] rdv := fun P s rargs h => args4 (P := fun rargs => ∃ rdv, BindsTo s (fnAt (hd.heap_1 P) 330) ⟨rargs, []⟩ ((["self", "array_size", "hash_size", "heap"] : List Str).zip (rargs ++ rdv)) ∧ ∀ h, VsRel h [] rdv) (fun x y z w => ⟨[], fnAt_of (P := fun fd => BindsTo s fd ⟨[x, y, z, w], []⟩ _) ⟨_, _, _, _, rfl, BindsTo.of_defaults (T := 323) rfl (h 323 _ rfl) rfl rfl rfl⟩, fun _ => .nil⟩) rargs
theorem binds_resize3 : ∀ P (s : Shared) (rargs : List Value), (hd.heap_1 P).In s.heap → rargs.length = 3 → ∃ rdv, BindsTo s (fnAt (hd.heap_1 P) 330) ⟨rargs, []⟩ ((["self", "array_size", "hash_size", "heap"] : List Str).zip (rargs ++ rdv)) ∧ ∀ h, VsRel h [V.none] rdv := fun P s rargs h => args3 (P := fun rargs => ∃ rdv, BindsTo s (fnAt (hd.heap_1 P) 330) ⟨rargs, []⟩ ((["self", "array_size", "hash_size", "heap"] : List Str).zip (rargs ++ rdv)) ∧ ∀ h, VsRel h [V.none] rdv) (fun x y z => ⟨[.none], fnAt_of (P := fun fd => BindsTo s fd ⟨[x, y, z], []⟩ _) ⟨_, _, _, _, rfl, BindsTo.of_defaults (T := 323) rfl (h 323 _ rfl) rfl rfl rfl⟩, fun _ => .cons .none .nil⟩) rargs
section
variable {ν : Nu} {σ : MH}
theorem Fn.mono {n fn args} {Q Q' : V → MH → Prop} (h : Fn n fn args Q σ) (k : ∀ v σ, Q v σ → Q' v σ) : Fn n fn args Q' σ := fun g L => (h g L).mono k fun _ x => x
theorem resize_ok {t T} {d : Nat} {a h : Nat} {J : Tb → List (V × V) → Prop} (hdd : 5 ≤ d) (K : Knows σ ν) (hν : ν t = none) (hT : TR σ t T) (ha : a ≤ 2 ^ 22) (hh : h ≤ 2 ^ 20)
    (hJ0 : ∀ T4, T4.arr = T.arr.take a ++ List.replicate (a - T.arr.length) .none → T4.n = places h → (∀ i, i < T4.n → T4.nd i = nd0) → T4.free = T4.n → J T4 (restL T a))
    (step : ∀ σc Tc k v rest, J Tc ((k, v) :: rest) → TR σc t Tc → Knows σc ν → Fn d 337 [.ref t, k, v, .none] (fun r σ' => r = .none ∧ ∃ Tc', A3 (TR σ' t Tc') (Mv σc t Tc σ' Tc') (J Tc' rest)) σc) :
    Fn (d + 1) 330 [.ref t, .int a, .int h, .none] (fun r σ' => r = .none ∧ X3 fun T' T'' v => A4 (TR σ' t T') (Mv σ t T σ' T') (T' = { T'' with size := v }) (J T'' [])) σ ∧
    Fn (d + 1) 330 [.ref t, .int a, .int h] (fun r σ' => r = .none ∧ X3 fun T' T'' v => A4 (TR σ' t T') (Mv σ t T σ' T') (T' = { T'' with size := v }) (J T'' [])) σ :=
  ⟨Fn.goD (ps := ["self", "array_size", "hash_size", "heap"]) (dv := []) (rest := ["old_nodes", "vanishing", "step", "value", "node"]) (code := c_resize) (fun _ => by kernel_rfl) (fun _ => by kernel_rfl) binds_resize4 (fun _ => by kernel_rfl) rfl fun g L => resize_body L hdd K hν hT ha hh hJ0 step,
    Fn.goD (ps := ["self", "array_size", "hash_size", "heap"]) (dv := [.none]) (rest := ["old_nodes", "vanishing", "step", "value", "node"]) (code := c_resize) (fun _ => by kernel_rfl) (fun _ => by kernel_rfl) binds_resize3 (fun _ => by kernel_rfl) rfl fun g L => resize_body L hdd K hν hT ha hh hJ0 step⟩
theorem resize_room {t T} {a h : Nat} (K : Knows σ ν) (hν : ν t = none) (hT : TR σ t T) (I : Inv ν T) (ha : a ≤ 2 ^ 22) (hh : h ≤ 2 ^ 20) (hr : outs ν T a ≤ h) :
    Fn 7 330 [.ref t, .int a, .int h, .none] (fun r σ' => r = .none ∧ ∃ T', A6 (TR σ' t T') (Mv σ t T σ' T') (RsR ν T T') (T'.arr.length = a) (T'.n = places h) (kc T' ≤ outs ν T a)) σ := by
  have pl := places_le hh
  have w := resize_ok (σ := σ) (d := 6) (J := fun Tc L => A5 (JJ ν T Tc L) (Tc.arr.length = a) (Tc.n = places h) (kc Tc + L.countP (fun p => !inR a (tag ν p.1)) ≤ outs ν T a) (lives Tc + L.length ≤ lives T))
    (by decide) K hν hT ha hh (fun T4 h1 h2 h3 h4 => ?_) (fun σc Tc k v rest ⟨j1, j2, j3, j4, j5⟩ trc Kc => ?_)
  · refine w.1.mono ?_
    rintro r σ' ⟨rfl, T', T'', v, h1, h2, rfl, j1, j2, j3, j4, j5⟩
    refine ⟨rfl, _, h1, h2, j1.done j5, j2, j3, ?_⟩
    simp only [List.countP_nil, Nat.add_zero] at j4
    exact j4
  · have e0 : T4.arr.length = a := by rw [h1]; simp; lia -abstractProof
    have I4 : Inv ν T4 := inv_fresh (by lia -abstractProof) (by rw [h2]; exact pl.2.2) h4 h3
    refine ⟨JJ.start I I4 hT.pa (fun i hi => ?_) h1 fun i hi => by rw [h3 i hi]; rfl, e0, h2, ?_, ?_⟩
    · obtain ⟨ad, had⟩ := T.nd_get hi
      exact (hT.pn _ (List.mem_of_getElem? had)).2
    · rw [kc_zero h3, Nat.zero_add]; exact Nat.le_refl _
    · rw [lives_start h1 h3]
      have := restL_len T a
      lia -abstractProof
  · have ok := j1.ok _ (.head _)
    have ci : (rest.countP fun p => !inR a (tag ν p.1)) + (if inArr Tc (tag ν k) = true then 0 else 1) = ((k, v) :: rest).countP fun p => !inR a (tag ν p.1) := by
      rw [List.countP_cons, inArr_eq, j2]
      cases inR a (tag ν k) <;> simp
    have := (put_room Kc hν trc j1.inv ok.1 ok.2.1 ok.2.2.1 (fun _ => j1.out _ (.head _)) (fun hi => by rw [hi] at ci; simp at ci; lia -abstractProof)).1
    refine this.mono ?_
    rintro r σ' ⟨rfl, Tc', q⟩
    refine ⟨rfl, Tc', q.tr, q.mv, j1.step q.ins, q.arr.trans j2, q.n.trans j3, ?_, ?_⟩
    · have q' : kc Tc' ≤ kc Tc + if inArr Tc (tag ν k) = true then 0 else 1 := q.kc
      lia -abstractProof
    · have := q.ins.lives; rw [List.length_cons] at j5; lia -abstractProof
theorem Knows.none {c} (K : Knows σ ν) (h : σ c = none) : ν c = none := by
  cases e : ν c with
  | none => rfl
  | some r => obtain ⟨_, fs, h2, _⟩ := K.at_ c r e; rw [h] at h2; cases h2
noncomputable def c_rehash : Cd := .lit (.int (0)) <| .lst 1 <| .lit (.int (26)) <| .lit (.int (1)) <| .bin .Add <| .bin .Mult <| .st 3 <| .ld 0 <| .mld cT "count_array" <| .ld 3 <| .call (.ref 308) 2 <| .st 4 <| .ld 4 <| .st 5 <| .ld 0 <| .mld cT "count_nodes" <| .ld 3 <| .call (.ref 315) 2 <| .unp false [6, 7] <| .ld 5 <| .ld 6 <| .lit (.int (1)) <| .bin .Add <| .inp .Add <| .st 5 <| .ld 4 <| .ld 7 <| .ld 1 <| .ld 3 <| .call (.ref 202) 2 <| .bin .Add <| .inp .Add <| .st 4 <| .ld 3 <| .ld 4 <| .call (.ref 195) 2 <| .unp false [8, 9] <| .ld 0 <| .mld cT "resize" <| .ld 8 <| .ld 5 <| .ld 9 <| .bin .Sub <| .ld 2 <| .call (.ref 330) 4 <| .pop <| .fin
theorem Pv.mulList {E : En} {K : V → MH → Prop} {a v} {k : Nat} {σ : MH} (hσ : σ a = some (.list [v])) (hk : k ≤ 2 ^ 24) (h : ∀ c, σ c = none → K (.ref c) (upd σ c (.list (List.replicate k v)))) : Pv E (t2 (binaryOp .Mult)) [.ref a, .int (k : Nat)] K σ := ⟨fun _ _ => PV.mulList hσ hk h⟩
end
section
variable {ν : Nu} {σ : MH}
theorem rehash_ok {t T k} (K : Knows σ ν) (hν : ν t = none) (hT : TR σ t T) (I : Inv ν T) (hk : AnyV ν k) (hB : lives T + 1 ≤ 2 ^ 19) :
    Fn 8 322 [.ref t, k, .none] (fun r σ' => r = .none ∧ ∃ T', A4 (TR σ' t T') (Mv σ t T σ' T') (RsR ν T T') ((inArr T' (tag ν k) = false → kc T' < T'.n))) σ := by
  refine Fn.go (ps := ["self", "extra", "heap"]) (rest := ["counts", "whole", "total", "in_nodes", "whole_nodes", "size", "used"]) (code := c_rehash) (fun _ => by kernel_rfl) (fun _ => by kernel_rfl) (fun _ => args3 fun _ _ _ => by kernel_rfl) (fun _ => by kernel_rfl) rfl fun g L => ?_
  intro a0 ha0
  refine Pv.mulList (k := 27) (upd_same ..) (by decide) fun c hc => ?_
  have hc0 : σ c = none := isNone_of fun o e => by rw [upd_ne _ _ (fun z => by rw [z, ha0] at e; cases e), e] at hc; cases hc
  have nea : c ≠ T.aa := fun z => by have := hT.arr; rw [← z, hc0] at this; cases this
  have nen : c ≠ T.na := fun z => by have := hT.nl; rw [← z, hc0] at this; cases this
  have hT2 := ((hT.new (o := .list [.int 0]) ha0).1.new (o := .list (List.replicate 27 (.int 0))) hc).1
  have K2 := (K.fresh (o := .list [.int 0]) ha0).fresh (o := .list (List.replicate 27 (.int 0))) hc
  have k2 : ∀ b o, σ b = some o → upd (upd σ a0 (.list [.int 0])) c (.list (List.replicate 27 (.int 0))) b = some o := fun b o e =>
    (upd_ne _ _ fun z => by rw [z, hc0] at e; cases e).trans ((upd_ne _ _ fun z => by rw [z, ha0] at e; cases e).trans e)
  have c2 : CntAt (upd (upd σ a0 (.list [.int 0])) c (.list (List.replicate 27 (.int 0)))) c (fun _ => 0) := upd_same ..
  show wp (.st 3 <| .ld 0 <| _) _ _ [.ref c] _ (upd (upd σ a0 (.list [.int 0])) c (.list (List.replicate 27 (.int 0))))
  generalize upd (upd σ a0 (.list [.int 0])) c (.list (List.replicate 27 (.int 0))) = σ2 at hT2 K2 k2 c2
  have A2 : ∀ {σ' F}, CntAt σ' c F → Away σ' T c := fun h => Away.of h nea nen
  have kc_ : ∀ {σ' : MH}, (∀ b, b ≠ c → σ' b = σ2 b) → ∀ b o, σ b = some o → σ' b = some o := fun h b o e => (h b fun z => by rw [z, hc0] at e; cases e).trans (k2 b o e)
  refine Meth.tab hT2 rfl (Pv.fn L (count_array_ok hT2 I.sa c2 (A2 c2)) rfl ?_)
  rintro _ σ3 ⟨rfl, c3, s3⟩
  have hT3 := (A2 c2).tr hT2 s3
  have K3 := (A2 c2).kn K2 s3
  refine Meth.tab hT3 rfl (Pv.fn L (count_nodes_ok K3 hT3 I.keys c3 nea nen) rfl ?_)
  rintro _ σ4 ⟨rfl, c4, s4⟩
  have hT4 := (A2 c3).tr hT3 s4
  have K4 := (A2 c3).kn K3 s4
  refine Pv.fn L (count_key_ok K4 c4 hk) rfl ?_
  rintro _ σ5 ⟨rfl, c5, s5⟩
  have hT5 := (A2 c4).tr hT4 s5
  have K5 := (A2 c4).kn K4 s5
  have s25 : ∀ b, b ≠ c → σ5 b = σ2 b := fun b hb => (s5 b hb).trans ((s4 b hb).trans (s3 b hb))
  have m5 : Mv σ t T σ5 T := Mv.of_keep (kc_ s25)
  have hlen : T.arr.length ≤ 2 ^ 22 := I.sa
  -- the sums
  have sums : ∀ q, Sm (fun j => cnt T.arr.length (arrB T j) + cnt T.n (ndB ν T j) + if bkOf (tag ν k) = some j then 1 else 0) q =
      cnt T.arr.length (fun i => arrL T i && (bkOf (.int ((i : Nat) + 1 : Int))).any (fun j => decide (j < q))) + cnt T.n (fun i => ndL T i && (bkOf (tag ν (T.nd i).key)).any (fun j => decide (j < q))) + (if (bkOf (tag ν k)).any (fun j => decide (j < q)) = true then 1 else 0) := fun q => by
    have a1 := Sm_cnt T.arr.length (arrL T) (fun i => bkOf (.int ((i : Nat) + 1 : Int))) q
    have a2 := Sm_cnt T.n (ndL T) (fun i => bkOf (tag ν (T.nd i).key)) q
    have a3 := Sm_one (bkOf (tag ν k)) q
    rw [Sm_add (fun j => cnt T.arr.length (arrB T j) + cnt T.n (ndB ν T j)), Sm_add (fun j => cnt T.arr.length (arrB T j)), a3]
    unfold arrB ndB
    rw [a1, a2]
  have e27 : Sm (fun j => cnt T.arr.length (arrB T j) + cnt T.n (ndB ν T j) + if bkOf (tag ν k) = some j then 1 else 0) 27 = cnt T.arr.length (arrL T) + cnt T.n (ndW ν T) + (if (bkOf (tag ν k)).isSome = true then 1 else 0) := by
    rw [sums 27]
    have b1 : cnt T.arr.length (fun i => arrL T i && (bkOf (.int ((i : Nat) + 1 : Int))).any (fun j => decide (j < 27))) = cnt T.arr.length (arrL T) := cnt_congr fun i hi => by
      rw [bk_some27, bkOf_int, if_pos (by lia -abstractProof)]; simp
    have b2 : cnt T.n (fun i => ndL T i && (bkOf (tag ν (T.nd i).key)).any (fun j => decide (j < 27))) = cnt T.n (ndW ν T) := cnt_congr fun i hi => by rw [bk_some27]; rfl
    rw [b1, b2, bk_some27]
  generalize hF : (fun j => cnt T.arr.length (arrB T j) + cnt T.n (ndB ν T j) + if bkOf (tag ν k) = some j then 1 else 0) = F at c5 sums e27
  have ew : ((cnt T.arr.length (arrL T) : Nat) : Int) + (((cnt T.n (ndW ν T) : Nat) : Int) + (if (bkOf (tag ν k)).isSome = true then 1 else 0)) = ((Sm F 27 : Nat) : Int) := by rw [e27]; split <;> lia -abstractProof
  show Pv _ tcall [_, _, .int (((cnt T.arr.length (arrL T) : Nat) : Int) + (((cnt T.n (ndW ν T) : Nat) : Int) + (if (bkOf (tag ν k)).isSome = true then 1 else 0)))] _ _
  rw [ew]
  refine Pv.fn L (compute_sizes_ok c5) rfl ?_
  rintro _ _ ⟨⟨size, used, rfl, sz⟩, rfl⟩
  -- how the sizes stand
  have lv : cnt T.arr.length (arrL T) + cnt T.n (ndL T) = lives T := rfl
  have ro := restL_out ν T size
  have us : ∃ x, A4 (x ≤ 1) ((x = if inR size (tag ν k) = true then 1 else 0)) (used = cnt T.arr.length (fun i => arrL T i && decide (i < size)) + cnt T.n (fun i => ndL T i && inR size (tag ν (T.nd i).key)) + x) (size ≤ 2 * used) := by
    rcases sz.or with ⟨rfl, rfl⟩ | ⟨s, hs, rfl, rfl, h⟩
    · refine ⟨0, by decide, ?_, ?_, by decide⟩
      · have : inR 0 (tag ν k) = false := inR_0 _
        rw [this]; rfl
      · have h1 : cnt T.arr.length (fun i => arrL T i && decide (i < 0)) = 0 := cnt_z fun i _ => by rw [decide_eq_false (Nat.not_lt_zero i), Bool.and_false]
        have h2 : cnt T.n (fun i => ndL T i && inR 0 (tag ν (T.nd i).key)) = 0 := cnt_z fun i _ => by rw [inR_0, Bool.and_false]
        rw [h1, h2]
    · refine ⟨if inR (2 ^ s) (tag ν k) = true then 1 else 0, by split <;> decide, rfl, ?_, by lia -abstractProof⟩
      rw [sums (s + 1), bk_inR hs]
      have h1 : cnt T.arr.length (fun i => arrL T i && (bkOf (.int ((i : Nat) + 1 : Int))).any (fun j => decide (j < s + 1))) = cnt T.arr.length (fun i => arrL T i && decide (i < 2 ^ s)) := cnt_congr fun i hi => by
        rw [bk_inR hs]
        have : inR (2 ^ s) (.int ((i : Nat) + 1 : Int)) = decide (i < 2 ^ s) := by
          simp only [inR]; rw [Bool.eq_iff_iff]; simp only [decide_eq_true_eq]; lia -abstractProof
        rw [this]
      have h2 : cnt T.n (fun i => ndL T i && (bkOf (tag ν (T.nd i).key)).any (fun j => decide (j < s + 1))) = cnt T.n (fun i => ndL T i && inR (2 ^ s) (tag ν (T.nd i).key)) := cnt_congr fun i hi => by rw [bk_inR hs]
      rw [h1, h2]
  obtain ⟨x, hx1, hx2, hx3, hx4⟩ := us
  have oo : outs ν T size = (restL T size).countP (fun p => !inR size (tag ν p.1)) := rfl
  have eh : ((cnt T.arr.length (arrL T) : Nat) : Int) + (((cnt T.n (ndL T) : Nat) : Int) + 1) - (used : Nat) = ((lives T + 1 - used : Nat) : Int) := by lia -abstractProof
  refine Meth.tab hT5 rfl ?_
  show Pv _ tcall [_, _, _, .int (((cnt T.arr.length (arrL T) : Nat) : Int) + (((cnt T.n (ndL T) : Nat) : Int) + 1) - (used : Nat)), _] _ _
  rw [eh]
  refine Pv.fn L (resize_room K5 hν hT5 I (a := size) (h := lives T + 1 - used) (by lia -abstractProof) (by lia -abstractProof) (by lia -abstractProof)) rfl ?_
  rintro _ σ6 ⟨rfl, T', tr6, m6, rs, r1, r2, r3⟩
  refine ⟨rfl, T', tr6, m5.trans m6, rs, fun hin => ?_⟩
  rw [inArr_eq, r1] at hin
  rw [hin] at hx2
  have hx2 : x = 0 := by simpa using hx2
  have pl := places_le (h := lives T + 1 - used) (by lia -abstractProof)
  rw [r2]
  lia -abstractProof
end
theorem Inv.free_ {ν T} {fr : Int} (I : Inv ν T) (h0 : 0 ≤ fr) (h1 : fr ≤ T.free) (h : kc T = T.n) : Inv ν { T with free := fr } :=
  ⟨I.sz, I.sa, ⟨h0, by have := I.fr.2; show fr ≤ _; exact Int.le_trans h1 this⟩, I.keys, I.vals, I.gr, fun i hi _ z => by
    have := cnt_full h i hi
    have z : (T.nd i).key = .none := z
    rw [z] at this
    cases this
    done, I.uniq, I.out⟩
theorem ins_val {ν T i a v} (I : Inv ν T) (hi : T.nds[i]? = some (a, T.nd i)) {t : Tag} (ht : proper t = true) (h : IsAt ν T t i) : Ins ν T (T.setNd i { T.nd i with value := v }) t v := by
  have lt := h.1
  have nd := T.nd_setNd { T.nd i with value := v } lt
  have ky : ∀ j, ((T.setNd i { T.nd i with value := v }).nd j).key = (T.nd j).key := fun j => by rw [nd]; split <;> simp_all
  have nx : ∀ j, ((T.setNd i { T.nd i with value := v }).nd j).next = (T.nd j).next := fun j => by rw [nd]; split <;> simp_all
  have vl : ∀ j, j ≠ i → ((T.setNd i { T.nd i with value := v }).nd j).value = (T.nd j).value := fun j e => by rw [nd, if_neg e]
  have vi : ((T.setNd i { T.nd i with value := v }).nd i).value = v := by rw [nd, if_pos rfl]
  have en : (T.setNd i { T.nd i with value := v }).n = T.n := by simp
  have ea : (T.setNd i { T.nd i with value := v }).arr = T.arr := rfl
  have ef : (T.setNd i { T.nd i with value := v }).free = T.free := rfl
  generalize T.setNd i { T.nd i with value := v } = T' at *
  have at_ : ∀ t j, IsAt ν T' t j ↔ IsAt ν T t j := fun t j => by unfold IsAt; rw [en, ky]
  have inA : inArr T t = false := by rw [← h.2]; exact not_inArr I lt
  have I' : Inv ν T' := by
    refine ⟨by rw [en]; exact I.sz, by rw [ea]; exact I.sa, by rw [en, ef]; exact I.fr, fun j hj => by rw [ky]; exact I.keys j (en ▸ hj), fun j hj e => ?_, ?_, fun j hj e => by rw [ky]; exact I.full j (en ▸ hj) (ef ▸ e), fun j k hj hk e p => ?_, fun j x hj e => ?_⟩
    · by_cases z : j = i
      · subst z; rw [ky, h.2, ht] at e; cases e
      · rw [vl j z]; rw [ky] at e; exact I.vals j (en ▸ hj) e
    · rw [en]
      exact I.gr.congr (fun j _ => by rw [ky]) (fun j _ _ => by rw [ky]) (fun j _ => nx j)
    · rw [ky] at e p; rw [ky] at e; exact I.uniq j k (en ▸ hj) (en ▸ hk) e p
    · rw [ky] at e; rw [ea]; exact I.out j x (en ▸ hj) e
  refine ⟨I', fun t' ht' => ?_, fun t' _ ⟨j, hj⟩ => .inl ⟨j, (at_ t' j).mp hj⟩, ?_⟩
  · by_cases e : t' = t
    · subst e
      have inA' : inArr T' t' = false := by rw [inArr_eq, ea, ← inArr_eq]; exact inA
      rw [if_pos rfl, look_node inA', nlook_at I' ht' ((at_ _ _).mpr h), vi]
    · rw [if_neg e]
      refine look_ext I I' ea ht' (fun j hj => .inr ⟨j, (at_ _ _).mpr hj, vl j fun z => e ?_⟩) fun j hj => ⟨j, (at_ _ _).mp hj⟩
      rw [← hj.2, z, h.2]
  · unfold lives
    have e1 : arrL T' = arrL T := by unfold arrL; rw [ea]
    rw [e1, ea, en]
    have := cnt_ins (n := T.n) (p := ndL T') (q := ndL T) i fun j hj e => by
      by_cases z : j = i
      · exact .inr z
      · left; unfold ndL at *; rwa [vl j z] at e
    lia -abstractProof
structure SameKeys (T T' : Tb) : Prop where
  arr : T'.arr.length = T.arr.length
  n : T'.n = T.n
  key : ∀ i, i < T.n → (T'.nd i).key = (T.nd i).key
noncomputable def c_put_1 : Cd := .ld 2 <| .ld 0 <| .fld "array" <| .ld 4 <| .lit (.int (1)) <| .bin .Sub <| .stx <| .ld 3 <| .isn false <| .br (.bad) (.fin)
noncomputable def c_put_2 : Cd := .ld 2 <| .ld 0 <| .fld "nodes" <| .ld 5 <| .ix <| .stf "value" <| .ld 3 <| .isn false <| .br (.bad) (.fin)
noncomputable def c_put_3 : Cd := .ld 0 <| .mld cT "new_key" <| .ld 1 <| .ld 2 <| .ld 3 <| .call (.ref 294) 4 <| .pop <| .ld 3 <| .isn false <| .br (.bad) (.fin)
noncomputable def c_put_4 : Cd := .ld 0 <| .mld cT "find_node" <| .ld 1 <| .call (.ref 231) 2 <| .st 5 <| .ld 5 <| .lit (.int (0)) <| .cmp .GtE <| .br (c_put_2) (c_put_3)
noncomputable def c_put_5 : Cd := .ld 0 <| .fld "array" <| .call (.bi "len") 1 <| .cmp .LtE <| .br (c_put_1) (c_put_4)
noncomputable def c_put : Cd := .ld 1 <| .call (.ref 188) 1 <| .st 4 <| .lit (.int (1)) <| .ld 4 <| .chn .LtE (c_put_5) (c_put_4)
section
variable {ν : Nu} {σ : MH}
structure PutG (ν : Nu) (σ : MH) (t : Addr) (T : Tb) (k v : V) (σ' : MH) (T' : Tb) : Prop where
  tr : TR σ' t T'
  mv : Mv σ t T σ' T'
  ins : Ins ν T T' (tag ν k) v
theorem Fn.le {n m fn args Q} {σ : MH} (h : Fn n fn args Q σ) (k : n ≤ m) : Fn m fn args Q σ := fun g L => (h g L).le k
theorem new_key_gen {t T k v} (K : Knows σ ν) (hν : ν t = none) (hT : TR σ t T) (I : Inv ν T) (hk : AnyV ν k) (hp : proper (tag ν k) = true) (hin : inArr T (tag ν k) = false) (hno : ∀ i, ¬ IsAt ν T (tag ν k) i) (hv : v.plain = true) (hB : lives T + 1 ≤ 2 ^ 19) :
    Fn 9 294 [.ref t, k, v, .none] (fun r σ' => r = .none ∧ ∃ T', PutG ν σ t T k v σ' T') σ := by
  refine new_key_ok (d := 8) (by decide) K hν hT I hk hp hin hno hv (fun e σ1 fr f1 f2 hT1 m1 K1 => ?_) fun σ' T' h1 h2 h3 h4 h5 h6 => ⟨T', h1, h2, h3⟩
  have I1 := I.free_ f1 f2 e
  refine (rehash_ok K1 hν hT1 I1 hk hB).mono ?_
  rintro r σ2 ⟨rfl, T2, hT2, m2, rs, room⟩
  have l0 : look ν T (tag ν k) = .none := by rw [look_node hin]; exact nlook_none hno
  have nk : ¬ HasKey ν T2 (tag ν k) := fun h => rs.live _ hp h l0
  have K2 := K1.mv hT1 m2 hν
  refine ⟨rfl, ⟨T2, hT2⟩, ((put_room K2 hν hT2 rs.inv hk hp hv (fun _ => nk) room).2.le (by decide)).mono ?_⟩
  rintro r σ3 ⟨rfl, T3, q⟩
  refine ⟨rfl, T3, q.tr, (m1.trans m2).trans q.mv, q.ins.inv, fun t' ht => ?_, fun t' ht h => ?_, ?_⟩
  · rw [q.ins.look t' ht]
    split
    · rfl
    · exact rs.look t' ht
  · rcases q.ins.keys t' ht h with h | h | h
    · exact .inr (.inr (rs.live t' ht h))
    · exact .inr (.inl h)
    · rw [rs.look t' ht] at h; exact .inr (.inr h)
  · have := q.ins.lives
    have h2 : lives T2 ≤ lives T := rs.lives
    lia -abstractProof
theorem put_gen {t T k v} (K : Knows σ ν) (hν : ν t = none) (hT : TR σ t T) (I : Inv ν T) (hk : AnyV ν k) (hp : proper (tag ν k) = true) (hv : v.plain = true) (hno : inArr T (tag ν k) = false → ¬ HasKey ν T (tag ν k)) (hB : lives T + 1 ≤ 2 ^ 19) :
    Fn 10 337 [.ref t, k, v, .none] (fun r σ' => r = .none ∧ ∃ T', PutG ν σ t T k v σ' T') σ :=
  (put_back_gen (d := 9) (by decide) K hT I hk hv (fun hi => new_key_gen K hν hT I hk hp hi (fun i h => hno hi ⟨i, h⟩) hv hB) fun hi σ' T' h1 h2 h3 h4 h5 h6 => ⟨T', h1, h2, h3⟩).1
theorem resize_gen {t T} {a h : Nat} (K : Knows σ ν) (hν : ν t = none) (hT : TR σ t T) (I : Inv ν T) (ha : a ≤ 2 ^ 22) (hh : h ≤ 2 ^ 20) (hB : lives T + 1 ≤ 2 ^ 19) :
    Fn 11 330 [.ref t, .int a, .int h, .none] (fun r σ' => r = .none ∧ ∃ T', A3 (TR σ' t T') (Mv σ t T σ' T') (RsR ν T T')) σ ∧ Fn 11 330 [.ref t, .int a, .int h] (fun r σ' => r = .none ∧ ∃ T', A3 (TR σ' t T') (Mv σ t T σ' T') (RsR ν T T')) σ := by
  have pl := places_le hh
  have w := resize_ok (σ := σ) (d := 10) (J := fun Tc L => JJ ν T Tc L ∧ lives Tc + L.length ≤ lives T)
    (by decide) K hν hT ha hh (fun T4 h1 h2 h3 h4 => ?_) (fun σc Tc k v rest ⟨j1, j5⟩ trc Kc => ?_)
  · have fin : ∀ r σ', (r = V.none ∧ X3 fun T' T'' v => A4 (TR σ' t T') (Mv σ t T σ' T') (T' = { T'' with size := v }) (JJ ν T T'' [] ∧ lives T'' + ([] : List (V × V)).length ≤ lives T)) → r = V.none ∧ ∃ T', A3 (TR σ' t T') (Mv σ t T σ' T') (RsR ν T T') := by
      rintro r σ' ⟨rfl, T', T'', v, h1, h2, rfl, j1, j5⟩
      exact ⟨rfl, _, h1, h2, j1.done (by simpa using j5)⟩
    exact ⟨w.1.mono fin, w.2.mono fin⟩
  · have I4 : Inv ν T4 := inv_fresh (by rw [h1]; simp; lia -abstractProof) (by rw [h2]; exact pl.2.2) h4 h3
    refine ⟨JJ.start I I4 hT.pa (fun i hi => ?_) h1 fun i hi => by rw [h3 i hi]; rfl, ?_⟩
    · obtain ⟨ad, had⟩ := T.nd_get hi
      exact (hT.pn _ (List.mem_of_getElem? had)).2
    · rw [lives_start h1 h3]
      have := restL_len T a
      lia -abstractProof
  · have ok := j1.ok _ (.head _)
    have jl : lives Tc + (rest.length + 1) ≤ lives T := by rw [List.length_cons] at j5; exact j5
    refine (put_gen Kc hν trc j1.inv ok.1 ok.2.1 ok.2.2.1 (fun _ => j1.out _ (.head _)) (by lia -abstractProof)).mono ?_
    rintro r σ' ⟨rfl, Tc', q⟩
    refine ⟨rfl, Tc', q.tr, q.mv, j1.step q.ins, ?_⟩
    have := q.ins.lives
    lia -abstractProof
theorem put_ok {t T k v} (K : Knows σ ν) (hν : ν t = none) (hT : TR σ t T) (I : Inv ν T) (hk : AnyV ν k) (hp : proper (tag ν k) = true) (hv : v.plain = true) (hB : lives T + 1 ≤ 2 ^ 19) :
    Fn 10 287 [.ref t, k, v, .none] (fun r σ' => r = .none ∧ ∃ T', PutG ν σ t T k v σ' T' ∧ (inArr T (tag ν k) = true ∨ HasKey ν T (tag ν k) → SameKeys T T')) σ := by
  have ai := aidx_arr (ν := ν) (T := T) (k := k)
  refine Fn.go (ps := ["self", "key", "value", "heap"]) (rest := ["at", "spot"]) (code := c_put) (fun _ => by kernel_rfl) (fun _ => by kernel_rfl) (fun _ => args4 fun _ _ _ _ => by kernel_rfl) (fun _ => by kernel_rfl) rfl fun g L => ?_
  have tl : ¬ (1 ≤ aidx k ∧ aidx k ≤ (T.arr.length : Int)) → wp c_put_4 ⟨g, 9, noX⟩ (retC fun r σ' => r = .none ∧ ∃ T', PutG ν σ t T k v σ' T' ∧ (inArr T (tag ν k) = true ∨ HasKey ν T (tag ν k) → SameKeys T T')) [] [some (.ref t), some k, some v, some .none, some (.int (aidx k)), none] σ := fun h => by
    have hi : inArr T (tag ν k) = false := by rw [ai, decide_eq_false h]
    refine Meth.tab hT rfl (Pv.fn L (find_node_ok K hT I hk) rfl ?_)
    rintro _ _ ⟨⟨j, rfl, hj⟩, rfl⟩
    refine brk2.dec (fun hz => ?_) fun hz => ?_
    · rcases hj with ⟨rfl, _⟩ | ⟨i, rfl, b, _⟩
      · exact absurd hz (by decide)
      obtain ⟨ad, had⟩ := T.nd_get b.1
      refine Pv.nodes L hT (Pg.nod hT hz had (Pu.value L hT had hv fun σ1 hT1 m1 => ⟨rfl, rfl, _, ⟨hT1, m1, ins_val I had hp b⟩, fun _ => ⟨rfl, by simp, fun i hi => ?_⟩⟩))
      rw [T.nd_setNd _ b.1]; split <;> simp_all
    · rcases hj with ⟨rfl, h0⟩ | ⟨i, rfl, _⟩
      rotate_left
      · lia -abstractProof
      have b : ∀ i, ¬ IsAt ν T (tag ν k) i := h0.resolve_left fun z => by rw [z] at hp; cases hp
      refine Meth.tab hT rfl (Pv.fn L (new_key_gen K hν hT I hk hp hi b hv hB) rfl ?_)
      rintro _ σ1 ⟨rfl, T', q⟩
      refine ⟨rfl, rfl, T', q, fun h => ?_⟩
      rcases h with h | ⟨i, h⟩
      · rw [hi] at h; cases h
      · exact absurd h (b i)
  refine Pv.fn1 L (array_index_ok K hk) rfl (brk2.dec (fun hp1 => Pv.array L hT (Pv.lenA hT (brk2.dec (fun hq => ?_) fun hq => tl fun z => hq z.2))) fun hp1 => tl fun z => hp1 z.1)
  refine Pv.array L hT (Pu.arr hT (by lia -abstractProof) (by lia -abstractProof) hv fun σ1 hT1 m1 => ⟨rfl, rfl, _, ⟨hT1, m1, ?_⟩, fun _ => ⟨List.length_set .., rfl, fun _ _ => rfl⟩⟩)
  have e : inArr T (tag ν k) = true := by rw [ai, decide_eq_true ⟨hp1, hq⟩]
  rw [tag_aidx e]; exact ins_arr I ⟨hp1, hq⟩
end
theorem inj_le : ∀ (n m : Nat) (f : Nat → Nat), (∀ i, i < m → f i < n) → (∀ i j, i < m → j < m → f i = f j → i = j) → m ≤ n
  | 0, m, f, h, _ => by
    cases m with
    | zero => exact Nat.le_refl _
    | succ m => exact absurd (h 0 (by lia)) (by lia)
  | n + 1, m, f, h, hi => by
    cases m with
    | zero => lia
    | succ m =>
      have := inj_le n m (fun i => if f i = n then f m else f i) (fun i him => by
        split
        · rename_i e
          have h1 := h m (by lia)
          have : f m ≠ n := fun z => by have := hi i m (by lia) (by lia) (by rw [e, z]); lia
          lia
        · have := h i (by lia); lia) (fun i j him hjm e => by
        split at e <;> split at e
        · rename_i e1 e2; exact hi i j (by lia) (by lia) (by rw [e1, e2])
        · have := hi m j (by lia) (by lia) e; lia
        · have := hi i m (by lia) (by lia) e; lia
        · exact hi i j (by lia) (by lia) e)
      lia
theorem look_some {ν T t} (I : Inv ν T) (hp : proper t = true) (h : look ν T t ≠ .none) : inArr T t = true ∨ ∃ i, IsAt ν T t i := by
  by_cases e : inArr T t = true
  · exact .inl e
  · right
    have e : inArr T t = false := by simpa using e
    rw [look_node e] at h
    by_cases z : ∃ i, IsAt ν T t i
    · exact z
    · exact absurd (nlook_none fun i hi => z ⟨i, hi⟩) h
open Classical in
theorem ints_few {ν T m} (I : Inv ν T) (h : ∀ j : Nat, 1 ≤ j → j ≤ m → look ν T (.int j) ≠ .none) : m ≤ T.arr.length + T.n := by
  have ex : ∀ i, i < m → ∃ p, p < T.arr.length + T.n ∧ ((p < T.arr.length ∧ p = i) ∨ (T.arr.length ≤ p ∧ IsAt ν T (.int ((i + 1 : Nat) : Int)) (p - T.arr.length))) := fun i hi => by
    rcases look_some I rfl (h (i + 1) (by lia) (by lia)) with e | ⟨q, e⟩
    · simp only [inArr, decide_eq_true_eq] at e
      exact ⟨i, by lia, .inl ⟨by lia, rfl⟩⟩
    · exact ⟨T.arr.length + q, by have := e.1; lia, .inr ⟨by lia, by rw [Nat.add_sub_cancel_left]; exact e⟩⟩
  refine inj_le (T.arr.length + T.n) m (fun i => if hi : i < m then (ex i hi).choose else 0) (fun i hi => ?_) fun i j hi hj e => ?_
  · rw [dif_pos hi]; exact (ex i hi).choose_spec.1
  · rw [dif_pos hi, dif_pos hj] at e
    have a := (ex i hi).choose_spec.2
    have b := (ex j hj).choose_spec.2
    rw [← e] at b
    rcases a with ⟨a1, a2⟩ | ⟨a1, a2⟩ <;> rcases b with ⟨b1, b2⟩ | ⟨b1, b2⟩
    · lia
    · lia
    · lia
    · have := a2.2.symm.trans b2.2
      simp only [Tag.int.injEq] at this
      lia
theorem look_plain {ν T σ t x} (hT : TR σ t T) : (look ν T x).plain = true := by
  have nl : (nlook ν T x).plain = true := by
    unfold nlook
    cases h : T.nds.find? (fun p => decide (tag ν p.2.key = x)) with
    | none => rfl
    | some p => exact (hT.pn p (List.mem_of_find?_eq_some h)).2
  cases x with
  | int i =>
    simp only [look]
    split
    · cases h : T.arr[(i - 1).toNat]? with
      | none => rfl
      | some v => exact hT.pa v (List.mem_of_getElem? h)
    · exact nl
  | _ => exact nl
/-- a border -/
structure Border (ν : Nu) (T : Tb) (b : Int) : Prop where
  pos : 0 ≤ b
  le : b ≤ 2147483645
  here : b = 0 ∨ look ν T (.int b) ≠ .none
  next : look ν T (.int (b + 1)) = .none
noncomputable def c_length_1 : Cd := .ld 3 <| .st 1 <| .fin
noncomputable def c_length_2 : Cd := .ld 3 <| .st 2 <| .fin
noncomputable def c_length_3 : Cd := .ld 2 <| .ld 1 <| .bin .Add <| .lit (.int (2)) <| .bin .FloorDiv <| .st 3 <| .ld 0 <| .fld "array" <| .ld 3 <| .lit (.int (1)) <| .bin .Sub <| .ix <| .isn true <| .br (c_length_1) (c_length_2)
noncomputable def c_length_4 : Cd := .ld 1 <| .ld 2 <| .bin .Sub <| .lit (.int (1)) <| .cmp .Gt <| .br (c_length_3) (.brk)
noncomputable def c_length_5 : Cd := .lit (.int (0)) <| .st 2 <| .whl (c_length_4) (.ld 2 <| .ret)
noncomputable def c_length_6 : Cd := .ld 0 <| .mld cT "unbound_search" <| .ld 1 <| .call (.ref 384) 2 <| .ret
noncomputable def c_length_7 : Cd := .ld 0 <| .fld "nodes" <| .call (.bi "len") 1 <| .lit (.int (0)) <| .cmp .Eq <| .br (.ld 1 <| .ret) (c_length_6)
noncomputable def c_length_8 : Cd := .ld 0 <| .fld "array" <| .ld 1 <| .lit (.int (1)) <| .bin .Sub <| .ix <| .isn true <| .br (c_length_5) (c_length_7)
noncomputable def c_length : Cd := .ld 0 <| .fld "array" <| .call (.bi "len") 1 <| .st 1 <| .ld 1 <| .lit (.int (0)) <| .cmp .Gt <| .br (c_length_8) (c_length_7)
noncomputable def c_unbound_search_1 : Cd := .ld 2 <| .lit (.int (1)) <| .inp .Add <| .st 2 <| .fin
noncomputable def c_unbound_search_2 : Cd := .ld 0 <| .mld cT "get_int" <| .ld 2 <| .call (.ref 245) 2 <| .isn false <| .br (c_unbound_search_1) (.brk)
noncomputable def c_unbound_search_3 : Cd := .ld 2 <| .lit (.int (1)) <| .bin .Sub <| .ret
noncomputable def c_unbound_search_4 : Cd := .lit (.int (1)) <| .st 2 <| .whl (c_unbound_search_2) (c_unbound_search_3)
noncomputable def c_unbound_search_5 : Cd := .ld 3 <| .st 2 <| .ld 3 <| .lit (.int (2)) <| .inp .Mult <| .st 3 <| .ld 3 <| .lit (.int (2147483645)) <| .cmp .Gt <| .br (c_unbound_search_4) (.fin)
noncomputable def c_unbound_search_6 : Cd := .ld 0 <| .mld cT "get_int" <| .ld 3 <| .call (.ref 245) 2 <| .isn false <| .br (c_unbound_search_5) (.brk)
noncomputable def c_unbound_search_7 : Cd := .ld 4 <| .st 3 <| .fin
noncomputable def c_unbound_search_8 : Cd := .ld 4 <| .st 2 <| .fin
noncomputable def c_unbound_search_9 : Cd := .ld 2 <| .ld 3 <| .bin .Add <| .lit (.int (2)) <| .bin .FloorDiv <| .st 4 <| .ld 0 <| .mld cT "get_int" <| .ld 4 <| .call (.ref 245) 2 <| .isn true <| .br (c_unbound_search_7) (c_unbound_search_8)
noncomputable def c_unbound_search_10 : Cd := .ld 3 <| .ld 2 <| .bin .Sub <| .lit (.int (1)) <| .cmp .Gt <| .br (c_unbound_search_9) (.brk)
noncomputable def c_unbound_search_11 : Cd := .whl (c_unbound_search_10) (.ld 2 <| .ret)
noncomputable def c_unbound_search : Cd := .ld 1 <| .st 2 <| .ld 1 <| .lit (.int (1)) <| .bin .Add <| .st 3 <| .whl (c_unbound_search_6) (c_unbound_search_11)
section
variable {ν : Nu} {σ : MH} {t : Addr} {T : Tb}
theorem isSome_ne {v : V} (e : (!isNone v) = true) : v ≠ .none := fun z => by rw [z] at e; cases e
theorem isNone_nn {v : V} (e : (!isNone v) = false) : v = .none := isNone_eq (by simpa using e)
/-- a read of an int's value -/
theorem gint {g d K} (L : Law g) (hd : Nat.ble 5 d = true) (k : Knows σ ν) (hT : TR σ t T) (I : Inv ν T) {n : Int} (h : K (look ν T (.int n)) σ) : Meth "get_int" cT σ (Pv ⟨g, d, noX⟩ tcall [.ref 245, .ref t, .int n] K σ) (.ref t) :=
  Meth.tab hT rfl (Pv.fn1 L (get_int_ok k hT I) hd h)
theorem us_mid {g : G} {σ : MH} (L : Law g) (K : Knows σ ν) (hT : TR σ t T) (I : Inv ν T) {f0 low high : Nat} {x : Option V} (a4 : low < high) (a5 : high ≤ 2147483645) (a6 : low = 0 ∨ look ν T (.int low) ≠ .none) (e : look ν T (.int high) = .none) :
    wp c_unbound_search_11 ⟨g, 5, noX⟩ (retC fun r σ' => (∃ b, r = .int b ∧ Border ν T b) ∧ σ' = σ) [] [some (.ref t), some (.int f0), some (.int low), some (.int high), x] σ := by
  refine Whl.mk (fun m ls σ2 => σ2 = σ ∧ X2 fun (low high : Nat) => ∃ x, A6 (ls = [some (.ref t), some (.int f0), some (.int low), some (.int high), x]) (low < high) (high ≤ 2147483645) ((low = 0 ∨ look ν T (.int low) ≠ .none)) (look ν T (.int high) = .none) (m = high - low)) _ ⟨rfl, low, high, x, rfl, a4, a5, a6, e, rfl⟩ ?_
  rintro m ls σ2 ⟨rfl, low, high, x, rfl, b4, b5, b6, b7, rfl⟩
  refine brk2.dec (fun hp => ?_) fun hp => ?_
  · have em : ((low : Int) + high).fdiv 2 = (((low + high) / 2 : Nat) : Int) := halfN _
    refine Pv.div (by decide) (by decide) ?_
    rw [em]
    refine gint L rfl K hT I ⟨look_plain hT, brk2.bool (fun e2 => ?_) fun e2 => ?_⟩
    · exact ⟨_, by lia, rfl, low, (low + high) / 2, _, rfl, by lia, by lia, b6, isNone_eq e2, rfl⟩
    · exact ⟨_, by lia, rfl, (low + high) / 2, high, _, rfl, by lia, by lia, .inr fun z => (by rw [z] at e2; cases e2), b7, rfl⟩
  · have : high = low + 1 := by lia
    subst this
    refine ⟨⟨_, rfl, by lia, by lia, b6.imp (fun h => by lia) id, ?_⟩, rfl⟩
    rw [show (low : Int) + 1 = ((low + 1 : Nat) : Int) by lia]; exact b7
theorem us_low {g : G} {σ : MH} (L : Law g) (K : Knows σ ν) (hT : TR σ t T) (I : Inv ν T) {f0 : Nat} {high : Int} {y x : Option V} {Q : Fw → Ls → MH → Prop} (tot : T.arr.length + T.n ≤ 2 ^ 24) (hQ : ∀ b ls, Border ν T b → Q (.ret (.int b)) ls σ) :
    wp c_unbound_search_4 ⟨g, 5, noX⟩ Q [] [some (.ref t), some (.int f0), y, some (.int high), x] σ := by
  refine Whl.mk (fun m ls σ2 => σ2 = σ ∧ ∃ j : Nat, A3 (ls = [some (.ref t), some (.int f0), some (.int ((j : Nat) + 1)), some (.int high), x]) ((∀ i : Nat, 1 ≤ i → i ≤ j → look ν T (.int i) ≠ .none)) (m = T.arr.length + T.n + 1 - j)) _ ⟨rfl, 0, rfl, fun i h1 h2 => by lia, rfl⟩ ?_
  rintro m ls σ2 ⟨rfl, j, rfl, b3, rfl⟩
  have few := ints_few I b3
  refine gint L rfl K hT I ⟨look_plain hT, brk2.bool (fun e2 => ?_) fun e2 => ?_⟩
  · have b4 : ∀ i : Nat, 1 ≤ i → i ≤ j + 1 → look ν T (.int i) ≠ .none := fun i h1 h2 => by
      by_cases z : i = j + 1
      · rw [z, Int.natCast_succ]; exact isSome_ne e2
      · exact b3 i h1 (by lia)
    have few2 := ints_few I b4
    exact ⟨T.arr.length + T.n + 1 - (j + 1), by lia, rfl, j + 1, rfl, b4, rfl⟩
  · have e2 : look ν T (.int ((j : Nat) + 1)) = .none := isNone_nn e2
    have ej : (j : Int) + 1 - 1 = j := by lia
    refine hQ ((j : Int) + 1 - 1) _ ?_
    rw [ej]
    refine ⟨by lia, by lia, ?_, e2⟩
    by_cases z : j = 0
    · left; lia
    · exact .inr (b3 j (by lia) (Nat.le_refl _))
theorem unbound_search_ok {f0 : Nat} (K : Knows σ ν) (hT : TR σ t T) (I : Inv ν T) (hf : f0 ≤ 2 ^ 22) (h0 : f0 = 0 ∨ look ν T (.int f0) ≠ .none) :
    Fn 6 384 [.ref t, .int f0] (fun r σ' => (∃ b, r = .int b ∧ Border ν T b) ∧ σ' = σ) σ := by
  refine Fn.go (ps := ["self", "first"]) (rest := ["low", "high", "middle"]) (code := c_unbound_search) (fun _ => by kernel_rfl) (fun _ => by kernel_rfl) (fun _ => args2 fun _ _ => by kernel_rfl) (fun _ => by kernel_rfl) rfl fun g L => ?_
  have tot : T.arr.length + T.n ≤ 2 ^ 24 := by have := hT.sa; have := hT.sn; unfold Tb.n; lia
  refine Whl.mk (fun m ls σ1 => σ1 = σ ∧ X2 fun (low high : Nat) => A5 (ls = [some (.ref t), some (.int f0), some (.int low), some (.int high), none]) (low < high) (high ≤ 2147483645) ((low = 0 ∨ look ν T (.int low) ≠ .none)) (m = 2147483646 - high)) _ ⟨rfl, f0, f0 + 1, rfl, by lia, by lia, h0, rfl⟩ ?_
  rintro m ls σ1 ⟨rfl, low, high, rfl, a4, a5, a6, rfl⟩
  refine gint L rfl K hT I ⟨look_plain hT, brk2.bool (fun e => ?_) fun e => us_mid L K hT I a4 a5 a6 (isNone_nn e)⟩
  refine Pv.imul (IntMulOk.of_right (by decide +kernel)) (brk2.dec (fun hp => ?_) fun hp => ?_)
  · exact us_low L K hT I tot fun b ls hb => ⟨⟨b, rfl, hb⟩, rfl⟩
  have hp : ¬ (2147483645 : Int) < (high : Int) * 2 := hp
  exact ⟨2147483646 - high * 2, by lia, rfl, high, high * 2, by rw [show ((high * 2 : Nat) : Int) = (high : Int) * 2 by lia]; rfl, by lia, by lia, .inr (isSome_ne e), rfl⟩
theorem length_ok (K : Knows σ ν) (hT : TR σ t T) (I : Inv ν T) : Fn 7 377 [.ref t] (fun r σ' => (∃ b, r = .int b ∧ Border ν T b) ∧ σ' = σ) σ := by
  refine Fn.go (ps := ["self"]) (rest := ["last", "low", "middle"]) (code := c_length) (fun _ => by kernel_rfl) (fun _ => by kernel_rfl) (fun _ => args1 fun _ => by kernel_rfl) (fun _ => by kernel_rfl) rfl fun g L => ?_
  have hsa := I.sa
  have hlen : (T.nds.length : Int) = T.n := rfl
  have lk : ∀ (x : Nat) v, 1 ≤ x → T.arr[x - 1]? = some v → look ν T (.int x) = v := fun x v h1 h2 => by
    have := (List.getElem?_eq_some_iff.mp h2).1
    rw [look_arr ⟨by lia, by lia⟩, predN, h2]; rfl
  have tl : (T.arr.length = 0 ∨ look ν T (.int T.arr.length) ≠ .none) → wp c_length_7 ⟨g, 6, noX⟩ (retC fun r σ' => (∃ b, r = .int b ∧ Border ν T b) ∧ σ' = σ) [] [some (.ref t), some (.int T.arr.length), none, none] σ := fun hh => by
    refine Pv.nodes L hT (Pv.lenN hT (brk2.dec (fun e0 => ?_) fun e0 => Meth.tab hT rfl (Pv.fn L (unbound_search_ok K hT I hsa hh) rfl ?_)))
    · refine ⟨⟨_, rfl, by lia, by lia, hh.imp (fun h => by lia) id, ?_⟩, rfl⟩
      rw [look_out (by lia)]
      exact nlook_none fun i hi => by have := hi.1; lia
    · exact fun v σ' h => h
  refine Pv.array L hT (Pv.lenA hT (brk2.dec (fun hp => ?_) fun hp => tl (.inl (by lia))))
  obtain ⟨v, hv⟩ : ∃ v, T.arr[T.arr.length - 1]? = some v := ⟨_, List.getElem?_eq_getElem (by lia)⟩
  have e1 : ((T.arr.length : Int) - 1).toNat = T.arr.length - 1 := predN _
  have hh := lk _ _ (by lia) hv
  refine Pv.array L hT (Pg.arr hT (by lia) (by rw [e1]; exact hv) ⟨hT.pa v (List.mem_of_getElem? hv), brk2.bool (fun e => ?_) fun e => tl (.inr (by rw [hh]; exact fun z => by rw [z] at e; cases e))⟩)
  refine Whl.mk (fun m ls σ2 => σ2 = σ ∧ X2 fun (low last : Nat) => ∃ x, A6 (ls = [some (.ref t), some (.int last), some (.int low), x]) (low < last) (last ≤ T.arr.length) ((low = 0 ∨ look ν T (.int low) ≠ .none)) (look ν T (.int last) = .none) (m = last - low)) _
    ⟨rfl, 0, T.arr.length, _, rfl, by lia, Nat.le_refl _, .inl rfl, hh.trans (isNone_eq e), rfl⟩ ?_
  rintro m ls σ2 ⟨rfl, low, last, x, rfl, b4, b5, b6, b7, rfl⟩
  refine brk2.dec (fun hq => ?_) fun hq => ?_
  · have em : ((low : Int) + last).fdiv 2 = (((low + last) / 2 : Nat) : Int) := halfN _
    obtain ⟨v, hv2⟩ : ∃ v, T.arr[(low + last) / 2 - 1]? = some v := ⟨_, List.getElem?_eq_getElem (by lia)⟩
    have hl := lk _ _ (by lia) hv2
    have e2 : ((((low + last) / 2 : Nat) : Int) - 1).toNat = (low + last) / 2 - 1 := predN _
    have cm : ((last : Int) + low) = (low : Int) + last := Int.add_comm ..
    refine Pv.div (by decide) (by decide) ?_
    rw [em]
    refine Pv.array L hT (Pg.arr hT (by lia) (by rw [e2]; exact hv2) ⟨hT.pa v (List.mem_of_getElem? hv2), brk2.bool (fun e => ?_) fun e => ?_⟩)
    · exact ⟨_, by lia, rfl, low, (low + last) / 2, _, rfl, by lia, by lia, b6, hl.trans (isNone_eq e), rfl⟩
    · exact ⟨_, by lia, rfl, (low + last) / 2, last, _, rfl, by lia, by lia, .inr (by rw [hl]; exact fun z => by rw [z] at e; cases e), b7, rfl⟩
  · have : last = low + 1 := by lia
    subst this
    refine ⟨⟨_, rfl, by lia, by lia, b6.imp (fun h => by lia) id, ?_⟩, rfl⟩
    rw [show (low : Int) + 1 = ((low + 1 : Nat) : Int) by lia]; exact b7
end
/-- no buried keys -/
noncomputable def NoDead (ν : Nu) : Prop := ∀ a r, ν a = some r → r.kind ≠ 2
theorem NoDead.not {ν : Nu} {v : V} (h : NoDead ν) : isRef 2 (tag ν v) = false := by
  cases v with
  | ref a =>
    cases e : ν a with
    | none => show isRef 2 (match ν a with | some r => Tag.ref r.kind r.num | none => .bad) = _; rw [e]; rfl
    | some r => rw [tag_ref e]; exact beq_eq_false_iff_ne.mpr (h a r e)
  | _ => rfl
inductive Idx (ν : Nu) (T : Tb) (k : V) (j : Int) : Prop
  | none (hk : k = .none) (hj : j = -1)
  | arr (x : Int) (ht : tag ν k = .int x) (h1 : 1 ≤ x) (h2 : x ≤ (T.arr.length : Int)) (hj : j = x - 1)
  | nod (hk : k ≠ .none) (hi : inArr T (tag ν k) = false) (i : Nat) (ha : IsAt ν T (tag ν k) i) (hj : j = (T.arr.length : Int) + i)
structure NotIn (ν : Nu) (T : Tb) (k : V) : Prop where
  k0 : k ≠ .none
  arr : inArr T (tag ν k) = false
  nod : ∀ i, ¬ IsAt ν T (tag ν k) i
noncomputable def c_find_index_1 : Cd := .lit (.int (1)) <| .una .USub <| .ret
noncomputable def c_find_index_2 : Cd := .ld 2 <| .lit (.int (1)) <| .bin .Sub <| .ret
noncomputable def c_find_index_3 : Cd := .ld 0 <| .fld "array" <| .call (.bi "len") 1 <| .ld 3 <| .bin .Add <| .ret
noncomputable def c_find_index_4 : Cd := .ld 0 <| .fld "nodes" <| .ld 3 <| .ix <| .fld "next" <| .st 3 <| .fin
noncomputable def c_find_index_5 : Cd := .ld 4 <| .fld "number" <| .ld 1 <| .fld "number" <| .cmp .Eq <| .br (c_find_index_3) (c_find_index_4)
noncomputable def c_find_index_6 : Cd := .ld 1 <| .call (.ref 104) 1 <| .br (c_find_index_5) (c_find_index_4)
noncomputable def c_find_index_7 : Cd := .ld 4 <| .lit (.ref 149) <| .call (.bi "isinstance") 2 <| .br (c_find_index_6) (c_find_index_4)
noncomputable def c_find_index_8 : Cd := .ld 0 <| .fld "nodes" <| .ld 3 <| .ix <| .fld "key" <| .st 4 <| .ld 4 <| .ld 1 <| .call (.ref 111) 2 <| .br (c_find_index_3) (c_find_index_7)
noncomputable def c_find_index_9 : Cd := .ld 3 <| .lit (.int (0)) <| .cmp .GtE <| .br (c_find_index_8) (.brk)
noncomputable def c_find_index_10 : Cd := .ld 0 <| .mld cT "main_position" <| .ld 1 <| .call (.ref 224) 2 <| .st 3 <| .whl (c_find_index_9) (.raz)
noncomputable def c_find_index_11 : Cd := .lit (.int (1)) <| .una .USub <| .st 3 <| .whl (c_find_index_9) (.raz)
noncomputable def c_find_index_12 : Cd := .ld 0 <| .fld "nodes" <| .call (.bi "len") 1 <| .lit (.int (0)) <| .cmp .Gt <| .br (c_find_index_10) (c_find_index_11)
noncomputable def c_find_index_13 : Cd := .ld 0 <| .fld "array" <| .call (.bi "len") 1 <| .cmp .LtE <| .br (c_find_index_2) (c_find_index_12)
noncomputable def c_find_index_14 : Cd := .ld 1 <| .call (.ref 188) 1 <| .st 2 <| .lit (.int (1)) <| .ld 2 <| .chn .LtE (c_find_index_13) (c_find_index_12)
noncomputable def c_find_index : Cd := .ld 1 <| .isn true <| .br (c_find_index_1) (c_find_index_14)
section
variable {ν : Nu} {σ : MH} {t : Addr} {T : Tb} {k : V}
theorem find_index_ok (K : Knows σ ν) (hT : TR σ t T) (I : Inv ν T) (hnd : NoDead ν) (hk : AnyV ν k) : FnX 5 363 [.ref t, k] (fun r σ' => (∃ j, r = .int j ∧ Idx ν T k j) ∧ σ' = σ) (fun σ' => σ' = σ ∧ NotIn ν T k) σ := by
  refine FnX.go (ps := ["self", "key"]) (rest := ["at", "spot", "found"]) (code := c_find_index) (fun _ => by kernel_rfl) (fun _ => by kernel_rfl) (fun _ => args2 fun _ _ => by kernel_rfl) (fun _ => by kernel_rfl) rfl fun g L => ?_
  have hlen : (T.nds.length : Int) = T.n := rfl
  have ai := aidx_arr (ν := ν) (T := T) (k := k)
  refine ⟨hk.plain, brk2.bool (fun e1 => ⟨⟨-1, rfl, .none (isNone_eq e1) rfl⟩, rfl⟩) fun e1 => ?_⟩
  have k0 : k ≠ .none := fun z => by rw [z] at e1; cases e1
  have ht0 : tag ν k ≠ .nil := fun z => k0 ((tag_nil hk).mp z)
  obtain ⟨r, hr⟩ := I.gr.rank
  have tl : inArr T (tag ν k) = false → ∀ sp : Int, -1 ≤ sp → sp < T.n → (∀ i, IsAt ν T (tag ν k) i → 0 ≤ sp ∧ Rch (fun i => (T.nd i).next) sp.toNat i) →
      wp (.whl c_find_index_9 .raz) ⟨g, 4, fun σ' => σ' = σ ∧ NotIn ν T k⟩ (retC fun r σ' => (∃ j, r = .int j ∧ Idx ν T k j) ∧ σ' = σ) [] [some (.ref t), some k, some (.int (aidx k)), some (.int sp), none] σ := fun hin sp s1 s2 s3 => by
    refine Whl.mk (fun m ls σ1 => σ1 = σ ∧ ∃ at_ : Int, ∃ x, A5 (ls = [some (.ref t), some k, some (.int (aidx k)), some (.int at_), x]) (-1 ≤ at_) (at_ < T.n) ((∀ i, IsAt ν T (tag ν k) i → 0 ≤ at_ ∧ Rch (fun i => (T.nd i).next) at_.toNat i)) (m = if at_ < 0 then 0 else r at_.toNat + 1)) _ ⟨rfl, sp, _, rfl, s1, s2, s3, rfl⟩ ?_
    rintro m ls σ1 ⟨rfl, at_, x, rfl, a4, a5, a6, a7⟩
    refine brk2.dec (fun hp => ?_) fun hp => ⟨rfl, rfl, k0, hin, fun i hi => hp (a6 i hi).1⟩
    have lt : at_.toNat < T.n := by lia -abstractProof
    obtain ⟨ad, had⟩ := T.nd_get lt
    have hkey := I.keys _ lt
    have hnx := I.gr.rng _ lt
    refine Pv.nodes L hT (Pg.nod hT hp had (Pv.key L hT had (Pv.fn1 L (raw_equal_ok K hkey hk) rfl (brk2.dec (fun hq => ?_) fun hq => ?_))))
    · exact Pv.array L hT (Pv.lenA hT ⟨⟨(T.arr.length : Int) + at_, rfl, .nod k0 hin at_.toNat ⟨lt, hq⟩ (by lia -abstractProof)⟩, rfl⟩)
    · refine Pv.isD L K hkey ?_
      rw [hnd.not]
      refine Pv.nodes L hT (Pg.nod hT hp had (Pv.next L hT had ⟨_, ?_, rfl, (T.nd at_.toNat).next, _, rfl, hnx.1, hnx.2, fun i hi => ?_, rfl⟩))
      · rw [a7]
        by_cases z : (T.nd at_.toNat).next < 0
        · rw [if_pos z, if_neg (by lia -abstractProof)]; lia -abstractProof
        · rw [if_neg z, if_neg (by lia -abstractProof)]
          have := hr at_.toNat (T.nd at_.toNat).next.toNat lt (by lia -abstractProof) (by lia -abstractProof)
          lia -abstractProof
      · obtain ⟨b1, b2⟩ := a6 i hi
        obtain ⟨j, c1, c2⟩ := b2.next (fun z => hq (by rw [z]; exact hi.2))
        have c1 : (T.nd at_.toNat).next = (j : Int) := c1
        rw [c1]
        exact ⟨by lia -abstractProof, by simpa using c2⟩
  have tl2 : ¬ (1 ≤ aidx k ∧ aidx k ≤ (T.arr.length : Int)) → wp c_find_index_12 ⟨g, 4, fun σ' => σ' = σ ∧ NotIn ν T k⟩ (retC fun r σ' => (∃ j, r = .int j ∧ Idx ν T k j) ∧ σ' = σ) [] [some (.ref t), some k, some (.int (aidx k)), none, none] σ := fun h => by
    have hin : inArr T (tag ν k) = false := by rw [ai, decide_eq_false h]
    refine Pv.nodes L hT (Pv.lenN hT (brk2.dec (fun hz => ?_) fun hz => tl hin _ (Int.le_refl _) (show (-1 : Int) < T.n by lia -abstractProof) fun i hi => by have := hi.1; lia -abstractProof))
    have hq : ∃ q, T.n = 2 ^ q := I.sz.elim (fun h => absurd h (by lia -abstractProof)) fun ⟨q, _, h⟩ => ⟨q, h⟩
    have mr := mpos_range hq (tag ν k)
    refine Meth.tab hT rfl (Pv.fn1 L (main_position_ok K hT hq hk k0) rfl (tl hin _ (by lia -abstractProof) mr.2 fun i hi => ⟨mr.1, ?_⟩))
    obtain ⟨_, _, _, h4⟩ := I.gr.main i hi.1 (fun z => ht0 (by rw [← hi.2, z]; rfl))
    rw [hi.2] at h4
    exact h4
  refine Pv.fn1 L (array_index_ok K hk) rfl (brk2.dec (fun hp => Pv.array L hT (Pv.lenA hT (brk2.dec (fun hq => ?_) fun hq => tl2 fun z => hq z.2))) fun hp => tl2 fun z => hp z.1)
  exact ⟨⟨aidx k - 1, rfl, .arr _ (tag_aidx (T := T) (by rw [ai, decide_eq_true ⟨hp, hq⟩])) hp hq rfl⟩, rfl⟩
end
noncomputable def total (T : Tb) : Nat := T.arr.length + T.n
noncomputable def skey (T : Tb) (p : Nat) : V := if p < T.arr.length then .int ((p : Nat) + 1) else (T.nd (p - T.arr.length)).key
noncomputable def sval (T : Tb) (p : Nat) : V := if p < T.arr.length then T.arr.getD p .none else (T.nd (p - T.arr.length)).value
inductive NextR (T : Tb) (s : Int) (r : V) : Prop
  | fin (hr : r = .none) (h : ∀ p : Nat, s ≤ p → p < total T → sval T p = .none)
  | at_ (p : Nat) (h1 : s ≤ p) (h2 : p < total T) (hr : r = .tup [skey T p, sval T p]) (hv : sval T p ≠ .none) (h : ∀ q : Nat, s ≤ q → q < p → sval T q = .none)
theorem idx_ge {ν T k j} (h : Idx ν T k j) : -1 ≤ j ∧ j < total T := by
  unfold total
  cases h with
  | none _ h => lia -abstractProof
  | arr x _ h1 h2 h3 => lia -abstractProof
  | nod _ _ i h1 h => have := h1.1; lia -abstractProof
noncomputable def c_next_1 : Cd := .ld 2 <| .lit (.int (1)) <| .bin .Add <| .ld 0 <| .fld "array" <| .ld 2 <| .ix <| .tup 2 <| .ret
noncomputable def c_next_2 : Cd := .ld 2 <| .lit (.int (1)) <| .inp .Add <| .st 2 <| .fin
noncomputable def c_next_3 : Cd := .ld 0 <| .fld "array" <| .ld 2 <| .ix <| .isn false <| .br (c_next_1) (c_next_2)
noncomputable def c_next_4 : Cd := .ld 2 <| .ld 0 <| .fld "array" <| .call (.bi "len") 1 <| .cmp .Lt <| .br (c_next_3) (.brk)
noncomputable def c_next_5 : Cd := .ld 4 <| .fld "key" <| .ld 4 <| .fld "value" <| .tup 2 <| .ret
noncomputable def c_next_6 : Cd := .ld 3 <| .lit (.int (1)) <| .inp .Add <| .st 3 <| .fin
noncomputable def c_next_7 : Cd := .ld 0 <| .fld "nodes" <| .ld 3 <| .ix <| .st 4 <| .ld 4 <| .fld "value" <| .isn false <| .br (c_next_5) (c_next_6)
noncomputable def c_next_8 : Cd := .ld 3 <| .ld 0 <| .fld "nodes" <| .call (.bi "len") 1 <| .cmp .Lt <| .br (c_next_7) (.brk)
noncomputable def c_next_9 : Cd := .lit .none <| .ret
noncomputable def c_next_10 : Cd := .ld 2 <| .ld 0 <| .fld "array" <| .call (.bi "len") 1 <| .bin .Sub <| .st 3 <| .whl (c_next_8) (c_next_9)
noncomputable def c_next : Cd := .ld 0 <| .mld cT "find_index" <| .ld 1 <| .call (.ref 363) 2 <| .lit (.int (1)) <| .bin .Add <| .st 2 <| .whl (c_next_4) (c_next_10)
noncomputable def c_set_1 : Cd := .ld 0 <| .mld cT "put" <| .ld 1 <| .ld 2 <| .ld 3 <| .call (.ref 287) 4 <| .pop <| .fin
noncomputable def c_set : Cd := .lit (.int (0)) <| .ld 0 <| .stf "flags" <| .ld 1 <| .isn true <| .br (.raz) (c_set_1)
noncomputable def c_set_int : Cd := .ld 0 <| .mld cT "put" <| .ld 1 <| .ld 2 <| .ld 3 <| .call (.ref 287) 4 <| .pop <| .fin
section
variable {ν : Nu} {σ : MH} {t : Addr} {T : Tb} {k v : V}
theorem next_ok (K : Knows σ ν) (hT : TR σ t T) (I : Inv ν T) (hnd : NoDead ν) (hk : AnyV ν k) : FnX 6 370 [.ref t, k] (fun r σ' => (∃ j, Idx ν T k j ∧ NextR T (j + 1) r) ∧ σ' = σ) (fun σ' => σ' = σ ∧ NotIn ν T k) σ := by
  refine FnX.go (ps := ["self", "key"]) (rest := ["at", "spot", "node"]) (code := c_next) (fun _ => by kernel_rfl) (fun _ => by kernel_rfl) (fun _ => args2 fun _ _ => by kernel_rfl) (fun _ => by kernel_rfl) rfl fun g L => ?_
  have hlen : (T.nds.length : Int) = T.n := rfl
  refine Meth.tab hT rfl (Pv.fnX L (find_index_ok K hT I hnd hk) rfl ?_ fun _ h => h)
  rintro _ σ0 ⟨⟨j, rfl, hj⟩, rfl⟩
  have jg := idx_ge hj
  have avl : ∀ q : Nat, q < T.arr.length → ∀ v, T.arr[q]? = some v → sval T q = v := fun q h1 v h2 => by
    unfold sval; rw [if_pos h1, List.getD_eq_getElem?_getD, h2]; rfl
  refine Whl.mk (fun m ls σ1 => σ1 = σ0 ∧ ∃ at_ : Nat, A5 (ls = [some (.ref t), some k, some (.int at_), none, none]) (j + 1 ≤ at_) (at_ ≤ total T) ((∀ q : Nat, j + 1 ≤ q → q < at_ → sval T q = .none)) (m = total T - at_)) _
    ⟨rfl, (j + 1).toNat, by rw [Int.toNat_of_nonneg (by lia -abstractProof)]; rfl, by lia -abstractProof, by lia -abstractProof, fun q h1 h2 => by lia -abstractProof, rfl⟩ ?_
  rintro m ls σ1 ⟨rfl, at_, rfl, a3, a4, a5, rfl⟩
  refine Pv.array L hT (Pv.lenA hT (brk2.dec (fun hp => ?_) fun hp => ?_))
  · have hp' : at_ < T.arr.length := by lia -abstractProof
    obtain ⟨v, hv⟩ : ∃ v, T.arr[at_]? = some v := ⟨_, List.getElem?_eq_getElem hp'⟩
    have hsv := avl at_ hp' v hv
    have gt : ∀ {K : V → MH → Prop}, K v σ1 → Pg ⟨g, 5, noX⟩ (.ref T.aa) (.int at_) K σ1 := fun h => Pg.arr hT (Int.natCast_nonneg _) (by rw [Int.toNat_natCast]; exact hv) h
    refine Pv.array L hT (gt ⟨hT.pa v (List.mem_of_getElem? hv), brk2.bool (fun e => ?_) fun e => ?_⟩)
    · refine Pv.array L hT (gt ⟨⟨j, hj, .at_ at_ a3 (by unfold total; lia -abstractProof) ?_ (by rw [hsv]; exact isSome_ne e) a5⟩, rfl⟩)
      rw [hsv]; unfold skey; rw [if_pos hp']
    · have e : v = .none := isNone_nn e
      refine ⟨total T - (at_ + 1), ?_, rfl, at_ + 1, rfl, by lia -abstractProof, by unfold total; lia -abstractProof, fun q h1 h2 => ?_, rfl⟩
      · unfold total at *; lia -abstractProof
      · by_cases z : q = at_
        · rw [z, hsv, e]
        · exact a5 q h1 (by lia -abstractProof)
  · have hp' : T.arr.length ≤ at_ := by lia -abstractProof
    refine Pv.array L hT (Pv.lenA hT ?_)
    refine Whl.mk (fun m ls σ2 => σ2 = σ1 ∧ ∃ s : Nat, ∃ x, A5 (ls = [some (.ref t), some k, some (.int at_), some (.int s), x]) (j + 1 ≤ T.arr.length + s) (s ≤ T.n) ((∀ q : Nat, j + 1 ≤ q → q < T.arr.length + s → sval T q = .none)) (m = T.n - s)) _
      ⟨rfl, at_ - T.arr.length, _, by rw [show ((at_ - T.arr.length : Nat) : Int) = (at_ : Int) - T.arr.length by lia -abstractProof]; rfl, by lia -abstractProof, by unfold total at a4; lia -abstractProof, fun q h1 h2 => a5 q h1 (by lia -abstractProof), rfl⟩ ?_
    rintro m ls σ2 ⟨rfl, s, x, rfl, b3, b4, b5, rfl⟩
    refine Pv.nodes L hT (Pv.lenN hT (brk2.dec (fun hq => ?_) fun hq => ⟨⟨j, hj, .fin rfl fun p h1 h2 => b5 p h1 (by unfold total at h2; lia -abstractProof)⟩, rfl⟩))
    have lt : s < T.n := by lia -abstractProof
    obtain ⟨ad, had⟩ := T.nd_get lt
    have sv : sval T (T.arr.length + s) = (T.nd s).value := by unfold sval; rw [if_neg (by lia -abstractProof), Nat.add_sub_cancel_left]
    have sk : skey T (T.arr.length + s) = (T.nd s).key := by unfold skey; rw [if_neg (by lia -abstractProof), Nat.add_sub_cancel_left]
    refine Pv.nodes L hT (Pg.nod hT (Int.natCast_nonneg s) (by rw [Int.toNat_natCast]; exact had) (Pv.value L hT had ⟨(hT.pn _ (List.mem_of_getElem? had)).2, brk2.bool (fun e => ?_) fun e => ?_⟩))
    · exact Pv.key L hT had (Pv.value L hT had ⟨⟨j, hj, .at_ (T.arr.length + s) (by lia -abstractProof) (by unfold total; lia -abstractProof) (by rw [sv, sk]) (by rw [sv]; exact isSome_ne e) b5⟩, rfl⟩)
    · have e : (T.nd s).value = .none := isNone_nn e
      refine ⟨T.n - (s + 1), by lia -abstractProof, rfl, s + 1, _, rfl, by lia -abstractProof, by lia -abstractProof, fun q h1 h2 => ?_, rfl⟩
      by_cases z : q = T.arr.length + s
      · rw [z, sv, e]
      · exact b5 q h1 (by lia -abstractProof)
theorem Inv.flags {v} (I : Inv ν T) : Inv ν { T with flags := v } := ⟨I.sz, I.sa, I.fr, I.keys, I.vals, I.gr, I.full, I.uniq, I.out⟩
/-- set, with a key -/
theorem set_ok (K : Knows σ ν) (hν : ν t = none) (hT : TR σ t T) (I : Inv ν T) (hk : AnyV ν k) (hp : proper (tag ν k) = true) (hv : v.plain = true) (hB : lives T + 1 ≤ 2 ^ 19) :
    Fn 11 266 [.ref t, k, v, .none] (fun r σ' => r = .none ∧ ∃ T', PutG ν σ t T k v σ' T' ∧ (inArr T (tag ν k) = true ∨ HasKey ν T (tag ν k) → SameKeys T T')) σ := by
  refine Fn.go (ps := ["self", "key", "value", "heap"]) (rest := []) (code := c_set) (fun _ => by kernel_rfl) (fun _ => by kernel_rfl) (fun _ => args4 fun _ _ _ _ => by kernel_rfl) (fun _ => by kernel_rfl) rfl fun g L => ?_
  refine Pu.flags L hT fun σ1 hT1 m1 => ⟨hk.plain, brk2.bool (fun e => absurd (isNone_eq e) (tnn hp)) fun e => Meth.tab hT1 rfl (Pv.fn L (put_ok (K.mv hT m1 hν) hν hT1 I.flags hk hp hv hB) rfl ?_)⟩
  rintro _ σ2 ⟨rfl, T', q, sk⟩
  exact ⟨rfl, T', ⟨q.tr, m1.trans q.mv, q.ins.inv, q.ins.look, q.ins.keys, q.ins.lives⟩, fun h => let s := sk h; ⟨s.arr, s.n, s.key⟩⟩
theorem set_nil_ok (hT : TR σ t T) : FnX 3 266 [.ref t, .none, v, .none] (fun _ _ => False) (fun σ' => TR σ' t { T with flags := .int 0 } ∧ Mv σ t T σ' { T with flags := .int 0 }) σ :=
  FnX.go (ps := ["self", "key", "value", "heap"]) (rest := []) (code := c_set) (fun _ => by kernel_rfl) (fun _ => by kernel_rfl) (fun _ => args4 fun _ _ _ _ => by kernel_rfl) (fun _ => by kernel_rfl) rfl fun g L => Pu.flags L hT fun σ1 hT1 m1 => ⟨rfl, rfl, hT1, m1⟩
theorem set_int_ok {n : Int} (K : Knows σ ν) (hν : ν t = none) (hT : TR σ t T) (I : Inv ν T) (hv : v.plain = true) (hB : lives T + 1 ≤ 2 ^ 19) :
    Fn 11 273 [.ref t, .int n, v, .none] (fun r σ' => r = .none ∧ ∃ T', PutG ν σ t T (.int n) v σ' T' ∧ (inArr T (.int n) = true ∨ HasKey ν T (.int n) → SameKeys T T')) σ :=
  Fn.go (ps := ["self", "n", "value", "heap"]) (rest := []) (code := c_set_int) (fun _ => by kernel_rfl) (fun _ => by kernel_rfl) (fun _ => args4 fun _ _ _ _ => by kernel_rfl) (fun _ => by kernel_rfl) rfl fun g L => Meth.tab hT rfl (Pv.fn L (put_ok K hν hT I (.int n) rfl hv hB) rfl fun v σ' h => ⟨rfl, h.2⟩)
end
/-! the law's own small functions -/
theorem Fn.goC {fn : Addr} {ps rest : List Str} {code : Cd} {d : Nat} {args : List V} {Q : V → MH → Prop} {σ : MH} (H : ∀ P, fnChk (hd.heap_1 P) fn ps = true)
    (hb : ∀ P (rargs : List Value), rargs.length = args.length → bindArgs (fnAt (hd.heap_1 P) fn) ⟨rargs, []⟩ = pure (ps.zip rargs)) (hc : ∀ P, codeOf theTabs (hd.heap_1 P) fn (ps ++ rest) = some code) (hn : ps.length = args.length)
    (h : ∀ g, Law g → wp code ⟨g, d, noX⟩ (retC Q) [] (pad args rest) σ) : Fn (d + 1) fn args Q σ := fun g L =>
  WCall.goC (tabs_ok L) L.cX (by rw [L.K]; exact H _) hn (fun rargs hl => by rw [L.K]; exact hb _ _ hl) (by rw [L.K]; exact hc _) (h g L)
noncomputable def tagV : Tag → V
  | .int i => .tup [.int 0, .int i]
  | .bool b => .tup [.int 1, .int (if b = true then 1 else 0)]
  | .bytes l => .tup [.int 2, .bytes l.toArray]
  | .ref _ n => .tup [.int 3, .int n]
  | _ => .none
/-- the keys of this law -/
inductive LTag : Tag → Prop
  | int (i : Int) : LTag (.int i)
  | bool (b : Bool) : LTag (.bool b)
  | bytes (l : List UInt8) : LTag (.bytes l)
  | ref (n : Int) : LTag (.ref 0 n)
theorem LTag.proper {t} (h : LTag t) : proper t = true := by cases h <;> rfl
theorem LTag.cq {t u} (h : LTag t) (k : LTag u) : Cq 1 (tagV t) (tagV u) := by
  cases h <;> cases k <;> exact .tt (CqL.cons (.ii _ _) (CqL.cons (by constructor) CqL.l))
theorem tup2_inj {a b c d : V} (h : V.tup [a, b] = .tup [c, d]) : a = c ∧ b = d := by cases h; exact ⟨rfl, rfl⟩
theorem LTag.inj {t u} (h : LTag t) (k : LTag u) (e : tagV t = tagV u) : t = u := by
  cases h <;> cases k <;> first | (cases (tup2_inj e).1; done) | skip
  · cases (tup2_inj e).2; rfl
  · rename_i b c; cases b <;> cases c <;> first | rfl | cases (tup2_inj e).2
  · cases (tup2_inj e).2; rfl
  · cases (tup2_inj e).2; rfl
theorem LTag.veq {t u} (h : LTag t) (k : LTag u) : veq (tagV t) (tagV u) = decide (t = u) := veq_dec ⟨h.inj k, fun e => e ▸ rfl⟩
theorem LTag.tup {t} (h : LTag t) : ∃ xs, tagV t = .tup xs := by cases h <;> exact ⟨_, rfl⟩
/-- keys whose kinds this law knows -/
structure LKey (ν : Nu) (k : V) : Prop where
  any : AnyV ν k
  lt : LTag (tag ν k)
theorem LKey.proper {ν k} (h : LKey ν k) : proper (tag ν k) = true := h.lt.proper
/-- values of this law -/
inductive LVal : V → Prop
  | none : LVal .none
  | bool (b : Bool) : LVal (.bool b)
  | int (i : Int) : LVal (.int i)
  | bytes (b : Array UInt8) : LVal (.bytes b)
theorem LVal.plain {v} (h : LVal v) : v.plain = true := by cases h <;> rfl
/-- the pairs that the law keeps -/
noncomputable abbrev Prs := List (Tag × V)
noncomputable def prV (P : Prs) : List V := P.map fun p => .tup [tagV p.1, p.2]
noncomputable def findP (P : Prs) (t : Tag) : V := ((P.find? fun p => decide (p.1 = t)).map (·.2)).getD .none
noncomputable def putP (P : Prs) (t : Tag) (v : V) : Prs := P.filter (fun p => decide (p.1 ≠ t)) ++ if isNone v = true then [] else [(t, v)]
noncomputable def POk (P : Prs) : Prop := ∀ p ∈ P, LTag p.1 ∧ LVal p.2
theorem findP_cons (p : Tag × V) (P : Prs) (t : Tag) : findP (p :: P) t = if p.1 = t then p.2 else findP P t := by
  unfold findP
  rw [List.find?_cons]
  by_cases e : p.1 = t
  · rw [decide_eq_true e, if_pos e]; rfl
  · rw [decide_eq_false e, if_neg e]
theorem prV_snoc (P : Prs) (p : Tag × V) : prV (P ++ [p]) = prV P ++ [.tup [tagV p.1, p.2]] := List.map_append
noncomputable abbrev Grow (σ σ' : MH) : Prop := ∀ b o, σ b = some o → σ' b = some o
/-- a comprehension that adds objects alone -/
theorem CmpL.fm {α : Type} {step : V → (Fw → Ls → MH → Prop) → MH → Prop} {K : V → MH → Prop} {σ : MH} {Inv : MH → Prop} (xs : List α) (g : α → V) (c : α → Bool) (g' : α → V) (hz : xs.length ≤ 2 ^ 22) (hI : ∀ σ', Grow σ σ' → Inv σ')
    (turn : ∀ x σ' Q, x ∈ xs → Grow σ σ' → (c x = false → ∀ ls σ'', Grow σ' σ'' → Q .cont ls σ'') → (c x = true → ∀ ls σ'', Grow σ' σ'' → Q (.ret (g' x)) ls σ'') → step (g x) Q σ')
    (fin : ∀ D σ', σ D = none → Grow σ σ' → σ' D = some (.list ((xs.filter c).map g')) → K (.ref D) σ') : CmpL step K σ (xs.map g) Inv := by
  refine CmpL.mk (fun D k acc σ' => σ' D = some (.list acc) ∧ acc = ((xs.take k).filter c).map g' ∧ Grow σ σ') (fun D hD => ⟨upd_same .., rfl, fun b o e => (upd_ne _ _ fun z => by rw [z, hD] at e; cases e).trans e⟩)
    (fun D k acc σ2 ⟨a1, e, a3⟩ => ⟨hI _ a3, a1, ?_⟩) (fun D k v acc σ2 hD hv ⟨a1, e, a3⟩ => ?_) fun D acc σ2 hD ⟨a1, e, a3⟩ => fin D σ2 hD a3 ?_
  · rw [e, List.length_map]
    have := List.length_filter_le c (xs.take k)
    rw [List.length_take] at this
    lia -abstractProof
  · rw [List.getElem?_map] at hv
    obtain ⟨x, hx, rfl⟩ := Option.map_eq_some_iff.mp hv
    refine turn x σ2 _ (List.mem_of_getElem? hx) a3 (fun hn _ σ4 k4 => ⟨k4 _ _ a1, ?_, fun b o h => k4 b o (a3 b o h)⟩) fun hr _ σ4 k4 => ⟨k4 _ _ a1, upd_same .., ?_, fun b o hb => (upd_ne _ _ fun z => by rw [z, hD] at hb; cases hb).trans (k4 b o (a3 b o hb))⟩
    · rw [List.take_succ, hx, List.filter_append, e]
      show _ = List.map g' (_ ++ List.filter c [x])
      rw [List.filter_cons_of_neg (by rw [hn]; exact Bool.false_ne_true), List.filter_nil, List.append_nil]
    · rw [List.take_succ, hx, List.filter_append, e]
      show _ = List.map g' (_ ++ List.filter c [x])
      rw [List.filter_cons_of_pos hr, List.filter_nil, List.map_append]; rfl
  · rw [a1, e, List.length_map, List.take_length]
noncomputable def c__law_tag_1 : Cd := .lit (.int (1)) <| .ld 0 <| .call (.typ "int") 1 <| .tup 2 <| .ret
noncomputable def c__law_tag_2 : Cd := .lit (.int (0)) <| .ld 0 <| .tup 2 <| .ret
noncomputable def c__law_tag_3 : Cd := .lit (.int (2)) <| .ld 0 <| .tup 2 <| .ret
noncomputable def c__law_tag_4 : Cd := .lit (.int (3)) <| .ld 0 <| .fld "number" <| .tup 2 <| .ret
noncomputable def c__law_tag_5 : Cd := .ld 0 <| .lit (.typ "bytes") <| .call (.bi "isinstance") 2 <| .br (c__law_tag_3) (c__law_tag_4)
noncomputable def c__law_tag_6 : Cd := .ld 0 <| .lit (.typ "int") <| .call (.bi "isinstance") 2 <| .br (c__law_tag_2) (c__law_tag_5)
noncomputable def c__law_tag : Cd := .ld 0 <| .lit (.typ "bool") <| .call (.bi "isinstance") 2 <| .br (c__law_tag_1) (c__law_tag_6)
noncomputable def c__law_find_1 : Cd := .unp false [2, 3] <| .ld 2 <| .ld 1 <| .cmp .Eq <| .br (.ld 3 <| .ret) (.fin)
noncomputable def c__law_find_2 : Cd := .lit .none <| .ret
noncomputable def c__law_find : Cd := .ld 0 <| .forl 0 1 (c__law_find_1) (c__law_find_2)
noncomputable def c__law_put_1 : Cd := .ld 0 <| .lit (.int (0)) <| .ix <| .ld 1 <| .cmp .NotEq <| .br (.ld 0 <| .ret) (.cnt)
noncomputable def c__law_put_2 : Cd := .ld 3 <| .ld 1 <| .ld 2 <| .tup 2 <| .lst 1 <| .bin .Add <| .ret
noncomputable def c__law_put : Cd := .ld 0 <| .comp 0 1 [1] (c__law_put_1) <| .st 3 <| .ld 2 <| .isn true <| .br (.ld 3 <| .ret) (c__law_put_2)
noncomputable def c__law_is_same_1 : Cd := .ld 0 <| .ld 1 <| .cmp .Eq <| .ret
noncomputable def c__law_is_same_2 : Cd := .lit (.bool false) <| .ret
noncomputable def c__law_is_same : Cd := .ld 0 <| .lit (.typ "bool") <| .call (.bi "isinstance") 2 <| .ld 1 <| .lit (.typ "bool") <| .call (.bi "isinstance") 2 <| .cmp .Eq <| .br (c__law_is_same_1) (c__law_is_same_2)
section
variable {ν : Nu} {σ : MH} {E : En} {a b : V}
/-- tags are compared -/
theorem cmp_tag {k Q s ls t u} (h1 : LTag t) (h2 : LTag u) (h : wp k E Q (.bool (decide (t = u)) :: s) ls σ) : wp (.cmp .Eq k) E Q (tagV u :: tagV t :: s) ls σ := cmp_eq (h1.cq h2) (by decide) (by rw [h1.veq h2]; exact h)
theorem cmp_neTag {k Q s ls t u} (h1 : LTag t) (h2 : LTag u) (h : wp k E Q (.bool (!decide (t = u)) :: s) ls σ) : wp (.cmp .NotEq k) E Q (tagV u :: tagV t :: s) ls σ := by
  obtain ⟨xs, e1⟩ := h1.tup
  obtain ⟨ys, e2⟩ := h2.tup
  have c := h1.cq h2
  have v := h1.veq h2
  rw [e1, e2] at c v
  rw [e1, e2]
  exact ⟨fun _ _ => PV.neTup c (by decide) (by rw [v]; exact h)⟩
theorem law_tag_ok {k} (K : Knows σ ν) (hk : LKey ν k) : Fn 1 424 [k] (fun r σ' => r = tagV (tag ν k) ∧ σ' = σ) σ := by
  refine Fn.go (ps := ["key"]) (rest := []) (code := c__law_tag) (fun _ => by kernel_rfl) (fun _ => by kernel_rfl) (fun _ => args1 fun _ => by kernel_rfl) (fun _ => by kernel_rfl) rfl fun g L => ?_
  obtain ⟨ha, hl⟩ := hk
  refine Pv.isB L K ha ?_
  cases ha with
  | none => cases hl
  | bool b => exact Pv.intB ⟨rfl, rfl⟩
  | int i => exact Pv.isI L K (.int i) ⟨rfl, rfl⟩
  | bytes b hb => exact Pv.isI L K (.bytes b hb) (Pv.isY L K (.bytes b hb) ⟨rfl, rfl⟩)
  | ref a r h =>
    have e := tag_ref h
    refine Pv.isI L K (.ref a r h) (Pv.isY L K (.ref a r h) (Pv.num L K e ⟨?_, rfl⟩))
    rw [e]; rfl
theorem law_is_same_ok {v} (K : Knows σ ν) (hv : LVal v) : Fn 1 471 [v, v] (fun r σ' => r = .bool true ∧ σ' = σ) σ := by
  refine Fn.go (ps := ["one", "other"]) (rest := []) (code := c__law_is_same) (fun _ => by kernel_rfl) (fun _ => by kernel_rfl) (fun _ => args2 fun _ _ => by kernel_rfl) (fun _ => by kernel_rfl) rfl fun g L => ?_
  have isb : ∀ {K : V → MH → Prop}, K (.bool (isBool v)) σ → Pv ⟨g, 0, noX⟩ tcall [.bi "isinstance", v, .typ "bool"] K σ := fun h => by
    cases hv with
    | none => exact Pv.isB L K .none h
    | bool b => exact Pv.isB L K (.bool b) h
    | int i => exact Pv.isB L K (.int i) h
    | bytes b => exact clsVal (.typ "bool") L.isB.val _ (.bytes b) L.isB.y rfl h
  have c : Cq 0 v v := by cases hv <;> constructor
  refine isb (isb (cmp_eq (.bb _ _) (Nat.zero_le _) ?_))
  rw [veq_iff.mpr rfl]
  exact cmp_eq c (Nat.zero_le _) ⟨by rw [veq_iff.mpr rfl], rfl⟩
theorem law_find_ok {pa P t} (hP : σ pa = some (.list (prV P))) (ok : POk P) (ht : LTag t) : Fn 1 431 [.ref pa, tagV t] (fun r σ' => r = findP P t ∧ σ' = σ) σ := by
  refine Fn.go (ps := ["pairs", "tag"]) (rest := ["known", "what"]) (code := c__law_find) (fun _ => by kernel_rfl) (fun _ => by kernel_rfl) (fun _ => args2 fun _ _ => by kernel_rfl) (fun _ => by kernel_rfl) rfl fun g L => ?_
  refine It.val _ _ _ (.list pa _ (.inl hP)) (ForL.mk (fun k ls σ1 => σ1 = σ ∧ X2 fun x y => ls = [some (.ref pa), some (tagV t), x, y] ∧ findP P t = findP (P.drop k) t) ⟨rfl, _, _, rfl, rfl⟩ (fun k ls σ1 h => by rw [h.1]; exact .inl hP) ?_ ?_)
  · rintro k x ls σ1 hx ⟨rfl, y, z, rfl, a2⟩
    unfold prV at hx
    rw [List.getElem?_map] at hx
    obtain ⟨p, hp, rfl⟩ := Option.map_eq_some_iff.mp hx
    obtain ⟨lt, e⟩ := List.getElem?_eq_some_iff.mp hp
    have hp' := ok p (List.mem_of_getElem? hp)
    rw [List.drop_eq_getElem_cons lt, e, findP_cons] at a2
    refine cmp_tag hp'.1 ht (brk2.dec (fun e => ?_) fun e => ?_)
    · rw [if_pos e] at a2; exact ⟨a2.symm, rfl⟩
    · rw [if_neg e] at a2; exact ⟨rfl, _, _, rfl, a2⟩
  · rintro ls σ1 ⟨rfl, y, z, rfl, a2⟩
    rw [List.drop_of_length_le (by unfold prV; rw [List.length_map]; exact Nat.le_refl _)] at a2
    exact ⟨a2.symm, rfl⟩
theorem Pv.addList {E : En} {K : V → MH → Prop} {a b xs ys} {σ : MH} (ha : lst σ a xs) (hb : lst σ b ys) (hz : xs.length + ys.length ≤ 2 ^ 24) (h : ∀ c, σ c = none → K (.ref c) (upd σ c (.list (xs ++ ys)))) : Pv E (t2 (binaryOp .Add)) [.ref a, .ref b] K σ := ⟨fun _ _ => PV.addList ha hb hz h⟩
theorem law_put_ok {pa P t v} (hP : σ pa = some (.list (prV P))) (hz : P.length ≤ 2 ^ 20) (ok : POk P) (ht : LTag t) (hv : LVal v) : Fn 2 436 [.ref pa, tagV t, v] (fun r σ' => ∃ a, A4 (r = .ref a) (σ a = none) (σ' a = some (.list (prV (putP P t v)))) (∀ b o, σ b = some o → σ' b = some o)) σ := by
  refine Fn.goC (ps := ["pairs", "tag", "what"]) (rest := ["left"]) (code := c__law_put) (fun _ => by kernel_rfl) (fun _ => args3 fun _ _ _ => by kernel_rfl) (fun _ => by kernel_rfl) rfl fun g L => ?_
  have lz := List.length_filter_le (fun p : Tag × V => decide (p.1 ≠ t)) P
  refine It.val _ _ _ (.list pa _ (.inl hP)) (CmpL.fm P _ (fun p => decide (p.1 ≠ t)) (fun p => .tup [tagV p.1, p.2]) (Nat.le_trans hz (by decide)) (fun σ' k => .inl (k _ _ hP)) (fun p σ' Q hp k h0 h1 => ?_) fun D σ2 hD a3 a1 => ?_)
  · refine Pg.tup (by decide) (by decide) rfl (cmp_neTag (ok p hp).1 ht (brk2.nd (fun e => h1 (decide_eq_true e) _ _ fun _ _ h => h) fun e => h0 (decide_eq_false fun z => z e) _ _ fun _ _ h => h))
  · have a1 : σ2 D = some (.list (prV (P.filter fun p => decide (p.1 ≠ t)))) := a1
    refine ⟨hv.plain, brk2.bool (fun e => ⟨D, rfl, hD, ?_, a3⟩) fun e => ?_⟩
    · have e : isNone v = true := e
      unfold putP; rw [if_pos e, List.append_nil]; exact a1
    · intro b hb
      have k1 : ∀ x o, σ2 x = some o → upd σ2 b (.list [.tup [tagV t, v]]) x = some o := fun x o e => (upd_ne _ _ fun z => by rw [z, hb] at e; cases e).trans e
      refine Pv.addList (.inl (k1 _ _ a1)) (.inl (upd_same ..)) (by unfold prV; rw [List.length_map]; exact Nat.le_trans (Nat.add_le_add (Nat.le_trans lz hz) (Nat.le_refl 1)) (by decide)) fun c hc => ?_
      have e : isNone v = false := e
      have c0 : σ c = none := isNone_of fun o w => by rw [k1 _ _ (a3 _ _ w)] at hc; cases hc
      refine ⟨c, rfl, c0, ?_, fun x o hx => (upd_ne _ _ fun z => by rw [z, c0] at hx; cases hx).trans (k1 _ _ (a3 x o hx))⟩
      rw [upd_same]
      unfold putP; rw [if_neg (by rw [e]; exact Bool.false_ne_true), prV_snoc]
end
/-! a new table -/
noncomputable def c_HeapObject_init : Cd := .ld 1 <| .ld 0 <| .stf "number" <| .lit (.int (0)) <| .ld 0 <| .stf "mark" <| .ld 2 <| .ld 0 <| .stf "size" <| .fin
noncomputable def c_Table_init_1 : Cd := .ld 0 <| .mld cT "resize" <| .ld 2 <| .ld 3 <| .call (.ref 330) 3 <| .pop <| .fin
noncomputable def c_Table_init_2 : Cd := .ld 3 <| .lit (.int (0)) <| .cmp .Gt <| .br (c_Table_init_1) (.fin)
noncomputable def c_Table_init : Cd := .ld 0 <| .ld 1 <| .lit (.int (56)) <| .call (.ref 55) 3 <| .pop <| .lit .none <| .ld 0 <| .stf "meta" <| .lit (.int (0)) <| .ld 0 <| .stf "flags" <| .lit (.bytes [].toArray) <| .ld 0 <| .stf "weak" <| .lst 0 <| .ld 0 <| .stf "array" <| .lst 0 <| .ld 0 <| .stf "nodes" <| .lit (.int (0)) <| .ld 0 <| .stf "log_nodes" <| .lit (.int (0)) <| .ld 0 <| .stf "free" <| .ld 2 <| .lit (.int (0)) <| .cmp .Gt <| .br (c_Table_init_1) (c_Table_init_2)
noncomputable def c_resize_array : Cd := .ld 0 <| .mld cT "resize" <| .ld 1 <| .ld 0 <| .fld "nodes" <| .call (.bi "len") 1 <| .ld 2 <| .call (.ref 330) 4 <| .pop <| .fin
noncomputable def tb0 (num : Int) (aa nn : Addr) : Tb := ⟨num, .int 0, .int 56, .none, .int 0, .bytes [].toArray, aa, [], nn, [], .int 0, 0⟩
/-- an empty table -/
structure NewT (ν : Nu) (σ : MH) (a : Addr) (num : Int) (σ' : MH) (T : Tb) : Prop where
  tr : TR σ' a T
  inv : Inv ν T
  look : ∀ t, proper t = true → Mn.look ν T t = .none
  nokey : ∀ t, proper t = true → ¬ HasKey ν T t
  lives : Mn.lives T = 0
  num : T.num = num
  keep : ∀ b o, σ b = some o → σ' b = some o
  fresh : ∀ b, foot a T b → σ b = none
theorem binds_table2 : ∀ P (s : Shared) (rargs : List Value), (hd.heap_1 P).In s.heap → rargs.length = 2 → ∃ rdv, BindsTo s (fnAt (hd.heap_1 P) 217) ⟨rargs, []⟩ ((["self", "number", "array_size", "hash_size"] : List Str).zip (rargs ++ rdv)) ∧ ∀ h, VsRel h [V.int 0, V.int 0] rdv := fun P s rargs h =>
  args2 (P := fun rargs => ∃ rdv, BindsTo s (fnAt (hd.heap_1 P) 217) ⟨rargs, []⟩ ((["self", "number", "array_size", "hash_size"] : List Str).zip (rargs ++ rdv)) ∧ ∀ h, VsRel h [V.int 0, V.int 0] rdv) (fun x y => by
    obtain ⟨t1, t2, t3, n, o, ho, hd⟩ : X5 fun t1 t2 t3 n o => (hd.heap_1 P).lookup 210 = some o ∧ o.data = .seq #[.int 0 t1, .int 0 t2, .int 0 t3] n := ⟨_, _, _, _, _, rfl, rfl⟩
    exact ⟨[.int 0 t2, .int 0 t3], fnAt_of (P := fun fd => BindsTo s fd ⟨[x, y], []⟩ _) ⟨_, _, _, _, rfl, BindsTo.of_defaults (T := 210) rfl (h 210 _ ho) hd rfl rfl⟩, fun _ => .cons (.int ..) (.cons (.int ..) .nil)⟩) rargs
theorem binds_table4 : ∀ P (s : Shared) (rargs : List Value), (hd.heap_1 P).In s.heap → rargs.length = 4 → ∃ rdv, BindsTo s (fnAt (hd.heap_1 P) 217) ⟨rargs, []⟩ ((["self", "number", "array_size", "hash_size"] : List Str).zip (rargs ++ rdv)) ∧ ∀ h, VsRel h [] rdv := fun P s rargs h =>
  args4 (P := fun rargs => ∃ rdv, BindsTo s (fnAt (hd.heap_1 P) 217) ⟨rargs, []⟩ ((["self", "number", "array_size", "hash_size"] : List Str).zip (rargs ++ rdv)) ∧ ∀ h, VsRel h [] rdv) (fun x y z w => ⟨[], fnAt_of (P := fun fd => BindsTo s fd ⟨[x, y, z, w], []⟩ _) ⟨_, _, _, _, rfl, BindsTo.of_defaults (T := 210) rfl (h 210 _ rfl) rfl rfl rfl⟩, fun _ => .nil⟩) rargs
section
variable {ν : Nu} {σ : MH} {a b : Addr} {fs : List (Str × V)} {x : Str} {v : V} {KK : MH → Prop}
theorem Pu.put {E : En} (L : Law E.g) (hk : (["number", "mark", "size", "meta", "flags", "weak", "array", "nodes", "log_nodes", "free"] : List Str).contains x = true) (hz : Nat.ble fs.length 900 = true) (h : KK (upd σ a (.inst cT (setF fs x v)))) : Pu E (sA x) [.ref a, v] KK (upd σ a (.inst cT fs)) :=
  Pu.fld (upd_same ..) (L.fT hk) (Nat.le_of_ble_eq_true hz) (by rw [upd_upd]; exact h)
theorem Pu.put2 {E : En} (L : Law E.g) {o : O} (hb : upd σ a (.inst cT fs) b = none) (hk : (["number", "mark", "size", "meta", "flags", "weak", "array", "nodes", "log_nodes", "free"] : List Str).contains x = true) (hz : Nat.ble fs.length 900 = true) (h : σ b = none → KK (upd (upd σ b o) a (.inst cT (setF fs x v)))) :
    Pu E (sA x) [.ref a, v] KK (upd (upd σ a (.inst cT fs)) b o) := by
  have n : a ≠ b := fun z => by rw [z, upd_same] at hb; cases hb
  refine Pu.fld ((upd_ne _ _ n).trans (upd_same ..)) (L.fT hk) (Nat.le_of_ble_eq_true hz) ?_
  have e : ∀ w, upd (upd (upd σ a (.inst cT fs)) b o) a w = upd (upd σ b o) a w := fun w => funext fun y => by
    unfold upd
    by_cases z : y = a
    · rw [if_pos z, if_pos z]
    · rw [if_neg z, if_neg z, if_neg z]
  rw [e]; exact h ((upd_ne _ _ (Ne.symm n)).symm.trans hb)
theorem heapobject_init {num size : V} : Fn 1 55 [.ref a, num, size] (fun r σ' => r = .none ∧ σ' = upd σ a (.inst cT (setF (setF (setF [] "number" num) "mark" (V.int 0)) "size" size))) (upd σ a (.inst cT [])) :=
  Fn.go (ps := ["self", "number", "size"]) (rest := []) (code := c_HeapObject_init) (fun _ => by kernel_rfl) (fun _ => by kernel_rfl) (fun _ => args3 fun _ _ _ => by kernel_rfl) (fun _ => by kernel_rfl) rfl fun g L =>
    Pu.put L (by kernel_rfl) rfl (Pu.put L (by kernel_rfl) rfl (Pu.put L (by kernel_rfl) rfl ⟨rfl, rfl⟩))
theorem table_init {num : Int} {as hs : Nat} {g : G} (L : Law g) (K : Knows σ ν) (h0 : σ a = none) (has : as ≤ 2 ^ 20) (hhs : hs ≤ 2 ^ 20) :
    wp c_Table_init ⟨g, 11, noX⟩ (retC fun r σ' => r = .none ∧ ∃ T, NewT ν σ a num σ' T) [] [some (.ref a), some (.int num), some (.int as), some (.int hs)] (upd σ a (.inst cT [])) := by
  have hν := Knows.none K h0
  refine Pv.fn L heapobject_init rfl ?_
  rintro _ _ ⟨rfl, rfl⟩
  refine Pu.put L (by kernel_rfl) rfl (Pu.put L (by kernel_rfl) rfl (Pu.put L (by kernel_rfl) rfl fun aa haa => Pu.put2 L haa (by kernel_rfl) rfl fun haa0 nn hnn => Pu.put2 L hnn (by kernel_rfl) rfl fun hnn0 => Pu.put L (by kernel_rfl) rfl (Pu.put L (by kernel_rfl) rfl ?_)))
  have hnn1 : σ nn = none := isNone_of fun o e => by rw [upd_ne _ _ (fun z => by rw [z, haa0] at e; cases e), e] at hnn0; cases hnn0
  have na : a ≠ aa := fun z => by rw [← z, upd_same] at haa; cases haa
  have nnn : a ≠ nn := fun z => by rw [← z, upd_same] at hnn; cases hnn
  have nna : aa ≠ nn := fun z => by rw [← z, upd_same] at hnn0; cases hnn0
  rw [show setF (setF (setF (setF (setF (setF (setF (setF (setF (setF [] "number" (V.int num)) "mark" (V.int 0)) "size" (V.int 56)) "meta" V.none) "flags" (V.int 0)) "weak" (V.bytes [].toArray)) "array" (V.ref aa)) "nodes" (V.ref nn)) "log_nodes" (V.int 0)) "free" (V.int 0) = Tb.fs (tb0 num aa nn) by kernel_rfl]
  have tr : TR (upd (upd (upd σ aa (.list [])) nn (.list [])) a (.inst cT (tb0 num aa nn).fs)) a (tb0 num aa nn) :=
    ⟨upd_same .., (upd_ne _ _ (Ne.symm na)).trans ((upd_ne _ _ nna).trans (upd_same ..)), (upd_ne _ _ (Ne.symm nnn)).trans (upd_same ..), (fun _ h => nomatch h), List.nodup_nil, nna, (fun _ h => nomatch h), (fun _ h => nomatch h), Nat.zero_le _, Nat.zero_le _⟩
  have k2 : ∀ b o, σ b = some o → upd (upd (upd σ aa (.list [])) nn (.list [])) a (.inst cT (tb0 num aa nn).fs) b = some o := fun b o e =>
    (upd_ne _ _ fun z => by rw [z, h0] at e; cases e).trans ((upd_ne _ _ fun z => by rw [z, hnn1] at e; cases e).trans ((upd_ne _ _ fun z => by rw [z, haa0] at e; cases e).trans e))
  generalize upd (upd (upd σ aa (.list [])) nn (.list [])) a (.inst cT (tb0 num aa nn).fs) = σ2 at tr k2
  have I2 : Inv ν (tb0 num aa nn) := inv_fresh (Nat.zero_le _) (.inl rfl) rfl (fun i hi => absurd hi (Nat.not_lt_zero _))
  have K2 : Knows σ2 ν := ⟨fun b r e => let ⟨q1, fs, q2, q3⟩ := K.at_ b r e; ⟨q1, fs, k2 b _ q2, q3⟩⟩
  have nk2 : ∀ t, ¬ HasKey ν (tb0 num aa nn) t := fun t ⟨i, h⟩ => absurd h.1 (Nat.not_lt_zero _)
  have lk2 : ∀ t, look ν (tb0 num aa nn) t = .none := fun t => by
    rw [look_node]
    · exact nlook_none fun i h => nk2 t ⟨i, h⟩
    · cases t with
      | int x => exact decide_eq_false fun (h : 1 ≤ x ∧ x ≤ ((0 : Nat) : Int)) => by lia -abstractProof
      | _ => rfl
  have f2 : ∀ b, foot a (tb0 num aa nn) b → σ b = none := fun b hb => by
    rcases hb with hb | hb | hb | hb
    · exact hb ▸ h0
    · exact hb ▸ haa0
    · exact hb ▸ hnn1
    · cases hb
  have re : wp c_Table_init_1 ⟨g, 11, noX⟩ (retC fun r σ' => r = .none ∧ ∃ T, NewT ν σ a num σ' T) [] [some (.ref a), some (.int num), some (.int as), some (.int hs)] σ2 := by
    refine Meth.tab tr rfl (Pv.fn L (resize_gen K2 hν tr I2 (a := as) (h := hs) (by lia -abstractProof) hhs (by show 0 + 1 ≤ _; decide)).2 rfl ?_)
    rintro _ σ3 ⟨rfl, T3, tr3, m3, rs⟩
    refine ⟨rfl, T3, tr3, rs.inv, fun t ht => (rs.look t ht).trans (lk2 t), fun t ht h => rs.live t ht h (lk2 t), ?_, m3.num, fun b o e => m3.keep b o (k2 b o e) fun z => (by rw [f2 b z] at e; cases e), fun b hb => ?_⟩
    · have := rs.lives
      have : lives T3 ≤ 0 := this
      lia -abstractProof
    · rcases m3.ft b hb with z | z
      · exact f2 b z
      · exact isNone_of fun o w => by rw [k2 b o w] at z; cases z
  exact brk2.dec (fun _ => re) fun _ => brk2.dec (fun _ => re) fun _ => ⟨rfl, _, tr, I2, fun t _ => lk2 t, fun t _ => nk2 t, rfl, rfl, k2, f2⟩
theorem Pv.table {E : En} {K : V → MH → Prop} {num : Int} {as hs : Nat} {args : List V} (L : Law E.g) (hd : Nat.ble 13 E.d = true) (Kn : Knows σ ν) (has : as ≤ 2 ^ 20) (hhs : hs ≤ 2 ^ 20) (ha : args = [.int num, .int as, .int hs] ∨ (args = [.int num] ∧ as = 0 ∧ hs = 0))
    (h : ∀ a σ' T, σ a = none → NewT ν σ a num σ' T → K (.ref a) σ') : Pv E tcall (.ref cT :: args) K σ := by
  refine Pv.make L (n := 12) (fI := 217) (fun _ => by kernel_rfl) hd fun a hna => Fn.mono (Q := fun r σ' => r = .none ∧ ∃ T, NewT ν σ a num σ' T) ?_ fun v σ' q => ⟨q.1, let ⟨T, n⟩ := q.2; h a σ' T hna n⟩
  rcases ha with rfl | ⟨rfl, rfl, rfl⟩
  · exact Fn.goD (ps := ["self", "number", "array_size", "hash_size"]) (dv := []) (rest := []) (code := c_Table_init) (fun _ => by kernel_rfl) (fun _ => by kernel_rfl) binds_table4 (fun _ => by kernel_rfl) rfl fun g L => table_init L Kn hna has hhs
  · exact Fn.goD (ps := ["self", "number", "array_size", "hash_size"]) (dv := [.int 0, .int 0]) (rest := []) (code := c_Table_init) (fun _ => by kernel_rfl) (fun _ => by kernel_rfl) binds_table2 (fun _ => by kernel_rfl) rfl fun g L => table_init (as := 0) (hs := 0) L Kn hna has hhs
theorem resize_array_ok {t T} {a : Nat} (K : Knows σ ν) (hν : ν t = none) (hT : TR σ t T) (I : Inv ν T) (ha : a ≤ 2 ^ 22) (hB : lives T + 1 ≤ 2 ^ 19) :
    Fn 12 349 [.ref t, .int a, .none] (fun r σ' => r = .none ∧ ∃ T', A3 (TR σ' t T') (Mv σ t T σ' T') (RsR ν T T')) σ := by
  refine Fn.go (ps := ["self", "array_size", "heap"]) (rest := []) (code := c_resize_array) (fun _ => by kernel_rfl) (fun _ => by kernel_rfl) (fun _ => args3 fun _ _ _ => by kernel_rfl) (fun _ => by kernel_rfl) rfl fun g L => ?_
  have hn : T.nds.length ≤ 2 ^ 20 := by
    have hs : T.n = 0 ∨ ∃ k, k ≤ 20 ∧ T.n = 2 ^ k := I.sz
    show T.n ≤ 2 ^ 20
    rcases hs with h | ⟨k, hk, h⟩
    · rw [h]; decide
    · rw [h]; exact Nat.pow_le_pow_right (by decide) hk
  exact Meth.tab hT rfl (Pv.nodes L hT (Pv.lenN hT (Pv.fn L (resize_gen K hν hT I ha hn hB).1 rfl fun v σ' h => ⟨rfl, h.2⟩)))
end
noncomputable def lval (m : Int) : V := ([.int (m.fmod 97), .bytes [118].toArray, .bool false, .bool true, .int (-m)] : List V).getD (m.fmod 5).toNat .none
theorem fmod_range (m : Int) {k : Int} (h : 0 < k) : 0 ≤ m.fmod k ∧ m.fmod k < k := by
  rw [Int.fmod_eq_emod_of_nonneg _ (by omega)]
  exact ⟨Int.emod_nonneg _ (by omega), Int.emod_lt_of_pos _ h⟩
theorem lval_ok (m : Int) : LVal (lval m) := by
  unfold lval
  have := fmod_range m (show (0 : Int) < 5 by decide)
  rcases h : (m.fmod 5).toNat with _ | _ | _ | _ | _ | k
  · exact .int _
  · exact .bytes _
  · exact .bool _
  · exact .bool _
  · exact .int _
  · omega
/-- the pairs say what the table holds -/
structure Rel (ν : Nu) (T : Tb) (P : Prs) : Prop where
  ok : POk P
  same : ∀ t, LTag t → findP P t = look ν T t
theorem notIn_idx {ν T k j} (h : NotIn ν T k) (i : Idx ν T k j) : False := by
  cases i with
  | none e => exact h.k0 e
  | arr x e1 e2 e3 => have := h.arr; rw [e1] at this; exact absurd ⟨e2, e3⟩ (of_decide_eq_false this)
  | nod _ _ i e => exact h.nod i e
noncomputable def c__law_value : Cd := .ld 0 <| .lit (.int (97)) <| .bin .Mod <| .lit (.bytes [118].toArray) <| .lit (.bool false) <| .lit (.bool true) <| .ld 0 <| .una .USub <| .lst 5 <| .ld 0 <| .lit (.int (5)) <| .bin .Mod <| .ix <| .ret
noncomputable def c__law_is_border_1 : Cd := .lit (.bool false) <| .ret
noncomputable def c__law_is_border_2 : Cd := .ld 1 <| .lit (.int (0)) <| .ld 2 <| .lit (.int (1)) <| .bin .Add <| .tup 2 <| .call (.ref 431) 2 <| .isn true <| .ret
noncomputable def c__law_is_border_3 : Cd := .ld 1 <| .lit (.int (0)) <| .ld 2 <| .tup 2 <| .call (.ref 431) 2 <| .isn true <| .br (c__law_is_border_1) (c__law_is_border_2)
noncomputable def c__law_is_border_4 : Cd := .ld 2 <| .lit (.int (0)) <| .cmp .Gt <| .br (c__law_is_border_3) (c__law_is_border_2)
noncomputable def c__law_is_border_5 : Cd := .ld 2 <| .lit (.int (0)) <| .cmp .Lt <| .br (c__law_is_border_1) (c__law_is_border_4)
noncomputable def c__law_is_border_6 : Cd := .ld 2 <| .lit (.typ "int") <| .call (.bi "isinstance") 2 <| .br (c__law_is_border_5) (c__law_is_border_1)
noncomputable def c__law_is_border : Cd := .ld 0 <| .mld cT "length" <| .call (.ref 377) 1 <| .st 2 <| .ld 2 <| .lit (.typ "bool") <| .call (.bi "isinstance") 2 <| .br (c__law_is_border_1) (c__law_is_border_6)
noncomputable def c__law_is_refused_1 : Cd := .ld 0 <| .mld cT "next" <| .ld 1 <| .call (.ref 370) 2 <| .pop <| .fin
noncomputable def c__law_is_refused_2 : Cd := .lit (.bool false) <| .ret
noncomputable def c__law_is_refused : Cd := .trx (c__law_is_refused_1) true (c__law_is_refused_2)
noncomputable def c__law_nil_refused_1 : Cd := .ld 0 <| .mld cT "set" <| .lit .none <| .lit (.int (1)) <| .lit .none <| .call (.ref 266) 4 <| .pop <| .fin
noncomputable def c__law_nil_refused_2 : Cd := .lit (.bool false) <| .ret
noncomputable def c__law_nil_refused : Cd := .trx (c__law_nil_refused_1) true (c__law_nil_refused_2)
section
variable {ν : Nu} {σ : MH} {t : Addr} {T : Tb} {k : V}
theorem law_value_ok {m : Int} : Fn 1 464 [.int m] (fun r σ' => r = lval m ∧ ∀ b o, σ b = some o → σ' b = some o) σ := by
  refine Fn.go (ps := ["mixed"]) (rest := []) (code := c__law_value) (fun _ => by kernel_rfl) (fun _ => by kernel_rfl) (fun _ => args1 fun _ => by kernel_rfl) (fun _ => by kernel_rfl) rfl fun g L => ?_
  have r := fmod_range m (show (0 : Int) < 5 by decide)
  refine Pv.mod (by decide) fun a ha => Pv.mod (by decide) ?_
  obtain ⟨v, hv⟩ : ∃ v, ([.int (m.fmod 97), .bytes [118].toArray, .bool false, .bool true, .int (-m)] : List V)[(m.fmod 5).toNat]? = some v := ⟨_, List.getElem?_eq_getElem (by simp; omega)⟩
  refine Pg.lst (.inl (upd_same ..)) r.1 (by omega) hv ⟨?_, fun b o e => (upd_ne _ _ fun z => by rw [z, ha] at e; cases e).trans e⟩
  unfold lval
  rw [List.getD_eq_getElem?_getD, hv]; rfl
theorem law_is_border_ok {pa P} (K : Knows σ ν) (hT : TR σ t T) (I : Inv ν T) (hP : σ pa = some (.list (prV P))) (R : Rel ν T P) : Fn 8 443 [.ref t, .ref pa] (fun r σ' => r = .bool true ∧ σ' = σ) σ := by
  refine Fn.go (ps := ["rows_here", "pairs"]) (rest := ["many"]) (code := c__law_is_border) (fun _ => by kernel_rfl) (fun _ => by kernel_rfl) (fun _ => args2 fun _ _ => by kernel_rfl) (fun _ => by kernel_rfl) rfl fun g L => ?_
  refine Meth.tab hT rfl (Pv.fn L (length_ok K hT I) rfl ?_)
  rintro _ σ0 ⟨⟨b, rfl, hb⟩, rfl⟩
  have fd : ∀ (b : Int) {K : V → MH → Prop}, K (look ν T (.int b)) σ0 → Pv ⟨g, 7, noX⟩ tcall [.ref 431, .ref pa, .tup [.int 0, .int b]]  K σ0 := fun b K h =>
    Pv.fn1 L (law_find_ok (t := .int b) hP R.ok (.int b)) rfl (by rw [R.same _ (.int b)]; exact h)
  have tl : wp c__law_is_border_2 ⟨g, 7, noX⟩ (retC fun r σ' => r = .bool true ∧ σ' = σ0) [] [some (.ref t), some (.ref pa), some (.int b)] σ0 := fd (b + 1) (by rw [hb.next]; exact ⟨rfl, rfl, rfl⟩)
  refine Pv.isB L K (.int b) (Pv.isI L K (.int b) (brk2.dec (fun hn => absurd hb.pos (by omega)) fun _ => brk2.dec (fun hp => fd b ⟨look_plain hT, ?_⟩) fun _ => tl))
  refine brk2.bool (fun e => ?_) fun _ => tl
  rcases hb.here with h | h
  · omega
  · exact absurd (isNone_eq e) h
theorem law_is_refused_ok (K : Knows σ ν) (hT : TR σ t T) (I : Inv ν T) (hnd : NoDead ν) (hk : AnyV ν k) (hn : NotIn ν T k) : Fn 7 450 [.ref t, k] (fun r σ' => r = .bool true ∧ σ' = σ) σ :=
  Fn.go (ps := ["rows_here", "key"]) (rest := []) (code := c__law_is_refused) (fun _ => by kernel_rfl) (fun _ => by kernel_rfl) (fun _ => args2 fun _ _ => by kernel_rfl) (fun _ => by kernel_rfl) rfl fun g L =>
    Meth.tab hT rfl (Pv.fnX L (next_ok K hT I hnd hk) rfl (fun r σ1 ⟨⟨j, hj, _⟩, _⟩ => (notIn_idx hn hj).elim) fun σ1 h => ⟨rfl, h.1⟩)
theorem law_nil_refused_ok (hT : TR σ t T) : Fn 4 457 [.ref t] (fun r σ' => r = .bool true ∧ TR σ' t { T with flags := .int 0 } ∧ Mv σ t T σ' { T with flags := .int 0 }) σ :=
  Fn.go (ps := ["rows_here"]) (rest := []) (code := c__law_nil_refused) (fun _ => by kernel_rfl) (fun _ => by kernel_rfl) (fun _ => args1 fun _ => by kernel_rfl) (fun _ => by kernel_rfl) rfl fun g L =>
    Meth.tab hT rfl (Pv.fnX L (set_nil_ok hT) rfl (fun r σ1 h => h.elim) fun σ1 h => ⟨rfl, h⟩)
end
noncomputable def c__law_keys : Cd := .lit (.int (1)) <| .lit (.int (2)) <| .lit (.int (3)) <| .lit (.int (4)) <| .lit (.int (5)) <| .lit (.int (6)) <| .lit (.int (7)) <| .lit (.int (8)) <| .lit (.int (9)) <| .lit (.int (16)) <| .lit (.int (17)) <| .lit (.int (33)) <| .lit (.int (0)) <| .lit (.int (1)) <| .una .USub <| .lit (.int (17)) <| .una .USub <| .lit (.int (10)) <| .lit (.int (12)) <| .bin .Pow <| .lit (.int (2)) <| .lit (.int (40)) <| .bin .Pow <| .lit (.int (1)) <| .bin .Add <| .lst 17 <| .st 1 <| .ld 1 <| .lit (.bytes [].toArray) <| .lit (.bytes [97].toArray) <| .lit (.bytes [98].toArray) <| .lit (.bytes [97, 98].toArray) <| .lit (.bytes [97, 32, 108, 111, 110, 103, 101, 114, 32, 107, 101, 121, 32, 116, 104, 97, 110, 32, 116, 104, 101, 32, 111, 116, 104, 101, 114, 115, 32, 97, 114, 101, 44, 32, 98, 121, 32, 102, 97, 114].toArray) <| .lit (.bool true) <| .lit (.bool false) <| .lst 7 <| .bin .Add <| .ld 0 <| .bin .Add <| .ret
noncomputable def keysV (o1 o2 o3 : Addr) : List V := [.int 1, .int 2, .int 3, .int 4, .int 5, .int 6, .int 7, .int 8, .int 9, .int 16, .int 17, .int 33, .int 0, .int (-1), .int (-17), .int 1000000000000, .int 1099511627777] ++
  [.bytes [].toArray, .bytes [97].toArray, .bytes [98].toArray, .bytes [97, 98].toArray, .bytes [97, 32, 108, 111, 110, 103, 101, 114, 32, 107, 101, 121, 32, 116, 104, 97, 110, 32, 116, 104, 101, 32, 111, 116, 104, 101, 114, 115, 32, 97, 114, 101, 44, 32, 98, 121, 32, 102, 97, 114].toArray, .bool true, .bool false] ++ [.ref o1, .ref o2, .ref o3]
section
variable {σ : MH}
theorem Pv.pow {E : En} {K : V → MH → Prop} {a n : Int} (hn : 0 ≤ n) (hsz : (Builtin.Int.intBits a : Int) * n ≤ 2 ^ 27) (h : K (.int (a ^ n.toNat)) σ) : Pv E (t2 (binaryOp .Pow)) [.int a, .int n] K σ := ⟨fun _ _ => PV.pow hn hsz h⟩
theorem law_keys_ok {oa o1 o2 o3 : Addr} (ho : σ oa = some (.list [.ref o1, .ref o2, .ref o3])) : Fn 1 417 [.ref oa] (fun r σ' => ∃ a, A4 (r = .ref a) (σ a = none) (σ' a = some (.list (keysV o1 o2 o3))) (∀ b o, σ b = some o → σ' b = some o)) σ := by
  refine Fn.go (ps := ["others"]) (rest := ["whole"]) (code := c__law_keys) (fun _ => by kernel_rfl) (fun _ => by kernel_rfl) (fun _ => args1 fun _ => by kernel_rfl) (fun _ => by kernel_rfl) rfl fun g L => ?_
  refine Pv.pow (by decide) (by decide +kernel) (Pv.pow (by decide) (by decide +kernel) fun a ha b hb => ?_)
  have new : ∀ {σ : MH} {a : Addr} {o : O}, σ a = none → ∀ b x, σ b = some x → upd σ a o b = some x := fun h b x e => (upd_ne _ _ fun z => by rw [z, h] at e; cases e).trans e
  refine Pv.addList (.inl (new hb _ _ (upd_same ..))) (.inl (upd_same ..)) (Nat.le_of_ble_eq_true rfl) fun c hc => Pv.addList (.inl (upd_same ..)) (.inl (new hc _ _ (new hb _ _ (new ha _ _ ho)))) (Nat.le_of_ble_eq_true rfl) fun e he => ?_
  have k := fun x o hx => new (o := .list (keysV o1 o2 o3)) he x o (new hc _ _ (new hb _ _ (new ha x o hx)))
  exact ⟨e, rfl, isNone_of fun o w => some_not_none (y := o) (by exact new hc _ _ (new hb _ _ (new ha _ _ w))) he, (upd_same ..).trans (by kernel_rfl), k⟩
end
/-! the pairs and the table, step by step (plain) -/
theorem findP_putP (P : Prs) (t t' : Tag) (v : V) : findP (putP P t v) t' = if t' = t then v else findP P t' := by
  unfold findP putP
  rw [List.find?_append, List.find?_filter]
  by_cases e : t' = t
  · subst e
    rw [if_pos rfl]
    have : P.find? (fun p => decide (decide (p.1 ≠ t') = true ∧ decide (p.1 = t') = true)) = none := List.find?_eq_none.mpr fun p _ => by simp
    rw [this]
    split
    · rename_i h; rw [isNone_iff.mp h]; rfl
    · simp
  · rw [if_neg e]
    have : P.find? (fun p => decide (decide (p.1 ≠ t) = true ∧ decide (p.1 = t') = true)) = P.find? (fun p => decide (p.1 = t')) := by
      congr 1; funext p
      by_cases h : p.1 = t'
      · simp [h, e]
      · simp [h]
    rw [this]
    cases P.find? (fun p => decide (p.1 = t')) with
    | some p => rfl
    | none =>
      split
      · rfl
      · have : (List.find? (fun p : Tag × V => decide (p.1 = t')) [(t, v)]) = none := List.find?_eq_none.mpr fun p hp => by rw [List.mem_singleton.mp hp]; simp [Ne.symm e]
        rw [this]; rfl
theorem mem_putP {P : Prs} {t v p} (h : p ∈ putP P t v) : (p ∈ P ∧ p.1 ≠ t) ∨ (p = (t, v) ∧ v ≠ .none) := by
  unfold putP at h
  rcases List.mem_append.mp h with h | h
  · obtain ⟨a, b⟩ := List.mem_filter.mp h; exact .inl ⟨a, by simpa using b⟩
  · split at h
    · cases h
    · rename_i e; exact .inr ⟨List.mem_singleton.mp h, fun z => e (isNone_iff.mpr z)⟩
theorem putP_len (P : Prs) (t v) : (putP P t v).length ≤ P.length + 1 := by
  unfold putP
  rw [List.length_append]
  have := List.length_filter_le (fun p : Tag × V => decide (p.1 ≠ t)) P
  split <;> simp <;> simp at this <;> lia -abstractProof
theorem putP_nd {P : Prs} (t v) (h : (P.map (·.1)).Nodup) : ((putP P t v).map (·.1)).Nodup := by
  unfold putP
  rw [List.map_append, List.nodup_append]
  refine ⟨(List.Sublist.map _ (List.filter_sublist)).nodup h, by split <;> simp, fun x hx y hy e => ?_⟩
  obtain ⟨p, hp, rfl⟩ := List.mem_map.mp hx
  have h1 := (List.mem_filter.mp hp).2
  split at hy
  · simp at hy
  · have : y = t := by simpa using hy
    rw [← e] at this
    simp [this] at h1
theorem findP_mem {P : Prs} (nd : (P.map (·.1)).Nodup) {p} (h : p ∈ P) : findP P p.1 = p.2 := by
  induction P with
  | nil => cases h
  | cons q P ih =>
    rw [List.map_cons, List.nodup_cons] at nd
    unfold findP
    rcases List.mem_cons.mp h with e | e
    · subst e; rw [List.find?_cons_of_pos (by simp)]; rfl
    · rw [List.find?_cons_of_neg (by simp; exact fun z => nd.1 (z ▸ List.mem_map.mpr ⟨_, e, rfl⟩))]
      exact ih nd.2 e
theorem mem_findP {P : Prs} {t} (h : findP P t ≠ .none) : (t, findP P t) ∈ P := by
  unfold findP at *
  cases e : P.find? (fun p => decide (p.1 = t)) with
  | none => rw [e] at h; exact absurd rfl h
  | some p =>
    have h1 := List.mem_of_find?_eq_some e
    have h2 : p.1 = t := by simpa using List.find?_some e
    rw [← h2]; exact h1
theorem Rel.step {ν T T' P t v} (R : Rel ν T P) (I : Ins ν T T' t v) (ht : LTag t) (hv : LVal v) : Rel ν T' (putP P t v) := by
  refine ⟨fun p hp => ?_, fun t' ht' => ?_⟩
  · rcases mem_putP hp with ⟨a, _⟩ | ⟨rfl, _⟩
    · exact R.ok p a
    · exact ⟨ht, hv⟩
  · rw [findP_putP, I.look t' (ht'.proper), R.same t' ht']
noncomputable def base : List Tag := [.int 1, .int 2, .int 3, .int 4, .int 5, .int 6, .int 7, .int 8, .int 9, .int 16, .int 17, .int 33, .int 0, .int (-1), .int (-17), .int 1000000000000, .int 1099511627777,
  .bytes [], .bytes [97], .bytes [98], .bytes [97, 98], .bytes [97, 32, 108, 111, 110, 103, 101, 114, 32, 107, 101, 121, 32, 116, 104, 97, 110, 32, 116, 104, 101, 32, 111, 116, 104, 101, 114, 115, 32, 97, 114, 101, 44, 32, 98, 121, 32, 102, 97, 114], .bool true, .bool false, .ref 0 1, .ref 0 2, .ref 0 18]
noncomputable def UU (i : Nat) (t : Tag) : Prop := t ∈ base ∨ ∃ x : Int, A3 (t = .int x) (1 ≤ x) (x ≤ 33 + (i : Int))
theorem UU.mono {i j t} (h : UU i t) (k : i ≤ j) : UU j t := h.imp id fun ⟨x, a, b, c⟩ => ⟨x, a, b, by lia -abstractProof⟩
noncomputable def ltagB : Tag → Bool
  | .int _ => true
  | .bool _ => true
  | .bytes _ => true
  | .ref 0 _ => true
  | _ => false
theorem ltagB_ok {t : Tag} (h : ltagB t = true) : LTag t := by
  cases t with
  | int => exact .int _
  | bool => exact .bool _
  | bytes => exact .bytes _
  | ref k n =>
    cases k with
    | zero => exact .ref n
    | succ k => cases h
  | _ => cases h
theorem UU.ltag {i t} (h : UU i t) : LTag t := by
  rcases h with h | ⟨x, rfl, _⟩
  · exact ltagB_ok (List.all_eq_true.mp (show base.all ltagB = true from rfl) t h)
  · exact .int x
noncomputable def farB : Tag → Bool
  | .int x => decide (x ≤ 33) || decide (2147483645 < x)
  | _ => true
theorem UU.int {i x} (h : UU i (.int x)) (h2 : x ≤ 2147483645) (h0 : 0 ≤ x) : x ≤ 33 + (i : Int) := by
  rcases h with h | ⟨y, e, _, h⟩
  · rcases Bool.or_eq_true_iff.mp (List.all_eq_true.mp (show base.all farB = true from rfl) _ h) with h | h
    · have := of_decide_eq_true h; lia -abstractProof
    · have := of_decide_eq_true h; lia -abstractProof
  · simp only [Tag.int.injEq] at e; lia -abstractProof
/-- how the law's loop stands -/
structure St (ν : Nu) (i : Nat) (T : Tb) (P : Prs) : Prop where
  rel : Rel ν T P
  inv : Inv ν T
  nd : (P.map (·.1)).Nodup
  live : ∀ p ∈ P, p.2 ≠ .none
  len : P.length ≤ i
  lives : Mn.lives T ≤ i
  uni : ∀ t, proper t = true → HasKey ν T t ∨ look ν T t ≠ .none → UU i t
theorem St.put {ν i T T' P t v} (S : St ν i T P) (I : Ins ν T T' t v) (ht : UU (i + 1) t) (hv : LVal v) : St ν (i + 1) T' (putP P t v) := by
  refine ⟨S.rel.step I ht.ltag hv, I.inv, putP_nd _ _ S.nd, fun p hp => ?_, ?_, ?_, fun t' ht' h => ?_⟩
  · rcases mem_putP hp with ⟨a, _⟩ | ⟨rfl, h⟩
    · exact S.live p a
    · exact h
  · have := putP_len P t v; have := S.len; lia -abstractProof
  · have := I.lives; have := S.lives; lia -abstractProof
  · have old : ∀ h : HasKey ν T t' ∨ look ν T t' ≠ .none, UU (i + 1) t' := fun h => (S.uni t' ht' h).mono (by lia -abstractProof)
    rcases h with h | h
    · rcases I.keys t' ht' h with h | h | h
      · exact old (.inl h)
      · exact h ▸ ht
      · exact old (.inr h)
    · rw [I.look t' ht'] at h
      split at h
      · rename_i e; exact e ▸ ht
      · exact old (.inr h)
theorem St.rs {ν i T T' P} (S : St ν i T P) (R : RsR ν T T') : St ν (i + 1) T' P := by
  refine ⟨⟨S.rel.ok, fun t ht => by rw [S.rel.same t ht, R.look t ht.proper]⟩, R.inv, S.nd, S.live, by have := S.len; lia -abstractProof, by have := R.lives; have := S.lives; lia -abstractProof, fun t ht h => ?_⟩
  rcases h with h | h
  · exact (S.uni t ht (.inr (R.live t ht h))).mono (by lia -abstractProof)
  · rw [R.look t ht] at h; exact (S.uni t ht (.inr h)).mono (by lia -abstractProof)
theorem St.le {ν i j T P} (S : St ν i T P) (h : i ≤ j) : St ν j T P := ⟨S.rel, S.inv, S.nd, S.live, by have := S.len; lia -abstractProof, by have := S.lives; lia -abstractProof, fun t a b => (S.uni t a b).mono h⟩
/-- a list that is none of the table's -/
structure Held (σ : MH) (t : Addr) (T : Tb) (a : Addr) (xs : List V) : Prop where
  at_ : σ a = some (.list xs)
  off : ¬ foot t T a
theorem Held.mv {σ t T a xs σ' T'} (h : Held σ t T a xs) (m : Mv σ t T σ' T') : Held σ' t T' a xs := ⟨m.keep _ _ h.at_ h.off, fun z => (m.ft a z).elim h.off fun z => by rw [h.at_] at z; cases z⟩
theorem Held.grow {σ t T a xs σ'} (h : Held σ t T a xs) (k : ∀ b o, σ b = some o → σ' b = some o) : Held σ' t T a xs := ⟨k _ _ h.at_, h.off⟩
theorem Held.new {σ t T a xs σ'} (hT : TR σ t T) (ha : σ a = none) (h : σ' a = some (.list xs)) : Held σ' t T a xs := ⟨h, fun z => by obtain ⟨o, e⟩ := hT.footD z; rw [ha] at e; cases e⟩
theorem TR.grow {σ t T σ'} (h : TR σ t T) (k : ∀ b o, σ b = some o → σ' b = some o) : TR σ' t T := ⟨k _ _ h.t, k _ _ h.arr, k _ _ h.nl, fun p hp => k _ _ (h.nd p hp), h.nodup, h.ne, h.pa, h.pn, h.sa, h.sn⟩
theorem Knows.grow {σ ν σ'} (K : Knows σ ν) (k : ∀ b o, σ b = some o → σ' b = some o) : Knows σ' ν := ⟨fun a r e => by
  obtain ⟨h1, fs, h2, h3⟩ := K.at_ a r e
  exact ⟨h1, fs, k _ _ h2, h3⟩⟩
structure KOk (ν : Nu) (kv : List V) : Prop where
  pos : 0 < kv.length
  len : kv.length ≤ 2 ^ 10
  key : ∀ k ∈ kv, LKey ν k ∧ UU 0 (tag ν k)
noncomputable def c__law_deed_1 : Cd := .ld 0 <| .mld cT "set" <| .ld 5 <| .ld 6 <| .call (.ref 464) 1 <| .lit .none <| .call (.ref 266) 4 <| .pop <| .ld 2 <| .ld 5 <| .call (.ref 424) 1 <| .ld 6 <| .call (.ref 464) 1 <| .call (.ref 436) 3 <| .ret
noncomputable def c__law_deed_2 : Cd := .ld 0 <| .mld cT "set" <| .ld 5 <| .lit .none <| .lit .none <| .call (.ref 266) 4 <| .pop <| .ld 2 <| .ld 5 <| .call (.ref 424) 1 <| .lit .none <| .call (.ref 436) 3 <| .ret
noncomputable def c__law_deed_3 : Cd := .ld 0 <| .mld cT "length" <| .call (.ref 377) 1 <| .lit (.int (1)) <| .bin .Add <| .st 7 <| .ld 0 <| .mld cT "set_int" <| .ld 7 <| .ld 6 <| .call (.ref 464) 1 <| .lit .none <| .call (.ref 273) 4 <| .pop <| .ld 2 <| .lit (.int (0)) <| .ld 7 <| .tup 2 <| .ld 6 <| .call (.ref 464) 1 <| .call (.ref 436) 3 <| .ret
noncomputable def c__law_deed_4 : Cd := .ld 0 <| .mld cT "resize_array" <| .lit (.int (34)) <| .ld 6 <| .lit (.int (2)) <| .bin .FloorDiv <| .lit (.int (9)) <| .bin .Mod <| .bin .Add <| .lit .none <| .call (.ref 349) 3 <| .pop <| .ld 2 <| .ret
noncomputable def c__law_deed_5 : Cd := .ld 0 <| .mld cT "set_int" <| .ld 7 <| .lit .none <| .lit .none <| .call (.ref 273) 4 <| .pop <| .ld 2 <| .lit (.int (0)) <| .ld 7 <| .tup 2 <| .lit .none <| .call (.ref 436) 3 <| .ret
noncomputable def c__law_deed_6 : Cd := .ld 7 <| .lit (.int (0)) <| .cmp .Gt <| .br (c__law_deed_5) (.ld 2 <| .ret)
noncomputable def c__law_deed_7 : Cd := .ld 0 <| .mld cT "length" <| .call (.ref 377) 1 <| .st 7 <| .ld 6 <| .lit (.int (2)) <| .bin .Mod <| .lit (.int (0)) <| .cmp .Eq <| .br (c__law_deed_4) (c__law_deed_6)
noncomputable def c__law_deed_8 : Cd := .ld 4 <| .lit (.int (6)) <| .cmp .Eq <| .br (c__law_deed_3) (c__law_deed_7)
noncomputable def c__law_deed_9 : Cd := .ld 4 <| .lit (.int (5)) <| .cmp .Eq <| .br (c__law_deed_2) (c__law_deed_8)
noncomputable def c__law_deed : Cd := .ld 3 <| .lit (.int (8)) <| .bin .Mod <| .ld 1 <| .ld 3 <| .lit (.int (8)) <| .bin .FloorDiv <| .ld 1 <| .call (.bi "len") 1 <| .bin .Mod <| .ix <| .ld 3 <| .lit (.int (256)) <| .bin .FloorDiv <| .tup 3 <| .unp true [6, 5, 4] <| .ld 4 <| .lit (.int (5)) <| .cmp .Lt <| .br (c__law_deed_1) (c__law_deed_9)
section
variable {ν : Nu} {σ : MH}
structure DeedR (ν : Nu) (σ : MH) (t : Addr) (T : Tb) (i : Nat) (r : V) (σ' : MH) : Prop where
  ex : X3 fun T' P' pa' => A5 (r = .ref pa') (TR σ' t T') (Mv σ t T σ' T') (St ν i T' P') (Held σ' t T' pa' (prV P'))
/-- behind a set: the pairs -/
theorem deed_put {σ2 σ3 : MH} {t T T2 P i tg v pa} {E : En} (L : Law E.g) (hd : Nat.ble 2 E.d = true) (S : St ν i T P) (hi : i ≤ 1000) (hP : Held σ t T pa (prV P)) (hu : UU (i + 1) tg) (hv : LVal v) (m2 : Mv σ t T σ2 T2) (tr2 : TR σ2 t T2) (ins : Ins ν T T2 tg v) (k3 : ∀ b o, σ2 b = some o → σ3 b = some o) {K : V → MH → Prop}
    (h : ∀ r σ4, DeedR ν σ t T (i + 1) r σ4 → K r σ4) : Pv E tcall [.ref 436, .ref pa, tagV tg, v] K σ3 := by
  refine Pv.fn L (law_put_ok ((hP.mv m2).grow k3).at_ (by have := S.len; lia -abstractProof) S.rel.ok hu.ltag hv) hd ?_
  rintro _ σ4 ⟨a, rfl, a0, a1, k4⟩
  have k := fun b o e => k4 b o (k3 b o e)
  exact h _ _ ⟨T2, putP P tg v, a, rfl, tr2.grow k, m2.trans (Mv.of_keep k), S.put ins hu hv, Held.new tr2 (isNone_of fun o w => some_not_none (k3 _ _ w) a0) a1⟩
theorem law_deed_ok {t T P i ka pa kv} {m : Int} (hm : 0 ≤ m) (K : Knows σ ν) (hν : ν t = none) (hT : TR σ t T) (S : St ν i T P) (hi : i ≤ 1000) (hk : Held σ t T ka kv) (ko : KOk ν kv) (hP : Held σ t T pa (prV P)) :
    Fn 13 483 [.ref t, .ref ka, .ref pa, .int m] (fun r σ' => DeedR ν σ t T (i + 1) r σ') σ := by
  refine Fn.go (ps := ["rows_here", "keys", "pairs", "mixed"]) (rest := ["form", "key", "rest", "many"]) (code := c__law_deed) (fun _ => by kernel_rfl) (fun _ => by kernel_rfl) (fun _ => args4 fun _ _ _ _ => by kernel_rfl) (fun _ => by kernel_rfl) rfl fun g L => ?_
  have hB : lives T + 1 ≤ 2 ^ 19 := by have := S.lives; lia -abstractProof
  have kl := ko.len
  have kp := ko.pos
  have fd8 : (m.fdiv 8).fmod (kv.length : Int) = ((m.toNat / 8 % kv.length : Nat) : Int) := by
    rw [Int.fdiv_eq_ediv_of_nonneg _ (by decide), Int.fmod_eq_emod_of_nonneg _ (by lia -abstractProof)]
    obtain ⟨n, rfl⟩ := Int.eq_ofNat_of_zero_le hm
    simp
  obtain ⟨k, hkm⟩ : ∃ k, kv[m.toNat / 8 % kv.length]? = some k := ⟨_, List.getElem?_eq_getElem (Nat.mod_lt _ kp)⟩
  obtain ⟨lk, uk⟩ := ko.key k (List.mem_of_getElem? hkm)
  have lka := lk.any
  have kpr := lk.proper
  have mlt := Nat.mod_lt (m.toNat / 8) kp
  refine Pv.mod (by decide) (Pv.div (by decide) (by decide) (Pv.len (.inl hk.at_) (by lia -abstractProof) (Pv.mod (by lia -abstractProof) ?_)))
  rw [fd8]
  refine Pg.lst (.inl hk.at_) (by lia -abstractProof) (by lia -abstractProof) (by rw [Int.toNat_natCast]; exact hkm) (Pv.div (by decide) (by decide) ?_)
  have val := lval_ok (m.fdiv 256)
  have bu : ∀ b, Border ν T b → b ≤ 33 + (i : Int) := fun b hb => by
    rcases hb.here with h | h
    · lia -abstractProof
    · exact (S.uni (.int b) rfl (.inr h)).int hb.le hb.pos
  refine brk2.dec (fun _ => ?_) fun _ => brk2.dec (fun _ => ?_) fun _ => brk2.dec (fun _ => ?_) fun _ => ?_
  · refine Meth.tab hT rfl (Pv.fn L law_value_ok rfl ?_)
    rintro _ σ1 ⟨rfl, k1⟩
    refine Pv.fn L (set_ok (K.grow k1) hν (hT.grow k1) S.inv lka kpr val.plain hB) rfl ?_
    rintro _ σ2 ⟨rfl, T2, q, _⟩
    have m2 := (Mv.of_keep (t := t) (T := T) k1).trans q.mv
    refine Pv.fn1 L (law_tag_ok (K.mv hT m2 hν) lk) rfl (Pv.fn L law_value_ok rfl ?_)
    rintro _ σ3 ⟨rfl, k3⟩
    exact deed_put L rfl S hi hP (uk.mono (Nat.zero_le _)) val m2 q.tr q.ins k3 fun r σ4 h => h
  · refine Meth.tab hT rfl (Pv.fn L (set_ok K hν hT S.inv lka kpr rfl hB) rfl ?_)
    rintro _ σ2 ⟨rfl, T2, q, _⟩
    exact Pv.fn1 L (law_tag_ok (K.mv hT q.mv hν) lk) rfl (deed_put L rfl S hi hP (uk.mono (Nat.zero_le _)) .none q.mv q.tr q.ins (fun _ _ e => e) fun r σ4 h => h)
  · refine Meth.tab hT rfl (Pv.fn L (length_ok K hT S.inv) rfl ?_)
    rintro _ σ0 ⟨⟨b, rfl, hb⟩, rfl⟩
    have hbu := bu b hb
    have hb0 := hb.pos
    refine Meth.tab hT rfl (Pv.fn L law_value_ok rfl ?_)
    rintro _ σ1 ⟨rfl, k1⟩
    refine Pv.fn L (set_int_ok (K.grow k1) hν (hT.grow k1) S.inv val.plain hB) rfl ?_
    rintro _ σ2 ⟨rfl, T2, q, _⟩
    have m2 := (Mv.of_keep (t := t) (T := T) k1).trans q.mv
    refine Pv.fn L law_value_ok rfl ?_
    rintro _ σ3 ⟨rfl, k3⟩
    exact deed_put (tg := .int (b + 1)) L rfl S hi hP (.inr ⟨_, rfl, by lia -abstractProof, by lia -abstractProof⟩) val m2 q.tr q.ins k3 fun r σ4 h => h
  refine Meth.tab hT rfl (Pv.fn L (length_ok K hT S.inv) rfl ?_)
  rintro _ σ0 ⟨⟨b, rfl, hb⟩, rfl⟩
  have hb0 := hb.pos
  have r9 := fmod_range ((m.fdiv 256).fdiv 2) (show (0 : Int) < 9 by decide)
  refine Pv.mod (by decide) (brk2.dec (fun hr => ?_) fun hr => brk2.dec (fun hq => ?_) fun hq => ⟨T, P, pa, rfl, hT, Mv.refl .., S.le (by lia -abstractProof), hP⟩)
  · have ea : (34 : Int) + ((m.fdiv 256).fdiv 2).fmod 9 = ((34 + ((m.fdiv 256).fdiv 2).fmod 9).toNat : Int) := by lia -abstractProof
    refine Meth.tab hT rfl (Pv.div (by decide) (by decide) (Pv.mod (by decide) ?_))
    show Pv _ tcall [_, _, .int ((34 : Int) + ((m.fdiv 256).fdiv 2).fmod 9), _] _ _
    rw [ea]
    refine Pv.fn L (resize_array_ok K hν hT S.inv (by lia -abstractProof) hB) rfl ?_
    rintro _ σ2 ⟨rfl, T2, tr2, m2, rs⟩
    exact ⟨T2, P, pa, rfl, tr2, m2, S.rs rs, hP.mv m2⟩
  · have hbu := bu b hb
    refine Meth.tab hT rfl (Pv.fn L (set_int_ok K hν hT S.inv rfl hB) rfl ?_)
    rintro _ σ2 ⟨rfl, T2, q, _⟩
    exact deed_put (tg := .int b) L rfl S hi hP (.inr ⟨_, rfl, by lia -abstractProof, by lia -abstractProof⟩) .none q.mv q.tr q.ins (fun _ _ e => e) fun r σ4 h => h
end
/-! going through the slots (plain) -/
section
variable {ν : Nu} {T T' T0 : Tb}
theorem node_out (I : Inv ν T) {i} (hi : i < T.n) : inArr T (tag ν (T.nd i).key) = false := by
  cases h : inArr T (tag ν (T.nd i).key) with
  | false => rfl
  | true => exact absurd ⟨hi, rfl⟩ (not_at_arr (i := i) I h)
theorem sval_look (I : Inv ν T) {p} (hp : p < total T) (hk : proper (tag ν (skey T p)) = true) : look ν T (tag ν (skey T p)) = sval T p := by
  unfold total at hp
  unfold skey at hk ⊢
  unfold sval
  by_cases h : p < T.arr.length
  · rw [if_pos h, if_pos h]
    show look ν T (.int _) = _
    rw [look_arr ⟨by lia, by lia⟩, sucN, List.getD_eq_getElem?_getD]
  · rw [if_neg h] at hk
    rw [if_neg h, if_neg h]
    have hi : p - T.arr.length < T.n := by lia
    rw [look_node (node_out I hi), nlook_at I hk ⟨hi, rfl⟩]
theorem slot_proper (I : Inv ν T) {p} (hp : p < total T) (h : sval T p ≠ .none) : proper (tag ν (skey T p)) = true := by
  unfold total at hp
  unfold sval at h
  unfold skey
  by_cases z : p < T.arr.length
  · rw [if_pos z]; rfl
  · rw [if_neg z] at h ⊢
    cases e : proper (tag ν (T.nd (p - T.arr.length)).key) with
    | true => rfl
    | false => exact absurd (I.vals _ (by lia) e) h
theorem slot_any (I : Inv ν T) {p} (hp : p < total T) : AnyV ν (skey T p) := by
  unfold total at hp
  unfold skey
  split
  · exact .int _
  · exact I.keys _ (by lia)
theorem slot_of (I : Inv ν T) {t} (ht : proper t = true) (h : look ν T t ≠ .none) : ∃ p, A3 (p < total T) (tag ν (skey T p) = t) (sval T p = look ν T t) := by
  cases hi : inArr T t with
  | true =>
    obtain ⟨x, hi'⟩ := inA_of hi
    clear hi
    have hi := hi'
    refine ⟨(x - 1).toNat, by unfold total; lia, ?_, ?_⟩
    · unfold skey; rw [if_pos (by lia)]
      show Tag.int _ = _
      congr 1; lia
    · unfold sval; rw [if_pos (by lia), look_arr hi, List.getD_eq_getElem?_getD]
  | false =>
    rw [look_node hi] at h ⊢
    have : ∃ i, IsAt ν T t i := Classical.byContradiction fun z => h (nlook_none fun i hi => z ⟨i, hi⟩)
    obtain ⟨i, hi⟩ := this
    have h1 := hi.1
    have h2 := hi.2
    refine ⟨T.arr.length + i, by unfold total; lia, ?_, ?_⟩
    · unfold skey; rw [if_neg (by lia), Nat.add_sub_cancel_left]; exact h2
    · unfold sval; rw [if_neg (by lia), Nat.add_sub_cancel_left, nlook_at I ht hi]
theorem slot_uniq (I : Inv ν T) {p q} (hp : p < total T) (hq : q < total T) (hk : proper (tag ν (skey T p)) = true) (e : tag ν (skey T p) = tag ν (skey T q)) : p = q := by
  unfold total at hp hq
  unfold skey at hk e
  by_cases h : p < T.arr.length
  · by_cases h' : q < T.arr.length
    · rw [if_pos h, if_pos h'] at e
      have e : Tag.int ((p : Int) + 1) = Tag.int ((q : Int) + 1) := e
      simp only [Tag.int.injEq] at e; lia
    · rw [if_pos h, if_neg h'] at e
      have := node_out I (i := q - T.arr.length) (by lia)
      rw [← e] at this
      have this : decide _ = false := this
      simp only [decide_eq_false_iff_not] at this
      lia
  · by_cases h' : q < T.arr.length
    · rw [if_neg h, if_pos h'] at e
      have := node_out I (i := p - T.arr.length) (by lia)
      rw [e] at this
      have this : decide _ = false := this
      simp only [decide_eq_false_iff_not] at this
      lia
    · rw [if_neg h, if_neg h'] at e
      rw [if_neg h] at hk
      have := I.uniq _ _ (by lia) (by lia) e hk
      lia
theorem slot_idx (I : Inv ν T) {p j} (hp : p < total T) (hk : proper (tag ν (skey T p)) = true) (h : Idx ν T (skey T p) j) : j = p := by
  cases h with
  | none e => rw [e] at hk; cases hk
  | arr x e h1 h2 hj =>
    unfold skey total at *
    by_cases h : p < T.arr.length
    · rw [if_pos h] at e
      have e : Tag.int ((p : Int) + 1) = Tag.int x := e
      simp only [Tag.int.injEq] at e; lia
    · rw [if_neg h] at e
      have := node_out I (i := p - T.arr.length) (by lia)
      rw [e] at this
      exact absurd ⟨h1, h2⟩ (of_decide_eq_false this)
  | nod _ _ i h hj =>
    obtain ⟨h1, h2⟩ := h
    have : p = T.arr.length + i := by
      refine slot_uniq I hp (by unfold total; lia) hk ?_
      rw [← h2]
      conv => rhs; unfold skey
      rw [if_neg (by lia), Nat.add_sub_cancel_left]
    lia
theorem SameKeys.total (S : SameKeys T T') : Mn.total T' = Mn.total T := by unfold Mn.total; rw [S.arr, S.n]
theorem SameKeys.skey (S : SameKeys T T') {p} (hp : p < Mn.total T) : Mn.skey T' p = Mn.skey T p := by
  unfold Mn.total at hp
  unfold Mn.skey
  rw [S.arr]
  split
  · rfl
  · exact S.key _ (by lia)
theorem SameKeys.trans {T''} (S : SameKeys T T') (S' : SameKeys T' T'') : SameKeys T T'' := ⟨S'.arr.trans S.arr, S'.n.trans S.n, fun i hi => (S'.key i (by rw [S.n]; exact hi)).trans (S.key i hi)⟩
theorem has_of_look (ht : look ν T t ≠ .none) : inArr T t = true ∨ HasKey ν T t := by
  cases hi : inArr T t with
  | true => exact .inl rfl
  | false =>
    rw [look_node hi] at ht
    exact .inr (Classical.byContradiction fun z => ht (nlook_none fun i hi => z ⟨i, hi⟩))
/-- how going through stands behind s slots -/
structure WalkI (T0 T : Tb) (s : Nat) : Prop where
  same : SameKeys T0 T
  down : ∀ q, q < total T0 → sval T q ≠ .none → sval T0 q ≠ .none
  up : ∀ q, s ≤ q → q < total T0 → sval T0 q ≠ .none → sval T q ≠ .none
theorem WalkI.refl (T : Tb) : WalkI T T 0 := ⟨⟨rfl, rfl, fun _ _ => rfl⟩, fun _ _ h => h, fun _ _ _ h => h⟩
theorem WalkI.mono {s s'} (W : WalkI T0 T s) (h : s ≤ s') : WalkI T0 T s' := ⟨W.same, W.down, fun q a b c => W.up q (by lia) b c⟩
theorem WalkI.set {s t v} (W : WalkI T0 T s) (I0 : Inv ν T0) (I : Inv ν T) (hi : Ins ν T T' t v) (S : SameKeys T T') (hl : look ν T t ≠ .none) (hv : v ≠ .none ∨ ∃ p, A4 (p < s) (p < total T0) (sval T0 p ≠ .none) (tag ν (skey T0 p) = t)) : WalkI T0 T' s := by
  have tt := W.same.total
  have tt' := S.total
  refine ⟨W.same.trans S, fun q hq h => W.down q hq ?_, fun q hs hq h => ?_⟩
  · have pr := slot_proper hi.inv (by lia) h
    have e := sval_look hi.inv (by lia) pr
    rw [S.skey (by lia)] at pr e
    have e2 := sval_look I (by lia) pr
    rw [← e2]
    rw [← e, hi.look _ pr] at h
    split at h
    · rename_i z; rw [z]; exact hl
    · exact h
  · have h1 := W.up q hs hq h
    have pr := slot_proper I (by lia) h1
    have e2 := sval_look I (by lia) pr
    rw [← e2] at h1
    have pr' := pr
    rw [← S.skey (by lia)] at pr'
    have e := sval_look hi.inv (by lia) pr'
    rw [S.skey (by lia), hi.look _ pr] at e
    rw [← e]
    split
    · rename_i z
      rcases hv with hv | ⟨p, p1, p2, p3, p4⟩
      · exact hv
      · have := slot_uniq I0 p2 hq (slot_proper I0 p2 p3) (by rw [p4, ← z, W.same.skey hq])
        lia
    · exact h1
/-- the tags of the slots passed that held something -/
noncomputable def metT (ν : Nu) (T0 : Tb) (s : Nat) : List Tag := ((List.range s).filter fun q => !isNone (sval T0 q)).map fun q => tag ν (skey T0 q)
theorem isNone_ne {v : V} (h : v ≠ .none) : isNone v = false := by
  cases e : isNone v with
  | false => rfl
  | true => exact absurd (isNone_iff.mp e) h
theorem metT_skip {s p : Nat} (h : s ≤ p) (hn : ∀ q, s ≤ q → q < p → sval T0 q = .none) : metT ν T0 p = metT ν T0 s := by
  induction p with
  | zero => have : s = 0 := by lia
            subst this; rfl
  | succ p ih =>
    by_cases z : s = p + 1
    · rw [z]
    · have := ih (by lia) fun q a b => hn q a (by lia)
      rw [← this]
      unfold metT
      rw [List.range_succ, List.filter_append]
      have : isNone (sval T0 p) = true := isNone_iff.mpr (hn p (by lia) (by lia))
      simp [this]
theorem metT_next {s p : Nat} (h : s ≤ p) (hn : ∀ q, s ≤ q → q < p → sval T0 q = .none) (hp : sval T0 p ≠ .none) : metT ν T0 (p + 1) = metT ν T0 s ++ [tag ν (skey T0 p)] := by
  rw [← metT_skip h hn]
  unfold metT
  rw [List.range_succ, List.filter_append]
  simp [isNone_ne hp]
theorem metT_mem {s t} : t ∈ metT ν T0 s ↔ ∃ q, A3 (q < s) (sval T0 q ≠ .none) (tag ν (skey T0 q) = t) := by
  unfold metT
  simp only [List.mem_map, List.mem_filter, List.mem_range]
  constructor
  · rintro ⟨q, ⟨a, b⟩, c⟩
    exact ⟨q, a, fun z => (by rw [z] at b; cases b), c⟩
  · rintro ⟨q, a, b, c⟩
    exact ⟨q, ⟨a, by rw [isNone_ne b]; rfl⟩, c⟩
theorem metT_nodup (I0 : Inv ν T0) {s} (hs : s ≤ total T0) : (metT ν T0 s).Nodup := by
  unfold metT
  refine List.pairwise_map.mpr ?_
  have h1 : ((List.range s).filter fun q => !isNone (sval T0 q)).Pairwise (· ≠ ·) := (List.filter_sublist).nodup List.nodup_range
  refine List.Pairwise.imp_of_mem (fun {a b} ha hb hab e => ?_) h1
  have ha' := List.mem_filter.mp ha
  have hb' := List.mem_filter.mp hb
  have la := List.mem_range.mp ha'.1
  have lb := List.mem_range.mp hb'.1
  exact hab (slot_uniq I0 (by lia) (by lia) (slot_proper I0 (by lia) fun z => by rw [z] at ha'; cases ha'.2) e)
end
noncomputable def skOf : Tag → SK
  | .int i => .i 0 i
  | .bool b => .i 1 (if b = true then 1 else 0)
  | .bytes l => .b l
  | .ref _ n => .i 3 n
  | _ => .i 9 0
theorem skOf_v {t} (h : LTag t) : (skOf t).v = tagV t := by cases h <;> rfl
theorem skOf_ok (t) : (skOf t).ok := by cases t <;> simp [skOf, SK.ok]
theorem skOf_inj {t u} (h : LTag t) (k : LTag u) (e : skOf t = skOf u) : t = u := h.inj k (by rw [← skOf_v h, ← skOf_v k, e])
theorem sk_map {ts : List Tag} (h : ∀ t ∈ ts, LTag t) : (ts.map skOf).map SK.v = ts.map tagV := by
  rw [List.map_map]; exact List.map_congr_left fun t ht => skOf_v (h t ht)
theorem sk_nodup {ts : List Tag} (h : ∀ t ∈ ts, LTag t) (n : ts.Nodup) : (ts.map skOf).Nodup := by
  refine List.pairwise_map.mpr (List.Pairwise.imp_of_mem (fun {a b} ha hb hab e => hab (skOf_inj (h a ha) (h b hb) e)) n)
theorem perm_of_mem {ts us : List Tag} (n : ts.Nodup) (m : us.Nodup) (h : ∀ t, t ∈ ts ↔ t ∈ us) : ts.Perm us := (List.perm_ext_iff_of_nodup n m).mpr h
/-! the law's walk (plain) -/
theorem nd_len {α : Type} [DecidableEq α] : ∀ {l m : List α}, l.Nodup → (∀ x, x ∈ l → x ∈ m) → l.length ≤ m.length
  | [], _, _, _ => Nat.zero_le _
  | x :: l, m, n, h => by
    rw [List.nodup_cons] at n
    have hx := h x (.head _)
    have := nd_len (m := m.erase x) n.2 fun y hy => (List.mem_erase_of_ne (fun z : y = x => n.1 (by rw [← z]; exact hy))).mpr (h y (.tail _ hy))
    rw [List.length_erase_of_mem hx] at this
    have := List.length_pos_of_mem hx
    rw [List.length_cons]; lia -abstractProof
theorem TR.updO {σ t T a o} (h : TR σ t T) (n : ¬ foot t T a) : TR (upd σ a o) t T := by
  have k : ∀ b, foot t T b → upd σ a o b = σ b := fun b hb => upd_ne _ _ fun z => n (z ▸ hb)
  exact ⟨(k _ (.inl rfl)).trans h.t, (k _ (.inr (.inl rfl))).trans h.arr, (k _ (.inr (.inr (.inl rfl)))).trans h.nl, fun p hp => (k _ (.inr (.inr (.inr (List.mem_map.mpr ⟨p, hp, rfl⟩))))).trans (h.nd p hp), h.nodup, h.ne, h.pa, h.pn, h.sa, h.sn⟩
theorem any_tags {u : Tag} (hu : LTag u) : ∀ {ts : List Tag}, (∀ t ∈ ts, LTag t) → (ts.map tagV).any (veq · (tagV u)) = decide (u ∈ ts)
  | [], _ => by simp
  | t :: ts, h => by
    rw [List.map_cons, List.any_cons, any_tags hu fun x hx => h x (.tail _ hx), (h t (.head _)).veq hu, Bool.eq_iff_iff]
    rw [Bool.or_eq_true, decide_eq_true_eq, decide_eq_true_eq, decide_eq_true_eq, List.mem_cons]
    exact or_congr eq_comm Iff.rfl
structure KWalk (ν : Nu) (kv : List V) (P : Prs) : Prop where
  len : kv.length ≤ 2 ^ 10
  key : ∀ k ∈ kv, LKey ν k
  has : ∀ p ∈ P, ∃ k ∈ kv, tag ν k = p.1
section
variable {ν : Nu} {σ : MH} {t : Addr} {T : Tb} {P : Prs} {i : Nat}
theorem St.tagOf (S : St ν i T P) {q} (hq : q < total T) (h : sval T q ≠ .none) : UU i (tag ν (skey T q)) ∧ look ν T (tag ν (skey T q)) = sval T q := by
  have pr := slot_proper S.inv hq h
  have e := sval_look S.inv hq pr
  exact ⟨S.uni _ pr (.inr (by rw [e]; exact h)), e⟩
theorem St.lkey (S : St ν i T P) {q} (hq : q < total T) (h : sval T q ≠ .none) : LKey ν (skey T q) := ⟨slot_any S.inv hq, (S.tagOf hq h).1.ltag⟩
theorem St.mem (S : St ν i T P) {u} (hu : LTag u) (h : look ν T u ≠ .none) : (u, look ν T u) ∈ P := by
  have e := S.rel.same u hu
  have := mem_findP (P := P) (t := u) (by rw [e]; exact h)
  rwa [e] at this
theorem St.lookP (S : St ν i T P) {p} (h : p ∈ P) : look ν T p.1 = p.2 ∧ look ν T p.1 ≠ .none := by
  have e := S.rel.same p.1 (S.rel.ok p h).1
  rw [findP_mem S.nd h] at e
  exact ⟨e.symm, by rw [← e]; exact S.live p h⟩
theorem St.metL (S : St ν i T P) {s} (hs : s ≤ total T) : ∀ u, u ∈ metT ν T s → LTag u ∧ u ∈ P.map (·.1) := fun u hu => by
  obtain ⟨q, a, b, c⟩ := metT_mem.mp hu
  obtain ⟨h1, h2⟩ := S.tagOf (by lia -abstractProof) b
  rw [c] at h1 h2
  exact ⟨h1.ltag, List.mem_map.mpr ⟨_, S.mem h1.ltag (by rw [h2]; exact b), rfl⟩⟩
theorem St.metC (S : St ν i T P) {s} (hs : s ≤ total T) : (metT ν T s).length ≤ P.length := by
  have := nd_len (metT_nodup S.inv hs) fun u hu => (S.metL hs u hu).2
  simpa using this
theorem St.lval (S : St ν i T P) {u} (hu : LTag u) : LVal (look ν T u) := by
  by_cases h : look ν T u = .none
  · rw [h]; exact .none
  · exact (S.rel.ok _ (S.mem hu h)).2
/-- how the law's walk stands -/
structure Walking (ν : Nu) (σ : MH) (t : Addr) (T : Tb) (P : Prs) (kv : List V) (ka pa ma : Addr) (j n : Nat) (σ1 : MH) (T1 : Tb) (P1 : Prs) (la : Addr) (s : Nat) : Prop where
  tr : TR σ1 t T1
  mv : Mv σ t T σ1 T1
  st : St ν j T1 P1
  wi : WalkI T T1 s
  le : s ≤ total T
  left : Held σ1 t T1 la (prV P1)
  met : Held σ1 t T1 ma ((metT ν T s).map tagV)
  cnt : (metT ν T s).length = n
  ks : Held σ1 t T1 ka kv
  ps : Held σ1 t T1 pa (prV P)
  kw : KWalk ν kv P1
  nk : ma ≠ ka
  np : ma ≠ pa
  nl : ma ≠ la
  fr : σ ma = none
variable {kv : List V} {ka pa ma la : Addr} {j n s : Nat} {σ1 σ2 : MH} {T1 T2 : Tb} {P1 : Prs}
theorem Walking.grow (W : Walking ν σ t T P kv ka pa ma j n σ1 T1 P1 la s) (k : ∀ b o, σ1 b = some o → σ2 b = some o) : Walking ν σ t T P kv ka pa ma j n σ2 T1 P1 la s :=
  ⟨W.tr.grow k, W.mv.trans (Mv.of_keep k), W.st, W.wi, W.le, W.left.grow k, W.met.grow k, W.cnt, W.ks.grow k, W.ps.grow k, W.kw, W.nk, W.np, W.nl, W.fr⟩
theorem Walking.tot (W : Walking ν σ t T P kv ka pa ma j n σ1 T1 P1 la s) : total T1 = total T := W.wi.same.total
/-- what is found next -/
theorem Walking.found (S : St ν i T P) (W : Walking ν σ t T P kv ka pa ma j n σ1 T1 P1 la s) {p} (hs : s ≤ p) (hp : p < total T) (hl : sval T1 p ≠ .none) (hn : ∀ q, s ≤ q → q < p → sval T1 q = .none) :
    skey T1 p = skey T p ∧ LKey ν (skey T1 p) ∧ look ν T1 (tag ν (skey T1 p)) = sval T1 p ∧ tag ν (skey T1 p) ∉ metT ν T s ∧ metT ν T (p + 1) = metT ν T s ++ [tag ν (skey T1 p)] := by
  have tt := W.tot
  have e := W.wi.same.skey hp
  have l0 := W.wi.down p hp hl
  refine ⟨e, W.st.lkey (by lia -abstractProof) hl, (W.st.tagOf (by lia -abstractProof) hl).2, fun z => ?_, ?_⟩
  · obtain ⟨q, a, b, c⟩ := metT_mem.mp z
    rw [e] at c
    have := slot_uniq S.inv (by lia -abstractProof) hp (slot_proper S.inv (by lia -abstractProof) b) c
    lia -abstractProof
  · rw [e]
    refine metT_next hs (fun q a b => ?_) l0
    exact Classical.byContradiction fun z => W.wi.up q a (by lia -abstractProof) z (hn q a b)
theorem Walking.meet (S : St ν i T P) (W : Walking ν σ t T P kv ka pa ma j n σ1 T1 P1 la s) {p} (hs : s ≤ p) (hp : p < total T) (hl : sval T1 p ≠ .none) (hn : ∀ q, s ≤ q → q < p → sval T1 q = .none) :
    Walking ν σ t T P kv ka pa ma j (n + 1) (upd σ1 ma (.list ((metT ν T s).map tagV ++ [tagV (tag ν (skey T1 p))]))) T1 P1 la (p + 1) := by
  obtain ⟨e, lk, lo, nm, em⟩ := W.found S hs hp hl hn
  have h := W.met.off
  have up : ∀ {a xs}, Held σ1 t T1 a xs → ma ≠ a → Held (upd σ1 ma (.list ((metT ν T s).map tagV ++ [tagV (tag ν (skey T1 p))]))) t T1 a xs := fun h n => ⟨(upd_ne _ _ (Ne.symm n)).trans h.at_, h.off⟩
  refine ⟨W.tr.updO h, ⟨fun b o eb nb => (upd_ne _ _ fun z => by rw [z, W.fr] at eb; cases eb).trans (W.mv.keep b o eb nb), W.mv.ft, fun b o eb => ?_, W.mv.num⟩, W.st, W.wi.mono (by lia -abstractProof), by lia -abstractProof, up W.left W.nl, ⟨?_, h⟩, ?_, up W.ks W.nk, up W.ps W.np, W.kw, W.nk, W.np, W.nl, W.fr⟩
  · obtain ⟨o', h'⟩ := W.mv.dom b o eb
    exact ⟨o', (upd_ne _ _ fun z => by rw [z, W.fr] at eb; cases eb).trans h'⟩
  · rw [upd_same, em]; simp
  · rw [em, List.length_append, W.cnt]; rfl
/-- a key that holds something gets another value -/
theorem Walking.put (S : St ν i T P) (W : Walking ν σ t T P kv ka pa ma j n σ1 T1 P1 la s) {σ3 : MH} {k v : V} {a : Addr} (hk : LKey ν k) (q : PutG ν σ1 t T1 k v σ2 T2) (sk : inArr T1 (tag ν k) = true ∨ HasKey ν T1 (tag ν k) → SameKeys T1 T2) (hl : look ν T1 (tag ν k) ≠ .none) (hv : LVal v)
    (hh : v ≠ .none ∨ ∃ p, A4 (p < s) (p < total T) (sval T p ≠ .none) (tag ν (skey T p) = tag ν k)) (ha : σ2 a = none) (h3 : σ3 a = some (.list (prV (putP P1 (tag ν k) v)))) (kk : ∀ b o, σ2 b = some o → σ3 b = some o) :
    Walking ν σ t T P kv ka pa ma (j + 1) n σ3 T2 (putP P1 (tag ν k) v) a s := by
  have S2 := sk (has_of_look hl)
  have met2 := W.met.mv q.mv
  have hu := W.st.uni _ hk.proper (.inr hl)
  refine ⟨q.tr.grow kk, (W.mv.trans q.mv).trans (Mv.of_keep kk), W.st.put q.ins (hu.mono (by lia -abstractProof)) hv, W.wi.set S.inv W.st.inv q.ins S2 hl hh, W.le, Held.new q.tr ha h3, met2.grow kk, W.cnt, (W.ks.mv q.mv).grow kk, (W.ps.mv q.mv).grow kk, ⟨W.kw.len, W.kw.key, fun p hp => ?_⟩, W.nk, W.np, fun z => ?_, W.fr⟩
  · rcases mem_putP hp with ⟨h, _⟩ | ⟨rfl, _⟩
    · exact W.kw.has p h
    · obtain ⟨k', a, b⟩ := W.kw.has _ (W.st.mem hk.lt hl)
      exact ⟨k', a, b⟩
  · have := met2.at_; rw [z, ha] at this; cases this
/-- nothing is left -/
theorem Walking.all (S : St ν i T P) (W : Walking ν σ t T P kv ka pa ma j n σ1 T1 P1 la s) (h : ∀ q, s ≤ q → q < total T → sval T1 q = .none) : (metT ν T s).Perm (P.map (·.1)) := by
  refine perm_of_mem (metT_nodup S.inv W.le) S.nd fun u => ⟨fun hu => (S.metL W.le u hu).2, fun hu => ?_⟩
  obtain ⟨p, hp, rfl⟩ := List.mem_map.mp hu
  obtain ⟨_, hn⟩ := S.lookP hp
  obtain ⟨q, a, b, c⟩ := slot_of S.inv (S.rel.ok p hp).1.proper hn
  rw [← c] at hn
  refine metT_mem.mpr ⟨q, Nat.lt_of_not_le fun z => W.wi.up q z a hn (h q z a), hn, b⟩
end
/-- where the walk is -/
inductive HereAt (ν : Nu) (T : Tb) : Nat → V → Prop
  | start : HereAt ν T 0 .none
  | at_ (p : Nat) (hp : p < total T) (hl : sval T p ≠ .none) : HereAt ν T (p + 1) (skey T p)
theorem HereAt.any {ν T s v} (h : HereAt ν T s v) (I : Inv ν T) : AnyV ν v := by
  cases h with
  | start => exact .none
  | at_ p hp => exact slot_any I hp
theorem HereAt.idx {ν T T1 s v j} (h : HereAt ν T s v) (I : Inv ν T) (I1 : Inv ν T1) (S : SameKeys T T1) (hj : Idx ν T1 v j) : j + 1 = s := by
  cases h with
  | start =>
    cases hj with
    | none _ h => rw [h]; rfl
    | arr x e => cases e
    | nod e => exact absurd rfl e
  | at_ p hp hl =>
    rw [← S.skey hp] at hj
    have := slot_idx I1 (by rw [S.total]; exact hp) (by rw [S.skey hp]; exact slot_proper I hp hl) hj
    lia -abstractProof
theorem HereAt.notIn {ν T T1 s v} (h : HereAt ν T s v) (S : SameKeys T T1) (hn : NotIn ν T1 v) : False := by
  obtain ⟨h1, h2, h3⟩ := hn
  cases h with
  | start => exact h1 rfl
  | at_ p hp hl =>
    rw [← S.skey hp] at h2 h3
    have hp' : p < total T1 := by rw [S.total]; exact hp
    unfold skey total at *
    by_cases z : p < T1.arr.length
    · rw [if_pos z] at h2
      have h2 := of_decide_eq_false h2
      omega
    · rw [if_neg z] at h3
      exact h3 (p - T1.arr.length) ⟨by omega, rfl⟩
section
variable {E : En} {K : V → MH → Prop} {σ : MH}
theorem Pv.sorted {a} {ks : List SK} (hσ : lst σ a (ks.map SK.v)) (hz : ks.length < 64) (hok : ∀ k ∈ ks, k.ok) (hn : ks.Nodup)
    (h : ∀ b (ks' : List SK), σ b = none → ks'.Perm ks → ks'.Pairwise (fun x y => x.lt y = true) → K (.ref b) (upd σ b (.list (ks'.map SK.v)))) : Pv E tcall [.bi "sorted", .ref a] K σ := ⟨fun _ _ => PV.sorted hσ hz hok hn h⟩
theorem Pv.list {a xs} (hσ : lst σ a xs) (hz : xs.length ≤ 2 ^ 24) (h : ∀ b, σ b = none → K (.ref b) (upd σ b (.list xs))) : Pv E tcall [.typ "list", .ref a] K σ := ⟨fun _ _ => PV.list hσ hz h⟩
theorem Pv.eqList {n a b xs ys} (ha : lst σ a xs) (hb : lst σ b ys) (c : CqL n xs ys) (hn : n ≤ 100) (h : K (.bool (veq (.tup xs) (.tup ys))) σ) : Pv E (t2 (compareOp .Eq)) [.ref a, .ref b] K σ := ⟨fun _ _ => PV.eqList ha hb c hn h⟩
theorem Pv.neList {n a b xs ys} (ha : lst σ a xs) (hb : lst σ b ys) (c : CqL n xs ys) (hn : n ≤ 100) (h : K (.bool (!veq (.tup xs) (.tup ys))) σ) : Pv E (t2 (compareOp .NotEq)) [.ref a, .ref b] K σ := ⟨fun _ _ => PV.neList ha hb c hn h⟩
theorem Pv.inList {n a xs x} (hσ : lst σ a xs) (c : ∀ y ∈ xs, Cq n y x) (hn : n ≤ 100) (h : K (.bool (xs.any (veq · x))) σ) : Pv E (t2 (compareOp .In)) [x, .ref a] K σ := ⟨fun _ _ => PV.inList hσ c hn h⟩
theorem Pv.notInList {n a xs x} (hσ : lst σ a xs) (c : ∀ y ∈ xs, Cq n y x) (hn : n ≤ 100) (h : K (.bool (!xs.any (veq · x))) σ) : Pv E (t2 (compareOp .NotIn)) [x, .ref a] K σ := ⟨fun _ _ => PV.notInList hσ c hn h⟩
end
theorem sorted_tags {ks ks' ks'' : List SK} (p : ks'.Perm ks) (q : ks''.Perm ks) (h1 : ks'.Pairwise (fun x y => x.lt y = true)) (h2 : ks''.Pairwise (fun x y => x.lt y = true)) : ks' = ks'' := sk_unique (p.trans q.symm) h1 h2
theorem SK.cq (x y : SK) : Cq 1 x.v y.v := by
  cases x <;> cases y <;> exact .tt (CqL.cons (.ii _ _) (CqL.cons (by constructor) CqL.l))
noncomputable def c__law_walk_1 : Cd := .ld 0 <| .lit (.int (0)) <| .ix <| .ret
noncomputable def c__law_walk_2 : Cd := .lit .none <| .ret
noncomputable def c__law_walk_3 : Cd := .ld 5 <| .call (.bi "sorted") 1 <| .ld 2 <| .comp 0 1 [] (c__law_walk_1) <| .call (.bi "sorted") 1 <| .cmp .Eq <| .br (.ld 4 <| .ret) (c__law_walk_2)
noncomputable def c__law_walk_4 : Cd := .ld 0 <| .lit (.int (0)) <| .ix <| .ld 1 <| .cmp .NotIn <| .br (.ld 0 <| .ret) (.cnt)
noncomputable def c__law_walk_5 : Cd := .ld 0 <| .call (.ref 424) 1 <| .ld 1 <| .lit (.int (0)) <| .ix <| .lit (.int (0)) <| .ix <| .cmp .Eq <| .br (.ld 0 <| .ret) (.cnt)
noncomputable def c__law_walk_6 : Cd := .ld 0 <| .mld cT "set" <| .ld 6 <| .lit (.bytes [111, 116, 104, 101, 114].toArray) <| .lit .none <| .call (.ref 266) 4 <| .pop <| .ld 4 <| .ld 9 <| .lit (.bytes [111, 116, 104, 101, 114].toArray) <| .call (.ref 436) 3 <| .st 4 <| .fin
noncomputable def c__law_walk_7 : Cd := .ld 1 <| .comp 0 1 [11] (c__law_walk_5) <| .lit (.int (0)) <| .ix <| .st 12 <| .ld 0 <| .mld cT "set" <| .ld 12 <| .lit (.bytes [99, 104, 97, 110, 103, 101, 100].toArray) <| .lit .none <| .call (.ref 266) 4 <| .pop <| .ld 4 <| .ld 11 <| .lit (.int (0)) <| .ix <| .lit (.int (0)) <| .ix <| .lit (.bytes [99, 104, 97, 110, 103, 101, 100].toArray) <| .call (.ref 436) 3 <| .st 4 <| .ld 10 <| .lit (.int (3)) <| .cmp .Eq <| .br (c__law_walk_6) (.fin)
noncomputable def c__law_walk_8 : Cd := .ld 10 <| .lit (.int (3)) <| .cmp .Eq <| .br (c__law_walk_6) (.fin)
noncomputable def c__law_walk_9 : Cd := .ld 4 <| .comp 0 1 [5] (c__law_walk_4) <| .st 11 <| .ld 11 <| .lst 0 <| .cmp .NotEq <| .br (c__law_walk_7) (c__law_walk_8)
noncomputable def c__law_walk_10 : Cd := .ld 0 <| .mld cT "set" <| .ld 6 <| .lit .none <| .lit .none <| .call (.ref 266) 4 <| .pop <| .ld 4 <| .ld 9 <| .lit .none <| .call (.ref 436) 3 <| .st 4 <| .ld 10 <| .lit (.int (2)) <| .cmp .Eq <| .br (c__law_walk_9) (c__law_walk_8)
noncomputable def c__law_walk_11 : Cd := .ld 10 <| .lit (.int (2)) <| .cmp .Eq <| .br (c__law_walk_9) (c__law_walk_8)
noncomputable def c__law_walk_12 : Cd := .ld 5 <| .ald <| .ld 9 <| .call (.bi "list.append") 2 <| .pop <| .ld 3 <| .lit (.int (4)) <| .bin .Mod <| .st 10 <| .ld 3 <| .lit (.int (4)) <| .bin .FloorDiv <| .st 3 <| .ld 10 <| .lit (.int (1)) <| .cmp .Eq <| .br (c__law_walk_10) (c__law_walk_11)
noncomputable def c__law_walk_13 : Cd := .ld 4 <| .ld 9 <| .call (.ref 431) 2 <| .ld 8 <| .lit (.int (1)) <| .ix <| .call (.ref 471) 2 <| .br (c__law_walk_12) (c__law_walk_2)
noncomputable def c__law_walk_14 : Cd := .ld 8 <| .lit (.int (0)) <| .ix <| .st 6 <| .ld 6 <| .call (.ref 424) 1 <| .st 9 <| .ld 9 <| .ld 5 <| .cmp .In <| .br (c__law_walk_2) (c__law_walk_13)
noncomputable def c__law_walk_15 : Cd := .st 7 <| .ld 0 <| .mld cT "next" <| .ld 6 <| .call (.ref 370) 2 <| .st 8 <| .ld 8 <| .isn true <| .br (c__law_walk_3) (c__law_walk_14)
noncomputable def c__law_walk : Cd := .ld 2 <| .call (.typ "list") 1 <| .lst 0 <| .lit .none <| .tup 3 <| .unp false [4, 5, 6] <| .ld 2 <| .call (.bi "len") 1 <| .lit (.int (1)) <| .bin .Add <| .forl 1 1 (c__law_walk_15) (c__law_walk_2)
/-- the walk's turns -/
inductive WAt (ν : Nu) (σ : MH) (t : Addr) (T : Tb) (P : Prs) (kv : List V) (ka pa ma : Addr) (i n : Nat) : Ls → MH → Prop
  | mk (T1 : Tb) (P1 : Prs) (la : Addr) (s : Nat) (hv : V) (m : Int) (x7 x8 x9 x10 x11 x12 : Option V) (σ1 : MH) (h : HereAt ν T s hv) (W : Walking ν σ t T P kv ka pa ma (i + n) n σ1 T1 P1 la s) :
    WAt ν σ t T P kv ka pa ma i n [some (.ref t), some (.ref ka), some (.ref pa), some (.int m), some (.ref la), some (.ref ma), some hv, x7, x8, x9, x10, x11, x12] σ1
structure WalkR (ν : Nu) (σ : MH) (t : Addr) (T : Tb) (i : Nat) (kv : List V) (r : V) (σ' : MH) : Prop where
  ex : X3 fun T' P' pa' => A6 (r = .ref pa') (TR σ' t T') (Mv σ t T σ' T') (St ν i T' P') (Held σ' t T' pa' (prV P')) (KWalk ν kv P')
theorem Walking.upj {ν σ t T P kv ka pa ma j j' n σ1 T1 P1 la s} (W : Walking ν σ t T P kv ka pa ma j n σ1 T1 P1 la s) (h : j ≤ j') : Walking ν σ t T P kv ka pa ma j' n σ1 T1 P1 la s := { W with st := W.st.le h }
/-- what the walk stands on -/
structure WK (ν : Nu) (σ : MH) (t : Addr) (T : Tb) (P : Prs) (i : Nat) : Prop where
  K : Knows σ ν
  hν : ν t = none
  nd : NoDead ν
  hT : TR σ t T
  S : St ν i T P
  hi : i ≤ 900
  hz : P.length < 60
theorem wp_brF {a b E Q s ls σ} (h : wp b E Q s ls σ) : wp (.br a b) E Q (.bool false :: s) ls σ := h
theorem wp_brT {a b E Q s ls σ} (h : wp a E Q s ls σ) : wp (.br a b) E Q (.bool true :: s) ls σ := h
section
variable {ν : Nu} {σ : MH} {t : Addr} {T : Tb} {P : Prs} {kv : List V} {ka pa ma la : Addr} {i n s : Nat} {σ1 : MH} {T1 : Tb} {P1 : Prs} {g : G} {Q : Fw → Ls → MH → Prop}
/-- a value for a key that holds one -/
theorem walk_set (L : Law g) (B : WK ν σ t T P i) {j n : Nat} (hn : j ≤ 1000) (W : Walking ν σ t T P kv ka pa ma j n σ1 T1 P1 la s) {k v : V} {tg : Tag} (hk : LKey ν k) (et : tag ν k = tg) (hl : look ν T1 tg ≠ .none) (hv : LVal v)
    (hh : v ≠ .none ∨ ∃ p, A4 (p < s) (p < total T) (sval T p ≠ .none) (tag ν (skey T p) = tg)) {KK : V → MH → Prop}
    (h : ∀ σ2, (∀ a xs, Held σ1 t T1 a xs → σ2 a = some (.list xs)) → (∀ {K2 : V → MH → Prop}, (∀ a σ3 T2, Walking ν σ t T P kv ka pa ma (j + 1) n σ3 T2 (putP P1 tg v) a s → K2 (.ref a) σ3) → Pv ⟨g, 12, noX⟩ tcall [.ref 436, .ref la, tagV tg, v] K2 σ2) → KK .none σ2) :
    Meth "set" cT σ1 (Pv ⟨g, 12, noX⟩ tcall [.ref 266, .ref t, k, v, .none] KK σ1) (.ref t) := by
  subst et
  refine Meth.tab W.tr rfl (Pv.fn L (set_ok (B.K.mv B.hT W.mv B.hν) B.hν W.tr W.st.inv hk.any hk.proper hv.plain (by have := W.st.lives; lia -abstractProof)) rfl ?_)
  rintro _ σ2 ⟨rfl, T2, q, sk⟩
  refine h σ2 (fun a xs ha => (ha.mv q.mv).at_) fun h2 => Pv.fn L (law_put_ok (W.left.mv q.mv).at_ (by have := W.st.len; lia -abstractProof) W.st.rel.ok hk.lt hv) rfl ?_
  rintro _ σ3 ⟨a, rfl, a0, a1, k3⟩
  exact h2 a σ3 T2 (W.put B.S hk q sk hl hv hh a0 a1 k3)
/-- form 3 -/
theorem walk_3 (L : Law g) (B : WK ν σ t T P i) (hn : n ≤ 60) {p : Nat} (W : Walking ν σ t T P kv ka pa ma (i + n) (n + 1) σ1 T1 P1 la (p + 1)) (hh : HereAt ν T (p + 1) (skey T1 p)) (hk : LKey ν (skey T1 p)) (hl : look ν T1 (tag ν (skey T1 p)) ≠ .none) {m f : Int} {x7 x8 x11 x12 : Option V} (hQ : ∀ ls σ2, WAt ν σ t T P kv ka pa ma i (n + 1) ls σ2 → Q .next ls σ2) :
    wp c__law_walk_8 ⟨g, 12, noX⟩ Q [] [some (.ref t), some (.ref ka), some (.ref pa), some (.int m), some (.ref la), some (.ref ma), some (skey T1 p), x7, x8, some (tagV (tag ν (skey T1 p))), some (.int f), x11, x12] σ1 := by
  refine brk2.dec (fun _ => ?_) fun _ => hQ _ _ (.mk T1 P1 la (p + 1) _ m x7 x8 _ _ x11 x12 σ1 hh (W.upj (Nat.le_succ _)))
  exact walk_set L B (by have := B.hi; lia -abstractProof) W hk rfl hl (.bytes _) (.inl fun z => nomatch z) fun σ2 _ h2 => h2 fun a σ3 T2 W3 => hQ _ _ (.mk T2 _ a (p + 1) _ m x7 x8 _ _ x11 x12 σ3 hh W3)
/-- form 2 -/
theorem walk_2 (L : Law g) (B : WK ν σ t T P i) (hn : n ≤ 60) {p : Nat} (W : Walking ν σ t T P kv ka pa ma (i + n) (n + 1) σ1 T1 P1 la (p + 1)) (hh : HereAt ν T (p + 1) (skey T1 p)) (hk : LKey ν (skey T1 p)) (hl : look ν T1 (tag ν (skey T1 p)) ≠ .none) {m : Int} {x7 x8 x11 x12 : Option V} (hQ : ∀ ls σ2, WAt ν σ t T P kv ka pa ma i (n + 1) ls σ2 → Q .next ls σ2) :
    wp c__law_walk_9 ⟨g, 12, noX⟩ Q [] [some (.ref t), some (.ref ka), some (.ref pa), some (.int m), some (.ref la), some (.ref ma), some (skey T1 p), x7, x8, some (tagV (tag ν (skey T1 p))), some (.int 2), x11, x12] σ1 := by
  have met := fun u hu => (B.S.metL W.le u hu).1
  have kl := W.kw.len
  refine It.val _ _ _ (.list la _ (.inl W.left.at_)) (CmpL.fm P1 _ (fun q => !decide (q.1 ∈ metT ν T (p + 1))) (fun q => .tup [tagV q.1, q.2]) (by have := W.st.len; have := B.hi; lia -abstractProof) (fun σ' k => .inl (k _ _ W.left.at_)) (fun q σ' Q' hq k h0 h1 => ?_) fun D σ2 hD k2 hl2 => ?_)
  · refine Pg.tup (by decide) (by decide) rfl (Pv.notInList (n := 1) (.inl (k _ _ W.met.at_)) (fun y hy => ?_) (by decide) ?_)
    · obtain ⟨u, hu, rfl⟩ := List.mem_map.mp hy
      exact (met u hu).cq (W.st.rel.ok q hq).1
    · rw [any_tags (W.st.rel.ok q hq).1 met]
      exact brk2.bool (fun e => h1 e _ _ fun _ _ h => h) fun e => h0 e _ _ fun _ _ h => h
  intro b hb
  have k3 : Grow σ2 (upd σ2 b (.list [])) := fun c o e => (upd_ne _ _ fun z => by rw [z, hb] at e; cases e).trans e
  have W3 := (W.grow k2).grow k3
  have hl3 := k3 _ _ hl2
  refine Pv.neList (n := 0) (.inl hl3) (.inl (upd_same ..)) CqL.r (by decide) ?_
  cases hF : P1.filter (fun q => !decide (q.1 ∈ metT ν T (p + 1))) with
  | nil =>
    rw [show veq (.tup (([] : Prs).map fun q => V.tup [tagV q.1, q.2])) (.tup []) = true from veq_iff.mpr rfl]
    exact wp_brF (walk_3 L B hn W3 hh hk hl hQ)
  | cons q0 rest =>
    rw [hF] at hl3
    have hl2' := hl2
    rw [hF] at hl2'
    have e0 : veq (.tup ((q0 :: rest).map fun q => V.tup [tagV q.1, q.2])) (.tup []) = false := by
      rw [← Bool.not_eq_true, veq_iff]; exact fun z => by cases z
    rw [e0]
    refine wp_brT ?_
    have hq0 := List.mem_filter.mp (show q0 ∈ P1.filter (fun q => !decide (q.1 ∈ metT ν T (p + 1))) by rw [hF]; exact .head _)
    have ok0 := W.st.rel.ok q0 hq0.1
    obtain ⟨k0, hk0, e1⟩ := W.kw.has q0 hq0.1
    have K3 := B.K.mv B.hT W3.mv B.hν
    have id_ : kv = kv.map fun x => x := (List.map_id' kv).symm
    have ks3 := W3.ks.at_
    refine It.val _ _ _ (.list ka _ (.inl ks3)) ?_
    rw [id_]
    refine CmpL.fm kv _ (fun x => decide (tag ν x = q0.1)) (fun x => x) (by lia -abstractProof) (fun σ' k => .inl (by rw [List.map_id']; exact k _ _ ks3)) (fun x σ' Q' hx k h0 h1 => ?_) fun D' σ4 hD' k4 hl4 => ?_
    · have g0 : ∀ {KK : V → MH → Prop}, KK (.tup [tagV q0.1, q0.2]) σ' → Pg ⟨g, 12, noX⟩ (.ref D) (.int 0) KK σ' := fun h => Pg.lst (.inl (k _ _ hl3)) (by decide) (by decide) rfl h
      refine Pv.fn1 L (law_tag_ok (K3.grow k) (W.kw.key x hx)) rfl (g0 (Pg.tup (by decide) (by decide) rfl (cmp_tag (W.kw.key x hx).lt ok0.1 (brk2.bool (fun e => h1 e _ _ fun _ _ h => h) fun e => h0 e _ _ fun _ _ h => h))))
    · obtain ⟨k1, r1, hG⟩ : X2 fun k1 r1 => kv.filter (fun x => decide (tag ν x = q0.1)) = k1 :: r1 := by
        cases e : kv.filter (fun x => decide (tag ν x = q0.1)) with
        | nil => have := List.mem_filter (p := fun x => decide (tag ν x = q0.1)).mpr ⟨hk0, decide_eq_true e1⟩; rw [e] at this; cases this
        | cons a b => exact ⟨a, b, rfl⟩
      have hk1 := List.mem_filter.mp (show k1 ∈ kv.filter (fun x => decide (tag ν x = q0.1)) by rw [hG]; exact .head _)
      have et : tag ν k1 = q0.1 := of_decide_eq_true hk1.2
      rw [hG] at hl4
      have W4 := W3.grow k4
      refine Pg.lst (.inl hl4) (by decide) (by decide) rfl ?_
      have hD3 : Held σ4 t T1 D ((q0 :: rest).map fun q => V.tup [tagV q.1, q.2]) := ((Held.new W.tr hD hl2').grow k3).grow k4
      refine walk_set L B (by have := B.hi; lia -abstractProof) W4 (W.kw.key k1 hk1.1) et (W.st.lookP hq0.1).2 (.bytes _) (.inl fun z => nomatch z) fun σ5 kh h5 => ?_
      refine Pg.lst (.inl (kh _ _ hD3)) (by decide) (by decide) rfl (Pg.tup (by decide) (by decide) rfl (h5 fun a σ6 T2 W6 => ?_))
      exact hQ _ _ (.mk T2 _ a (p + 1) _ m x7 x8 _ _ _ _ σ6 hh W6)
end
section
variable {ν : Nu} {σ : MH} {t : Addr} {T : Tb} {P : Prs} {kv : List V} {ka pa ma la : Addr} {i n s : Nat} {σ1 : MH} {T1 : Tb} {P1 : Prs} {g : G} {Q : Fw → Ls → MH → Prop}
/-- the end: what was met is sorted -/
theorem walk_end (L : Law g) (B : WK ν σ t T P i) (hn : n ≤ 60) (W : Walking ν σ t T P kv ka pa ma (i + n) n σ1 T1 P1 la s) (hq : ∀ q, s ≤ q → q < total T → sval T1 q = .none) {ls : Ls} {x0 x1 x3 : Option V} (hQ : ∀ ls r σ', WalkR ν σ t T (i + P.length + 1) kv r σ' → Q (.ret r) ls σ') :
    wp c__law_walk_3 ⟨g, 12, noX⟩ Q [] (x0 :: x1 :: some (.ref pa) :: x3 :: some (.ref la) :: some (.ref ma) :: ls) σ1 := by
  have S := B.S
  have hz := B.hz
  have perm := W.all S hq
  have lm := S.metL W.le
  have ltm : ∀ u ∈ metT ν T s, LTag u := fun u hu => (lm u hu).1
  have ltp : ∀ u ∈ P.map (·.1), LTag u := fun u hu => by obtain ⟨p, hp, rfl⟩ := List.mem_map.mp hu; exact (S.rel.ok p hp).1
  have mc := S.metC W.le
  have ok : ∀ (ts : List Tag), ∀ k ∈ ts.map skOf, k.ok := fun ts k hk => by obtain ⟨t, _, rfl⟩ := List.mem_map.mp hk; exact skOf_ok t
  have met := W.met.at_
  rw [← sk_map ltm] at met
  refine Pv.sorted (.inl met) (by rw [List.length_map]; lia) (ok _) (sk_nodup ltm (metT_nodup S.inv W.le)) fun b ks1 hb p1 s1 => ?_
  have k1 : Grow σ1 (upd σ1 b (.list (ks1.map SK.v))) := fun c o e => (upd_ne _ _ fun z => by rw [z, hb] at e; cases e).trans e
  have hb1 : upd σ1 b (.list (ks1.map SK.v)) b = some (.list (ks1.map SK.v)) := upd_same ..
  have W1 := W.grow k1
  have ps1 := W1.ps.at_
  refine It.val _ _ _ (.list pa _ (.inl ps1)) (CmpL.fm P _ (fun _ => true) (fun q => tagV q.1) (by lia) (fun σ' k => .inl (k _ _ ps1)) (fun q σ' Q' _ k h0 h1 => Pg.tup (by decide) (by decide) rfl (h1 rfl _ _ fun _ _ h => h)) fun D σ3 hD k3 hD3 => ?_)
  rw [List.filter_eq_self.mpr fun _ _ => rfl, show P.map (fun q => tagV q.1) = (P.map (·.1)).map tagV by rw [List.map_map]; rfl, ← sk_map ltp] at hD3
  refine Pv.sorted (.inl hD3) (by rw [List.length_map, List.length_map]; exact Nat.lt_of_lt_of_le hz (by decide)) (ok _) (sk_nodup ltp S.nd) fun b2 ks2 hb2 p2 s2 => ?_
  have k4 : Grow σ3 (upd σ3 b2 (.list (ks2.map SK.v))) := fun c o e => (upd_ne _ _ fun z => by rw [z, hb2] at e; cases e).trans e
  refine Pv.eqList (n := 1) (.inl (k4 _ _ (k3 _ _ hb1))) (.inl (upd_same ..)) (fun i x y e e' => ?_) (by decide) ?_
  · obtain ⟨a, _, rfl⟩ := List.mem_map.mp (List.mem_of_getElem? e)
    obtain ⟨c, _, rfl⟩ := List.mem_map.mp (List.mem_of_getElem? e')
    exact SK.cq a c
  · have pm : (metT ν T s |>.map skOf).Perm ((P.map (·.1)).map skOf) := perm.map skOf
    have e : ks1 = ks2 := sk_unique ((p1.trans pm).trans p2.symm) s1 s2
    rw [e, veq_iff.mpr rfl]
    have W4 := (W1.grow k3).grow k4
    have nl : n ≤ P.length := by rw [← W.cnt]; exact mc
    exact hQ _ _ _ ⟨T1, P1, la, rfl, W4.tr, W4.mv, W4.st.le (by lia), W4.left, W4.kw⟩
theorem law_walk_ok {m : Int} (B : WK ν σ t T P i) (hk : Held σ t T ka kv) (ko : KWalk ν kv P) (hP : Held σ t T pa (prV P)) :
    Fn 13 476 [.ref t, .ref ka, .ref pa, .int m] (fun r σ' => WalkR ν σ t T (i + P.length + 1) kv r σ') σ := by
  refine Fn.goC (ps := ["rows_here", "keys", "pairs", "mixed"]) (rest := ["left", "met", "here", "turn", "found", "tag", "form", "later", "other"]) (code := c__law_walk) (fun _ => by kernel_rfl) (fun _ => args4 fun _ _ _ _ => by kernel_rfl) (fun _ => by kernel_rfl) rfl fun g L => ?_
  have S := B.S
  have hT := B.hT
  have hz := B.hz
  have hi := B.hi
  have pzl : (prV P).length = P.length := by unfold prV; rw [List.length_map]
  refine Pv.list (.inl hP.at_) (by lia) fun la hla ma hma => ?_
  have lma : la ≠ ma := fun z => by rw [← z, upd_same] at hma; cases hma
  have hma0 : σ ma = none := by rwa [upd_ne _ _ (Ne.symm lma)] at hma
  have k0 : Grow σ (upd (upd σ la (.list (prV P))) ma (.list [])) := fun b o e => (upd_ne _ _ fun z => by rw [z, hma0] at e; cases e).trans ((upd_ne _ _ fun z => by rw [z, hla] at e; cases e).trans e)
  have W0 : Walking ν σ t T P kv ka pa ma i 0 (upd (upd σ la (.list (prV P))) ma (.list [])) T P la 0 :=
    ⟨hT.grow k0, Mv.of_keep k0, S, WalkI.refl T, Nat.zero_le _, Held.new hT hla ((upd_ne _ _ lma).trans (upd_same ..)), Held.new hT hma0 (upd_same ..), rfl, hk.grow k0, hP.grow k0, ko,
      (fun z => some_not_none hk.at_ (z ▸ hma0)), (fun z => some_not_none hP.at_ (z ▸ hma0)), Ne.symm lma, hma0⟩
  refine Pv.len (.inl W0.ps.at_) (by lia) (It.range1 _ (by lia) (ForL.mk (fun n ls σ1 => WAt ν σ t T P kv ka pa ma i n ls σ1) (.mk T P la 0 .none m _ _ _ _ _ _ _ .start W0) (fun _ _ _ _ => trivial) ?_ ?_))
  rotate_left
  · rintro ls σ1 ⟨T1, P1, la1, s, hv, m1, x7, x8, x9, x10, x11, x12, _, _, W⟩
    exfalso
    have := W.cnt
    have := S.metC W.le
    rw [rng_len, pzl] at *
    lia
  rintro n x ls σ1 _ ⟨T1, P1, la1, s, hv, m1, x7, x8, x9, x10, x11, x12, _, ha, W⟩
  have hn : n ≤ P.length := by rw [← W.cnt]; exact S.metC W.le
  have tt := W.tot
  refine Meth.tab W.tr rfl (Pv.fnX L (next_ok (B.K.mv hT W.mv B.hν) W.tr W.st.inv B.nd (ha.any S.inv)) rfl ?_ fun _ h => (ha.notIn W.wi.same h.2).elim)
  rintro r σ2 ⟨⟨j, hj, hr⟩, rfl⟩
  rw [ha.idx S.inv W.st.inv W.wi.same hj] at hr
  cases hr with
  | fin e hq =>
    subst e
    exact ⟨rfl, walk_end L B (by lia) W (fun q h1 h2 => hq q (by lia) (by rw [tt]; exact h2)) fun _ _ _ h => h⟩
  | at_ p hs hp e hl hq =>
    subst e
    have hs : s ≤ p := by lia
    have hp : p < total T := by rw [← tt]; exact hp
    have hq : ∀ q, s ≤ q → q < p → sval T1 q = .none := fun q a b => hq q (by lia) b
    obtain ⟨es, lk, lo, nm, em⟩ := W.found S hs hp hl hq
    have met := fun u hu => (S.metL W.le u hu).1
    have K1 := B.K.mv hT W.mv B.hν
    have hln : look ν T1 (tag ν (skey T1 p)) ≠ .none := by rw [lo]; exact hl
    have hh : HereAt ν T (p + 1) (skey T1 p) := by rw [es]; exact .at_ p hp (W.wi.down p hp hl)
    refine ⟨rfl, Pg.tup (by decide) (by decide) rfl (Pv.fn1 L (law_tag_ok K1 lk) rfl (Pv.inList (n := 1) (.inl W.met.at_) (fun y hy => ?_) (by decide) ?_))⟩
    · obtain ⟨u, hu, rfl⟩ := List.mem_map.mp hy
      exact (met u hu).cq lk.lt
    rw [any_tags lk.lt met, decide_eq_false nm]
    refine Pv.fn1 L (law_find_ok W.left.at_ W.st.rel.ok lk.lt) rfl ?_
    rw [W.st.rel.same _ lk.lt, lo]
    refine Pg.tup (by decide) (by decide) rfl (Pv.fn1 L (law_is_same_ok K1 (by rw [← lo]; exact W.st.lval lk.lt)) rfl ?_)
    have W2 := W.meet S hs hp hl hq
    refine IsL.mk ma _ W.met.at_ (Pv.app W.met.at_ (by rw [List.length_map, W.cnt]; lia) (Pv.mod (by decide) (Pv.div (by decide) (by decide) ?_)))
    refine brk2.dec (fun e1 => ?_) fun e1 => brk2.dec (fun e2 => ?_) fun e2 => walk_3 L B (by lia) W2 hh lk hln fun _ _ h => h
    · refine walk_set L B (by lia) W2 lk rfl hln .none (.inr ⟨p, Nat.lt_succ_self p, hp, W.wi.down p hp hl, by rw [es]⟩) fun σ3 _ h3 => h3 fun a σ4 T2 W4 => ?_
      refine brk2.dec (fun e2 => absurd (e1.symm.trans e2) (by decide)) fun _ => brk2.dec (fun e3 => absurd (e1.symm.trans e3) (by decide)) fun _ => .mk T2 _ a (p + 1) _ _ _ _ _ _ _ _ σ4 hh W4
    · rw [e2]
      exact walk_2 L B (by lia) W2 hh lk hln fun _ _ h => h
end
theorem Inv.ren {ν ν' : Nu} {T : Tb} (I : Inv ν T) (h : ∀ i, i < T.n → tag ν' (T.nd i).key = tag ν (T.nd i).key ∧ AnyV ν' (T.nd i).key) : Inv ν' T :=
  ⟨I.sz, I.sa, I.fr, fun i hi => (h i hi).2, fun i hi e => I.vals i hi (by rw [← (h i hi).1]; exact e), I.gr.congr (fun _ _ => Iff.rfl) (fun i hi _ => by rw [(h i hi).1]) fun _ _ => rfl, I.full, fun i j hi hj e p => I.uniq i j hi hj (by rw [← (h i hi).1, ← (h j hj).1]; exact e) (by rw [← (h i hi).1]; exact p), I.out⟩
theorem St.flags {ν i T P v} (S : St ν i T P) : St ν i { T with flags := v } P := ⟨⟨S.rel.ok, S.rel.same⟩, S.inv.flags, S.nd, S.live, S.len, S.lives, S.uni⟩
/-- what the law's loop keeps -/
structure LInv (ν : Nu) (σ : MH) (t : Addr) (T : Tb) (P : Prs) (ka pa b : Addr) (kv sl : List V) (n : Nat) : Prop where
  K : Knows σ ν
  hT : TR σ t T
  S : St ν n T P
  hk : Held σ t T ka kv
  hP : Held σ t T pa (prV P)
  hb : Held σ t T b sl
structure LFix (ν : Nu) (t : Addr) (kv : List V) : Prop where
  hν : ν t = none
  nd : NoDead ν
  ko : KOk ν kv
inductive LAt (ν : Nu) (t ka b : Addr) (kv sl : List V) (sc : V) (n : Nat) : Ls → MH → Prop
  | mk (T : Tb) (P : Prs) (pa : Addr) (m : Int) (x1 x2 x7 x8 x9 x10 : Option V) (σ : MH) (H : LInv ν σ t T P ka pa b kv sl n) : LAt ν t ka b kv sl sc n [some sc, x1, x2, some (.ref ka), some (.ref pa), some (.int m), some (.ref t), x7, x8, x9, x10] σ
noncomputable def c_law_1 : Cd := .ld 0 <| .call (.ref cT) 1 <| .ret
noncomputable def c_law_2 : Cd := .lit (.bool false) <| .ret
noncomputable def c_law_3 : Cd := .ld 6 <| .ld 4 <| .call (.ref 443) 2 <| .br (.fin) (c_law_2)
noncomputable def c_law_4 : Cd := .st 1 <| .ld 1 <| .call (.bi "abs") 1 <| .lit (.int (10)) <| .lit (.int (9)) <| .bin .Pow <| .bin .Mod <| .ld 1 <| .lit (.int (0)) <| .cmp .Lt <| .call (.typ "int") 1 <| .bin .Add <| .st 7 <| .ld 5 <| .lit (.int (31)) <| .bin .Mult <| .ld 7 <| .bin .Add <| .lit (.int (2)) <| .lit (.int (61)) <| .bin .Pow <| .bin .Mod <| .st 5 <| .ld 6 <| .ld 3 <| .ld 4 <| .ld 7 <| .call (.ref 483) 4 <| .st 4 <| .ld 3 <| .ld 5 <| .ld 3 <| .call (.bi "len") 1 <| .bin .Mod <| .ix <| .st 8 <| .ld 6 <| .mld cT "get" <| .ld 8 <| .call (.ref 259) 2 <| .ld 4 <| .ld 8 <| .call (.ref 424) 1 <| .call (.ref 431) 2 <| .call (.ref 471) 2 <| .br (c_law_3) (c_law_2)
noncomputable def c_law_5 : Cd := .ld 0 <| .ld 1 <| .lit (.int (17)) <| .slc false <| .cmp .NotIn <| .br (.ld 0 <| .ret) (.cnt)
noncomputable def c_law_6 : Cd := .ld 6 <| .mld cT "get" <| .lit .none <| .call (.ref 259) 2 <| .isn true <| .ret
noncomputable def c_law_7 : Cd := .ld 6 <| .ld 3 <| .ld 9 <| .lit (.int (0)) <| .call (.ref 476) 4 <| .st 10 <| .ld 10 <| .isn false <| .br (c_law_6) (c_law_2)
noncomputable def c_law_8 : Cd := .ld 6 <| .ld 9 <| .call (.ref 443) 2 <| .br (c_law_7) (c_law_2)
noncomputable def c_law_9 : Cd := .ld 6 <| .ld 3 <| .ld 4 <| .ld 5 <| .call (.ref 476) 4 <| .st 9 <| .ld 9 <| .isn true <| .br (c_law_2) (c_law_8)
noncomputable def c_law_10 : Cd := .ld 6 <| .call (.ref 457) 1 <| .br (c_law_9) (c_law_2)
noncomputable def c_law_11 : Cd := .ld 6 <| .lit (.int (7)) <| .call (.ref cT) 1 <| .call (.ref 450) 2 <| .br (c_law_10) (c_law_2)
noncomputable def c_law_12 : Cd := .ld 6 <| .lit (.int (2)) <| .lit (.int (45)) <| .bin .Pow <| .ld 5 <| .lit (.int (97)) <| .bin .Mod <| .bin .Add <| .call (.ref 450) 2 <| .br (c_law_11) (c_law_2)
noncomputable def c_law_13 : Cd := .ld 3 <| .lit (.int (1)) <| .lit (.int (64)) <| .comp 1 2 [3] (c_law_5) <| .bin .Add <| .st 3 <| .ld 6 <| .lit (.bytes [110, 101, 118, 101, 114, 32, 116, 104, 101, 114, 101].toArray) <| .call (.ref 450) 2 <| .br (c_law_12) (c_law_2)
noncomputable def c_law : Cd := .lit (.int (1)) <| .lit (.int (2)) <| .lit (.int (18)) <| .tup 3 <| .comp 0 1 [] (c_law_1) <| .st 2 <| .ld 2 <| .call (.ref 417) 1 <| .lst 0 <| .lit (.int (5)) <| .tup 3 <| .unp false [3, 4, 5] <| .lit (.int (99)) <| .ld 0 <| .call (.bi "len") 1 <| .lit (.int (5)) <| .bin .Mod <| .ld 0 <| .call (.bi "len") 1 <| .lit (.int (3)) <| .bin .Mod <| .call (.ref cT) 3 <| .st 6 <| .ld 0 <| .lit (.int (24)) <| .slc false <| .forl 0 1 (c_law_4) (c_law_13)
section
variable {ν : Nu} {σ : MH} {t ka pa b : Addr} {T : Tb} {P : Prs} {kv sl : List V} {sc : V} {n : Nat} {g : G} {Q : Fw → Ls → MH → Prop}
theorem law_turn (L : Law g) (F : LFix ν t kv) (hn : n ≤ 63) (H : LInv ν σ t T P ka pa b kv sl n) {x m : Int} {x1 x2 x7 x8 x9 x10 : Option V} (hQ : ∀ ls σ', LAt ν t ka b kv sl sc (n + 1) ls σ' → Q .next ls σ') :
    wp c_law_4 ⟨g, 14, noX⟩ Q [.int x] [some sc, x1, x2, some (.ref ka), some (.ref pa), some (.int m), some (.ref t), x7, x8, x9, x10] σ := by
  have kl := F.ko.len
  have kp := F.ko.pos
  refine Pv.abs (Pv.pow (by decide) (by decide +kernel) (Pv.mod (by decide) (Pv.intB (Pv.mul (IntMulOk.of_right (by decide +kernel)) (Pv.pow (by decide) (by decide +kernel) (Pv.mod (by decide) ?_))))))
  have s0 : 0 ≤ ((if x < 0 then -x else x).fmod (10 ^ Int.toNat 9)).add (if decide (x < 0) = true then 1 else 0) := by
    have := (fmod_range (if x < 0 then -x else x) (show (0 : Int) < 10 ^ Int.toNat 9 by decide)).1
    show 0 ≤ (if x < 0 then -x else x).fmod (10 ^ Int.toNat 9) + (if decide (x < 0) = true then 1 else 0)
    refine Int.add_nonneg this ?_
    split <;> decide
  refine Pv.fn L (law_deed_ok s0 H.K F.hν H.hT H.S (by omega) H.hk F.ko H.hP) rfl ?_
  rintro _ σ1 ⟨T1, P1, pa1, rfl, hT1, m1, S1, hP1⟩
  have H1 : LInv ν σ1 t T1 P1 ka pa1 b kv sl (n + 1) := ⟨H.K.mv H.hT m1 F.hν, hT1, S1, H.hk.mv m1, hP1, H.hb.mv m1⟩
  refine Pv.len (.inl H1.hk.at_) (by omega) (Pv.mod (by omega) ?_)
  generalize Int.fmod _ (2 ^ Int.toNat 61) = m2
  have r := fmod_range m2 (show (0 : Int) < kv.length by omega)
  obtain ⟨k, hkm⟩ : ∃ k, kv[(m2.fmod kv.length).toNat]? = some k := ⟨_, List.getElem?_eq_getElem (by omega)⟩
  obtain ⟨lk, uk⟩ := F.ko.key k (List.mem_of_getElem? hkm)
  refine Pg.lst (.inl H1.hk.at_) r.1 (by omega) hkm (Meth.tab hT1 rfl (Pv.fn1 L (get_ok H1.K hT1 S1.inv lk.any fun _ => lk.proper) rfl (Pv.fn1 L (law_tag_ok H1.K lk) rfl (Pv.fn1 L (law_find_ok hP1.at_ S1.rel.ok lk.lt) rfl ?_))))
  rw [S1.rel.same _ lk.lt]
  exact Pv.fn1 L (law_is_same_ok H1.K (S1.lval lk.lt)) rfl (Pv.fn1 L (law_is_border_ok H1.K hT1 S1.inv hP1.at_ S1.rel) rfl (hQ _ _ (.mk T1 P1 pa1 m2 _ _ _ _ _ _ σ1 H1)))
end
theorem LInv.grow {ν σ σ' t T P ka pa b kv sl n} (H : LInv ν σ t T P ka pa b kv sl n) (k : Grow σ σ') : LInv ν σ' t T P ka pa b kv sl n := ⟨H.K.grow k, H.hT.grow k, H.S, H.hk.grow k, H.hP.grow k, H.hb.grow k⟩
/-- the three tables among the keys -/
structure Nu3 (ν : Nu) (o1 o2 o3 : Addr) : Prop where
  h1 : ν o1 = some ⟨0, 1⟩
  h2 : ν o2 = some ⟨0, 2⟩
  h3 : ν o3 = some ⟨0, 18⟩
section
variable {ν : Nu} {o1 o2 o3 : Addr}
theorem Nu3.tags (N : Nu3 ν o1 o2 o3) : (keysV o1 o2 o3).map (tag ν) = base := by
  unfold keysV
  rw [List.map_append, show List.map (tag ν) [.ref o1, .ref o2, .ref o3] = [tag ν (.ref o1), tag ν (.ref o2), tag ν (.ref o3)] from rfl, tag_ref N.h1, tag_ref N.h2, tag_ref N.h3]; rfl
noncomputable def anyB : V → Bool
  | .bool _ => true
  | .int _ => true
  | .bytes b => Nat.ble b.size 1000
  | _ => false
theorem anyB_ok {k : V} (h : anyB k = true) : AnyV ν k := by
  cases k with
  | bool b => exact .bool b
  | int i => exact .int i
  | bytes b => exact .bytes b (by have := Nat.le_of_ble_eq_true h; lia -abstractProof)
  | _ => cases h
theorem Nu3.any (N : Nu3 ν o1 o2 o3) {k : V} (hk : k ∈ keysV o1 o2 o3) : AnyV ν k := by
  unfold keysV at hk
  rcases List.mem_append.mp hk with h | h
  · exact anyB_ok (List.all_eq_true.mp (show List.all _ anyB = true by kernel_rfl) k h)
  · rcases List.mem_cons.mp h with rfl | h
    · exact .ref _ _ N.h1
    · rcases List.mem_cons.mp h with rfl | h
      · exact .ref _ _ N.h2
      · rw [List.mem_singleton.mp h]; exact .ref _ _ N.h3
theorem Nu3.kok (N : Nu3 ν o1 o2 o3) : KOk ν (keysV o1 o2 o3) := ⟨Nat.le_of_ble_eq_true rfl, Nat.le_of_ble_eq_true rfl, fun k hk => by
  have u : UU 0 (tag ν k) := .inl (by rw [← N.tags]; exact List.mem_map_of_mem hk)
  exact ⟨⟨N.any hk, u.ltag⟩, u⟩⟩
/-- the ints that the keys lack -/
noncomputable def lackB (kv : List V) (i : Nat) : Bool := !(kv.take 17).any (veq · (.int (1 + (i : Nat))))
noncomputable def keys2 (kv : List V) : List V := kv ++ ((List.range 63).filter (lackB kv)).map fun i => .int (1 + (i : Nat))
theorem Nu3.kwalk (N : Nu3 ν o1 o2 o3) {T : Tb} {P : Prs} {n : Nat} (S : St ν n T P) (hn : n ≤ 30) : KWalk ν (keys2 (keysV o1 o2 o3)) P := by
  refine ⟨?_, fun k hk => ?_, fun p hp => ?_⟩
  · unfold keys2
    rw [List.length_append, List.length_map]
    have := List.length_filter_le (lackB (keysV o1 o2 o3)) (List.range 63)
    rw [List.length_range] at this
    have : (keysV o1 o2 o3).length = 27 := rfl
    lia -abstractProof
  · rcases List.mem_append.mp hk with h | h
    · exact (N.kok.key k h).1
    · obtain ⟨i, _, rfl⟩ := List.mem_map.mp h
      exact ⟨.int _, .int _⟩
  · have inK : p.1 ∈ base → ∃ k ∈ keys2 (keysV o1 o2 o3), tag ν k = p.1 := fun h => by
      rw [← N.tags] at h
      obtain ⟨k, hk, e⟩ := List.mem_map.mp h
      exact ⟨k, List.mem_append_left _ hk, e⟩
    obtain ⟨h1, h2⟩ := S.lookP hp
    rcases S.uni p.1 (S.rel.ok p hp).1.proper (.inr h2) with h | ⟨x, e, a, b⟩
    · exact inK h
    · have ex : (1 : Int) + ((x.toNat - 1 : Nat) : Int) = x := by lia -abstractProof
      rw [e]
      cases hl : lackB (keysV o1 o2 o3) (x.toNat - 1) with
      | true => exact ⟨.int x, List.mem_append_right _ (List.mem_map.mpr ⟨x.toNat - 1, List.mem_filter.mpr ⟨List.mem_range.mpr (by lia -abstractProof), hl⟩, congrArg V.int ex⟩), rfl⟩
      | false =>
        unfold lackB at hl
        rw [Bool.not_eq_false', List.any_eq_true] at hl
        obtain ⟨k, hk, hv⟩ := hl
        rw [ex] at hv
        exact ⟨.int x, List.mem_append_left _ (veq_iff.mp hv ▸ List.mem_of_mem_take hk), rfl⟩
end
section
variable {ν : Nu} {σ : MH} {t : Addr} {T : Tb} {P : Prs} {n : Nat}
theorem St.notIn (S : St ν n T P) {k : V} (k0 : k ≠ .none) (ha : inArr T (tag ν k) = false) (hp : proper (tag ν k) = true) (hu : ¬ UU n (tag ν k)) : NotIn ν T k := ⟨k0, ha, fun i h => hu (S.uni _ hp (.inl ⟨i, h⟩))⟩
theorem not_UU {t : Tag} (hb : (base.any fun u => decide (u = t)) = false) (hx : ∀ x, t = .int x → ¬ (1 ≤ x ∧ x ≤ 33 + (n : Int))) : ¬ UU n t := fun h => by
  rcases h with h | ⟨x, e, a, b⟩
  · exact absurd (List.any_eq_true.mpr ⟨t, h, decide_eq_true rfl⟩) (by rw [hb]; exact Bool.false_ne_true)
  · exact hx x e ⟨a, b⟩
/-- a new table is none of the keys -/
theorem new_refused {g : G} {d : Nat} (L : Law g) (hd : Nat.ble 7 d = true) {a : Addr} {σ' : MH} {T7 : Tb} (K : Knows σ ν) (nd : NoDead ν) (hT : TR σ t T) (S : St ν n T P) (ha : σ a = none) (N : NewT ν σ a 7 σ' T7) {KK : V → MH → Prop} (h : KK (.bool true) σ') : Pv ⟨g, d, noX⟩ tcall [.ref 450, .ref t, .ref a] KK σ' := by
  have hν := Knows.none K ha
  have na : ∀ {b r}, ν b = some r → b ≠ a := fun e z => by rw [z, hν] at e; cases e
  obtain ⟨ν', e7, old⟩ : ∃ ν' : Nu, ν' a = some ⟨0, 7⟩ ∧ ∀ b, b ≠ a → ν' b = ν b := ⟨fun b => if b = a then some ⟨0, 7⟩ else ν b, if_pos rfl, fun b h => if_neg h⟩
  have at_ : ∀ b r, ν b = some r → ν' b = some r := fun b r e => (old b (na e)).trans e
  have K' : Knows σ' ν' := ⟨fun b r e => by
    by_cases z : b = a
    · rw [z, e7] at e; cases e
      refine ⟨Nat.zero_le _, T7.fs, z ▸ N.tr.t, ?_, by kernel_rfl⟩
      rw [show getF T7.fs "number" = some (.int T7.num) by kernel_rfl, N.num]
    · rw [old b z] at e
      obtain ⟨q1, fs, q2, q3⟩ := K.at_ b r e
      exact ⟨q1, fs, N.keep _ _ q2, q3⟩⟩
  have ren : ∀ i, i < T.n → tag ν' (T.nd i).key = tag ν (T.nd i).key ∧ AnyV ν' (T.nd i).key := fun i hi => by
    have hk := S.inv.keys i hi
    generalize (T.nd i).key = k at hk
    cases hk with
    | none => exact ⟨rfl, .none⟩
    | bool b => exact ⟨rfl, .bool b⟩
    | int b => exact ⟨rfl, .int b⟩
    | bytes b hb => exact ⟨rfl, .bytes b hb⟩
    | ref b r e => exact ⟨(tag_ref (at_ b r e)).trans (tag_ref e).symm, .ref b r (at_ b r e)⟩
  have et : tag ν' (.ref a) = .ref 0 7 := tag_ref e7
  refine Pv.fn1 L (law_is_refused_ok K' (hT.grow N.keep) (S.inv.ren ren) (fun b r e => ?_) (.ref a _ e7) ⟨(fun z => nomatch z), by rw [et]; rfl, fun i h => ?_⟩) hd h
  · by_cases z : b = a
    · rw [z, e7] at e; cases e; exact fun z => nomatch z
    · rw [old b z] at e; exact nd b r e
  · obtain ⟨h1, h2⟩ := h
    rw [et, (ren i h1).1] at h2
    exact not_UU (n := n) (t := .ref 0 7) (by decide) (fun x e => nomatch e) (S.uni (.ref 0 7) rfl (.inl ⟨i, h1, h2⟩))
end
section
variable {ν : Nu} {σ : MH} {t ka pa b o1 o2 o3 : Addr} {T : Tb} {P : Prs} {sl : List V} {sc : V} {n : Nat} {g : G} {Q : Fw → Ls → MH → Prop}
/-- behind the refusals: gone through twice -/
theorem law_last (L : Law g) (hν : ν t = none) (nd : NoDead ν) {kv : List V} (hn : n ≤ 24) (K : Knows σ ν) (hT : TR σ t T) (S : St ν n T P) (hk : Held σ t T ka kv) (ko : KWalk ν kv P) (hP : Held σ t T pa (prV P)) (hQ : ∀ ls σ', Q (.ret (.bool true)) ls σ') {m : Int} {x0 x1 x2 x7 x8 x9 x10 : Option V} :
    wp c_law_9 ⟨g, 14, noX⟩ Q [] [x0, x1, x2, some (.ref ka), some (.ref pa), some (.int m), some (.ref t), x7, x8, x9, x10] σ := by
  have pl := S.len
  refine Pv.fn L (law_walk_ok ⟨K, hν, nd, hT, S, by lia -abstractProof, by lia -abstractProof⟩ hk ko hP) rfl ?_
  rintro _ σ1 ⟨T1, P1, pa1, rfl, hT1, m1, S1, hP1, ko1⟩
  have K1 := K.mv hT m1 hν
  have pl1 := S1.len
  refine ⟨rfl, Pv.fn1 L (law_is_border_ok K1 hT1 S1.inv hP1.at_ S1.rel) rfl (Pv.fn L (law_walk_ok ⟨K1, hν, nd, hT1, S1, by lia -abstractProof, by lia -abstractProof⟩ (hk.mv m1) ko1 hP1) rfl ?_)⟩
  rintro _ σ2 ⟨T2, P2, pa2, rfl, hT2, m2, S2, hP2, ko2⟩
  refine ⟨rfl, Meth.tab hT2 rfl (Pv.fn1 L (get_ok (K1.mv hT1 m2 hν) hT2 S2.inv .none fun z => absurd rfl z) rfl ?_)⟩
  show wp (.isn true <| .ret) _ _ [look ν T2 .nil] _ _
  rw [look_nil S2.inv]
  exact ⟨rfl, hQ _ _⟩
theorem law_rest (L : Law g) (hν : ν t = none) (nd : NoDead ν) (N3 : Nu3 ν o1 o2 o3) (hn : n ≤ 24) (H : LInv ν σ t T P ka pa b (keysV o1 o2 o3) sl n) (hQ : ∀ ls σ', Q (.ret (.bool true)) ls σ') {m : Int} {x0 x1 x2 x7 x8 x9 x10 : Option V} :
    wp c_law_13 ⟨g, 14, noX⟩ Q [] [x0, x1, x2, some (.ref ka), some (.ref pa), some (.int m), some (.ref t), x7, x8, x9, x10] σ := by
  have int17 : ∀ y ∈ (keysV o1 o2 o3).take 17, ∃ i, y = .int i := fun y hy => by
    have : List.all ((keysV o1 o2 o3).take 17) isInt = true := rfl
    have := List.all_eq_true.mp this y hy
    cases y with
    | int i => exact ⟨i, rfl⟩
    | _ => cases this
  have new : ∀ {σ : MH} {a : Addr} {o : O}, σ a = none → Grow σ (upd σ a o) := fun h b x e => (upd_ne _ _ fun z => by rw [z, h] at e; cases e).trans e
  refine It.range2 _ _ (by decide) (by decide) (CmpL.fm (List.range 63) (fun i => V.int (1 + (i : Nat))) (lackB (keysV o1 o2 o3)) (fun i => V.int (1 + (i : Nat))) (Nat.le_of_ble_eq_true rfl) (fun _ _ => trivial) (fun i σ' Q' _ k h0 h1 => ?_) fun D σ1 hD k1 hD1 => ?_)
  · refine Slc.mk ka _ 17 (.inl (k _ _ H.hk.at_)) (Nat.le_of_ble_eq_true rfl) fun c hc => Pv.notInList (n := 0) (.inl (upd_same ..)) (fun y hy => ?_) (Nat.zero_le _) ?_
    · obtain ⟨i, rfl⟩ := int17 y hy; exact .ii _ _
    · exact brk2.bool (fun e => h1 e _ _ (new hc)) fun e => h0 e _ _ (new hc)
  have H1 := H.grow k1
  refine Pv.addList (.inl H1.hk.at_) (.inl hD1) ?_ fun kb hkb => ?_
  · have h2 := (N3.kwalk H.S (by omega)).len
    unfold keys2 at h2
    rw [List.length_append] at h2
    omega
  have k2 := new (o := .list (keys2 (keysV o1 o2 o3))) hkb
  have H2 := H1.grow k2
  have hkb2 : Held (upd σ1 kb (.list (keys2 (keysV o1 o2 o3)))) t T kb (keys2 (keysV o1 o2 o3)) := Held.new H1.hT hkb (upd_same ..)
  have kw := N3.kwalk H.S (by omega)
  have sa := H.S.inv.sa
  refine Pv.fn1 L (law_is_refused_ok H2.K H2.hT H2.S.inv nd (.bytes _ (Nat.le_of_ble_eq_true rfl)) (H2.S.notIn (fun z => nomatch z) rfl rfl (not_UU (t := .bytes [110, 101, 118, 101, 114, 32, 116, 104, 101, 114, 101]) (by decide) fun x e => nomatch e))) rfl ?_
  have big : (2 : Int) ^ Int.toNat 45 = 35184372088832 := by decide
  have r := fmod_range m (show (0 : Int) < 97 by decide)
  refine Pv.pow (by decide) (by decide +kernel) (Pv.mod (by decide) (Pv.fn1 L (law_is_refused_ok H2.K H2.hT H2.S.inv nd (.int _) (H2.S.notIn (fun z => nomatch z) ?_ rfl ?_)) rfl ?_))
  · exact decide_eq_false fun (h : 1 ≤ (2 : Int) ^ Int.toNat 45 + m.fmod 97 ∧ (2 : Int) ^ Int.toNat 45 + m.fmod 97 ≤ T.arr.length) => by rw [big] at h; omega
  · refine not_UU (List.any_eq_false.mpr fun u hu => ?_) fun x e => ?_
    · have e : u ≠ .int ((2 : Int) ^ Int.toNat 45 + m.fmod 97) := fun z => by
        have : base.all (fun u => match u with | .int x => decide (x < 35184372088832) | _ => true) = true := by decide
        have := List.all_eq_true.mp this u hu
        rw [z, big] at this
        have := of_decide_eq_true this
        omega
      exact fun z => e (of_decide_eq_true z)
    · have e : (2 : Int) ^ Int.toNat 45 + m.fmod 97 = x := Tag.int.inj e
      rw [big] at e; omega
  refine Pv.table (as := 0) (hs := 0) L rfl H2.K (Nat.zero_le _) (Nat.zero_le _) (.inr ⟨rfl, rfl, rfl⟩) fun a σ3 T7 ha N7 => new_refused L rfl H2.K nd H2.hT H2.S ha N7 ?_
  have H3 := H2.grow N7.keep
  refine Pv.fn L (law_nil_refused_ok H3.hT) rfl ?_
  rintro _ σ4 ⟨rfl, hT4, m4⟩
  exact law_last L hν nd hn (H3.K.mv H3.hT m4 hν) hT4 H3.S.flags ((hkb2.grow N7.keep).mv m4) kw (H3.hP.mv m4) hQ
end
theorem lst.grow {σ σ' : MH} {a xs} (h : lst σ a xs) (k : Grow σ σ') : lst σ' a xs := h.imp (k _ _) (k _ _)
/-- the tables made so far -/
structure Made (σ : MH) (as : List Addr) : Prop where
  at_ : ∀ j a, as[j]? = some a → ∃ fs, σ a = some (.inst cT fs) ∧ getF fs "number" = some (.int (([1, 2, 18] : List Int).getD j 0)) ∧ getF fs "kind" = none
  nd : as.Nodup
theorem Made.nu {σ : MH} {o1 o2 o3 : Addr} (M : Made σ [o1, o2, o3]) : ∃ ν : Nu, A3 (Nu3 ν o1 o2 o3) (Knows σ ν) (NoDead ν) := by
  obtain ⟨c1, c2⟩ := List.nodup_cons.mp M.nd
  have n12 : o2 ≠ o1 := fun z => c1 (List.mem_cons.mpr (.inl z.symm))
  have n13 : o3 ≠ o1 := fun z => c1 (.tail _ (List.mem_cons.mpr (.inl z.symm)))
  have n23 : o3 ≠ o2 := fun z => (List.nodup_cons.mp c2).1 (List.mem_cons.mpr (.inl z.symm))
  have inv : ∀ a r, (if a = o1 then some (⟨0, 1⟩ : Rf) else if a = o2 then some ⟨0, 2⟩ else if a = o3 then some ⟨0, 18⟩ else none) = some r → (a = o1 ∧ r = ⟨0, 1⟩) ∨ (a = o2 ∧ r = ⟨0, 2⟩) ∨ (a = o3 ∧ r = ⟨0, 18⟩) := fun a r e => by
    split at e
    · cases e; exact .inl ⟨‹_›, rfl⟩
    · split at e
      · cases e; exact .inr (.inl ⟨‹_›, rfl⟩)
      · split at e
        · cases e; exact .inr (.inr ⟨‹_›, rfl⟩)
        · cases e
  refine ⟨fun a => if a = o1 then some ⟨0, 1⟩ else if a = o2 then some ⟨0, 2⟩ else if a = o3 then some ⟨0, 18⟩ else none, ⟨if_pos rfl, (if_neg n12).trans (if_pos rfl), (if_neg n13).trans ((if_neg n23).trans (if_pos rfl))⟩, ⟨fun a r e => ?_⟩, fun a r e z => ?_⟩
  · rcases inv a r e with ⟨rfl, rfl⟩ | ⟨rfl, rfl⟩ | ⟨rfl, rfl⟩
    · exact ⟨Nat.zero_le _, M.at_ 0 _ rfl⟩
    · exact ⟨Nat.zero_le _, M.at_ 1 _ rfl⟩
    · exact ⟨Nat.zero_le _, M.at_ 2 _ rfl⟩
  · rcases inv a r e with ⟨_, rfl⟩ | ⟨_, rfl⟩ | ⟨_, rfl⟩ <;> cases z
section
variable {σ : MH}
theorem law_others {g : G} (L : Law g) {s : List V} {ls : Ls} {Q : Fw → Ls → MH → Prop} {k : Cd} (h : ∀ D σ' o1 o2 o3, σ' D = some (.list [.ref o1, .ref o2, .ref o3]) → Grow σ σ' → Made σ' [o1, o2, o3] → wp k ⟨g, 14, noX⟩ Q (.ref D :: s) ls σ') :
    wp (.tup 3 <| .comp 0 1 [] c_law_1 k) ⟨g, 14, noX⟩ Q (.int 18 :: .int 2 :: .int 1 :: s) ls σ := by
  refine It.val _ _ _ (.tup _) (CmpL.mk (fun D k acc σ' => ∃ as : List Addr, A6 (acc = as.map V.ref) (as.length = k) (k ≤ 3) (σ' D = some (.list acc)) (Grow σ σ') (Made σ' as))
    (fun D hD => ⟨[], rfl, rfl, Nat.zero_le _, upd_same .., fun b o e => (upd_ne _ _ fun z => by rw [z, hD] at e; cases e).trans e, ⟨(fun j a e => nomatch e), List.nodup_nil⟩⟩) (fun D k acc σ2 h => h.elim fun as h => ⟨trivial, h.h4, by rw [h.h1, List.length_map, h.h2]; exact Nat.le_trans h.h3 (Nat.le_of_ble_eq_true rfl)⟩) ?_ ?_)
  · rintro D k v acc σ2 hD0 hv ⟨as, rfl, hl, hk, hD, gr, M⟩
    obtain ⟨x, hx, rfl⟩ : ∃ x, ([1, 2, 18] : List Int)[k]? = some x ∧ v = V.int x := by
      have hv : ([1, 2, 18] : List Int)[k]?.map V.int = some v := by rw [← List.getElem?_map]; exact hv
      obtain ⟨x, h1, h2⟩ := Option.map_eq_some_iff.mp hv
      exact ⟨x, h1, h2.symm⟩
    have hk3 : k < 3 := (List.getElem?_eq_some_iff.mp hx).1
    refine Pv.table (as := 0) (hs := 0) (ν := fun _ => none) L rfl ⟨fun a r e => nomatch e⟩ (Nat.zero_le _) (Nat.zero_le _) (.inr ⟨rfl, rfl, rfl⟩) fun a σ3 T ha N => ?_
    have neD : ∀ {b fs}, σ3 b = some (.inst cT fs) → b ≠ D := fun e z => by rw [z, N.keep _ _ hD] at e; cases e
    have up : ∀ {b : Addr} {w : O}, b ≠ D → upd σ3 D w b = σ3 b := fun n => upd_ne _ _ n
    refine ⟨N.keep _ _ hD, as ++ [a], by rw [List.map_append]; rfl, by rw [List.length_append, hl]; rfl, hk3, upd_same .., fun b o e => (upd_ne _ _ fun z => by rw [z, hD0] at e; cases e).trans (N.keep _ _ (gr b o e)), ⟨fun j b e => ?_, ?_⟩⟩
    · by_cases hj : j < as.length
      · rw [List.getElem?_append_left hj] at e
        obtain ⟨fs, h1, h2⟩ := M.at_ j b e
        have h3 := N.keep _ _ h1
        exact ⟨fs, (up (neD h3)).trans h3, h2⟩
      · have hj2 : j = as.length := by
          have := (List.getElem?_eq_some_iff.mp e).1
          rw [List.length_append, List.length_singleton] at this; lia -abstractProof
        subst hj2
        rw [List.getElem?_append_right (Nat.le_refl _), Nat.sub_self] at e
        cases e
        refine ⟨T.fs, (up (neD N.tr.t)).trans N.tr.t, ?_, by kernel_rfl⟩
        rw [show getF T.fs "number" = some (.int T.num) by kernel_rfl, N.num, hl, List.getD_eq_getElem?_getD, hx]; rfl
    · rw [List.nodup_append]
      refine ⟨M.nd, by simp, fun b hb c hc z => ?_⟩
      have : c = a := by simpa using hc
      obtain ⟨j, hj⟩ := List.getElem?_of_mem hb
      obtain ⟨fs, h1, _⟩ := M.at_ j b hj
      rw [z, this, ha] at h1; cases h1
  · rintro D acc σ2 hD0 ⟨as, rfl, hl, hk, hD, gr, M⟩
    match as, hl with
    | [o1, o2, o3], _ => exact h D σ2 o1 o2 o3 hD gr M
theorem law_ok {sc : Addr} {ns : List Int} (hs : lst σ sc (ns.map V.int)) (hz : ns.length ≤ 63) : Fn 15 488 [.ref sc] (fun r _ => r = .bool true) σ := by
  refine Fn.goC (ps := ["script"]) (rest := ["number", "others", "keys", "pairs", "mixed", "rows_here", "small", "key", "left", "again"]) (code := c_law) (fun _ => by kernel_rfl) (fun _ => args1 fun _ => by kernel_rfl) (fun _ => by kernel_rfl) rfl fun g L => ?_
  refine law_others L fun D σ1 o1 o2 o3 hD k1 M => ?_
  obtain ⟨ν, N3, K1, nd⟩ := M.nu
  refine Pv.fn L (law_keys_ok hD) rfl ?_
  rintro _ σ2 ⟨ka, rfl, hka0, hka, k2⟩
  have new : ∀ {σ : MH} {a : Addr} {o : O}, σ a = none → Grow σ (upd σ a o) := fun h b x e => (upd_ne _ _ fun z => by rw [z, h] at e; cases e).trans e
  intro pa hpa
  have k3 := new (o := .list []) hpa
  have hs3 := ((hs.grow k1).grow k2).grow k3
  have hl : (ns.map V.int).length = ns.length := List.length_map ..
  have K3 := (K1.grow k2).grow k3
  have e5 : ((ns.map V.int).length : Int).fmod 5 = ((ns.length % 5 : Nat) : Int) := by rw [hl, Int.fmod_eq_emod_of_nonneg _ (by decide)]; lia -abstractProof
  have e3 : ((ns.map V.int).length : Int).fmod 3 = ((ns.length % 3 : Nat) : Int) := by rw [hl, Int.fmod_eq_emod_of_nonneg _ (by decide)]; lia -abstractProof
  refine Pv.len hs3 (by lia -abstractProof) (Pv.mod (by decide) (Pv.len hs3 (by lia -abstractProof) (Pv.mod (by decide) (Pv.table (num := 99) (as := ns.length % 5) (hs := ns.length % 3) L rfl K3 (by lia -abstractProof) (by lia -abstractProof)
    (.inl (show [V.int 99, .int (((ns.map V.int).length : Int).fmod 5), .int (((ns.map V.int).length : Int).fmod 3)] = _ by rw [e5, e3])) fun t σ4 T ht N => ?_))))
  have k4 : Grow (upd σ2 pa (.list [])) σ4 := N.keep
  have off : ∀ {b : Addr} {o : O}, upd σ2 pa (.list []) b = some o → ¬ foot t T b := fun e z => some_not_none e (N.fresh _ z)
  have S0 : St ν 0 T [] := ⟨⟨fun p hp => (nomatch hp), fun u hu => (N.look u hu.proper).symm⟩, N.inv, List.nodup_nil, fun p hp => (nomatch hp), Nat.le_refl _, Nat.le_of_eq N.lives, fun u hu h => h.elim (fun h => absurd h (N.nokey u hu)) fun h => absurd (N.look u hu) h⟩
  refine Slc.mk sc _ 24 (hs3.grow k4) (by lia -abstractProof) fun b hb => ?_
  have k5 := new (o := .list ((ns.map V.int).take 24)) hb
  have H0 : LInv ν (upd σ4 b (.list ((ns.map V.int).take 24))) t T [] ka pa b (keysV o1 o2 o3) ((ns.map V.int).take 24) 0 :=
    ⟨(K3.grow k4).grow k5, N.tr.grow k5, S0, ⟨k5 _ _ (k4 _ _ (k3 _ _ hka)), off (k3 _ _ hka)⟩, ⟨k5 _ _ (k4 _ _ (upd_same ..)), off (upd_same ..)⟩, Held.new N.tr hb (upd_same ..)⟩
  have hν := Knows.none K3 ht
  have l24 : ((ns.map V.int).take 24).length ≤ 24 := by rw [List.length_take]; lia -abstractProof
  refine It.val _ _ _ (.list b _ (.inl (upd_same ..))) (ForL.mk (fun n ls σ' => LAt ν t ka b (keysV o1 o2 o3) ((ns.map V.int).take 24) (.ref sc) n ls σ') (.mk T [] pa 5 _ _ _ _ _ _ _ H0) (fun n ls σ' h => ?_) (fun n v ls σ' hv h => ?_) fun ls σ' h => ?_)
  · obtain ⟨_, _, _, _, _, _, _, _, _, _, _, H⟩ := h; exact .inl H.hb.at_
  · obtain ⟨T', P', pa', m, x1, x2, x7, x8, x9, x10, _, H⟩ := h
    have hv : ((ns.map V.int).take 24)[n]? = some v := hv
    have lt := (List.getElem?_eq_some_iff.mp hv).1
    obtain ⟨x, _, rfl⟩ := List.mem_map.mp (List.mem_of_mem_take (List.mem_of_getElem? hv))
    exact law_turn L ⟨hν, nd, N3.kok⟩ (by lia -abstractProof) H fun _ _ h => h
  · obtain ⟨T', P', pa', m, x1, x2, x7, x8, x9, x10, _, H⟩ := h
    exact law_rest L hν nd N3 l24 H fun _ _ => rfl
end
theorem ints_rel {h : Heap} {vs : List Value} {ns : List Int} (x : IntsAre vs ns) : VsRel h (ns.map V.int) vs := by
  induction x with
  | nil => exact .nil
  | cons n t _ ih => exact .cons (.int n t) ih
theorem finish {prog p : Program} {loose : List Str} {w : World} {s₁ : Shared} {mg mb : Str → Option Value} {c : ClaimW} {cl : Str → Option Addr} {mean : ExcName → Option Value} {args : List WData} {fa l : Addr} {vs : List Value} {ns : List Int}
    (KX : (hd.heap_1 w.params).In s₁.heap) (T : TopRead p loose mg mb s₁.heap) (hmg : mg "law" = some (.ref fa)) (hg : s₁.gens = #[]) (hL : s₁.heap.IsList l vs.toArray) (hI : IntsAre vs ns) (hz : ns.length ≤ 63)
    (hr : ∀ cls, c.raises args cls = false) (hp : c.post args (.bool true) args = true) : codeAny (model prog w) callerA (.call (.ref fa) ⟨[.ref l], []⟩) (GoodW c cl mean args s₁) s₁ := by
  have hf : mg "law" = some (.ref 488) := mg_of KX T.g (show nsIn (hd.heap_1 w.params) mainGlobals "law" = _ by kernel_rfl)
  have e : fa = 488 := by rw [hmg] at hf; cases hf; rfl
  subst e
  let g : G := ⟨prog, w, hd.heap_1 w.params, s₁.heap, p, loose, mg, mb, s₁.os, 38, KX, T⟩
  have no : ∀ b o, (if b = l then some (O.rlist (ns.map V.int)) else none) = some o → b = l ∧ o = .rlist (ns.map V.int) := fun b o h => by
    split at h
    · cases h; exact ⟨‹_›, rfl⟩
    · cases h
  have S : CS g [] (fun b => if b = l then some (O.rlist (ns.map V.int)) else none) (fun _ => none) s₁ := by
    refine ⟨⟨fun _ _ h => h, fun a o h => ?_, fun b q => ?_, fun d a h => nomatch h⟩, ⟨fun e h => nomatch h⟩, hg, rfl⟩
    · obtain ⟨rfl, rfl⟩ := no a o h
      obtain ⟨o, ho, hc, n, hd⟩ := hL
      exact ⟨o, _, n, ho, hc, hd, ints_rel hI⟩
    · cases q with
      | inst C fs q => cases (no _ _ q).2
      | list l q => cases (no _ _ q).2
      | dict a q => cases q
  refine codeAny_mono (law_ok (.inr (if_pos rfl)) hz g ⟨rfl, rfl⟩ callerA [] s₁ (fun _ => none) [.ref l] ⟨rfl, rfl, by decide, by decide⟩ S (.cons (.ref l) .nil)) fun r s' q => ?_
  cases r with
  | error e => exact Flies.no q
  | ok f =>
    cases f with
    | ret rv =>
      obtain ⟨v, σ', δ', hv, C, E, rfl⟩ := q
      rw [hv.bool_inv]
      refine ⟨.inl ⟨_, .bool true, [], rfl, hr, .bool true, hp, fun _ => ⟨List.nodup_nil, fun a h => nomatch h⟩⟩, fun b o h => E.keep b o h (fun q => ?_) (fun h => nomatch h) (fun h => nomatch h), C.os, C.gens⟩
      cases q with
      | inst C fs q => cases (no _ _ q).2
      | list l q => cases (no _ _ q).2
      | dict a q => cases q
    | _ => exact q.elim
end Mn
set_option genInjectivity true
theorem PySem.Challenge.cw_nt0644_02_holds : PySem.Challenge.rw_nt0644_02.Holds := by
  refine hd ?_
  w_strict (
    k_fill
    intro w s₀ s₁ mg mb G Y fa o pm cd doc dV kV ho hd hcd hD hmg hg args vals as hpre hlay hrd hwl hlo
    have KX := kIn_of Y
    refine Ground.open G ?_
    intro T B D TE TW
    clear hd hcd hD ho Y D B TE TW G
    wrow_args hpre hlay hrd hwl hlo
    first | refine callC_kw (enter_call ?_) | refine enter_call ?_
    try refine codeAny_mono ?_ (fun _ _ g => GoodW.toG g))
  refine Mn.finish KX (topRead_of T) hmg hg (by assumption) (by assumption) (by omega) ?_ ?_
  · exact fun _ => rfl
  · wrow_post
