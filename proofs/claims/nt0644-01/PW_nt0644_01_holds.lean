import PyProof.Rows.All
import PyProof.AttrMissHeap
import KE.KLam
import KE.KDictOf
import KE.KItemsList
import Wide.All
import OpenK.AllK
import Wide.FinOn
import Lean
import PySem.Challenge.RW_nt0644_01
open PySem PySem.W PyProof.Rows
set_option Elab.async false
set_option maxRecDepth 100000
set_option maxHeartbeats 8000000
set_option linter.unusedVariables false
set_option genSizeOf false
set_option genInjectivity false
set_option bootstrap.genMatcherCode false
set_option compiler.extract_closed false
set_option tactic.hygienic false
namespace Mn
noncomputable def topT (tb : String → Option Builtin) (p : Program) (w : World) (n₀ : Nat) (ann : Option Value) : Nat → SharedT → Thread → Option SharedT
  | 0, _, _ => none
  | n + 1, s, t => match through t with
    | true => some s
    | false => match stepOk n₀ ann t with
      | false => none
      | true => match stepT (denote tb) p w s t with
        | some (s', t') => topT tb p w n₀ ann n s' t'
        | none => none
theorem topT_of {tb : String → Option Builtin} {p : Program} {w : World} {n₀ : Nat} {ann : Option Value} : ∀ {n : Nat} {s s' : SharedT} {t : Thread}, topT tb p w n₀ ann n s t = some s' → topRun tb p w n₀ ann n s.abs t = some s'.abs
  | 0, _, _, _, h => by cases h
  | n + 1, s, s', t, h => by
    unfold topT at h
    unfold topRun
    cases ht : through t with
    | true => rw [ht] at h; cases h; rfl
    | false =>
      rw [ht] at h
      cases hk : stepOk n₀ ann t with
      | false => rw [hk] at h; cases h
      | true =>
        rw [hk] at h
        cases hs : stepT (denote tb) p w s t with
        | none => rw [hs] at h; cases h
        | some r => obtain ⟨s₂, t₂⟩ := r; rw [hs] at h; dsimp only; rw [stepT_spec hs]; exact topT_of h
noncomputable def insAll : List Obj → BT × Nat → BT × Nat
  | [], x => x
  | o :: r, (t, n) => insAll r (t.ins n o, n + 1)
noncomputable def bootBT (P : Params) : BT := (insAll (boot_heap P).objs.toList (.nil, 0)).1
theorem boot_abs (P : Params) : boot_heap P = absHeap (bootBT P) 11 {} := by kernel_rfl
noncomputable def bootT (w : World) (os : OsState) : SharedT := ⟨bootBT w.params, 11, {}, #[], boot_drawn, boot_toks, os⟩
theorem boot_size (w : World) : ((boot_heap w.params).isNs mainGlobals && (Array.mk ([] : List GenState)).size == 0, (boot_heap w.params).objs.size, (boot_heap w.params).nsMap mainGlobals "__annotations__") = (true, 11, some (.ref 6)) := by kernel_rfl

noncomputable def topF (p : Program) (w : World) (n₀ : Nat) (ann : Option Value) : Nat → SharedT → Thread → Option SharedT :=
  Nat.rec (fun q_ q_ => none) fun q_ ih s t => Bool.rec (Bool.rec none (match Fast.tw10156331382660048174 (Fast.tw11892475500146522536 Fast.tw14364793385576792824) p w s t with
        | some (s', t') => ih s' t'
        | none => none) (Fast.tw6613529449190102663 n₀ ann t)) (some s) (through t)
theorem topF_eq (p : Program) (w : World) (n₀ : Nat) (ann : Option Value) : ∀ n s t, topT treeTable p w n₀ ann n s t = topF p w n₀ ann n s t
  | 0, _, _ => rfl
  | n + 1, s, t => by
    have e1 := Fast.te10156331382660048174
    have e2 := Fast.te11892475500146522536
    have e3 := Fast.te14364793385576792824
    have e4 := Fast.te6613529449190102663
    have ih := topF_eq p w n₀ ann n
    show _ = Bool.rec (motive := fun q_ => Option SharedT) (Bool.rec (motive := fun q_ => Option SharedT) none (match Fast.tw10156331382660048174 (Fast.tw11892475500146522536 Fast.tw14364793385576792824) p w s t with
        | some (s', t') => topF p w n₀ ann n s' t'
        | none => none) (Fast.tw6613529449190102663 n₀ ann t)) (some s) (through t)
    rw [← e1, ← e2, ← e3, ← e4]
    unfold topT
    cases through t with
    | true => rfl
    | false =>
      cases stepOk n₀ ann t with
      | false => rfl
      | true =>
        dsimp only
        split
        · exact ih _ _
        · rfl
theorem left_tree {p q : Program} {loose : List Str} {Xt : Shared → Bool} {α : Type} {Yf : Shared → α} {Ya : World → α} {N : Nat} {g0 : Bool}
    (e : opening p = plainProg p.main.scope.names) (hN : Nat.ble 600 N = true) (f : ∀ s, fenceModules? p s = some s)
    (runA : ∀ (w : World) (os : OsState), (topF p w 11 (some (.ref 6)) N (bootT w os) (topStub p)).map (fun s =>
      (staticsOk (importedModules p.main.body) (boot_heap w.params) s.abs.heap && namesBound p s.abs.heap && gensDone s.abs && laidKept (boot_heap w.params) s.abs.heap, Yf s.abs)) = some (true, Ya w))
    (runB : ∀ (w : World) (os : OsState), (topF p w 11 (some (.ref 6)) N (bootT w os) (topStub p)).map (fun s => Fast.tw4187177175401517315 q loose (importedModules p.main.body) Xt g0 s.abs) = some (openGood q loose)) : LeftO p q loose Xt Yf Ya N g0 := fun w => by
  obtain ⟨⟨h, gs, d, k, os⟩, e1, e'⟩ := Option.map_eq_some_iff.mp (boot_open e hN f w)
  obtain ⟨rfl, rfl, rfl, rfl⟩ : h = boot_heap w.params ∧ gs = #[] ∧ d = boot_drawn ∧ k = boot_toks := by simpa using e'
  obtain ⟨s, hs, hl⟩ := Option.map_eq_some_iff.mp (runA w os)
  obtain ⟨s', hs', l2⟩ := Option.map_eq_some_iff.mp (runB w os)
  rw [hs] at hs'; cases hs'
  obtain ⟨l1, l3⟩ : _ ∧ _ := by simpa only [Prod.mk.injEq] using hl
  rw [← topF_eq] at hs
  rw [← Fast.te4187177175401517315] at l2
  have r := topT_of hs
  have ab : (bootT w os).abs = ⟨boot_heap w.params, #[], boot_drawn, boot_toks, os⟩ := by
    unfold bootT SharedT.abs
    rw [boot_abs]
  rw [ab] at r
  obtain ⟨z1, z2, z3⟩ : _ ∧ _ ∧ _ := by simpa only [Prod.mk.injEq] using boot_size w
  have t : topFrom treeTable p w N ⟨boot_heap w.params, #[], boot_drawn, boot_toks, os⟩ = some s.abs := by
    unfold topFrom
    dsimp only
    rw [z1, z2, z3, r]
    show (match staticsOk (importedModules p.main.body) (boot_heap w.params) s.abs.heap && namesBound p s.abs.heap && gensDone s.abs && laidKept (boot_heap w.params) s.abs.heap with | true => _ | false => _) = _
    rw [l1]
  unfold openEnds
  rw [e1]
  show (topFrom treeTable p w N _).map _ = _
  rw [t]
  exact congrArg some (Prod.ext l2 l3)
end Mn
namespace Mn
noncomputable def theLoose : List Str := ["HeapObject", "MAX_ARRAY", "MAX_INT", "Table"]
noncomputable def theView : Program := { PySem.Challenge.pw_nt0644_01 with main := { PySem.Challenge.pw_nt0644_01.main with body := (((PySem.Challenge.pw_nt0644_01.main.body.eraseIdx 32).eraseIdx 23).eraseIdx 22).eraseIdx 11 } }
noncomputable def theLv : List (Str × WData) := [("MAX_ARRAY", WData.int 67108864), ("MAX_INT", WData.int 2147483645)]
end Mn
namespace Mn
theorem runB (w : World) (os : OsState) : (topF PySem.Challenge.pw_nt0644_01 w 11 (some (.ref 6)) 6568 (bootT w os) (topStub PySem.Challenge.pw_nt0644_01)).map (fun s => Fast.tw4187177175401517315 theView theLoose (importedModules PySem.Challenge.pw_nt0644_01.main.body) (fun s => xlAt Mn.theView Mn.theLv s && recOk (RowW.records PySem.Challenge.rw_nt0644_01.row.toRowW) s) true s.abs) = some (openGood theView theLoose) := by kernel_rfl
end Mn
namespace Mn
theorem said : PySem.Challenge.rw_nt0644_01.wellSaid = true := by
  rw [PySem.W.Fast.te9446332074065402090]
  kernel_rfl
theorem head {H : Hook} {d : DefRec} {kwd : List (Str × PySem.Expr)}
    (runA : ∀ (w : World) (os : OsState), (topF PySem.Challenge.pw_nt0644_01 w 11 (some (.ref 6)) 6568 (bootT w os) (topStub PySem.Challenge.pw_nt0644_01)).map (fun s =>
      (staticsOk (importedModules PySem.Challenge.pw_nt0644_01.main.body) (boot_heap w.params) s.abs.heap && namesBound PySem.Challenge.pw_nt0644_01 s.abs.heap && gensDone s.abs && laidKept (boot_heap w.params) s.abs.heap, H.obs s.abs)) = some (true, H.val w))
    (hdef : defOf theView PySem.Challenge.rw_nt0644_01.row.name = some (d, kwd)) (hp : PySem.Challenge.pw_nt0644_01.theDef PySem.Challenge.rw_nt0644_01.row.name = some (d.params, d.body, d.scope)) (hk : kwWritten? d.params.kwonlyargs d.params.kw_defaults = some kwd)
    (hw : PySem.Challenge.rw_nt0644_01.row.toRowW.promised) (hc : WalkO theView theLoose (XL theView theLv) H.says PySem.Challenge.rw_nt0644_01.row.toRowW d kwd fun f vs => PySem.call f vs) : PySem.Challenge.rw_nt0644_01.row.Holds :=
  holds_open (q := theView) (loose := theLoose) (Xt := fun s => xlAt theView theLv s && recOk (RowW.records PySem.Challenge.rw_nt0644_01.row.toRowW) s) (XP := XL theView theLv) (Yf := H.obs) (Ya := H.val) (YP := H.says) (N := 6568)
    (left_tree (by kernel_rfl) (by kernel_rfl) (fun q_ => rfl) runA runB) H.of H.keeps (fun s e => xl_of s (Bool.and_eq_true_iff.mp e).1) XL.keeps hdef hp hk (fun s e => recFacts_of (Bool.and_eq_true_iff.mp e).2) rfl (row_said said) (by decide +kernel) ⟨rfl, rfl, rfl, rfl, rfl, by decide +kernel⟩ hw hc
end Mn
local macro_rules | `(tactic| o_law) => `(tactic| refine holds_law Mn.said fun said => ?_)
local macro_rules | `(tactic| o_head $H) => do
  let hw := Lean.mkIdent `hw
  let hc := Lean.mkIdent `hc
  `(tactic| refine Mn.head (H := $H) (fun w os => by kernel_rfl) (by rfl) (by rfl) (by rfl) ?$hw ?$hc)
open_top hd for PySem.Challenge.rw_nt0644_01
open PySem.Calls
set_option genInjectivity false
namespace Mn
structure A3 (a1 a2 a3 : Prop) : Prop where
  h1 : a1
  h2 : a2
  h3 : a3
structure A4 (a1 a2 a3 a4 : Prop) : Prop where
  h1 : a1
  h2 : a2
  h3 : a3
  h4 : a4
structure A5 (a1 a2 a3 a4 a5 : Prop) : Prop where
  h1 : a1
  h2 : a2
  h3 : a3
  h4 : a4
  h5 : a5
structure A6 (a1 a2 a3 a4 a5 a6 : Prop) : Prop where
  h1 : a1
  h2 : a2
  h3 : a3
  h4 : a4
  h5 : a5
  h6 : a6
structure A7 (a1 a2 a3 a4 a5 a6 a7 : Prop) : Prop where
  h1 : a1
  h2 : a2
  h3 : a3
  h4 : a4
  h5 : a5
  h6 : a6
  h7 : a7
inductive X2 {α1 α2 : Type} (P : α1 → α2 → Prop) : Prop
  | mk (x1 : α1) (x2 : α2) (h : P x1 x2)
inductive X3 {α1 α2 α3 : Type} (P : α1 → α2 → α3 → Prop) : Prop
  | mk (x1 : α1) (x2 : α2) (x3 : α3) (h : P x1 x2 x3)
inductive X4 {α1 α2 α3 α4 : Type} (P : α1 → α2 → α3 → α4 → Prop) : Prop
  | mk (x1 : α1) (x2 : α2) (x3 : α3) (x4 : α4) (h : P x1 x2 x3 x4)

set_option genCtorIdx false in
set_option genInjectivity true in
inductive V where
  | none | bool (b : Bool) | int (i : Int) | str (s : Str) | bytes (b : Array UInt8) | typ (n : String) | bi (n : String) | ref (a : Addr) | tup (l : List V)
noncomputable def V.ctorIdx (v : V) : Nat := V.casesOn (motive_1 := fun q_ => Nat) v 0 (fun q_ => 1) (fun q_ => 2) (fun q_ => 3) (fun q_ => 4) (fun q_ => 5) (fun q_ => 6) (fun q_ => 7) (fun q_ => 8)

set_option deriving.decEq.linear_construction_threshold 0 in
set_option genInjectivity true in
inductive Tag where
  | nil | bool (b : Bool) | int (i : Int) | bytes (l : List UInt8) | ref (k : Nat) (n : Int) | bad
  deriving DecidableEq
noncomputable def kp : Tag → Str × V
  | .int i => ("n", .int i)
  | .bool b => ("b", .int (if b = true then 1 else 0))
  | .bytes l => ("s", .bytes l.toArray)
  | .ref 0 n => ("t", .int n)
  | .ref _ n => ("l", .int n)
  | _ => ("", .none)
noncomputable abbrev kv (t : Tag) : V := .tup [.str (kp t).1, (kp t).2]
inductive KTag : Tag → Prop
  | int (i : Int) : KTag (.int i)
  | bool (b : Bool) : KTag (.bool b)
  | bytes (l : List UInt8) : KTag (.bytes l)
  | tab (n : Int) : KTag (.ref 0 n)
  | lig (n : Int) : KTag (.ref 1 n)
noncomputable abbrev Prs := List (Tag × V)

noncomputable def IsTup (o : Obj) : Prop := o.cls = .type "tuple" ∧ ∃ vs n, o.data = .seq vs n
theorem notTup_cls {o : Obj} (h : o.cls ≠ .type "tuple") : ¬ IsTup o := fun x => h x.1
theorem notTup_dict {o : Obj} {es n} (h : o.data = .dict es n) : ¬ IsTup o := fun ⟨_, vs, k, e⟩ => by rw [h] at e; cases e
theorem notTup_cell {o : Obj} {v} (h : o.data = .cell v) : ¬ IsTup o := fun ⟨_, vs, k, e⟩ => by rw [h] at e; cases e

inductive VRel (h : Heap) : V → Value → Prop
  | none : VRel h .none .none
  | bool (b : Bool) : VRel h (.bool b) (.bool b)
  | int (i : Int) (t : Tok) : VRel h (.int i) (.int i t)
  | str (s : Str) (t : Tok) : VRel h (.str s) (.str s t)
  | bytes (b : Array UInt8) (t : Tok) : VRel h (.bytes b) (.bytes b t)
  | typ (n : String) : VRel h (.typ n) (.type n)
  | bi (n : String) : VRel h (.bi n) (.builtin n)
  | ref (a : Addr) : VRel h (.ref a) (.ref a)
  | tup' {l : List V} {a : Addr} {o : Obj} {vs : Array Value} {n : Nat} (ho : h.get? a = some o) (hc : o.cls = .type "tuple") (hd : o.data = .seq vs n) (hz : vs.toList.length = l.length)
      (hl : ∀ (i : Nat) v r, l[i]? = some v → vs.toList[i]? = some r → VRel h v r) : VRel h (.tup l) (.ref a)
inductive VsRel (h : Heap) : List V → List Value → Prop
  | nil : VsRel h [] []
  | cons {v : V} {r : Value} {vs : List V} {rs : List Value} (hv : VRel h v r) (hs : VsRel h vs rs) : VsRel h (v :: vs) (r :: rs)

section
variable {h h' : Heap}
theorem VsRel.length {vs : List V} {rs : List Value} (x : VsRel h vs rs) : rs.length = vs.length := by
  induction x with
  | nil => rfl
  | cons _ _ ih => exact congrArg (· + 1) ih
theorem VsRel.at' {vs : List V} {rs : List Value} (x : VsRel h vs rs) : ∀ (i : Nat) v r, vs[i]? = some v → rs[i]? = some r → VRel h v r := by
  induction x with
  | nil => intro i v r e; cases e
  | cons hv _ ih =>
    intro i v r e e'
    cases i with
    | zero => cases e; cases e'; exact hv
    | succ i => exact ih i v r e e'
theorem VsRel.of_at : ∀ {vs : List V} {rs : List Value}, rs.length = vs.length → (∀ (i : Nat) v r, vs[i]? = some v → rs[i]? = some r → VRel h v r) → VsRel h vs rs
  | [], rs, hz, _ => by
    cases rs with
    | nil => exact .nil
    | cons => cases hz
  | _ :: _, rs, hz, k => by
    cases rs with
    | nil => cases hz
    | cons => exact .cons (k 0 _ _ rfl rfl) (VsRel.of_at (Nat.succ.inj hz) fun i => k (i + 1))
theorem VRel.tup {l : List V} {a : Addr} {o : Obj} {vs : Array Value} {n : Nat} (ho : h.get? a = some o) (hc : o.cls = .type "tuple") (hd : o.data = .seq vs n) (hl : VsRel h l vs.toList) : VRel h (.tup l) (.ref a) := .tup' ho hc hd hl.length hl.at'
theorem VRel.mono (k : ∀ b o, h.get? b = some o → IsTup o → h'.get? b = some o) {v : V} {r : Value} (x : VRel h v r) : VRel h' v r := by
  induction x with
  | tup' ho hc hd hz _ ih => exact .tup' (k _ _ ho ⟨hc, _, _, hd⟩) hc hd hz ih
  | _ => constructor
theorem VsRel.mono (k : ∀ b o, h.get? b = some o → IsTup o → h'.get? b = some o) {v : List V} {r : List Value} (x : VsRel h v r) : VsRel h' v r := .of_at x.length fun i v r e e' => (x.at' i v r e e').mono k
theorem VRel.int_inv {i r} (x : VRel h (.int i) r) : ∃ t, r = .int i t := by cases x; exact ⟨_, rfl⟩
theorem VRel.bool_inv {i r} (x : VRel h (.bool i) r) : r = .bool i := by cases x; rfl
theorem VRel.none_inv {r} (x : VRel h .none r) : r = .none := by cases x; rfl
theorem VRel.str_inv {i r} (x : VRel h (.str i) r) : ∃ t, r = .str i t := by cases x; exact ⟨_, rfl⟩
theorem VRel.bytes_inv {i r} (x : VRel h (.bytes i) r) : ∃ t, r = .bytes i t := by cases x; exact ⟨_, rfl⟩
theorem VRel.typ_inv {i r} (x : VRel h (.typ i) r) : r = .type i := by cases x; rfl
theorem VRel.bi_inv {i r} (x : VRel h (.bi i) r) : r = .builtin i := by cases x; rfl
theorem VRel.ref_inv {i r} (x : VRel h (.ref i) r) : r = .ref i := by cases x; rfl
inductive TupAt (h : Heap) (l : List V) : Value → Prop
  | mk (a : Addr) (vs : Array Value) (ht : h.IsTuple a vs) (hl : VsRel h l vs.toList) : TupAt h l (.ref a)
theorem VRel.tup_inv {l r} (x : VRel h (.tup l) r) : TupAt h l r := by
  cases x with
  | tup' ho hc hd hz hl => exact ⟨_, _, ⟨_, ho, hc, _, hd⟩, .of_at hz hl⟩
theorem VsRel.nil_inv {rs} (x : VsRel h [] rs) : rs = [] := by cases x; rfl
inductive ConsAt (h : Heap) (v : V) (vs : List V) : List Value → Prop
  | mk (r : Value) (rs : List Value) (hv : VRel h v r) (hs : VsRel h vs rs) : ConsAt h v vs (r :: rs)
theorem VsRel.cons_inv {v vs rs} (x : VsRel h (v :: vs) rs) : ConsAt h v vs rs := by
  cases x with
  | cons hv hs => exact ⟨_, _, hv, hs⟩
theorem VsRel.one {v rs} (x : VsRel h [v] rs) : ∃ r, rs = [r] ∧ VRel h v r := by
  obtain ⟨r, _, hv, hs⟩ := x.cons_inv
  rw [hs.nil_inv]; exact ⟨r, rfl, hv⟩
theorem VsRel.two {v w rs} (x : VsRel h [v, w] rs) : ∃ r q, rs = [r, q] ∧ VRel h v r ∧ VRel h w q := by
  obtain ⟨r, _, hv, hs⟩ := x.cons_inv
  obtain ⟨q, rfl, hw⟩ := hs.one
  exact ⟨r, q, rfl, hv, hw⟩
theorem VsRel.refI {a rs} (x : VsRel h [.ref a] rs) : rs = [.ref a] := by
  obtain ⟨r, rfl, hv⟩ := x.one
  rw [hv.ref_inv]
theorem VsRel.intI {a rs} (x : VsRel h [.int a] rs) : ∃ t, rs = [.int a t] := by
  obtain ⟨r, rfl, hv⟩ := x.one
  obtain ⟨t, rfl⟩ := hv.int_inv
  exact ⟨t, rfl⟩
theorem VsRel.int2 {a b rs} (x : VsRel h [.int a, .int b] rs) : ∃ t u, rs = [.int a t, .int b u] := by
  obtain ⟨r, q, rfl, hv, hw⟩ := x.two
  obtain ⟨t, rfl⟩ := hv.int_inv
  obtain ⟨u, rfl⟩ := hw.int_inv
  exact ⟨t, u, rfl⟩

theorem VsRel.append {vs : List V} {rs : List Value} {ws : List V} {ts : List Value} (x : VsRel h vs rs) (y : VsRel h ws ts) : VsRel h (vs ++ ws) (rs ++ ts) := by
  induction x with
  | nil => exact y
  | cons hv _ ih => exact .cons hv ih
theorem VsRel.get {vs : List V} {rs : List Value} {i : Nat} {v : V} (x : VsRel h vs rs) (e : vs[i]? = some v) : ∃ r, rs[i]? = some r ∧ VRel h v r := by
  have hi := (List.getElem?_eq_some_iff.mp e).1
  rw [← x.length] at hi
  exact ⟨_, List.getElem?_eq_getElem hi, x.at' i _ _ e (List.getElem?_eq_getElem hi)⟩
theorem VsRel.set {vs : List V} {rs : List Value} (i : Nat) {v : V} {r : Value} (x : VsRel h vs rs) (y : VRel h v r) : VsRel h (vs.set i v) (rs.set i r) := by
  induction x generalizing i with
  | nil => exact .nil
  | cons hv hs ih =>
    cases i with
    | zero => exact .cons y hs
    | succ i => exact .cons hv (ih i)
theorem VsRel.take {vs : List V} {rs : List Value} (i : Nat) (x : VsRel h vs rs) : VsRel h (vs.take i) (rs.take i) := by
  induction x generalizing i with
  | nil => rw [List.take_nil, List.take_nil]; exact .nil
  | cons hv hs ih =>
    cases i with
    | zero => exact .nil
    | succ i => exact .cons hv (ih i)
theorem VsRel.drop {vs : List V} {rs : List Value} (i : Nat) (x : VsRel h vs rs) : VsRel h (vs.drop i) (rs.drop i) := by
  induction x generalizing i with
  | nil => rw [List.drop_nil, List.drop_nil]; exact .nil
  | cons hv hs ih =>
    cases i with
    | zero => exact .cons hv hs
    | succ i => exact ih i
theorem VsRel.reverse {vs : List V} {rs : List Value} (x : VsRel h vs rs) : VsRel h vs.reverse rs.reverse := by
  induction x with
  | nil => exact .nil
  | cons hv _ ih => rw [List.reverse_cons, List.reverse_cons]; exact ih.append (.cons hv .nil)
end

set_option genCtorIdx false in
set_option genInjectivity true in
inductive O where
  | inst (C : Addr) (fs : List (Str × V))
  | list (l : List V)
  | rlist (l : List V)
  | dict (P : Prs)
  | raw (o : Obj)
  | lot (ps : Array Value)
noncomputable def O.ctorIdx (o : O) : Nat := O.casesOn (motive := fun q_ => Nat) o (fun q_ q_ => 0) (fun q_ => 1) (fun q_ => 2) (fun q_ => 3) (fun q_ => 4) (fun q_ => 5)

noncomputable abbrev MH := Addr → Option O
noncomputable abbrev Loc := Str → Option V
noncomputable def upd {α β : Type} [DecidableEq α] (f : α → Option β) (a : α) (b : β) : α → Option β := fun x => if x = a then some b else f x
@[simp] theorem upd_same {α β : Type} [DecidableEq α] (f : α → Option β) (a : α) (b : β) : upd f a b a = some b := by simp [upd]
theorem upd_ne {α β : Type} [DecidableEq α] (f : α → Option β) {a : α} (b : β) {x : α} (h : x ≠ a) : upd f a b x = f x := by simp [upd, h]
theorem upd_upd {α β : Type} [DecidableEq α] (f : α → Option β) (a : α) (b c : β) : upd (upd f a b) a c = upd f a c := by funext x; unfold upd; split <;> rfl
theorem upd_cases {α β : Type} [DecidableEq α] {f : α → Option β} {a x : α} {b y : β} {P : Prop} (e : upd f a b x = some y) (h1 : x = a → b = y → P) (h2 : x ≠ a → f x = some y → P) : P := by
  by_cases z : x = a
  · subst z; rw [upd_same] at e; exact h1 rfl (Option.some.inj e)
  · exact h2 z ((upd_ne f b z).symm.trans e)

inductive FsRel (h : Heap) : List (Str × V) → List DictEntry → Prop
  | nil : FsRel h [] []
  | cons {x : Str} {v : V} {e : DictEntry} {fs : List (Str × V)} {es : List DictEntry} (hk : ∃ t, e.key = .str x t) (hv : VRel h v e.val) (hs : FsRel h fs es) : FsRel h ((x, v) :: fs) (e :: es)
theorem FsRel.mono {h h' : Heap} (k : ∀ b o, h.get? b = some o → IsTup o → h'.get? b = some o) {fs es} (x : FsRel h fs es) : FsRel h' fs es := by
  induction x with
  | nil => exact .nil
  | cons hk hv _ ih => exact .cons hk (hv.mono k) ih

structure G where
  prog : Program
  w : World
  K : Frag
  base : Heap
  p : Program
  loose : List Str
  mg : Str → Option Value
  mb : Str → Option Value
  os : OsState
  cX : Addr
  inK : K.In base
  top : TopRead p loose mg mb base
  bmain : ∃ bm ob, mg "__builtins__" = some (.ref bm) ∧ bm ≠ builtinsNs ∧ base.get? bm = some ob ∧ ob.cls = .type "module" ∧ ob.dict = some builtinsNs ∧ ob.data = .plain

noncomputable abbrev DM := Addr → Option Addr
inductive Own (σ : MH) (δ : DM) (b : Addr) : Prop
  | inst (C : Addr) (fs : List (Str × V)) (h : σ b = some (.inst C fs))
  | list (l : List V) (h : σ b = some (.list l))
  | map (P : Prs) (h : σ b = some (.dict P))
  | lot (ps : Array Value) (h : σ b = some (.lot ps))
  | dict (a : Addr) (h : δ b = some a)
inductive Dom (σ : MH) (δ : DM) (b : Addr) : Prop
  | obj (o : O) (h : σ b = some o)
  | dict (a : Addr) (h : δ b = some a)
theorem Own.dom {σ δ b} (x : Own σ δ b) : Dom σ δ b := by
  cases x with
  | inst C fs h => exact .obj _ h
  | list l h => exact .obj _ h
  | map P h => exact .obj _ h
  | lot ps h => exact .obj _ h
  | dict a h => exact .dict a h
inductive RepI (δ : DM) (h : Heap) (a C : Addr) (fs : List (Str × V)) : Prop
  | mk (ox : Obj) (d : Addr) (es : List DictEntry) (n : Nat) (h1 : h.get? a = some ox) (h2 : ox.cls = .ref C) (h3 : ox.data = .plain) (h4 : ox.dict = some d) (h5 : δ d = some a) (h6 : h.get? d = some (dictOf es n)) (h7 : FsRel h fs es)
inductive RepL (h : Heap) (a : Addr) (l : List V) : Prop
  | mk (vs : Array Value) (n : Nat) (h1 : h.get? a = some { cls := .type "list", data := .seq vs n }) (h2 : VsRel h l vs.toList)
inductive RepR (h : Heap) (a : Addr) (l : List V) : Prop
  | mk (o : Obj) (vs : Array Value) (n : Nat) (h1 : h.get? a = some o) (h2 : o.cls = .type "list") (h3 : o.data = .seq vs n) (h4 : VsRel h l vs.toList)
noncomputable def vhash (w : World) : V → Int
  | .int i => hashInt i
  | .bytes b => reduceHash (hashStr w ⟨b.map (·.toNat)⟩)
  | _ => 0
noncomputable def khash (w : World) (t : Tag) : Int := reduceHash (Builtin.Tuple.tupleHashOf [hashStr w (kp t).1, vhash w (kp t).2])
structure KAt (h : Heap) (t : Tag) (a : Addr) : Prop where
  tag : KTag t
  rel : VRel h (kv t) (.ref a)
noncomputable abbrev Ys := List (Tag × Addr × Value)
noncomputable def ent (w : World) (x : Tag × Addr × Value) : DictEntry := ⟨khash w x.1, .ref x.2.1, x.2.2⟩
inductive YRel (h : Heap) : Prs → Ys → Prop
  | nil : YRel h [] []
  | cons {t v b rv P ys} (hk : KAt h t b) (hv : VRel h v rv) (hs : YRel h P ys) : YRel h ((t, v) :: P) ((t, b, rv) :: ys)
inductive RepD (w : World) (h : Heap) (a : Addr) (P : Prs) : Prop
  | mk (ys : Ys) (n : Nat) (h1 : h.get? a = some { cls := .type "dict", data := .dict (ys.map (ent w)).toArray n }) (h2 : YRel h P ys) (h3 : (P.map (·.1)).Nodup) (h4 : a ≠ sysModules)
theorem YRel.mono {h h' : Heap} (k : ∀ b o, h.get? b = some o → IsTup o → h'.get? b = some o) {P ys} (x : YRel h P ys) : YRel h' P ys := by
  induction x with
  | nil => exact .nil
  | cons hk hv _ ih => exact .cons ⟨hk.tag, hk.rel.mono k⟩ (hv.mono k) ih
noncomputable def Rep (w : World) (δ : DM) (h : Heap) (a : Addr) : O → Prop
  | .inst C fs => RepI δ h a C fs
  | .list l => RepL h a l
  | .rlist l => RepR h a l
  | .dict P => RepD w h a P
  | .raw o => h.get? a = some o ∧ ¬ IsTup o
  | .lot ps => h.get? a = some (tabObj ps)

structure AuxOk (σ : MH) (h : Heap) (d a : Addr) : Prop where
  inst : ∃ C fs, σ a = some (.inst C fs)
  no : σ d = none
  at_ : ∃ ox, h.get? a = some ox ∧ ox.dict = some d
structure Sim (g : G) (σ : MH) (δ : DM) (h : Heap) : Prop where
  keep : ∀ b o, g.base.get? b = some o → h.get? b = some o
  rep : ∀ a o, σ a = some o → Rep g.w δ h a o
  new : ∀ b, Own σ δ b → g.base.get? b = none
  aux : ∀ d a, δ d = some a → AuxOk σ h d a

noncomputable def frameAddrs (fl : List Env) : List Addr := fl.filterMap (·.frame)
noncomputable def Fl (fl : List Env) (b : Addr) : Prop := b ∈ frameAddrs fl

structure Evo (fl : List Env) (fa : List Addr) (σ : MH) (δ : DM) (h : Heap) (σ' : MH) (δ' : DM) (h' : Heap) : Prop where
  slots : ∀ b o, h.get? b = some o → ¬ Own σ δ b → b ∉ fa → Fl fl b → ∃ sl, h'.get? b = some { o with slots := sl }
  keep : ∀ b o, h.get? b = some o → ¬ Own σ δ b → b ∉ fa → ¬ Fl fl b → h'.get? b = some o
  own : ∀ b, Own σ' δ' b → Own σ δ b ∨ h.get? b = none
  dom : ∀ b, Dom σ' δ' b → Dom σ δ b ∨ h.get? b = none
  live : ∀ b o, h.get? b = some o → ∃ o', h'.get? b = some o'

inductive FrA (g : G) (σ : MH) (δ : DM) (h : Heap) (e : Env) : Prop
  | mk (hk : e.scope.kind ≠ .module) (L : Addr) (o : Obj) (es : Array DictEntry) (n : Nat) (h1 : e.frame = some L) (h2 : g.base.get? L = none) (h3 : ¬ Dom σ δ L) (h4 : h.get? L = some o) (h5 : o.data = .dict es n) (h6 : ¬ IsTup o) (h7 : StrKeys es)
structure FrOk (g : G) (σ : MH) (δ : DM) (h : Heap) (fl : List Env) : Prop where
  all : ∀ e ∈ fl, FrA g σ δ h e

inductive Slot (env : Env) (h : Heap) (m : Str → Option Value) (x : Str) (v : V) : Prop
  | loc (hk : env.kindOf x = some .local) (rv : Value) (h1 : m x = some rv) (h2 : VRel h v rv)
  | cell (hk : env.kindOf x = some .cell ∨ env.kindOf x = some .free) (c : Addr) (rv : Value) (h1 : env.cells.lookup x = some c) (h2 : h.IsCell c (some rv)) (h3 : VRel h v rv)
inductive LocOk (env : Env) (l : Loc) (h : Heap) : Prop
  | mk (m : Str → Option Value) (hm : h.Ns env.locals m) (hl : ∀ x v, l x = some v → Slot env h m x v) (hc : ∀ x c, env.kindOf x = some .cell → env.cells.lookup x = some c → ∃ v0, h.IsCell c v0)

structure Frm where
  env : Env
  fa : List Addr
structure EnvOk (f : Frm) : Prop where
  kind : f.env.scope.kind = .function
  globals : f.env.globals = mainGlobals
  builtins : f.env.builtins = builtinsNs
  locals : f.env.locals ∈ f.fa
noncomputable def CellsOwn (f : Frm) : Prop := ∀ x, f.env.kindOf x = some .cell → ∃ c, f.env.cells.lookup x = some c ∧ c ∈ f.fa ∧ ∀ y, f.env.cells.lookup y = some c → y = x

structure Fx where
  g : G
  fl : List Env
  f : Frm
noncomputable abbrev Ev (φ : Fx) (σ : MH) (δ : DM) (h : Heap) (σ' : MH) (δ' : DM) (h' : Heap) : Prop := Evo φ.fl φ.f.fa σ δ h σ' δ' h'
structure FaOk (g : G) (σ : MH) (δ : DM) (h : Heap) (b : Addr) : Prop where
  base : g.base.get? b = none
  dom : ¬ Dom σ δ b
  at_ : ∃ o, h.get? b = some o ∧ ¬ IsTup o
structure FS (φ : Fx) (l : Loc) (σ : MH) (δ : DM) (s : Shared) : Prop where
  sim : Sim φ.g σ δ s.heap
  envOk : EnvOk φ.f
  loc : LocOk φ.f.env l s.heap
  fa : ∀ b ∈ φ.f.fa, FaOk φ.g σ δ s.heap b
  fr : FrOk φ.g σ δ s.heap φ.fl
  gens : s.gens = #[]
  os : s.os = φ.g.os
structure CS (g : G) (fl : List Env) (σ : MH) (δ : DM) (s : Shared) : Prop where
  sim : Sim g σ δ s.heap
  fr : FrOk g σ δ s.heap fl
  gens : s.gens = #[]
  os : s.os = g.os
theorem FS.cs {φ l σ δ s} (x : FS φ l σ δ s) : CS φ.g φ.fl σ δ s := ⟨x.sim, x.fr, x.gens, x.os⟩

structure Good0 (d : Nat) (A : Around) (fl : List Env) : Prop where
  frames : A.frames = some fl
  handled : A.handled = none
  depth : A.depth + d ≤ 900
  units : A.units + 10 * d ≤ 9000
theorem Good0.le {d d' A fl} (x : Good0 d A fl) (h : d' ≤ d) : Good0 d' A fl := ⟨x.frames, x.handled, by have := x.depth; lia, by have := x.units; lia⟩

theorem Evo.refl (fl fa σ δ h) : Evo fl fa σ δ h σ δ h := ⟨fun q_ o e q_ q_ q_ => ⟨o.slots, e⟩, fun q_ q_ e q_ q_ q_ => e, fun q_ x => .inl x, fun q_ x => .inl x, fun q_ o e => ⟨o, e⟩⟩
theorem isNone_of {α : Type} {x : Option α} (h : ∀ y, x = some y → False) : x = none := by
  cases x with
  | none => rfl
  | some y => exact (h y rfl).elim
theorem some_not_none {α : Type} {x : Option α} {y : α} {P : Prop} (h : x = some y) (e : x = none) : P := by rw [e] at h; cases h
section
variable {fl : List Env} {fa : List Addr} {σ σ' σ'' : MH} {δ δ' δ'' : DM} {h h' h'' : Heap}
theorem Evo.none_of (x : Evo fl fa σ δ h σ' δ' h') {b : Addr} (e : h'.get? b = none) : h.get? b = none := isNone_of fun o q => by
  obtain ⟨o', h1⟩ := x.live b o q
  exact some_not_none h1 e
theorem Evo.notOwn (x : Evo fl fa σ δ h σ' δ' h') {b : Addr} {o : Obj} (e : h.get? b = some o) (n : ¬ Own σ δ b) : ¬ Own σ' δ' b := fun q => (x.own b q).elim n (some_not_none e)
theorem Evo.notDom (x : Evo fl fa σ δ h σ' δ' h') {b : Addr} {o : Obj} (e : h.get? b = some o) (n : ¬ Dom σ δ b) : ¬ Dom σ' δ' b := fun q => (x.dom b q).elim n (some_not_none e)
theorem Evo.trans (x : Evo fl fa σ δ h σ' δ' h') (y : Evo fl fa σ' δ' h' σ'' δ'' h'') : Evo fl fa σ δ h σ'' δ'' h'' where
  slots b o e n q r := by
    obtain ⟨sl, e'⟩ := x.slots b o e n q r
    obtain ⟨sl', e''⟩ := y.slots b _ e' (x.notOwn e n) q r
    exact ⟨sl', e''⟩
  keep b o e n q r := y.keep b o (x.keep b o e n q r) (x.notOwn e n) q r
  own b z := (y.own b z).elim (x.own b) fun z => .inr (x.none_of z)
  dom b z := (y.dom b z).elim (x.dom b) fun z => .inr (x.none_of z)
  live b o e := by obtain ⟨o', e'⟩ := x.live b o e; exact y.live b o' e'
end
theorem Ev.trans {φ : Fx} {σ σ' σ'' : MH} {δ δ' δ'' : DM} {h h' h'' : Heap} (x : Ev φ σ δ h σ' δ' h') (y : Ev φ σ' δ' h' σ'' δ'' h'') : Ev φ σ δ h σ'' δ'' h'' := Evo.trans x y
theorem Ev.refl (φ σ δ h) : Ev φ σ δ h σ δ h := Evo.refl ..

theorem type_ne {a b : String} (h : a ≠ b) : (Value.type a) ≠ .type b := fun e => h (Value.type.inj e)
inductive OwnAt (h : Heap) (b : Addr) : Prop
  | mk (o : Obj) (h1 : h.get? b = some o) (h2 : ¬ IsTup o) (h3 : ∀ v, o.data ≠ .cell v)
theorem RepI.plain {δ h a C fs} (x : RepI δ h a C fs) : OwnAt h a := by
  obtain ⟨ox, d, es, n, h1, h2, h3, _⟩ := x
  exact ⟨ox, h1, notTup_cls (by rw [h2]; exact fun z => nomatch z), fun v z => by rw [h3] at z; cases z⟩
theorem Sim.ownAt {g : G} {σ δ h} (S : Sim g σ δ h) {b : Addr} (q : Own σ δ b) : OwnAt h b := by
  cases q with
  | inst C fs q => exact RepI.plain (S.rep _ _ q)
  | list l q =>
    obtain ⟨vs, n, h1, _⟩ := S.rep _ _ q
    exact ⟨_, h1, notTup_cls (type_ne (by decide)), fun v z => nomatch z⟩
  | map P q =>
    obtain ⟨es, n, h1, _⟩ := S.rep _ _ q
    exact ⟨_, h1, notTup_dict rfl, fun v z => nomatch z⟩
  | lot ps q => exact ⟨tabObj ps, S.rep _ _ q, (fun ⟨_, _, _, e⟩ => nomatch e), fun v z => nomatch z⟩
  | dict a q =>
    obtain ⟨⟨C, fs, q1⟩, _, ox', h7, h8⟩ := S.aux _ _ q
    obtain ⟨ox, d, es, n, h1, _, _, h4, h5, h6, _⟩ := S.rep _ _ q1
    rw [h7] at h1; cases h1
    rw [h8] at h4; cases h4
    exact ⟨_, h6, notTup_dict rfl, fun v z => nomatch z⟩
inductive FlAt (g : G) (σ : MH) (δ : DM) (h : Heap) (b : Addr) : Prop
  | mk (h1 : g.base.get? b = none) (h2 : ¬ Dom σ δ b) (o : Obj) (es : Array DictEntry) (n : Nat) (h3 : h.get? b = some o) (h4 : o.data = .dict es n) (h5 : ¬ IsTup o)
theorem FrOk.at {g : G} {σ δ h fl} (x : FrOk g σ δ h fl) {b : Addr} (q : Fl fl b) : FlAt g σ δ h b := by
  obtain ⟨env, he, hf⟩ := List.mem_filterMap.mp q
  obtain ⟨_, L, o', es, n, h1, h2, h3, h4, h5, h6, _⟩ := x.all env he
  rw [hf] at h1; cases h1
  exact ⟨h2, h3, o', es, n, h4, h5, h6⟩
theorem Evo.tups {g : G} {fl fa σ δ h σ' δ' h'} (x : Evo fl fa σ δ h σ' δ' h') (S : Sim g σ δ h) (FA : ∀ b ∈ fa, ∃ o, h.get? b = some o ∧ ¬ IsTup o) (FR : FrOk g σ δ h fl) :
    ∀ b o, h.get? b = some o → IsTup o → h'.get? b = some o := fun b o e c => by
  refine x.keep b o e (fun q => ?_) (fun q => ?_) fun q => ?_
  · obtain ⟨o', h1, h2, _⟩ := S.ownAt q; rw [e] at h1; cases h1; exact h2 c
  · obtain ⟨o', h1, h2⟩ := FA b q; rw [e] at h1; cases h1; exact h2 c
  · obtain ⟨_, _, o', _, _, h1, _, h2⟩ := FR.at q; rw [e] at h1; cases h1; exact h2 c
section
variable {φ : Fx} {l : Loc} {σ σ' : MH} {δ δ' : DM} {s : Shared} {h' : Heap}
theorem FS.tups (F : FS φ l σ δ s) (x : Ev φ σ δ s.heap σ' δ' h') : ∀ b o, s.heap.get? b = some o → IsTup o → h'.get? b = some o := Evo.tups x F.sim (fun b q => (F.fa b q).at_) F.fr
theorem VRel.evo {v r} (F : FS φ l σ δ s) (x : Ev φ σ δ s.heap σ' δ' h') (y : VRel s.heap v r) : VRel h' v r := y.mono (F.tups x)
theorem VsRel.evo {v r} (F : FS φ l σ δ s) (x : Ev φ σ δ s.heap σ' δ' h') (y : VsRel s.heap v r) : VsRel h' v r := y.mono (F.tups x)
theorem FS.toks {h : Heap} {gs d t os} (F : FS φ l σ δ ⟨h, gs, d, t, os⟩) (t' : Nat) : FS φ l σ δ ⟨h, gs, d, t', os⟩ := ⟨F.sim, F.envOk, F.loc, F.fa, F.fr, F.gens, F.os⟩
theorem FS.tk (F : FS φ l σ δ s) (t' : Nat) : FS φ l σ δ { s with toks := t' } := F.toks t'
end

structure ZOk (g : G) (fl : List Env) (fa : List Addr) (h : Heap) (σ' : MH) (δ' : DM) (hr : Heap) (z : Addr) : Prop where
  whose : Fl fl z ∨ h.get? z = none ∨ z ∈ fa
  base : g.base.get? z = none
  dom : ¬ Dom σ' δ' z
  nt : ∀ o, hr.get? z = some o → ¬ IsTup o
inductive ExcAt (g : G) (B : Heap) (ea : Addr) (h' : Heap) : Prop
  | plain (a0 : Value) (oe : Obj) (vs : Array Value) (h1 : h'.get? ea = some oe) (h2 : oe.cls = .ref g.cX) (h3 : oe.data = .fields vs) (h4 : vs[0]? = some a0) (h5 : vs[1]? = some .none)
  | traced (a0 : Value) (h : h'.TracedW B ea (.ref g.cX) a0)
structure FliesAt (g : G) (fl : List Env) (fa : List Addr) (σ : MH) (δ : DM) (h : Heap) (ea : Addr) (σ' : MH) (δ' : DM) (hr B : Heap) (Z : List Addr) (h' : Heap) : Prop where
  sim : Sim g σ' δ' hr
  fr : FrOk g σ' δ' hr fl
  evo : Evo fl fa σ δ h σ' δ' hr
  inB : ∀ b o, hr.get? b = some o → b ∉ Z → B.get? b = some o
  ofB : ∀ b o, B.get? b = some o → hr.get? b = some o
  zs : ∀ z ∈ Z, ZOk g fl fa h σ' δ' hr z
  flZ : ∀ z, Fl fl z → z ∈ Z
  outB : ∀ z ∈ Z, B.get? z = none
  stays : B.StaysIn h'
  upto : hr.UpToSlots h'
  fresh : B.get? ea = none
  exc : ExcAt g B ea h'
inductive Flies (g : G) (fl : List Env) (fa : List Addr) (σ : MH) (δ : DM) (h : Heap) (X : MH → Prop) (ev : Value) (s' : Shared) : Prop
  | mk (ea : Addr) (σ' : MH) (δ' : DM) (hr B : Heap) (Z : List Addr) (he : ev = .ref ea) (hX : X σ') (at_ : FliesAt g fl fa σ δ h ea σ' δ' hr B Z s'.heap) (hg : s'.gens = #[]) (ho : s'.os = g.os)
section
variable {g : G} {fl : List Env} {fa : List Addr} {σ σ1 : MH} {δ δ1 : DM} {h h1 : Heap} {X X' : MH → Prop} {ev : Value} {s' : Shared}
theorem Flies.mono (k : ∀ σ, X σ → X' σ) (x : Flies g fl fa σ δ h X ev s') : Flies g fl fa σ δ h X' ev s' := by
  obtain ⟨ea, σ', δ', hr, B, Z, e, x, r, a, b⟩ := x
  exact ⟨ea, σ', δ', hr, B, Z, e, k _ x, r, a, b⟩
theorem Flies.trans (E : Evo fl fa σ δ h σ1 δ1 h1) (x : Flies g fl fa σ1 δ1 h1 X ev s') : Flies g fl fa σ δ h X ev s' := by
  obtain ⟨ea, σ', δ', hr, B, Z, e, x, y, a, b⟩ := x
  refine ⟨ea, σ', δ', hr, B, Z, e, x, { y with evo := E.trans y.evo, zs := fun z hz => ?_ }, a, b⟩
  have k := y.zs z hz
  exact { k with whose := k.whose.elim .inl fun a => .inr (a.elim (fun a => .inl (E.none_of a)) .inr) }
end
noncomputable def noX : MH → Prop := fun q_ => False
theorem Flies.no {g : G} {fl fa σ δ h ev s'} {P : Prop} (x : Flies g fl fa σ δ h noX ev s') : P := by
  obtain ⟨_, _, _, _, _, _, _, x, _⟩ := x
  exact x.elim

structure Cx where
  φ : Fx
  d : Nat
  X : MH → Prop
noncomputable abbrev Cx.nx (κ : Cx) : Cx := ⟨κ.φ, κ.d, noX⟩
noncomputable abbrev Cx.fl (κ : Cx) : List Env := κ.φ.fl
noncomputable abbrev Cx.f (κ : Cx) : Frm := κ.φ.f
noncomputable abbrev Cx.g (κ : Cx) : G := κ.φ.g
noncomputable abbrev Good (κ : Cx) (A : Around) : Prop := Good0 κ.d A κ.φ.fl
noncomputable abbrev FlX (κ : Cx) (σ : MH) (δ : DM) (h : Heap) (ev : Value) (s' : Shared) : Prop := Flies κ.φ.g κ.φ.fl κ.φ.f.fa σ δ h κ.X ev s'
section
variable {α β α' β' : Type}
inductive Ok (R : Heap → β → α → Prop) (φ : Fx) (σ : MH) (δ : DM) (h : Heap) (Q : β → Loc → MH → Prop) (a : α) (s' : Shared) : Prop
  | mk (b : β) (l' : Loc) (σ' : MH) (δ' : DM) (r : R s'.heap b a) (F : FS φ l' σ' δ' s') (E : Ev φ σ δ h σ' δ' s'.heap) (q : Q b l' σ')
noncomputable def At (R : Heap → β → α → Prop) (κ : Cx) (A : Around) (t : Sem α) (Q : β → Loc → MH → Prop) (σ : MH) (δ : DM) (s : Shared) : Prop :=
  wpAny (model κ.φ.g.prog κ.φ.g.w) A t (Ok R κ.φ σ δ s.heap Q) (FlX κ σ δ s.heap) s

variable {κ : Cx} {A : Around} {σ : MH} {δ : DM} {s : Shared} {R : Heap → β → α → Prop} {R' : Heap → β' → α' → Prop}

theorem At.bind {t : Sem α} {k : α → Sem α'} {Q : β → Loc → MH → Prop} {Q' : β' → Loc → MH → Prop} (h : At R κ A t Q σ δ s)
    (hk : ∀ b a l1 σ1 δ1 s1, R s1.heap b a → FS κ.φ l1 σ1 δ1 s1 → Ev κ.φ σ δ s.heap σ1 δ1 s1.heap → Q b l1 σ1 → At R' κ A (k a) Q' σ1 δ1 s1) : At R' κ A (t >>= k) Q' σ δ s :=
  wpAny_bind (wpAny_mono h (fun a s1 ⟨b, l1, σ1, δ1, hR, F, E, q⟩ => wpAny_mono (hk b a l1 σ1 δ1 s1 hR F E q) (fun a' s2 ⟨b', l2, σ2, δ2, hR', F', E', q'⟩ => ⟨b', l2, σ2, δ2, hR', F', E.trans E', q'⟩) fun q_ q_ e => e.trans E) fun q_ q_ e => e)
theorem At.mono {t : Sem α} {Q Q' : β → Loc → MH → Prop} (h : At R κ A t Q σ δ s) (k : ∀ b l σ, Q b l σ → Q' b l σ) : At R κ A t Q' σ δ s :=
  wpAny_mono h (fun _ _ ⟨b, l1, σ1, δ1, hR, F, E, q⟩ => ⟨b, l1, σ1, δ1, hR, F, E, k _ _ _ q⟩) fun q_ q_ e => e
theorem Ok.here {φ : Fx} {l : Loc} {Q : β → Loc → MH → Prop} {a : α} {b : β} (F : FS φ l σ δ s) (hR : R s.heap b a) (q : Q b l σ) : Ok R φ σ δ s.heap Q a s := ⟨b, l, σ, δ, hR, F, Ev.refl .., q⟩
theorem Ok.tok {φ : Fx} {l : Loc} {Q : β → Loc → MH → Prop} {a : α} {b : β} {h : Heap} {gs d t os t'} (F : FS φ l σ δ ⟨h, gs, d, t, os⟩) (hR : R h b a) (q : Q b l σ) : Ok R φ σ δ h Q a ⟨h, gs, d, t', os⟩ :=
  ⟨b, l, σ, δ, hR, F.toks t', Ev.refl .., q⟩
theorem At.pure {l : Loc} {Q : β → Loc → MH → Prop} {a : α} {b : β} (F : FS κ.φ l σ δ s) (hR : R s.heap b a) (q : Q b l σ) : At R κ A (pure a) Q σ δ s := wpAny_pure (Ok.here F hR q)
theorem At.standAt {t : Unit → Sem α} {pos : Pos} {Q : β → Loc → MH → Prop} (h : At R κ A (t ()) Q σ δ s) : At R κ A (standAt pos >>= t) Q σ δ s := wpAny_bind (wpAny_standAt h)
theorem At.holding {t : Sem α} {vs : List Value} {Q : β → Loc → MH → Prop} (h : At R κ A t Q σ δ s) : At R κ A (holding vs t) Q σ δ s := wpAny_holding h
theorem At.operate {t : Sem Value} {R : Heap → β → Value → Prop} {vs : List Value} {Q : β → Loc → MH → Prop} (h : At R κ A t Q σ δ s) : At R κ A (operate vs t) Q σ δ s := wpAny_operating h
end

noncomputable def WE (κ : Cx) (e : PySem.Expr) (Q : V → Loc → MH → Prop) (l : Loc) (σ : MH) : Prop :=
  ∀ A s δ, Good κ A → FS κ.φ l σ δ s → At VRel κ A (eval e κ.φ.f.env) Q σ δ s

end Mn
set_option genInjectivity false
namespace Mn
open PySem.SeqAt

noncomputable def PV (κ : Cx) (t : List Value → Sem Value) (vs : List V) (Q : V → MH → Prop) (σ : MH) : Prop :=
  ∀ A s δ l rs, Good κ A → FS κ.φ l σ δ s → VsRel s.heap vs rs → At VRel κ A (t rs) (fun v l' σ' => l' = l ∧ Q v σ') σ δ s
noncomputable def t1 (k : Value → Sem Value) (rs : List Value) : Sem Value := k (rs.getD 0 .none)
noncomputable def t2 (k : Value → Value → Sem Value) (rs : List Value) : Sem Value := k (rs.getD 0 .none) (rs.getD 1 .none)
section
variable {κ : Cx} {l : Loc} {σ : MH} {δ : DM} {A : Around} {s : Shared} {Q : V → MH → Prop}
theorem PV.run {t vs rs} {Q : V → Loc → MH → Prop} (h : PV κ t vs (fun v σ' => Q v l σ') σ) (G : Good κ A) (F : FS κ.φ l σ δ s) (hv : VsRel s.heap vs rs) : At VRel κ A (t rs) Q σ δ s :=
  (h A s δ l rs G F hv).mono fun _ _ _ ⟨e, q⟩ => e ▸ q
theorem PV.mono {t vs} {Q' : V → MH → Prop} (h : PV κ t vs Q σ) (k : ∀ v σ, Q v σ → Q' v σ) : PV κ t vs Q' σ := fun A s δ l rs G F hv => (h A s δ l rs G F hv).mono fun _ _ _ ⟨e, q⟩ => ⟨e, k _ _ q⟩
theorem PV.ret {t vs v} (h : ∀ (A : Around) (s : Shared) (rs : List Value), Good κ A → VsRel s.heap vs rs → ∀ (P : Value → Shared → Prop) E, (∀ r tk, VRel s.heap v r → P r { s with toks := tk }) → wpAny (model κ.φ.g.prog κ.φ.g.w) A (t rs) P E s)
    (q : Q v σ) : PV κ t vs Q σ := fun A s δ l rs G F hv => h A s rs G hv _ _ fun r tk hr => ⟨v, l, σ, δ, hr, F.tk tk, Ev.refl .., rfl, q⟩
end

section
variable {κ : Cx} {l : Loc} {σ : MH} {Q : V → Loc → MH → Prop}
theorem FS.inK {φ l σ δ s} (F : FS φ l σ δ s) : φ.g.K.In s.heap := φ.g.inK.keeps F.sim.keep
theorem FS.top {φ l σ δ s} (F : FS φ l σ δ s) : TopRead φ.g.p φ.g.loose φ.g.mg φ.g.mb s.heap := φ.g.top.keeps F.sim.keep

theorem WE.cInt {i k pos} (h : Q (.int i) l σ) : WE κ (.Constant (.int i) k pos) Q l σ := fun q_ q_ q_ q_ F => wpAny_mkInt (Ok.tok F (.int ..) h)
theorem WE.cStr {x k pos} (h : Q (.str x) l σ) : WE κ (.Constant (.str x) k pos) Q l σ := fun q_ q_ q_ q_ F => wpAny_mkText (Ok.tok F (.str ..) h)
theorem WE.cBytes {x k pos} (h : Q (.bytes x.toArray) l σ) : WE κ (.Constant (.bytes x) k pos) Q l σ := fun q_ q_ q_ q_ F => wpAny_mkTextBytes (Ok.tok F (.bytes ..) h)
theorem WE.cNone {k pos} (h : Q .none l σ) : WE κ (.Constant .none k pos) Q l σ := fun q_ q_ q_ q_ F => wpAny_pure (Ok.here F .none h)
theorem WE.cBool {b k pos} (h : Q (.bool b) l σ) : WE κ (.Constant (.bool b) k pos) Q l σ := fun q_ q_ q_ q_ F => wpAny_pure (Ok.here F (.bool b) h)

theorem load_loc {A s δ x v} (F : FS κ.φ l σ δ s) (hv : l x = some v) (h : Q v l σ) (hn : (x == ("__classdict__" : Str)) = false) : At VRel κ A (loadName κ.φ.f.env x) Q σ δ s := by
  obtain ⟨m, hm, hl, _⟩ := F.loc
  cases hl x v hv with
  | loc hk rv h1 h2 => exact wpAny_loadName_local F.envOk.kind hk hm h1 (Ok.here F h2 h)
  | cell hk c rv h1 h2 h3 =>
    rcases hk with hk | hk
    · exact wpAny_loadName_cell F.envOk.kind hk h1 h2 (Ok.here F h3 h)
    · exact wpAny_loadName_free F.envOk.kind hk h1 h2 (Ok.here F h3 h) hn
theorem WE.loc {x pos v} (hv : l x = some v) (h : Q v l σ) (hd : (x == ("__debug__" : Str)) = false) (hn : (x == ("__classdict__" : Str)) = false) : WE κ (.Name x pos) Q l σ := fun q_ q_ q_ q_ F =>
  wpAny_Name (load_loc F hv h hn) hd
theorem WE.glob {x pos v rv} (e : nsIn κ.φ.g.K mainGlobals x = some (some rv)) (hx : κ.φ.f.env.kindOf x = some .globalImplicit) (hv : ∀ h, VRel h v rv) (h : Q v l σ) (hd : (x == ("__debug__" : Str)) = false) : WE κ (.Name x pos) Q l σ :=
  fun q_ q_ q_ q_ F => Name_function_global F.envOk.kind hx (loadGlobal_global (by rw [F.envOk.globals]; exact F.top.g) (mg_of κ.φ.g.inK κ.φ.g.top.g e) (Ok.here F (hv _) h)) hd
theorem WE.builtin {x pos v rv} (e : nsIn κ.φ.g.K mainGlobals x = some none) (hb : bootBuiltins x = some rv) (hx : κ.φ.f.env.kindOf x = some .globalImplicit) (hv : ∀ h, VRel h v rv) (h : Q v l σ) (hnm : x ≠ "__name__") (hd : (x == ("__debug__" : Str)) = false) :
    WE κ (.Name x pos) Q l σ := fun q_ q_ q_ q_ F =>
  Name_function_global F.envOk.kind hx (loadGlobal_builtin (by rw [F.envOk.globals]; exact F.top.g) (mg_none_of κ.φ.g.inK κ.φ.g.top.g e) (by rw [F.envOk.builtins]; exact F.top.b) ((F.top.builtins x hnm).trans hb) (Ok.here F (hv _) h)) hd

theorem WE.binop {e1 e2 op p} (h : WE κ e1 (fun a l1 σ1 => WE κ e2 (fun b l2 σ2 => PV κ (t2 (binaryOp op)) [a, b] (fun v σ3 => Q v l2 σ3) σ2) l1 σ1) l σ) : WE κ (.BinOp e1 op e2 p) Q l σ := fun A s δ G F => by
  rw [eval_BinOp]
  exact At.bind (h A s δ G F) fun a ra l1 σ1 δ1 s1 hR F1 E1 q1 => At.bind (At.holding (q1 A s1 δ1 G F1)) fun b rb l2 σ2 δ2 s2 hR2 F2 E2 q2 => At.standAt (At.operate (q2.run G F2 (.cons (hR.evo F1 E2) (.cons hR2 .nil))))
theorem WE.unop {op e p} (h : WE κ e (fun a l1 σ1 => PV κ (t1 (unaryOp op)) [a] (fun v σ2 => Q v l1 σ2) σ1) l σ) : WE κ (.UnaryOp op e p) Q l σ := fun A s δ G F => by
  show At VRel κ A (do let v ← eval e κ.φ.f.env; standAt p; holding [v] (unaryOp op v)) Q σ δ s
  exact At.bind (h A s δ G F) fun a ra l1 σ1 δ1 s1 hR F1 E1 q1 => At.standAt (At.holding (q1.run G F1 (.cons hR .nil)))
end

section
variable {κ : Cx} {σ : MH} {Q : V → MH → Prop}
theorem PV.ii {k : Value → Value → Sem Value} {a b : Int} {v : V} (h : ∀ {A : Around} {s : Shared} {t u P E}, (∀ r tk, VRel s.heap v r → P r { s with toks := tk }) → wpAny (model κ.φ.g.prog κ.φ.g.w) A (k (.int a t) (.int b u)) P E s) (q : Q v σ) : PV κ (t2 k) [.int a, .int b] Q σ :=
  .ret (fun A s rs q_ hv P E hP => by obtain ⟨t, u, rfl⟩ := hv.int2; exact h hP) q
theorem PV.add {a b : Int} (h : Q (.int (a + b)) σ) : PV κ (t2 (binaryOp .Add)) [.int a, .int b] Q σ := .ii (fun hP => add_int (hP _ _ (.int ..))) h
theorem PV.sub {a b : Int} (h : Q (.int (a - b)) σ) : PV κ (t2 (binaryOp .Sub)) [.int a, .int b] Q σ := .ii (fun hP => sub_int (hP _ _ (.int ..))) h
theorem PV.mul {a b : Int} (hm : IntMulOk a b) (h : Q (.int (a * b)) σ) : PV κ (t2 (binaryOp .Mult)) [.int a, .int b] Q σ := .ii (fun hP => mul_int (hP _ _ (.int ..)) hm) h
theorem small_div {x y : Int} (h : y.natAbs < 2 ^ 64) : Builtin.divisionGoesByPylong x y = false := by
  refine PyProof.noPylong_of_log2 ?_
  by_cases h0 : y.natAbs = 0
  · rw [h0]; decide +kernel
  · have h30 : y.natAbs.log2 < 64 := (Nat.log2_lt h0).mpr h
    lia
theorem PV.div {a b : Int} (hb : b ≠ 0) (hs : b.natAbs < 2 ^ 64) (h : Q (.int (a.fdiv b)) σ) : PV κ (t2 (binaryOp .FloorDiv)) [.int a, .int b] Q σ := .ii (fun hP => floordiv_int hb (hP _ _ (.int ..)) (.inl (small_div hs))) h
theorem PV.mod {a b : Int} (hb : b ≠ 0) (h : Q (.int (a.fmod b)) σ) : PV κ (t2 (binaryOp .Mod)) [.int a, .int b] Q σ := .ii (fun hP => mod_int' hb (hP _ _ (.int ..))) h
theorem PV.band {a b : Int} (h : Q (.int (Builtin.bitAnd a b)) σ) : PV κ (t2 (binaryOp .BitAnd)) [.int a, .int b] Q σ := .ii (fun hP => and_int (hP _ _ (.int ..))) h
theorem PV.bor {a b : Int} (h : Q (.int (Builtin.bitOr a b)) σ) : PV κ (t2 (binaryOp .BitOr)) [.int a, .int b] Q σ := .ii (fun hP => or_int (hP _ _ (.int ..))) h
theorem PV.bxor {a b : Int} (h : Q (.int (Builtin.bitXor a b)) σ) : PV κ (t2 (binaryOp .BitXor)) [.int a, .int b] Q σ := .ii (fun hP => xor_int (hP _ _ (.int ..))) h
theorem PV.shl {a n : Int} (hn : 0 ≤ n) (hn2 : n ≤ 1000000) (ha : a.natAbs < 2 ^ 64) (h : Q (.int (a * 2 ^ n.toNat)) σ) : PV κ (t2 (binaryOp .LShift)) [.int a, .int n] Q σ := .ii (fun hP => lshift_int_small hn hn2 ha (hP _ _ (.int ..))) h
theorem PV.shr {a n : Int} (hn : 0 ≤ n) (h : Q (.int (a.fdiv (2 ^ n.toNat))) σ) : PV κ (t2 (binaryOp .RShift)) [.int a, .int n] Q σ := .ii (fun hP => rshift_int hn (hP _ _ (.int ..))) h
theorem PV.iadd {a b : Int} (h : Q (.int (a + b)) σ) : PV κ (t2 (inplaceOp .Add)) [.int a, .int b] Q σ := .ii (fun hP => iadd_int (hP _ _ (.int ..))) h
theorem PV.isub {a b : Int} (h : Q (.int (a - b)) σ) : PV κ (t2 (inplaceOp .Sub)) [.int a, .int b] Q σ := .ii (fun hP => isub_int (hP _ _ (.int ..))) h
theorem PV.imul {a b : Int} (hm : IntMulOk a b) (h : Q (.int (a * b)) σ) : PV κ (t2 (inplaceOp .Mult)) [.int a, .int b] Q σ := .ii (fun hP => imul_int (hP _ _ (.int ..)) hm) h
theorem PV.lt {a b : Int} (h : Q (.bool (decide (a < b))) σ) : PV κ (t2 (compareOp .Lt)) [.int a, .int b] Q σ := .ii (fun hP => lt_int (hP _ _ (.bool _))) h
theorem PV.le {a b : Int} (h : Q (.bool (decide (a ≤ b))) σ) : PV κ (t2 (compareOp .LtE)) [.int a, .int b] Q σ := .ii (fun hP => le_int (hP _ _ (.bool _))) h
theorem PV.gt {a b : Int} (h : Q (.bool (decide (b < a))) σ) : PV κ (t2 (compareOp .Gt)) [.int a, .int b] Q σ := .ii (fun hP => gt_int (hP _ _ (.bool _))) h
theorem PV.ge {a b : Int} (h : Q (.bool (decide (b ≤ a))) σ) : PV κ (t2 (compareOp .GtE)) [.int a, .int b] Q σ := .ii (fun hP => ge_int (hP _ _ (.bool _))) h
theorem PV.ne {a b : Int} (h : Q (.bool (!decide (a = b))) σ) : PV κ (t2 (compareOp .NotEq)) [.int a, .int b] Q σ := .ii (fun hP => ne_int (hP _ _ (by rw [show (a != b) = !decide (a = b) from rfl]; exact .bool _))) h
theorem PV.neg {a : Int} (h : Q (.int (-a)) σ) : PV κ (t1 (unaryOp .USub)) [.int a] Q σ := .ret (fun A s rs q_ hv P E hP => by obtain ⟨t, rfl⟩ := hv.intI; exact neg_int (hP _ _ (.int ..))) h
theorem PV.not {b : Bool} (h : Q (.bool (!b)) σ) : PV κ (t1 (unaryOp .Not)) [.bool b] Q σ := .ret (fun A s rs q_ hv P E hP => by
  obtain ⟨r, rfl, hr⟩ := hv.one
  rw [hr.bool_inv]
  exact not_of (wpAny_truthy_bool (hP _ s.toks (.bool _)))) h
end
end Mn
set_option genInjectivity false
namespace Mn
open PySem.SeqAt

open Classical in
noncomputable def veq (a b : V) : Bool := decide (a = b)
theorem veq_iff {a b : V} : veq a b = true ↔ a = b := by unfold veq; exact @decide_eq_true_iff _ (Classical.propDecidable _)
theorem veq_dec {a b : V} {p : Prop} [Decidable p] (h : a = b ↔ p) : veq a b = decide p := by rw [Bool.eq_iff_iff, veq_iff, decide_eq_true_iff]; exact h
inductive Cq : Nat → V → V → Prop
  | nn {n} : Cq n .none .none
  | bb {n} (a b) : Cq n (.bool a) (.bool b)
  | ii {n} (a b) : Cq n (.int a) (.int b)
  | ss {n} (a b) : Cq n (.str a) (.str b)
  | yy {n} (a b) : Cq n (.bytes a) (.bytes b)
  | iy {n} (a b) : Cq n (.int a) (.bytes b)
  | yi {n} (a b) : Cq n (.bytes a) (.int b)
  | tt {n a b} (h : ∀ (i : Nat) x y, a[i]? = some x → b[i]? = some y → Cq n x y) : Cq (n + 1) (.tup a) (.tup b)
noncomputable def CqL (n : Nat) (a b : List V) : Prop := ∀ (i : Nat) x y, a[i]? = some x → b[i]? = some y → Cq n x y
theorem CqL.l {n b} : CqL n [] b := fun i q_ q_ e => nomatch e
theorem CqL.cons {n a b r s} (h : Cq n a b) (t : CqL n r s) : CqL n (a :: r) (b :: s)
  | 0, _, _, e, e' => by cases e; cases e'; exact h
  | i + 1, _, _, e, e' => t i _ _ e e'
theorem Cq.same {h : Heap} {n : Nat} {x y : V} {r : Value} (c : Cq n x y) : VRel h x r → VRel h y r → x = y := by
  induction c generalizing r with
  | nn => intro _ _; rfl
  | bb a b => intro hx hy; rw [hx.bool_inv] at hy; cases hy.bool_inv; rfl
  | ii a b => intro hx hy; obtain ⟨t, rfl⟩ := hx.int_inv; obtain ⟨u, e⟩ := hy.int_inv; cases e; rfl
  | ss a b => intro hx hy; obtain ⟨t, rfl⟩ := hx.str_inv; obtain ⟨u, e⟩ := hy.str_inv; cases e; rfl
  | yy a b => intro hx hy; obtain ⟨t, rfl⟩ := hx.bytes_inv; obtain ⟨u, e⟩ := hy.bytes_inv; cases e; rfl
  | iy a b => intro hx hy; obtain ⟨t, rfl⟩ := hx.int_inv; obtain ⟨u, e⟩ := hy.bytes_inv; cases e
  | yi a b => intro hx hy; obtain ⟨t, rfl⟩ := hx.bytes_inv; obtain ⟨u, e⟩ := hy.int_inv; cases e
  | tt _ ih =>
    intro hx hy
    obtain ⟨a, vs, ⟨o, ho, _, n, hd⟩, hl⟩ := hx.tup_inv
    generalize hr : Value.ref a = r at hy
    obtain ⟨a', vs', ⟨o', ho', _, n', hd'⟩, hl'⟩ := hy.tup_inv
    cases hr
    rw [ho] at ho'; cases ho'
    rw [hd] at hd'; cases hd'
    congr 1
    refine List.ext_getElem (hl.length.symm.trans hl'.length) fun i h1 h2 => ?_
    obtain ⟨q, hq, hv⟩ := hl.get (List.getElem?_eq_getElem h1)
    exact ih i _ _ (List.getElem?_eq_getElem h1) (List.getElem?_eq_getElem h2) hv (hl'.at' i _ _ (List.getElem?_eq_getElem h2) hq)
theorem Cq.fn {h : Heap} {n : Nat} {y y' x : V} {r : Value} (c : Cq n y x) (c' : Cq n y' x) (hy : VRel h y r) (hy' : VRel h y' r) : veq y x = veq y' x := by
  rw [Bool.eq_iff_iff, veq_iff, veq_iff]
  exact ⟨fun e => c'.same hy' (e ▸ hy), fun e => c.same hy (e ▸ hy')⟩

theorem bytes_eq_int_0 (a : Array UInt8) (t : Tok) (b : Int) (u : Tok) : Gives (Builtin.«bytes.__eq__» ⟨[.bytes a t, .int b u], []⟩) (.val (Value.notImplemented)) := by
  refine .of_wp fun M A E s Q hq => ?_
  have e : Builtin.«bytes.__eq__» ⟨[.bytes a t, .int b u], []⟩ = (do
      let r ← isInstance (Value.int b u) (Value.type "bytes")
      if (!r) = true then do
          rule (toString "bytes." ++ toString "__eq__" ++ toString ".declined")
          ret Value.notImplemented
        else do
          let x ← Builtin.Bytes.payload (Value.bytes a t)
          let y ← Builtin.Bytes.payload (Value.int b u)
          ret (Value.bool (Builtin.Bytes.holds "__eq__" (Builtin.Bytes.order x.toList y.toList)))) := rfl
  rw [e]
  refine wpAny_bind (wpAny_isInstance (U := "bytes") (b := false) (typeIs_int s b u) (by rw [isSubtype_type]; kernel_rfl) ?_)
  exact wpAny_bind (wpAny_rule (wpAny_pure ⟨_, rfl, hq⟩))
theorem int_eq_bytes_0 (a : Int) (t : Tok) (b : Array UInt8) (u : Tok) : Gives (Builtin.«int.__eq__» ⟨[.int a t, .bytes b u], []⟩) (.val (Value.notImplemented)) :=
  .of_wp fun M A E s Q h => by obtain ⟨hp, g, d, tk, os⟩ := s; wp_walk; exact ⟨_, rfl, h⟩
section
variable {A : Around} {s : Shared}
theorem rc_bytes_int (a : Array UInt8) (t : Tok) (b : Int) (u : Tok) : RcAt A s (.bytes a t) (.int b u) false := fun prog w E Q h =>
  rc_eq_decline_or (k := false) (typeIs_bytes s a t) (typeIs_int s b u) (by decide) (by rw [isSubtype_type]; kernel_rfl) FB.slot_bytes_eq F.slot_int_eq_refl
    (fun q_ hq => call_gives FB.slot_bytes_eq (typeIs_bytes s a t) FB.entry_bytes_eq (FB.args_bytes_eq_2 _ _) (bytes_eq_int_0 a t b u) hq)
    (fun q_ hq => call_gives F.slot_int_eq_refl (typeIs_int s b u) F.entry_int_eq (F.args_int_eq_2 _ _) (int_eq_bytes_0 b u a t) hq)
    (fun q_ hq => wpAny_of_eq (rfl : isSame (.bytes a t) (.int b u) = pure false) hq) (.inl rfl) h
theorem rc_int_bytes (b : Int) (u : Tok) (a : Array UInt8) (t : Tok) : RcAt A s (.int b u) (.bytes a t) false := fun prog w E Q h =>
  rc_eq_decline_or (k := false) (typeIs_int s b u) (typeIs_bytes s a t) (by decide) (by rw [isSubtype_type]; kernel_rfl) F.slot_int_eq FB.slot_bytes_eq
    (fun q_ hq => call_gives F.slot_int_eq (typeIs_int s b u) F.entry_int_eq (F.args_int_eq_2 _ _) (int_eq_bytes_0 b u a t) hq)
    (fun q_ hq => call_gives FB.slot_bytes_eq (typeIs_bytes s a t) FB.entry_bytes_eq (FB.args_bytes_eq_2 _ _) (bytes_eq_int_0 a t b u) hq)
    (fun q_ hq => wpAny_of_eq (rfl : isSame (.int b u) (.bytes a t) = pure false) hq) (.inl rfl) h
theorem rc_bytes (a : Array UInt8) (t : Tok) (b : Array UInt8) (u : Tok) : RcAt A s (.bytes a t) (.bytes b u) (a.toList == b.toList) := fun prog w E Q h =>
  richCompare_gives (typeIs_bytes s a t) (typeIs_bytes s b u) FB.slot_bytes_eq FB.entry_bytes_eq (FB.args_bytes_eq_2 _ _) (gives_bytes_eq a b t u) (by simp [Made.takes]) h
set_option tactic.hygienic true in
theorem eq_of_rc {x y : Value} {k : Bool} (h : RcAt A s x y k) (hn : ∀ a b t u, ¬ (x = .float a t ∧ y = .float b u)) (hs : x = y → k = true) : EqAt A s x y k := fun prog w E Q q => by
  unfold eqBool
  refine wpAny_holding (wpAny_ite_split (fun hab => ?_) fun _ => ?_)
  · rw [hs (eq_of_beq hab)] at q
    exact wpAny_bind (wpAny_rule (wpAny_pure q))
  · split
    · rename_i a t b u e
      simp only [Prod.mk.injEq] at e
      exact absurd e (hn a b t u)
    · exact wpAny_bind (h prog w E _ (wpAny_truthy_bool q))
theorem all_range {x y : List V} {P : Nat → Bool} {n : Nat} (hn : n ≤ x.length) (hm : n ≤ y.length) (hP : ∀ i, i < n → (P i = true ↔ x[i]? = y[i]?)) : (List.range n).all P = true ↔ x.take n = y.take n := by
  rw [List.all_eq_true]
  constructor
  · intro h
    refine List.ext_getElem? fun i => ?_
    by_cases z : i < n
    · rw [List.getElem?_take_of_lt z, List.getElem?_take_of_lt z]; exact (hP i z).mp (h i (List.mem_range.mpr z))
    · rw [List.getElem?_take_eq_none (by lia), List.getElem?_take_eq_none (by lia)]
  · intro h i hi
    have z := List.mem_range.mp hi
    refine (hP i z).mpr ?_
    rw [← List.getElem?_take_of_lt z, h, List.getElem?_take_of_lt z]
noncomputable def eqAtI (x y : List V) (i : Nat) : Bool := veq (x.getD i .none) (y.getD i .none)
theorem eqAtI_iff {x y : List V} {i : Nat} (h1 : i < x.length) (h2 : i < y.length) : eqAtI x y i = true ↔ x[i]? = y[i]? := by
  unfold eqAtI
  rw [veq_iff, List.getElem?_eq_getElem h1, List.getElem?_eq_getElem h2, Option.some.injEq, List.getD_eq_getElem?_getD, List.getD_eq_getElem?_getD, List.getElem?_eq_getElem h1, List.getElem?_eq_getElem h2]
  rfl
theorem eq_min (x y : List V) : ((List.range (min x.length y.length)).all (eqAtI x y) && x.length == y.length) = veq (.tup x) (.tup y) := by
  rw [Bool.eq_iff_iff, Bool.and_eq_true, veq_iff, beq_iff_eq, all_range (x := x) (y := y) (Nat.min_le_left ..) (Nat.min_le_right ..) fun i h => eqAtI_iff (by lia) (by lia)]
  constructor
  · rintro ⟨h, e⟩
    rw [← e, Nat.min_self, List.take_length] at h
    rw [h, e, List.take_length]
  · intro h; cases h; exact ⟨rfl, rfl⟩
theorem EqAt.items {x y : List V} {vs ws : Array Value} (h : ∀ (i : Nat) a b, x[i]? = some a → y[i]? = some b → ∀ {ra rb}, VRel s.heap a ra → VRel s.heap b rb → EqAt A s ra rb (veq a b)) (hx : VsRel s.heap x vs.toList) (hy : VsRel s.heap y ws.toList) :
    ∀ j (h1 : j < vs.size) (h2 : j < ws.size), EqAt A s vs[j] ws[j] (eqAtI x y j) := fun j h1 h2 => by
  have l1 := hx.length; have l2 := hy.length
  rw [Array.length_toList] at l1 l2
  have e1 : x[j]? = some x[j] := List.getElem?_eq_getElem (by omega)
  have e2 : y[j]? = some y[j] := List.getElem?_eq_getElem (by omega)
  unfold eqAtI
  rw [List.getD_eq_getElem?_getD, List.getD_eq_getElem?_getD, e1, e2]
  exact h j _ _ e1 e2 (hx.at' j _ _ e1 (by rw [Array.getElem?_toList]; exact Array.getElem?_eq_getElem h1)) (hy.at' j _ _ e2 (by rw [Array.getElem?_toList]; exact Array.getElem?_eq_getElem h2))
theorem Cq.rc {n : Nat} {x y : V} (c : Cq n x y) : ∀ {rx ry : Value} {A : Around}, VRel s.heap x rx → VRel s.heap y ry → A.units + n < cLine → RcAt A s rx ry (veq x y) := by
  induction c with
  | nn => intro rx ry A hx hy _; rw [hx.none_inv, hy.none_inv, show veq .none .none = true from veq_iff.mpr rfl]; exact RcAt.none_none
  | bb a b => intro rx ry A hx hy _; rw [hx.bool_inv, hy.bool_inv, show veq (.bool a) (.bool b) = (a == b) by rw [Bool.eq_iff_iff, veq_iff, beq_iff_eq, V.bool.injEq]]; exact RcAt.bool_bool a b
  | ii a b => intro rx ry A hx hy _; obtain ⟨t, rfl⟩ := hx.int_inv; obtain ⟨u, rfl⟩ := hy.int_inv; rw [show veq (.int a) (.int b) = (a == b) by rw [Bool.eq_iff_iff, veq_iff, beq_iff_eq, V.int.injEq]]; exact RcAt.int_int a t b u
  | ss a b => intro rx ry A hx hy _; obtain ⟨t, rfl⟩ := hx.str_inv; obtain ⟨u, rfl⟩ := hy.str_inv; rw [show veq (.str a) (.str b) = (a == b) by rw [Bool.eq_iff_iff, veq_iff, beq_iff_eq, V.str.injEq]]; exact RcAt.str_str a t b u
  | yy a b => intro rx ry A hx hy _; obtain ⟨t, rfl⟩ := hx.bytes_inv; obtain ⟨u, rfl⟩ := hy.bytes_inv; rw [show veq (.bytes a) (.bytes b) = (a.toList == b.toList) by rw [Bool.eq_iff_iff, veq_iff, beq_iff_eq, V.bytes.injEq, Array.toList_inj]]; exact rc_bytes a t b u
  | iy a b => intro rx ry A hx hy _; obtain ⟨t, rfl⟩ := hx.int_inv; obtain ⟨u, rfl⟩ := hy.bytes_inv; rw [show veq (.int a) (.bytes b) = false from Bool.eq_false_iff.mpr fun e => nomatch veq_iff.mp e]; exact rc_int_bytes a t b u
  | yi a b => intro rx ry A hx hy _; obtain ⟨t, rfl⟩ := hx.bytes_inv; obtain ⟨u, rfl⟩ := hy.int_inv; rw [show veq (.bytes a) (.int b) = false from Bool.eq_false_iff.mpr fun e => nomatch veq_iff.mp e]; exact rc_bytes_int a t b u
  | @tt n a b h ih =>
    intro rx ry A hx hy hu
    obtain ⟨a1, vs, ht, hl⟩ := hx.tup_inv
    obtain ⟨a2, ws, ht', hl'⟩ := hy.tup_inv
    have l1 := hl.length; have l2 := hl'.length
    rw [Array.length_toList] at l1 l2
    rw [← eq_min, ← l1, ← l2]
    refine RcAt.tuples ht ht' (by lia) (EqAt.items (fun i p q e e' ra rb ha hb => eq_of_rc (ih i p q e e' ha hb (by show A.units + 1 + n < cLine; lia)) (fun q_ q_ q_ q_ z => ?_) fun z => ?_) hl hl')
    · rw [z.1] at ha; cases ha
    · rw [← z] at hb; exact veq_iff.mpr ((h i p q e e').same ha hb)
theorem Cq.eqb {n : Nat} {x y : V} {rx ry : Value} {A : Around} (c : Cq n x y) (hx : VRel s.heap x rx) (hy : VRel s.heap y ry) (hu : A.units + n < cLine) : EqAt A s rx ry (veq x y) :=
  eq_of_rc (c.rc hx hy hu) (fun a b t u e => by rw [e.1] at hx; cases hx) fun e => by rw [← e] at hy; exact veq_iff.mpr (c.same hx hy)
end
section
variable {κ : Cx} {σ : MH} {Q : V → MH → Prop}
theorem PV.eq {n a b} (c : Cq n a b) (hn : n ≤ 100) (h : Q (.bool (veq a b)) σ) : PV κ (t2 (compareOp .Eq)) [a, b] Q σ := .ret (fun A s rs G hv P E hP => by
  obtain ⟨ra, rb, rfl, ha, hb⟩ := hv.two
  exact c.rc ha hb (by have := G.units; show A.units + n < 9900; lia) κ.φ.g.prog κ.φ.g.w _ _ (hP _ s.toks (.bool _))) h
end
end Mn
set_option genInjectivity false
namespace Mn
open PySem.SeqAt

noncomputable def BRel (_ : Heap) (b a : Bool) : Prop := b = a
noncomputable def WB (κ : Cx) (e : PySem.Expr) (Q : Bool → Loc → MH → Prop) (l : Loc) (σ : MH) : Prop :=
  ∀ A s δ, Good κ A → FS κ.φ l σ δ s → At BRel κ A (isTrue e κ.φ.f.env (eval e κ.φ.f.env)) Q σ δ s
inductive asB (Q : Bool → Prop) : V → Prop
  | mk (b : Bool) (h : Q b) : asB Q (.bool b)
noncomputable def brk2 (P R : Prop) : Bool → Prop
  | true => P
  | false => R

section
variable {κ : Cx} {l : Loc} {σ : MH} {Q : V → Loc → MH → Prop} {P : Bool → Loc → MH → Prop}
theorem truthy_b {A s δ v r} (F : FS κ.φ l σ δ s) (hR : VRel s.heap v r) (h : asB (fun b => P b l σ) v) : At BRel κ A (truthy r) P σ δ s := by
  cases h with
  | mk b h => rw [hR.bool_inv]; exact wpAny_truthy_bool (Ok.here F rfl h)
theorem WE.cmp1 {e1 op e2 pos} (h : WE κ e1 (fun a l1 σ1 => WE κ e2 (fun b l2 σ2 => PV κ (t2 (compareOp op)) [a, b] (fun v σ3 => Q v l2 σ3) σ2) l1 σ1) l σ) (hm : behindInMarks op e2 = false) :
    WE κ (.Compare e1 [op] [e2] pos) Q l σ := fun A s δ G F => by
  rw [eval_Compare1, markedBehindIn_of_false hm]
  exact At.bind (h A s δ G F) fun a ra l1 σ1 δ1 s1 hR F1 E1 q1 => At.bind (At.holding (q1 A s1 δ1 G F1)) fun b rb l2 σ2 δ2 s2 hR2 F2 E2 q2 => At.standAt (At.operate (q2.run G F2 (.cons (hR.evo F1 E2) (.cons hR2 .nil))))
theorem WB.cmp1 {e1 op e2 pos} (h : WE κ e1 (fun a l1 σ1 => WE κ e2 (fun b l2 σ2 => PV κ (t2 (compareOp op)) [a, b] (fun v σ3 => asB (fun b => P b l2 σ3) v) σ2) l1 σ1) l σ) (hm : behindInMarks op e2 = false) :
    WB κ (.Compare e1 [op] [e2] pos) P l σ := fun A s δ G F => by
  rw [isTrue_Compare1, markedBehindIn_of_false hm]
  exact At.bind (h A s δ G F) fun a ra l1 σ1 δ1 s1 hR F1 E1 q1 => At.bind (At.holding (q1 A s1 δ1 G F1)) fun b rb l2 σ2 δ2 s2 hR2 F2 E2 q2 => At.standAt
    (At.bind (At.operate (q2.run (Q := fun v l σ => asB (fun b => P b l σ) v) G F2 (.cons (hR.evo F1 E2) (.cons hR2 .nil)))) fun c rc l3 σ3 δ3 s3 hR3 F3 E3 q3 => At.holding (truthy_b F3 hR3 q3))
theorem At.release {α β : Type} {R : Heap → β → α → Prop} {A s δ} {vs ks : List Value} {k : Unit → Sem α} {Q : β → Loc → MH → Prop} (h : At R κ A (k ()) Q σ δ s) : At R κ A (release vs ks >>= k) Q σ δ s :=
  wpAny_bind (wpAny_release h)
theorem At.ite {α β : Type} {R : Heap → β → α → Prop} {A s δ} {b : Bool} {x y : Sem α} {Q : β → Loc → MH → Prop} (h1 : b = true → At R κ A x Q σ δ s) (h2 : b = false → At R κ A y Q σ δ s) :
    At R κ A (if b = true then x else y) Q σ δ s := by
  cases b
  · exact h2 rfl
  · exact h1 rfl
theorem chain2 {α β : Type} {R : Heap → β → α → Prop} {e1 op1 e2 pos} {A s δ} {Q : β → Loc → MH → Prop} {k : Value → Sem α} {z : Value → Sem α} {N : V → Loc → MH → Prop} {Z : Loc → MH → Prop} (G : Good κ A) (F : FS κ.φ l σ δ s)
    (h : WE κ e1 (fun a l1 σ1 => WE κ e2 (fun b l2 σ2 => PV κ (t2 (compareOp op1)) [a, b] (fun v σ3 => asB (brk2 (N b l2 σ3) (Z l2 σ3)) v) σ2) l1 σ1) l σ)
    (hk : ∀ b rb l1 σ1 δ1 s1, VRel s1.heap b rb → FS κ.φ l1 σ1 δ1 s1 → N b l1 σ1 → At R κ A (k rb) Q σ1 δ1 s1) (hz : ∀ rc l1 σ1 δ1 s1, VRel s1.heap (.bool false) rc → FS κ.φ l1 σ1 δ1 s1 → Z l1 σ1 → At R κ A (z rc) Q σ1 δ1 s1) :
    At R κ A (do
      let a ← eval e1 κ.φ.f.env
      let b ← holding [a] (eval e2 κ.φ.f.env)
      standAt pos
      let c ← holding [a, b] (compareOp op1 a b)
      release [a, b] [c]
      if ← holding [c, b] (truthy c) then k b else z c) Q σ δ s := by
  refine At.bind (h A s δ G F) fun a ra l1 σ1 δ1 s1 hR F1 E1 q1 => At.bind (At.holding (q1 A s1 δ1 G F1)) fun b rb l2 σ2 δ2 s2 hR2 F2 E2 q2 => At.standAt
    (At.bind (At.holding (q2.run (Q := fun v l3 σ3 => asB (brk2 (N b l3 σ3) (Z l3 σ3)) v) G F2 (.cons (hR.evo F1 E2) (.cons hR2 .nil)))) fun c rc l3 σ3 δ3 s3 hR3 F3 E3 q3 => At.release ?_)
  cases q3 with
  | mk cb q3 =>
    refine At.bind (R := BRel) (Q := fun b' l' σ' => brk2 (N b l' σ') (Z l' σ') b' ∧ b' = cb) (At.holding (truthy_b F3 hR3 (.mk cb ⟨q3, rfl⟩))) fun b' b'' l4 σ4 δ4 s4 hb F4 E4 q4 => ?_
    obtain ⟨q4, rfl⟩ := q4
    cases hb
    refine At.ite (fun e => ?_) fun e => ?_ <;> subst e
    · exact hk _ _ _ _ _ _ ((hR2.evo F2 E3).evo F3 E4) F4 q4
    · exact hz _ _ _ _ _ (hR3.evo F3 E4) F4 q4
theorem WB.cmp2 {e1 op1 op2 e2 e3 pos}
    (h : WE κ e1 (fun a l1 σ1 => WE κ e2 (fun b l2 σ2 => PV κ (t2 (compareOp op1)) [a, b] (fun v σ3 => asB (brk2 (WE κ e3 (fun v l4 σ4 => PV κ (t2 (compareOp op2)) [b, v] (fun v σ5 => asB (fun b => P b l4 σ5) v) σ4) l2 σ3) (P false l2 σ3)) v) σ2) l1 σ1) l σ)
    (hm : behindInMarks op2 e3 = false) : WB κ (.Compare e1 [op1, op2] [e2, e3] pos) P l σ := fun A s δ G F => by
  show At BRel κ A (eval e1 κ.φ.f.env >>= fun a => testChain pos a [op1, op2] [eval e2 κ.φ.f.env, markedBehindIn op2 e3 (eval e3 κ.φ.f.env)]) P σ δ s
  rw [markedBehindIn_of_false hm]
  exact chain2 (N := fun b l2 σ3 => WE κ e3 (fun v l4 σ4 => PV κ (t2 (compareOp op2)) [b, v] (fun v σ5 => asB (fun b => P b l4 σ5) v) σ4) l2 σ3) (Z := fun l σ => P false l σ) (k := fun b => do
      let rv ← holding [b] (eval e3 κ.φ.f.env)
      standAt pos
      let c ← operate [b, rv] (compareOp op2 b rv)
      holding [c] (truthy c)) (z := fun q_ => pure false) G F h (fun b rb l4 σ4 δ4 s4 hR F4 q => At.bind (At.holding (q A s4 δ4 G F4)) fun v rv l5 σ5 δ5 s5 hR5 F5 E5 q5 => At.standAt
        (At.bind (At.operate (q5.run (Q := fun v l σ => asB (fun b => P b l σ) v) G F5 (.cons (hR.evo F4 E5) (.cons hR5 .nil)))) fun c rc l6 σ6 δ6 s6 hR6 F6 E6 q6 => At.holding (truthy_b F6 hR6 q6)))
    fun rc l4 σ4 δ4 s4 hR F4 q => At.pure F4 rfl q

theorem WB.val {e : PySem.Expr} (he : ∀ env whole, isTrue e env whole = (do let v ← whole; standAt e.pos; holding [v] (truthy v))) (h : WE κ e (fun v l1 σ1 => asB (fun b => P b l1 σ1) v) l σ) : WB κ e P l σ := fun A s δ G F => by
  rw [he]
  exact At.bind (h A s δ G F) fun a ra l1 σ1 δ1 s1 hR F1 E1 q1 => At.standAt (At.holding (truthy_b F1 hR q1))
theorem WB.not {e p} (h : WB κ e (fun b l1 σ1 => P (!b) l1 σ1) l σ) : WB κ (.UnaryOp .Not e p) P l σ := fun A s δ G F => by
  show At BRel κ A (isTrue e κ.φ.f.env (eval e κ.φ.f.env) >>= fun b => pure (!b)) P σ δ s
  refine At.bind (h A s δ G F) fun a ra l1 σ1 δ1 s1 hR F1 E1 q1 => ?_
  cases hR
  exact At.pure F1 rfl q1
noncomputable def WAll (κ : Cx) (op : BoolOp) (es : List PySem.Expr) (P : Bool → Loc → MH → Prop) (l : Loc) (σ : MH) : Prop :=
  ∀ A s δ, Good κ A → FS κ.φ l σ δ s → At BRel κ A (allTrue op es κ.φ.f.env) P σ δ s
theorem WAll.andN (h : P true l σ) : WAll κ .And [] P l σ := fun q_ q_ q_ q_ F => wpAny_allTrue_And_nil (Ok.here F rfl h)
theorem WAll.orN (h : P false l σ) : WAll κ .Or [] P l σ := fun q_ q_ q_ q_ F => wpAny_allTrue_Or_nil (Ok.here F rfl h)
theorem WAll.andC {a es} (h : WB κ a (fun x l1 σ1 => brk2 (WAll κ .And es P l1 σ1) (P false l1 σ1) x) l σ) : WAll κ .And (a :: es) P l σ := fun A s δ G F => by
  refine wpAny_allTrue_And_cons (wpAny_mono (h A s δ G F) (fun x s1 ⟨x', l1, σ1, δ1, hR, F1, E1, q1⟩ => ?_) fun q_ q_ e => e)
  cases hR
  cases x
  · exact ⟨_, l1, σ1, δ1, rfl, F1, E1, q1⟩
  · exact wpAny_mono ((show WAll κ .And es P l1 σ1 from q1) A s1 δ1 G F1) (fun y s2 ⟨y', l2, σ2, δ2, hR2, F2, E2, q2⟩ => ⟨y', l2, σ2, δ2, hR2, F2, E1.trans E2, q2⟩) fun q_ q_ e => e.trans E1
theorem WAll.orC {a es} (h : WB κ a (fun x l1 σ1 => brk2 (P true l1 σ1) (WAll κ .Or es P l1 σ1) x) l σ) : WAll κ .Or (a :: es) P l σ := fun A s δ G F => by
  refine wpAny_allTrue_Or_cons (wpAny_mono (h A s δ G F) (fun x s1 ⟨x', l1, σ1, δ1, hR, F1, E1, q1⟩ => ?_) fun q_ q_ e => e)
  cases hR
  cases x
  · exact wpAny_mono ((show WAll κ .Or es P l1 σ1 from q1) A s1 δ1 G F1) (fun y s2 ⟨y', l2, σ2, δ2, hR2, F2, E2, q2⟩ => ⟨y', l2, σ2, δ2, hR2, F2, E1.trans E2, q2⟩) fun q_ q_ e => e.trans E1
  · exact ⟨_, l1, σ1, δ1, rfl, F1, E1, q1⟩
theorem WB.all {op es p} (h : WAll κ op es P l σ) : WB κ (.BoolOp op es p) P l σ := fun A s δ G F => wpAny_isTrue_BoolOp (h A s δ G F)

noncomputable def WBo (κ : Cx) (op : BoolOp) (es : List PySem.Expr) (P : V → Loc → MH → Prop) (l : Loc) (σ : MH) : Prop :=
  ∀ A s δ p, Good κ A → FS κ.φ l σ δ s → At VRel κ A (boolOp p op (evalEach es κ.φ.f.env)) P σ δ s
theorem WBo.last {op a} (h : WE κ a Q l σ) : WBo κ op [a] Q l σ := fun A s δ p G F => by
  show At VRel κ A (boolOp p op [eval a κ.φ.f.env]) Q σ δ s
  exact h A s δ G F
theorem bo_step {z : Bool} {a : PySem.Expr} {p : Pos} {A s δ} {t : Sem Value} {Q' : V → Loc → MH → Prop} (G : Good κ A) (F : FS κ.φ l σ δ s) (h : WE κ a (fun v l1 σ1 => asB (fun b => if b = z then Q (.bool b) l1 σ1 else Q' (.bool b) l1 σ1) v) l σ)
    (hk : ∀ b l1 σ1 δ1 s1, FS κ.φ l1 σ1 δ1 s1 → Q' b l1 σ1 → At VRel κ A t Q σ1 δ1 s1) :
    At VRel κ A (do
      let v ← eval a κ.φ.f.env
      standAt p
      let t' ← holding [v] (truthy v)
      if (t' == z) = true then pure v else t) Q σ δ s := by
  refine At.bind (h A s δ G F) fun v rv l1 σ1 δ1 s1 hR F1 E1 q1 => At.standAt ?_
  cases q1 with
  | mk c q1 =>
    refine At.bind (R := BRel) (Q := fun b l' σ' => b = c ∧ (if c = z then Q (.bool c) l' σ' else Q' (.bool c) l' σ')) (At.holding (truthy_b F1 hR (.mk c ⟨rfl, q1⟩))) fun t t' l2 σ2 δ2 s2 hR2 F2 E2 q2 => ?_
    cases hR2
    obtain ⟨rfl, q2⟩ := q2
    refine At.ite (fun e => ?_) fun e => ?_
    · rw [if_pos (eq_of_beq e)] at q2; exact At.pure F2 (hR.evo F1 E2) q2
    · rw [if_neg (ne_of_beq_false e)] at q2; exact hk _ _ _ _ _ F2 q2
theorem WBo.andC {a b es} (h : WE κ a (fun v l1 σ1 => asB (fun c => if c = false then Q (.bool c) l1 σ1 else WBo κ .And (b :: es) Q l1 σ1) v) l σ) : WBo κ .And (a :: b :: es) Q l σ := fun A s δ p G F => by
  have e : boolOp p .And (evalEach (a :: b :: es) κ.φ.f.env) = (do
      let v ← eval a κ.φ.f.env
      standAt p
      let t' ← holding [v] (truthy v)
      if (t' == false) = true then pure v else boolOp p .And (evalEach (b :: es) κ.φ.f.env)) := by
    show (eval a κ.φ.f.env >>= fun v => standAt p >>= fun q_ => holding [v] (truthy v) >>= fun t => _) = _
    refine congrArg _ (funext fun v => congrArg _ (funext fun q_ => congrArg _ (funext fun t => ?_)))
    cases t <;> rfl
  rw [e]
  exact bo_step (Q' := fun q_ => WBo κ .And (b :: es) Q) G F h fun q_ l1 σ1 δ1 s1 F1 q => q A s1 δ1 p G F1
theorem WBo.orC {a b es} (h : WE κ a (fun v l1 σ1 => asB (fun c => if c = true then Q (.bool c) l1 σ1 else WBo κ .Or (b :: es) Q l1 σ1) v) l σ) : WBo κ .Or (a :: b :: es) Q l σ := fun A s δ p G F => by
  have e : boolOp p .Or (evalEach (a :: b :: es) κ.φ.f.env) = (do
      let v ← eval a κ.φ.f.env
      standAt p
      let t' ← holding [v] (truthy v)
      if (t' == true) = true then pure v else boolOp p .Or (evalEach (b :: es) κ.φ.f.env)) := by
    show (eval a κ.φ.f.env >>= fun v => standAt p >>= fun q_ => holding [v] (truthy v) >>= fun t => _) = _
    refine congrArg _ (funext fun v => congrArg _ (funext fun q_ => congrArg _ (funext fun t => ?_)))
    cases t <;> rfl
  rw [e]
  exact bo_step (Q' := fun q_ => WBo κ .Or (b :: es) Q) G F h fun q_ l1 σ1 δ1 s1 F1 q => q A s1 δ1 p G F1
theorem WE.bo {op es p} (h : WBo κ op es Q l σ) : WE κ (.BoolOp op es p) Q l σ := fun A s δ G F => by
  rw [arm_eval_BoolOp]
  exact h A s δ p G F
theorem WE.ifexp {t b o pos} (h : WB κ t (fun c l1 σ1 => brk2 (WE κ b Q l1 σ1) (WE κ o Q l1 σ1) c) l σ) : WE κ (.IfExp t b o pos) Q l σ := fun A s δ G F => by
  show At VRel κ A (isTrue t κ.φ.f.env (eval t κ.φ.f.env) >>= fun c => if c = true then eval b κ.φ.f.env else eval o κ.φ.f.env) Q σ δ s
  refine At.bind (h A s δ G F) fun c c' l1 σ1 δ1 s1 hR F1 E1 q1 => ?_
  cases hR
  refine At.ite (fun e => ?_) fun e => ?_ <;> subst e
  · exact (show WE κ b Q l1 σ1 from q1) A s1 δ1 G F1
  · exact (show WE κ o Q l1 σ1 from q1) A s1 δ1 G F1
end
end Mn
set_option genInjectivity false
namespace Mn
open PySem.SeqAt

noncomputable def But (c : Addr) (h h' : Heap) : Prop := ∀ b o, h.get? b = some o → b ≠ c → h'.get? b = some o
noncomputable def NoTup (h : Heap) (c : Addr) : Prop := ∀ o, h.get? c = some o → ¬ IsTup o
section
variable {φ : Fx} {l l' : Loc} {σ σ' : MH} {δ δ' : DM} {s : Shared} {h h' : Heap} {c a : Addr}
theorem But.tups (k : But c h h') (n : NoTup h c) : ∀ b o, h.get? b = some o → IsTup o → h'.get? b = some o := fun b o e t => k b o e fun z => n o (z ▸ e) t
theorem But.cell {b v} (k : But c h h') (x : h.IsCell b v) (n : b ≠ c) : h'.IsCell b v := by
  obtain ⟨o, h1, h2⟩ := x
  exact ⟨o, k _ _ h1 n, h2⟩
theorem But.ns {b m} (k : But c h h') (x : h.Ns b m) (n : b ≠ c) : h'.Ns b m := by
  obtain ⟨o, es, ep, ho, r⟩ := x
  exact ⟨o, es, ep, k _ _ ho n, r⟩
theorem Slot.but {env : Env} {m x v} (k : But c h h') (t : NoTup h c) (hc : ∀ v, ¬ h.IsCell c v) (y : Slot env h m x v) : Slot env h' m x v := by
  cases y with
  | loc hk rv h1 h2 => exact .loc hk rv h1 (h2.mono (k.tups t))
  | cell hk b rv h1 h2 h3 => exact .cell hk b rv h1 (k.cell h2 fun z => hc _ (z ▸ h2)) (h3.mono (k.tups t))
theorem LocOk.but {env : Env} (x : LocOk env l h) (k : But c h h') (t : NoTup h c) (hl : env.locals ≠ c) (hc : ∀ v, ¬ h.IsCell c v) : LocOk env l h' := by
  obtain ⟨m, hm, hs, hce⟩ := x
  refine ⟨m, k.ns hm hl, fun y v e => (hs y v e).but k t hc, fun y b e e' => ?_⟩
  obtain ⟨v0, h2⟩ := hce y b e e'
  exact ⟨v0, k.cell h2 fun z => hc _ (z ▸ h2)⟩
theorem Rep.but {w : World} {o : O} (r : Rep w δ h a o) (k : But c h h') (t : NoTup h c) (ha : a ≠ c) (hd : ∀ d, δ d = some a → d ≠ c ∧ δ' d = some a) : Rep w δ' h' a o := by
  cases o with
  | inst C fs =>
    obtain ⟨ox, d, es, n, h1, h2, h3, h4, h5, h6, h7⟩ := r
    exact ⟨ox, d, es, n, k _ _ h1 ha, h2, h3, h4, (hd d h5).2, k _ _ h6 (hd d h5).1, h7.mono (k.tups t)⟩
  | list x => obtain ⟨vs, n, h1, h4⟩ := r; exact ⟨vs, n, k _ _ h1 ha, h4.mono (k.tups t)⟩
  | rlist x => obtain ⟨o, vs, n, h1, h2, h3, h4⟩ := r; exact ⟨o, vs, n, k _ _ h1 ha, h2, h3, h4.mono (k.tups t)⟩
  | dict P => obtain ⟨es, n, h1, h2, h3, h4⟩ := r; exact ⟨es, n, k _ _ h1 ha, h2.mono (k.tups t), h3, h4⟩
  | raw x => exact ⟨k _ _ r.1 ha, r.2⟩
  | lot x => exact k _ _ r ha
theorem AuxOk.but {d : Addr} (x : AuxOk σ h d a) (k : But c h h') (ha : a ≠ c) : AuxOk σ h' d a := by
  obtain ⟨q, q2, ox, q3, q4⟩ := x
  exact ⟨q, q2, ox, k _ _ q3 ha, q4⟩

noncomputable def Stays (φ : Fx) (h h' : Heap) (c : Addr) : Prop := (c ∈ φ.f.fa ∨ Fl φ.fl c) → ∀ o, h.get? c = some o → ∃ o', A3 (h'.get? c = some o') (¬ IsTup o') (∀ es n, o.data = .dict es n → StrKeys es → X2 fun es' n' => o'.data = .dict es' n' ∧ StrKeys es')
noncomputable def DomLe (σ : MH) (δ : DM) (h : Heap) (σ' : MH) (δ' : DM) : Prop := ∀ b, Dom σ' δ' b → Dom σ δ b ∨ h.get? b = none
noncomputable def OwnLe (σ : MH) (δ : DM) (h : Heap) (σ' : MH) (δ' : DM) : Prop := ∀ b, Own σ' δ' b → Own σ δ b ∨ h.get? b = none
theorem FS.chg {tk : Nat} (F : FS φ l σ δ s) (k : But c s.heap h') (hb0 : φ.g.base.get? c = none) (hs : Stays φ s.heap h' c) (dom : DomLe σ δ s.heap σ' δ') (own : OwnLe σ δ s.heap σ' δ')
    (rep : ∀ b o, σ' b = some o → Rep φ.g.w δ' h' b o) (aux : ∀ d b, δ' d = some b → AuxOk σ' h' d b) (loc : LocOk φ.f.env l' h') : FS φ l' σ' δ' { s with heap := h', toks := tk } := by
  have nd : ∀ b o, s.heap.get? b = some o → ¬ Dom σ δ b → ¬ Dom σ' δ' b := fun b o e n q => (dom b q).elim n (some_not_none e)
  refine ⟨⟨fun b o e => k b o (F.sim.keep b o e) fun z => some_not_none e (z ▸ hb0), rep, fun b q => ?_, aux⟩, F.envOk, loc, fun b hb => ?_, ⟨fun e he => ?_⟩, F.gens, F.os⟩
  · exact (own b q).elim (F.sim.new b) fun e => isNone_of fun y z => some_not_none (F.sim.keep b y z) e
  · obtain ⟨h1, h2, o, h3, h4⟩ := F.fa b hb
    by_cases z : b = c
    · subst z
      obtain ⟨o', h5, h6, _⟩ := hs (.inl hb) o h3
      exact ⟨h1, nd _ _ h3 h2, o', h5, h6⟩
    · exact ⟨h1, nd _ _ h3 h2, o, k _ _ h3 z, h4⟩
  · obtain ⟨kk, L, o, es, n, h1, h2, h3, h4, h5, h6, h7⟩ := F.fr.all e he
    by_cases z : L = c
    · subst z
      obtain ⟨o', h8, h9, hd⟩ := hs (.inr (List.mem_filterMap.mpr ⟨e, he, h1⟩)) o h4
      obtain ⟨es', n', h10, h11⟩ := hd es n h5 h7
      exact ⟨kk, L, o', es', n', h1, h2, nd _ _ h4 h3, h8, h10, h9, h11⟩
    · exact ⟨kk, L, o, es, n, h1, h2, nd _ _ h4 h3, k _ _ h4 z, h5, h6, h7⟩
theorem Ev.chg (k : But c h h') (hc : c ∈ φ.f.fa ∨ Own σ δ c ∨ h.get? c = none) (live : ∀ o, h.get? c = some o → ∃ x, h'.get? c = some x) (dom : DomLe σ δ h σ' δ') (own : OwnLe σ δ h σ' δ') : Ev φ σ δ h σ' δ' h' := by
  have ne : ∀ b o, h.get? b = some o → ¬ Own σ δ b → b ∉ φ.f.fa → b ≠ c := fun b o e n q z => by
    subst z
    exact hc.elim q fun z => z.elim n (some_not_none e)
  refine ⟨fun b o e n q q_ => ⟨o.slots, k b o e (ne b o e n q)⟩, fun b o e n q q_ => k b o e (ne b o e n q), own, dom, fun b o e => ?_⟩
  by_cases z : b = c
  · subst z; exact live o e
  · exact ⟨o, k b o e z⟩
theorem DomLe.refl : DomLe σ δ h σ δ := fun q_ x => .inl x
theorem OwnLe.refl : OwnLe σ δ h σ δ := fun q_ x => .inl x
theorem Sim.lt {g : G} (S : Sim g σ δ h) {a : Addr} {o : O} (e : σ a = some o) : a < h.objs.size := by
  have r := S.rep a o e
  cases o with
  | inst C fs => obtain ⟨ox, d, es, n, h1, _⟩ := r; exact Heap.lt_size h1
  | list x => obtain ⟨vs, n, h1, _⟩ := r; exact Heap.lt_size h1
  | rlist x => obtain ⟨o, vs, n, h1, _⟩ := r; exact Heap.lt_size h1
  | dict P => obtain ⟨es, n, h1, _⟩ := r; exact Heap.lt_size h1
  | raw x => exact Heap.lt_size r.1
  | lot x => exact Heap.lt_size (o := tabObj x) r
theorem Sim.ltD {g : G} (S : Sim g σ δ h) {a b : Addr} (e : δ b = some a) : b < h.objs.size := by
  obtain ⟨o, h1, _⟩ := S.ownAt (.dict a e)
  exact Heap.lt_size h1
theorem Sim.freshσ {g : G} (S : Sim g σ δ h) {a : Addr} (k : h.objs.size ≤ a) : σ a = none := isNone_of fun o q => absurd (S.lt q) (Nat.not_lt.mpr k)
theorem Sim.freshδ {g : G} (S : Sim g σ δ h) {a : Addr} (k : h.objs.size ≤ a) : δ a = none := isNone_of fun o q => absurd (S.ltD q) (Nat.not_lt.mpr k)
theorem fresh_get {b : Addr} (hb : h.objs.size ≤ b) : h.get? b = none := isNone_of fun x q => absurd (Heap.lt_size q) (Nat.not_lt.mpr hb)
theorem FS.out (F : FS φ l σ δ s) (hc : ¬ Dom σ δ c) {b o} (e : σ b = some o) : b ≠ c ∧ ∀ d, δ d = some b → d ≠ c ∧ δ d = some b :=
  ⟨fun z => hc (z ▸ .obj o e), fun d q => ⟨fun z => hc (z ▸ .dict b q), q⟩⟩
theorem FS.other {tk : Nat} (F : FS φ l σ δ s) (k : But c s.heap h') (hb : φ.g.base.get? c = none) (hs : Stays φ s.heap h' c) (nt : NoTup s.heap c) (hc : ¬ Dom σ δ c) (loc : LocOk φ.f.env l' h') : FS φ l' σ δ { s with heap := h', toks := tk } :=
  F.chg k hb hs .refl .refl (fun b o e => (F.sim.rep b o e).but k nt (F.out hc e).1 (F.out hc e).2) (fun d b e => by
    obtain ⟨C, fs, q⟩ := (F.sim.aux d b e).inst
    exact (F.sim.aux d b e).but k (F.out hc q).1) loc
theorem FS.baseNone (F : FS φ l σ δ s) {b : Addr} (e : s.heap.get? b = none) : φ.g.base.get? b = none := isNone_of fun y z => some_not_none (F.sim.keep b y z) e

theorem FS.grow {tk : Nat} (F : FS φ l σ δ s) (k : ∀ b o, s.heap.get? b = some o → h'.get? b = some o) : FS φ l σ δ { s with heap := h', toks := tk } ∧ Ev φ σ δ s.heap σ δ h' := by
  have e0 := fresh_get (Nat.le_refl s.heap.objs.size)
  have k' : But s.heap.objs.size s.heap h' := fun b o e q_ => k b o e
  have nt : NoTup s.heap s.heap.objs.size := fun o e => some_not_none e e0
  refine ⟨F.other k' (F.baseNone e0) (fun q_ o e => some_not_none e e0) nt (fun z => ?_) (F.loc.but k' nt (fun z => ?_) fun v ⟨o, z, _⟩ => some_not_none z e0), .chg k' (.inr (.inr e0)) (fun o e => some_not_none e e0) .refl .refl⟩
  · cases z with
    | obj o z => exact some_not_none z (F.sim.freshσ (Nat.le_refl _))
    | dict o z => exact some_not_none z (F.sim.freshδ (Nat.le_refl _))
  · obtain ⟨o, z', _⟩ := (F.fa _ F.envOk.locals).at_
    rw [z] at z'; exact some_not_none z' e0
theorem FS.scratch {tk : Nat} (F : FS φ l σ δ s) (k : But c s.heap h') (hc : ¬ Dom σ δ c) (hb : φ.g.base.get? c = none) (hn : c ∉ φ.f.fa) (hfl : ¬ Fl φ.fl c) (hcell : ∀ v, ¬ s.heap.IsCell c v) (ht : NoTup s.heap c) :
    FS φ l σ δ { s with heap := h', toks := tk } :=
  F.other k hb (fun z => (z.elim hn hfl).elim) ht hc (F.loc.but k ht (fun z => hn (z ▸ F.envOk.locals)) hcell)
theorem FS.frame {tk : Nat} (F : FS φ l σ δ s) (hc : c ∈ φ.f.fa) (k : But c s.heap h') (hs : ∃ o, A3 (h'.get? c = some o) (¬ IsTup o) (∀ o', s.heap.get? c = some o' → ∀ es n, o'.data = .dict es n → StrKeys es → X2 fun es n => o.data = .dict es n ∧ StrKeys es)) (hl : LocOk φ.f.env l' h') :
    FS φ l' σ δ { s with heap := h', toks := tk } ∧ Ev φ σ δ s.heap σ δ h' := by
  obtain ⟨o, h1, h2, h3⟩ := hs
  obtain ⟨hb, hd, oc, h4, h5⟩ := F.fa c hc
  exact ⟨F.other k hb (fun q_ o' e => ⟨o, h1, h2, h3 o' e⟩) (fun o e => by rw [h4] at e; cases e; exact h5) hd hl, .chg k (.inl hc) (fun q_ q_ => ⟨o, h1⟩) .refl .refl⟩

inductive WrAt (δ : DM) (c a : Addr) : O → O → Prop
  | list (e : c = a) (y y' : List V) : WrAt δ c a (.list y) (.list y')
  | map (e : c = a) (y y' : Prs) : WrAt δ c a (.dict y) (.dict y')
  | lot (e : c = a) (y y' : Array Value) : WrAt δ c a (.lot y) (.lot y')
  | inst (e : δ c = some a) (C : Addr) (y y' : List (Str × V)) : WrAt δ c a (.inst C y) (.inst C y')
theorem FS.write {tk : Nat} {o o' : O} (F : FS φ l σ δ s) (k : But c s.heap h') (live : ∃ x, h'.get? c = some x) (ho : σ a = some o) (hca : WrAt δ c a o o') (hr : Rep φ.g.w δ h' a o') :
    FS φ l (upd σ a o') δ { s with heap := h', toks := tk } ∧ Ev φ σ δ s.heap (upd σ a o') δ h' := by
  have own : Own σ δ c := by
    cases hca with
    | list e y y' => subst e; exact .list y ho
    | map e y y' => subst e; exact .map y ho
    | lot e y y' => subst e; exact .lot y ho
    | inst e C y y' => exact .dict a e
  obtain ⟨oc, c1, c2, c3⟩ := F.sim.ownAt own
  have nt : NoTup s.heap c := fun x e => by rw [c1] at e; cases e; exact c2
  have le : DomLe σ δ s.heap (upd σ a o') δ := fun b q => .inl (by
    cases q with
    | obj x e => exact upd_cases e (fun z q_ => z ▸ .obj o ho) fun q_ e => .obj x e
    | dict x e => exact .dict x e)
  have ownle : OwnLe σ δ s.heap (upd σ a o') δ := fun b q => .inl (by
    cases q with
    | inst C fs e => exact upd_cases e (fun z w => by subst z w; cases hca with | inst e C y y' => exact .inst C y ho) fun q_ e => .inst C fs e
    | list x e => exact upd_cases e (fun z w => by subst z w; cases hca with | list e y y' => exact .list y ho) fun q_ e => .list x e
    | map x e => exact upd_cases e (fun z w => by subst z w; cases hca with | map e y y' => exact .map y ho) fun q_ e => .map x e
    | lot x e => exact upd_cases e (fun z w => by subst z w; cases hca with | lot e y y' => exact .lot y ho) fun q_ e => .lot x e
    | dict x e => exact .dict x e)
  have nσ : ∀ b x, σ b = some x → b ≠ a → b ≠ c := fun b x e n z => by
    subst z
    cases hca with
    | list e' => exact n e'
    | map e' => exact n e'
    | lot e' => exact n e'
    | inst e' => exact some_not_none e (F.sim.aux b a e').no
  have nδ : ∀ b x, δ b = some x → x ≠ a → b ≠ c := fun b x e n z => by
    subst z
    cases hca with
    | list e' => subst e'; exact some_not_none ho (F.sim.aux b x e).no
    | map e' => subst e'; exact some_not_none ho (F.sim.aux b x e).no
    | lot e' => subst e'; exact some_not_none ho (F.sim.aux b x e).no
    | inst e' => rw [e] at e'; cases e'; exact n rfl
  refine ⟨F.chg k (F.sim.new c own) (fun z x e => ?st) le ownle (fun b x e => ?rep) (fun d x e => ?aux) (F.loc.but k nt (fun z => (F.fa _ F.envOk.locals).dom (z ▸ own.dom)) fun v z => ?cell), .chg k (.inr (.inl own)) (fun q_ q_ => live) le ownle⟩
  case st =>
    rcases z with z | z
    · exact ((F.fa c z).dom own.dom).elim
    · obtain ⟨_, nd, _⟩ := F.fr.at z
      exact (nd own.dom).elim
  case rep => exact upd_cases e (fun z w => by subst z w; exact hr) fun z e => (F.sim.rep b x e).but k nt (nσ b x e z) fun d q => ⟨nδ d b q z, q⟩
  case aux =>
    obtain ⟨⟨C, fs, q⟩, q2, ox, q3, q4⟩ := F.sim.aux d x e
    refine ⟨?_, (upd_ne _ _ fun z => ?_).trans q2, ox, k _ _ q3 ?_, q4⟩
    · by_cases z : x = a
      · subst z; rw [ho] at q; cases q
        cases hca with
        | inst _ _ y y' => exact ⟨C, y', upd_same ..⟩
      · exact ⟨C, fs, (upd_ne _ _ z).trans q⟩
    · subst z; exact some_not_none ho q2
    · by_cases z : x = a
      · subst z; rw [ho] at q; cases q
        cases hca with
        | inst e' => exact fun w => some_not_none ho ((F.sim.aux c x e').no |> fun q5 => w ▸ q5)
      · exact nσ _ _ q z
  case cell =>
    obtain ⟨o2, z1, z2⟩ := z
    rw [c1] at z1; cases z1; exact c3 _ z2

theorem FS.new {tk : Nat} {o : O} (F : FS φ l σ δ s) (k : ∀ b x, s.heap.get? b = some x → h'.get? b = some x) (ha : s.heap.objs.size ≤ a) (hr : Rep φ.g.w δ' h' a o)
    (hδ : ∀ b x, δ' b = some x → δ b = some x ∨ (s.heap.objs.size ≤ b ∧ b ≠ a ∧ x = a ∧ (X2 fun C fs => o = .inst C fs) ∧ ∃ ox, h'.get? a = some ox ∧ ox.dict = some b)) (hδ' : ∀ b x, δ b = some x → δ' b = some x) :
    FS φ l (upd σ a o) δ' { s with heap := h', toks := tk } ∧ Ev φ σ δ s.heap (upd σ a o) δ' h' := by
  have e0 := fresh_get (h := s.heap) ha
  have k' : But a s.heap h' := fun b o e q_ => k b o e
  have nt : NoTup s.heap a := fun o e => some_not_none e e0
  have le : DomLe σ δ s.heap (upd σ a o) δ' := fun b q => by
    cases q with
    | obj x e => exact upd_cases e (fun z q_ => .inr (z ▸ e0)) fun q_ e => .inl (.obj x e)
    | dict x e => exact (hδ b x e).elim (fun e => .inl (.dict x e)) fun e => .inr (fresh_get e.1)
  have ownle : OwnLe σ δ s.heap (upd σ a o) δ' := fun b q => by
    cases q with
    | inst C fs e => exact upd_cases e (fun z q_ => .inr (z ▸ e0)) fun q_ e => .inl (.inst C fs e)
    | list x e => exact upd_cases e (fun z q_ => .inr (z ▸ e0)) fun q_ e => .inl (.list x e)
    | map x e => exact upd_cases e (fun z q_ => .inr (z ▸ e0)) fun q_ e => .inl (.map x e)
    | lot x e => exact upd_cases e (fun z q_ => .inr (z ▸ e0)) fun q_ e => .inl (.lot x e)
    | dict x e => exact (hδ b x e).elim (fun e => .inl (.dict x e)) fun e => .inr (fresh_get e.1)
  have na : ∀ b x, σ b = some x → b ≠ a := fun b x e z => some_not_none e (z ▸ F.sim.freshσ ha)
  have nd : ∀ b x, δ b = some x → b ≠ a := fun b x e z => some_not_none e (z ▸ F.sim.freshδ ha)
  refine ⟨F.chg k' (F.baseNone e0) (fun q_ o e => some_not_none e e0) le ownle (fun b x e => ?rep) (fun b x e => ?aux) (F.loc.but k' nt (fun z => ?_) fun v ⟨o, z, _⟩ => some_not_none z e0), .chg k' (.inr (.inr e0)) (fun o e => some_not_none e e0) le ownle⟩
  case rep => exact upd_cases e (fun z w => by subst z w; exact hr) fun z e => (F.sim.rep b x e).but k' nt z fun d q => ⟨nd d b q, hδ' d b q⟩
  case aux =>
    rcases hδ b x e with e | ⟨h1, h2, rfl, ⟨C, fs, rfl⟩, ox, h4, h5⟩
    · obtain ⟨⟨C, fs, q⟩, q2, ox, q3, q4⟩ := F.sim.aux b x e
      exact ⟨⟨C, fs, (upd_ne _ _ (na _ _ q)).trans q⟩, (upd_ne _ _ (nd _ _ e)).trans q2, ox, k _ _ q3, q4⟩
    · exact ⟨⟨C, fs, upd_same ..⟩, (upd_ne _ _ h2).trans (F.sim.freshσ h1), ox, h4, h5⟩
  · obtain ⟨o, z', _⟩ := (F.fa _ F.envOk.locals).at_
    rw [z] at z'; exact some_not_none z' e0
end
end Mn
set_option genInjectivity false
namespace Mn
open PySem.SeqAt

noncomputable def getF : List (Str × V) → Str → Option V
  | [], _ => none
  | p :: r, x => if p.1 = x then some p.2 else getF r x
noncomputable def setF : List (Str × V) → Str → V → List (Str × V)
  | [], x, v => [(x, v)]
  | p :: r, x, v => if p.1 = x then (p.1, v) :: r else p :: setF r x v
theorem isStr_str (x y : Str) (t : Tok) : (Value.str x t).isStr y = decide (x = y) := by
  show (x == y) = _
  rw [Bool.eq_iff_iff]; simp
section
variable {h : Heap} {x : Str} {fs : List (Str × V)} {es : List DictEntry}
theorem FsRel.noRef (r : FsRel h fs es) : es.any (·.refKey) = false := by
  induction r with
  | nil => rfl
  | @cons _ _ e _ _ hk _ _ ih =>
    obtain ⟨t, hk⟩ := hk
    rw [List.any_cons, ih]
    unfold DictEntry.refKey
    rw [hk]; rfl
theorem getL_cons {y : Str} {t : Tok} {e : DictEntry} (hk : e.key = .str y t) (hn : es.any (·.refKey) = false) : getL x (e :: es) = if y = x then some (some e.val) else getL x es := by
  unfold getL
  rw [List.find?_cons, hk, isStr_str, List.any_cons, hn]
  have : e.refKey = false := by unfold DictEntry.refKey; rw [hk]
  rw [this]
  by_cases z : y = x
  · rw [if_pos z, decide_eq_true z]
  · rw [if_neg z, decide_eq_false z]; rfl
theorem FsRel.get {v} (r : FsRel h fs es) (q : getF fs x = some v) : ∃ rv, getL x es = some (some rv) ∧ VRel h v rv := by
  induction r with
  | nil => cases q
  | cons hk hv hs ih =>
    obtain ⟨t, hk⟩ := hk
    rw [getL_cons hk hs.noRef]
    unfold getF at q
    dsimp only at q
    split at q
    · cases q; rw [if_pos ‹_›]; exact ⟨_, rfl, hv⟩
    · rw [if_neg ‹_›]; exact ih q
theorem FsRel.none (r : FsRel h fs es) (q : getF fs x = .none) : getL x es = .some .none := by
  induction r with
  | nil => rfl
  | cons hk hv hs ih =>
    obtain ⟨t, hk⟩ := hk
    rw [getL_cons hk hs.noRef]
    unfold getF at q
    dsimp only at q
    split at q
    · cases q
    · rw [if_neg ‹_›]; exact ih q
theorem FsRel.length (r : FsRel h fs es) : es.length = fs.length := by
  induction r with
  | nil => rfl
  | cons _ _ _ ih => exact congrArg (· + 1) ih
theorem FsRel.put {v : V} {rv : Value} {hsh : Int} {t : Tok} (hv : VRel h v rv) (r : FsRel h fs es) : FsRel h (setF fs x v) (putL x hsh (.str x t) rv es) := by
  induction r with
  | nil => exact .cons ⟨t, rfl⟩ hv .nil
  | @cons y _ e _ _ hk hw hs ih =>
    obtain ⟨t', hk⟩ := hk
    unfold setF putL
    rw [hk, isStr_str]
    by_cases z : y = x
    · rw [if_pos z, if_pos (decide_eq_true z)]
      exact .cons ⟨t', rfl⟩ hv hs
    · rw [if_neg z, if_neg (by rw [decide_eq_false z]; exact Bool.false_ne_true)]
      exact .cons ⟨t', hk⟩ hw ih
end
noncomputable def fldK (K : Frag) (C : Addr) (x : Str) : Bool :=
  plainGet K C x && hasDictIn K C && (findIn K (.ref C) x).any (noGet K) && findIn K (.ref C) "__setattr__" == some (some (.builtin "object.__setattr__")) && plainOver K C && takerIn K C x == some none
noncomputable def methK (K : Frag) (C : Addr) (x : Str) (fn : Addr) : Bool :=
  plainGet K C x && findIn K (.ref C) x == some (some (.ref fn)) && isFn K (.ref fn) && keepIn K (.ref fn)
noncomputable def cattrK (K : Frag) (C : Addr) (x : Str) (v : Value) : Bool :=
  plainGet K C x && hasDictIn K C && findIn K (.ref C) x == some (some v) && specialIn K v "__get__" == some none && handedIn v && !copiedNames.contains x
noncomputable def V.plain : V → Bool
  | .bi _ => false
  | _ => true
theorem VRel.handed {h : Heap} {v : V} {r : Value} (x : VRel h v r) (p : v.plain = true) : handedIn r = true := by
  cases x with
  | bi => cases p
  | _ => rfl
theorem putL_length (name : Str) (hsh : Int) (key v : Value) (es : List DictEntry) : (putL name hsh key v es).length ≤ es.length + 1 := by
  induction es with
  | nil => exact Nat.le_refl _
  | cons e r ih =>
    unfold putL; split
    · exact Nat.le_succ _
    · exact Nat.succ_le_succ ih
section
variable {prog : Program} {w : World} {A : Around} {K : Frag} {C x : Addr} {s : Shared} {R : Result → Shared → Prop}
theorem osaD {ox : Obj} {dx : Addr} {name : Str} {tk : Tok} {v : Value} {es : List DictEntry} {n : Nat} (X : K.In s.heap) (I : InstAt s.heap x ox C (some (dictOf es n))) (hd : ox.dict = some dx)
    (hp : plainOver K C = true) (ht : takerIn K C name = some none) (hh : (clsIn K C).any (·.hasDict) = true) (hnr : es.any (·.refKey) = false) (hz : es.length ≤ 1000)
    (h : R (.ok (.ret .none)) { s with heap := s.heap.update dx (Obj.putName name (PyData.keyHash w.params name) (.str name s.toks) v), toks := s.toks + 1 }) :
    codeAny (model prog w) A (.call (.builtin "object.__setattr__") ⟨[.ref x, .str name tk, v], []⟩) R s := by
  refine osa_open X I hp ht fun b => ?_
  obtain ⟨cd, hc, hd'⟩ := any_some hh
  obtain ⟨hx, hcl, hn, hdd⟩ := I
  rw [hd] at hdd
  have D : s.heap.get? dx = some (dictOf es n) := hdd
  have D' := Heap.get?_update_self (Obj.putName name (PyData.keyHash w.params name) (.str name s.toks) v) D (by rw [putName_dict]; rfl)
  rw [putName_dict] at D'
  obtain ⟨oc, odi, oda, osl⟩ := ox
  dsimp only at hcl hd
  subst hcl hd
  refine wpAny_bind (wpAny_pure (wpAny_bind (wpAny_bind (wpAny_loadPart hx (wpAny_bind ((looks_clsIn X hc).here ?_))))))
  rw [hd']
  refine wpAny_pure (a := some dx) (wpAny_bind (wpAny_pure (wpAny_bind ?_)))
  unfold nsSet
  refine wpAny_bind (wpAny_bind (wpAny_askSetting (wpAny_pure (wpAny_bind (wpAny_mkText (wpAny_bind (wpAny_loadPart D ?_)))))))
  dsimp only
  have c : aRefKeyMayBeTheName name es.toArray = false := by
    rw [aRefKeyMayBeTheName_at]
    simp [hnr]
  rw [c]
  refine wpAny_updatePart D ?_
  have hlen := putL_length name (PyData.keyHash w.params name) (.str name s.toks) v es
  refine wpAny_bind (wpAny_lookBehind D' (pastItsLine_dict (by rw [List.size_toArray, sizeLine_eq]; lia)) ?_)
  exact wpAny_pure h
end

noncomputable def URel (_ : Heap) (_ : Unit) (_ : Unit) : Prop := True
noncomputable def PU (κ : Cx) (t : List Value → Sem Unit) (vs : List V) (Q : MH → Prop) (σ : MH) : Prop :=
  ∀ A s δ l rs, Good κ A → FS κ.φ l σ δ s → VsRel s.heap vs rs → At URel κ A (t rs) (fun q_ l' σ' => l' = l ∧ Q σ') σ δ s
noncomputable def u2 (k : Value → Value → Sem Unit) (rs : List Value) : Sem Unit := k (rs.getD 0 .none) (rs.getD 1 .none)
noncomputable def u3 (k : Value → Value → Value → Sem Unit) (rs : List Value) : Sem Unit := k (rs.getD 0 .none) (rs.getD 1 .none) (rs.getD 2 .none)
set_option genCtorIdx false in
inductive Fw where
  | next | brk | cont | ret (v : V)
inductive FwRel (h : Heap) : Fw → Flow → Prop
  | next : FwRel h .next .next
  | brk : FwRel h .brk .brk
  | cont : FwRel h .cont .cont
  | ret {v r} (hv : VRel h v r) : FwRel h (.ret v) (.ret r)
noncomputable def WS1 (κ : Cx) (st : PySem.Stmt) (Q : Fw → Loc → MH → Prop) (l : Loc) (σ : MH) : Prop :=
  ∀ A s δ, Good κ A → FS κ.φ l σ δ s → At FwRel κ A (exec st κ.φ.f.env) Q σ δ s
noncomputable def WS (κ : Cx) (ss : List PySem.Stmt) (Q : Fw → Loc → MH → Prop) (l : Loc) (σ : MH) : Prop :=
  ∀ A s δ, Good κ A → FS κ.φ l σ δ s → At FwRel κ A (execs ss κ.φ.f.env) Q σ δ s
noncomputable def WA (κ : Cx) (t : PySem.Expr) (v : V) (Q : Loc → MH → Prop) (l : Loc) (σ : MH) : Prop :=
  ∀ A s δ rv, Good κ A → FS κ.φ l σ δ s → VRel s.heap v rv → At URel κ A (assign t κ.φ.f.env rv) (fun q_ => Q) σ δ s
noncomputable def thenS (n : Loc → MH → Prop) (Q : Fw → Loc → MH → Prop) : Fw → Loc → MH → Prop
  | .next => n
  | w => Q w

section
variable {κ : Cx} {l : Loc} {σ : MH} {δ : DM} {A : Around} {s : Shared}
theorem PU.run {t vs rs} {Q : Loc → MH → Prop} (h : PU κ t vs (fun σ' => Q l σ') σ) (G : Good κ A) (F : FS κ.φ l σ δ s) (hv : VsRel s.heap vs rs) : At URel κ A (t rs) (fun q_ => Q) σ δ s :=
  (h A s δ l rs G F hv).mono fun _ _ _ ⟨e, q⟩ => e ▸ q
end
section
variable {κ : Cx} {l : Loc} {σ : MH} {Q : Fw → Loc → MH → Prop}
theorem WS.nil (h : Q .next l σ) : WS κ [] Q l σ := fun q_ q_ q_ q_ F => wpAny_execs_nil (Ok.here F .next h)
theorem WS.cons {st rest} (h : WS1 κ st (thenS (WS κ rest Q) Q) l σ) : WS κ (st :: rest) Q l σ := fun A s δ G F => by
  refine wpAny_execs_cons (wpAny_mono (h A s δ G F) (fun fw s1 ⟨w, l1, σ1, δ1, hR, F1, E1, q1⟩ => ?_) fun q_ q_ e => e)
  cases hR with
  | next => exact wpAny_mono ((show WS κ rest Q l1 σ1 from q1) A s1 δ1 G F1) (fun _ s2 ⟨w, l2, σ2, δ2, hR2, F2, E2, q2⟩ => ⟨w, l2, σ2, δ2, hR2, F2, E1.trans E2, q2⟩) fun q_ q_ e => e.trans E1
  | brk => exact ⟨_, l1, σ1, δ1, .brk, F1, E1, q1⟩
  | cont => exact ⟨_, l1, σ1, δ1, .cont, F1, E1, q1⟩
  | ret hv => exact ⟨_, l1, σ1, δ1, .ret hv, F1, E1, q1⟩
theorem WS1.mono {st} {Q' : Fw → Loc → MH → Prop} (h : WS1 κ st Q l σ) (k : ∀ w l σ, Q w l σ → Q' w l σ) : WS1 κ st Q' l σ := fun A s δ G F => (h A s δ G F).mono k
theorem WS.mono {ss} {Q' : Fw → Loc → MH → Prop} (h : WS κ ss Q l σ) (k : ∀ w l σ, Q w l σ → Q' w l σ) : WS κ ss Q' l σ := fun A s δ G F => (h A s δ G F).mono k
theorem WE.mono {e} {Q Q' : V → Loc → MH → Prop} (h : WE κ e Q l σ) (k : ∀ w l σ, Q w l σ → Q' w l σ) : WE κ e Q' l σ := fun A s δ G F => (h A s δ G F).mono k
theorem WB.mono {e} {Q Q' : Bool → Loc → MH → Prop} (h : WB κ e Q l σ) (k : ∀ w l σ, Q w l σ → Q' w l σ) : WB κ e Q' l σ := fun A s δ G F => (h A s δ G F).mono k
theorem WS1.pass {pos} (h : Q .next l σ) : WS1 κ (.Pass pos) Q l σ := fun q_ q_ q_ q_ F => wpAny_Pass (Ok.here F .next h)
theorem WS1.brk {pos} (h : Q .brk l σ) : WS1 κ (.Break pos) Q l σ := fun q_ q_ q_ q_ F => wpAny_Break (Ok.here F .brk h)
theorem WS1.ite {test body orelse pos} (h : WB κ test (fun b l1 σ1 => brk2 (WS κ body Q l1 σ1) (WS κ orelse Q l1 σ1) b) l σ) : WS1 κ (.If test body orelse pos) Q l σ := fun A s δ G F => by
  refine wpAny_If (wpAny_mono (h A s δ G F) (fun b s1 ⟨b', l1, σ1, δ1, hR, F1, E1, q1⟩ => ?_) fun q_ q_ e => e)
  cases hR
  have fin : ∀ {ss}, WS κ ss Q l1 σ1 → wpAny _ A (execs ss κ.φ.f.env) _ _ s1 := fun q => wpAny_mono (q A s1 δ1 G F1) (fun _ s2 ⟨w, l2, σ2, δ2, hR2, F2, E2, q2⟩ => (⟨w, l2, σ2, δ2, hR2, F2, E1.trans E2, q2⟩ : Ok FwRel κ.φ σ δ s.heap Q _ s2)) fun q_ q_ e => (e.trans E1 : FlX κ σ δ s.heap _ _)
  cases b
  · exact fin q1
  · exact fin q1
theorem WS1.ret {e pos} (h : WE κ e (fun v l1 σ1 => Q (.ret v) l1 σ1) l σ) : WS1 κ (.Return (some e) pos) Q l σ := fun A s δ G F =>
  wpAny_Return_some (wpAny_mono (h A s δ G F) (fun _ _ ⟨_, l1, σ1, δ1, hR, F1, E1, q1⟩ => ⟨_, l1, σ1, δ1, .ret hR, F1, E1, q1⟩) fun q_ q_ e => e)
theorem WS1.ret0 {pos} (h : Q (.ret .none) l σ) : WS1 κ (.Return none pos) Q l σ := fun q_ q_ q_ q_ F => wpAny_Return_none (Ok.here F (.ret .none) h)
theorem WS1.expr {e pos} (h : WE κ e (fun q_ l1 σ1 => Q .next l1 σ1) l σ) (hs : swapsWith e none pos.line κ.φ.f.env = pure false) : WS1 κ (.Expr e pos) Q l σ := fun A s δ G F =>
  wpAny_Expr_any (wpAny_mono (h A s δ G F) (fun _ _ ⟨_, l1, σ1, δ1, hR, F1, E1, q1⟩ => ⟨.next, l1, σ1, δ1, .next, F1, E1, q1⟩) fun q_ q_ e => e) (by unfold interactive; rw [F.envOk.kind]; rfl) hs
end
section
variable {κ : Cx} {l : Loc} {σ : MH} {Q : Loc → MH → Prop}
theorem But.of {c : Addr} {h h' : Heap} (x : Heap.SameBut c h h') : But c h h' := fun b o e n => (x.2 b n).trans e
theorem store_name {A s δ x v rv} (F : FS κ.φ l σ δ s) (hv : VRel s.heap v rv) (hl : κ.φ.f.env.kindOf x = some .local ∨ κ.φ.f.env.kindOf x = some .cell ∧ CellsOwn κ.φ.f) (h : Q (upd l x v) σ) :
    At URel κ A (storeName κ.φ.f.env x rv) (fun q_ => Q) σ δ s := by
  obtain ⟨m, hm, hlo, hce⟩ := F.loc
  obtain ⟨oL, esL, epL, hoL, hdL, hkL, hfL⟩ := id hm
  rcases hl with hl | ⟨hl, hco⟩
  · refine wpAny_storeName_local hl hm (fun h' hn hs => ?_) (by rw [F.envOk.kind]; rfl)
    have nt : NoTup s.heap κ.φ.f.env.locals := fun o e => by rw [hoL] at e; cases e; exact notTup_dict hdL
    obtain ⟨o', es, ep, ho', hd', hsk, _⟩ := id hn
    have nc : ∀ v, ¬ s.heap.IsCell κ.φ.f.env.locals v := fun v ⟨o, h1, h2⟩ => by rw [hoL] at h1; cases h1; rw [hdL] at h2; cases h2
    have fin := F.frame (h' := h') (tk := s.toks + 1) (l' := upd l x v) F.envOk.locals (.of hs) ⟨o', ho', notTup_dict hd', fun q_ q_ q_ q_ q_ q_ => ⟨_, _, hd', hsk⟩⟩ ⟨_, hn, fun y w hy => ?_, fun y c k e => ?_⟩
    · exact ⟨(), _, σ, δ, trivial, fin.1, fin.2, h⟩
    · refine upd_cases hy (fun e e' => ?_) fun e hy => ?_
      · subst e e'; exact .loc hl rv (if_pos rfl) (hv.mono ((But.of hs).tups nt))
      · have z := (hlo y w hy).but (.of hs) nt nc
        cases z with
        | loc hk r h1 h2 => exact .loc hk r ((if_neg e).trans h1) h2
        | cell hk c r h1 h2 h3 => exact .cell hk c r h1 h2 h3
    · obtain ⟨v0, h2⟩ := hce y c k e
      exact ⟨v0, (But.of hs).cell h2 fun z => nc _ (z ▸ h2)⟩
  · obtain ⟨c, hc, hcf, hap⟩ := hco x hl
    obtain ⟨v0, hin⟩ := hce x c hl hc
    refine wpAny_storeName_cell F.envOk.kind hl hc hin (fun h' hn hs => ?_)
    obtain ⟨o', ho', hd'⟩ := id hn
    obtain ⟨oc, hoc, hdc⟩ := id hin
    have nt : NoTup s.heap c := fun o e => by rw [hoc] at e; cases e; exact notTup_cell hdc
    have nL : κ.φ.f.env.locals ≠ c := fun z => by rw [z, hoc] at hoL; cases hoL; rw [hdc] at hdL; cases hdL
    have fin := F.frame (h' := h') (tk := s.toks) (l' := upd l x v) hcf (.of hs) ⟨o', ho', notTup_cell hd', fun o z es n w => ?_⟩ ⟨m, (But.of hs).ns hm nL, fun y w hy => ?_, fun y c' k e => ?_⟩
    · exact ⟨(), _, σ, δ, trivial, fin.1, fin.2, h⟩
    · rw [hoc] at z; cases z; rw [hdc] at w; cases w
    · refine upd_cases hy (fun e e' => ?_) fun e hy => ?_
      · subst e e'; exact .cell (.inl hl) c rv hc hn (hv.mono ((But.of hs).tups nt))
      · cases hlo y w hy with
        | loc hk r h1 h2 => exact .loc hk r h1 (h2.mono ((But.of hs).tups nt))
        | cell hk c' r h1 h2 h3 => exact .cell hk c' r h1 ((But.of hs).cell h2 fun z => e (hap y (z ▸ h1))) (h3.mono ((But.of hs).tups nt))
    · by_cases z : c' = c
      · subst z; exact ⟨_, hn⟩
      · obtain ⟨v1, h2⟩ := hce y c' k e
        exact ⟨v1, (But.of hs).cell h2 z⟩
noncomputable def MyName (κ : Cx) (x : Str) : Prop := κ.φ.f.env.kindOf x = some .local ∨ κ.φ.f.env.kindOf x = some .cell ∧ CellsOwn κ.φ.f
theorem WA.name {x pos v} (hl : MyName κ x) (h : Q (upd l x v) σ) : WA κ (.Name x pos) v Q l σ := fun q_ q_ q_ q_ q_ F hv => wpAny_assign_Name (store_name F hv hl h)
theorem WS1.assign {t value pos} {Q : Fw → Loc → MH → Prop} (h : WE κ value (fun v l1 σ1 => WA κ t v (Q .next) l1 σ1) l σ) (hs : swapsWithSole [t] value pos.line κ.φ.f.env = pure false) (hw : swappedStores [t] value κ.φ.f.env = pure none)
    (ha : (assignEach [t] κ.φ.f.env).map (·.2) = [assign t κ.φ.f.env]) : WS1 κ (.Assign [t] value pos) Q l σ := fun A s δ G F => by
  refine wpAny_Assign_stores (wpAny_mono (h A s δ G F) (fun rv s1 ⟨v, l1, σ1, δ1, hR, F1, E1, q1⟩ => ?_) fun q_ q_ e => e) hs hw
  rw [ha]
  exact wpAny_mono (q1 A s1 δ1 rv G F1 hR) (fun _ s2 ⟨_, l2, σ2, δ2, _, F2, E2, q2⟩ => ⟨.next, l2, σ2, δ2, .next, F2, E1.trans E2, q2⟩) fun q_ q_ e => e.trans E1
theorem WS1.augName {x p op value pos v} {Q : Fw → Loc → MH → Prop} (hv : l x = some v) (hl : MyName κ x) (h : WE κ value (fun w l1 σ1 => PV κ (t2 (inplaceOp op)) [v, w] (fun r σ2 => Q .next (upd l1 x r) σ2) σ1) l σ) (hn : (x == ("__classdict__" : Str)) = false) :
    WS1 κ (.AugAssign (.Name x p) op value pos) Q l σ := fun A s δ G F => by
  rw [exec_AugAssign_Name]
  refine At.standAt (At.bind (R := VRel) (Q := fun v' l' σ' => v' = v ∧ WE κ value (fun w l1 σ1 => PV κ (t2 (inplaceOp op)) [v, w] (fun r σ2 => Q .next (upd l1 x r) σ2) σ1) l' σ') (load_loc F hv ⟨rfl, h⟩ hn) fun a ra l1 σ1 δ1 s1 hR F1 E1 q1 => ?_)
  obtain ⟨rfl, q1⟩ := q1
  refine At.bind (At.holding (q1 A s1 δ1 G F1)) fun b rb l2 σ2 δ2 s2 hR2 F2 E2 q2 => At.standAt (At.bind (At.operate (q2.run (Q := fun r l σ => Q .next (upd l x r) σ) G F2 (.cons (hR.evo F1 E2) (.cons hR2 .nil)))) fun c rc l3 σ3 δ3 s3 hR3 F3 E3 q3 => At.standAt ?_)
  exact At.bind (wpAny_bindName (store_name F3 hR3 hl q3)) fun q_ q_ l4 σ4 δ4 s4 q_ F4 E4 q4 => At.pure F4 .next q4

inductive InstA (g : G) (δ : DM) (h : Heap) (a C : Addr) (fs : List (Str × V)) : Prop
  | mk (ox : Obj) (dx : Addr) (es : List DictEntry) (n : Nat) (I : InstAt h a ox C (some (dictOf es n))) (h1 : ox.dict = some dx) (h2 : δ dx = some a) (h3 : h.get? dx = some (dictOf es n)) (h4 : FsRel h fs es) (h5 : ox.data = .plain)
theorem Sim.instAt {g : G} {σ δ h} (S : Sim g σ δ h) {a C : Addr} {fs} (e : σ a = some (.inst C fs)) : InstA g δ h a C fs := by
  obtain ⟨ox, dx, es, n, h1, h2, h3, h4, h5, h6, h7⟩ := S.rep _ _ e
  refine ⟨ox, dx, es, n, ⟨h1, h2, by unfold notCls; rw [h3], ?_⟩, h4, h5, h6, h7, h3⟩
  rw [h4]; exact h6
theorem PV.fld {a C fs x v} {Q : V → MH → Prop} (hσ : σ a = some (.inst C fs)) (hk : fldK κ.φ.g.K C x = true) (hx : getF fs x = some v) (hp : v.plain = true) (h : Q v σ) : PV κ (t1 fun r => getAttr r x true) [.ref a] Q σ := fun A s δ l rs G F hv => by
  rw [hv.refI]
  obtain ⟨ox, dx, es, n, I, h1, h2, h3, h4, _⟩ := F.sim.instAt hσ
  unfold fldK at hk
  simp only [Bool.and_eq_true] at hk
  obtain ⟨⟨⟨⟨⟨k1, k2⟩, k3⟩, _⟩, _⟩, _⟩ := hk
  obtain ⟨at_, ka, kn⟩ := any_some k3
  obtain ⟨rv, hg, hv⟩ := h4.get hx
  exact get_value F.inK I (plainGet_of k1).1 (findObj_own k2 ka kn hg) (hv.handed hp) (Ok.tok F hv ⟨rfl, h⟩)
theorem PV.cattr {a C fs x v rv} {Q : V → MH → Prop} (hσ : σ a = some (.inst C fs)) (hk : cattrK κ.φ.g.K C x rv = true) (hx : getF fs x = none) (hv : ∀ h, VRel h v rv) (h : Q v σ) : PV κ (t1 fun r => getAttr r x true) [.ref a] Q σ := fun A s δ l rs G F hr => by
  rw [hr.refI]
  obtain ⟨ox, dx, es, n, I, h1, h2, h3, h4, _⟩ := F.sim.instAt hσ
  unfold cattrK at hk
  simp only [Bool.and_eq_true, beq_iff_eq, Bool.not_eq_true'] at hk
  obtain ⟨⟨⟨⟨⟨k1, k2⟩, k3⟩, k4⟩, k5⟩, k6⟩ := hk
  exact get_value F.inK I (plainGet_of k1).1 (findObj_cls k2 k3 k4 k5 k6 (h4.none hx)) k5 (Ok.tok F (hv _) ⟨rfl, h⟩)
theorem PU.setattr {a C fs x v} {Q : MH → Prop} (hσ : σ a = some (.inst C fs)) (hk : fldK κ.φ.g.K C x = true) (hz : fs.length ≤ 900) (h : Q (upd σ a (.inst C (setF fs x v)))) : PU κ (u2 fun ro rv => setAttr ro x rv) [.ref a, v] Q σ := fun A s δ l rs G F hv => by
  obtain ⟨ra, rv, rfl, hra, hv⟩ := hv.two
  rw [hra.ref_inv]
  show At URel κ A (setAttr (.ref a) x rv) _ σ δ s
  obtain ⟨ox, dx, es, n, I, h1, h2, h3, h4, h5⟩ := F.sim.instAt hσ
  unfold fldK at hk
  simp only [Bool.and_eq_true, beq_iff_eq] at hk
  obtain ⟨⟨⟨⟨⟨k1, k2⟩, k3⟩, k4⟩, k5⟩, k6⟩ := hk
  refine set_plain F.inK I k4 (osaD (s := { s with toks := s.toks + 1 }) F.inK I h1 k5 k6 k2 h4.noRef (by rw [h4.length]; lia) ?_)
  have D' := Heap.get?_update_self (Obj.putName x (PyData.keyHash κ.φ.g.w.params x) (.str x (s.toks + 1)) rv) h3 (by rw [putName_dict]; rfl)
  rw [putName_dict] at D'
  have oth : But dx s.heap (s.heap.update dx (Obj.putName x (PyData.keyHash κ.φ.g.w.params x) (.str x (s.toks + 1)) rv)) := fun b y e z => (Heap.get?_update_other _ _ (Ne.symm z)).trans e
  have nt : NoTup s.heap dx := fun o e => by rw [h3] at e; cases e; exact notTup_dict rfl
  have nx : a ≠ dx := fun z => some_not_none hσ (z ▸ (F.sim.aux dx a h2).no)
  have fin := F.write (tk := s.toks + 2) oth ⟨_, D'⟩ hσ (.inst h2 C fs (setF fs x v)) ⟨ox, dx, _, _, oth _ _ I.at_ nx, I.cls, h5, h1, h2, D', (h4.mono (oth.tups nt)).put (hv.mono (oth.tups nt))⟩
  exact ⟨(), l, _, δ, trivial, fin.1, fin.2, rfl, h⟩
theorem WE.attr {o attr pos} {Q : V → Loc → MH → Prop} (h : WE κ o (fun v l1 σ1 => PV κ (t1 fun r => getAttr r attr true) [v] (fun w σ2 => Q w l1 σ2) σ1) l σ) (hb : attributeBase o attr κ.φ.f.env (eval o κ.φ.f.env) = eval o κ.φ.f.env) :
    WE κ (.Attribute o attr pos) Q l σ := fun A s δ G F => by
  show At VRel κ A (do
    let ov ← attributeBase o attr κ.φ.f.env (eval o κ.φ.f.env)
    standAt pos.atName
    let r ← holding [ov] (getAttr ov attr true)
    letTemporaryGo o ov r
    pure r) Q σ δ s
  rw [hb]
  refine At.bind (h A s δ G F) fun a ra l1 σ1 δ1 s1 hR F1 E1 q1 => At.standAt (At.bind (At.holding (q1.run G F1 (.cons hR .nil))) fun b rb l2 σ2 δ2 s2 hR2 F2 E2 q2 => ?_)
  exact wpAny_bind (wpAny_letTemporaryGo (wpAny_pure (Ok.here F2 hR2 q2)))
theorem assign_Attribute' (env : Env) (o : PySem.Expr) (attr : Str) (pos : Pos) (v : Value) : assign (.Attribute o attr pos) env v = (do
    let ov ← holding [v] (eval o env)
    standAt pos.atName
    holding [v, ov] (setAttr ov attr v)
    release [v, ov] []) := rfl
theorem WA.attr {o attr pos v} (h : WE κ o (fun ov l1 σ1 => PU κ (u2 fun ro rv => setAttr ro attr rv) [ov, v] (fun σ2 => Q l1 σ2) σ1) l σ) : WA κ (.Attribute o attr pos) v Q l σ := fun A s δ rv G F hv => by
  rw [assign_Attribute']
  refine At.bind (At.holding (h A s δ G F)) fun a ra l1 σ1 δ1 s1 hR F1 E1 q1 => At.standAt ?_
  exact At.bind (At.holding (q1.run G F1 (.cons hR (.cons (hv.evo F E1) .nil)))) fun q_ q_ l2 σ2 δ2 s2 q_ F2 E2 q2 => wpAny_release (Ok.here (b := ()) F2 trivial q2)
theorem WS1.augAttr {o attr tpos op value pos} {Q : Fw → Loc → MH → Prop}
    (h : WE κ o (fun ov l1 σ1 => PV κ (t1 fun r => getAttr r attr true) [ov] (fun old σ2 => WE κ value (fun v l3 σ3 => PV κ (t2 (inplaceOp op)) [old, v] (fun n σ4 => PU κ (u2 fun ro rv => setAttr ro attr rv) [ov, n] (fun σ5 => Q .next l3 σ5) σ4) σ3) l1 σ2) σ1) l σ) :
    WS1 κ (.AugAssign (.Attribute o attr tpos) op value pos) Q l σ := fun A s δ G F => by
  refine wpAny_AugAssign_AttributeAny ?_
  refine wpAny_mono (h A s δ G F) (fun ro s1 ⟨ov, l1, σ1, δ1, hR, F1, E1, q1⟩ => ?_) fun q_ q_ e => e
  refine wpAny_mono (q1.run (Q := fun old l1 σ2 => WE κ value (fun v l3 σ3 => PV κ (t2 (inplaceOp op)) [old, v] (fun n σ4 => PU κ (u2 fun ro rv => setAttr ro attr rv) [ov, n] (fun σ5 => Q .next l3 σ5) σ4) σ3) l1 σ2) G F1 (.cons hR .nil)) (fun rold s2 ⟨old, l2, σ2, δ2, hR2, F2, E2, q2⟩ => ?_) fun q_ q_ e => e.trans E1
  have E12 := E1.trans E2
  refine wpAny_mono (q2 A s2 δ2 G F2) (fun rv s3 ⟨v, l3, σ3, δ3, hR3, F3, E3, q3⟩ => ?_) fun q_ q_ e => e.trans E12
  have E13 := E12.trans E3
  refine wpAny_mono (q3.run (Q := fun n l3 σ4 => PU κ (u2 fun ro rv => setAttr ro attr rv) [ov, n] (fun σ5 => Q .next l3 σ5) σ4) G F3 (.cons (hR2.evo F2 E3) (.cons hR3 .nil))) (fun rn s4 ⟨n, l4, σ4, δ4, hR4, F4, E4, q4⟩ => ?_) fun q_ q_ e => e.trans E13
  have E14 := E13.trans E4
  exact wpAny_mono (q4.run (Q := fun l σ => Q .next l σ) G F4 (.cons (((hR.evo F1 E2).evo F2 E3).evo F3 E4) (.cons hR4 .nil))) (fun _ s5 ⟨_, l5, σ5, δ5, _, F5, E5, q5⟩ => ⟨.next, l5, σ5, δ5, .next, F5, E14.trans E5, q5⟩) fun q_ q_ e => e.trans E14
end
end Mn
set_option genInjectivity false
namespace Mn
open PySem.SeqAt

inductive CRet (g : G) (fl : List Env) (σ : MH) (δ : DM) (h : Heap) (Q : V → MH → Prop) (rv : Value) (s' : Shared) : Prop
  | mk (v : V) (σ' : MH) (δ' : DM) (hv : VRel s'.heap v rv) (C : CS g fl σ' δ' s') (E : Evo fl [] σ δ h σ' δ' s'.heap) (q : Q v σ')
noncomputable def CRes (g : G) (fl : List Env) (σ : MH) (δ : DM) (h : Heap) (Q : V → MH → Prop) (X : MH → Prop) (r : Result) (s' : Shared) : Prop :=
  match r with
  | .ok (.ret rv) => CRet g fl σ δ h Q rv s'
  | .ok _ => False
  | .error e => Flies g fl [] σ δ h X e s'
noncomputable def WCall (g : G) (d : Nat) (fn : Addr) (args : List V) (Q : V → MH → Prop) (X : MH → Prop) (σ : MH) : Prop :=
  ∀ A fl s δ rargs, Good0 d A fl → CS g fl σ δ s → VsRel s.heap args rargs → codeAny (model g.prog g.w) A (.call (.ref fn) ⟨rargs, []⟩) (CRes g fl σ δ s.heap Q X) s
section
variable {g : G} {fl : List Env} {σ : MH} {δ : DM}
theorem WCall.mono {d fn args} {Q Q' : V → MH → Prop} {X X' : MH → Prop} (h : WCall g d fn args Q X σ) (k : ∀ v σ, Q v σ → Q' v σ) (kx : ∀ σ, X σ → X' σ) : WCall g d fn args Q' X' σ := fun A fl s δ ra G C hv =>
  codeAny_mono (h A fl s δ ra G C hv) fun r s' z => by
    cases r with
    | error e => exact Flies.mono kx z
    | ok w =>
      cases w with
      | ret rv => obtain ⟨v, σ', δ', h1, h2, h3, h4⟩ := z; exact ⟨v, σ', δ', h1, h2, h3, k _ _ h4⟩
      | _ => exact z.elim
theorem WCall.le {d d' fn args} {Q : V → MH → Prop} {X : MH → Prop} (h : WCall g d fn args Q X σ) (k : d ≤ d') : WCall g d' fn args Q X σ := fun A fl s δ ra G C hv => h A fl s δ ra (G.le k) C hv
theorem Fl.cons {env : Env} {fl : List Env} {b L : Addr} (hf : env.frame = some L) : Fl (env :: fl) b ↔ b = L ∨ Fl fl b := by
  unfold Fl frameAddrs
  rw [List.filterMap_cons, hf]
  exact List.mem_cons

theorem FliesAt.funFrames {fl fa h ea σ' δ' hr B Z h'} (x : FliesAt g fl fa σ δ h ea σ' δ' hr B Z h') : h'.FunFrames B fl := by
  have aux : ∀ l : List Env, (∀ e ∈ l, e ∈ fl) → h'.FunFrames B l := by
    intro l
    induction l with
    | nil => intro _; trivial
    | cons e r ih =>
      intro hl
      obtain ⟨hk, L, o, es, n, h1, h2, h3, h4, h5, h6, _⟩ := x.fr.all e (hl e (.head _))
      have hz := x.outB L (x.flZ L (List.mem_filterMap.mpr ⟨e, hl e (.head _), h1⟩))
      have nf : ∀ vs, o.data ≠ .fields vs := fun vs z => by rw [h5] at z; cases z
      obtain ⟨sl, q⟩ := x.upto L o h4 nf
      exact ⟨hk, ⟨L, _, h1, hz, q, nf⟩, ih fun e he => hl e (.tail _ he)⟩
  exact aux fl fun q_ h => h

structure NewFr (g : G) (s : Shared) (h0 : Heap) (f : Frm) (L : Addr) (l : Loc) : Prop where
  k : ∀ b o, s.heap.get? b = some o → h0.get? b = some o
  envOk : EnvOk f
  loc : LocOk f.env l h0
  fa : ∀ b ∈ f.fa, s.heap.objs.size ≤ b ∧ ∃ o, h0.get? b = some o ∧ ¬ IsTup o
  frame : f.env.frame = some L
  inFa : L ∈ f.fa
  isNs : ∃ m, h0.Ns L m
theorem NewFr.out {s h0 f L l} (N : NewFr g s h0 f L l) {b : Addr} (hb : b ∈ f.fa) : s.heap.get? b = none := fresh_get (N.fa b hb).1
theorem NewFr.back {s h0 f L l} (N : NewFr g s h0 f L l) {b : Addr} (z : h0.get? b = none) : s.heap.get? b = none := isNone_of fun o e => some_not_none (N.k b o e) z
theorem NewFr.evo {s h0 f L l σ' δ' h'} (N : NewFr g s h0 f L l) (E : Evo (f.env :: fl) f.fa σ δ h0 σ' δ' h') : Evo fl [] σ δ s.heap σ' δ' h' := by
  have nf : ∀ b o, s.heap.get? b = some o → b ∉ f.fa := fun b o e z => some_not_none e (N.out z)
  refine ⟨fun b o e n q_ q => E.slots b o (N.k b o e) n (nf b o e) ((Fl.cons N.frame).mpr (.inr q)), fun b o e n q_ q => E.keep b o (N.k b o e) n (nf b o e) fun z => ?_, fun b q => (E.own b q).imp_right N.back, fun b q => (E.dom b q).imp_right N.back, fun b o e => E.live b o (N.k b o e)⟩
  exact ((Fl.cons N.frame).mp z).elim (fun w => nf b o e (w ▸ N.inFa)) q
theorem NewFr.fs {s h0 f L l} {tk : Nat} (N : NewFr g s h0 f L l) (C : CS g fl σ δ s) : FS ⟨g, f.env :: fl, f⟩ l σ δ { s with heap := h0, toks := tk } := by
  have e0 := fresh_get (Nat.le_refl s.heap.objs.size)
  have k' : But s.heap.objs.size s.heap h0 := fun b o e q_ => N.k b o e
  have nt : NoTup s.heap s.heap.objs.size := fun o e => some_not_none e e0
  have fo : ∀ b, s.heap.objs.size ≤ b → g.base.get? b = none ∧ ¬ Dom σ δ b := fun b hb => by
    refine ⟨isNone_of fun y z => some_not_none (C.sim.keep b y z) (fresh_get hb), fun q => ?_⟩
    cases q with
    | obj o q => exact some_not_none q (C.sim.freshσ hb)
    | dict a q => exact some_not_none q (C.sim.freshδ hb)
  refine ⟨⟨fun b o e => N.k b o (C.sim.keep b o e), fun b o e => (C.sim.rep b o e).but k' nt (fun z => ?_) fun d q => ⟨fun z => ?_, q⟩, C.sim.new, fun d b e => ?_⟩, N.envOk, N.loc, fun b hb => ?_, ⟨fun e he => ?_⟩, C.gens, C.os⟩
  · exact some_not_none e (z ▸ C.sim.freshσ (Nat.le_refl _))
  · exact some_not_none q (z ▸ C.sim.freshδ (Nat.le_refl _))
  · obtain ⟨q, q2, ox, q3, q4⟩ := C.sim.aux d b e
    exact ⟨q, q2, ox, N.k _ _ q3, q4⟩
  · obtain ⟨h1, h2⟩ := N.fa b hb
    exact ⟨(fo b h1).1, (fo b h1).2, h2⟩
  · rcases List.mem_cons.mp he with rfl | he
    · obtain ⟨m, o, es, n, h1, h2, h3, _⟩ := N.isNs
      have h4 := N.fa L N.inFa
      exact ⟨fun z => (by rw [N.envOk.kind] at z; cases z), L, o, es, n, N.frame, (fo L h4.1).1, (fo L h4.1).2, h1, h2, notTup_dict h2, h3⟩
    · obtain ⟨kk, L, o, es, n, q1, q2, q3, q4, q5, q6, q7⟩ := C.fr.all e he
      exact ⟨kk, L, o, es, n, q1, q2, q3, N.k _ _ q4, q5, q6, q7⟩

theorem leave_flies {A : Around} {s s' : Shared} {h0 : Heap} {f : Frm} {L : Addr} {l : Loc} {X : MH → Prop} {e : Value} {E : Value → Shared → Prop} (hA : A.frames = some fl) (N : NewFr g s h0 f L l) (x : Flies g (f.env :: fl) f.fa σ δ h0 X e s') :
    wpAny (model g.prog g.w) (A.deeper f.env) (leaving f.env e) (fun q_ s'' => Flies g fl [] σ δ s.heap X e s'') E s' := by
  obtain ⟨ea, σ', δ', hr, B, Z, rfl, hX, x, hg, ho⟩ := x
  have fin : ∀ h', B.StaysIn h' → s'.heap.UpToSlots h' → (∃ a0, h'.TracedW B ea (.ref g.cX) a0) → Flies g fl [] σ δ s.heap X (.ref ea) { s' with heap := h' } := by
    intro h' st up ⟨a0, tr⟩
    refine ⟨ea, σ', δ', hr, B, Z, rfl, hX, ⟨x.sim, ⟨fun e he => x.fr.all e (.tail _ he)⟩, N.evo x.evo, x.inB, x.ofB, fun z hz => ?_, fun z hz => x.flZ z ((Fl.cons N.frame).mpr (.inr hz)), x.outB, st, x.upto.trans up, x.fresh, .traced a0 tr⟩, hg, ho⟩
    have y := x.zs z hz
    refine { y with whose := ?_ }
    rcases y.whose with a | a | a
    · exact ((Fl.cons N.frame).mp a).elim (fun a => .inr (.inl (a ▸ N.out N.inFa))) .inl
    · exact .inr (.inl (N.back a))
    · exact .inr (.inl (N.out a))
  cases x.exc with
  | plain a0 oe vs h1 h2 h3 h4 h5 =>
    refine wpAny_leaving_firstW (Around.frames_deeper hA) x.funFrames N.frame h1 x.stays x.fresh h3 h5 h4 fun h' ⟨q1, q2, q3, q4⟩ => ?_
    rw [h2] at q3
    exact fin h' q1 q4 ⟨a0, q3⟩
  | traced a0 tr => exact wpAny_leaves_onW (Around.frames_deeper hA) N.frame ⟨x.stays, x.fresh, x.funFrames, tr⟩ fun h' q1 q2 => fin h' q1.1 q2 ⟨a0, q1.2.2.2⟩
theorem Good0.deeper {d A} (x : Good0 (d + 1) A fl) (env : Env) : Good0 d (A.deeper env) (env :: fl) :=
  ⟨Around.frames_deeper x.frames, x.handled, by show A.depth + 1 + d ≤ 900; have := x.depth; lia, by show A.units + 3 + 10 * d ≤ 9000; have := x.units; lia⟩
noncomputable def retQ (Q : V → MH → Prop) : Fw → Loc → MH → Prop
  | .ret v, _, σ => Q v σ
  | .next, _, σ => Q .none σ
  | _, _, _ => False
theorem NewFr.body {d : Nat} {A : Around} {s : Shared} {h0 : Heap} {f : Frm} {L : Addr} {l : Loc} {tk : Nat} {Q : V → MH → Prop} {X : MH → Prop} {body : List PySem.Stmt} (N : NewFr g s h0 f L l) (C : CS g fl σ δ s) (G : Good0 (d + 1) A fl)
    (h : WS ⟨⟨g, f.env :: fl, f⟩, d, X⟩ body (retQ Q) l σ) :
    wpAny (model g.prog g.w) (A.deeper f.env) (execs body f.env) (fun fw s' => CRes g fl σ δ s.heap Q X (.ok (.ret (match fw with | .ret v => v | _ => .none))) s')
      (fun e s' => wpAny (model g.prog g.w) (A.deeper f.env) (leaving f.env e) (fun q_ s'' => CRes g fl σ δ s.heap Q X (.error e) s'') (fun e' s'' => CRes g fl σ δ s.heap Q X (.error e') s'') s') { s with heap := h0, toks := tk } := by
  refine wpAny_mono (h (A.deeper _) _ δ (G.deeper _) (N.fs C)) (fun fw s' ⟨w, l', σ', δ', hR, F', E', q⟩ => ?_) (fun e s' x => leave_flies G.frames N x)
  have cs : CS g fl σ' δ' s' := ⟨F'.sim, ⟨fun e he => F'.fr.all e (.tail _ he)⟩, F'.gens, F'.os⟩
  have ev := N.evo E'
  cases hR with
  | next => exact ⟨.none, σ', δ', .none, cs, ev, q⟩
  | brk => exact q.elim
  | cont => exact q.elim
  | ret hv => exact ⟨_, σ', δ', hv, cs, ev, q⟩

inductive BdRel (h : Heap) : List (Str × V) → List (Str × Value) → Prop
  | nil : BdRel h [] []
  | cons {x v r bs rs} (hv : VRel h v r) (hs : BdRel h bs rs) : BdRel h ((x, v) :: bs) ((x, r) :: rs)
noncomputable def bindLoc (bs : List (Str × V)) : Loc := fun x => bs.reverse.lookup x
section
variable {h h' : Heap} {bs : List (Str × V)} {rs : List (Str × Value)}
theorem BdRel.snoc {x : Str} {v : V} {r : Value} (hv : VRel h v r) (y : BdRel h bs rs) : BdRel h (bs ++ [(x, v)]) (rs ++ [(x, r)]) := by
  induction y with
  | nil => exact .cons hv .nil
  | cons a _ ih => exact .cons a ih
theorem BdRel.rev (y : BdRel h bs rs) : BdRel h bs.reverse rs.reverse := by
  induction y with
  | nil => exact .nil
  | cons a _ ih => rw [List.reverse_cons, List.reverse_cons]; exact BdRel.snoc a ih
theorem BdRel.look (y : BdRel h bs rs) {x v} (e : bs.lookup x = some v) : ∃ r, rs.lookup x = some r ∧ VRel h v r := by
  induction y with
  | nil => cases e
  | cons a _ ih =>
    rw [List.lookup_cons] at e ⊢
    split at e
    · cases e; exact ⟨_, rfl, a⟩
    · exact ih e
theorem BdRel.names (y : BdRel h bs rs) : rs.map (·.1) = bs.map (·.1) := by
  induction y with
  | nil => rfl
  | cons a _ ih => rw [List.map_cons, List.map_cons, ih]
end
noncomputable def fnK (K : Frag) (fn : Addr) (fd : FuncData) : Prop := X3 fun oc od sl => K.lookup fn = some ⟨oc, od, .func fd, sl⟩

theorem WCall.enter {d fn args} {Q : V → MH → Prop} {X : MH → Prop} {fd : FuncData} {body : List PySem.Stmt} {bs : List (Str × V)} (hfn : fnK g.K fn fd) (hcd : codeIn g.K fd.code fd.qualname = true) (hbody : fd.body = .stmts body)
    (hgl : fd.globals = mainGlobals) (hbu : fd.builtins = builtinsNs)
    (hb : ∀ (s : Shared) rargs, g.K.In s.heap → VsRel s.heap args rargs → ∃ rs, BindsTo s fd ⟨rargs, []⟩ rs ∧ BdRel s.heap bs rs)
    (hcell : ∀ x ∈ fd.scope.names, x.2 ≠ .cell) (hloc : ∀ x ∈ bs, fd.scope.names.lookup x.1 = some .local)
    (hco : fd.scope.isCoroutine = false) (hgen : fd.scope.isGenerator = false) (hk : fd.scope.kind = .function)
    (h : ∀ L fl, WS ⟨⟨g, callEnv fd L fn :: fl, ⟨callEnv fd L fn, [L]⟩⟩, d, X⟩ body (retQ Q) (bindLoc bs) σ) : WCall g (d + 1) fn args Q X σ := fun A fl s δ rargs G C hv => by
  obtain ⟨oc, od, sl, hl⟩ := hfn
  have KI : g.K.In s.heap := g.inK.keeps C.sim.keep
  obtain ⟨rs, hb1, hb2⟩ := hb s rargs KI hv
  have hlr : ∀ x ∈ rs, fd.scope.names.lookup x.1 = some .local := fun x hx => by
    have : x.1 ∈ bs.map (·.1) := by rw [← hb2.names]; exact List.mem_map_of_mem hx
    obtain ⟨y, hy, e⟩ := List.mem_map.mp this
    rw [← e]; exact hloc y hy
  refine codeAny_call_def (body := body) (by have := G.depth; show A.depth < 1000; lia) (KI _ _ hl) rfl (g.top.nolimit.keeps C.sim.keep) (codeRec_of KI hcd) hbody hb1 hcell hlr (fun h0 hn hk0 => ?_) hco hgen hk
  obtain ⟨oL, es, ep, h1, h2, h3, h4⟩ := id hn
  refine NewFr.body (f := ⟨callEnv fd s.heap.objs.size fn, [s.heap.objs.size]⟩) ⟨hk0, ⟨hk, hgl, hbu, .head _⟩, ⟨_, hn, fun x v e => ?_, fun x c q => absurd rfl (hcell _ (mem_of_lookup q))⟩, fun b hb => ?_, rfl, .head _, ⟨_, hn⟩⟩ C G (h _ _)
  · obtain ⟨r, e1, e2⟩ := hb2.rev.look e
    exact .loc (hloc (x, v) (List.mem_reverse.mp (mem_of_lookup e))) r e1 (e2.mono fun b o e q_ => hk0 b o e)
  · rw [List.mem_singleton.mp hb]; exact ⟨Nat.le_refl _, oL, h1, notTup_dict h2⟩

section
variable {k : Str → Option NameKind}
theorem bindL_other {x : Str} : ∀ {rs : List (Str × Value)} {m : Str → Option Value}, x ∉ rs.map (·.1) → bindL k rs m x = m x
  | [], _, _ => rfl
  | (n, v) :: r, m, h => by
    unfold bindL
    rw [bindL_other fun z => h (.tail _ z)]
    split
    · exact if_neg fun z : x = n => h (z ▸ .head _)
    · rfl
theorem bindC_other {x : Str} : ∀ {rs : List (Str × Value)} {m : Str → Option Value}, x ∉ rs.map (·.1) → bindC k rs m x = m x
  | [], _, _ => rfl
  | (n, v) :: r, m, h => by
    unfold bindC
    rw [bindC_other fun z => h (.tail _ z)]
    split
    · rfl
    · exact if_neg fun z : x = n => h (z ▸ .head _)
theorem bindL_mem {x : Str} {v : Value} (hk : k x = some .local) : ∀ {rs : List (Str × Value)} {m : Str → Option Value}, (rs.map (·.1)).Nodup → (x, v) ∈ rs → bindL k rs m x = some v
  | (n, w) :: r, m, nd, h => by
    rw [List.map_cons, List.nodup_cons] at nd
    unfold bindL
    rcases List.mem_cons.mp h with h | h
    · cases h
      rw [bindL_other nd.1, if_pos hk]; exact if_pos rfl
    · exact bindL_mem hk nd.2 h
theorem bindC_mem {x : Str} {v : Value} (hk : k x ≠ some .local) : ∀ {rs : List (Str × Value)} {m : Str → Option Value}, (rs.map (·.1)).Nodup → (x, v) ∈ rs → bindC k rs m x = some v
  | (n, w) :: r, m, nd, h => by
    rw [List.map_cons, List.nodup_cons] at nd
    unfold bindC
    rcases List.mem_cons.mp h with h | h
    · cases h
      rw [bindC_other nd.1, if_neg hk]; exact if_pos rfl
    · exact bindC_mem hk nd.2 h
end
set_option tactic.hygienic true in
theorem cellsFrom_some {x : Str} : ∀ (names : List (Str × NameKind)) (n : Nat) (acc : List (Str × Addr)), ((x, NameKind.cell) ∈ names ∨ ∃ c, acc.lookup x = some c) → ∃ c, (cellsFrom n names acc).lookup x = some c
  | [], _, _, h => h.elim (fun h => nomatch h) id
  | (y, k) :: r, n, acc, h => by
    unfold cellsFrom
    split
    · refine cellsFrom_some r _ _ ?_
      by_cases z : x = y
      · exact .inr ⟨_, by rw [List.lookup_cons, z, beq_self_eq_true]⟩
      · exact h.elim (fun h => .inl ((List.mem_cons.mp h).elim (fun e => (z (Prod.mk.inj e).1).elim) id)) fun ⟨c, h⟩ => .inr ⟨c, by rw [List.lookup_cons, beq_eq_false_iff_ne.mpr z]; exact h⟩
    · rename_i hk
      exact cellsFrom_some r _ _ (h.imp_left fun h => (List.mem_cons.mp h).elim (fun e => absurd (show (k == NameKind.cell) = true by rw [← (Prod.mk.inj e).2]; rfl) hk) id)
noncomputable def cellAddrs (fd : FuncData) (L : Addr) : List Addr := (fd.scope.names.filter fun x => x.2 == .cell).filterMap fun x => (cellsFrom (L + 1) fd.scope.names []).lookup x.1
theorem mem_cellAddrs {fd : FuncData} {L c : Addr} : c ∈ cellAddrs fd L ↔ ∃ x, (x, NameKind.cell) ∈ fd.scope.names ∧ (cellsFrom (L + 1) fd.scope.names []).lookup x = some c := by
  unfold cellAddrs
  rw [List.mem_filterMap]
  constructor
  · rintro ⟨⟨x, k⟩, h1, h2⟩
    obtain ⟨h3, h4⟩ := List.mem_filter.mp h1
    have hk : k = .cell := by cases k <;> first | rfl | cases h4
    exact ⟨x, hk ▸ h3, h2⟩
  · rintro ⟨x, h1, h2⟩
    exact ⟨(x, .cell), List.mem_filter.mpr ⟨h1, rfl⟩, h2⟩
theorem WCall.enterC {d fn args} {Q : V → MH → Prop} {X : MH → Prop} {fd : FuncData} {body : List PySem.Stmt} {bs : List (Str × V)} (hfn : fnK g.K fn fd) (hcd : codeIn g.K fd.code fd.qualname = true) (hbody : fd.body = .stmts body)
    (hgl : fd.globals = mainGlobals) (hbu : fd.builtins = builtinsNs) (hclo : fd.closure = [])
    (hb : ∀ rargs : List Value, rargs.length = args.length → ∃ rs, bindArgs fd ⟨rargs, []⟩ = pure rs ∧ ∀ h, VsRel h args rargs → BdRel h bs rs)
    (hnd : (bs.map (·.1)).Nodup) (hloc : ∀ x ∈ bs, fd.scope.names.lookup x.1 = some .local ∨ fd.scope.names.lookup x.1 = some .cell)
    (hco : fd.scope.isCoroutine = false) (hgen : fd.scope.isGenerator = false) (hk : fd.scope.kind = .function)
    (h : ∀ L fl, CellsOwn ⟨callEnvC fd L fn, L :: cellAddrs fd L⟩ → WS ⟨⟨g, callEnvC fd L fn :: fl, ⟨callEnvC fd L fn, L :: cellAddrs fd L⟩⟩, d, X⟩ body (retQ Q) (bindLoc bs) σ) : WCall g (d + 1) fn args Q X σ := fun A fl s δ rargs G C hv => by
  obtain ⟨oc, od, sl, hl⟩ := hfn
  have KI : g.K.In s.heap := g.inK.keeps C.sim.keep
  obtain ⟨rs, hb1, hb2⟩ := hb rargs hv.length
  have hb2' := hb2 _ hv
  have hnames := hb2'.names
  have hcs : ∀ x, fd.scope.names.lookup x = some .cell → ∃ c, (cellsFrom (s.heap.objs.size + 1) fd.scope.names []).lookup x = some c := fun x e => cellsFrom_some _ _ _ (.inl (mem_of_lookup e))
  have hlr : ∀ x ∈ rs, fd.scope.names.lookup x.1 = some .local ∨ (fd.scope.names.lookup x.1 = some .cell ∧ ((cellsFrom (s.heap.objs.size + 1) fd.scope.names []).lookup x.1).isSome = true) := fun x hx => by
    have : x.1 ∈ bs.map (·.1) := by rw [← hnames]; exact List.mem_map_of_mem hx
    obtain ⟨y, hy, e⟩ := List.mem_map.mp this
    rw [← e]
    exact (hloc y hy).imp id fun q => ⟨q, Option.isSome_iff_exists.mpr (hcs _ q)⟩
  refine codeAny_call_cells (body := body) (by have := G.depth; show A.depth < 1000; lia) (KI _ _ hl) rfl (g.top.nolimit.keeps C.sim.keep) (codeRec_of KI hcd) hbody hb1 hclo hlr (fun s1 I => ?_) hco hgen hk
  obtain ⟨⟨⟨h0, tk, rfl⟩, hn, hk0, hfr⟩, hcell, hapart, habove⟩ := I
  obtain ⟨oL, es, ep, h1, h2, h3, h4⟩ := id hn
  have cellAt : ∀ x c, (callEnvC fd s.heap.objs.size fn).cells.lookup x = some c → s.heap.objs.size < c := fun x c e => habove x c (mem_of_lookup e)
  have own : CellsOwn ⟨callEnvC fd s.heap.objs.size fn, s.heap.objs.size :: cellAddrs fd s.heap.objs.size⟩ := fun x e => by
    obtain ⟨c, hc⟩ := hcs x e
    exact ⟨c, hc, .tail _ (mem_cellAddrs.mpr ⟨x, mem_of_lookup e, hc⟩), fun y hy => name_of_addr hapart (mem_of_lookup hy) (mem_of_lookup hc)⟩
  have hndr : (rs.map (·.1)).Nodup := by rw [hnames]; exact hnd
  have kt : ∀ b o, s.heap.get? b = some o → IsTup o → h0.get? b = some o := fun b o e q_ => hk0 b o e
  refine NewFr.body (f := ⟨callEnvC fd s.heap.objs.size fn, s.heap.objs.size :: cellAddrs fd s.heap.objs.size⟩) ⟨hk0, ⟨hk, hgl, hbu, .head _⟩, ⟨_, hn, fun x v e => ?_, fun x c q e => ⟨_, hcell x c e⟩⟩, fun b hb => ?_, rfl, .head _, ⟨_, hn⟩⟩ C G (h _ _ own)
  · obtain ⟨r, e1, e2⟩ := hb2'.rev.look e
    have hm : (x, r) ∈ rs := List.mem_reverse.mp (mem_of_lookup e1)
    rcases hloc _ (List.mem_reverse.mp (mem_of_lookup e)) with q | q
    · exact .loc q r (bindL_mem q hndr hm) (e2.mono kt)
    · obtain ⟨c, hc⟩ := hcs x q
      have := hcell x c hc
      rw [bindC_mem (fun z => by rw [show (callEnvC fd s.heap.objs.size fn).kindOf x = fd.scope.names.lookup x from rfl, q] at z; cases z) hndr hm] at this
      exact .cell (.inl q) c r hc this (e2.mono kt)
  · rcases List.mem_cons.mp hb with rfl | hb
    · exact ⟨Nat.le_refl _, oL, h1, notTup_dict h2⟩
    · obtain ⟨y, _, hy⟩ := mem_cellAddrs.mp hb
      obtain ⟨oc', w1, w2⟩ := hcell y b hy
      exact ⟨Nat.le_of_lt (cellAt y b hy), oc', w1, notTup_cell w2⟩
end
end Mn
set_option genInjectivity false
namespace Mn
open PySem.SeqAt

theorem notTup_slots {o : Obj} {sl} (h : ¬ IsTup o) : ¬ IsTup { o with slots := sl } := fun ⟨a, vs, n, b⟩ => h ⟨a, vs, n, b⟩
theorem Evo.weak {fl} {fa fa' : List Addr} {σ δ h σ' δ' h'} (E : Evo fl fa σ δ h σ' δ' h') (k : ∀ b ∈ fa, b ∈ fa') : Evo fl fa' σ δ h σ' δ' h' :=
  ⟨fun b o e n q => E.slots b o e n fun z => q (k b z), fun b o e n q => E.keep b o e n fun z => q (k b z), E.own, E.dom, E.live⟩
theorem Flies.weak {g fl} {fa fa' : List Addr} {σ δ h X ev s'} (k : ∀ b ∈ fa, b ∈ fa') (x : Flies g fl fa σ δ h X ev s') : Flies g fl fa' σ δ h X ev s' := by
  obtain ⟨ea, σ', δ', hr, B, Z, e, x, y, a, b⟩ := x
  refine ⟨ea, σ', δ', hr, B, Z, e, x, { y with evo := y.evo.weak k, zs := fun z hz => ?_ }, a, b⟩
  have w := y.zs z hz
  exact { w with whose := w.whose.imp_right fun a => a.imp_right (k _) }
section
variable {κ : Cx} {l : Loc} {σ σ' : MH} {δ δ' : DM} {s s' : Shared} {Q : V → Loc → MH → Prop}
structure Apart (f : Frm) (h : Heap) (c : Addr) : Prop where
  fa : c ∉ f.fa
  at_ : ∃ o, h.get? c = some o ∧ ¬ IsTup o
  cell : ∀ v, ¬ h.IsCell c v
theorem FS.afterG {φ : Fx} {fa' : List Addr} (F : FS φ l σ δ s) (C : CS φ.g φ.fl σ' δ' s') (E : Evo φ.fl fa' σ δ s.heap σ' δ' s'.heap) (hfa : ∀ c ∈ fa', Apart φ.f s.heap c) : FS φ l σ' δ' s' := by
  have at_ : ∀ b o, b ∈ φ.f.fa → s.heap.get? b = some o → ¬ Dom σ δ b → ∃ sl, s'.heap.get? b = some { o with slots := sl } := fun b o hb e n => by
    by_cases q : Fl φ.fl b
    · exact E.slots b o e (fun z => n z.dom) (fun z => (hfa b z).fa hb) q
    · exact ⟨o.slots, E.keep b o e (fun z => n z.dom) (fun z => (hfa b z).fa hb) q⟩
  have kt := E.tups F.sim (fun b hb => (hfa b hb).at_) F.fr
  have kc : ∀ c v, s.heap.IsCell c v → s'.heap.IsCell c v := fun c v ⟨oc, h2, h3⟩ => by
    refine ⟨oc, E.keep c oc h2 (fun z => ?_) (fun z => (hfa c z).cell v ⟨oc, h2, h3⟩) fun z => ?_, h3⟩
    · obtain ⟨o, c1, _, c3⟩ := F.sim.ownAt z
      rw [h2] at c1; cases c1; exact c3 _ h3
    · obtain ⟨_, _, o2, es2, n2, q1, q2, _⟩ := F.fr.at z
      rw [h2] at q1; cases q1; rw [h3] at q2; cases q2
  refine ⟨C.sim, F.envOk, ?_, fun b hb => ?_, C.fr, C.gens, C.os⟩
  · obtain ⟨m, ⟨o, es, ep, ho, r⟩, hl, hce⟩ := F.loc
    obtain ⟨sl, q⟩ := at_ _ o F.envOk.locals ho (F.fa _ F.envOk.locals).dom
    refine ⟨m, ⟨_, es, ep, q, r⟩, fun y v hy => ?_, fun y c k e => ?_⟩
    · cases hl y v hy with
      | loc hk rv h1 h2 => exact .loc hk rv h1 (h2.mono kt)
      | cell hk c rv h1 h2 h3 => exact .cell hk c rv h1 (kc _ _ h2) (h3.mono kt)
    · obtain ⟨v0, h2⟩ := hce y c k e
      exact ⟨v0, kc _ _ h2⟩
  · obtain ⟨h1, h2, o, h3, h4⟩ := F.fa b hb
    obtain ⟨sl, q⟩ := at_ _ o hb h3 h2
    exact ⟨h1, E.notDom h3 h2, _, q, notTup_slots h4⟩
theorem FS.after {φ : Fx} (F : FS φ l σ δ s) (C : CS φ.g φ.fl σ' δ' s') (E : Evo φ.fl [] σ δ s.heap σ' δ' s'.heap) : FS φ l σ' δ' s' := F.afterG C E fun q_ h => nomatch h

noncomputable def tcall (rs : List Value) : Sem Value := call (rs.getD 0 .none) (rs.drop 1)
theorem PV.fn {d fn args} {Q : V → MH → Prop} (h : WCall κ.φ.g d fn args Q κ.X σ) (hd : d ≤ κ.d) : PV κ tcall (.ref fn :: args) Q σ := fun A s δ l rs G F hv => by
  obtain ⟨rf, ra, hf, hvs⟩ := hv.cons_inv
  rw [hf.ref_inv]
  refine wpAny_call (codeAny_mono (h A κ.φ.fl s δ ra (G.le hd) F.cs hvs) fun r s' z => ?_)
  cases r with
  | error e => exact Flies.weak (fa := []) (fun q_ h => nomatch h) z
  | ok w =>
    cases w with
    | ret rv =>
      obtain ⟨v, σ', δ', h1, h2, h3, h4⟩ := z
      exact ⟨v, l, σ', δ', h1, F.after h2 h3, h3.weak (fun q_ h => nomatch h), rfl, h4⟩
    | _ => exact z.elim

noncomputable def WArgs (κ : Cx) (es : List PySem.Expr) (Q : List V → Loc → MH → Prop) (l : Loc) (σ : MH) : Prop :=
  ∀ A s δ pos, Good κ A → FS κ.φ l σ δ s → At VsRel κ A (spliced (backTo pos (starEach es κ.φ.f.env))) Q σ δ s
theorem WArgs.nil {Q : List V → Loc → MH → Prop} (h : Q [] l σ) : WArgs κ [] Q l σ := fun q_ q_ q_ q_ q_ F => spliced_nil (Ok.here F .nil h)
theorem WArgs.cons {e rest} {Q : List V → Loc → MH → Prop} (h : WE κ e (fun v l1 σ1 => WArgs κ rest (fun vs l2 σ2 => Q (v :: vs) l2 σ2) l1 σ1) l σ)
    (he : starEach (e :: rest) κ.φ.f.env = (false, eval e κ.φ.f.env) :: starEach rest κ.φ.f.env) : WArgs κ (e :: rest) Q l σ := fun A s δ pos G F => by
  rw [he]
  refine spliced_cons (wpAny_mono (h A s δ G F) (fun rv s1 ⟨v, l1, σ1, δ1, hR, F1, E1, q1⟩ => ?_) fun q_ q_ e => e)
  exact wpAny_mono (q1 A s1 δ1 pos G F1) (fun rvs s2 ⟨vs, l2, σ2, δ2, hR2, F2, E2, q2⟩ => ⟨v :: vs, l2, σ2, δ2, .cons (hR.evo F1 E2) hR2, F2, E1.trans E2, q2⟩) fun q_ q_ e => e.trans E1

noncomputable def keepV (K : Frag) : V → Bool
  | .ref a => keepIn K (.ref a)
  | .typ _ => true
  | .bi _ => true
  | _ => false
theorem keepV_of {K : Frag} {fv : V} {rf : Value} {h0 : Heap} (hk : keepV K fv = true) (hR : VRel h0 fv rf) (h : Heap) (Y : K.In h) {M : Model} : ∃ k, (k = Keeper.frame ∨ k = Keeper.machine ∨ k = Keeper.boundFrame) ∧ Looks M h (keeperOf rf) k := by
  cases fv with
  | typ n => rw [hR.typ_inv]; exact ⟨.machine, .inr (.inl rfl), Looks.of_pure rfl⟩
  | bi n => rw [hR.bi_inv]; exact ⟨.machine, .inr (.inl rfl), Looks.of_pure rfl⟩
  | ref a => rw [hR.ref_inv]; exact keeps_K (show keepIn K (.ref a) = true from hk) h Y
  | _ => cases hk
theorem evalArgs_nil {M : Model} {A : Around} {s : Shared} {E : Value → Shared → Prop} {f : Value} {Q : Args → Shared → Prop} (h : wpAny M A (spliced []) (fun vs s' => Q ⟨vs, []⟩ s') E s) : wpAny M A (evalArgs f true [] []) Q E s := by
  unfold evalArgs
  show wpAny M A (spliced [] >>= _) Q E s
  refine wpAny_bind (wpAny_mono h (fun vs s' h' => wpAny_bind (wpAny_pure ?_)) fun q_ q_ x => x)
  refine wpAny_holding ?_
  exact wpAny_bind (wpAny_pure (wpAny_bind (wpAny_pure (wpAny_pure h'))))
theorem any_back {pos : Pos} : ∀ {xs : List (Bool × Sem Value)}, xs.all (fun x => !x.1) = true → ((backTo pos xs).any (·.1)) = false
  | [], _ => rfl
  | x :: r, hx => by
    rw [List.all_cons, Bool.and_eq_true, Bool.not_eq_true'] at hx
    show (x.1 || (backTo pos r).any (·.1)) = false
    rw [hx.1, any_back hx.2]; rfl
noncomputable def PVl (κ : Cx) (t : List Value → Sem Value) (vs : List V) (Q : V → Loc → MH → Prop) (l : Loc) (σ : MH) : Prop := ∀ A s δ rs, Good κ A → FS κ.φ l σ δ s → VsRel s.heap vs rs → At VRel κ A (t rs) Q σ δ s
theorem PV.toL {t vs} {Q : V → Loc → MH → Prop} (h : PV κ t vs (fun v σ' => Q v l σ') σ) : PVl κ t vs Q l σ := fun q_ q_ q_ q_ G F hv => h.run G F hv
noncomputable def Kept (κ : Cx) (fv : V) (σ : MH) : Prop := keepV κ.φ.g.K fv = true ∨ ∃ a o fd, A3 (fv = .ref a) (σ a = some (.raw o)) (o.data = .func fd)
theorem Kept.looks {fv : V} {rf : Value} {h : Heap} (K : Kept κ fv σ) (hR : VRel h fv rf) (S : Sim κ.φ.g σ δ h) {M : Model} : ∃ k, (k = Keeper.frame ∨ k = Keeper.machine ∨ k = Keeper.boundFrame) ∧ Looks M h (keeperOf rf) k := by
  rcases K with hk | ⟨a, o, fd, rfl, h1, h2⟩
  · exact keepV_of hk hR h (κ.φ.g.inK.keeps S.keep)
  · rw [hR.ref_inv]
    obtain ⟨cls, dict, data, slots⟩ := o
    cases h2
    exact ⟨.frame, .inl rfl, (Looks.ld (part := none) (S.rep _ _ h1).1).andThen .now⟩
theorem callWith_L {A : Around} {pos : Pos} {fv : V} {rf : Value} {first : List V} {rfirst : List Value} {args : List PySem.Expr} (G : Good κ A) (F : FS κ.φ l σ δ s) (hR : VRel s.heap fv rf) (hF : VsRel s.heap first rfirst)
    (h : WArgs κ args (fun vs l2 σ2 => Kept κ fv σ2 ∧ PVl κ tcall (fv :: (first ++ vs)) Q l2 σ2) l σ)
    (hplain : (starEach args κ.φ.f.env).all (fun x => !x.1) = true) : At VRel κ A (callWith pos rf rfirst (backTo pos (starEach args κ.φ.f.env)) []) Q σ δ s := by
  refine callWith_of (P := fun h => ∃ k, (k = Keeper.frame ∨ k = Keeper.machine ∨ k = Keeper.boundFrame) ∧ Looks (model κ.φ.g.prog κ.φ.g.w) h (keeperOf rf) k) (by rw [any_back hplain]; rfl) (fun h Y => Y) ?_
  have fin : wpAny (model κ.φ.g.prog κ.φ.g.w) A (spliced (backTo pos (starEach args κ.φ.f.env))) (fun vs s₁ => (∃ k, (k = Keeper.frame ∨ k = Keeper.machine ∨ k = Keeper.boundFrame) ∧ Looks (model κ.φ.g.prog κ.φ.g.w) s₁.heap (keeperOf rf) k) ∧ wpAny (model κ.φ.g.prog κ.φ.g.w) A (call rf (rfirst ++ vs)) (Ok VRel κ.φ σ δ s.heap Q) (FlX κ σ δ s.heap) s₁) (FlX κ σ δ s.heap) s := by
    refine wpAny_mono (h A s δ pos G F) (fun rvs s1 ⟨vs, l1, σ1, δ1, hR1, F1, E1, q0, q1⟩ => ⟨q0.looks (hR.evo F E1) F1.sim, ?_⟩) fun q_ q_ e => e
    exact wpAny_mono (q1 A s1 δ1 _ G F1 (.cons (hR.evo F E1) ((hF.evo F E1).append hR1))) (fun rv s2 ⟨v, l2, σ2, δ2, hR2, F2, E2, q2⟩ => ⟨v, l2, σ2, δ2, hR2, F2, E1.trans E2, q2⟩) fun q_ q_ e => e.trans E1
  cases hs : starEach args κ.φ.f.env with
  | nil =>
    rw [hs] at fin
    exact evalArgs_nil fin
  | cons x r =>
    rw [hs] at fin hplain
    obtain ⟨b, t⟩ := x
    rw [List.all_cons, Bool.and_eq_true, Bool.not_eq_true'] at hplain
    obtain ⟨rfl, _⟩ := hplain
    exact evalArgs_plain fin
theorem callWith_at {A : Around} {pos : Pos} {fv : V} {rf : Value} {first : List V} {rfirst : List Value} {args : List PySem.Expr} (G : Good κ A) (F : FS κ.φ l σ δ s) (hk : keepV κ.φ.g.K fv = true) (hR : VRel s.heap fv rf) (hF : VsRel s.heap first rfirst)
    (h : WArgs κ args (fun vs l2 σ2 => PV κ tcall (fv :: (first ++ vs)) (fun v σ3 => Q v l2 σ3) σ2) l σ)
    (hplain : (starEach args κ.φ.f.env).all (fun x => !x.1) = true) : At VRel κ A (callWith pos rf rfirst (backTo pos (starEach args κ.φ.f.env)) []) Q σ δ s :=
  callWith_L G F hR hF (fun A s δ pos G F => (h A s δ pos G F).mono fun q_ q_ q_ q => ⟨.inl hk, PV.toL q⟩) hplain
theorem WE.callL {fe : PySem.Expr} {args pos} (h : WE κ fe (fun fv l1 σ1 => WArgs κ args (fun vs l2 σ2 => Kept κ fv σ2 ∧ PVl κ tcall (fv :: vs) Q l2 σ2) l1 σ1) l σ)
    (he : eval (.Call fe args [] pos) κ.φ.f.env = (do callWith pos (← eval fe κ.φ.f.env) [] (backTo pos (starEach args κ.φ.f.env)) []))
    (hp : (starEach args κ.φ.f.env).all (fun x => !x.1) = true) : WE κ (.Call fe args [] pos) Q l σ := fun A s δ G F => by
  rw [he]
  exact At.bind (h A s δ G F) fun fv rf l1 σ1 δ1 s1 hR F1 E1 q1 => callWith_L (first := []) G F1 hR .nil q1 hp
theorem WE.call {fe : PySem.Expr} {args pos} (h : WE κ fe (fun fv l1 σ1 => keepV κ.φ.g.K fv = true ∧ WArgs κ args (fun vs l2 σ2 => PV κ tcall (fv :: vs) (fun v σ3 => Q v l2 σ3) σ2) l1 σ1) l σ)
    (he : eval (.Call fe args [] pos) κ.φ.f.env = (do callWith pos (← eval fe κ.φ.f.env) [] (backTo pos (starEach args κ.φ.f.env)) []))
    (hp : (starEach args κ.φ.f.env).all (fun x => !x.1) = true) : WE κ (.Call fe args [] pos) Q l σ := fun A s δ G F => by
  rw [he]
  exact At.bind (h A s δ G F) fun fv rf l1 σ1 δ1 s1 hR F1 E1 q1 => callWith_at (first := []) G F1 q1.1 hR .nil q1.2 hp

noncomputable def clsFnK (K : Frag) (C : Addr) (mc : Value) (x : Str) (fn : Addr) : Prop := specialIn K (.ref C) "__getattribute__" = some (some (.builtin "type.__getattribute__")) ∧ readsIn K C mc = true ∧ findCls K (.ref C) mc x = some (.val (.ref fn)) ∧ keepIn K (.ref fn) = true
theorem WE.methI {o : PySem.Expr} {name apos args pos} (h : WE κ o (fun ov l1 σ1 => X4 fun a C fs fn => A5 (ov = .ref a) (σ1 a = some (.inst C fs)) (methK κ.φ.g.K C name fn = true) (getF fs name = none) (WArgs κ args (fun vs l2 σ2 => PV κ tcall (.ref fn :: .ref a :: vs) (fun v σ3 => Q v l2 σ3) σ2) l1 σ1)) l σ) {pl : Sem Bool}
    (he : eval (.Call (.Attribute o name apos) args [] pos) κ.φ.f.env = (do
      let ov ← eval o κ.φ.f.env
      standAt apos.atName
      let (f', first) ← holding [ov] (getMethod ov name pl)
      callWith pos f' first (backTo pos (starEach args κ.φ.f.env)) (backToKw pos (keywordEach [] κ.φ.f.env))))
    (hp : (starEach args κ.φ.f.env).all (fun x => !x.1) = true) : WE κ (.Call (.Attribute o name apos) args [] pos) Q l σ := fun A s δ G F => by
  rw [he]
  refine At.bind (h A s δ G F) fun ov ro l1 σ1 δ1 s1 hR F1 E1 q1 => At.standAt ?_
  obtain ⟨a, C, fs, fn, rfl, hσ, hm, hx, q1⟩ := q1
  rw [hR.ref_inv]
  obtain ⟨ox, dx, es, n, I, h1, h2, h3, h4, _⟩ := F1.sim.instAt hσ
  unfold methK at hm
  simp only [Bool.and_eq_true, beq_iff_eq] at hm
  obtain ⟨⟨⟨k1, k2⟩, k3⟩, k4⟩ := hm
  refine wpAny_bind (wpAny_holding (method_fn F1.inK I (plainGet_of k1).1 (plainGet_of k1).2 k2 (beq_iff_eq.mp k3) (by show (lookIn name (dictOf es n)).map _ = _; rw [lookIn_dict, h4.none hx]; rfl) ?_))
  exact callWith_at (fv := .ref fn) (first := [.ref a]) G F1 (show keepIn κ.φ.g.K (.ref fn) = true from k4) (.ref fn) (.cons (.ref a) .nil) q1 hp
theorem WE.methC {o : PySem.Expr} {name apos args pos mc} (h : WE κ o (fun ov l1 σ1 => X2 fun C fn => A3 (ov = .ref C) (clsFnK κ.φ.g.K C mc name fn) (WArgs κ args (fun vs l2 σ2 => PV κ tcall (.ref fn :: vs) (fun v σ3 => Q v l2 σ3) σ2) l1 σ1)) l σ) {pl : Sem Bool}
    (he : eval (.Call (.Attribute o name apos) args [] pos) κ.φ.f.env = (do
      let ov ← eval o κ.φ.f.env
      standAt apos.atName
      let (f', first) ← holding [ov] (getMethod ov name pl)
      callWith pos f' first (backTo pos (starEach args κ.φ.f.env)) (backToKw pos (keywordEach [] κ.φ.f.env))))
    (hp : (starEach args κ.φ.f.env).all (fun x => !x.1) = true) : WE κ (.Call (.Attribute o name apos) args [] pos) Q l σ := fun A s δ G F => by
  rw [he]
  refine At.bind (h A s δ G F) fun ov ro l1 σ1 δ1 s1 hR F1 E1 q1 => At.standAt ?_
  obtain ⟨C, fn, rfl, ⟨k1, k2, k3, k4⟩, q1⟩ := q1
  rw [hR.ref_inv]
  refine wpAny_bind (wpAny_holding (method_cls F1.inK k1 (cls_value F1.inK k2 k3 rfl ?_)))
  show At VRel κ A (callWith pos (.ref fn) [] (backTo pos (starEach args κ.φ.f.env)) []) Q σ1 δ1 { s1 with toks := s1.toks + 1 }
  exact callWith_at (fv := .ref fn) (first := []) G (F1.tk (s1.toks + 1)) (show keepIn κ.φ.g.K (.ref fn) = true from k4) (.ref fn) .nil q1 hp

noncomputable def makeK (K : Frag) (C fI : Addr) : Bool := makesIn K C && findIn K (.ref C) "__init__" == some (some (.ref fI)) && typeIn K (.ref fI) == some (.type "function") && keepIn K (.ref C)
theorem under_make {d fl} (A : Around) (C : Addr) (rest : List Value) (G : Good0 (d + 1) A fl) : Good0 d (A.under (.builtin "type.__call__" ⟨.ref C :: rest, []⟩)) fl := by
  have e1 : (Code.builtin "type.__call__" ⟨.ref C :: rest, []⟩).weight = 1 := by kernel_rfl
  have e2 : (Code.builtin "type.__call__" ⟨.ref C :: rest, []⟩).cUnits = 1 := by kernel_rfl
  have e3 : (Code.builtin "type.__call__" ⟨.ref C :: rest, []⟩).envs = [] := by kernel_rfl
  refine ⟨?_, G.handled, ?_, ?_⟩
  · show pushEnvs (Code.builtin "type.__call__" ⟨.ref C :: rest, []⟩).envs A.frames = some fl
    rw [e3, G.frames]; rfl
  · show A.depth + (Code.builtin "type.__call__" ⟨.ref C :: rest, []⟩).weight + d ≤ 900
    rw [e1]; have := G.depth; lia
  · show A.units + (Code.builtin "type.__call__" ⟨.ref C :: rest, []⟩).cUnits + 10 * d ≤ 9000
    rw [e2]; have := G.units; lia
theorem PV.make {d C fI args} {Q : V → MH → Prop} (hm : makeK κ.φ.g.K C fI = true) (hd : d + 1 ≤ κ.d) (h : ∀ a, σ a = none → WCall κ.φ.g d fI (.ref a :: args) (fun v σ' => v = .none ∧ Q (.ref a) σ') κ.X (upd σ a (.inst C []))) : PV κ tcall (.ref C :: args) Q σ := fun A s δ l rs G F hv => by
  obtain ⟨rf, ra, hf, hvs⟩ := hv.cons_inv
  rw [hf.ref_inv]
  unfold makeK at hm
  simp only [Bool.and_eq_true, beq_iff_eq] at hm
  obtain ⟨⟨⟨k1, k2⟩, k3⟩, k4⟩ := hm
  obtain ⟨hh, gs, dr, t, os⟩ := s
  refine wpAny_call (make_core (makes_of F.inK k1) (looks_findIn F.inK k2) (fun self => bind_fn F.inK self k3) (.inl rfl) ?_)
  have k : ∀ b o, hh.get? b = some o → ((hh.push emptyDict).push (instObj C hh.objs.size)).get? b = some o := fun b o e => Heap.get?_push_of_some _ (Heap.get?_push_of_some _ e)
  have hx : ((hh.push emptyDict).push (instObj C hh.objs.size)).get? (hh.objs.size + 1) = some (instObj C hh.objs.size) := by heap_get
  have hdx : ((hh.push emptyDict).push (instObj C hh.objs.size)).get? hh.objs.size = some emptyDict := Heap.get?_push_of_some _ (Heap.get?_push_size _ rfl)
  have fin := F.new (tk := t) (δ' := upd δ hh.objs.size (hh.objs.size + 1)) (a := hh.objs.size + 1) (o := .inst C []) k (Nat.le_succ _) ⟨_, _, [], 0, hx, rfl, rfl, rfl, upd_same .., hdx, .nil⟩
    (fun b x e => upd_cases e (fun z w => by subst z w; exact .inr ⟨Nat.le_refl _, Nat.ne_of_lt (Nat.lt_succ_self _), rfl, ⟨C, [], rfl⟩, _, hx, rfl⟩) fun q_ e => .inl e)
    (fun b x e => (upd_ne _ _ fun z => some_not_none e (by rw [z]; exact F.sim.freshδ (Nat.le_refl _))).trans e)
  refine codeAny_mono (h (hh.objs.size + 1) (F.sim.freshσ (Nat.le_succ _)) _ κ.φ.fl _ _ (.ref (hh.objs.size + 1) :: ra) (under_make A C ra (G.le hd)) fin.1.cs (.cons (.ref _) (hvs.mono fun b o e q_ => k b o e))) fun r s' z => ?_
  cases r with
  | error e => exact Flies.trans fin.2 (Flies.weak (fa := []) (fun q_ h => nomatch h) z)
  | ok w =>
    cases w with
    | ret rv =>
      obtain ⟨v', σ', δ', h1, h2, h3, rfl, q⟩ := z
      rw [h1.none_inv]
      exact ⟨rfl, .ref _, l, σ', δ', .ref _, fin.1.after h2 h3, fin.2.trans (h3.weak (fun q_ h => nomatch h)), rfl, q⟩
    | _ => exact z.elim
end
end Mn
set_option genInjectivity false
namespace Mn
open PySem.SeqAt

section
variable {κ : Cx} {l : Loc} {σ : MH} {δ : DM} {Q : V → MH → Prop}
noncomputable def lst (σ : MH) (a : Addr) (xs : List V) : Prop := σ a = some (.list xs) ∨ σ a = some (.rlist xs)
inductive LstAt (h : Heap) (a : Addr) (xs : List V) : Prop
  | mk (vs : Array Value) (h1 : h.IsList a vs) (h2 : VsRel h xs vs.toList) (h3 : vs.size = xs.length)
theorem Sim.lst {g : G} {σ δ h} (S : Sim g σ δ h) {a : Addr} {xs : List V} (e : lst σ a xs) : LstAt h a xs := by
  rcases e with e | e
  · obtain ⟨vs, n, h1, h4⟩ := S.rep _ _ e; exact ⟨vs, ⟨_, h1, rfl, n, rfl⟩, h4, by rw [← h4.length, Array.length_toList]⟩
  · obtain ⟨o, vs, n, h1, h2, h3, h4⟩ := S.rep _ _ e; exact ⟨vs, ⟨o, h1, h2, n, h3⟩, h4, by rw [← h4.length, Array.length_toList]⟩
theorem PV.len_list {a xs} (hσ : lst σ a xs) (hz : xs.length < 2 ^ 60) (h : Q (.int xs.length) σ) : PV κ tcall [.bi "len", .ref a] Q σ := fun A s δ l rs G F hv => by
  obtain ⟨rf, ra, rfl, hf, ha⟩ := hv.two
  rw [hf.bi_inv, ha.ref_inv]
  obtain ⟨vs, h1, h2, h3⟩ := F.sim.lst hσ
  refine call_len_list h1 (by lia) ?_
  rw [h3]
  exact Ok.tok F (.int ..) ⟨rfl, h⟩
theorem PV.len_bytes {b : Array UInt8} (hz : b.size ≤ 2 ^ 30) (h : Q (.int b.size) σ) : PV κ tcall [.bi "len", .bytes b] Q σ := .ret (fun A s rs q_ hv P E hP => by
  obtain ⟨rf, ra, rfl, hf, ha⟩ := hv.two
  rw [hf.bi_inv]; obtain ⟨t, rfl⟩ := ha.bytes_inv
  exact W.len_bytes (by lia) (hP _ _ (.int ..))) h
theorem PV.int_bool {b : Bool} (h : Q (.int (if b = true then 1 else 0)) σ) : PV κ tcall [.typ "int", .bool b] Q σ := .ret (fun A s rs q_ hv P E hP => by
  obtain ⟨rf, ra, rfl, hf, ha⟩ := hv.two
  rw [hf.typ_inv, ha.bool_inv]
  exact call_int_bool (hP _ _ (.int ..))) h
theorem PV.min2 {a b : Int} (h : Q (.int (if b < a then b else a)) σ) : PV κ tcall [.bi "min", .int a, .int b] Q σ := fun A s δ l rs G F hv => by
  obtain ⟨rf, ra, hf, hvs⟩ := hv.cons_inv
  obtain ⟨t, u, rfl⟩ := hvs.int2
  rw [hf.bi_inv]
  refine min_two_ints G.handled fun h' tk hk => ?_
  have k := F.grow (tk := tk) hk
  refine ⟨_, l, σ, _, ?_, k.1, k.2, rfl, h⟩
  split <;> exact .int ..

inductive ClsOf (σ : MH) : V → Value → Prop
  | none : ClsOf σ .none (.type "NoneType")
  | bool (b) : ClsOf σ (.bool b) (.type "bool")
  | int (i) : ClsOf σ (.int i) (.type "int")
  | bytes (b) : ClsOf σ (.bytes b) (.type "bytes")
  | inst {a C fs} (h : σ a = some (.inst C fs)) : ClsOf σ (.ref a) (.ref C)
noncomputable def toVal : V → Value
  | .typ n => .type n
  | .ref a => .ref a
  | _ => .none
noncomputable def ownK (K : Frag) (D : Addr) : Bool := plainGet K D "__class__" && hasDictIn K D && findIn K (.ref D) "__class__" == some (some (.builtin "object.__class__")) &&
  specialIn K (.builtin "object.__class__") "__get__" == some (some (.builtin "getset_descriptor.__get__")) && takesIn K (.builtin "object.__class__") == some true && mroIn K D (.type "object") == some true
noncomputable def ownKV (K : Frag) : Value → Bool
  | .ref D => ownK K D
  | _ => true
theorem PV.isi {v c t b} (ht : ClsOf σ v t) (hc : ∀ h r, VRel h c r → r = toVal c) (ho : ownKV κ.φ.g.K t = true) (e : kitOne κ.φ.g.K t (toVal c) = some b) (h : Q (.bool b) σ) : PV κ tcall [.bi "isinstance", v, c] Q σ := fun A s δ l rs G F hv => by
  obtain ⟨rf, ra, hf, hvs⟩ := hv.cons_inv
  obtain ⟨rv, rc, rfl, hv, hcr⟩ := hvs.two
  rw [hf.bi_inv, hc _ _ hcr]
  have fin : ∀ tk, Ok VRel κ.φ σ δ s.heap (fun v l' σ' => l' = l ∧ Q v σ') (.bool b) { s with toks := tk } := fun tk => Ok.tok F (.bool _) ⟨rfl, h⟩
  cases ht with
  | none => rw [hv.none_inv]; exact kia_one kitx_none F.inK trivial e (fun q => nomatch q) fin
  | bool => rw [hv.bool_inv]; exact kia_one kitx_bool F.inK trivial e (fun q => nomatch q) fin
  | int => obtain ⟨t, rfl⟩ := hv.int_inv; exact kia_one kitx_int F.inK trivial e (fun q => nomatch q) fin
  | bytes => obtain ⟨t, rfl⟩ := hv.bytes_inv; exact kia_one kitx_bytes F.inK trivial e (fun q => nomatch q) fin
  | inst hσ =>
    rw [hv.ref_inv]
    obtain ⟨ox, dx, es, n, I, _⟩ := F.sim.instAt hσ
    have ho : ownK _ _ = true := ho
    simp only [ownK, Bool.and_eq_true, beq_iff_eq] at ho
    obtain ⟨⟨⟨⟨⟨k1, k2⟩, k3⟩, k4⟩, k5⟩, k6⟩ := ho
    exact kia_one (kitx_own k1 k2 k3 k4 k5 k6) F.inK I e (fun q => nomatch q) fin

noncomputable def isNone : V → Bool
  | .none => true
  | _ => false
theorem isSame_none {h : Heap} {v : V} {r : Value} (hR : VRel h v r) (hb : v.plain = true) : isSame r .none = pure (isNone v) := by
  cases hR with
  | bi => cases hb
  | _ => rfl
theorem PV.isNone {v : V} (hb : v.plain = true) (h : Q (.bool (Mn.isNone v)) σ) : PV κ (t2 (compareOp .Is)) [v, .none] Q σ := .ret (fun A s rs q_ hv P E hP => by
  obtain ⟨ra, rb, rfl, ha, hb'⟩ := hv.two
  rw [hb'.none_inv]
  show wpAny _ A (do return .bool (← isSame ra .none)) P E s
  rw [isSame_none ha hb]
  exact wpAny_bind (wpAny_pure (wpAny_pure (hP _ s.toks (.bool _))))) h
theorem PV.isNotNone {v : V} (hb : v.plain = true) (h : Q (.bool (!Mn.isNone v)) σ) : PV κ (t2 (compareOp .IsNot)) [v, .none] Q σ := .ret (fun A s rs q_ hv P E hP => by
  obtain ⟨ra, rb, rfl, ha, hb'⟩ := hv.two
  rw [hb'.none_inv]
  show wpAny _ A (do return .bool (!(← isSame ra .none))) P E s
  rw [isSame_none ha hb]
  exact wpAny_bind (wpAny_pure (wpAny_pure (hP _ s.toks (.bool _))))) h

open Classical in
noncomputable def decV (h : Heap) (xs : List V) (r : Value) : V := if p : ∃ y, y ∈ xs ∧ VRel h y r then p.choose else .none
open Classical in
theorem decV_of {h : Heap} {xs : List V} {r : Value} {y : V} (hy : y ∈ xs) (hr : VRel h y r) : decV h xs r ∈ xs ∧ VRel h (decV h xs r) r := by
  unfold decV
  have p : ∃ y, y ∈ xs ∧ VRel h y r := ⟨y, hy, hr⟩
  rw [dif_pos p]; exact p.choose_spec
theorem any_dec {n : Nat} {h : Heap} {ys : List V} {x : V} (c : ∀ y ∈ ys, Cq n y x) {xs : List V} {rs : List Value} (hs : VsRel h xs rs) (k : ∀ y ∈ xs, y ∈ ys) : rs.any (fun r => veq (decV h ys r) x) = xs.any (veq · x) := by
  induction hs with
  | nil => rfl
  | cons hv _ ih =>
    have a := decV_of (k _ (.head _)) hv
    rw [List.any_cons, List.any_cons, ih fun y hy => k y (.tail _ hy), Cq.fn (c _ a.1) (c _ (k _ (.head _))) a.2 hv]
theorem VsRel.mem {h : Heap} {xs : List V} {rs : List Value} (hs : VsRel h xs rs) {r} (m : r ∈ rs) : ∃ y, y ∈ xs ∧ VRel h y r := by
  obtain ⟨i, hi, rfl⟩ := List.getElem_of_mem m
  have e : xs[i]? = some (xs[i]'(by rw [← hs.length]; exact hi)) := List.getElem?_eq_getElem _
  exact ⟨_, List.mem_of_getElem? e, hs.at' i _ _ e (List.getElem?_eq_getElem hi)⟩
theorem ats {n : Nat} {A : Around} {s : Shared} {xs : List V} {x : V} {rx : Value} {vs : Array Value} (c : ∀ y ∈ xs, Cq n y x) (hs : VsRel s.heap xs vs.toList) (hx : VRel s.heap x rx) (hu : A.units + 1 + n < cLine) :
    ∀ y, y ∈ vs → EqAt A.in1 s y rx (veq (decV s.heap xs y) x) := fun y hy => by
  obtain ⟨v, a, b⟩ := hs.mem (Array.mem_toList_iff.mpr hy)
  have e := decV_of a b
  exact Cq.eqb (c _ e.1) e.2 hx hu
theorem PV.inList {n a xs x} (hσ : lst σ a xs) (c : ∀ y ∈ xs, Cq n y x) (hn : n ≤ 100) (h : Q (.bool (xs.any (veq · x))) σ) : PV κ (t2 (compareOp .In)) [x, .ref a] Q σ := fun A s δ l rs G F hv => by
  obtain ⟨rx, rb, rfl, hx, hb⟩ := hv.two
  rw [hb.ref_inv]
  obtain ⟨vs, h1, h2, _⟩ := F.sim.lst hσ
  refine in_listAt _ h1 (ats c h2 hx (by have := G.units; show A.units + 1 + n < 9900; lia)) ?_
  rw [← Array.any_toList, any_dec c h2 fun q_ h => h]
  exact Ok.here F (.bool _) ⟨rfl, h⟩
theorem PV.inTup {n xs x} (c : ∀ y ∈ xs, Cq n y x) (hn : n ≤ 100) (h : Q (.bool (xs.any (veq · x))) σ) : PV κ (t2 (compareOp .In)) [x, .tup xs] Q σ := fun A s δ l rs G F hv => by
  obtain ⟨rx, rb, rfl, hx, hb⟩ := hv.two
  obtain ⟨a, vs, ht, hl⟩ := hb.tup_inv
  refine in_tupleAt _ ht (ats c hl hx (by have := G.units; show A.units + 1 + n < 9900; lia)) ?_
  rw [← Array.any_toList, any_dec c hl fun q_ h => h]
  exact Ok.here F (.bool _) ⟨rfl, h⟩
noncomputable def PG (κ : Cx) (a b : V) (Q : V → MH → Prop) (σ : MH) : Prop :=
  ∀ A s δ l ra rb, Good κ A → FS κ.φ l σ δ s → VRel s.heap a ra → VRel s.heap b rb →
    (X2 fun T id => A3 (s.TypeIs ra T) (typeLookup (.type T) "__getitem__" = pure (some (.builtin id))) (ra ≠ .builtin "sys.modules#opaque")) ∧ At VRel κ A (getItem ra rb) (fun v l' σ' => l' = l ∧ Q v σ') σ δ s
theorem PG.list {a xs} {k : Int} {v : V} (hσ : lst σ a xs) (h0 : 0 ≤ k) (hk : k < 2 ^ 63) (hx : xs[k.toNat]? = some v) (h : Q v σ) : PG κ (.ref a) (.int k) Q σ := fun A s δ l ra rb G F ha hb => by
  rw [ha.ref_inv]; obtain ⟨t, rfl⟩ := hb.int_inv
  obtain ⟨vs, h1, h2, _⟩ := F.sim.lst hσ
  obtain ⟨r, h3, h4⟩ := h2.get hx
  exact ⟨⟨"list", _, h1.typeIs, slot_list_getitem.lookup, fun q => nomatch q⟩, wpAny_getItem_list h1 h0 hk (by rw [← Array.getElem?_toList]; exact h3) (Ok.here F h4 ⟨rfl, h⟩)⟩
theorem PG.tup {xs} {k : Int} {v : V} (h0 : 0 ≤ k) (hk : k < 2 ^ 63) (hx : xs[k.toNat]? = some v) (h : Q v σ) : PG κ (.tup xs) (.int k) Q σ := fun A s δ l ra rb G F ha hb => by
  obtain ⟨t, rfl⟩ := hb.int_inv
  obtain ⟨a, vs, ⟨o, ho, hc, n, hd⟩, hl⟩ := ha.tup_inv
  obtain ⟨r, h3, h4⟩ := hl.get hx
  rw [Array.getElem?_toList] at h3
  have hlt := (Array.getElem?_eq_some_iff.mp h3).1
  have ht : PyProof.Rows.IsTup s.heap _ vs := ⟨o, ho, hc, _, hd⟩
  exact ⟨⟨"tuple", _, ⟨o, ho, hc⟩, PyProof.Rows.slot_tuple_getitem.lookup, fun q => nomatch q⟩, PyProof.Rows.getItem_tuple ht (by lia) hk (seqIndex_of (n := vs.size) h0 (by lia)) h3 (Ok.here F h4 ⟨rfl, h⟩)⟩
theorem PG.bytes {b : Array UInt8} {k : Int} (hz : b.size ≤ 2 ^ 30) (h0 : 0 ≤ k) (hk : k < b.size) (h : Q (.int (b.toList.getD k.toNat 0).toNat) σ) : PG κ (.bytes b) (.int k) Q σ := fun A s δ l ra rb G F ha hb => by
  obtain ⟨t, rfl⟩ := ha.bytes_inv
  obtain ⟨u, rfl⟩ := hb.int_inv
  refine ⟨⟨"bytes", _, typeIs_bytes s b t, FB.slot_bytes_getitem.lookup, fun q => nomatch q⟩, ?_⟩
  have e : b = b.toList.toArray := Array.toArray_toList.symm
  rw [e]
  exact W.getItem_bytes (by rw [Array.length_toList]; lia) h0 (by simpa using hk) (Ok.tok F (.int ..) ⟨rfl, h⟩)
end
section
variable {κ : Cx} {l : Loc} {σ : MH} {δ : DM} {Q : V → Loc → MH → Prop}
theorem WE.sub {o i pos} (h : WE κ o (fun ov l1 σ1 => WE κ i (fun iv l2 σ2 => PG κ ov iv (fun v σ3 => Q v l2 σ3) σ2) l1 σ1) l σ)
    (hs : ∀ ro ri, subscripted i false ro ri = operate [ro, ri] (getItem ro ri)) : WE κ (.Subscript o i pos) Q l σ := fun A s δ G F => by
  rw [eval_Subscript]
  refine At.bind (h A s δ G F) fun a ra l1 σ1 δ1 s1 hR F1 E1 q1 => At.bind (At.holding (q1 A s1 δ1 G F1)) fun b rb l2 σ2 δ2 s2 hR2 F2 E2 q2 => At.standAt ?_
  obtain ⟨⟨T, id, hT, hl, hne⟩, q⟩ := q2 A s2 δ2 l2 ra rb G F2 (hR.evo F1 E2) hR2
  rw [getitemInPython_of_ne hne]
  refine wpAny_bind (wpAny_bind (wpAny_specialOf hT hl (wpAny_pure ?_)))
  rw [hs]
  refine At.bind (At.operate q) fun c rc l3 σ3 δ3 s3 hR3 F3 E3 q3 => ?_
  obtain ⟨rfl, q3⟩ := q3
  exact wpAny_bind (wpAny_letTemporaryGo (wpAny_pure (Ok.here F3 hR3 q3)))

theorem pick_take (items : Array Value) (b : Nat) : slicePick items none (some (b : Int)) none = (items.toList.take b).toArray := by
  have e : slicePick items none (some (b : Int)) none = slicePick items none (some ((min b items.size : Nat) : Int)) none := by
    unfold slicePick
    simp only [sliceBounds, Option.getD_none, show (1 : Int) > 0 by decide, if_true, show ¬ ((b : Int) < 0) by lia, show ¬ (((min b items.size : Nat) : Int) < 0) by lia, if_false]
    congr 3
    lia
  rw [e, slicePick_upto items _ (Nat.min_le_right ..)]
  by_cases z : b ≤ items.size
  · rw [Nat.min_eq_left z]
  · rw [Nat.min_eq_right (by lia), List.take_of_length_le (by rw [Array.length_toList]; exact Nat.le_refl _), List.take_of_length_le (by rw [Array.length_toList]; lia)]
theorem pick_drop (items : Array Value) (a : Nat) : slicePick items (some (a : Int)) none none = (items.toList.drop a).toArray := by
  have e : slicePick items (some (a : Int)) none none = slicePick items (some ((min a items.size : Nat) : Int)) none none := by
    unfold slicePick
    simp only [sliceBounds, Option.getD_none, show (1 : Int) > 0 by decide, if_true, show ¬ ((a : Int) < 0) by lia, show ¬ (((min a items.size : Nat) : Int) < 0) by lia, if_false]
    congr 3
    lia
  rw [e, slicePick_from items _ (Nat.min_le_right ..)]
  by_cases z : a ≤ items.size
  · rw [Nat.min_eq_left z]
  · rw [Nat.min_eq_right (by lia), List.drop_of_length_le (by rw [Array.length_toList]; exact Nat.le_refl _), List.drop_of_length_le (by rw [Array.length_toList]; lia)]
theorem newL {φ : Fx} {s : Shared} {xs : List V} {vs : Array Value} {h' : Heap} {tk : Nat} (F : FS φ l σ δ s) (k : ∀ b o, s.heap.get? b = some o → h'.get? b = some o) (hl : VsRel s.heap xs vs.toList) {a : Addr} (ha : s.heap.objs.size ≤ a)
    (hd : ∃ n, h'.get? a = some { cls := .type "list", data := .seq vs n }) (h : ∀ a, σ a = none → Q (.ref a) l (upd σ a (.list xs))) : Ok VRel φ σ δ s.heap Q (.ref a) { s with heap := h', toks := tk } := by
  obtain ⟨n, h1⟩ := hd
  have fin := F.new (tk := tk) (δ' := δ) (a := a) (o := .list xs) k ha ⟨vs, n, h1, hl.mono fun b o e q_ => k b o e⟩ (fun b x e => .inl e) (fun b x e => e)
  exact ⟨.ref a, l, _, δ, .ref _, fin.1, fin.2, h a (F.sim.freshσ ha)⟩
theorem Ok.after {φ : Fx} {β α : Type} {R : Heap → β → α → Prop} {σ1 : MH} {δ1 : DM} {h h1 : Heap} {Q : β → Loc → MH → Prop} {a : α} {s' : Shared} (E : Ev φ σ δ h σ1 δ1 h1) (x : Ok R φ σ1 δ1 h1 Q a s') : Ok R φ σ δ h Q a s' := by
  obtain ⟨b, l', σ', δ', r, F, E', q⟩ := x
  exact ⟨b, l', σ', δ', r, F, E.trans E', q⟩
inductive SlcQ (f : Nat → List V → List V) (l2 : Loc) (σ2 : MH) (Q : V → Loc → MH → Prop) : V → V → Prop
  | mk (a : Addr) (xs : List V) (k : Nat) (hσ : lst σ2 a xs) (hz : xs.length ≤ 2 ^ 24) (q : ∀ b, σ2 b = none → Q (.ref b) l2 (upd σ2 b (.list (f k xs)))) : SlcQ f l2 σ2 Q (.ref a) (.int (k : Int))
theorem slice_at {A : Around} {o sl : PySem.Expr} {pos : Pos} {a : Addr} {xs ys : List V} {s2 : Shared} {lo hi : Option Int} {rl rh : Value} {vs ws : Array Value} {P : Value → Shared → Prop} {E : Value → Shared → Prop} (F2 : FS κ.φ l σ δ s2) (h1 : s2.heap.IsList a vs) (h3 : vs.size = xs.length)
    (hz : xs.length ≤ 2 ^ 24) (hlo : IsPart rl lo) (hhi : IsPart rh hi) (hp : slicePick vs lo hi none = ws) (hw : VsRel s2.heap ys ws.toList) (q : ∀ b, σ b = none → Q (.ref b) l (upd σ b (.list ys)))
    (hP : ∀ v s', Ok VRel κ.φ σ δ s2.heap Q v s' → P v s') (hs : ∀ ro ri, subscripted sl false ro ri = operate [ri, ro] (getItem ro ri)) :
    wpAny (model κ.φ.g.prog κ.φ.g.w) A (newFields "slice" [rl, rh, .none]) (fun iv s' => wpAny (model κ.φ.g.prog κ.φ.g.w) A (do
      standAt pos
      let r ← subscripted sl (← getitemInPython (.ref a)) (.ref a) iv
      letTemporaryGo o (.ref a) r
      pure r) P E s') E s2 := by
  refine wpAny_newObj_type (wpAny_bind (wpAny_standAt ?_))
  rw [getitemInPython_of_ne (by intro q; cases q)]
  refine wpAny_bind (wpAny_bind (wpAny_specialOf (T := "list") (h1.push _).typeIs slot_list_getitem.lookup (wpAny_pure ?_)))
  rw [hs]
  refine wpAny_bind (wpAny_operating (wpAny_getItem_list_slice (h1.push _) (Heap.IsSliceOf.new ..) hlo hhi .none (fun q => nomatch q) ?_ (by rw [h3, sizeLine_eq]; omega)))
  rw [hp]
  refine wpAny_bind (wpAny_letTemporaryGo (wpAny_pure (hP _ _ ?_)))
  rw [Heap.size_push]
  exact newL (tk := s2.toks) F2 (fun b o e => Heap.get?_push_of_some _ (Heap.get?_push_of_some _ e)) hw (a := s2.heap.objs.size + 1) (Nat.le_succ _) ⟨0, by rw [← Heap.size_push]; exact Heap.get?_push_size _ rfl⟩ q
theorem WE.sliceTo {o u p pos} (h : WE κ o (fun ov l1 σ1 => WE κ u (fun uv l2 σ2 => SlcQ List.take l2 σ2 Q ov uv) l1 σ1) l σ) : WE κ (.Subscript o (.Slice none (some u) none p) pos) Q l σ := fun A s δ G F => by
  rw [eval_Subscript]
  refine At.bind (h A s δ G F) fun ov ro l1 σ1 δ1 s1 hR F1 E1 q1 => ?_
  have es : eval (.Slice none (some u) none p) κ.φ.f.env = (do
      let l ← pure Value.none
      let u ← holding [l] (eval u κ.φ.f.env)
      let s ← holding [l, u] (pure Value.none)
      newFields "slice" [l, u, s]) := rfl
  rw [es]
  refine wpAny_bind (wpAny_holding (wpAny_bind (wpAny_pure (wpAny_bind (wpAny_holding (wpAny_mono (q1 A s1 δ1 G F1) (fun ru s2 ⟨uv, l2, σ2, δ2, hR2, F2, E2, q2⟩ => ?_) fun q_ q_ e => e))))))
  cases q2 with
  | mk a xs k hσ hz q2 =>
    rw [(hR.evo F1 E2).ref_inv]
    obtain ⟨t, rfl⟩ := hR2.int_inv
    obtain ⟨vs, h1, h2, h3⟩ := F2.sim.lst hσ
    exact wpAny_bind (wpAny_holding (wpAny_pure (slice_at F2 h1 h3 hz .none (.int (k : Int) t) (pick_take vs k) (h2.take k) q2 (fun q_ q_ x => x.after E2) fun q_ q_ => rfl)))
theorem WE.sliceFrom {o u p pos} (h : WE κ o (fun ov l1 σ1 => WE κ u (fun uv l2 σ2 => SlcQ List.drop l2 σ2 Q ov uv) l1 σ1) l σ) : WE κ (.Subscript o (.Slice (some u) none none p) pos) Q l σ := fun A s δ G F => by
  rw [eval_Subscript]
  refine At.bind (h A s δ G F) fun ov ro l1 σ1 δ1 s1 hR F1 E1 q1 => ?_
  have es : eval (.Slice (some u) none none p) κ.φ.f.env = (do
      let l ← eval u κ.φ.f.env
      let u ← holding [l] (pure Value.none)
      let s ← holding [l, u] (pure Value.none)
      newFields "slice" [l, u, s]) := rfl
  rw [es]
  refine wpAny_bind (wpAny_holding (wpAny_bind (wpAny_mono (q1 A s1 δ1 G F1) (fun ru s2 ⟨uv, l2, σ2, δ2, hR2, F2, E2, q2⟩ => ?_) fun q_ q_ e => e)))
  cases q2 with
  | mk a xs k hσ hz q2 =>
    rw [(hR.evo F1 E2).ref_inv]
    obtain ⟨t, rfl⟩ := hR2.int_inv
    obtain ⟨vs, h1, h2, h3⟩ := F2.sim.lst hσ
    exact wpAny_bind (wpAny_holding (wpAny_pure (wpAny_bind (wpAny_holding (wpAny_pure (slice_at F2 h1 h3 hz (.int (k : Int) t) .none (pick_drop vs k) (h2.drop k) q2 (fun q_ q_ x => x.after E2) fun q_ q_ => rfl))))))

theorem WE.list {elts pos} (h : WArgs κ elts (fun vs l1 σ1 => vs.length ≤ 2 ^ 24 ∧ ∀ a, σ1 a = none → Q (.ref a) l1 (upd σ1 a (.list vs))) l σ) : WE κ (.List elts pos) Q l σ := fun A s δ G F => by
  refine wpAny_List_spliced (wpAny_mono (h A s δ pos G F) (fun rvs s1 ⟨vs, l1, σ1, δ1, hR, F1, E1, hz, q⟩ => ⟨by rw [hR.length, sizeLine_eq]; omega, ?_⟩) fun q_ q_ e => e)
  exact (newL (tk := s1.toks) (vs := rvs.toArray) F1 (fun b o e => Heap.get?_push_of_some _ e) (by rw [List.toList_toArray]; exact hR) (a := s1.heap.objs.size) (Nat.le_refl _) ⟨0, Heap.get?_push_size _ rfl⟩ q).after E1
theorem WE.tuple {elts k pos} (h : WArgs κ elts (fun vs l1 σ1 => vs.length ≤ 2 ^ 24 ∧ Q (.tup vs) l1 σ1) l σ) : WE κ (.Tuple elts k pos) Q l σ := fun A s δ G F => by
  refine wpAny_Tuple_spliced (wpAny_mono (h A s δ pos G F) (fun rvs s1 ⟨vs, l1, σ1, δ1, hR, F1, E1, hz, q⟩ => ⟨by rw [hR.length, sizeLine_eq]; omega, ?_⟩) fun q_ q_ e => e)
  have kk : ∀ b o, s1.heap.get? b = some o → (s1.heap.push { cls := .type "tuple", data := .seq rvs.toArray }).get? b = some o := fun b o e => Heap.get?_push_of_some _ e
  have fin := F1.grow (tk := s1.toks) kk
  exact ⟨.tup vs, l1, σ1, δ1, .tup (Heap.get?_push_size _ rfl) rfl rfl (by rw [List.toList_toArray]; exact hR.mono fun b o e q_ => kk b o e), fin.1, E1.trans fin.2, q⟩
end

section
variable {κ : Cx} {l : Loc} {σ : MH} {δ : DM}
theorem FS.setL {φ : Fx} {s : Shared} {h' : Heap} {tk : Nat} {a xs ys} {vs : Array Value} {n n' : Nat} (F : FS φ l σ δ s) (hσ : σ a = some (.list xs)) (h1 : s.heap.get? a = some { cls := .type "list", data := .seq vs n }) (hs : Heap.SameBut a s.heap h')
    {ws : Array Value} (hp : h'.get? a = some { cls := .type "list", data := .seq ws n' }) (hw : (∀ {v r}, VRel s.heap v r → VRel h' v r) → VsRel h' ys ws.toList) : FS φ l (upd σ a (.list ys)) δ { s with heap := h', toks := tk } ∧ Ev φ σ δ s.heap (upd σ a (.list ys)) δ h' := by
  have nt : NoTup s.heap a := fun o e => by rw [h1] at e; cases e; exact notTup_cls (type_ne (by decide))
  exact F.write (tk := tk) (c := a) (a := a) (.of hs) ⟨_, hp⟩ hσ (.list rfl xs ys) ⟨_, n', hp, hw fun x => x.mono ((But.of hs).tups nt)⟩
theorem PV.append {a xs v} {Q : V → MH → Prop} (hσ : σ a = some (.list xs)) (hz : xs.length ≤ 2 ^ 24) (h : Q .none (upd σ a (.list (xs ++ [v])))) : PV κ tcall [.bi "list.append", .ref a, v] Q σ := fun A s δ l rs G F hv => by
  obtain ⟨rf, ra, hf, hvs⟩ := hv.cons_inv
  obtain ⟨rb, rv, rfl, hb, hv⟩ := hvs.two
  rw [hf.bi_inv, hb.ref_inv]
  obtain ⟨vs, n, h1, h2⟩ := F.sim.rep _ _ hσ
  have hl : vs.size = xs.length := by rw [← Array.length_toList]; exact h2.length
  refine wpAny_list_append_plain ⟨n, h1⟩ (fun h' ⟨n', hp⟩ hs => ?_) (by rw [hl, sizeLine_eq]; omega)
  have fin := F.setL (tk := s.toks) (ys := xs ++ [v]) hσ h1 hs hp fun k => by
    rw [Array.toList_push]
    exact .append (.of_at h2.length fun i p r e e' => k (h2.at' i p r e e')) (.cons (k hv) .nil)
  exact ⟨.none, l, _, δ, .none, fin.1, fin.2, rfl, h⟩
theorem setItem_plain {A : Around} {s : Shared} {E : Value → Shared → Prop} {prog : Program} {w : World} {a : Addr} {items : Array Value} {n : Nat} {k : Int} {t : Tok} {v : Value} {Q : Unit → Shared → Prop} (ho : s.heap.get? a = some { cls := .type "list", data := .seq items n })
    (h0 : 0 ≤ k) (hfit : k < 2 ^ 63) (hn : k < items.size)
    (hQ : ∀ h' n', h'.get? a = some { cls := .type "list", data := .seq (items.setIfInBounds k.toNat v) n' } → Heap.SameBut a s.heap h' → Q () { s with heap := h' }) :
    wpAny (model prog w) A (setItem (.ref a) (.int k t) v) Q E s := by
  have hl : s.heap.IsList a items := ⟨_, ho, rfl, n, rfl⟩
  unfold setItem
  try with_reducible refine wpAny_holding ?_
  first | refine wpAny_bind (wpAny_pure ?_) | skip
  refine wpAny_bind (wpAny_sequenceKey hl.typeIs (by decide) ?_)
  refine wpAny_bind (wpAny_callSpecial?_slot (name := Str.ofString "__setitem__") hl.typeIs slot_list_setitem
    (wpAny_call_entry slot_list_setitem hl.typeIs entry_list_setitem ?_ (args_list_setitem _ _ _)))
  show wpAny _ _ (Builtin.List.listSubscript? (.int k t) >>= _) _ _ s
  refine wpAny_bind (wpAny_listSubscript_int (fitsIndex_of h0 hfit) ?_)
  clear hfit
  obtain ⟨j, rfl⟩ := Int.eq_ofNat_of_zero_le h0
  have hj : j < items.size := by omega
  have hx' : items[j]? = some items[j] := Array.getElem?_eq_getElem hj
  show wpAny _ _ ((seqItemAt a j >>= fun r => pure (r.map (j, ·))) >>= _) _ _ s
  refine wpAny_bind (wpAny_bind (wpAny_seqItemAt ho rfl (wpAny_pure ?_)))
  rw [hx']
  show wpAny _ _ (setSeqItemAt a j v >>= _) _ _ s
  have hfin : ∃ n', (s.heap.update a (Obj.mapSeq (·.setIfInBounds j v))).get? a = some { cls := .type "list", data := .seq (items.setIfInBounds j v) n' } := by
    have e : Obj.mapSeq (·.setIfInBounds j v) { cls := .type "list", data := .seq items n } = { cls := .type "list", data := .seq (items.setIfInBounds j v) n } := by simp [Obj.mapSeq]
    exact ⟨n, by rw [Heap.get?_update_self _ ho (by rw [e]; rfl), e]⟩
  obtain ⟨n', hfin⟩ := hfin
  refine wpAny_bind (wpAny_setSeqItemAt ho rfl ?_)
  first
    | exact wpAny_bind (wpAny_pure (wpAny_pure ⟨.none, rfl, wpAny_pure (hQ _ n' hfin (Heap.SameBut.update ..))⟩))
    | exact wpAny_pure ⟨.none, rfl, wpAny_pure (hQ _ n' hfin (Heap.SameBut.update ..))⟩
theorem PU.setList {a xs v} {k : Int} {Q : MH → Prop} (hσ : σ a = some (.list xs)) (h0 : 0 ≤ k) (hk : k < xs.length) (hz : xs.length ≤ 2 ^ 24) (h : Q (upd σ a (.list (xs.set k.toNat v)))) : PU κ (u3 setItem) [.ref a, .int k, v] Q σ := fun A s δ l rs G F hv => by
  obtain ⟨ra, rr, ha, hvs⟩ := hv.cons_inv
  obtain ⟨ri, rv, rfl, hi, hw⟩ := hvs.two
  rw [ha.ref_inv]
  obtain ⟨t, rfl⟩ := hi.int_inv
  obtain ⟨vs, n, h1, h2⟩ := F.sim.rep _ _ hσ
  have hl : vs.size = xs.length := by rw [← Array.length_toList]; exact h2.length
  refine setItem_plain h1 h0 (by lia) (by lia) fun h' n' hp hs => ?_
  have fin := F.setL (tk := s.toks) (ys := xs.set k.toNat v) hσ h1 hs hp fun k' => by
    rw [Array.toList_setIfInBounds]
    exact .set _ (.of_at h2.length fun i p r e e' => k' (h2.at' i p r e e')) (k' hw)
  exact ⟨(), l, _, δ, trivial, fin.1, fin.2, rfl, h⟩
theorem WA.sub {o i pos v} {Q : Loc → MH → Prop} (h : WE κ o (fun ov l1 σ1 => WE κ i (fun iv l2 σ2 => PU κ (u3 setItem) [ov, iv, v] (fun σ3 => Q l2 σ3) σ2) l1 σ1) l σ) : WA κ (.Subscript o i pos) v Q l σ := fun A s δ rv G F hv => by
  rw [assign_Subscript]
  refine At.bind (At.holding (h A s δ G F)) fun a ra l1 σ1 δ1 s1 hR F1 E1 q1 => ?_
  refine At.bind (At.holding (q1 A s1 δ1 G F1)) fun b rb l2 σ2 δ2 s2 hR2 F2 E2 q2 => At.standAt ?_
  exact At.bind (At.holding (q2.run G F2 (.cons (hR.evo F1 E2) (.cons hR2 (.cons ((hv.evo F E1).evo F1 E2) .nil))))) fun q_ q_ l3 σ3 δ3 s3 q_ F3 E3 q3 => wpAny_release (Ok.here (b := ()) F3 trivial q3)
theorem WS1.augSub {o i tpos op value pos} {Q : Fw → Loc → MH → Prop}
    (h : WE κ o (fun ov l1 σ1 => WE κ i (fun iv l2 σ2 => PG κ ov iv (fun old σ3 => WE κ value (fun v l4 σ4 => PV κ (t2 (inplaceOp op)) [old, v] (fun n σ5 => PU κ (u3 setItem) [ov, iv, n] (fun σ6 => Q .next l4 σ6) σ5) σ4) l2 σ3) σ2) l1 σ1) l σ)
    (hi : ∀ ov iv new, augStore i ov iv new = (do holding [new, ov, iv] (setItem ov iv new); release [new, ov, iv] []; pure .next)) :
    WS1 κ (.AugAssign (.Subscript o i tpos) op value pos) Q l σ := fun A s δ G F => by
  refine wpAny_AugAssign_SubscriptAny ?_ hi
  refine wpAny_mono (h A s δ G F) (fun ro s1 ⟨ov, l1, σ1, δ1, hR, F1, E1, q1⟩ => ?_) fun q_ q_ e => e
  refine wpAny_mono (q1 A s1 δ1 G F1) (fun ri s2 ⟨iv, l2, σ2, δ2, hR2, F2, E2, q2⟩ => ?_) fun q_ q_ e => e.trans E1
  have E12 := E1.trans E2
  have r2 := hR.evo F1 E2
  refine wpAny_mono (q2 A s2 δ2 l2 ro ri G F2 r2 hR2).2 (fun rold s3 ⟨old, l3, σ3, δ3, hR3, F3, E3, hl3, q3⟩ => ?_) fun q_ q_ e => e.trans E12
  subst hl3
  have E13 := E12.trans E3
  refine wpAny_mono (q3 A s3 δ3 G F3) (fun rv s4 ⟨v, l4, σ4, δ4, hR4, F4, E4, q4⟩ => ?_) fun q_ q_ e => e.trans E13
  have E14 := E13.trans E4
  refine wpAny_mono (q4.run (Q := fun n l4 σ5 => PU κ (u3 setItem) [ov, iv, n] (fun σ6 => Q .next l4 σ6) σ5) G F4 (.cons (hR3.evo F3 E4) (.cons hR4 .nil))) (fun rn s5 ⟨n, l5, σ5, δ5, hR5, F5, E5, q5⟩ => ?_) fun q_ q_ e => e.trans E14
  have E15 := E14.trans E5
  have E25 := (E3.trans E4).trans E5
  exact wpAny_mono (q5.run (Q := fun l σ => Q .next l σ) G F5 (.cons (r2.evo F2 E25) (.cons (hR2.evo F2 E25) (.cons hR5 .nil)))) (fun _ s6 ⟨_, l6, σ6, δ6, _, F6, E6, q6⟩ => ⟨.next, l6, σ6, δ6, .next, F6, E15.trans E6, q6⟩) fun q_ q_ e => e.trans E15

theorem PV.newL {A : Around} {s : Shared} {xs : List V} {vs : Array Value} {Q : V → MH → Prop} (F : FS κ.φ l σ δ s) (hl : VsRel s.heap xs vs.toList) (h : ∀ a, σ a = none → Q (.ref a) (upd σ a (.list xs))) :
    Ok VRel κ.φ σ δ s.heap (fun v l' σ' => l' = l ∧ Q v σ') (.ref s.heap.objs.size) { s with heap := s.heap.push { cls := .type "list", data := .seq vs } } :=
  Mn.newL (tk := s.toks) F (fun b o e => Heap.get?_push_of_some _ e) hl (Nat.le_refl _) ⟨0, Heap.get?_push_size _ rfl⟩ fun a e => ⟨rfl, h a e⟩
theorem foldl_rep1 (v : Value) (n : Nat) (acc : Array Value) : (List.foldl (fun x1 x2 => x1 ++ x2) acc (List.replicate n #[v])).toList = acc.toList ++ List.replicate n v := by
  induction n generalizing acc with
  | zero => exact (List.append_nil _).symm
  | succ n ih => rw [List.replicate_succ, List.foldl_cons, ih, Array.toList_append, List.append_assoc]; rfl
theorem VsRel.replicate {h : Heap} {v r} (x : VRel h v r) : ∀ n, VsRel h (List.replicate n v) (List.replicate n r)
  | 0 => .nil
  | n + 1 => .cons x (VsRel.replicate x n)
theorem PV.mulList {a v} {k : Nat} {Q : V → MH → Prop} (ha : σ a = some (.list [v])) (hz : k ≤ 2 ^ 24) (h : ∀ c, σ c = none → Q (.ref c) (upd σ c (.list (List.replicate k v)))) : PV κ (t2 (binaryOp .Mult)) [.ref a, .int (k : Nat)] Q σ := fun A s δ l rs G F hv => by
  obtain ⟨ra, rb, rfl, hra, hrb⟩ := hv.two
  rw [hra.ref_inv]
  obtain ⟨u, rfl⟩ := hrb.int_inv
  obtain ⟨⟨vs⟩, n, ho, h2⟩ := F.sim.rep _ _ ha
  obtain ⟨r, rfl, hvr⟩ := h2.one
  generalize hx : ((k : Nat) : Int) = x
  have hxk : x.toNat = k := by lia
  have c0 : ¬(!Builtin.List.listFitsIndex x) = true := by simp [Builtin.List.listFitsIndex]; lia
  have c1 : ¬1 * x.toNat > (2 ^ 63 - 1) / 8 := by lia
  have c2 : ¬Builtin.List.listTooLong (1 * x.toNat) = true := by rw [hxk]; simp [Builtin.List.listTooLong, sizeLine]; lia
  show At VRel κ A (binaryOp .Mult (.ref a) (.int x u)) _ σ δ s
  refine wpAny_binaryOp_repeat_ref (T := "list") (U := "int") (by decide) ⟨_, ho, rfl⟩ (fun s' => typeIs_int s' x u) noFill_list_mul PySem.F.fills_int_mul PySem.F.slot_int_rmul repeat_list PySem.F.slot_int_index.lookup
    (call_meets PySem.F.slot_int_rmul (typeIs_int s x u) PySem.F.entry_int_rmul (PySem.F.args_int_rmul_2 _ _) (int___rmul___int_list x u a ⟨[r]⟩ n)
      ⟨ho, rfl, ⟨_, ho, rfl⟩, call_meets PySem.F.slot_list_mul ⟨_, ho, rfl⟩ PySem.F.entry_list_mul (PySem.F.args_list_mul_2 _ _)
        (AutoListH.list___mul___list_int_3 a ⟨[r]⟩ n x u c0 c1 c2)
        ⟨ho, ?_⟩⟩)
  refine PV.newL (A := A) F ?_ h
  have e := foldl_rep1 r k #[]
  rw [hxk]
  have e2 := hvr
  by_cases z : (⟨[r]⟩ : Array Value).size = 0
  · cases z
  · have := VsRel.replicate hvr k
    simpa [e] using this
end
end Mn
set_option genInjectivity false
namespace Mn
open PySem.SeqAt

section
variable {κ : Cx} {l : Loc} {σ : MH} {δ : DM}
noncomputable def WAs (κ : Cx) (ts : List PySem.Expr) (vs : List V) (Q : Loc → MH → Prop) (l : Loc) (σ : MH) : Prop :=
  ∀ A s δ rvs, Good κ A → FS κ.φ l σ δ s → VsRel s.heap vs rvs → At URel κ A (assignInOrder ((assignEach ts κ.φ.f.env).map (·.2)) rvs) (fun q_ => Q) σ δ s
theorem WAs.nil {vs} {Q : Loc → MH → Prop} (h : Q l σ) : WAs κ [] vs Q l σ := fun q_ q_ δ rvs q_ F hv => by
  show At URel κ _ (assignInOrder [] rvs) _ σ δ _
  cases rvs <;> exact wpAny_pure (Ok.here (b := ()) F trivial h)
theorem WAs.cons {t ts v vs} {Q : Loc → MH → Prop} (h : WA κ t v (fun l1 σ1 => WAs κ ts vs Q l1 σ1) l σ) (he : (assignEach (t :: ts) κ.φ.f.env).map (·.2) = assign t κ.φ.f.env :: (assignEach ts κ.φ.f.env).map (·.2)) : WAs κ (t :: ts) (v :: vs) Q l σ := fun A s δ rvs G F hv => by
  obtain ⟨r, rs, hr, hs⟩ := hv.cons_inv
  rw [he]
  show At URel κ A (do holding rs (assign t κ.φ.f.env r); assignInOrder ((assignEach ts κ.φ.f.env).map (·.2)) rs) _ σ δ s
  exact At.bind (At.holding (h A s δ r G F hr)) fun q_ q_ l1 σ1 δ1 s1 q_ F1 E1 q1 => q1 A s1 δ1 rs G F1 (hs.evo F E1)
noncomputable def WNms (κ : Cx) (xs : List Str) (vs : List V) (Q : Loc → MH → Prop) (l : Loc) (σ : MH) : Prop :=
  ∀ A s δ rvs, Good κ A → FS κ.φ l σ δ s → VsRel s.heap vs rvs → At URel κ A (assignInOrder (xs.map fun n => bindName κ.φ.f.env n) rvs) (fun q_ => Q) σ δ s
theorem WNms.nil {vs} {Q : Loc → MH → Prop} (h : Q l σ) : WNms κ [] vs Q l σ := fun q_ q_ δ rvs q_ F hv => by
  show At URel κ _ (assignInOrder [] rvs) _ σ δ _
  cases rvs <;> exact wpAny_pure (Ok.here (b := ()) F trivial h)
theorem WNms.cons {x xs v vs} {Q : Loc → MH → Prop} (hx : MyName κ x) (h : WNms κ xs vs Q (upd l x v) σ) : WNms κ (x :: xs) (v :: vs) Q l σ := fun A s δ rvs G F hv => by
  obtain ⟨r, rs, hr, hs⟩ := hv.cons_inv
  show At URel κ A (do holding rs (bindName κ.φ.f.env x r); assignInOrder (xs.map fun n => bindName κ.φ.f.env n) rs) _ σ δ s
  exact At.bind (At.holding (wpAny_bindName (store_name (Q := WNms κ xs vs Q) F hr hx h))) fun q_ q_ l1 σ1 δ1 s1 q_ F1 E1 q1 => q1 A s1 δ1 rs G F1 (hs.evo F E1)
theorem extGrow {s : Shared} {h' : Heap} (he : Heap.ExtBut s.heap.objs.size s.heap h') : ∀ b o, s.heap.get? b = some o → h'.get? b = some o := fun b o e => he b o (Nat.ne_of_lt (Heap.lt_size e)) e
theorem WA.tuple {elts k pos vs} {Q : Loc → MH → Prop} (h : WAs κ elts vs Q l σ) (hn : (assignEach elts κ.φ.f.env).length = vs.length) (hs : (assignEach elts κ.φ.f.env).findIdx? (·.1) = none) :
    WA κ (.Tuple elts k pos) (.tup vs) Q l σ := fun A s δ rv G F hv => by
  obtain ⟨a, rvs, ht, hl⟩ := hv.tup_inv
  refine wpAny_assign_Tuple G.handled ht (by rw [hn, ← hl.length, Array.length_toList]) hs fun h' he => ?_
  have fin := F.grow (tk := s.toks) (extGrow he)
  exact wpAny_mono (h A _ δ rvs.toList G fin.1 (hl.evo F fin.2)) (fun q_ s2 x => x.after fin.2) fun q_ q_ e => e.trans fin.2
theorem WS1.assignSwap {elts k tpos value pos} {names : List Str} {Q : Fw → Loc → MH → Prop} (h : WE κ value (fun v l1 σ1 => ∃ vs, A3 (v = .tup vs) (vs.length = names.length) (WNms κ names.reverse vs.reverse (Q .next) l1 σ1)) l σ)
    (hs : swapsWithSole [.Tuple elts k tpos] value pos.line κ.φ.f.env = pure false) (hw : swappedStores [.Tuple elts k tpos] value κ.φ.f.env = pure (some names)) : WS1 κ (.Assign [.Tuple elts k tpos] value pos) Q l σ := fun A s δ G F => by
  refine Assign_Tuple_swapped (names := names) (wpAny_mono (h A s δ G F) (fun rv s1 ⟨v, l1, σ1, δ1, hR, F1, E1, vs, hv, hn, q1⟩ => ?_) fun q_ q_ e => e) hs hw
  subst hv
  obtain ⟨a, rvs, ht, hl⟩ := hR.tup_inv
  have e1 : rvs.size = names.length := by rw [← Array.length_toList, hl.length, hn]
  rw [← e1]
  refine wpAny_unpackItems_tuple G.handled ht fun h' he => ?_
  have fin := F1.grow (tk := s1.toks) (extGrow he)
  exact wpAny_mono (q1 A _ δ1 rvs.toList.reverse G fin.1 (hl.evo F1 fin.2).reverse) (fun _ s2 ⟨_, l2, σ2, δ2, _, F2, E2, q2⟩ => ⟨.next, l2, σ2, δ2, .next, F2, (E1.trans fin.2).trans E2, q2⟩) fun q_ q_ e => e.trans (E1.trans fin.2)

noncomputable def loopQ (C : Loc → MH → Prop) (Q : Fw → Loc → MH → Prop) : Fw → Loc → MH → Prop
  | .next => C
  | .cont => C
  | .brk => Q .next
  | .ret v => Q (.ret v)
theorem WS1.whileI {test body pos} {Q : Fw → Loc → MH → Prop} (I : Nat → Loc → MH → Prop)
    (turn : ∀ n l1 σ1, I n l1 σ1 → WB κ.nx test (fun b l2 σ2 => brk2 (WS κ.nx body (loopQ (fun l σ => ∃ m, m < n ∧ I m l σ) Q) l2 σ2) (Q .next l2 σ2) b) l1 σ1) (n : Nat) (h : I n l σ) : WS1 κ (.While test body [] pos) Q l σ := fun A s δ G F => by
  refine wpAny_While (codeAny_whileLoop (fun k s1 => X3 fun l1 σ1 δ1 => A3 (FS κ.φ l1 σ1 δ1 s1) (Ev κ.φ σ δ s.heap σ1 δ1 s1.heap) (I k l1 σ1)) (fun k s1 ⟨l1, σ1, δ1, F1, E1, q1⟩ => ?_) n ⟨l, σ, δ, F, Ev.refl .., h⟩)
  refine wpAny_mono (turn k l1 σ1 q1 A s1 δ1 G F1) (fun b s2 ⟨b', l2, σ2, δ2, hR, F2, E2, q2⟩ => ?_) fun q_ q_ e => Flies.no e
  cases hR
  have E12 := E1.trans E2
  cases b with
  | false => exact wpAny_execs_nil ⟨.next, l2, σ2, δ2, .next, F2, E12, q2⟩
  | true =>
    refine wpAny_mono ((show WS κ.nx body _ l2 σ2 from q2) A s2 δ2 G F2) (fun fw s3 ⟨w, l3, σ3, δ3, hR3, F3, E3, q3⟩ => ?_) fun q_ q_ e => Flies.no e
    have E13 := E12.trans E3
    cases hR3 with
    | next => obtain ⟨m, hm, q⟩ := q3; exact ⟨m, hm, l3, σ3, δ3, F3, E13, q⟩
    | cont => obtain ⟨m, hm, q⟩ := q3; exact ⟨m, hm, l3, σ3, δ3, F3, E13, q⟩
    | brk => exact ⟨.next, l3, σ3, δ3, .next, F3, E13, q3⟩
    | ret hv => exact ⟨.ret _, l3, σ3, δ3, .ret hv, F3, E13, q3⟩

noncomputable def KeepBut (its : List Addr) (h h' : Heap) : Prop := ∀ b o, h.get? b = some o → b ∉ its → h'.get? b = some o
theorem Evo.keepBut {fl fa σ δ h σ1 δ1 h1 h2 its} (E : Evo fl fa σ δ h σ1 δ1 h1) (K : KeepBut its h1 h2) (hn : ∀ b ∈ its, h.get? b = none) : Evo fl fa σ δ h σ1 δ1 h2 := by
  have ni : ∀ b o, h.get? b = some o → b ∉ its := fun b o e q => some_not_none e (hn b q)
  refine ⟨fun b o e n q r => ?_, fun b o e n q r => K b o (E.keep b o e n q r) (ni b o e), E.own, E.dom, fun b o e => ?_⟩
  · obtain ⟨sl, h3⟩ := E.slots b o e n q r; exact ⟨sl, K b _ h3 (ni b o e)⟩
  · obtain ⟨o', h3⟩ := E.live b o e; exact ⟨o', K b o' h3 (ni b o e)⟩
structure Aside (φ : Fx) (σ : MH) (δ : DM) (h : Heap) (b : Addr) (o : Obj) : Prop where
  at_ : h.get? b = some o
  base : φ.g.base.get? b = none
  dom : ¬ Dom σ δ b
  fa : b ∉ φ.f.fa
  fl : ¬ Fl φ.fl b
section
variable {φ : Fx} {b : Addr} {o o' : Obj} {h h' : Heap} {s : Shared}
theorem Aside.stay {σ' δ' fa'} (hb : b ∉ fa') (E : Evo φ.fl fa' σ δ h σ' δ' h') (a : Aside φ σ δ h b o) : Aside φ σ' δ' h' b o :=
  ⟨E.keep b o a.at_ (fun z => a.dom z.dom) hb a.fl, a.base, E.notDom a.at_ a.dom, a.fa, a.fl⟩
theorem Aside.new (F : FS φ l σ δ s) (hb : s.heap.objs.size ≤ b) (ho : h'.get? b = some o) : Aside φ σ δ h' b o := by
  have e0 := fresh_get (h := s.heap) hb
  refine ⟨ho, F.baseNone e0, fun z => ?_, fun z => ?_, fun z => ?_⟩
  · cases z with
    | obj x z => exact some_not_none z (F.sim.freshσ hb)
    | dict x z => exact some_not_none z (F.sim.freshδ hb)
  · obtain ⟨x, h1, _⟩ := (F.fa b z).at_; exact some_not_none h1 e0
  · obtain ⟨_, _, x, _, _, h1, _⟩ := F.fr.at z; exact some_not_none h1 e0
theorem FS.aside {tk : Nat} (F : FS φ l σ δ s) (A : Aside φ σ δ s.heap b o) (k : KeepBut [b] s.heap h') (hc : ∀ v, o.data ≠ .cell v) (ht : ¬ IsTup o) : FS φ l σ δ { s with heap := h', toks := tk } :=
  F.scratch (c := b) (fun b' x e n => k b' x e (fun z => n (List.mem_singleton.mp z))) A.dom A.base A.fa A.fl (fun v ⟨x, e, e'⟩ => by rw [A.at_] at e; cases e; exact hc v e') fun x e => by rw [A.at_] at e; cases e; exact ht
theorem Aside.put (A : Aside φ σ δ h b o) (k : h'.get? b = some o') : Aside φ σ δ h' b o' := ⟨k, A.base, A.dom, A.fa, A.fl⟩
theorem KeepBut.of_ext (x : Heap.ExtBut b h h') : KeepBut [b] h h' := fun c o e n => x c o (fun z => n (List.mem_singleton.mpr z)) e
theorem tupKeep (A : h.get? b = some o) (nt : ¬ IsTup o) (kb : KeepBut [b] h h') : ∀ c o2, h.get? c = some o2 → IsTup o2 → h'.get? c = some o2 := fun c o2 e t => kb c o2 e fun z => by
  rw [List.mem_singleton.mp z, A] at e; cases e; exact nt t
end
structure Itr (g : G) (fl : List Env) (it : Value) (target : PySem.Expr) (Inv : MH → Prop) (ys : List V) (its : List Addr) (P : Frm → Nat → MH → DM → Heap → Prop) : Prop where
  stay : ∀ {f k l σ δ} {s : Shared} {σ' δ'} {s' : Shared} {fa' : List Addr}, FS ⟨g, fl, f⟩ l σ δ s → (∀ b ∈ fa', b ∉ its ∧ ∃ o, s.heap.get? b = some o ∧ ¬ IsTup o) → Evo fl fa' σ δ s.heap σ' δ' s'.heap → P f k σ δ s.heap → P f k σ' δ' s'.heap
  next : ∀ {f A s δ l σ k v} {Q : Value → Shared → Prop} {E}, A.handled = none → FS ⟨g, fl, f⟩ l σ δ s → Inv σ → P f k σ δ s.heap → ys[k]? = some v →
    (∀ rv s', VRel s'.heap v rv → FS ⟨g, fl, f⟩ l σ δ s' → KeepBut its s.heap s'.heap → P f (k + 1) σ δ s'.heap → Q rv s') → wpAny (model g.prog g.w) A (pyNext it) (fun r s1 => ∃ rv, r = some rv ∧ wpAny (model g.prog g.w) A (letOwnedTupleGo target it rv) (fun q_ s2 => Q rv s2) E s1) E s
  done : ∀ {f A s δ l σ k} {Q : Shared → Prop} {E}, A.handled = none → FS ⟨g, fl, f⟩ l σ δ s → Inv σ → P f k σ δ s.heap → ys[k]? = none →
    (∀ s', FS ⟨g, fl, f⟩ l σ δ s' → KeepBut its s.heap s'.heap → Q s') → wpAny (model g.prog g.w) A (pyNext it) (fun r s1 => r = none ∧ Q s1) E s
  again : ∀ {f A s k σ δ} {Q : Value → Shared → Prop} {E}, P f k σ δ s.heap → Q it s → wpAny (model g.prog g.w) A (pyIter it) Q E s
inductive ItOk (φ : Fx) (target : PySem.Expr) (σ : MH) (δ : DM) (h : Heap) (Q : List V → (MH → Prop) → Loc → MH → Prop) (it : Value) (s' : Shared) : Prop
  | mk (l1 : Loc) (σ1 : MH) (δ1 : DM) (P : Frm → Nat → MH → DM → Heap → Prop) (its : List Addr) (ys : List V) (Inv : MH → Prop) (F : FS φ l1 σ1 δ1 s') (E : Ev φ σ δ h σ1 δ1 s'.heap) (hits : ∀ b ∈ its, h.get? b = none) (live : ∀ b ∈ its, ∃ o, s'.heap.get? b = some o)
      (W : Itr φ.g φ.fl it target Inv ys its P) (hP : P φ.f 0 σ1 δ1 s'.heap) (q : Q ys Inv l1 σ1)
theorem ItOk.trans {φ : Fx} {target} {σ1 δ1} {h h1 : Heap} {Q : List V → (MH → Prop) → Loc → MH → Prop} {it s'} (E : Ev φ σ δ h σ1 δ1 h1) (x : ItOk φ target σ1 δ1 h1 Q it s') : ItOk φ target σ δ h Q it s' := by
  obtain ⟨l1, σ2, δ2, P, its, ys, Inv, F2, E2, hits, hlv, W, hP, q⟩ := x
  exact ⟨l1, σ2, δ2, P, its, ys, Inv, F2, E.trans E2, fun b hb => E.none_of (hits b hb), hlv, W, hP, q⟩
noncomputable def WIt (κ : Cx) (target : PySem.Expr) (e : PySem.Expr) (Q : List V → (MH → Prop) → Loc → MH → Prop) (l : Loc) (σ : MH) : Prop :=
  ∀ A s δ, Good κ A → FS κ.φ l σ δ s → wpAny (model κ.φ.g.prog κ.φ.g.w) A (eval e κ.φ.f.env) (fun r s1 => wpAny (model κ.φ.g.prog κ.φ.g.w) A (pyIter r) (ItOk κ.φ target σ δ s.heap Q) (FlX κ σ δ s.heap) s1) (FlX κ σ δ s.heap) s
inductive ForQ (κ : Cx) (target : PySem.Expr) (body : List PySem.Stmt) (Q : Fw → Loc → MH → Prop) (ys : List V) (Inv : MH → Prop) (l1 : Loc) (σ1 : MH) : Prop
  | mk (I : Nat → Loc → MH → Prop) (q0 : I 0 l1 σ1) (qinv : ∀ k l2 σ2, I k l2 σ2 → Inv σ2)
      (qturn : ∀ k x l2 σ2, ys[k]? = some x → I k l2 σ2 → WA κ.nx target x (fun l3 σ3 => WS κ.nx body (loopQ (I (k + 1)) Q) l3 σ3) l2 σ2) (qend : ∀ l2 σ2, I ys.length l2 σ2 → Q .next l2 σ2)
inductive ForAt (κ : Cx) (σ : MH) (δ : DM) (h : Heap) (P : Frm → Nat → MH → DM → Heap → Prop) (I : Nat → Loc → MH → Prop) (m n : Nat) (s' : Shared) : Prop
  | mk (k : Nat) (l3 : Loc) (σ3 : MH) (δ3 : DM) (hn : n = m + 1 - k) (hk : k ≤ m) (F : FS κ.φ l3 σ3 δ3 s') (E : Ev κ.φ σ δ h σ3 δ3 s'.heap) (hP : P κ.φ.f k σ3 δ3 s'.heap) (q : I k l3 σ3)
theorem WS1.forI {target iter body pos} {Q : Fw → Loc → MH → Prop} (h : WIt κ target iter (ForQ κ target body Q) l σ)
    (hs : ∀ x, foldedSetIterable iter κ.φ.f.env x = pure x) : WS1 κ (.For target iter body [] pos) Q l σ := fun A s δ G F => by
  refine wpAny_For (wpAny_mono (h A s δ G F) (fun rv s1 q1 => wpAny_mono q1 (fun it s2 q2 => ?_) fun q_ q_ e => e) fun q_ q_ e => e) hs
  obtain ⟨l1, σ1, δ1, P, its, ys, Inv, F2, E2, hits, _, W, hP, I, q0, qinv, qturn, qend⟩ := q2
  refine codeAny_forLoop_any (ForAt κ σ δ s.heap P I ys.length) (fun n s3 ⟨k, l3, σ3, δ3, hn, hk, F3, E3, hP3, q3⟩ => ?_) (ys.length + 1) ⟨0, l1, σ1, δ1, rfl, Nat.zero_le _, F2, E2, hP, q0⟩
  cases hx : ys[k]? with
  | none =>
    have hkk : k = ys.length := Nat.le_antisymm hk (List.getElem?_eq_none_iff.mp hx)
    refine wpAny_mono (W.done (Q := fun s4 => FS κ.φ l3 σ3 δ3 s4 ∧ KeepBut its s3.heap s4.heap) (E := fun q_ q_ => False) G.handled F3 (qinv _ _ _ q3) hP3 hx fun s' a b => ⟨a, b⟩) (fun r s4 ⟨hr, F4, K4⟩ => ?_) fun q_ q_ e => e.elim
    subst hr
    exact wpAny_execs_nil ⟨.next, l3, σ3, δ3, .next, F4, E3.keepBut K4 hits, qend _ _ (hkk ▸ q3)⟩
  | some x =>
    have hlt : k < ys.length := (List.getElem?_eq_some_iff.mp hx).1
    refine wpAny_mono (W.next (A := A) (E := fun q_ q_ => False) (Q := fun rv s4 => VRel s4.heap x rv ∧ FS κ.φ l3 σ3 δ3 s4 ∧ KeepBut its s3.heap s4.heap ∧ P κ.φ.f (k + 1) σ3 δ3 s4.heap) G.handled F3 (qinv _ _ _ q3) hP3 hx fun rv s' a b c d => ⟨a, b, c, d⟩) (fun r s4 h4 => ?_) fun q_ q_ e => e.elim
    obtain ⟨rx, hrx, h4⟩ := h4
    subst hrx
    refine wpAny_mono h4 (fun _ s5 ⟨hR5, F5, K5, hP5⟩ => ?_) fun q_ q_ e => e.elim
    refine wpAny_mono (qturn k x l3 σ3 hx q3 A s5 δ3 rx G F5 hR5) (fun _ s6 ⟨_, l6, σ6, δ6, _, F6, E6, q6⟩ => ?_) fun q_ q_ e => Flies.no e
    refine wpAny_mono (q6 A s6 δ6 G F6) (fun fw s7 ⟨w, l7, σ7, δ7, hR7, F7, E7, q7⟩ => ?_) fun q_ q_ e => Flies.no e
    have E57 := E6.trans E7
    have EE := Ev.trans (E3.keepBut K5 hits) E57
    have next : I (k + 1) l7 σ7 → ForAt κ σ δ s.heap P I ys.length (ys.length + 1 - (k + 1)) s7 := fun q => ⟨k + 1, l7, σ7, δ7, rfl, hlt, F7, EE, W.stay F5 (fun b hb => ⟨fun z => (by obtain ⟨o, h1, _⟩ := (F.fa b hb).at_; exact some_not_none h1 (hits b z)), (F5.fa b hb).at_⟩) E57 hP5, q⟩
    cases hR7 with
    | next => exact ⟨_, by lia, next q7⟩
    | cont => exact ⟨_, by lia, next q7⟩
    | brk => exact ⟨.next, l7, σ7, δ7, .next, F7, EE, q7⟩
    | ret hv => exact ⟨.ret _, l7, σ7, δ7, .ret hv, F7, EE, q7⟩

noncomputable def lonely (T : String) : Bool := !["enumerate", "zip", "dict_itemiterator", "dict_reverseitemiterator", "odict_iterator", "itertools.zip_longest", "itertools.pairwise"].contains T
theorem go_listiter {A : Around} {s : Shared} {E : Value → Shared → Prop} {prog w target} {it : Addr} {o : Obj} {v : Value} {Q : Unit → Shared → Prop} {T : String} (ho : s.heap.get? it = some o) (hT : o.cls = .type T) (hc : lonely T = true)
    (h : Q () s) : wpAny (model prog w) A (letOwnedTupleGo target (.ref it) v) Q E s := by
  have hc : ["enumerate", "zip", "dict_itemiterator", "dict_reverseitemiterator", "odict_iterator", "itertools.zip_longest", "itertools.pairwise"].contains T = false := by unfold lonely at hc; rwa [Bool.not_eq_true'] at hc
  have fin : wpAny (model prog w) A (match v with
    | .ref a => (do
      let o ← load it
      match o.cls, o.data with
      | .type n, .fields vs =>
        if ["enumerate", "zip", "dict_itemiterator", "dict_reverseitemiterator", "odict_iterator", "itertools.zip_longest", "itertools.pairwise"].contains n && vs[0]? == some (rawInt a) then
          rule "for.unpacks-the-owned-tuple"
          updateField it 0 .none
      | _, _ => pure ())
    | _ => pure ()) Q E s := by
    cases v with
    | ref a =>
      refine wpAny_bind (wpAny_load ho ?_)
      rw [hT]
      cases o.data with
      | fields vs =>
        dsimp only
        rw [if_neg (by rw [hc]; exact Bool.false_ne_true)]
        exact wpAny_pure h
      | _ => exact wpAny_pure h
    | _ => exact wpAny_pure h
  cases target with
  | Tuple => cases v <;> exact fin
  | List => cases v <;> exact fin
  | _ => exact wpAny_pure h
structure OneIt (g : G) (fl : List Env) (it : Addr) (Inv : MH → Prop) (W : Heap → Prop) (ys : List V) (T : String) (Ob : Nat → Obj → Prop) : Prop where
  nt : (Value.type T) ≠ .type "tuple"
  lo : lonely T = true
  cls : ∀ {k o}, Ob k o → o.cls = .type T
  cell : ∀ {k o}, Ob k o → ∀ v, o.data ≠ .cell v
  mono : ∀ {h h' : Heap}, (∀ b o, h.get? b = some o → IsTup o → h'.get? b = some o) → W h → W h'
  next : ∀ {f A s l σ δ k v o P E}, A.handled = none → FS ⟨g, fl, f⟩ l σ δ s → Inv σ → W s.heap → s.heap.get? it = some o → Ob k o → ys[k]? = some v →
    (∀ r h' o' tk, VRel s.heap v r → h'.get? it = some o' → Ob (k + 1) o' → Heap.ExtBut it s.heap h' → P (some r) { s with heap := h', toks := tk }) → wpAny (model g.prog g.w) A (pyNext (.ref it)) P E s
  done : ∀ {f A s l σ δ k o P E}, A.handled = none → FS ⟨g, fl, f⟩ l σ δ s → Inv σ → W s.heap → s.heap.get? it = some o → Ob k o → ys[k]? = none → (∀ h', Heap.ExtBut it s.heap h' → P none { s with heap := h' }) → wpAny (model g.prog g.w) A (pyNext (.ref it)) P E s
  again : ∀ {A s k o Q E}, s.heap.get? it = some o → Ob k o → Q (.ref it) s → wpAny (model g.prog g.w) A (pyIter (.ref it)) Q E s
inductive OneAt (g : G) (fl : List Env) (it : Addr) (W : Heap → Prop) (Ob : Nat → Obj → Prop) (f : Frm) (k : Nat) (σ : MH) (δ : DM) (h : Heap) : Prop
  | mk (o : Obj) (A : Aside ⟨g, fl, f⟩ σ δ h it o) (ho : Ob k o) (hW : W h)
theorem OneIt.itr {g fl it Inv W ys T Ob target} (X : OneIt g fl it Inv W ys T Ob) : Itr g fl (.ref it) target Inv ys [it] (OneAt g fl it W Ob) where
  stay F k E := fun ⟨o, A, ho, hW⟩ => ⟨o, A.stay (φ := ⟨g, fl, _⟩) (fun z => (k _ z).1 (.head _)) E, ho, X.mono (E.tups F.sim (fun b hb => (k b hb).2) F.fr) hW⟩
  next hh F hi := fun ⟨o, A, ho, hW⟩ hv hQ => by
    refine X.next hh F hi hW A.at_ ho hv fun r h' o' tk hr h1 h2 hs => ?_
    have kb : KeepBut [it] _ h' := KeepBut.of_ext hs
    have nt : ¬ IsTup o := notTup_cls (by rw [X.cls ho]; exact X.nt)
    have kt := tupKeep A.at_ nt kb
    have fin := hQ r _ (hr.mono kt) (F.aside (tk := tk) A kb (X.cell ho) nt) kb ⟨o', A.put h1, h2, X.mono kt hW⟩
    exact ⟨r, rfl, go_listiter h1 (X.cls h2) X.lo fin⟩
  done hh F hi := fun ⟨o, A, ho, hW⟩ hv hQ => by
    refine X.done hh F hi hW A.at_ ho hv fun h' hs => ?_
    have kb : KeepBut [it] _ h' := KeepBut.of_ext hs
    exact ⟨rfl, hQ _ (F.aside A kb (X.cell ho) (notTup_cls (by rw [X.cls ho]; exact X.nt))) kb⟩
  again := fun ⟨o, A, ho, _⟩ h => X.again A.at_ ho h
theorem none_past {h : Heap} {xs : List V} {vs : Array Value} {k : Nat} (hl : VsRel h xs vs.toList) (hx : xs[k]? = none) : vs[k]? = none := by
  rw [List.getElem?_eq_none_iff] at hx
  rw [Array.getElem?_eq_none_iff, ← Array.length_toList, hl.length]; exact hx
theorem OneIt.list {g fl it a ys} : OneIt g fl it (fun σ => lst σ a ys) (fun q_ => True) ys "list_iterator" (fun k o => o.cls = .type "list_iterator" ∧ o.data = .fields #[.ref a, .int k 0]) where
  nt := type_ne (by decide)
  lo := by decide
  cls h := h.1
  cell h v := by rw [h.2]; exact fun z => nomatch z
  mono _ _ := trivial
  next hh F hi _ ho hO hv hP := by
    obtain ⟨vs, h1, h2, _⟩ := F.sim.lst hi
    obtain ⟨r, h3, h4⟩ := h2.get hv
    exact wpAny_pyNext_list_item ⟨_, ho, hO⟩ h1 (by rw [← Array.getElem?_toList]; exact h3) fun h' ⟨o', q1, q2⟩ hs => hP r h' o' _ h4 q1 q2 hs.extBut
  done hh F hi _ ho hO hv hP := by
    obtain ⟨vs, h1, h2, _⟩ := F.sim.lst hi
    exact wpAny_pyNext_list_end hh ⟨_, ho, hO⟩ h1 (none_past h2 hv) hP
  again ho hO h := wpAny_pyIter_listiter ⟨_, ho, hO⟩ h
theorem OneIt.tup {g fl it t vs ys} : OneIt g fl it (fun q_ => True) (fun h => h.IsTuple t vs ∧ VsRel h ys vs.toList) ys "tuple_iterator" (fun k o => o.cls = .type "tuple_iterator" ∧ o.data = .fields #[.ref t, .int k 0]) where
  nt := type_ne (by decide)
  lo := by decide
  cls h := h.1
  cell h v := by rw [h.2]; exact fun z => nomatch z
  mono k := fun ⟨⟨o, h1, h2, n, h3⟩, h4⟩ => ⟨⟨o, k _ _ h1 ⟨h2, _, _, h3⟩, h2, n, h3⟩, h4.mono k⟩
  next hh F hi hW ho hO hv hP := by
    obtain ⟨r, h3, h4⟩ := hW.2.get hv
    exact wpAny_pyNext_tuple_item ⟨_, ho, hO⟩ hW.1 (by rw [← Array.getElem?_toList]; exact h3) fun h' ⟨o', q1, q2⟩ hs => hP r h' o' _ h4 q1 q2 hs.extBut
  done hh F hi hW ho hO hv hP := wpAny_pyNext_tuple_end hh ⟨_, ho, hO⟩ hW.1 (none_past hW.2 hv) hP
  again ho hO h := wpAny_pyIter_tupleiter ⟨_, ho, hO⟩ h
noncomputable def rng (a : Int) (n : Nat) : List V := (List.range n).map fun i => .int (a + (i : Nat))
theorem rng_len (a : Int) (n : Nat) : (rng a n).length = n := by unfold rng; rw [List.length_map, List.length_range]
theorem rng_get (a : Int) (n i : Nat) : (rng a n)[i]? = if i < n then some (.int (a + (i : Nat))) else none := by
  unfold rng
  rw [List.getElem?_map]
  by_cases h : i < n
  · rw [if_pos h, List.getElem?_range h]; rfl
  · rw [if_neg h, List.getElem?_eq_none (by rw [List.length_range]; lia)]; rfl
theorem OneIt.range {g fl it} {a : Int} {n : Nat} : OneIt g fl it (fun q_ => True) (fun q_ => True) (rng a n) "range_iterator" (fun k o => o = { cls := .type "range_iterator", dict := none, data := .fields #[rawInt (a + (k : Nat)), rawInt ((n : Int) - (k : Nat)), rawInt 1], slots := #[] }) where
  nt := type_ne (by decide)
  lo := by decide
  cls h := by rw [h]
  cell h v := by rw [h]; exact fun z => nomatch z
  mono _ _ := trivial
  next {_ _ _ _ _ _ k _ _ _ _} hh F hi _ ho hO hv hP := by
    subst hO
    rw [rng_get] at hv
    split at hv
    · cases hv
      refine wpAny_pyNext_range_item ho (by lia) fun h' q1 hs => hP _ h' _ _ (.int ..) q1 ?_ hs.extBut
      rw [show a + ((k + 1 : Nat) : Int) = a + (k : Nat) + 1 by lia, show (n : Int) - ((k + 1 : Nat) : Int) = (n : Int) - (k : Nat) - 1 by lia]
    · cases hv
  done hh F hi _ ho hO hv hP := by
    subst hO
    rw [rng_get] at hv
    split at hv
    · cases hv
    · exact wpAny_pyNext_range_end hh ho (by lia) hP
  again ho hO h := by subst hO; exact wpAny_pyIter_rangeiter ho h
theorem OneIt.rev {g fl it a} {ys : List V} : OneIt g fl it (fun σ => lst σ a ys) (fun q_ => True) ys.reverse "list_reverseiterator" (fun k o => o.cls = .type "list_reverseiterator" ∧ o.data = .fields #[.ref a, rawInt ((ys.length : Int) - 1 - (k : Nat))] ∧ k ≤ ys.length) where
  nt := type_ne (by decide)
  lo := by decide
  cls h := h.1
  cell h v := by rw [h.2.1]; exact fun z => nomatch z
  mono _ _ := trivial
  next {_ _ _ _ _ _ k _ _ _ _} hh F hi _ ho hO hv hP := by
    obtain ⟨vs, h1, h2, _⟩ := F.sim.lst hi
    have hlt : k < ys.length := by have := (List.getElem?_eq_some_iff.mp hv).1; rwa [List.length_reverse] at this
    rw [List.getElem?_reverse hlt] at hv
    obtain ⟨r, h3, h4⟩ := h2.get hv
    refine wpAny_pyNext_rev_item (i := ys.length - 1 - k) ⟨_, ho, hO.1, by rw [hO.2.1, show ((ys.length - 1 - k : Nat) : Int) = (ys.length : Int) - 1 - (k : Nat) by lia]⟩ h1 (by rw [← Array.getElem?_toList]; exact h3) fun h' ⟨o', q1, q2, q3⟩ hs => hP r h' o' _ h4 q1 ⟨q2, ?_, hlt⟩ hs.extBut
    rw [q3, show ((ys.length - 1 - k : Nat) : Int) - 1 = (ys.length : Int) - 1 - ((k + 1 : Nat) : Int) by lia]
  done {_ _ _ _ _ _ k _ _ _} hh F hi _ ho hO hv hP := by
    rw [List.getElem?_eq_none_iff, List.length_reverse] at hv
    exact wpAny_pyNext_rev_end hh (l := a) ⟨_, ho, hO.1, by rw [hO.2.1, show (ys.length : Int) - 1 - (k : Nat) = -1 by have := hO.2.2; lia]⟩ hP
  again ho hO h := wpAny_pyIter_revIter ⟨_, ho, hO.1, hO.2.1⟩ h
theorem OneIt.make {φ : Fx} {s : Shared} {h' : Heap} {tk : Nat} {it : Addr} {o : Obj} {Inv : MH → Prop} {W : Heap → Prop} {ys T Ob target} {Q : List V → (MH → Prop) → Loc → MH → Prop} (X : OneIt φ.g φ.fl it Inv W ys T Ob) (F : FS φ l σ δ s) (k : ∀ b o, s.heap.get? b = some o → h'.get? b = some o)
    (hb : s.heap.objs.size ≤ it) (ho : h'.get? it = some o) (hO : Ob 0 o) (hW : W h') (q : Q ys Inv l σ) : ItOk φ target σ δ s.heap Q (.ref it) { s with heap := h', toks := tk } := by
  have fin := F.grow (tk := tk) k
  have as := Aside.new F (h' := h') hb ho
  exact ⟨l, σ, δ, _, [it], ys, Inv, fin.1, fin.2, fun b h => by rw [List.mem_singleton.mp h]; exact fresh_get hb, fun b h => by rw [List.mem_singleton.mp h]; exact ⟨o, ho⟩, X.itr, ⟨o, as, hO, hW⟩, q⟩
inductive Seq1 (σ : MH) : V → List V → (MH → Prop) → Prop
  | list (a : Addr) (ys : List V) (h : lst σ a ys) : Seq1 σ (.ref a) ys fun σ => lst σ a ys
  | tup (ys : List V) : Seq1 σ (.tup ys) ys fun q_ => True
theorem WIt.val {target e} {Q : List V → (MH → Prop) → Loc → MH → Prop} (h : WE κ e (fun v l1 σ1 => X2 fun ys Inv => Seq1 σ1 v ys Inv ∧ Q ys Inv l1 σ1) l σ) : WIt κ target e Q l σ := fun A s δ G F => by
  refine wpAny_mono (h A s δ G F) (fun r s1 ⟨v, l1, σ1, δ1, hR, F1, E1, ys, Inv, hs, q⟩ => ?_) fun q_ q_ e => e
  cases hs with
  | list a ys hl =>
    rw [hR.ref_inv]
    obtain ⟨vs, h1, h2, _⟩ := F1.sim.lst hl
    exact wpAny_pyIter_list h1 (ItOk.trans E1 (OneIt.make OneIt.list F1 (fun b o e => Heap.get?_push_of_some _ e) (Nat.le_refl _) (Heap.get?_push_size _ rfl) ⟨rfl, rfl⟩ trivial q))
  | tup ys =>
    obtain ⟨a, vs, ht, hl⟩ := hR.tup_inv
    have kk : ∀ b o, s1.heap.get? b = some o → (s1.heap.push { cls := .type "tuple_iterator", data := .fields #[.ref a, .int 0 0] }).get? b = some o := fun b o e => Heap.get?_push_of_some _ e
    refine wpAny_pyIter_tuple ht (ItOk.trans E1 (OneIt.make (OneIt.tup (t := a) (vs := vs)) F1 kk (Nat.le_refl _) (Heap.get?_push_size _ rfl) ⟨rfl, rfl⟩ ⟨?_, hl.mono fun b o e q_ => kk b o e⟩ q))
    obtain ⟨o, h1, h2⟩ := ht
    exact ⟨o, kk _ _ h1, h2⟩

noncomputable def WItC (κ : Cx) (target : PySem.Expr) (fv : V) (args : List V) (Q : List V → (MH → Prop) → Loc → MH → Prop) (l : Loc) (σ : MH) : Prop :=
  ∀ A s δ rf ra, Good κ A → FS κ.φ l σ δ s → VRel s.heap fv rf → VsRel s.heap args ra →
    wpAny (model κ.φ.g.prog κ.φ.g.w) A (call rf ra) (fun r s1 => wpAny (model κ.φ.g.prog κ.φ.g.w) A (pyIter r) (ItOk κ.φ target σ δ s.heap Q) (fun q_ q_ => False) s1) (fun q_ q_ => False) s
theorem WIt.call {target} {fe : PySem.Expr} {args pos} {Q : List V → (MH → Prop) → Loc → MH → Prop} (h : WE κ fe (fun fv l1 σ1 => keepV κ.φ.g.K fv = true ∧ WArgs κ args (fun vs l2 σ2 => WItC κ target fv vs Q l2 σ2) l1 σ1) l σ)
    (he : eval (.Call fe args [] pos) κ.φ.f.env = (do callWith pos (← eval fe κ.φ.f.env) [] (backTo pos (starEach args κ.φ.f.env)) []))
    (hplain : (starEach args κ.φ.f.env).all (fun x => !x.1) = true) : WIt κ target (.Call fe args [] pos) Q l σ := fun A s δ G F => by
  rw [he]
  refine wpAny_bind (wpAny_mono (h A s δ G F) (fun rf s1 ⟨fv, l1, σ1, δ1, hR, F1, E1, hk, q1⟩ => ?_) fun q_ q_ e => e)
  refine callWith_of (P := fun h => κ.φ.g.K.In h) (by rw [any_back hplain]; rfl) (fun h Y => keepV_of hk hR h Y) ?_
  have fin : wpAny (model κ.φ.g.prog κ.φ.g.w) A (spliced (backTo pos (starEach args κ.φ.f.env))) (fun vs s₁ => κ.φ.g.K.In s₁.heap ∧ wpAny (model κ.φ.g.prog κ.φ.g.w) A (PySem.call rf vs)
      (fun r s1 => wpAny (model κ.φ.g.prog κ.φ.g.w) A (pyIter r) (ItOk κ.φ target σ δ s.heap Q) (FlX κ σ δ s.heap) s1) (FlX κ σ δ s.heap) s₁) (FlX κ σ δ s.heap) s1 := by
    refine wpAny_mono (q1 A s1 δ1 pos G F1) (fun rvs s2 ⟨vs, l2, σ2, δ2, hR2, F2, E2, q2⟩ => ⟨F2.inK, ?_⟩) fun q_ q_ e => e.trans E1
    exact wpAny_mono (q2 A s2 δ2 rf rvs G F2 (hR.evo F1 E2) hR2) (fun r s3 h3 => wpAny_mono h3 (fun it s4 h4 => ItOk.trans (E1.trans E2) h4) fun q_ q_ e => e.elim) fun q_ q_ e => e.elim
  cases hs : starEach args κ.φ.f.env with
  | nil => rw [hs] at fin; exact evalArgs_nil fin
  | cons x r =>
    rw [hs] at fin hplain
    obtain ⟨b, t⟩ := x
    rw [List.all_cons, Bool.and_eq_true, Bool.not_eq_true'] at hplain
    obtain ⟨rfl, _⟩ := hplain
    exact evalArgs_plain fin
theorem fits {i : Int} (h : i.natAbs < 2 ^ 62) : Builtin.Range.rangeFitsLong i = true := by
  unfold Builtin.Range.rangeFitsLong
  rw [Bool.and_eq_true, decide_eq_true_eq, decide_eq_true_eq]
  lia
theorem range_small {a b : Int} (ha : a.natAbs < 2 ^ 60) (hb : b.natAbs < 2 ^ 60) : Builtin.Range.small a b 1 = true := by
  have t : ∀ i : Int, i.toNat ≤ i.natAbs
    | .ofNat n => Nat.le_refl n
    | .negSucc n => Nat.zero_le _
  have fb := fits (Nat.lt_trans hb (by decide))
  unfold Builtin.Range.small
  rw [rangeSize_nat, fits (Nat.lt_trans ha (by decide)), fb, fits (i := ((b - a).toNat : Int)) (Nat.lt_of_le_of_lt (t _) (Nat.lt_of_le_of_lt (Int.natAbs_sub_le b a) (Nat.lt_trans (Nat.add_lt_add hb ha) (by decide)))), if_pos (by decide), show b + (1 - 1) = b from Int.add_zero b, fb, Bool.or_true]
  rfl
theorem range_core {target} {A : Around} {s : Shared} {a b : Int} {t u v : Tok} {tk : Nat} {Q : List V → (MH → Prop) → Loc → MH → Prop} (F : FS κ.φ l σ δ s) (ha : a.natAbs < 2 ^ 60) (hb : b.natAbs < 2 ^ 60)
    (h : Q (rng a (b - a).toNat) (fun q_ => True) l σ) : wpAny (model κ.φ.g.prog κ.φ.g.w) A (pyIter (.ref s.heap.objs.size)) (ItOk κ.φ target σ δ s.heap Q) (fun q_ q_ => False)
      { s with heap := s.heap.push { cls := .type "range", data := .fields #[.int a t, .int b u, .int 1 v] }, toks := tk } := by
  refine wpAny_pyIter_range (a := a) (b := b) (c := 1) (Heap.get?_push_size _ rfl) (range_small ha hb) ?_
  rw [rangeSize_nat a b]
  simp only [Heap.size_push]
  refine OneIt.make (OneIt.range (a := a) (n := (b - a).toNat)) F (fun x o e => Heap.get?_push_of_some _ (Heap.get?_push_of_some _ e)) (Nat.le_succ _) (by rw [← Heap.size_push]; exact Heap.get?_push_size _ rfl) ?_ trivial h
  simp
theorem WItC.range1 {target} {n : Int} {Q : List V → (MH → Prop) → Loc → MH → Prop} (hn : n.natAbs < 2 ^ 60) (h : Q (rng 0 n.toNat) (fun q_ => True) l σ) : WItC κ target (.typ "range") [.int n] Q l σ := fun A s δ rf ra G F hf hv => by
  rw [hf.typ_inv]; obtain ⟨t, rfl⟩ := hv.intI
  exact call_range_1 (range_core F (a := 0) (by decide) hn (by rw [Int.sub_zero]; exact h))
theorem WItC.range2 {target} {a b : Int} {Q : List V → (MH → Prop) → Loc → MH → Prop} (ha : a.natAbs < 2 ^ 60) (hb : b.natAbs < 2 ^ 60) (h : Q (rng a (b - a).toNat) (fun q_ => True) l σ) : WItC κ target (.typ "range") [.int a, .int b] Q l σ := fun A s δ rf ra G F hf hv => by
  rw [hf.typ_inv]; obtain ⟨t, u, rfl⟩ := hv.int2
  exact call_range_2 (range_core F ha hb h)
theorem WItC.rev {target a ys} {Q : List V → (MH → Prop) → Loc → MH → Prop} (hl : lst σ a ys) (h : Q ys.reverse (fun σ => lst σ a ys) l σ) : WItC κ target (.typ "reversed") [.ref a] Q l σ := fun A s δ rf ra G F hf hv => by
  rw [hf.typ_inv, hv.refI]
  obtain ⟨vs, h1, h2, h3⟩ := F.sim.lst hl
  refine call_reversed_list h1 ?_
  rw [h3]
  refine wpAny_pyIter_revIter (l := a) (i := (ys.length : Int) - 1) ⟨_, Heap.get?_push_size _ rfl, rfl, rfl⟩ ?_
  refine OneIt.make (OneIt.rev (a := a)) F (fun b o e => Heap.get?_push_of_some _ e) (Nat.le_refl _) (Heap.get?_push_size _ rfl) ⟨rfl, ?_, Nat.zero_le _⟩ trivial h
  rw [show (ys.length : Int) - 1 - ((0 : Nat) : Int) = (ys.length : Int) - 1 by lia]; rfl
end
end Mn
set_option genInjectivity false
namespace Mn
open PySem.SeqAt

section
variable {κ : Cx} {l : Loc} {σ : MH} {δ : DM}
noncomputable def enumL (ys : List V) : List V := ys.zipIdx.map fun p => .tup [.int (p.2 : Nat), p.1]
theorem enumL_get (ys : List V) (k : Nat) : (enumL ys)[k]? = (ys[k]?).map fun v => .tup [.int (k : Nat), v] := by
  unfold enumL
  rw [List.getElem?_map, List.getElem?_zipIdx, Nat.zero_add]
  cases ys[k]? <;> rfl
noncomputable def enumObj (it : Addr) (k : Nat) (old : Value) : Obj := { cls := .type "enumerate", dict := none, data := .fields #[.none, .bool false, .ref it, rawInt (k : Nat), .none, old], slots := #[] }
inductive EnumAt (g : G) (fl : List Env) (e it a : Addr) (f : Frm) (k : Nat) (σ : MH) (δ : DM) (h : Heap) : Prop
  | mk (old : Value) (B : Aside ⟨g, fl, f⟩ σ δ h e (enumObj it k old)) (o : Obj) (A : Aside ⟨g, fl, f⟩ σ δ h it o) (hc : o.cls = .type "list_iterator") (hd : o.data = .fields #[.ref a, .int k 0]) (hn : e ≠ it)
theorem enum_nt {it k old} : ¬ IsTup (enumObj it k old) := notTup_cls (type_ne (by decide))
theorem two_of {b e it : Addr} (h : b ∈ [e, it]) : b = e ∨ b = it := (List.mem_cons.mp h).imp_right List.mem_singleton.mp
theorem FS.aside2 {φ : Fx} {s : Shared} {h' : Heap} {tk : Nat} {e it : Addr} {oe oi oe' : Obj} (F : FS φ l σ δ s) (B : Aside φ σ δ s.heap e oe) (A : Aside φ σ δ s.heap it oi) (ne : ¬ IsTup oe) (ni : ¬ IsTup oi) (ce : ∀ v, oe.data ≠ .cell v) (ci : ∀ v, oi.data ≠ .cell v) (hn : e ≠ it)
    (kb : KeepBut [e, it] s.heap h') (he : h'.get? e = some oe') : FS φ l σ δ { s with heap := h', toks := tk } := by
  have ex : ∃ hm : Heap, hm.get? e = some oe' ∧ Heap.SameBut e s.heap hm :=
    ⟨s.heap.update e fun q_ => oe', Heap.get?_update_self _ B.at_ (Heap.get?_some_iff.mp he).2, Heap.SameBut.update ..⟩
  obtain ⟨hm, h1, h2⟩ := ex
  have F1 := F.aside (tk := tk) B (fun b x e1 e2 => (h2.2 b fun z => e2 (List.mem_singleton.mpr z)).trans e1) ce ne
  have A1 := A.put ((h2.2 it (Ne.symm hn)).trans A.at_)
  exact F1.aside (s := { s with heap := hm, toks := tk }) (tk := tk) A1 (fun b x e1 e2 => by
    by_cases z : b = e
    · subst z; rw [h1] at e1; cases e1; exact he
    · exact kb b x ((h2.2 b z).symm.trans e1) fun q => (two_of q).elim z fun q => e2 (List.mem_singleton.mpr q)) ci ni
theorem Itr.enum {g fl elts tk tpos} {e it a : Addr} {ys : List V} : Itr g fl (.ref e) (.Tuple elts tk tpos) (fun σ => lst σ a ys) (enumL ys) [e, it] (EnumAt g fl e it a) where
  stay F k E := fun ⟨old, B, o, A, hc, hd, hn⟩ => ⟨old, B.stay (φ := ⟨g, fl, _⟩) (fun z => (k _ z).1 (.head _)) E, o, A.stay (φ := ⟨g, fl, _⟩) (fun z => (k _ z).1 (.tail _ (.head _))) E, hc, hd, hn⟩
  next := fun {f _ s _ _ _ k _ _ _} hh F hi ⟨old, B, o, A, hc, hd, hn⟩ hv hQ => by
    rw [enumL_get] at hv
    obtain ⟨y, hy, rfl⟩ := Option.map_eq_some_iff.mp hv
    obtain ⟨vs, h1, h2, _⟩ := F.sim.lst hi
    obtain ⟨r, h3, h4⟩ := h2.get hy
    refine wpAny_pyNext_enum_item B.at_ ⟨o, A.at_, hc, hd⟩ h1 (by rw [← Array.getElem?_toList]; exact h3) hn fun h' q1 ⟨o', q2, q3, q4⟩ q5 q6 q7 => ?_
    refine ⟨_, rfl, wpAny_letOwnedTupleGo_enum q1 fun h2' q8 hs => ?_⟩
    have nto : ¬ IsTup o := notTup_cls (by rw [hc]; exact type_ne (by decide))
    have kb : KeepBut [e, it] s.heap h2' := fun b x e1 e2 => (hs.2 b fun z => e2 (z ▸ .head _)).trans (q7 b x (fun z => e2 (z ▸ .head _)) (fun z => e2 (z ▸ .tail _ (.head _))) e1)
    have kt : ∀ b x, s.heap.get? b = some x → IsTup x → h2'.get? b = some x := fun b x e1 t => kb b x e1 fun z => by
      rcases two_of z with rfl | rfl
      · rw [B.at_] at e1; cases e1; exact enum_nt t
      · rw [A.at_] at e1; cases e1; exact nto t
    have Fa := F.aside2 (tk := s.toks + 1) B A enum_nt nto (fun v z => nomatch z) (fun v => by rw [hd]; exact fun z => nomatch z) hn kb q8
    have ene : s.heap.objs.size ≠ e := Ne.symm (Nat.ne_of_lt (Heap.lt_size B.at_))
    exact hQ _ _ (.tup ((hs.2 _ ene).trans q5) rfl rfl (.cons (.int ..) (.cons (h4.mono kt) .nil))) Fa kb ⟨r, B.put q8, o', A.put ((hs.2 it (Ne.symm hn)).trans q2), q3, q4, hn⟩
  done := fun {f _ s _ _ _ k _ _} hh F hi ⟨old, B, o, A, hc, hd, hn⟩ hv hQ => by
    rw [enumL_get] at hv
    obtain ⟨vs, h1, h2, _⟩ := F.sim.lst hi
    refine wpAny_pyNext_enum_end hh B.at_ ⟨o, A.at_, hc, hd⟩ h1 (none_past h2 (Option.map_eq_none_iff.mp hv)) fun h' hs => ?_
    have kb : KeepBut [it] _ h' := KeepBut.of_ext hs
    exact ⟨rfl, hQ _ (F.aside A kb (fun v => by rw [hd]; exact fun z => nomatch z) (notTup_cls (by rw [hc]; exact type_ne (by decide)))) fun b x e1 e2 => kb b x e1 fun z => e2 (.tail _ z)⟩
  again := fun ⟨old, B, _, _, _, _, _⟩ h => wpAny_pyIter_enum B.at_ h
theorem WItC.enum {elts tk tpos a ys} {Q : List V → (MH → Prop) → Loc → MH → Prop} (hl : lst σ a ys) (h : Q (enumL ys) (fun σ => lst σ a ys) l σ) : WItC κ (.Tuple elts tk tpos) (.typ "enumerate") [.ref a] Q l σ := fun A s δ rf ra G F hf hv => by
  rw [hf.typ_inv, hv.refI]
  obtain ⟨vs, h1, h2, _⟩ := F.sim.lst hl
  refine call_enumerate_list h1 fun h' q1 ⟨o, q2, q3, q4⟩ q5 kk => ?_
  have fin := F.grow (tk := s.toks) kk
  refine wpAny_pyIter_enum q1 ?_
  refine ⟨l, σ, δ, _, [s.heap.objs.size + 1, s.heap.objs.size], enumL ys, _, fin.1, fin.2, fun x hx => ?_, fun x hx => ?_, Itr.enum (a := a) (ys := ys), ⟨.none, Aside.new F (Nat.le_succ _) q1, o, Aside.new F (Nat.le_refl _) q2, q3, q4, Nat.succ_ne_self _⟩, h⟩
  · rcases two_of hx with rfl | rfl
    · exact fresh_get (Nat.le_succ _)
    · exact fresh_get (Nat.le_refl _)
  · rcases two_of hx with rfl | rfl
    · exact ⟨_, q1⟩
    · exact ⟨_, q2⟩

end
end Mn
set_option genInjectivity false
namespace Mn
open PySem.SeqAt PySem.Builtin PySem.Builtin.ObjectAttr

section
variable {κ : Cx} {l : Loc} {σ : MH} {δ : DM}

noncomputable def clOf (env : Env) (names : List (Str × NameKind)) : List (Str × Addr) := names.foldl (fun cs x => if x.2 == .free then (x.1, (env.cells.lookup x.1).getD 0) :: cs else cs) []
set_option tactic.hygienic true in
theorem clOf_some {env : Env} {x : Str} : ∀ (names : List (Str × NameKind)) (acc : List (Str × Addr)), ((x, NameKind.free) ∈ names ∨ acc.lookup x = some ((env.cells.lookup x).getD 0)) →
    (names.foldl (fun cs x => if x.2 == .free then (x.1, (env.cells.lookup x.1).getD 0) :: cs else cs) acc).lookup x = some ((env.cells.lookup x).getD 0)
  | [], acc, h => h.elim (fun h => nomatch h) id
  | (y, k) :: r, acc, h => by
    rw [List.foldl_cons]
    refine clOf_some r _ ?_
    dsimp only
    by_cases z : x = y ∧ k = .free
    · obtain ⟨rfl, rfl⟩ := z
      exact .inr (by rw [if_pos (beq_self_eq_true _), List.lookup_cons, beq_self_eq_true])
    · refine h.imp (fun h => (List.mem_cons.mp h).elim (fun e => (z ⟨(Prod.mk.inj e).1, (Prod.mk.inj e).2.symm⟩).elim) id) fun h => ?_
      split
      · rename_i hk
        rw [List.lookup_cons, beq_eq_false_iff_ne.mpr fun e => z ⟨e, eq_of_beq hk⟩]; exact h
      · exact h
theorem closure_eq (scope : Scope) (env : Env) (hc : ∀ x, (x, NameKind.free) ∈ scope.names → ∃ c, env.cells.lookup x = some c) : closureFor scope env = pure (clOf env scope.names) := by
  have go : ∀ (names : List (Str × NameKind)) (acc : List (Str × Addr)), (∀ x, (x, NameKind.free) ∈ names → ∃ c, env.cells.lookup x = some c) →
      (forIn names acc fun x r => (if x.2 == NameKind.free then do let a ← cellOf env x.1; pure (ForInStep.yield ((x.1, a) :: r)) else pure (ForInStep.yield r) : Sem (ForInStep (List (Str × Addr))))) =
      pure (names.foldl (fun cs x => if x.2 == .free then (x.1, (env.cells.lookup x.1).getD 0) :: cs else cs) acc) := by
    intro names
    induction names with
    | nil => intro acc _; rfl
    | cons y r ih =>
      intro acc h
      obtain ⟨y, k⟩ := y
      rw [List.forIn_cons, List.foldl_cons]
      by_cases hk : k = .free
      · subst hk
        obtain ⟨c, hc⟩ := h y (.head _)
        simp only [cellOf, hc, pure_bind, Option.getD_some, beq_self_eq_true, if_true]
        exact ih _ fun x hx => h x (.tail _ hx)
      · have : (k == NameKind.free) = false := by cases k <;> first | rfl | exact absurd rfl hk
        simp only [this, Bool.false_eq_true, if_false, pure_bind]
        exact ih _ fun x hx => h x (.tail _ hx)
  unfold closureFor
  have := go scope.names [] hc
  simp only [bind_pure]
  exact this
open Classical in
noncomputable def compLoc (scope : Scope) (l : Loc) : Loc := fun x => if (x, NameKind.free) ∈ scope.names then l x else none
structure CompF (f : Frm) (scope : Scope) (f' : Frm) : Prop where
  env : X2 fun cl C => f'.env = compEnvC scope cl C f.env
noncomputable def relabK (env : Env) (x : Str) (k : NameKind) : NameKind := if (k == NameKind.free && env.scope.kind == .function && env.kindOf x == some .cell) then NameKind.cell else k
theorem lookup_relab {env : Env} {x : Str} : ∀ (names : List (Str × NameKind)),
    (names.map fun (n, k) => if (k == NameKind.free && env.scope.kind == .function && env.kindOf n == some .cell) then (n, NameKind.cell) else (n, k)).lookup x = (names.lookup x).map (relabK env x)
  | [] => rfl
  | (y, k) :: r => by
    have e0 : (if (k == NameKind.free && env.scope.kind == .function && env.kindOf y == some .cell) = true then (y, NameKind.cell) else (y, k)) = (y, relabK env y k) := by unfold relabK; split <;> rfl
    rw [List.map_cons]
    dsimp only
    rw [e0, List.lookup_cons, List.lookup_cons, lookup_relab r]
    by_cases e : x = y
    · subst e; rw [beq_self_eq_true]; rfl
    · rw [beq_eq_false_iff_ne.mpr e]
theorem CompF.kindOf {f f' : Frm} {scope : Scope} {x : Str} (c : CompF f scope f') : f'.env.kindOf x = (scope.names.lookup x).map (relabK f.env x) := by
  obtain ⟨cl, C, e⟩ := c.env
  rw [e]; exact lookup_relab _
theorem CompF.kind {f f' : Frm} {scope : Scope} {x : Str} {k : NameKind} (c : CompF f scope f') (h : scope.names.lookup x = some k) (hk : k ≠ .free) : f'.env.kindOf x = some k := by
  rw [c.kindOf, h, Option.map_some, relabK, show (k == NameKind.free) = false by cases k <;> first | rfl | exact absurd rfl hk]; rfl

noncomputable def WTs (κ : Cx) (ifs : List PySem.Expr) (Q : Bool → Loc → MH → Prop) (l : Loc) (σ : MH) : Prop :=
  ∀ A s δ, Good κ A → FS κ.φ l σ δ s → At BRel κ A (forIn ifs true fun c r => if r = true then do let ok ← isTrue c κ.φ.f.env (eval c κ.φ.f.env); pure (ForInStep.yield ok) else pure (ForInStep.yield r)) Q σ δ s
theorem WTs.nil {Q : Bool → Loc → MH → Prop} (h : Q true l σ) : WTs κ [] Q l σ := fun A s δ G F => by
  show At BRel κ A (pure true) Q σ δ s
  exact At.pure F rfl h
theorem WTs.one {c} {Q : Bool → Loc → MH → Prop} (h : WB κ c Q l σ) : WTs κ [c] Q l σ := fun A s δ G F => by
  rw [List.forIn_cons]
  simp only [if_true, bind_assoc, pure_bind]
  refine At.bind (h A s δ G F) fun b b' l1 σ1 δ1 s1 hR F1 E1 q1 => ?_
  cases hR
  show At BRel κ A (pure b) Q σ1 δ1 s1
  exact At.pure F1 rfl q1
structure FreeOk (f : Frm) (scope : Scope) (y : Str) : Prop where
  kind : f.env.kindOf y = some .cell ∨ f.env.kindOf y = some .free
  cell : ∃ c, f.env.cells.lookup y = some c
  look : scope.names.lookup y = some .free
structure CompOk (f : Frm) (scope : Scope) : Prop where
  cell : ∀ y ∈ scope.names, y.2 ≠ .cell
  kind : scope.kind = .function
  names : ∀ y ∈ scope.names, y.2 = .local → scope.names.lookup y.1 = some .local
  free : ∀ y ∈ scope.names, y.2 = .free → FreeOk f scope y.1
structure AccAt (Inv : MH → Prop) (D : Addr) (acc : List V) (σ2 : MH) : Prop where
  inv : Inv σ2
  at_ : σ2 D = some (.list acc)
  size : acc.length ≤ 2 ^ 24
noncomputable abbrev Cx.inner (κ : Cx) (f' : Frm) : Cx := ⟨⟨κ.φ.g, κ.φ.fl, f'⟩, κ.d, noX⟩
structure CompTurn (κ : Cx) (scope : Scope) (tgt : PySem.Expr) (ifs : List PySem.Expr) (elt : PySem.Expr) (l1 : Loc) (ys : List V) (Inv : MH → Prop) (D : Addr) (I : Nat → List V → MH → Prop) : Prop where
  acc : ∀ k acc σ2, I k acc σ2 → AccAt Inv D acc σ2
  turn : ∀ f' k v acc σ2, CompF κ.φ.f scope f' → ys[k]? = some v → I k acc σ2 → WA (κ.inner f') tgt v (WTs (κ.inner f') ifs fun b => fun l3 σ3 =>
    brk2 (WE (κ.inner f') elt (fun r l4 σ4 => σ4 D = some (.list acc) ∧ I (k + 1) (acc ++ [r]) (upd σ4 D (.list (acc ++ [r])))) l3 σ3) (I (k + 1) acc σ3) b) (compLoc scope l1) σ2
theorem compLoop_any {prog : Program} {w : World} {A : Around} {s : Shared} {elt target iter : PySem.Expr} {ifs : List PySem.Expr} {scope : Scope} {pos : Pos} {it acc : Value} {env : Env} {R : Result → Shared → Prop} (I : Nat → Shared → Prop)
    (turn : ∀ n s, I n s → wpAny (model prog w) A (pyNext it) (fun r s₁ => match r with
      | none => R (.ok .next) s₁
      | some v => wpAny (model prog w) A (letOwnedTupleGo target it v) (fun q_ s₀ => wpAny (model prog w) A (assign target env v) (fun q_ s₂ =>
          wpAny (model prog w) A (forIn ifs true fun c r => if r = true then do let ok ← isTrue c env (eval c env); pure (ForInStep.yield ok) else pure (ForInStep.yield r)) (fun ok s₃ =>
            if ok = true then wpAny (model prog w) A (eval elt env) (fun x s₄ =>
              wpAny (model prog w) A (call (.builtin "list.append") [acc, x]) (fun q_ s₅ => ∃ m, m < n ∧ I m s₅) (fun q_ q_ => False) s₄) (fun q_ q_ => False) s₃
            else ∃ m, m < n ∧ I m s₃) (fun q_ q_ => False) s₂) (fun q_ q_ => False) s₀) (fun q_ q_ => False) s₁) (fun q_ q_ => False) s)
    (n : Nat) (h : I n s) : codeAny (model prog w) A (.compLoop (.ListComp elt [⟨target, iter, ifs, 0⟩] scope pos) 0 it acc env) R s := by
  refine codeAny_loop rfl I (fun n s hI => ?_) n h
  show wpAny _ A ((compTurn (.ListComp elt [⟨target, iter, ifs, 0⟩] scope pos) 0 it acc env).onRaise (fun x => do noteFrame x env; theTreesLotGoes x)) _ _ s
  refine wpAny_noted ?_
  rw [compTurn_list]
  refine wpAny_bind (wpAny_standAt (wpAny_bind (wpAny_mono (turn n s hI) (fun r s₁ h₁ => ?_) fun q_ q_ h' => h'.elim)))
  cases r with
  | none => exact wpAny_pure h₁
  | some v =>
    refine wpAny_bind (wpAny_mono h₁ (fun q_ s₀ h₀ => wpAny_bind (wpAny_mono h₀ (fun q_ s₂ h₂ => wpAny_bind (wpAny_mono h₂ (fun ok s₃ h₃ => ?_) fun q_ q_ h' => h'.elim)) fun q_ q_ h' => h'.elim)) fun q_ q_ h' => h'.elim)
    cases ok with
    | false => exact wpAny_pure ⟨rfl, h₃⟩
    | true =>
      exact wpAny_bind (wpAny_bind (wpAny_mono h₃ (fun x s₄ h₄ => wpAny_bind (wpAny_mono h₄ (fun q_ s₅ h₅ => wpAny_pure (wpAny_pure ⟨rfl, h₅⟩)) fun q_ q_ h' => h'.elim)) fun q_ q_ h' => h'.elim))
set_option tactic.hygienic true in
theorem comp_env {s : Shared} {scope : Scope} {C : Addr} (F : FS κ.φ l σ δ s) (ok : CompOk κ.φ.f scope) (hC : FaOk κ.φ.g σ δ s.heap C) (hn : ∃ m, s.heap.Ns C m) :
    FS (κ.inner ⟨compEnvC scope (clOf κ.φ.f.env scope.names) C κ.φ.f.env, [C]⟩).φ (compLoc scope l) σ δ s := by
  have lk : ∀ y c, (y, NameKind.free) ∈ scope.names → κ.φ.f.env.cells.lookup y = some c → (clOf κ.φ.f.env scope.names).lookup y = some c := fun y c hy hc => by
    have := clOf_some (env := κ.φ.f.env) scope.names [] (.inl hy)
    rw [hc] at this; exact this
  obtain ⟨mC, hn⟩ := hn
  obtain ⟨m, _, hlo, hce⟩ := F.loc
  refine ⟨F.sim, ⟨ok.kind, F.envOk.globals, F.envOk.builtins, .head _⟩, ⟨_, hn, fun y v hy => ?_, fun y c hk hc => ?_⟩, fun b hb => by rw [List.mem_singleton.mp hb]; exact hC, F.fr, F.gens, F.os⟩
  · unfold compLoc at hy
    split at hy
    · rename_i hf
      have fo := ok.free _ hf rfl
      cases hlo y v hy with
      | loc k => exact (fo.kind.elim (fun q => by rw [k] at q; cases q) fun q => by rw [k] at q; cases q)
      | cell hk c rv h1 h2 h3 =>
        refine .cell ?_ c rv (lk y c hf h1) h2 h3
        show (scope.names.map _).lookup y = _ ∨ (scope.names.map _).lookup y = _
        rw [lookup_relab, fo.look, Option.map_some, relabK]
        split
        · exact .inl rfl
        · exact .inr rfl
    · cases hy
  · have hk' : (scope.names.map fun (n, k) => if (k == NameKind.free && κ.φ.f.env.scope.kind == .function && κ.φ.f.env.kindOf n == some .cell) then (n, NameKind.cell) else (n, k)).lookup y = some NameKind.cell := hk
    rw [lookup_relab] at hk'
    obtain ⟨k, q, hk'⟩ := Option.map_eq_some_iff.mp hk'
    unfold relabK at hk'
    split at hk'
    · rename_i hz
      simp only [Bool.and_eq_true, beq_iff_eq] at hz
      obtain ⟨⟨rfl, _⟩, hz⟩ := hz
      have hf := mem_of_lookup q
      obtain ⟨c0, hc0⟩ := (ok.free _ hf rfl).cell
      have hc : (clOf κ.φ.f.env scope.names).lookup y = some c := hc
      rw [lk y c0 hf hc0] at hc
      exact hce y c hz (hc0.trans hc)
    · subst hk'; exact absurd rfl (ok.cell _ (mem_of_lookup q))
theorem ns_dict {h : Heap} {C : Addr} {m} (n : h.Ns C m) : OwnAt h C := by
  obtain ⟨o, es, ep, h1, h2, _⟩ := n
  exact ⟨o, h1, notTup_dict h2, fun v z => by rw [h2] at z; cases z⟩
inductive CompAt (κ : Cx) (C : Addr) (l1 : Loc) (σ0 : MH) (δ0 : DM) (h0 : Heap) (P : Frm → Nat → MH → DM → Heap → Prop) (I : Nat → List V → MH → Prop) (m n : Nat) (s5 : Shared) : Prop
  | mk (k : Nat) (σ5 : MH) (δ5 : DM) (acc : List V) (hn : n = m + 1 - k) (hk : k ≤ m) (F : FS κ.φ l1 σ5 δ5 s5) (E : Ev κ.φ σ0 δ0 h0 σ5 δ5 s5.heap) (N : ∃ m, s5.heap.Ns C m) (D : ¬ Dom σ5 δ5 C) (hP : P κ.φ.f k σ5 δ5 s5.heap) (q : I k acc σ5)
theorem comp_loop {elt tgt iter ifs scope pos} {A : Around} {s4 s0 : Shared} {l1 σ0 σ1 δ0 δ1 P its ys Inv D it C} {I : Nat → List V → MH → Prop} (G : Good κ A) (ok : CompOk κ.φ.f scope) (T : CompTurn κ scope tgt ifs elt l1 ys Inv D I)
    (F4 : FS κ.φ l1 σ1 δ1 s4) (hCb : κ.φ.g.base.get? C = none) (hCf : C ∉ κ.φ.f.fa) (hCi : C ∉ its) (hCd : ¬ Dom σ1 δ1 C) (hn : ∃ m, s4.heap.Ns C m) (hC0 : s0.heap.get? C = none)
    (E4 : Ev κ.φ σ0 δ0 s0.heap σ1 δ1 s4.heap) (hits : ∀ b ∈ its, s0.heap.get? b = none) (W : Itr κ.φ.g κ.φ.fl it tgt Inv ys its P) (hP : P κ.φ.f 0 σ1 δ1 s4.heap)
    (hI : I 0 [] σ1) {R : Result → Shared → Prop} (hR : ∀ σ5 δ5 s5 acc, FS κ.φ l1 σ5 δ5 s5 → Ev κ.φ σ0 δ0 s0.heap σ5 δ5 s5.heap → (∃ m, s5.heap.Ns C m) → ¬ Dom σ5 δ5 C → I ys.length acc σ5 → R (.ok .next) s5) :
    codeAny (model κ.φ.g.prog κ.φ.g.w) A (.compLoop (.ListComp elt [⟨tgt, iter, ifs, 0⟩] scope pos) 0 it (.ref D) (compEnvC scope (clOf κ.φ.f.env scope.names) C κ.φ.f.env)) R s4 := by
  have cf : CompF κ.φ.f scope ⟨compEnvC scope (clOf κ.φ.f.env scope.names) C κ.φ.f.env, [C]⟩ := ⟨_, _, rfl⟩
  refine compLoop_any (CompAt κ C l1 σ0 δ0 s0.heap P I ys.length) (fun n s5 ⟨k, σ5, δ5, acc, hn, hk, F5, E5, N5, D5, hP5, q5⟩ => ?_) (ys.length + 1) ⟨0, σ1, δ1, [], rfl, Nat.zero_le _, F4, E4, hn, hCd, hP, hI⟩
  obtain ⟨i1, i2, i3⟩ := T.acc _ _ _ q5
  have keepN : ∀ s6 : Shared, KeepBut its s5.heap s6.heap → ∃ m, s6.heap.Ns C m := fun s6 K6 => by
    obtain ⟨m, o, es, ep, h1, r⟩ := N5
    exact ⟨m, o, es, ep, K6 _ _ h1 hCi, r⟩
  cases hx : ys[k]? with
  | none =>
    have hkk : k = ys.length := Nat.le_antisymm hk (List.getElem?_eq_none_iff.mp hx)
    refine wpAny_mono (W.done (Q := fun s4 => FS κ.φ l1 σ5 δ5 s4 ∧ KeepBut its s5.heap s4.heap) (E := fun q_ q_ => False) G.handled F5 i1 hP5 hx fun s' a b => ⟨a, b⟩) (fun r s6 ⟨hr, F6, K6⟩ => ?_) fun q_ q_ e => e.elim
    subst hr
    exact hR _ _ _ _ F6 (E5.keepBut K6 hits) (keepN _ K6) D5 (hkk ▸ q5)
  | some v =>
    have hlt : k < ys.length := (List.getElem?_eq_some_iff.mp hx).1
    refine wpAny_mono (W.next (A := A) (E := fun q_ q_ => False) (Q := fun rv s4 => VRel s4.heap v rv ∧ FS κ.φ l1 σ5 δ5 s4 ∧ KeepBut its s5.heap s4.heap ∧ P κ.φ.f (k + 1) σ5 δ5 s4.heap) G.handled F5 i1 hP5 hx fun rv s' a b c d => ⟨a, b, c, d⟩) (fun r s6 h6 => ?_) fun q_ q_ e => e.elim
    obtain ⟨rx, hrx, h6⟩ := h6
    subst hrx
    refine wpAny_mono h6 (fun _ s6 ⟨hR6, F6o, K6, hP6⟩ => ?_) fun q_ q_ e => e.elim
    have E6 := E5.keepBut K6 hits
    obtain ⟨m6, N6⟩ := keepN _ K6
    obtain ⟨oC, hoC, hnt, hnc⟩ := ns_dict N6
    have apart : Apart κ.φ.f s6.heap C := ⟨hCf, ⟨oC, hoC, hnt⟩, fun v ⟨o, z1, z2⟩ => by rw [hoC] at z1; cases z1; exact hnc _ z2⟩
    have F6 := comp_env F6o ok ⟨hCb, D5, oC, hoC, hnt⟩ ⟨m6, N6⟩
    -- what holds behind the body
    have back : ∀ {l' σ' δ' acc'} {s' : Shared}, FS (κ.inner ⟨compEnvC scope (clOf κ.φ.f.env scope.names) C κ.φ.f.env, [C]⟩).φ l' σ' δ' s' → Evo κ.φ.fl [C] σ5 δ5 s6.heap σ' δ' s'.heap → I (k + 1) acc' σ' →
        CompAt κ C l1 σ0 δ0 s0.heap P I ys.length (ys.length + 1 - (k + 1)) s' := fun {l' σ' δ' acc' s'} F' E' q' => by
      obtain ⟨mm, n', _⟩ := F'.loc
      refine ⟨k + 1, σ', δ', acc', rfl, hlt, F6o.afterG F'.cs E' fun c hc => (List.mem_singleton.mp hc) ▸ apart, ?_, ⟨mm, n'⟩, (F'.fa C (.head _)).dom, W.stay F6o (fun b hb => (List.mem_singleton.mp hb) ▸ ⟨hCi, oC, hoC, hnt⟩) E' hP6, q'⟩
      have nC : ∀ b o, s0.heap.get? b = some o → b ∉ [C] := fun b o e z => some_not_none e (List.mem_singleton.mp z ▸ hC0)
      refine ⟨fun b o e n q r => ?_, fun b o e n q r => E'.keep b o (E6.keep b o e n q r) (E6.notOwn e n) (nC b o e) r, fun b z => (E'.own b z).elim (E6.own b) fun z => .inr (E6.none_of z), fun b z => (E'.dom b z).elim (E6.dom b) fun z => .inr (E6.none_of z), fun b o e => ?_⟩
      · obtain ⟨sl, h1⟩ := E6.slots b o e n q r
        obtain ⟨sl', h2⟩ := E'.slots b _ h1 (E6.notOwn e n) (nC b o e) r
        exact ⟨sl', h2⟩
      · obtain ⟨o', h1⟩ := E6.live b o e; exact E'.live b o' h1
    refine wpAny_mono (T.turn _ k v acc _ cf hx q5 A s6 δ5 rx G F6 hR6) (fun _ s7 ⟨_, l7, σ7, δ7, _, F7, E7, q7⟩ => ?_) fun q_ q_ e => Flies.no e
    refine wpAny_mono (q7 A s7 δ7 G F7) (fun b' s8 ⟨b, l8, σ8, δ8, hb, F8, E8, q8⟩ => ?_) fun q_ q_ e => Flies.no e
    have hb : b = b' := hb
    subst hb
    have E78 := Evo.trans E7 E8
    cases b with
    | false => exact ⟨_, by omega, back F8 E78 q8⟩
    | true =>
      rw [if_pos rfl]
      refine wpAny_mono ((show WE _ elt _ _ σ8 from q8) A s8 δ8 G F8) (fun rr s9 ⟨r, l9, σ9, δ9, hR9, F9, E9, hD9, q9⟩ => ?_) fun q_ q_ e => Flies.no e
      refine wpAny_mono ((PV.append (κ := κ.inner ⟨compEnvC scope (clOf κ.φ.f.env scope.names) C κ.φ.f.env, [C]⟩) (Q := fun w σ => I (k + 1) (acc ++ [r]) σ) hD9 i3 q9) A s9 δ9 _ [.builtin "list.append", .ref D, rr] G F9 (.cons (.bi _) (.cons (.ref _) (.cons hR9 .nil))))
        (fun _ s10 ⟨_, l10, σ10, δ10, _, F10, E10, hl, q10⟩ => ?_) fun q_ q_ e => Flies.no e
      subst hl
      exact ⟨_, by omega, back F10 ((E78.trans E9).trans E10) q10⟩
theorem comp_block {elt tgt iter ifs scope pos} {A : Around} {s2 s0 : Shared} {l1 σ0 σ1 δ0 δ1 P its ys Inv it} {I : Addr → Nat → List V → MH → Prop} (G : Good κ A) (ok : CompOk κ.φ.f scope) (T : ∀ D, σ1 D = none → CompTurn κ scope tgt ifs elt l1 ys Inv D (I D))
    (hf0 : ∀ b ∈ κ.φ.f.fa, ∃ o, s0.heap.get? b = some o) (F2 : FS κ.φ l1 σ1 δ1 s2) (E2 : Ev κ.φ σ0 δ0 s0.heap σ1 δ1 s2.heap) (hits : ∀ b ∈ its, s0.heap.get? b = none) (hlv : ∀ b ∈ its, ∃ o, s2.heap.get? b = some o) (W : Itr κ.φ.g κ.φ.fl it tgt Inv ys its P) (hP : P κ.φ.f 0 σ1 δ1 s2.heap)
    (hI : ∀ D, σ1 D = none → I D 0 [] (upd σ1 D (.list []))) {RR : Value → Addr → Result → Shared → Prop} {E : Value → Shared → Prop}
    (hR : ∀ D C σ5 δ5 s5 acc, σ1 D = none → FS κ.φ l1 σ5 δ5 s5 → Ev κ.φ σ0 δ0 s0.heap σ5 δ5 s5.heap → (∃ m, s5.heap.Ns C m) → (∀ o, s5.heap.get? C = some o → Aside κ.φ σ5 δ5 s5.heap C o) → s0.heap.get? C = none → I D ys.length acc σ5 → RR (.ref D) C (.ok .next) s5) :
    wpAny (model κ.φ.g.prog κ.φ.g.w) A (newList []) (fun acc s₃ => wpAny (model κ.φ.g.prog κ.φ.g.w) A (newFunctionEnv scope κ.φ.f.env.globals (clOf κ.φ.f.env scope.names) [] κ.φ.f.env.qual none .none (some κ.φ.f.env)) (fun cenv s₄ =>
      codeAny (model κ.φ.g.prog κ.φ.g.w) A (.compStart (.ListComp elt [⟨tgt, iter, ifs, 0⟩] scope pos) 0 it acc { cenv with scope := relabel scope κ.φ.f.env }) (RR acc cenv.locals) s₄) E s₃) E s2 := by
  refine wpAny_newObj_type (wpAny_newFunctionEnv ok.cell (by intro y hy; cases hy) (fun h1 hns1 hsb1 => ?_) ok.kind)
  dsimp only at hns1 hsb1 ⊢
  have dd : σ1 s2.heap.objs.size = none := F2.sim.freshσ (Nat.le_refl _)
  have new := F2.new (tk := s2.toks) (δ' := δ1) (a := s2.heap.objs.size) (o := .list []) (h' := s2.heap.push { cls := .type "list", dict := none, data := .seq ([] : List Value).toArray }) (fun b o e => Heap.get?_push_of_some _ e) (Nat.le_refl _) ⟨#[], 0, Heap.get?_push_size _ rfl, .nil⟩ (fun b x e => .inl e) (fun b x e => e)
  generalize hH2 : s2.heap.push { cls := .type "list", dict := none, data := .seq ([] : List Value).toArray } = H2 at hns1 hsb1 new ⊢
  have sz : H2.objs.size = s2.heap.objs.size + 1 := by rw [← hH2, Heap.size_push]
  have kk : ∀ b o, H2.get? b = some o → h1.get? b = some o := fun b o e => hsb1.extBut b o (Nat.ne_of_lt (Heap.lt_size e)) (Heap.get?_push_of_some _ e)
  have gr := new.1.grow (tk := s2.toks + ([] : List (Str × Value)).length) (h' := h1) kk
  obtain ⟨oC, esC, epC, hoC, hdC, hrC⟩ := id hns1
  have as := Aside.new (b := H2.objs.size) new.1 (Nat.le_refl _) hoC
  have nC2 : s2.heap.get? H2.objs.size = none := fresh_get (by rw [sz]; exact Nat.le_succ _)
  have nC0 : s0.heap.get? H2.objs.size = none := E2.none_of nC2
  have E23 := new.2.trans gr.2
  have hP1 := W.stay (s' := { s2 with heap := h1, toks := s2.toks + ([] : List (Str × Value)).length }) F2 (fun b hb => ⟨fun z => (by obtain ⟨o, h9⟩ := hf0 b hb; exact some_not_none h9 (hits b z)), (F2.fa b hb).at_⟩) E23 hP
  have loop := comp_loop (pos := pos) (iter := iter) (C := H2.objs.size) (s4 := { s2 with heap := h1, toks := s2.toks + ([] : List (Str × Value)).length }) (R := RR (.ref s2.heap.objs.size) H2.objs.size) G ok (T _ dd) gr.1 as.base as.fa (fun z => by obtain ⟨o, h9⟩ := hlv _ z; exact some_not_none h9 nC2) as.dom ⟨_, hns1⟩ nC0 (E2.trans E23) hits W hP1 (hI _ dd)
    fun σ5 δ5 s5 acc a1 a2 a3 a4 a5 => hR _ _ σ5 δ5 s5 acc dd a1 a2 a3 (fun o ho => ⟨ho, as.base, a4, as.fa, as.fl⟩) nC0 a5
  exact codeAny_compStart_list loop (W.again hP1 loop)
inductive CompQ (κ : Cx) (scope : Scope) (tgt : PySem.Expr) (ifs : List PySem.Expr) (elt : PySem.Expr) (Qe : V → Loc → MH → Prop) (ys : List V) (Inv : MH → Prop) (l1 : Loc) (σ1 : MH) : Prop
  | mk (I : Addr → Nat → List V → MH → Prop) (T : ∀ D, σ1 D = none → CompTurn κ scope tgt ifs elt l1 ys Inv D (I D)) (h0 : ∀ D, σ1 D = none → I D 0 [] (upd σ1 D (.list []))) (h1 : ∀ D acc σ2, σ1 D = none → I D ys.length acc σ2 → Qe (.ref D) l1 σ2)
theorem CompOk.clos {f : Frm} {scope : Scope} (ok : CompOk f scope) : closureFor scope f.env = pure (clOf f.env scope.names) := closure_eq scope f.env fun y hy => (ok.free (y, .free) hy rfl).cell
theorem WE.comp {elt tgt iter ifs scope pos} {Q : V → Loc → MH → Prop} (ok : CompOk κ.φ.f scope) (h : WIt κ tgt iter (CompQ κ scope tgt ifs elt Q) l σ)
    (hs : ∀ x, foldedSetIterable iter κ.φ.f.env x = pure x) : WE κ (.ListComp elt [⟨tgt, iter, ifs, 0⟩] scope pos) Q l σ := fun A s δ G F => by
  rw [eval_ListComp]
  refine wpAny_comprehension_free (use := none) rfl hs ok.clos ok.kind ok.names (wpAny_mono (h A s δ G F) (fun xv s₁ h₁ => wpAny_mono h₁ (fun it s₂ h₂ => ?_) fun q_ q_ e => e) fun q_ q_ e => e)
  obtain ⟨l1, σ1, δ1, P, its, ys, Inv, F2, E2, hits, hlv, W, hP, I, T, h0, h1⟩ := h₂
  refine comp_block (RR := fun acc C => compPost (model κ.φ.g.prog κ.φ.g.w) A (FlX κ σ δ s.heap) none _ acc C) G ok T (fun b hb => let ⟨o, h, _⟩ := (F.fa b hb).at_; ⟨o, h⟩) F2 E2 hits hlv W hP h0
    fun D C σ5 δ5 s5 acc hD F5 E5 hN hA hC0 hI => ?_
  obtain ⟨m, hN⟩ := hN
  refine ⟨m, hN, fun h' hs' => ?_⟩
  obtain ⟨o, ho, hnt, hnc⟩ := ns_dict hN
  have kb : KeepBut [C] s5.heap h' := KeepBut.of_ext hs'.extBut
  exact ⟨.ref D, l1, σ5, δ5, .ref D, F5.aside (tk := s5.toks) (hA o ho) kb hnc hnt, E5.keepBut kb (fun b hb => (List.mem_singleton.mp hb) ▸ hC0), h1 D acc σ5 hD hI⟩
theorem WS1.assignComp {elt tgt iter ifs scope pos y py spos} {Q : Fw → Loc → MH → Prop} (ok : CompOk κ.φ.f scope) (hy : MyName κ y) (h : WIt κ tgt iter (CompQ κ scope tgt ifs elt fun v l1 σ1 => Q .next (upd l1 y v) σ1) l σ)
    (hsw : swapsWith (.ListComp elt [⟨tgt, iter, ifs, 0⟩] scope pos) (some (.Name y py)) spos.line κ.φ.f.env = pure true)
    (hs : ∀ x, foldedSetIterable iter κ.φ.f.env x = pure x) : WS1 κ (.Assign [.Name y py] (.ListComp elt [⟨tgt, iter, ifs, 0⟩] scope pos) spos) Q l σ := fun A s δ G F => by
  show wpAny _ A _ _ _ s
  rw [exec_Assign_Name_used _ _ _ _ hsw]
  refine wpAny_bind (wpAny_standAt (wpAny_bind ?_))
  show wpAny _ A (do let _ ← comprehension (.ListComp elt [⟨tgt, iter, ifs, 0⟩] scope pos) scope κ.φ.f.env _ (newList []) false (eval iter κ.φ.f.env) (some (PySem.assign (.Name y py) κ.φ.f.env))) _ _ s
  refine wpAny_bind (wpAny_mono (wpAny_comprehension_free (use := some (PySem.assign (.Name y py) κ.φ.f.env)) (Q := fun q_ s' => Ok FwRel κ.φ σ δ s.heap Q .next s') rfl hs ok.clos ok.kind ok.names
    (wpAny_mono (h A s δ G F) (fun xv s₁ h₁ => wpAny_mono h₁ (fun it s₂ h₂ => ?_) fun q_ q_ e => e) fun q_ q_ e => e)) (fun q_ s' hq => wpAny_pure (wpAny_pure hq)) fun q_ q_ e => e)
  obtain ⟨l1, σ1, δ1, P, its, ys, Inv, F2, E2, hits, hlv, W, hP, I, T, h0, h1⟩ := h₂
  refine comp_block (RR := fun acc C => compPost (model κ.φ.g.prog κ.φ.g.w) A (FlX κ σ δ s.heap) (some (PySem.assign (.Name y py) κ.φ.f.env)) (fun q_ s' => Ok FwRel κ.φ σ δ s.heap Q .next s') acc C) G ok T (fun b hb => let ⟨o, h, _⟩ := (F.fa b hb).at_; ⟨o, h⟩) F2 E2 hits hlv W hP h0
    fun D C σ5 δ5 s5 acc hD F5 E5 hN hA hC0 hI => ?_
  obtain ⟨m, hN⟩ := hN
  obtain ⟨o, ho, hnt, hnc⟩ := ns_dict hN
  have as := hA o ho
  show wpAny _ A (PySem.assign (.Name y py) κ.φ.f.env (.ref D)) _ _ s5
  refine wpAny_mono ((WA.name (κ := κ) (Q := fun l2 σ2 => Q .next l2 σ2) hy (h1 D acc σ5 hD hI)) A s5 δ5 (.ref D) G F5 (.ref D)) (fun _ s6 ⟨_, l6, σ6, δ6, _, F6, E6, q6⟩ => ?_) fun q_ q_ e => e.trans E5
  have as6 := as.stay as.fa E6
  obtain ⟨o', es, ep, h1, r⟩ := hN
  rw [as.at_] at h1; cases h1
  refine ⟨m, ⟨o, es, ep, as6.at_, r⟩, fun h' hs' => ?_⟩
  have kb : KeepBut [C] s6.heap h' := KeepBut.of_ext hs'.extBut
  exact ⟨.next, _, _, δ6, .next, F6.aside (tk := s6.toks) as6 kb hnc hnt, Evo.keepBut (E5.trans E6) kb (fun b hb => (List.mem_singleton.mp hb) ▸ hC0), q6⟩
end
end Mn
set_option genInjectivity false
namespace Mn
open PySem.SeqAt PySem.Builtin PySem.Builtin.ObjectAttr

noncomputable def excBm : List Value := [.type "Exception", .type "BaseException", .type "object"]
inductive ExcObj (K : Frag) (C N : Addr) : Prop
  | mk (nm q : Str) (bs : List Value) (sn : List Str) (sub : List Value) (ab : Bool) (col : Option Bool) (dd : Option Addr) (k0 k1 k2 k3 k5 : Option Value) (h : K.lookup C = some (excClassObj nm q C N bs excBm true sn sub ab col dd k0 k1 k2 k3 k5 "Exception.__new__"))
structure ExcCls (K : Frag) (C N fI : Addr) : Prop where
  obj : ExcObj K C N
  ok : nsOkIn K N = true
  init : nsIn K N "__init__" = some (some (.ref fI))
  sa : findIn K (.ref C) "__setattr__" = some (some (.builtin "object.__setattr__"))
  value : takerIn K C "value" = some none
  trace : takerIn K C "trace" = some none
inductive ExcBody (b : FuncBody) : Prop
  | mk (p1 p2 p3 p4 p5 p6 p7 p8 : Pos) (h : b = .stmts [.Assign [.Attribute (.Name "self" p1) "value" p2] (.Name "value" p3) p4, .Assign [.Attribute (.Name "self" p5) "trace" p6] (.List [] p7) p8])
structure ExcFn (K : Frag) (fI : Addr) (fd : FuncData) : Prop where
  fn : X2 fun od sl => K.lookup fI = some ⟨.type "function", od, .func fd, sl⟩
  code : codeIn K fd.code fd.qualname = true
  body : ExcBody fd.body
  binds : ∀ e r, bindArgs fd ⟨[e, r], []⟩ = pure [(("self" : Str), e), ("value", r)]
  cell : ∀ x ∈ fd.scope.names, x.2 ≠ .cell
  self : fd.scope.names.lookup ("self" : Str) = some NameKind.local
  value : fd.scope.names.lookup ("value" : Str) = some NameKind.local
  co : fd.scope.isCoroutine = false
  gen : fd.scope.isGenerator = false
  kind : fd.scope.kind = .function

section
variable {prog : Program} {w : World} {A : Around} {E : Value → Shared → Prop} {K : Frag} {C N fI : Addr} {fd : FuncData}

theorem osa_openE {s : Shared} {x : Addr} {R : Result → Shared → Prop} {ox : Obj} {od : Option Obj} {name : Str} {tk : Tok} {v : Value} {r : Option Value} {cd : ClassData} (X : K.In s.heap) (I : InstAt s.heap x ox C od) (hc : clsIn K C = some cd) (hm : cd.mro = .ref C :: excBm)
    (ht : takerIn K C name = some r)
    (h : ∀ b, wpAny (model prog w) A.in1 (match r with | some a => setByDescriptor a (.ref x) v | none => storeInOwnDict (.ref x) (.ref C) (.str name tk) name v b)
      (fun fin s' => match fin with | .done f => R (.ok f) s' | .again c' => c'.quiet = true ∧ codeAny (model prog w) A c' R s') (fun e s' => R (.error e) s') s) :
    codeAny (model prog w) A (.call (.builtin "object.__setattr__") ⟨[.ref x, .str name tk, v], []⟩) R s := by
  have SF := PySem.F.store_object
  have sub : Looks (model prog w) s.heap (isInstance (.ref x) (.type "object")) true := I.type.andThen (looks_mroIn X (by unfold mroIn; rw [hc, Option.bind_some, hm]; rfl))
  refine codeAny_call_builtin SF.slot.plain SF.entry (@check_slot (model prog w) _ _ s "object.__setattr__" "object" "__setattr__" (.ref x) [.str name tk, v] [] _ SF.kind SF.split sub (SF.args (.ref x) (.str name tk) v) ?_)
  obtain ⟨attr, ha, hr⟩ := Option.bind_eq_some_iff.mp ht
  have hm' : Looks (model prog w) s.heap (mroOf (.ref C)) cd.mro := (looks_clsIn X hc).andThen .now
  have L3 : Looks (model prog w) s.heap (storeTaker? attr) r := by
    cases attr with
    | none => cases hr; exact .now
    | some a =>
      obtain ⟨b, hb, rfl⟩ := Option.map_eq_some_iff.mp hr
      refine (looks_takesIn X hb).andThen ?_
      cases b <;> exact .now
  rw [osa_eq, refuse_eq]
  refine wpAny_bind (wpAny_bind (I.type.here (wpAny_bind (hm'.here ?_))))
  rw [hm, refuseLoop_ref, show excBm = [.type "Exception", .type "BaseException", .type "object"] from rfl, PySem.F.store_Exception.passes]
  refine wpAny_pure (wpAny_bind (I.type.here (wpAny_bind ((looks_findIn X ha).here (wpAny_bind (L3.here ?_))))))
  exact h _
theorem osaE {s : Shared} {x : Addr} {R : Result → Shared → Prop} {ox : Obj} {name : Str} {tk : Tok} {v : Value} {cd : ClassData} (X : K.In s.heap) (I : InstAt s.heap x ox C none) (hd : ox.dict = none) (hc : clsIn K C = some cd) (hm : cd.mro = .ref C :: excBm) (hh : cd.hasDict = true)
    (ht : takerIn K C name = some none)
    (h : ∀ h' tk' n, (∀ b o, b ≠ x → s.heap.get? b = some o → h'.get? b = some o) → h'.get? x = some { ox with dict := some s.heap.objs.size } →
      h'.get? s.heap.objs.size = some (dictOf (putL name (PyData.keyHash w.params name) (.str name s.toks) v []) n) → R (.ok (.ret .none)) { s with heap := h', toks := tk' }) :
    codeAny (model prog w) A (.call (.builtin "object.__setattr__") ⟨[.ref x, .str name tk, v], []⟩) R s := by
  refine osa_openE X I hc hm ht fun b => ?_
  obtain ⟨hx, hcl, hn, -⟩ := I
  obtain ⟨oc, odi, oda, osl⟩ := ox
  dsimp only at hcl hd
  subst hcl hd
  have lt := Heap.lt_size hx
  refine wpAny_bind (wpAny_pure (wpAny_bind (wpAny_bind (wpAny_loadPart hx (wpAny_bind ((looks_clsIn X hc).here ?_))))))
  rw [hh]
  have ne : x ≠ s.heap.objs.size := Nat.ne_of_lt lt
  have D1 : (s.heap.push { cls := .type "dict", data := .dict #[] }).get? s.heap.objs.size = some { cls := .type "dict", data := .dict #[] } := Heap.get?_push_size _ rfl
  have X1 : (s.heap.push { cls := .type "dict", data := .dict #[] }).get? x = some { cls := .ref C, dict := none, data := oda, slots := osl } := Heap.get?_push_of_some _ hx
  have fr : (⟨.ref C, some s.heap.objs.size, oda, osl⟩ : Obj).isFreed = false := by
    have := (Heap.get?_some_iff.mp hx).2
    revert this
    cases oda <;> intro this <;> first | rfl | cases this
  have X2 := Heap.get?_update_self (fun o => { o with dict := some s.heap.objs.size }) X1 fr
  have D2 : ((s.heap.push { cls := .type "dict", data := .dict #[] }).update x fun o => { o with dict := some s.heap.objs.size }).get? s.heap.objs.size = some (dictOf [] 0) := (Heap.get?_update_other _ _ ne).trans D1
  have D3 := Heap.get?_update_self (Obj.putName name (PyData.keyHash w.params name) (.str name s.toks) v) D2 (by rw [putName_dict]; rfl)
  rw [putName_dict] at D3
  have fin : wpAny (model prog w) A.in1 (storeInDict s.heap.objs.size (.str name tk) name v) (fun fin s' => match fin with | .done f => R (.ok f) s' | .again c' => c'.quiet = true ∧ codeAny (model prog w) A c' R s') (fun e s' => R (.error e) s')
      { s with heap := (s.heap.push { cls := .type "dict", data := .dict #[] }).update x fun o => { o with dict := some s.heap.objs.size } } := by
    refine wpAny_bind (wpAny_pure (wpAny_bind ?_))
    unfold nsSet
    refine wpAny_bind (wpAny_bind (wpAny_askSetting (wpAny_pure (wpAny_bind (wpAny_mkText (wpAny_bind (wpAny_loadPart D2 ?_)))))))
    dsimp only
    have c : aRefKeyMayBeTheName name (List.toArray []) = false := by rw [aRefKeyMayBeTheName_at]; simp
    rw [c]
    refine wpAny_updatePart D2 ?_
    have hlen := putL_length name (PyData.keyHash w.params name) (.str name s.toks) v []
    refine wpAny_bind (wpAny_lookBehind D3 (pastItsLine_dict (by rw [List.size_toArray, sizeLine_eq]; simp at hlen; lia)) ?_)
    refine wpAny_pure (h _ _ _ (fun b o n e => ?_) ?_ D3)
    · have nb : b ≠ s.heap.objs.size := Nat.ne_of_lt (Heap.lt_size e)
      exact (Heap.get?_update_other _ _ (Ne.symm nb)).trans ((Heap.get?_update_other _ _ (Ne.symm n)).trans (Heap.get?_push_of_some _ e))
    · exact (Heap.get?_update_other _ _ (Ne.symm ne)).trans X2
  cases oda with
  | cls c => simp [notCls] at hn
  | _ => exact wpAny_bind (wpAny_alloc (wpAny_bind (wpAny_update X1 (wpAny_pure fin))))
theorem osaF {s : Shared} {x dx : Addr} {R : Result → Shared → Prop} {ox : Obj} {name : Str} {tk : Tok} {v : Value} {cd : ClassData} {es : List DictEntry} {n : Nat} (X : K.In s.heap) (I : InstAt s.heap x ox C (some (dictOf es n))) (hd : ox.dict = some dx) (hc : clsIn K C = some cd) (hm : cd.mro = .ref C :: excBm) (hh : cd.hasDict = true)
    (ht : takerIn K C name = some none) (hnr : es.any (·.refKey) = false) (hz : es.length ≤ 1000)
    (h : R (.ok (.ret .none)) { s with heap := s.heap.update dx (Obj.putName name (PyData.keyHash w.params name) (.str name s.toks) v), toks := s.toks + 1 }) :
    codeAny (model prog w) A (.call (.builtin "object.__setattr__") ⟨[.ref x, .str name tk, v], []⟩) R s := by
  refine osa_openE X I hc hm ht fun b => ?_
  obtain ⟨hx, hcl, hn, hdd⟩ := I
  rw [hd] at hdd
  have D : s.heap.get? dx = some (dictOf es n) := hdd
  have D' := Heap.get?_update_self (Obj.putName name (PyData.keyHash w.params name) (.str name s.toks) v) D (by rw [putName_dict]; rfl)
  rw [putName_dict] at D'
  obtain ⟨oc, odi, oda, osl⟩ := ox
  dsimp only at hcl hd
  subst hcl hd
  refine wpAny_bind (wpAny_pure (wpAny_bind (wpAny_bind (wpAny_loadPart hx (wpAny_bind ((looks_clsIn X hc).here ?_))))))
  rw [hh]
  refine wpAny_pure (a := some dx) (wpAny_bind (wpAny_pure (wpAny_bind ?_)))
  unfold nsSet
  refine wpAny_bind (wpAny_bind (wpAny_askSetting (wpAny_pure (wpAny_bind (wpAny_mkText (wpAny_bind (wpAny_loadPart D ?_)))))))
  dsimp only
  have c : aRefKeyMayBeTheName name es.toArray = false := by
    rw [aRefKeyMayBeTheName_at]
    simp [hnr]
  rw [c]
  refine wpAny_updatePart D ?_
  have hlen := putL_length name (PyData.keyHash w.params name) (.str name s.toks) v es
  refine wpAny_bind (wpAny_lookBehind D' (pastItsLine_dict (by rw [List.size_toArray, sizeLine_eq]; lia)) ?_)
  exact wpAny_pure h

theorem exc_init {s : Shared} {h0 : Heap} {e : Addr} {r : Value} {Q : Value → Shared → Prop} (X0 : K.In h0) (X : K.In s.heap) (lim : s.heap.NoLimit) (hC : ExcCls K C N fI) (hF : ExcFn K fI fd) (hd : A.depth < recursionLimit)
    (M : Heap.MadeExcOf h0 s.heap e (.ref C) [r])
    (hq : ∀ h' tk oe t, (∀ b o, b ≠ e → s.heap.get? b = some o → h'.get? b = some o) → h'.get? e = some oe → oe.cls = .ref C → oe.data = .fields #[.ref t, .none, .none, .none, .bool false, .none] → Q .none { s with heap := h', toks := tk }) :
    wpAny (model prog w) A (call (.ref fI) [.ref e, r]) Q E s := by
  obtain ⟨⟨od, sl, hl⟩, hcd, ⟨p1, p2, p3, p4, p5, p6, p7, p8, hb⟩, hbi, hcell, hself, hval, hco, hgen, hk⟩ := hF
  obtain ⟨⟨nm, q, bs, sn, sub, ab, col, dd, k0, k1, k2, k3, k5, ho⟩, nok, ninit, nsa, nval, ntr⟩ := hC
  obtain ⟨t, he, ht0, ht⟩ := M.there
  have hCo := X _ _ ho
  obtain ⟨cd, hcd', hmro, hhd⟩ : ∃ cd, A3 (clsIn K C = some cd) (cd.mro = .ref C :: excBm) (cd.hasDict = true) := ⟨_, by unfold clsIn; rw [ho], rfl, rfl⟩
  refine wpAny_call (codeAny_call_def (binds := [(("self" : Str), Value.ref e), ("value", r)]) hd (X _ _ hl) rfl lim (codeRec_of X hcd) hb (.of_eq (hbi _ _)) hcell (by intro x hx; simp only [List.mem_cons, List.not_mem_nil, or_false] at hx; rcases hx with rfl | rfl <;> assumption) (fun h1 hn hk0 => ?_) hco hgen hk)
  have heL : e ≠ s.heap.objs.size := Nat.ne_of_lt (Heap.lt_size he)
  have hv : (fun x => [(("self" : Str), Value.ref e), ("value", r)].reverse.lookup x : Str → Option Value) "value" = some r := rfl
  have hs : (fun x => [(("self" : Str), Value.ref e), ("value", r)].reverse.lookup x : Str → Option Value) "self" = some (.ref e) := rfl
  generalize hm0 : (fun x => [(("self" : Str), Value.ref e), ("value", r)].reverse.lookup x : Str → Option Value) = m0 at hn hv hs
  generalize henv : callEnv fd s.heap.objs.size fI = env
  have ek : env.scope.kind = .function := by rw [← henv]; exact hk
  have el : env.locals = s.heap.objs.size := by rw [← henv]; rfl
  have ks : env.kindOf "self" = some .local := by rw [← henv]; exact hself
  have kv : env.kindOf "value" = some .local := by rw [← henv]; exact hval
  rw [← el] at hn heL
  have X1 : K.In h1 := X.keeps hk0
  have he1 := hk0 _ _ he
  refine wpAny_execs_cons ?_
  refine wpAny_Assign_stores (wpAny_Name (wpAny_loadName_local ek kv hn hv ?_) (by decide)) rfl rfl
  show wpAny _ _ (assign (.Attribute (.Name "self" p1) "value" p2) env r) _ _ _
  rw [assign_Attribute']
  refine wpAny_bind (wpAny_holding (wpAny_Name (wpAny_loadName_local ek ks hn hs ?_) (by decide)))
  refine wpAny_bind (wpAny_standAt (wpAny_bind (wpAny_holding ?_)))
  have I1 : InstAt h1 e { cls := .ref C, data := .fields #[.ref t, .none, .none, .none, .bool false, .none] } C none := ⟨he1, rfl, rfl, trivial⟩
  refine set_plain X1 I1 nsa (osaE X1 I1 rfl hcd' hmro hhd nval fun h2 tk2 n k2 e2 d2 => ?_)
  refine wpAny_release ?_
  have hn2 : h2.Ns env.locals m0 := let ⟨o, es, ep, z, r⟩ := hn; ⟨o, es, ep, k2 _ _ (Ne.symm heL) z, r⟩
  refine wpAny_execs_cons ?_
  refine wpAny_Assign_stores ?_ rfl rfl
  refine wpAny_List_spliced (spliced_nil ⟨by decide, ?_⟩)
  show wpAny _ _ (assign (.Attribute (.Name "self" p5) "trace" p6) env _) _ _ _
  rw [assign_Attribute']
  dsimp only
  have k3 : ∀ b o, b ≠ e → s.heap.get? b = some o → (h2.push { cls := .type "list", data := .seq ([] : List Value).toArray }).get? b = some o := fun b o n z => Heap.get?_push_of_some _ (k2 b o n (hk0 b o z))
  have hn3 : (h2.push { cls := .type "list", data := .seq ([] : List Value).toArray }).Ns env.locals m0 := let ⟨o, es, ep, z, r⟩ := hn2; ⟨o, es, ep, Heap.get?_push_of_some _ z, r⟩
  refine wpAny_bind (wpAny_holding (wpAny_Name (wpAny_loadName_local ek ks hn3 hs ?_) (by decide)))
  refine wpAny_bind (wpAny_standAt (wpAny_bind (wpAny_holding ?_)))
  have neK : ∀ b o, K.lookup b = some o → b ≠ e := fun b o z q => by
    have := X0 b o z; rw [q, M.new] at this; cases this
  have X3 : K.In (h2.push { cls := .type "list", data := .seq ([] : List Value).toArray }) := fun b o z => k3 b o (neK b o z) (X b o z)
  have e3 := Heap.get?_push_of_some (h := h2) { cls := .type "list", data := .seq ([] : List Value).toArray } e2
  have d3 := Heap.get?_push_of_some (h := h2) { cls := .type "list", data := .seq ([] : List Value).toArray } d2
  have I3 : InstAt (h2.push { cls := .type "list", data := .seq ([] : List Value).toArray }) e _ C (some _) := ⟨e3, rfl, rfl, d3⟩
  refine set_plain X3 I3 nsa (osaF X3 I3 rfl hcd' hmro hhd ntr (by simp [putL]; rfl) (by simp [putL]) ?_)
  have n1 : s.heap.get? h1.objs.size = none := by
    cases w : s.heap.get? h1.objs.size with
    | none => rfl
    | some o => exact absurd (Heap.lt_size (hk0 _ _ w)) (Nat.lt_irrefl _)
  have nee : e ≠ h1.objs.size := Nat.ne_of_lt (Heap.lt_size he1)
  refine wpAny_release (wpAny_execs_nil ?_)
  refine hq _ _ _ t (fun b o n z => ?_) ((Heap.get?_update_other _ _ (Ne.symm nee)).trans e3) rfl rfl
  exact (Heap.get?_update_other _ _ (fun q => by rw [← q, n1] at z; cases z)).trans (k3 b o n z)
end
end Mn
set_option genInjectivity false
namespace Mn
open PySem.SeqAt

theorem raise_made {prog : Program} {w : World} {A : Around} {E : Value → Shared → Prop} {env : Env} {nm q : Str} {C N : Addr} {bs bm : List Value} {hdct : Bool} {sn : List Str} {sub : List Value} {ab : Bool} {col : Option Bool} {dd : Option Addr} {k0 k1 k2 k3 k5 : Option Value} {newId : String}
    {s : Shared} {x : Sem Value} {Q : Flow → Shared → Prop} (hbase : bm.contains (.type "BaseException") = true) (hh : A.handled = none)
    (h : wpAny (model prog w) A x (fun v s₁ => X2 fun e oe => A6 (v = .ref e) (s₁.heap.get? C = some (excClassObj nm q C N bs bm hdct sn sub ab col dd k0 k1 k2 k3 k5 newId)) (s₁.heap.get? e = some oe) (oe.cls = .ref C) ((∃ t, oe.data = .fields #[.ref t, .none, .none, .none, .bool false, .none])) (E (.ref e) s₁)) E s) :
    wpAny (model prog w) A (raiseStmt env (some x) none) Q E s := by
  have hcB : (Value.ref C :: bm).contains (.type "BaseException") = true := by rw [List.contains_cons, hbase, Bool.or_true]
  unfold raiseStmt
  refine wpAny_bind (wpAny_mono h (fun v s₁ h₁ => ?_) fun q_ q_ x => x)
  obtain ⟨e, ⟨oc, odi, oda, osl⟩, rfl, hC, he, hc, ⟨tt, hvs⟩, hE⟩ := h₁
  dsimp only at hc hvs
  subst hc hvs
  obtain ⟨hp, g, d, tk, os⟩ := s₁
  repeat (first | with_reducible refine wpAny_loadPart_at he ?_ | with_reducible refine wpAny_loadPart_at hC ?_ | (with_reducible refine wpAny_isSubtype_exc hC ?_; rw [hcB]) | wp_step)
  exact wpAny_raiseNew_none hh hE
set_option tactic.hygienic true in
theorem ns_of {K : Frag} {h : Heap} {N : Addr} {mg : Str → Option Value} {n : Str} {v : Value} (X : K.In h) (G : h.Ns N mg) (e : nsIn K N n = some (some v)) : mg n = some v := by
  obtain ⟨o, es, ep, ho, hd, _, hf⟩ := G
  unfold nsIn at e
  split at e
  · rename_i c d es' n' sl q
    have := X _ _ q
    rw [ho] at this
    cases this
    cases hd
    split at e
    · rename_i en he
      cases e
      rw [← hf]
      unfold nsFind findBy
      rw [← Array.find?_toList, he]
      rfl
    · split at e <;> cases e
  · cases e
noncomputable def strip : List Addr → Heap → Heap
  | [], h => h
  | z :: r, h => (strip r h).update z fun o => { o with data := .freed }
theorem update_freed (h : Heap) (z : Addr) (f : Obj → Obj) (hf : ∀ o, (f o).isFreed = true) : (h.update z f).get? z = none := isNone_of fun o q => by
  have := Heap.get?_some_iff.mp q
  obtain ⟨objs, l⟩ := h
  simp only [Heap.update, Array.getElem?_modify, if_true] at this
  obtain ⟨w, h2⟩ := this
  obtain ⟨x, _, rfl⟩ := Option.map_eq_some_iff.mp w
  rw [hf] at h2; cases h2
theorem strip_in : ∀ {Z : List Addr} {h : Heap} {b : Addr}, b ∉ Z → (strip Z h).get? b = h.get? b
  | [], _, _, _ => rfl
  | z :: r, h, b, n => (Heap.get?_update_other _ _ fun q : z = b => n (q ▸ List.Mem.head _)).trans (strip_in fun q => n (.tail _ q))
theorem strip_out : ∀ {Z : List Addr} {h : Heap} {b : Addr}, b ∈ Z → (strip Z h).get? b = none
  | z :: r, h, b, n => by
    by_cases q : b = z
    · subst q; exact update_freed _ _ _ fun o => rfl
    · exact (Heap.get?_update_other _ _ (Ne.symm q)).trans (strip_out ((List.mem_cons.mp n).resolve_left q))
theorem strip_of {Z : List Addr} {h : Heap} {b : Addr} {o : Obj} (e : (strip Z h).get? b = some o) : b ∉ Z ∧ h.get? b = some o := by
  by_cases q : b ∈ Z
  · exact some_not_none e (strip_out q)
  · exact ⟨q, (strip_in q).symm.trans e⟩

section
variable {κ : Cx} {l : Loc} {σ : MH} {δ : DM}
theorem load_globW {A s x rv pos} (F : FS κ.φ l σ δ s) (e : nsIn κ.φ.g.K mainGlobals x = some (some rv)) (hx : κ.φ.f.env.kindOf x = some .globalImplicit) (hd : (x == ("__debug__" : Str)) = false) :
    wpAny (model κ.φ.g.prog κ.φ.g.w) A (eval (.Name x pos) κ.φ.f.env) (fun r s1 => r = rv ∧ s1 = s) (fun q_ q_ => False) s :=
  Name_function_global F.envOk.kind hx (loadGlobal_global (by rw [F.envOk.globals]; exact F.top.g) (mg_of κ.φ.g.inK κ.φ.g.top.g e) ⟨rfl, rfl⟩) hd
structure ExcOk (K : Frag) (cX N fI : Addr) (fd : FuncData) : Prop where
  c : ExcCls K cX N fI
  f : ExcFn K fI fd
theorem WS1.raise {x np cpos pos k bp N fI fd} {b : List UInt8} {Q : Fw → Loc → MH → Prop} (H : ExcOk κ.φ.g.K κ.φ.g.cX N fI fd) (hg : nsIn κ.φ.g.K mainGlobals x = some (some (.ref κ.φ.g.cX))) (hx : κ.φ.f.env.kindOf x = some .globalImplicit) (hdp : 1 ≤ κ.d) (h : κ.X σ)
    (hd : (x == ("__debug__" : Str)) = false) : WS1 κ (.Raise (some (.Call (.Name x np) [.Constant (.bytes b) k bp] [] cpos)) none pos) Q l σ := fun A s δ G F => by
  obtain ⟨hC, hF⟩ := H
  obtain ⟨nm, q, bs, sn, sub, ab, col, dd, k0, k1, k2, k3, k5, ho⟩ := id hC.obj
  obtain ⟨od, sl, hfn⟩ := id hF.fn
  show wpAny _ _ _ _ _ _
  rw [arm_exec_Raise]
  refine wpAny_bind (wpAny_standAt (raise_made (nm := nm) (q := q) (bs := bs) (sn := sn) (sub := sub) (ab := ab) (col := col) (dd := dd) (k0 := k0) (k1 := k1) (k2 := k2) (k3 := k3) (k5 := k5) (hdct := true) (newId := "Exception.__new__")
    (C := κ.φ.g.cX) (N := N) (bm := excBm) (by decide) G.handled (x := do let v ← eval (.Call (.Name x np) [.Constant (.bytes b) k bp] [] cpos) κ.φ.f.env; standAt pos; pure v) ?_))
  refine wpAny_bind (wpAny_mono (Q := fun v s1 => X2 fun e oe => A6 (v = .ref e) (s1.heap.get? κ.φ.g.cX = some (excClassObj nm q κ.φ.g.cX N bs excBm true sn sub ab col dd k0 k1 k2 k3 k5 "Exception.__new__")) (s1.heap.get? e = some oe) (oe.cls = .ref κ.φ.g.cX) ((∃ t, oe.data = .fields #[.ref t, .none, .none, .none, .bool false, .none])) (FlX κ σ δ s.heap (.ref e) s1)) ?_ (fun v s1 z => wpAny_bind (wpAny_standAt (wpAny_pure z))) fun q_ q_ e => e)
  refine wpAny_Call_ofName ?_
  refine wpAny_mono (load_globW F hg hx hd) (fun rf s1 h1 => ?_) fun q_ q_ e => e.elim
  obtain ⟨rfl, rfl⟩ := h1
  unfold callWith
  refine wpAny_bind (wpAny_holding (evalArgs_plain (spliced_cons (wpAny_mkTextBytes (spliced_nil (wpAny_bind (wpAny_standAt ?_)))))))
  have inK := F.inK
  have keep := F.sim.keep
  have fr := F.fr
  have sim := F.sim
  have gens := F.gens
  have hos := F.os
  clear F
  obtain ⟨hh, gs, dr, tk, os⟩ := s1
  refine wpAny_bind (wpAny_keeperOf_exc (inK _ _ ho) ?_)
  have hNs : hh.Ns N (hh.nsMap N) := .of_isNs (isNs_of_in inK hC.ok)
  refine wpAny_bind (wpAny_call_exc_init (hrest := by rw [sizeLine_eq]; simp) PySem.F.excBase_Exception (inK _ _ ho) hNs (ns_of inK hNs hC.init) (inK _ _ hfn) rfl fun h' e hm => ?_)
  have X1 : κ.φ.g.K.In h' := inK.keeps hm.keeps
  have G' : Good0 0 (A.under (.builtin "type.__call__" ⟨.ref κ.φ.g.cX :: [Value.bytes b.toArray tk], []⟩)) κ.φ.fl := under_make A κ.φ.g.cX [Value.bytes b.toArray tk] (G.le hdp)
  refine wpAny_mono (exc_init (s := ⟨h', gs, dr, tk + 1, os⟩) inK X1 (κ.φ.g.top.nolimit.keeps fun b o e => hm.keeps b o (keep b o e)) hC hF (Nat.lt_of_le_of_lt (Nat.le_trans (Nat.le_add_right _ _) G'.depth) (by decide)) hm (E := fun q_ q_ => False)
    (Q := fun r s' => r = .none ∧ X4 fun h'' tk' oe t => A5 (s' = ⟨h'', gs, dr, tk', os⟩) ((∀ b o, b ≠ e → h'.get? b = some o → h''.get? b = some o)) (h''.get? e = some oe) (oe.cls = .ref κ.φ.g.cX) (oe.data = .fields #[.ref t, .none, .none, .none, .bool false, .none]))
    fun h'' tk' oe t a1 a2 a3 a4 => ⟨rfl, h'', tk', oe, t, rfl, a1, a2, a3, a4⟩) (fun r s' z => ?_) fun q_ q_ e => e.elim
  obtain ⟨rfl, h'', tk', oe, t, rfl, a1, a2, a3, a4⟩ := z
  refine ⟨rfl, wpAny_bind (wpAny_holding (wpAny_point (wpAny_pure ?_)))⟩
  have kk : ∀ b o, hh.get? b = some o → h''.get? b = some o := fun b o z => a1 b o (fun q => by rw [q, hm.new] at z; cases z) (hm.keeps b o z)
  refine ⟨e, oe, rfl, kk _ _ (inK _ _ ho), a2, a3, ⟨t, a4⟩, ?_⟩
  refine ⟨e, σ, δ, hh, strip (frameAddrs κ.φ.fl) hh, frameAddrs κ.φ.fl, rfl, h, ⟨sim, fr, Evo.refl .., fun b o z n => (strip_in n).trans z, fun b o z => (strip_of z).2, fun z hz => ?_, fun z hz => hz, fun z hz => strip_out hz, fun b o z => kk b o (strip_of z).2, fun b o z q_ => ⟨o.slots, kk b o z⟩, ?_,
    .plain (.ref t) oe _ a2 a3 a4 rfl rfl⟩, gens, hos⟩
  · obtain ⟨b1, b2, o, _, _, b3, _, b4⟩ := fr.at hz
    exact ⟨.inl hz, b1, b2, fun o' w => by rw [b3] at w; cases w; exact b4⟩
  · exact isNone_of fun o w => by have := (strip_of w).2; rw [hm.new] at this; cases this
end
section
variable {g : G} {fl : List Env} {σ : MH} {δ : DM}
theorem Evo.upTo {fa : List Addr} {σ1 : MH} {δ1 : DM} {h h1 h2 : Heap} {L : Addr} {Z : List Addr} {B : Heap} (hfa : ∀ b ∈ fa, b = L) (hL : Fl fl L) (E : Evo fl fa σ δ h σ1 δ1 h1) (fr : FrOk g σ1 δ1 h1 fl) (zs : ∀ z ∈ Z, Fl fl z ∨ h.get? z = none ∨ z ∈ fa) (inB : ∀ b o, h1.get? b = some o → b ∉ Z → B.get? b = some o)
    (st : Heap.StaysIn B h2) (up : h1.UpToSlots h2) : Evo fl fa σ δ h σ1 δ1 h2 := by
  have fl_ : ∀ b o, h.get? b = some o → b ∈ Z → Fl fl b := fun b o e z => (zs b z).elim id fun q => q.elim (some_not_none e) fun q => hfa b q ▸ hL
  have frd : ∀ b o, Fl fl b → h1.get? b = some o → ∀ vs, o.data ≠ .fields vs := fun b o q e vs z => by
    obtain ⟨_, _, o', es, n, a1, a2, _⟩ := fr.at q
    rw [e] at a1; cases a1; rw [a2] at z; cases z
  refine ⟨fun b o e n q r => ?_, fun b o e n q r => st b o (inB b o (E.keep b o e n q r) fun z => r (fl_ b o e z)), E.own, E.dom, fun b o e => ?_⟩
  · obtain ⟨sl, h3⟩ := E.slots b o e n q r
    obtain ⟨sl', h4⟩ := up b _ h3 (frd b _ r h3)
    exact ⟨sl', h4⟩
  · obtain ⟨o', h3⟩ := E.live b o e
    by_cases z : b ∈ Z
    · obtain ⟨sl, h4⟩ := up b o' h3 (frd b o' (fl_ b o e z) h3); exact ⟨_, h4⟩
    · exact ⟨o', st b o' (inB b o' h3 z)⟩
theorem Rep.keeps {w : World} {h h' : Heap} {a : Addr} {o : O} (r : Rep w δ h a o) (k : ∀ y, h.get? a = some y → h'.get? a = some y) (kd : ∀ d y, δ d = some a → h.get? d = some y → h'.get? d = some y) (t : ∀ b o, h.get? b = some o → IsTup o → h'.get? b = some o) : Rep w δ h' a o := by
  cases o with
  | inst C fs =>
    obtain ⟨ox, d, es, n, h1, h2, h3, h4, h5, h6, h7⟩ := r
    exact ⟨ox, d, es, n, k _ h1, h2, h3, h4, h5, kd _ _ h5 h6, h7.mono t⟩
  | list x => obtain ⟨vs, n, h1, h4⟩ := r; exact ⟨vs, n, k _ h1, h4.mono t⟩
  | rlist x => obtain ⟨o, vs, n, h1, h2, h3, h4⟩ := r; exact ⟨o, vs, n, k _ h1, h2, h3, h4.mono t⟩
  | dict P => obtain ⟨es, n, h1, h2, h3, h4⟩ := r; exact ⟨es, n, k _ h1, h2.mono t, h3, h4⟩
  | raw x => exact ⟨k _ r.1, r.2⟩
  | lot x => exact k _ r
structure Sole (φ : Fx) : Prop where
  fl : ∃ outer, φ.fl = φ.f.env :: outer
  fr : φ.f.env.frame = some φ.f.env.locals
  fa : φ.f.fa = [φ.f.env.locals]
  nc : ∀ y, φ.f.env.kindOf y ≠ some .cell
theorem Sole.at {φ : Fx} (S : Sole φ) : Fl φ.fl φ.f.env.locals := by
  obtain ⟨outer, e⟩ := S.fl
  exact List.mem_filterMap.mpr ⟨φ.f.env, by rw [e]; exact .head _, S.fr⟩
theorem FliesAt.caught {φ : Fx} {s h' : Heap} {ea : Addr} {σ1 : MH} {δ1 : DM} {hr B : Heap} {Z : List Addr} {sh : Shared} (x : FliesAt φ.g φ.fl φ.f.fa σ δ s ea σ1 δ1 hr B Z h') (S : Sole φ) (hk : EnvOk φ.f) (hg : sh.gens = #[]) (ho : sh.os = φ.g.os) {h2 : Heap}
    (st : B.StaysIn h2) (up : hr.UpToSlots h2) (hs : sh.heap = h2) : FS φ (fun q_ => none) σ1 δ1 sh ∧ Ev φ σ δ s σ1 δ1 h2 := by
  subst hs
  have hfr := S.at
  have outZ : ∀ b o, hr.get? b = some o → b ∉ Z → sh.heap.get? b = some o := fun b o e n => st b o (x.inB b o e n)
  have kt : ∀ b o, hr.get? b = some o → IsTup o → sh.heap.get? b = some o := fun b o e t => outZ b o e fun z => (x.zs b z).nt o e t
  have nd : ∀ b, Dom σ1 δ1 b → b ∉ Z := fun b e z => (x.zs b z).dom e
  have frames : ∀ b o es n, Fl φ.fl b → hr.get? b = some o → o.data = .dict es n → ∃ sl, sh.heap.get? b = some { o with slots := sl } := fun b o es n q e d => up b o e fun vs z => by rw [d] at z; cases z
  obtain ⟨f1, f2, oL, esL, nL, f3, f4, f5⟩ := x.fr.at hfr
  obtain ⟨slL, f6⟩ := frames _ _ _ _ hfr f3 f4
  have keys : StrKeys esL := by
    obtain ⟨e, he, hl⟩ := List.mem_filterMap.mp hfr
    obtain ⟨_, L, o, es, n, q1, _, _, q4, q5, _, q7⟩ := x.fr.all e he
    rw [hl] at q1; cases q1
    rw [f3] at q4; cases q4
    rw [f4] at q5; cases q5
    exact q7
  refine ⟨⟨⟨fun b o e => outZ b o (x.sim.keep b o e) fun z => some_not_none e (x.zs b z).base, fun a o e => (x.sim.rep a o e).keeps (fun y q => outZ a y q (nd a (.obj _ e))) (fun dd y q1 q2 => outZ dd y q2 (nd dd (.dict _ q1))) kt, x.sim.new, fun b a e => ?_⟩, hk,
    ⟨fun y => nsFind esL y, ⟨_, esL, nL, f6, f4, keys, fun q_ => rfl⟩, fun y v hy => (nomatch hy), fun y c hc => absurd hc (S.nc y)⟩, fun b hb => ?_, ⟨fun e he => ?_⟩, hg, ho⟩, ?_⟩
  · obtain ⟨⟨C, fs, q⟩, q2, ox, q3, q4⟩ := x.sim.aux b a e
    exact ⟨⟨C, fs, q⟩, q2, ox, outZ _ _ q3 (nd _ (.obj _ q)), q4⟩
  · rw [S.fa] at hb
    rw [List.mem_singleton.mp hb]
    exact ⟨f1, f2, _, f6, notTup_slots f5⟩
  · obtain ⟨kk, L, o, es, n, q1, q2, q3, q4, q5, q6, q7⟩ := x.fr.all e he
    obtain ⟨sl, w⟩ := frames L o es n (List.mem_filterMap.mpr ⟨e, he, q1⟩) q4 q5
    exact ⟨kk, L, _, es, n, q1, q2, q3, w, q5, notTup_slots q6, q7⟩
  · exact Evo.upTo (L := φ.f.env.locals) (fun b hb => by rw [S.fa] at hb; exact List.mem_singleton.mp hb) hfr x.evo x.fr (fun z hz => (x.zs z hz).whose) x.inB st up
theorem note_first {M : Model} {A : Around} {E : Value → Shared → Prop} {s : Shared} {base : Heap} {env : Env} {outer : List Env} {L e : Addr} {oe : Obj} {vs : Array Value} {a0 : Value} {Q : Unit → Shared → Prop}
    (hfr : A.frames = some (env :: outer)) (hl : s.heap.FunFrames base (env :: outer)) (hf : env.frame = some L) (he : s.heap.get? e = some oe) (hkb : base.StaysIn s.heap) (hen : base.get? e = none) (hd : oe.data = .fields vs) (h1 : vs[1]? = some .none) (h0 : vs[0]? = some a0)
    (h : ∀ h', Heap.HeldW base (env :: outer) e oe.cls a0 L h' → s.heap.UpToSlots h' → Q () { s with heap := h' }) : wpAny M A (noteFrame (.ref e) env) Q E s := by
  unfold noteFrame
  simp only [hf]
  refine wpAny_bind (wpAny_field he hd h1 ?_)
  rw [if_neg (by simp)]
  exact wpAny_entryW hfr hl hf he hkb hen hd (Array.getElem?_eq_some_iff.mp h1).1 h0 fun h' ⟨a, b, c, d⟩ => h h' ⟨a, hen, b, c⟩ d
end
section
variable {κ : Cx} {l : Loc} {σ : MH}
theorem WS1.tryAsg {body x np y yp b bk bp rpos hpos pos N fI fd} {X' : MH → Prop} {Q : Fw → Loc → MH → Prop} (H : ExcOk κ.φ.g.K κ.φ.g.cX N fI fd) (hg : nsIn κ.φ.g.K mainGlobals x = some (some (.ref κ.φ.g.cX))) (hx : κ.φ.f.env.kindOf x = some .globalImplicit) (S : Sole κ.φ)
    (h : WS ⟨κ.φ, κ.d, X'⟩ body Q l σ) (hX : ∀ σ1, X' σ1 → Q .next (upd (fun q_ => none) y (.bool b)) σ1) (hy : κ.φ.f.env.kindOf y = some .local) (hs : swapsWithSole [.Name y yp] (.Constant (.bool b) bk bp) rpos.line κ.φ.f.env = pure false) (hw : swappedStores [.Name y yp] (.Constant (.bool b) bk bp) κ.φ.f.env = pure none) (hd : (x == ("__debug__" : Str)) = false) :
    WS1 κ (.Try body [.ExceptHandler (some (.Name x np)) none [.Assign [.Name y yp] (.Constant (.bool b) bk bp) rpos] hpos] [] [] pos) Q l σ := fun A s δ G F => by
  obtain ⟨nm, q, bs, sn, sub, ab, col, dd, k0, k1, k2, k3, k5, ho⟩ := id H.c.obj
  obtain ⟨outer, hfl⟩ := S.fl
  have hA : A.frames = some (κ.φ.f.env :: outer) := by rw [G.frames, hfl]
  refine wpAny_Try_except (wpAny_mono (h A s δ G F) (fun fw s1 ⟨w, l1, σ1, δ1, hR, F1, E1, q1⟩ => ?_) fun ev s1 fx => ?_)
  · cases hR with
    | next => exact wpAny_execs_nil ⟨.next, l1, σ1, δ1, .next, F1, E1, q1⟩
    | brk => exact ⟨.brk, l1, σ1, δ1, .brk, F1, E1, q1⟩
    | cont => exact ⟨.cont, l1, σ1, δ1, .cont, F1, E1, q1⟩
    | ret hv => exact ⟨.ret _, l1, σ1, δ1, .ret hv, F1, E1, q1⟩
  · obtain ⟨ea, σ1, δ1, hr, B, Z, rfl, hX1, fx, hgs, hos⟩ := fx
    have ff : s1.heap.FunFrames B (κ.φ.f.env :: outer) := hfl ▸ fx.funFrames
    -- behind the notes
    have rest : ∀ a0 h2, Heap.HeldW B (κ.φ.f.env :: outer) ea (.ref κ.φ.g.cX) a0 κ.φ.f.env.locals h2 → s1.heap.UpToSlots h2 → wpAny (model κ.φ.g.prog κ.φ.g.w) A (setFlight (.ref ea) none) (fun q_ s₃ =>
        wpAny (model κ.φ.g.prog κ.φ.g.w) A (handleBy (.ref ea) κ.φ.f.env [.ExceptHandler (some (.Name x np)) none [.Assign [.Name y yp] (.Constant (.bool b) bk bp) rpos] hpos]) (Ok FwRel κ.φ σ δ s.heap Q) (FlX κ σ δ s.heap) s₃) (FlX κ σ δ s.heap) { s1 with heap := h2 } := fun a0 h2 hheld u2 => by
      refine wpAny_landsW hheld fun h3 hfl3 u3 => ?_
      have C3 := fx.caught (sh := { s1 with heap := h3 }) S F.envOk hgs hos hfl3.1 ((fx.upto.trans u2).trans u3) rfl
      obtain ⟨ob, hob, hobc⟩ := hfl3.there
      refine wpAny_handleBy_cons (codeAny_handlers_test (wpAny_mono (load_globW (s := { s1 with heap := h3 }) C3.1 hg hx hd) (fun r s2 ⟨r1, r2⟩ => ?_) fun q_ q_ e => e.elim)) (by intro q; cases q)
      subst r1 r2
      refine wpAny_excMatches_sub_self (C3.1.inK _ _ ho) hob hobc (by decide) (codeAny_handlers_suite ?_)
      refine lands_againW hfl3 fun h4 hfl4 u4 => ?_
      have C4 := fx.caught (sh := { s1 with heap := h4 }) S F.envOk hgs hos hfl4.1 (((fx.upto.trans u2).trans u3).trans u4) rfl
      refine wpAny_execs_cons (wpAny_Assign_stores (wpAny_pure ?_) hs hw)
      refine wpAny_mono (wpAny_assign_Name (store_name (κ := ⟨κ.φ, κ.d, noX⟩) (Q := fun l σ => l = upd (fun q_ => none) y (.bool b) ∧ σ = σ1) C4.1 (.bool b) (.inl hy) ⟨rfl, rfl⟩)) (fun _ s5 ⟨_, l5, σ5, δ5, _, F5, E5, q1, q2⟩ => ?_) fun q_ q_ e => ?_
      · subst q1 q2
        exact wpAny_execs_nil ⟨.next, _, _, δ5, .next, F5, C4.2.trans E5, hX _ hX1⟩
      · exact Flies.no e
    cases fx.exc with
    | plain a0 oe vs e1 e2 e3 e4 e5 =>
      refine note_first hA ff S.fr e1 fx.stays fx.fresh e3 e5 e4 fun h2 hheld u2 => ?_
      rw [e2] at hheld
      exact rest _ h2 hheld u2
    | traced a0 tr => exact wpAny_looks_onW hA S.fr ⟨fx.stays, fx.fresh, ff, tr⟩ fun h2 hheld u2 => rest _ h2 hheld u2
end
end Mn
set_option genInjectivity false
namespace Mn
open PySem.SeqAt

noncomputable def unkp (s : Str) : V → Tag
  | .int i => if s = "n" then .int i else if s = "b" then .bool (i == 1) else if s = "t" then .ref 0 i else .ref 1 i
  | .bytes b => .bytes b.toList
  | _ => .bad
theorem unkp_kp {t : Tag} (h : KTag t) : unkp (kp t).1 (kp t).2 = t := by
  cases h with
  | bool b => cases b <;> rfl
  | _ => rfl
theorem kp_inj {t u : Tag} (ht : KTag t) (hu : KTag u) (e : kv t = kv u) : t = u := by
  injection e with e
  injection e with e1 e
  injection e with e2
  injection e1 with e1
  rw [← unkp_kp ht, ← unkp_kp hu, e1, e2]
theorem kp_cq {t u : Tag} (ht : KTag t) (hu : KTag u) : Cq 1 (kv t) (kv u) := by
  refine .tt (CqL.cons (.ss _ _) (CqL.cons ?_ CqL.l))
  cases ht <;> cases hu <;> constructor
theorem kv_veq {t u : Tag} (ht : KTag t) (hu : KTag u) : veq (kv t) (kv u) = decide (t = u) := veq_dec ⟨kp_inj ht hu, fun e => e ▸ rfl⟩
inductive KV (t : Tag) : Value → Prop
  | int (i : Int) (k : Tok) (h : (kp t).2 = .int i) : KV t (.int i k)
  | bytes (b : Array UInt8) (k : Tok) (h : (kp t).2 = .bytes b) : KV t (.bytes b k)
inductive KTup (h : Heap) (t : Tag) (a : Addr) : Prop
  | mk (k : Tok) (r : Value) (n : Nat) (o : Obj) (ho : h.get? a = some o) (hc : o.cls = .type "tuple") (hd : o.data = .seq #[.str (kp t).1 k, r] n) (hr : KV t r)
theorem KAt.tup {h : Heap} {t a} (x : KAt h t a) : KTup h t a := by
  obtain ⟨ht, hv⟩ := x
  generalize e : Value.ref a = r at hv
  obtain ⟨b, vs, ⟨o, ho, hc, n, hd⟩, hl⟩ := hv.tup_inv
  cases e
  obtain ⟨r, q, e, h1, h2⟩ := hl.two
  obtain ⟨k, rfl⟩ := h1.str_inv
  obtain ⟨vs⟩ := vs
  dsimp only at e
  subst e
  refine ⟨k, q, n, o, ho, hc, hd, ?_⟩
  cases ht <;> first | (obtain ⟨k, rfl⟩ := h2.int_inv; exact .int _ _ rfl) | (obtain ⟨k, rfl⟩ := h2.bytes_inv; exact .bytes _ _ rfl)
section
variable {prog : Program} {w : World} {A : Around} {E : Value → Shared → Prop} {s : Shared} {t : Tag}
theorem KV.hash {r : Value} {Q : Int → Shared → Prop} (x : KV t r) (h : Q (vhash w (kp t).2) { s with toks := s.toks + 1 }) : wpAny (model prog w) A (pyHash r) Q E s := by
  cases x with
  | int i k e => rw [e] at h; exact wpAny_pyHash_int h
  | bytes b k e =>
    rw [e] at h
    refine pyHash_slot (T := "bytes") rfl FB.slot_bytes_hash FB.entry_bytes_hash (FB.args_bytes_hash_1 _) (beq_builtin_none _) (.inl rfl) ?_
    show wpAny _ _ (strHash ⟨b.map (·.toNat)⟩ >>= fun i => (do ret (← mkInt i))) _ _ s
    unfold strHash
    exact wpAny_bind (wpAny_bind (wpAny_askSetting (wpAny_pure (wpAny_bind (wpAny_mkInt (wpAny_pure ⟨_, _, rfl, h⟩))))))
theorem KV.still {r : Value} (x : KV t r) : carriedByValue r = true := by cases x <;> rfl
noncomputable def tagK (prog : Program) (w : World) : HeapKind prog w Tag where
  is := KAt
  hash := khash w
  draws := fun q_ => 3
  room := fun A => A.units + 1 < cLine
  inj := fun {h a x y} hx hy => kp_inj hx.tag hy.tag ((kp_cq hx.tag hy.tag).same hx.rel hy.rel)
  keeps := fun {h h' k a d o es ep} x ho hd hs => ⟨x.tag, x.rel.mono fun b ob e t => (hs.2 b fun z => by rw [z, ho] at e; cases e; exact notTup_dict hd t).trans e⟩
  pyHash := fun {A E s k a Q} hu x h => by
    obtain ⟨tk, r, n, o, ho, hc, hd, hr⟩ := x.tup
    refine pyHash_slot (T := "tuple") ⟨o, ho, hc⟩ F.slot_tuple_hash F.entry_tuple_hash (F.args_tuple_hash_1 _) (beq_builtin_none _) (.inr (Nat.lt_of_le_of_lt (Nat.le_succ _) hu)) ?_
    show wpAny _ _ (Builtin.Tuple.tupleItemsOf (.ref a) >>= _) _ _ s
    refine wpAny_bind (wpAny_tupleItemsOf ho hd ?_)
    refine wpAny_bind ?_
    rw [← Array.forIn_toList, List.forIn_cons]
    refine wpAny_bind (wpAny_bind (wpAny_pyHash_str (wpAny_pure ?_)))
    dsimp only
    rw [List.forIn_cons]
    refine wpAny_bind (wpAny_bind (hr.hash (wpAny_pure ?_)))
    exact wpAny_pure (wpAny_bind (wpAny_mkInt (wpAny_pure ⟨_, _, rfl, h⟩)))
  eqBool := fun {A E s x y a b Q} hu hx hy h => (kp_cq hx.tag hy.tag).eqb hx.rel hy.rel hu prog w E Q (by rw [kv_veq hx.tag hy.tag]; exact h)
  quiet := fun {A E s k a Q} x h => by
    obtain ⟨tk, r, n, o, ho, hc, hd, hr⟩ := x.tup
    have hT : s.TypeIs (.ref a) "tuple" := ⟨o, ho, hc⟩
    unfold eqIsQuiet
    refine wpAny_bind (wpAny_specialOf hT F.slot_tuple_eq.lookup ?_)
    show wpAny _ _ (isInstance (.ref a) (.type "tuple") >>= _) _ _ s
    refine wpAny_bind (wpAny_isInstance hT isSubtype_tuple_tuple ?_)
    rw [if_neg (show ¬((!true) = true) by decide)]
    refine wpAny_bind (wpAny_seqItems ho hd (wpAny_bind ?_))
    show wpAny _ _ (forIn #[Value.str (kp k).1 tk, r] _ _) _ _ s
    rw [← Array.forIn_toList, List.forIn_cons, eqIsQuiet_byValue _ rfl]
    refine wpAny_bind (wpAny_bind (wpAny_pure ?_))
    rw [if_neg (show ¬((!true) = true) by decide)]
    refine wpAny_pure ?_
    dsimp only
    rw [List.forIn_cons, eqIsQuiet_byValue _ hr.still]
    refine wpAny_bind (wpAny_bind (wpAny_pure ?_))
    rw [if_neg (show ¬((!true) = true) by decide)]
    exact wpAny_pure (wpAny_pure (wpAny_pure h))
end
end Mn
set_option genInjectivity false
namespace Mn
open PySem.SeqAt

noncomputable def dfind (P : Prs) (t : Tag) : Option V := (P.find? fun p => decide (p.1 = t)).map (·.2)
noncomputable def dput (t : Tag) (v : V) (p : Tag × V) : Tag × V := if p.1 = t then (p.1, v) else p
noncomputable def dset (P : Prs) (t : Tag) (v : V) : Prs := if (dfind P t).isSome = true then P.map (dput t v) else P ++ [(t, v)]
noncomputable def ddel (P : Prs) (t : Tag) : Prs := P.filter fun p => !decide (p.1 = t)
theorem dfind_cons (p : Tag × V) (P : Prs) (t : Tag) : dfind (p :: P) t = if p.1 = t then some p.2 else dfind P t := by
  unfold dfind
  rw [List.find?_cons]
  by_cases e : p.1 = t
  · rw [if_pos e, decide_eq_true e]; rfl
  · rw [if_neg e, decide_eq_false e]
theorem ddel_cons (p : Tag × V) (P : Prs) (t : Tag) : ddel (p :: P) t = if p.1 = t then ddel P t else p :: ddel P t := by
  unfold ddel
  rw [List.filter_cons]
  by_cases e : p.1 = t
  · rw [if_pos e, decide_eq_true e]; rfl
  · rw [if_neg e, decide_eq_false e]; rfl
theorem ddel_none {t : Tag} : ∀ {P : Prs}, t ∉ P.map (·.1) → ddel P t = P
  | [], _ => rfl
  | p :: P, h => by
    rw [List.map_cons, List.mem_cons, not_or] at h
    rw [ddel_cons, if_neg (Ne.symm h.1), ddel_none h.2]
theorem ddel_erase {t : Tag} : ∀ {P : Prs} {j : Nat} {v : V}, (P.map (·.1)).Nodup → P[j]? = some (t, v) → P.eraseIdx j = ddel P t
  | p :: P, 0, v, nd, e => by
    cases e
    rw [List.map_cons, List.nodup_cons] at nd
    rw [ddel_cons, if_pos rfl, ddel_none nd.1]; rfl
  | p :: P, j + 1, v, nd, e => by
    rw [List.map_cons, List.nodup_cons] at nd
    have ne : ¬ p.1 = t := fun z => nd.1 (z ▸ List.mem_map.mpr ⟨_, List.mem_of_getElem? e, rfl⟩)
    rw [List.eraseIdx_cons_succ, ddel_erase nd.2 e, ddel_cons, if_neg ne]
theorem ddel_keys (P : Prs) (t : Tag) : (ddel P t).map (·.1) = (P.map (·.1)).filter fun u => !decide (u = t) := by unfold ddel; rw [List.filter_map]; rfl
section
variable {h : Heap} {P : Prs} {ys : Ys} {t : Tag} {v : V}
theorem YRel.keys (x : YRel h P ys) : ys.map (·.1) = P.map (·.1) := by
  induction x with
  | nil => rfl
  | cons _ _ _ ih => rw [List.map_cons, List.map_cons, ih]
theorem YRel.length (x : YRel h P ys) : ys.length = P.length := by rw [← List.length_map (·.1), x.keys, List.length_map]
theorem YRel.is (x : YRel h P ys) : ∀ y ∈ ys, KAt h y.1 y.2.1 := by
  induction x with
  | nil => intro y z; cases z
  | cons hk _ _ ih =>
    intro y z
    rcases List.mem_cons.mp z with rfl | z
    · exact hk
    · exact ih y z
inductive FndAt (h : Heap) (ys : Ys) (t : Tag) (v : V) : Prop
  | mk (b : Addr) (rv : Value) (e : atKey ys t = some (b, rv)) (hv : VRel h v rv)
theorem atKey_cons (y : Tag × Addr × Value) (ys : Ys) (t : Tag) : atKey (y :: ys) t = if y.1 = t then some y.2 else atKey ys t := by
  unfold atKey
  rw [List.find?_cons]
  by_cases e : y.1 = t
  · rw [if_pos e, decide_eq_true e]; rfl
  · rw [if_neg e, decide_eq_false e]
theorem YRel.find (x : YRel h P ys) (e : dfind P t = some v) : FndAt h ys t v := by
  induction x with
  | nil => cases e
  | @cons u w b rv _ _ hk hv _ ih =>
    rw [dfind_cons] at e
    by_cases z : u = t
    · rw [if_pos z] at e; cases e; exact ⟨b, rv, by rw [atKey_cons, if_pos z], hv⟩
    · rw [if_neg z] at e
      obtain ⟨b', rv', e', hv'⟩ := ih e
      exact ⟨b', rv', by rw [atKey_cons, if_neg z, e'], hv'⟩
theorem YRel.none (x : YRel h P ys) (e : dfind P t = .none) : atKey ys t = .none := by
  induction x with
  | nil => rfl
  | @cons u w b rv _ _ hk hv _ ih =>
    rw [dfind_cons] at e
    by_cases z : u = t
    · rw [if_pos z] at e; cases e
    · rw [if_neg z] at e; rw [atKey_cons, if_neg z, ih e]
theorem YRel.some? (x : YRel h P ys) : (atKey ys t).isSome = (dfind P t).isSome := by
  cases e : dfind P t with
  | none => rw [x.none e]; rfl
  | some v => obtain ⟨b, rv, e', _⟩ := x.find e; rw [e']; rfl
set_option tactic.hygienic true in
theorem YRel.set {a : Addr} {rv : Value} (x : YRel h P ys) (hk : KAt h t a) (hv : VRel h v rv) : YRel h (dset P t v) (storedH ys t a rv) := by
  unfold dset storedH
  rw [x.some?]
  split <;> rename_i q <;> clear q
  · clear hk
    induction x with
    | nil => exact .nil
    | @cons u w b rw' _ _ hk hw _ ih =>
      rw [List.map_cons, List.map_cons]
      unfold putAt dput
      by_cases z : u = t
      · subst z; rw [if_pos rfl, if_pos rfl]; exact .cons hk hv ih
      · rw [if_neg z, if_neg z]; exact .cons hk hw ih
  · induction x with
    | nil => exact .cons hk hv .nil
    | cons hk' hv' _ ih => exact .cons hk' hv' ih
theorem YRel.erase (x : YRel h P ys) : ∀ j, YRel h (P.eraseIdx j) (ys.eraseIdx j) := by
  induction x with
  | nil => intro j; exact .nil
  | cons hk hv hs ih =>
    intro j
    cases j with
    | zero => exact hs
    | succ j => exact .cons hk hv (ih j)
theorem YRel.at (x : YRel h P ys) : ∀ {j : Nat} {p}, ys[j]? = some (t, p) → ∃ v, P[j]? = some (t, v) ∧ VRel h v p.2 := by
  induction x with
  | nil => intro j p e; cases e
  | @cons u w b rv _ _ hk hv _ ih =>
    intro j p e
    cases j with
    | zero => cases e; exact ⟨w, rfl, hv⟩
    | succ j => exact ih e
theorem dfind_at : ∀ {P : Prs} {j : Nat}, (P.map (·.1)).Nodup → P[j]? = some (t, v) → dfind P t = some v
  | p :: P, 0, nd, e => by cases e; rw [dfind_cons, if_pos rfl]
  | p :: P, j + 1, nd, e => by
    rw [List.map_cons, List.nodup_cons] at nd
    have ne : ¬ p.1 = t := fun z => nd.1 (z ▸ List.mem_map.mpr ⟨_, List.mem_of_getElem? e, rfl⟩)
    rw [dfind_cons, if_neg ne, dfind_at nd.2 e]
end
structure DAt (g : G) (h : Heap) (a : Addr) (P : Prs) (ys : Ys) : Prop where
  yr : YRel h P ys
  nd : (P.map (·.1)).Nodup
  ns : (a == sysModules) = false
  of : h.DictOfH (tagK g.prog g.w) a ys
theorem Sim.dict {g : G} {σ δ h} (S : Sim g σ δ h) {a P} (e : σ a = some (.dict P)) : ∃ ys, DAt g h a P ys := by
  obtain ⟨ys, n, h1, h2, h3, h4⟩ := S.rep _ _ e
  exact ⟨ys, h2, h3, beq_eq_false_iff_ne.mpr h4, _, _, n, h1, ⟨rfl, rfl, rfl⟩, rfl, List.toList_toArray, h2.is, by rw [h2.keys]; exact h3⟩
theorem RepD.of {prog w h a P ys} (hm : Heap.DictOfH (tagK prog w) h a ys) (y : YRel h P ys) (nd : (P.map (·.1)).Nodup) (ns : a ≠ sysModules) : RepD w h a P := by
  obtain ⟨⟨c, d, da, sl⟩, es, ep, ho, ⟨h1, h2, h3⟩, hd, he, _, _⟩ := hm
  dsimp only at h1 h2 h3 hd
  subst h1 h2 h3 hd
  refine ⟨ys, ep, ?_, y, nd, ns⟩
  rw [show (ys.map (ent w)).toArray = es by rw [show ys.map (ent w) = es.toList from he.symm, Array.toArray_toList]]
  exact ho
theorem Good0.room {d A fl} (x : Good0 d A fl) : A.units + 2 < cLine := by have := x.units; show A.units + 2 < 9900; lia
section
variable {κ : Cx} {l : Loc} {σ : MH} {δ : DM} {Q : V → MH → Prop} {a : Addr} {P : Prs} {t : Tag}
theorem VRel.kv_inv {h : Heap} {r : Value} (x : VRel h (kv t) r) : ∃ b, r = .ref b := by obtain ⟨b, vs, _, _⟩ := x.tup_inv; exact ⟨b, rfl⟩
theorem contains_dict {A : Around} {s : Shared} {E : Value → Shared → Prop} {ys : Ys} {b : Addr} {Q : Bool → Shared → Prop} {prog w} (hu : A.units + 2 < cLine) (hkey : KAt s.heap t b) (hd : (a == sysModules) = false) (hm : s.heap.DictOfH (tagK prog w) a ys)
    (h : Q (atKey ys t).isSome { s with toks := s.toks + 3 }) : wpAny (model prog w) A (contains (.ref a) (.ref b)) Q E s := by
  unfold contains
  try with_reducible refine wpAny_holding ?_
  refine wpAny_bind (wpAny_specialOf hm.typeIs slot_dict_contains.lookup ?_)
  show wpAny _ _ (if (some (Value.builtin "dict.__contains__") == some Value.none) = true then _ else _) _ E s
  rw [if_neg (by rw [beq_builtin_none]; exact Bool.false_ne_true)]
  refine wpAny_bind (wpAny_callSpecialUnlessNone?_slot (name := Str.ofString "__contains__") hm.typeIs slot_dict_contains
    (wpAny_call_entry slot_dict_contains hm.typeIs entry_dict_contains ?_ (args_dict_contains _ _)))
  show wpAny _ _ (dictGet a (.ref b) >>= _) _ _ s
  refine wpAny_bind (wpAny_dictGet_heap (knd := tagK prog w) (k := t) hu hkey hm ?_)
  cases hf : atKey ys t with
  | some p =>
    rw [hf] at h
    show wpAny _ _ (ret (.bool true)) _ _ _
    exact wpAny_pure ⟨_, rfl, wpAny_truthy_bool h⟩
  | none =>
    rw [hf] at h
    show wpAny _ _ (Builtin.Dict.pendingKey? a (.ref b) >>= _) _ _ _
    exact wpAny_bind (wpAny_pendingKey_other hd (wpAny_pure ⟨_, rfl, wpAny_truthy_bool h⟩))
theorem PV.inDict (hσ : σ a = some (.dict P)) (ht : KTag t) (h : Q (.bool (dfind P t).isSome) σ) : PV κ (t2 (compareOp .In)) [kv t, .ref a] Q σ := fun A s δ l rs G F hv => by
  obtain ⟨rx, rb, rfl, hx, hb⟩ := hv.two
  rw [hb.ref_inv]
  obtain ⟨b, rfl⟩ := hx.kv_inv
  obtain ⟨ys, D⟩ := F.sim.dict hσ
  refine wpAny_bind (contains_dict G.room ⟨ht, hx⟩ D.ns D.of (wpAny_pure ?_))
  rw [D.yr.some?]
  exact Ok.tok F (.bool _) ⟨rfl, h⟩
theorem PV.notInDict (hσ : σ a = some (.dict P)) (ht : KTag t) (h : Q (.bool (!(dfind P t).isSome)) σ) : PV κ (t2 (compareOp .NotIn)) [kv t, .ref a] Q σ := fun A s δ l rs G F hv => by
  obtain ⟨rx, rb, rfl, hx, hb⟩ := hv.two
  rw [hb.ref_inv]
  obtain ⟨b, rfl⟩ := hx.kv_inv
  obtain ⟨ys, D⟩ := F.sim.dict hσ
  refine wpAny_bind (contains_dict G.room ⟨ht, hx⟩ D.ns D.of (wpAny_pure ?_))
  rw [D.yr.some?]
  exact Ok.tok F (.bool _) ⟨rfl, h⟩
theorem PG.dict {v : V} (hσ : σ a = some (.dict P)) (ht : KTag t) (hx : dfind P t = some v) (h : Q v σ) : PG κ (.ref a) (kv t) Q σ := fun A s δ l ra rb G F ha hb => by
  rw [ha.ref_inv]
  obtain ⟨b, rfl⟩ := hb.kv_inv
  obtain ⟨ys, D⟩ := F.sim.dict hσ
  obtain ⟨c, rv, e, hv⟩ := D.yr.find hx
  exact ⟨⟨"dict", _, D.of.typeIs, slot_dict_getitem.lookup, fun q => nomatch q⟩, wpAny_getItem_heap (knd := tagK _ _) (k := t) G.room ⟨ht, hb⟩ D.of e (Ok.tok F hv ⟨rfl, h⟩)⟩
theorem dset_keys {P : Prs} {v : V} : (dset P t v).map (·.1) = if (dfind P t).isSome = true then P.map (·.1) else P.map (·.1) ++ [t] := by
  unfold dset
  split
  · rw [List.map_map]
    refine List.map_congr_left fun p q_ => ?_
    show (dput t v p).1 = p.1
    unfold dput; split <;> rfl
  · rw [List.map_append]; rfl
theorem dfind_none {P : Prs} (h : dfind P t = none) : t ∉ P.map (·.1) := fun z => by
  obtain ⟨p, hp, e⟩ := List.mem_map.mp z
  unfold dfind at h
  rw [Option.map_eq_none_iff, List.find?_eq_none] at h
  exact h p hp (decide_eq_true e)
set_option tactic.hygienic true in
theorem dset_nd {P : Prs} {v : V} (nd : (P.map (·.1)).Nodup) : ((dset P t v).map (·.1)).Nodup := by
  rw [dset_keys]
  split
  · exact nd
  · rename_i h
    rw [List.nodup_append]
    refine ⟨nd, List.nodup_cons.mpr ⟨List.not_mem_nil, List.nodup_nil⟩, fun x hx y hy e => ?_⟩
    rw [List.mem_singleton.mp hy] at e
    exact dfind_none (Option.not_isSome_iff_eq_none.mp h) (e ▸ hx)
theorem ddel_nd {P : Prs} (nd : (P.map (·.1)).Nodup) : ((ddel P t).map (·.1)).Nodup := by rw [ddel_keys]; exact nd.filter _
theorem FS.setD {φ : Fx} {s : Shared} {h' : Heap} {tk : Nat} {P' : Prs} {ys ys' : Ys} (F : FS φ l σ δ s) (hσ : σ a = some (.dict P)) (D : DAt φ.g s.heap a P ys) (hs : Heap.SameBut a s.heap h') (hm : h'.DictOfH (tagK φ.g.prog φ.g.w) a ys') (nd : (P'.map (·.1)).Nodup)
    (y : (∀ b o, s.heap.get? b = some o → IsTup o → h'.get? b = some o) → YRel h' P' ys') : FS φ l (upd σ a (.dict P')) δ { s with heap := h', toks := tk } ∧ Ev φ σ δ s.heap (upd σ a (.dict P')) δ h' := by
  obtain ⟨o, es, ep, ho, _, hd, _⟩ := id D.of
  obtain ⟨o', _, _, ho', _⟩ := id hm
  have nt : NoTup s.heap a := fun x e => by rw [ho] at e; cases e; exact notTup_dict hd
  exact F.write (tk := tk) (c := a) (a := a) (.of hs) ⟨_, ho'⟩ hσ (.map rfl P P') (RepD.of hm (y ((But.of hs).tups nt)) nd (ne_of_beq_false D.ns))
theorem PU.setDict {v : V} {Q : MH → Prop} (hσ : σ a = some (.dict P)) (ht : KTag t) (hz : P.length ≤ 2 ^ 20) (h : Q (upd σ a (.dict (dset P t v)))) : PU κ (u3 setItem) [.ref a, kv t, v] Q σ := fun A s δ l rs G F hv => by
  obtain ⟨ra, rr, ha, hvs⟩ := hv.cons_inv
  obtain ⟨ri, rv, rfl, hi, hw⟩ := hvs.two
  rw [ha.ref_inv]
  obtain ⟨b, rfl⟩ := hi.kv_inv
  obtain ⟨ys, D⟩ := F.sim.dict hσ
  refine wpAny_setItem_heap (knd := tagK _ _) (k := t) G.room ⟨ht, hi⟩ D.of (fun h' hm hs => ?_) (by rw [D.yr.length, sizeLine_eq]; lia)
  have fin := F.setD (tk := s.toks + 3) hσ D hs hm (dset_nd D.nd) fun k => (D.yr.mono k).set ⟨ht, hi.mono k⟩ (hw.mono k)
  exact ⟨(), l, _, δ, trivial, fin.1, fin.2, rfl, h⟩
theorem PV.len_dict (hσ : σ a = some (.dict P)) (hz : P.length < 2 ^ 60) (h : Q (.int P.length) σ) : PV κ tcall [.bi "len", .ref a] Q σ := fun A s δ l rs G F hv => by
  obtain ⟨rf, ra, rfl, hf, ha⟩ := hv.two
  rw [hf.bi_inv, ha.ref_inv]
  obtain ⟨ys, D⟩ := F.sim.dict hσ
  obtain ⟨o, es, ep, ho, _, hd, he, _, _⟩ := id D.of
  have len : es.size = P.length := by rw [size_of_entries he, D.yr.length]
  refine Calls.call_function_entry kind_len plain_len entry_len (args_len1 _) ?_
  unfold Builtin.«len»
  refine wpAny_bind (m := oneArg "len" _) (wpAny_pure ?_)
  refine wpAny_bind (m := callSpecial? (.ref a) (Str.ofString "__len__")) (wpAny_callSpecial?_slot (name := Str.ofString "__len__") D.of.typeIs PySem.F.slot_dict_len
    (wpAny_call_entry PySem.F.slot_dict_len D.of.typeIs PySem.F.entry_dict_len (show wpAny _ _ (dictSize a >>= fun n => Builtin.Dict.pendingCount a >>= fun m => retInt (n + m)) _ _ s from ?_) (PySem.F.args_dict_len_1 _)))
  unfold dictSize
  refine wpAny_bind (wpAny_bind (wpAny_dictEntries ho hd (wpAny_pure (wpAny_bind (wpAny_pendingCount_other D.ns (wpAny_ret_mkInt ?_))))))
  rw [Nat.add_zero, len]
  show wpAny _ _ _ _ _ { s with toks := s.toks + 1 }
  refine wpAny_bind (wpAny_holding (wpAny_pure ?_))
  refine wpAny_bind (wpAny_letGo ?_)
  show wpAny _ _ (if ((P.length : Nat) : Int) < 0 then _ else _) _ _ _
  rw [if_neg (by lia)]
  show wpAny _ _ (if ((P.length : Nat) : Int) ≥ 2 ^ 63 then _ else _) _ _ _
  rw [if_neg (by lia)]
  exact wpAny_bind (wpAny_mkInt (wpAny_pure ⟨_, rfl, Ok.tok F (.int ..) ⟨rfl, h⟩⟩))
end
end Mn
set_option genInjectivity false
namespace Mn
open PySem.SeqAt

structure DObj (h : Heap) (d : Addr) (es : Array DictEntry) (ep : Nat) : Prop where
  at_ : h.get? d = some { cls := .type "dict", data := .dict es ep }
noncomputable abbrev kitO (d : Addr) (i n ep : Nat) : Obj := { cls := .type "dict_keyiterator", data := .fields #[.ref d, .int i 0, .int n 0, .int ep 0] }
structure KItr (h : Heap) (it d : Addr) (i : Nat) (es : Array DictEntry) (ep : Nat) : Prop where
  it : h.get? it = some (kitO d i es.size ep)
  d : DObj h d es ep
section
variable {prog : Program} {w : World} {A : Around} {E : Value → Shared → Prop} {s : Shared} {d it : Addr} {es : Array DictEntry} {ep i : Nat}
theorem DObj.type (D : DObj s.heap d es ep) : s.TypeIs (.ref d) "dict" := ⟨_, D.at_, rfl⟩
theorem KItr.type (I : KItr s.heap it d i es ep) : s.TypeIs (.ref it) "dict_keyiterator" := ⟨_, I.it, rfl⟩
theorem iter_keys {Q : Value → Shared → Prop} (hd : (d == sysModules) = false) (D : DObj s.heap d es ep) (h : Q (.ref s.heap.objs.size) { s with heap := s.heap.push (kitO d 0 es.size ep) }) : wpAny (model prog w) A (pyIter (.ref d)) Q E s := by
  have nx : ∀ s' : Shared, Q (.ref s.heap.objs.size) s' → s'.TypeIs (.ref s.heap.objs.size) "dict_keyiterator" → (∃ T g, s'.TypeIs (.ref s.heap.objs.size) T ∧ typeLookup (.type T) "__next__" = pure (some g) ∧ Q (.ref s.heap.objs.size) s') := fun s' q t => ⟨_, _, t, PySem.F.slot_dict_keyiterator_next.lookup, q⟩
  refine wpAny_pyIter_slot D.type PySem.F.slot_dict_iter (wpAny_call_entry PySem.F.slot_dict_iter D.type PySem.F.entry_dict_iter ?_ (PySem.F.args_dict_iter_1 _))
  unfold Builtin.«dict.__iter__» Builtin.Dict.dictSlotNone Builtin.Dict.showsAll
  refine wpAny_bind (wpAny_bind (wpAny_notOrdered_dict D.type (wpAny_pure ?_)))
  refine wpAny_bind (wpAny_pure (wpAny_bind ?_))
  rw [hd]
  refine wpAny_pure (wpAny_bind (wpAny_dictEntries D.at_ rfl (wpAny_bind (wpAny_dictEpoch D.at_ rfl (wpAny_bind (wpAny_newObj_type (wpAny_pure ⟨_, rfl, nx _ h ⟨_, Heap.get?_push_size _ rfl, rfl⟩⟩)))))))
theorem next_key {Q : Option Value → Shared → Prop} (hh : A.handled = none) (I : KItr s.heap it d i es ep) (hne : d ≠ it)
    (hs : ∀ e h', es[i]? = some e → KItr h' it d (i + 1) es ep → Heap.SameBut it s.heap h' → Q (some e.key) { s with heap := h' })
    (hn : es[i]? = none → ∀ h', Heap.ExtBut it s.heap h' → Q none { s with heap := h' }) : wpAny (model prog w) A (pyNext (.ref it)) Q E s := by
  have T := I.type
  unfold pyNext
  refine wpAny_bind (wpAny_attempt (wpAny_callSpecial?_slot (name := Str.ofString "__next__") T PySem.F.slot_dict_keyiterator_next (wpAny_call_entry PySem.F.slot_dict_keyiterator_next T PySem.F.entry_dict_keyiterator_next ?_ (PySem.F.args_dict_keyiterator_next_1 _))))
  refine wpAny_bind (wpAny_pure (wpAny_bind (wpAny_bind (wpAny_bind (wpAny_typeNameOfWhole_keyiter T (wpAny_pure ?_))))))
  refine wpAny_bind (wpAny_fieldsOf I.it rfl ?_)
  show wpAny _ _ (if (Value.ref d == Value.none) = true then _ else _) _ _ s
  rw [if_neg (show ¬ ((Value.ref d == Value.none) = true) from Bool.false_ne_true)]
  refine wpAny_bind (wpAny_pure (wpAny_bind (wpAny_dictEntries I.d.at_ rfl ?_)))
  rw [if_neg (fun z => (bne_iff_ne.mp z) rfl)]
  refine wpAny_bind (wpAny_pure (wpAny_bind (wpAny_dictEpoch I.d.at_ rfl ?_)))
  rw [if_neg (fun z => (bne_iff_ne.mp z) rfl)]
  refine wpAny_pure ?_
  dsimp only
  rw [if_neg (show ¬ ((i : Int) < 0) from Int.not_lt.mpr (Int.natCast_nonneg i)), Int.toNat_natCast]
  cases he : es[i]? with
  | some e =>
    have fin := Heap.get?_update_self (Obj.mapFields (·.setIfInBounds 1 (rawInt ((i : Int) + 1)))) I.it rfl
    have sb : Heap.SameBut it s.heap (s.heap.update it (Obj.mapFields (·.setIfInBounds 1 (rawInt ((i : Int) + 1))))) := Heap.SameBut.update ..
    have I' : KItr (s.heap.update it (Obj.mapFields (·.setIfInBounds 1 (rawInt ((i : Int) + 1))))) it d (i + 1) es ep := ⟨fin, ⟨(sb.2 d hne).trans I.d.at_⟩⟩
    refine wpAny_bind (wpAny_bind (wpAny_typeNameOfWhole_keyiter T (wpAny_pure ?_)))
    refine wpAny_bind (wpAny_isOneOf_keyiter T ?_)
    refine wpAny_bind (wpAny_setField I.it rfl (Nat.le_of_ble_eq_true rfl) ?_)
    refine wpAny_bind (wpAny_holding (wpAny_bind (wpAny_isOneOf_keyiter I'.type (wpAny_pure ?_))))
    exact wpAny_pure ⟨_, rfl, wpAny_pure (hs e _ he I' sb)⟩
  | none =>
    refine wpAny_bind (wpAny_bind (wpAny_typeNameOfWhole_keyiter T (wpAny_pure ?_)))
    refine wpAny_bind (wpAny_setField I.it rfl (Nat.le_of_ble_eq_true rfl) ?_)
    show wpAny _ _ (newExc (.type "StopIteration") [] >>= _) _ _ _
    refine wpAny_bind ?_
    simp only [newExc, newTuple]
    refine wpAny_bind (wpAny_newObj_type ?_)
    refine wpAny_bind (m := firstArgMember _ _) (wpAny_of_eq (a := Value.none) (by first | rfl | (simp only [firstArgMember]; rfl)) ?_)
    refine wpAny_newObj_type ?_
    refine wpAny_raiseNew_none (show A.in1.handled = none from hh) ?_
    refine wpAny_bind (wpAny_isInstance (T := "StopIteration") (b := true) ⟨_, Heap.get?_push_size _ rfl, rfl⟩ isSubtype_stop (wpAny_pure ?_))
    exact hn he _ (((Heap.SameBut.update ..).extBut.push _).push _)
theorem KItr.walks (hh : A.handled = none) (hne : d ≠ it) : Walks prog w A it [it, d] [it] es.size (fun i v => ∃ e, es[i]? = some e ∧ v = e.key) (fun i h => KItr h it d i es ep) where
  sub := fun b hb => List.mem_cons.mpr (.inl (List.mem_singleton.mp hb))
  frame := fun q_ q_ q_ I hk => ⟨hk it (.head _) _ I.it, ⟨hk d (.tail _ (.head _)) _ I.d.at_⟩⟩
  item := fun i s Q E hi I hQ => next_key hh I hne (fun e h' he I' sb => hQ _ h' s.toks ⟨e, he, rfl⟩ I' fun b o hb q => (sb.2 b fun z => hb (List.mem_singleton.mpr z)).trans q) fun z => absurd (Array.getElem?_eq_none_iff.mp z) (Nat.not_le.mpr hi)
  done := fun s Q E I hQ => next_key hh I hne (fun e h' he => absurd (Array.getElem?_eq_some_iff.mp he).1 (Nat.lt_irrefl _)) fun q_ h' eb => hQ h' s.toks fun b o hb q => eb b o (fun z => hb (List.mem_singleton.mpr z)) q
  self := fun i s Q E I h => wpAny_pyIter_keyiter (i := i) (n := es.size) (ep := ep) ⟨_, I.it, rfl, rfl⟩ h
theorem src_keys (lo : (d == sysModules) = false) : KdlSrc prog w "dict" d d es.size (fun i v => ∃ e, es[i]? = some e ∧ v = e.key) (fun h => DObj h d es ep) where
  type := fun q_ D => D.type
  there := fun q_ D => ⟨Heap.lt_size D.at_, Heap.lt_size D.at_⟩
  keep := fun q_ q_ D hk => ⟨hk d (.inl rfl) _ D.at_⟩
  notList := by decide
  notTuple := by decide
  hint := fun q_ q_ q_ q_ D hq => kdl_hint_dict D.type hq
  iter := fun q_ s hh D => ⟨_, fun i h => KItr h s.heap.objs.size d i es ep, (fun q_ q_ hq => iter_keys lo D hq), KItr.walks hh (Nat.ne_of_lt (Heap.lt_size D.at_)), ⟨Heap.get?_push_size _ rfl, ⟨Heap.get?_push_of_some _ D.at_⟩⟩⟩
end
section
variable {κ : Cx} {l : Loc} {σ : MH} {δ : DM} {a : Addr} {P : Prs}
theorem keys_rel {h : Heap} {P : Prs} {ys : Ys} (y : YRel h P ys) {acc : Array Value} {w : World} (hz : acc.size = ys.length) (k : ∀ (j : Nat) (v : Value), acc[j]? = some v → ∃ e : DictEntry, (ys.map (ent w)).toArray[j]? = some e ∧ v = e.key) : VsRel h (P.map fun p => kv p.1) acc.toList := by
  refine .of_at (by rw [Array.length_toList, List.length_map, hz, y.length]) fun i v r e e' => ?_
  rw [Array.getElem?_toList] at e'
  obtain ⟨en, h1, rfl⟩ := k i r e'
  rw [List.getElem?_toArray, List.getElem?_map] at h1
  rw [List.getElem?_map] at e
  obtain ⟨x, hx, rfl⟩ := Option.map_eq_some_iff.mp h1
  obtain ⟨p, hp, rfl⟩ := Option.map_eq_some_iff.mp e
  obtain ⟨u, b, rv⟩ := x
  obtain ⟨v, hv, _⟩ := y.at hx
  rw [hp] at hv; cases hv
  exact (y.is _ (List.mem_of_getElem? hx)).rel
theorem PV.keysList {Q : V → MH → Prop} (hσ : σ a = some (.dict P)) (hz : P.length ≤ 2 ^ 20) (h : ∀ b, σ b = none → Q (.ref b) (upd σ b (.list (P.map fun p => kv p.1)))) : PV κ tcall [.typ "list", .ref a] Q σ := fun A s δ l rs G F hv => by
  obtain ⟨rf, ra, rfl, hf, ha⟩ := hv.two
  rw [hf.typ_inv, ha.ref_inv]
  obtain ⟨ys, n, h1, h2, h3, h4⟩ := F.sim.rep _ _ hσ
  have sz : (ys.map (ent κ.φ.g.w)).toArray.size = ys.length := by rw [List.size_toArray, List.length_map]
  refine kdl_call (src_keys (es := (ys.map (ent κ.φ.g.w)).toArray) (ep := n) (beq_eq_false_iff_ne.mpr h4)) G.handled ⟨h1⟩ (by rw [sz, h2.length, sizeLine_eq]; lia) fun h' tk acc c kk hS hacc => ?_
  exact Mn.newL (tk := tk) F kk (keys_rel h2 (hacc.1.trans sz) hacc.2) (Nat.le_refl _) ⟨c, hS⟩ fun a e => ⟨rfl, h a e⟩
end
end Mn
set_option genInjectivity false
namespace Mn
open PySem.SeqAt

set_option tactic.hygienic true in
theorem upd_self {α β : Type} [DecidableEq α] {f : α → Option β} {a : α} {b : β} (h : f a = some b) : upd f a b = f := funext fun x => by
  unfold upd; split
  · rename_i e; rw [e, h]
  · rfl
theorem er_map {α β : Type} {f : α → β} : ∀ {l : List α} {j : Nat}, (l.map f).eraseIdx j = (l.eraseIdx j).map f
  | [], _ => rfl
  | _ :: _, 0 => rfl
  | x :: l, j + 1 => congrArg (f x :: ·) er_map
theorem ddel_of_none {P : Prs} {t : Tag} (h : dfind P t = none) : ddel P t = P := ddel_none (dfind_none h)
section
variable {κ : Cx} {l : Loc} {σ : MH} {δ : DM} {a : Addr} {P : Prs} {t : Tag}
theorem takeOut_dict {A : Around} {s : Shared} {E : Value → Shared → Prop} {ys : Ys} {b : Addr} {Q : Option DictEntry → Shared → Prop} {prog w} (hu : A.units + 1 < cLine) (hkey : KAt s.heap t b) (hm : s.heap.DictOfH (tagK prog w) a ys) (hz : ys.length ≤ sizeLine)
    (hn : (∀ (j : Nat) p, ys[j]? ≠ some (t, p)) → Q none { s with toks := s.toks + 3 }) (hs : ∀ (j : Nat) p h', ys[j]? = some (t, p) → h'.DictOfH (tagK prog w) a (ys.eraseIdx j) → Heap.SameBut a s.heap h' → Q (some (ent w (t, p))) { s with heap := h', toks := s.toks + 3 }) :
    wpAny (model prog w) A (Builtin.Dict.takeOut a (.ref b)) Q E s := by
  obtain ⟨o, es, ep, ho, hc, hd, he, his, nd⟩ := hm
  have sz := size_of_entries he
  unfold Builtin.Dict.takeOut
  try with_reducible refine wpAny_holding ?_
  refine wpAny_bind ((tagK prog w).pyHash (k := t) hu hkey (wpAny_bind (wpAny_dictFind_heap (knd := tagK prog w) (s := { s with toks := s.toks + 3 }) (k := t) hu hkey ho hd he his nd (fun h => wpAny_pure (hn h)) fun j p hj => ?_)))
  refine wpAny_bind (wpAny_dictEntries (s := { s with toks := s.toks + 3 }) ho hd ?_)
  rw [entry_at he j, hj]
  have sb : Heap.SameBut a s.heap (s.heap.update a (Obj.mapDictKeys (·.eraseIdxIfInBounds j))) := Heap.SameBut.update ..
  refine wpAny_bind (wpAny_updateDictKeys (hz := by rw [sz]; exact hz) (s := { s with toks := s.toks + 3 }) ho hd (wpAny_pure (hs j p _ hj ⟨_, _, ep + 1, Heap.get?_update_self _ ho (Obj.isFreed_of_dict (Obj.data_mapDictKeys hd _)), hc.mapDictKeys _, Obj.data_mapDictKeys hd _, ?_, fun x hx => (tagK prog w).keeps (his x (List.mem_of_mem_eraseIdx hx)) ho hd sb, ?_⟩ sb)))
  · have e2 : es = (ys.map (entryOfKey (tagK prog w))).toArray := by rw [← he, Array.toArray_toList]
    rw [e2, List.eraseIdxIfInBounds_toArray]
    exact er_map
  · rw [← er_map]; exact nd.sublist (List.eraseIdx_sublist ..)
theorem pop_open {A : Around} {s : Shared} {E : Value → Shared → Prop} {ys : Ys} {b : Addr} {rest : List Value} {dv : Option Value} {R : Fin → Shared → Prop} {prog w} (hr : (rest = [] ∧ dv = none) ∨ ∃ x, rest = [x] ∧ dv = some x) (hu : A.units + 1 < cLine) (hkey : KAt s.heap t b) (hd : (a == sysModules) = false)
    (hm : s.heap.DictOfH (tagK prog w) a ys) (hz : ys.length ≤ sizeLine)
    (hn : ∀ x, (∀ (j : Nat) p, ys[j]? ≠ some (t, p)) → dv = some x → ∀ tk, R (.done (.ret x)) { s with toks := tk }) (hn' : dv = none → ∃ (j : Nat) (p : Addr × Value), ys[j]? = some (t, p))
    (hs : ∀ (j : Nat) p h', ys[j]? = some (t, p) → h'.DictOfH (tagK prog w) a (ys.eraseIdx j) → Heap.SameBut a s.heap h' → R (.done (.ret p.2)) { s with heap := h', toks := s.toks + 3 }) :
    wpAny (model prog w) A (Builtin.«dict.pop» ⟨.ref a :: .ref b :: rest, []⟩) R E s := by
  have none_ : ∀ tk, (∀ (j : Nat) p, ys[j]? ≠ some (t, p)) → wpAny (model prog w) A (match (none : Option DictEntry), dv with
        | some e, _ => (do letGo [e.key] [e.val]; ret e.val : Sem Fin)
        | none, some x => do rule "dict.pop.default"; ret x
        | none, none => do rule "dict.pop.keyerror"; raiseNew (← newExc (.type "KeyError") [.ref b])) R E { s with toks := tk } := fun tk h => by
    cases dv with
    | none => obtain ⟨j, p, e⟩ := hn' rfl; exact absurd e (h j p)
    | some x => exact wpAny_bind (wpAny_rule (wpAny_pure (hn x h rfl tk)))
  unfold Builtin.«dict.pop»
  refine wpAny_bind ?_
  unfold Builtin.Dict.keyAndDefault
  refine wpAny_bind (wpAny_notOrdered_dict hm.typeIs ?_)
  refine wpAny_of_eq (a := (a, Value.ref b, dv)) (by rcases hr with ⟨rfl, rfl⟩ | ⟨x, rfl, rfl⟩ <;> rfl) ?_
  obtain ⟨o, es, ep, ho, hc, hd', he, _⟩ := id hm
  show wpAny _ _ (dictEntries a >>= fun es => pure es.isEmpty >>= _) _ _ s
  refine wpAny_bind (wpAny_dictEntries ho hd' (wpAny_bind (wpAny_pure ?_)))
  cases hem : es.isEmpty with
  | true =>
    have no : ∀ (j : Nat) p, ys[j]? ≠ some (t, p) := fun j p e => by
      have := (List.getElem?_eq_some_iff.mp e).1
      rw [← size_of_entries he, Array.isEmpty_iff_size_eq_zero.mp hem] at this
      exact absurd this (Nat.not_lt_zero _)
    refine wpAny_bind (wpAny_rule (wpAny_bind (wpAny_pure ?_)))
    exact wpAny_bind (wpAny_missedRemoval_other hd (none_ s.toks no))
  | false =>
    refine wpAny_bind (takeOut_dict hu hkey hm hz (fun no => ?_) fun j p h' hj hm' sb => ?_)
    · exact wpAny_bind (wpAny_missedRemoval_other hd (none_ _ no))
    · exact wpAny_bind (wpAny_letGo (wpAny_pure (hs j p h' hj hm' sb)))
theorem PV.popGen {rest : List V} {r : V} {Q : V → MH → Prop} (hσ : σ a = some (.dict P)) (ht : KTag t) (hz : P.length ≤ 2 ^ 20) (hr : (rest = [] ∧ dfind P t = some r) ∨ ∃ d, rest = [d] ∧ r = (dfind P t).getD d) (h : Q r (upd σ a (.dict (ddel P t)))) :
    PV κ tcall (.bi "dict.pop" :: .ref a :: kv t :: rest) Q σ := fun A s δ l rs G F hv => by
  obtain ⟨rf, ra, hf, hv1⟩ := hv.cons_inv
  obtain ⟨rb, rc, hb, hv2⟩ := hv1.cons_inv
  obtain ⟨rk, rd, hk, hv3⟩ := hv2.cons_inv
  rw [hf.bi_inv, hb.ref_inv]
  obtain ⟨b, rfl⟩ := VRel.kv_inv hk
  obtain ⟨ys, D⟩ := F.sim.dict hσ
  have sz : ys.length ≤ sizeLine := by rw [D.yr.length, sizeLine_eq]; lia
  have at_ : ∀ {j : Nat} {p}, ys[j]? = some (t, p) → ∃ v, dfind P t = some v ∧ VRel s.heap v p.2 ∧ P.eraseIdx j = ddel P t := fun e => by
    obtain ⟨v, h1, h2⟩ := D.yr.at e
    exact ⟨v, dfind_at D.nd h1, h2, ddel_erase D.nd h1⟩
  -- the arguments, and what comes of it
  have fin : ∀ (dv : Option Value), ((rd = [] ∧ dv = none) ∨ ∃ x, rd = [x] ∧ dv = some x) → argsOk "dict.pop" ⟨.ref a :: .ref b :: rd, []⟩ → (∀ x, dfind P t = none → dv = some x → VRel s.heap r x) → (dv = none → dfind P t ≠ none) → (∀ v, dfind P t = some v → r = v) →
      wpAny (model κ.φ.g.prog κ.φ.g.w) A (call (.builtin "dict.pop") (.ref a :: .ref b :: rd)) (Ok VRel κ.φ σ δ s.heap (fun v l' σ' => l' = l ∧ Q v σ')) (FlX κ σ δ s.heap) s := fun dv hrd hok none_ no some_ => by
    refine wpAny_call_entry PySem.F.slot_dict_pop D.of.typeIs PySem.F.entry_dict_pop (pop_open hrd G.room ⟨ht, hk⟩ D.ns D.of sz (fun x ab e tk => ?_) (fun e => ?_) fun j p h' hj hm sb => ?_) hok
    · have e0 : dfind P t = none := by
        cases q : dfind P t with
        | none => rfl
        | some v =>
          obtain ⟨c, rv, q2, _⟩ := D.yr.find q
          obtain ⟨_, _, _, _, _, _, _, _, nd⟩ := D.of
          exact absurd q2 (by rw [atKey_none_of_get ab]; exact fun z => nomatch z)
      refine ⟨x, rfl, r, l, σ, δ, none_ x e0 e, F.tk tk, Ev.refl .., rfl, ?_⟩
      rw [ddel_of_none e0, upd_self hσ] at h
      exact h
    · by_cases q : ∃ (j : Nat) (p : Addr × Value), ys[j]? = some (t, p)
      · exact q
      · refine absurd ?_ (no e)
        cases q1 : dfind P t with
        | none => rfl
        | some v =>
          obtain ⟨c, rv, q2, _⟩ := D.yr.find q1
          exact absurd q2 (by rw [atKey_none_of_get fun j p e => q ⟨j, p, e⟩]; exact fun z => nomatch z)
    · obtain ⟨v, h1, h2, h3⟩ := at_ hj
      have fin := F.setD (tk := s.toks + 3) hσ D sb hm (ddel_nd D.nd) fun k => by rw [← h3]; exact (D.yr.mono k).erase j
      obtain ⟨o, es, ep, ho, _, hd, _⟩ := id D.of
      have nt : NoTup s.heap a := fun x e => by rw [ho] at e; cases e; exact notTup_dict hd
      exact ⟨_, rfl, v, l, _, δ, h2.mono ((But.of sb).tups nt), fin.1, fin.2, rfl, some_ v h1 ▸ h⟩
  rcases hr with ⟨e0, e⟩ | ⟨d, e0, e⟩ <;> subst e0
  · cases hv3.nil_inv
    exact fin none (.inl ⟨rfl, rfl⟩) (PySem.F.args_dict_pop_2 _ _) (fun q_ q_ z => nomatch z) (fun q_ z => by rw [z] at e; cases e) fun v q => by rw [e] at q; cases q; rfl
  · obtain ⟨x, e1, hx⟩ := hv3.one
    cases e1
    exact fin (some x) (.inr ⟨x, rfl, rfl⟩) (PySem.F.args_dict_pop_3 _ _ _) (fun y q z => by cases z; rw [q] at e; rw [e]; exact hx) (fun z => nomatch z) fun v q => by rw [q] at e; exact e
end
end Mn
set_option genInjectivity false
namespace Mn
open PySem.SeqAt

section
variable {κ : Cx} {l : Loc} {σ : MH} {δ : DM} {a : Addr} {P : Prs} {t : Tag}
theorem WE.dict0 {pos} {Q : V → Loc → MH → Prop} (h : ∀ a, σ a = none → Q (.ref a) l (upd σ a (.dict []))) : WE κ (.Dict [] [] pos) Q l σ := fun A s δ G F => by
  refine wpAny_Dict_empty ?_
  have big : s.heap.objs.size ≠ sysModules := by
    obtain ⟨o, es, ep, ho, _⟩ := F.top.g
    have lt : mainGlobals < s.heap.objs.size := Heap.lt_size ho
    exact fun z => by rw [z] at lt; exact absurd lt (by decide)
  have fin := F.new (tk := s.toks) (δ' := δ) (a := s.heap.objs.size) (o := .dict []) (h' := s.heap.push { cls := .type "dict", data := .dict #[] }) (fun b o e => Heap.get?_push_of_some _ e) (Nat.le_refl _)
    ⟨[], 0, Heap.get?_push_size _ rfl, .nil, List.nodup_nil, big⟩ (fun b x e => .inl e) (fun b x e => e)
  exact ⟨.ref s.heap.objs.size, l, _, δ, .ref _, fin.1, fin.2, h _ (F.sim.freshσ (Nat.le_refl _))⟩
structure BM (d : Bool) (x : Str) (id : String) : Prop where
  slot : PySem.Slot (bif d then "dict" else "list") x id
  ty : typeOf (.builtin id) = pure (.type "method_descriptor")
theorem WE.methB {d : Bool} {id : String} {o : PySem.Expr} {name apos args pos} {Q : V → Loc → MH → Prop} (B : BM d name id) (h : WE κ o (fun ov l1 σ1 => ∃ a, ov = .ref a ∧ (bif d then (∃ P, σ1 a = some (.dict P)) else ∃ xs, σ1 a = some (.list xs)) ∧ WArgs κ args (fun vs l2 σ2 => PV κ tcall (.bi id :: .ref a :: vs) (fun v σ3 => Q v l2 σ3) σ2) l1 σ1) l σ) {pl : Sem Bool}
    (he : eval (.Call (.Attribute o name apos) args [] pos) κ.φ.f.env = (do
      let ov ← eval o κ.φ.f.env
      standAt apos.atName
      let (f', first) ← holding [ov] (getMethod ov name pl)
      callWith pos f' first (backTo pos (starEach args κ.φ.f.env)) (backToKw pos (keywordEach [] κ.φ.f.env))))
    (hp : (starEach args κ.φ.f.env).all (fun x => !x.1) = true) : WE κ (.Call (.Attribute o name apos) args [] pos) Q l σ := fun A s δ G F => by
  rw [he]
  refine At.bind (h A s δ G F) fun ov ro l1 σ1 δ1 s1 hR F1 E1 q1 => At.standAt ?_
  obtain ⟨a, rfl, hσ, q1⟩ := q1
  rw [hR.ref_inv]
  have fin : ∀ {T : String} {o : Obj}, s1.heap.get? a = some o → o.cls = .type T → o.dict = none → PlainAttrs T → PySem.Slot T name id → At VRel κ A (do
      let (f', first) ← holding [.ref a] (getMethod (.ref a) name pl)
      callWith pos f' first (backTo pos (starEach args κ.φ.f.env)) (backToKw pos (keywordEach [] κ.φ.f.env))) Q σ1 δ1 s1 := fun {T o} ho hc hd pa sl => by
    refine wpAny_bind (wpAny_holding (getMethod_builtin ⟨o, ho, hc⟩ pa sl B.ty (fun b e => by cases e; exact ⟨o, ho, hd⟩) ?_))
    exact callWith_at (fv := .bi id) (first := [.ref a]) G F1 rfl (.bi _) (.cons (.ref a) .nil) q1 hp
  cases d with
  | true =>
    obtain ⟨P, hσ⟩ := hσ
    obtain ⟨ys, n, h1, _⟩ := F1.sim.rep _ _ hσ
    exact fin h1 rfl rfl PySem.F.plainAttrs_dict B.slot
  | false =>
    obtain ⟨xs, hσ⟩ := hσ
    obtain ⟨vs, n, h1, _⟩ := F1.sim.rep _ _ hσ
    exact fin h1 rfl rfl PySem.F.plainAttrs_list B.slot
theorem bm_append : BM false "append" "list.append" := ⟨PySem.F.slot_list_append, PySem.F.type_list_append⟩
theorem bm_count : BM false "count" "list.count" := ⟨PySem.F.slot_list_count, PySem.F.type_list_count⟩
theorem bm_pop : BM true "pop" "dict.pop" := ⟨PySem.F.slot_dict_pop, PySem.F.type_dict_pop⟩
theorem bm_get : BM true "get" "dict.get" := ⟨PySem.F.slot_dict_get, PySem.F.type_dict_get⟩
theorem bm_items : BM true "items" "dict.items" := ⟨PySem.F.slot_dict_items, PySem.F.type_dict_items⟩
structure KBM (x : Str) where
  d : Bool
  id : String
  ok : BM d x id
noncomputable def bmOf (x : Str) (n : Nat) : Option (KBM x) :=
  if h : x = "append" then some ⟨false, "list.append", h ▸ bm_append⟩
  else if h : x = "count" then some ⟨false, "list.count", h ▸ bm_count⟩
  else if h : x = "pop" then some ⟨true, "dict.pop", h ▸ bm_pop⟩
  else if h : x = "get" ∧ n = 2 then some ⟨true, "dict.get", h.1 ▸ bm_get⟩
  else if h : x = "items" then some ⟨true, "dict.items", h ▸ bm_items⟩
  else none
section
variable {Q : V → MH → Prop}
theorem PV.get2 {dv : V} (hσ : σ a = some (.dict P)) (ht : KTag t) (h : Q ((dfind P t).getD dv) σ) : PV κ tcall [.bi "dict.get", .ref a, kv t, dv] Q σ := fun A s δ l rs G F hv => by
  obtain ⟨rf, ra, hf, hv1⟩ := hv.cons_inv
  obtain ⟨rb, rc, hb, hv2⟩ := hv1.cons_inv
  obtain ⟨rk, rd, rfl, hk, hd⟩ := hv2.two
  rw [hf.bi_inv, hb.ref_inv]
  obtain ⟨b, rfl⟩ := VRel.kv_inv hk
  obtain ⟨ys, D⟩ := F.sim.dict hσ
  refine call_meetsIn PySem.F.slot_dict_get D.of.typeIs PySem.F.entry_dict_get (PySem.F.args_dict_get_3 _ _ _) (meetsH_dict_get_default (tagK _ _) a b D.ns rd) ⟨G.room, t, ys, ⟨ht, hk⟩, D.of, ?_⟩
  cases e : dfind P t with
  | none => rw [D.yr.none e]; rw [e] at h; exact Ok.tok F hd ⟨rfl, h⟩
  | some v =>
    obtain ⟨c, rv, e2, hv⟩ := D.yr.find e
    rw [e2]; rw [e] at h
    exact Ok.tok F hv ⟨rfl, h⟩
end
end
end Mn
set_option genInjectivity false
namespace Mn
open PySem.SeqAt
inductive LotAt (σ : MH) (q : Str) : Option Value → Prop
  | no : LotAt σ q none
  | at_ (c : Addr) (oc : Obj) (vs : Array Value) (t : Tok) (h1 : σ c = some (.raw oc)) (h2 : oc.data = .fields vs) (h3 : vs[1]? = some (.str q t)) : LotAt σ q (some (.ref c))
inductive Lot (σ : MH) (P : Addr) (q : Str) : Prop
  | mk (ps : Array Value) (h1 : σ P = some (.lot ps)) (h2 : TriplesOk ps.toList) (h3 : ∀ pos, LotAt σ q (codeAmong pos ps.toList))
theorem ne_of_some {σ : MH} {a b : Addr} {x : O} (e : σ b = some x) (n : σ a = none) : b ≠ a := fun z => by rw [z, n] at e; cases e
theorem LotAt.keep {σ σ' : MH} {q v} (x : LotAt σ q v) (k : ∀ b r, σ b = some (.raw r) → σ' b = some (.raw r)) : LotAt σ' q v := by
  cases x with
  | no => exact .no
  | at_ c oc vs t h1 h2 h3 => exact .at_ c oc vs t (k _ _ h1) h2 h3
theorem Lot.keep {σ σ' : MH} {P q} (x : Lot σ P q) (k : ∀ b r, σ b = some (.raw r) → σ' b = some (.raw r)) (kp : ∀ ps, σ P = some (.lot ps) → σ' P = some (.lot ps)) : Lot σ' P q := by
  obtain ⟨ps, h1, h2, h3⟩ := x
  exact ⟨ps, kp _ h1, h2, fun pos => (h3 pos).keep k⟩
set_option tactic.hygienic true in
theorem codeAmong_app {pos' : Pos} {a b c : Value} (l : List Value) (h : TriplesOk l) (hn : codeAmong pos' l = none) : codeAmong pos' (l ++ [a, b, c]) = codeAmong pos' [a, b, c] := by
  fun_induction TriplesOk l with
  | case1 => rfl
  | case2 x t y u z rest ih =>
    simp only [List.cons_append, codeAmong] at hn ⊢
    split at hn
    · cases hn
    · rename_i hc; rw [if_neg hc]; exact ih h hn
  | case3 l h1 h2 => exact h.elim
set_option tactic.hygienic true in
theorem codeAmong_old {pos' : Pos} {a b c x : Value} (l : List Value) (h : TriplesOk l) (hn : codeAmong pos' l = some x) : codeAmong pos' (l ++ [a, b, c]) = some x := by
  fun_induction TriplesOk l with
  | case1 => cases hn
  | case2 x t y u z rest ih =>
    simp only [List.cons_append, codeAmong] at hn ⊢
    split at hn
    · rename_i hc; rw [if_pos hc]; exact hn
    · rename_i hc; rw [if_neg hc]; exact ih h hn
  | case3 l h1 h2 => exact h.elim
section
variable {κ : Cx} {φ : Fx} {l : Loc} {σ σ' : MH} {δ δ' : DM} {s : Shared} {h h' : Heap} {a : Addr} {o : Obj}
theorem FS.addRaw (F : FS φ l σ δ s) (e : s.heap.get? a = some o) (nt : ¬ IsTup o) (nd : ¬ Dom σ δ a) (nf : a ∉ φ.f.fa) (nl : ¬ Fl φ.fl a) : FS φ l (upd σ a (.raw o)) δ s := by
  have dom : ∀ b, b ≠ a → Dom (upd σ a (.raw o)) δ b → Dom σ δ b := fun b n q => by
    cases q with
    | obj x e => exact .obj x ((upd_ne _ _ n).symm.trans e)
    | dict x e => exact .dict x e
  have own : ∀ b, Own (upd σ a (.raw o)) δ b → Own σ δ b := fun b q => by
    cases q with
    | inst C fs e => exact upd_cases e (fun q_ w => nomatch w) fun q_ e => .inst C fs e
    | list x e => exact upd_cases e (fun q_ w => nomatch w) fun q_ e => .list x e
    | map x e => exact upd_cases e (fun q_ w => nomatch w) fun q_ e => .map x e
    | lot x e => exact upd_cases e (fun q_ w => nomatch w) fun q_ e => .lot x e
    | dict x e => exact .dict x e
  refine ⟨⟨F.sim.keep, fun b x e' => upd_cases e' (fun z w => by subst z w; exact ⟨e, nt⟩) fun q_ e' => F.sim.rep b x e', fun b q => F.sim.new b (own b q), fun d b e' => ?_⟩, F.envOk, F.loc, fun b hb => ?_, ⟨fun env he => ?_⟩, F.gens, F.os⟩
  · obtain ⟨⟨C, fs, q⟩, q2, q3⟩ := F.sim.aux d b e'
    refine ⟨⟨C, fs, (upd_ne _ _ fun z => nd (by rw [← z]; exact .obj _ q)).trans q⟩, (upd_ne _ _ fun z => nd (by rw [← z]; exact .dict _ e')).trans q2, q3⟩
  · obtain ⟨h1, h2, h3⟩ := F.fa b hb
    exact ⟨h1, fun q => h2 (dom b (fun z => nf (z ▸ hb)) q), h3⟩
  · obtain ⟨kk, L, x, es, n, h1, h2, h3, h4, h5, h6, h7⟩ := F.fr.all env he
    exact ⟨kk, L, x, es, n, h1, h2, fun q => h3 (dom L (fun z => nl (z ▸ List.mem_filterMap.mpr ⟨env, he, h1⟩)) q), h4, h5, h6, h7⟩
theorem Evo.addRaw {fl : List Env} {fa : List Addr} {σ0 : MH} {δ0 : DM} {h0 : Heap} (E : Evo fl fa σ0 δ0 h0 σ δ h) (n : h0.get? a = none) : Evo fl fa σ0 δ0 h0 (upd σ a (.raw o)) δ h := by
  refine ⟨E.slots, E.keep, fun b q => E.own b ?_, fun b q => ?_, E.live⟩
  · cases q with
    | inst C fs e => exact upd_cases e (fun q_ w => nomatch w) fun q_ e => .inst C fs e
    | list x e => exact upd_cases e (fun q_ w => nomatch w) fun q_ e => .list x e
    | map x e => exact upd_cases e (fun q_ w => nomatch w) fun q_ e => .map x e
    | lot x e => exact upd_cases e (fun q_ w => nomatch w) fun q_ e => .lot x e
    | dict x e => exact .dict x e
  · cases q with
    | obj x e => exact upd_cases e (fun z q_ => .inr (z ▸ n)) fun q_ e => E.dom b (.obj x e)
    | dict x e => exact E.dom b (.dict x e)
theorem FS.newRaw {s0 : Shared} {σ0 : MH} {δ0 : DM} (F0 : FS φ l σ0 δ0 s0) (F : FS φ l σ δ s) (E : Ev φ σ0 δ0 s0.heap σ δ s.heap) (hz : s0.heap.objs.size ≤ a) (e : s.heap.get? a = some o) (nt : ¬ IsTup o) (nd : σ a = none) (ndd : δ = δ0) :
    FS φ l (upd σ a (.raw o)) δ s ∧ Ev φ σ0 δ0 s0.heap (upd σ a (.raw o)) δ s.heap := by
  have e0 := fresh_get hz
  refine ⟨F.addRaw e nt (fun q => ?_) (fun z => ?_) fun z => ?_, E.addRaw e0⟩
  · cases q with
    | obj x e => exact some_not_none e nd
    | dict x e => subst ndd; exact some_not_none e (F0.sim.freshδ hz)
  · obtain ⟨_, _, x, h3, _⟩ := F0.fa a z
    exact some_not_none h3 e0
  · obtain ⟨_, _, x, es, n, h3, _⟩ := F0.fr.at z
    exact some_not_none h3 e0
noncomputable def noArgs : Arguments := ⟨[], [], none, [], [], none, []⟩
noncomputable abbrev lamObj (q : Str) (body : PySem.Expr) (scope : Scope) (clos : List (Str × Addr)) (pm : Value) (c' : Addr) (ctv : Value) : Obj := kla_obj "<lambda>" q noArgs body scope clos pm c' ctv
inductive CloAt (σ : MH) (a : Addr) (q : Str) (body : PySem.Expr) (scope : Scope) (clos : List (Str × Addr)) : Prop
  | mk (pm : Value) (c' : Addr) (ctv : Value) (oc : Obj) (vs : Array Value) (t : Tok) (h1 : σ a = some (.raw (lamObj q body scope clos pm c' ctv))) (h2 : σ c' = some (.raw oc)) (h3 : oc.data = .fields vs) (h4 : vs[1]? = some (.str q t))
theorem CloAt.keep {q body scope clos} (x : CloAt σ a q body scope clos) (k : ∀ b r, σ b = some (.raw r) → σ' b = some (.raw r)) : CloAt σ' a q body scope clos := by
  obtain ⟨pm, c', ctv, oc, vs, t, h1, h2, h3, h4⟩ := x
  exact ⟨pm, c', ctv, oc, vs, t, k _ _ h1, k _ _ h2, h3, h4⟩
structure LamSt (σ σ' : MH) (P a : Addr) (q : Str) (body : PySem.Expr) (scope : Scope) (clos : List (Str × Addr)) : Prop where
  lot : Lot σ' P q
  clo : CloAt σ' a q body scope clos
  keep : ∀ b x, b ≠ P → σ b = some x → σ' b = some x
  new : ∀ b x, σ b = none → σ' b = some x → ∃ r, x = .raw r
theorem notTup_fields {o : Obj} {vs} (h : o.data = .fields vs) : ¬ IsTup o := fun ⟨_, vs, k, e⟩ => by rw [h] at e; cases e
set_option tactic.hygienic true in
theorem WE.lam {body : PySem.Expr} {scope : Scope} {pos : Pos} {Q : V → Loc → MH → Prop} {c P : Addr} {q : Str} (hcd : κ.φ.f.env.code = .ref c) (hC : CodeHd κ.φ.g.base c P) (ok : CompOk κ.φ.f scope)
    (hq : κ.φ.f.env.qual ++ "<lambda>" = q) (lt : Lot σ P q) (h : ∀ a σ', LamSt σ σ' P a q body scope (clOf κ.φ.f.env scope.names) → Q (.ref a) l σ') : WE κ (.Lambda noArgs body scope pos) Q l σ := fun A s δ G F => by
  obtain ⟨ps, hP, htr, hall⟩ := lt
  have hPh : s.heap.get? P = some (tabObj ps) := F.sim.rep _ _ hP
  have nb : κ.φ.g.base.get? P = none := F.sim.new P (.lot _ hP)
  have hg := κ.φ.g.top.g.keeps F.sim.keep
  have hgP : mainGlobals ≠ P := fun z => by
    obtain ⟨o, es, ep, e, _⟩ := κ.φ.g.top.g
    rw [z, nb] at e; cases e
  obtain ⟨bm, ob, b1, b2, b3, b4, b5, b6⟩ := κ.φ.g.bmain
  have hb : s.heap.BuiltinsAt κ.φ.g.mg P := ⟨bm, ob, b1, b2, (fun z => by
    obtain ⟨o, es, ep, e, hd, _⟩ := κ.φ.g.top.g
    rw [z, e] at b3; cases b3; rw [hd] at b6; cases b6), fun z => (by rw [z, nb] at b3; cases b3), F.sim.keep _ _ b3, b4, b5, b6⟩
  have hC := hC.keeps F.sim.keep
  refine kla_eval rfl ?_
  rw [hq]
  cases hca : codeAmong pos ps.toList with
  | none =>
    refine kla_makeFunction ok.clos F.envOk.globals hg hcd hC hPh htr hca hgP hb fun c' ctv h' tk hx hge hlt hrec htb => ?_
    obtain ⟨c2, oc, vs, t, e2, hoc, hd, hv⟩ := hrec
    cases e2
    have w := F.write (tk := tk) (h' := h'.push (lamObj q body scope (clOf κ.φ.f.env scope.names) ((κ.φ.g.mg "__name__").getD .none) c' ctv)) (o' := .lot (ps ++ #[rawInt pos.line, rawInt pos.col, .ref c']))
      (fun b o e n => Heap.get?_push_of_some _ (hx b o n e)) ⟨_, Heap.get?_push_of_some _ htb⟩ hP (.lot rfl _ _) (Heap.get?_push_of_some _ htb)
    have zP : P < s.heap.objs.size := Heap.lt_size hPh
    have hz' : s.heap.objs.size ≤ h'.objs.size := Nat.le_trans hge (Nat.le_of_lt hlt)
    have nc : c' ≠ P := fun z => by rw [z] at hge; exact absurd zP (Nat.not_lt.mpr hge)
    have na : h'.objs.size ≠ P := fun z => by rw [z] at hz'; exact absurd zP (Nat.not_lt.mpr hz')
    have nac : h'.objs.size ≠ c' := Nat.ne_of_gt hlt
    have w1 := F.newRaw w.1 w.2 (a := c') (o := oc) hge (Heap.get?_push_of_some _ hoc) (notTup_fields hd) ((upd_ne _ _ nc).trans (F.sim.freshσ hge)) rfl
    have w2 := F.newRaw w1.1 w1.2 (a := h'.objs.size) (o := lamObj q body scope (clOf κ.φ.f.env scope.names) ((κ.φ.g.mg "__name__").getD .none) c' ctv) hz' (Heap.get?_push_size _ rfl) (notTup_cls (type_ne (by decide))) ((upd_ne _ _ nac).trans ((upd_ne _ _ na).trans (F.sim.freshσ hz'))) rfl
    refine ⟨.ref h'.objs.size, l, _, δ, .ref _, w2.1, w2.2, h _ _ ⟨?_, ?_, fun b x n e => ?_, fun b x n e => ?_⟩⟩
    · refine ⟨_, (upd_ne _ _ (Ne.symm na)).trans ((upd_ne _ _ (Ne.symm nc)).trans (upd_same ..)), ?_, fun pos' => ?_⟩
      · show TriplesOk (ps ++ #[rawInt pos.line, rawInt pos.col, .ref c']).toList
        rw [Array.toList_append]; exact TriplesOk_snoc _ _ _ _ htr
      · show LotAt _ _ (codeAmong pos' (ps ++ #[rawInt pos.line, rawInt pos.col, .ref c']).toList)
        rw [Array.toList_append]
        cases ho : codeAmong pos' ps.toList with
        | none =>
          show LotAt _ _ (codeAmong pos' (ps.toList ++ [rawInt pos.line, rawInt pos.col, .ref c']))
          rw [codeAmong_app _ htr ho]
          show LotAt _ _ (if _ then some (Value.ref c') else none)
          split
          · exact .at_ c' oc vs t ((upd_ne _ _ (Ne.symm nac)).trans (upd_same ..)) hd hv
          · exact .no
        | some x =>
          show LotAt _ _ (codeAmong pos' (ps.toList ++ [rawInt pos.line, rawInt pos.col, .ref c']))
          rw [codeAmong_old _ htr ho]
          have := hall pos'
          rw [ho] at this
          exact this.keep fun b r e => (upd_ne _ _ (ne_of_some e (F.sim.freshσ hz'))).trans ((upd_ne _ _ (ne_of_some e (F.sim.freshσ hge))).trans ((upd_ne _ _ fun z => by rw [z, hP] at e; cases e).trans e))
    · exact ⟨_, c', ctv, oc, vs, t, upd_same .., (upd_ne _ _ (Ne.symm nac)).trans (upd_same ..), hd, hv⟩
    · exact (upd_ne _ _ (ne_of_some e (F.sim.freshσ hz'))).trans ((upd_ne _ _ (ne_of_some e (F.sim.freshσ hge))).trans ((upd_ne _ _ n).trans e))
    · exact upd_cases e (fun _ w => ⟨_, w.symm⟩) fun _ e => upd_cases e (fun _ w => ⟨_, w.symm⟩) fun _ e => upd_cases e (fun z _ => by rw [z, hP] at n; cases n) fun _ e => by rw [n] at e; cases e
  | some cv =>
    have hl := hall pos
    rw [hca] at hl
    cases hl with
    | at_ _ oc vs t h1 h2 h3 =>
    rename_i c'
    refine kla_makeFunctionHit ok.clos F.envOk.globals hg hcd hC hPh htr hca hb fun ctv h' tk hk hsz => ?_
    have w := F.grow (tk := tk) (h' := h'.push (lamObj q body scope (clOf κ.φ.f.env scope.names) ((κ.φ.g.mg "__name__").getD .none) c' ctv)) (fun b o e => Heap.get?_push_of_some _ (hk b o e))
    have w2 := F.newRaw w.1 w.2 (a := h'.objs.size) (o := lamObj q body scope (clOf κ.φ.f.env scope.names) ((κ.φ.g.mg "__name__").getD .none) c' ctv) hsz (Heap.get?_push_size _ rfl) (notTup_cls (type_ne (by decide))) (F.sim.freshσ hsz) rfl
    have old : ∀ b x, σ b = some x → upd σ h'.objs.size (.raw (lamObj q body scope (clOf κ.φ.f.env scope.names) ((κ.φ.g.mg "__name__").getD .none) c' ctv)) b = some x := fun b x e => (upd_ne _ _ (ne_of_some e (F.sim.freshσ hsz))).trans e
    exact ⟨.ref h'.objs.size, l, _, δ, .ref _, w2.1, w2.2, h _ _ ⟨⟨ps, old _ _ hP, htr, fun pos' => (hall pos').keep fun b r e => old _ _ e⟩, ⟨_, c', ctv, oc, vs, t, upd_same .., old _ _ h1, h2, h3⟩, fun b x _ e => old b x e, fun b x n e => upd_cases e (fun _ w => ⟨_, w.symm⟩) fun _ e => by rw [n] at e; cases e⟩⟩
end
section
noncomputable def plainV : V → Bool
  | .tup _ => false
  | _ => true
theorem plain_rel {v : V} {rv : Value} {h h' : Heap} (p : plainV v = true) (r : VRel h v rv) : VRel h' v rv := by
  cases r with
  | tup' => cases p
  | _ => constructor
inductive CapAt (σ : MH) (scope : Scope) (clos : List (Str × Addr)) (x : Str) (v : V) : Prop
  | mk (c : Addr) (rv : Value) (oc : Obj) (h1 : clos.lookup x = some c) (h2 : scope.names.lookup x = some .free) (h3 : σ c = some (.raw oc)) (h4 : oc.data = .cell (some rv)) (h5 : ∀ h, VRel h v rv)
inductive LamF (q : Str) (scope : Scope) (f : Frm) : Prop
  | mk (L a : Addr) (cd : Value) (clos : List (Str × Addr)) (h : f = ⟨envX q scope L a cd clos, [L]⟩)
variable {g : G} {fl : List Env} {σ : MH} {δ : DM} {d : Nat} {K : V → MH → Prop} {X : MH → Prop} {l : Loc} {a : Addr} {q : Str} {body : PySem.Expr} {scope : Scope} {clos : List (Str × Addr)}
theorem NewFr.expr {A : Around} {s : Shared} {h0 : Heap} {f : Frm} {L : Addr} {tk : Nat} (N : NewFr g s h0 f L l) (C : CS g fl σ δ s) (G : Good0 (d + 1) A fl) (h : WE ⟨⟨g, f.env :: fl, f⟩, d, X⟩ body (fun v q_ σ' => K v σ') l σ) :
    wpAny (model g.prog g.w) (A.deeper f.env) (eval body f.env) (fun v s' => CRes g fl σ δ s.heap K X (.ok (.ret v)) s')
      (fun e s' => wpAny (model g.prog g.w) (A.deeper f.env) (leaving f.env e) (fun q_ s'' => CRes g fl σ δ s.heap K X (.error e) s'') (fun e' s'' => CRes g fl σ δ s.heap K X (.error e') s'') s') { s with heap := h0, toks := tk } :=
  wpAny_mono (h (A.deeper _) _ δ (G.deeper _) (N.fs C)) (fun rv s' ⟨v, l', σ', δ', hR, F', E', q⟩ => ⟨v, σ', δ', hR, ⟨F'.sim, ⟨fun e he => F'.fr.all e (.tail _ he)⟩, F'.gens, F'.os⟩, N.evo E', q⟩) (fun e s' x => leave_flies G.frames N x)
theorem CloAt.call (C : CloAt σ a q body scope clos) (hk : scope.kind = .function) (hco : scope.isCoroutine = false) (hgen : scope.isGenerator = false) (hcell : ∀ x ∈ scope.names, x.2 ≠ .cell)
    (hl : ∀ x v, l x = some v → CapAt σ scope clos x v) (h : ∀ f fl, LamF q scope f → WE ⟨⟨g, f.env :: fl, f⟩, d, X⟩ body (fun v q_ σ' => K v σ') l σ) : WCall g (d + 1) a [] K X σ := fun A fl s δ ra G cs hv => by
  cases hv
  obtain ⟨pm, c', ctv, oc, vs, t, h1, h2, h3, h4⟩ := C
  have ho := (cs.sim.rep _ _ h1).1
  refine kla_callFunE (by have := G.depth; show A.depth < 1000; lia) ho rfl hco hgen rfl ⟨c', oc, vs, t, rfl, (cs.sim.rep _ _ h2).1, h3, h4⟩ ?_
  show wpAny _ _ (pure []) _ _ _
  refine wpAny_pure (wpAny_newFunctionEnv hcell (fun x hx => nomatch hx) (fun h0 hns hsb => ⟨(g.top.nolimit.keeps cs.sim.keep).fresh _ hsb, ?_⟩) hk)
  have hk0 : ∀ b o, s.heap.get? b = some o → h0.get? b = some o := fun b o e => hsb.extBut b o (Nat.ne_of_lt (Heap.lt_size e)) (Heap.get?_push_of_some _ e)
  obtain ⟨oL, es, ep, e1, e2, e3⟩ := id hns
  refine kla_codeExpr (NewFr.expr (f := ⟨envX q scope s.heap.objs.size a (.ref c') clos, [s.heap.objs.size]⟩) (L := s.heap.objs.size) (l := l)
    ⟨hk0, ⟨hk, rfl, rfl, .head _⟩, ⟨_, hns, fun x v e => ?_, fun x c e => absurd rfl (hcell _ (mem_of_lookup e))⟩, fun b hb => ?_, rfl, .head _, ⟨_, hns⟩⟩ cs G (h _ _ ⟨_, _, _, _, rfl⟩))
  · obtain ⟨c, rv, oc, q1, q2, q3, q4, q5⟩ := hl x v e
    exact .cell (.inr q2) c rv q1 ⟨oc, hk0 _ _ (cs.sim.rep _ _ q3).1, q4⟩ (q5 _)
  · rw [List.mem_singleton.mp hb]; exact ⟨Nat.le_refl _, oL, e1, notTup_dict e2⟩
end
section
structure LotF (φ : Fx) (c P : Addr) (q : Str) : Prop where
  code : φ.f.env.code = .ref c
  hd : CodeHd φ.g.base c P
  qual : φ.f.env.qual ++ "<lambda>" = q
  own : CellsOwn φ.f
variable {κ : Cx} {l : Loc} {σ : MH} {δ : DM} {s : Shared}
inductive CellAt (h : Heap) (b : Addr) : Prop
  | mk (o : Obj) (v : Option Value) (h1 : h.get? b = some o) (h2 : o.data = .cell v)
noncomputable def expo (σ : MH) (h : Heap) (cs : List Addr) : MH := fun b => open Classical in if b ∈ cs then (h.get? b).map .raw else σ b
noncomputable def hidec (σ : MH) (cs : List Addr) : MH := fun b => open Classical in if b ∈ cs then none else σ b
theorem hidec_some {cs : List Addr} {b : Addr} {x : O} (e : hidec σ cs b = some x) : b ∉ cs ∧ σ b = some x := by
  unfold hidec at e
  split at e
  · cases e
  · exact ⟨by assumption, e⟩
theorem expo_in {h : Heap} {cs : List Addr} {b : Addr} {o : Obj} (hb : b ∈ cs) (e : h.get? b = some o) : expo σ h cs b = some (.raw o) := by unfold expo; rw [if_pos hb, e]; rfl
theorem expo_out {h : Heap} {cs : List Addr} {b : Addr} (hb : b ∉ cs) : expo σ h cs b = σ b := by unfold expo; rw [if_neg hb]
theorem PVl.expose {d : Nat} {fn : Addr} {args : List V} {cs : List Addr} {Q : V → Loc → MH → Prop} (hc : ∀ s δ, FS κ.φ l σ δ s → ∀ b ∈ cs, b ∈ κ.φ.f.fa ∧ CellAt s.heap b) (hd : d ≤ κ.d)
    (h : ∀ h0 : Heap, (∀ s δ, FS κ.φ l σ δ s → s.heap = h0 → WCall κ.φ.g d fn args (fun v σ' => Q v l (hidec σ' cs)) noX (expo σ h0 cs))) : PVl κ tcall (.ref fn :: args) Q l σ := fun A s δ rs G F hv => by
  obtain ⟨rf, ra, hf, hvs⟩ := hv.cons_inv
  rw [hf.ref_inv]
  have at_ := hc s δ F
  have nd : ∀ b ∈ cs, ¬ Dom σ δ b := fun b hb => (F.fa b (at_ b hb).1).dom
  have nfl : ∀ b ∈ cs, ¬ Fl κ.φ.fl b := fun b hb z => by
    obtain ⟨o, v, h1, h2⟩ := (at_ b hb).2
    obtain ⟨_, _, o', es, n, q1, q2, _⟩ := F.fr.at z
    rw [h1] at q1; cases q1; rw [h2] at q2; cases q2
  have own2 : ∀ b, Own (expo σ s.heap cs) δ b → Own σ δ b ∧ (b ∈ cs → δ b ≠ none) := fun b q => by
    have go : ∀ {x : O}, expo σ s.heap cs b = some x → (∀ r, x ≠ .raw r) → σ b = some x ∧ b ∉ cs := fun e nr => by
      by_cases hb : b ∈ cs
      · obtain ⟨o, v, h1, _⟩ := (at_ b hb).2
        rw [expo_in hb h1] at e; cases e; exact absurd rfl (nr o)
      · rw [expo_out hb] at e; exact ⟨e, hb⟩
    cases q with
    | inst C fs e => have := go e (fun r z => nomatch z); exact ⟨.inst C fs this.1, fun z => absurd z this.2⟩
    | list x e => have := go e (fun r z => nomatch z); exact ⟨.list x this.1, fun z => absurd z this.2⟩
    | map x e => have := go e (fun r z => nomatch z); exact ⟨.map x this.1, fun z => absurd z this.2⟩
    | lot x e => have := go e (fun r z => nomatch z); exact ⟨.lot x this.1, fun z => absurd z this.2⟩
    | dict x e => exact ⟨.dict x e, fun q_ z => by rw [e] at z; cases z⟩
  have dom2 : ∀ b, b ∉ cs → Dom (expo σ s.heap cs) δ b → Dom σ δ b := fun b hb q => by
    cases q with
    | obj x e => rw [expo_out hb] at e; exact .obj x e
    | dict x e => exact .dict x e
  have C2 : CS κ.φ.g κ.φ.fl (expo σ s.heap cs) δ s := by
    refine ⟨⟨F.sim.keep, fun b x e => ?_, fun b q => F.sim.new b (own2 b q).1, fun dd b e => ?_⟩, ⟨fun env he => ?_⟩, F.gens, F.os⟩
    · by_cases hb : b ∈ cs
      · obtain ⟨o, v, h1, h2⟩ := (at_ b hb).2
        rw [expo_in hb h1] at e; cases e; exact ⟨h1, notTup_cell h2⟩
      · rw [expo_out hb] at e; exact F.sim.rep b x e
    · obtain ⟨⟨C, fs, q⟩, q2, q3⟩ := F.sim.aux dd b e
      exact ⟨⟨C, fs, (expo_out fun z => nd b z (.obj _ q)).trans q⟩, (expo_out fun z => nd dd z (.dict _ e)).trans q2, q3⟩
    · obtain ⟨kk, L, x, es, n, h1, h2, h3, h4, h5, h6, h7⟩ := F.fr.all env he
      have hL : Fl κ.φ.fl L := List.mem_filterMap.mpr ⟨env, he, h1⟩
      exact ⟨kk, L, x, es, n, h1, h2, fun q => h3 (dom2 L (fun z => nfl L z hL) q), h4, h5, h6, h7⟩
  refine wpAny_call (codeAny_mono (h s.heap s δ F rfl A κ.φ.fl s δ ra (G.le hd) C2 hvs) fun r s' z => ?_)
  cases r with
  | error e => exact Flies.no z
  | ok w =>
    cases w with
    | ret rv =>
      obtain ⟨v, σ', δ', h1, C, E, h4⟩ := z
      have cell' : ∀ b ∈ cs, CellAt s'.heap b := fun b hb => by
        obtain ⟨o, v, q1, q2⟩ := (at_ b hb).2
        exact ⟨o, v, E.keep b o q1 (fun z => nd b hb (own2 b z).1.dom) (fun z => nomatch z) (nfl b hb), q2⟩
      have out : ∀ b, Own σ' δ' b → b ∉ cs := fun b q hb => by
        obtain ⟨o, v, q1, q2⟩ := cell' b hb
        obtain ⟨o', w1, _, w3⟩ := C.sim.ownAt q
        rw [q1] at w1; cases w1; exact w3 _ q2
      have own3 : ∀ b, Own (hidec σ' cs) δ' b → Own σ' δ' b := fun b q => by
        cases q with
        | inst C fs e => exact .inst C fs (hidec_some e).2
        | list x e => exact .list x (hidec_some e).2
        | map x e => exact .map x (hidec_some e).2
        | lot x e => exact .lot x (hidec_some e).2
        | dict x e => exact .dict x e
      have hid : ∀ b, b ∉ cs → hidec σ' cs b = σ' b := fun b hb => by unfold hidec; rw [if_neg hb]
      have dom3 : ∀ b, Dom (hidec σ' cs) δ' b → Dom σ' δ' b ∧ b ∉ cs := fun b q => by
        cases q with
        | obj x e => exact ⟨.obj x (hidec_some e).2, (hidec_some e).1⟩
        | dict x e => exact ⟨.dict x e, out b (.dict x e)⟩
      have C3 : CS κ.φ.g κ.φ.fl (hidec σ' cs) δ' s' := by
        refine ⟨⟨C.sim.keep, fun b x e => C.sim.rep b x (hidec_some e).2, fun b q => C.sim.new b (own3 b q), fun dd b e => ?_⟩, ⟨fun env he => ?_⟩, C.gens, C.os⟩
        · obtain ⟨⟨C', fs, q⟩, q2, q3⟩ := C.sim.aux dd b e
          exact ⟨⟨C', fs, (hid b (out b (.inst C' fs q))).trans q⟩, (hid dd (out dd (.dict b e))).trans q2, q3⟩
        · obtain ⟨kk, L, x, es, n, h1, h2, h3, r⟩ := C.fr.all env he
          exact ⟨kk, L, x, es, n, h1, h2, fun q => h3 (dom3 L q).1, by assumption, by assumption, by assumption, by assumption⟩
      have E3 : Evo κ.φ.fl [] σ δ s.heap (hidec σ' cs) δ' s'.heap := by
        refine ⟨fun b o e n => E.slots b o e fun z => n (own2 b z).1, fun b o e n => E.keep b o e fun z => n (own2 b z).1, fun b q => (E.own b (own3 b q)).imp_left fun z => (own2 b z).1, fun b q => ?_, E.live⟩
        obtain ⟨q1, q2⟩ := dom3 b q
        exact (E.dom b q1).imp_left (dom2 b q2)
      exact ⟨v, l, _, δ', h1, F.after C3 E3, E3.weak (fun q_ h => nomatch h), h4⟩
    | _ => exact z.elim
end
structure LamIn (g : G) (σ σ2 : MH) (P : Addr) (q : Str) (a : Addr) (body : PySem.Expr) (scope : Scope) (l : Loc) (Xc : Addr → Prop) : Prop where
  lot : Lot σ2 P q
  keep : ∀ b x, b ≠ P → σ b = some x → σ2 b = some x
  cell : ∀ b, Xc b → σ b = none ∧ X2 fun r v => σ2 b = some (.raw r) ∧ r.data = .cell v
  new : ∀ b x, σ b = none → σ2 b = some x → ∃ r, x = .raw r
  fn : X2 fun o fd => σ2 a = some (.raw o) ∧ o.data = .func fd
  call : ∀ {σ' : MH} {d : Nat} {X : MH → Prop} {K : V → MH → Prop}, (∀ b r, σ2 b = some (.raw r) → σ' b = some (.raw r)) → (∀ f fl, LamF q scope f → WE ⟨⟨g, f.env :: fl, f⟩, d, X⟩ body (fun v q_ σ' => K v σ') l σ') → WCall g (d + 1) a [] K X σ'
section
variable {κ : Cx} {l : Loc} {σ : MH}
set_option tactic.hygienic true in
theorem WE.lamcall {d : Nat} {fe body : PySem.Expr} {scope : Scope} {pos cpos : Pos} {fn c P : Addr} {q : Str} {Q : V → Loc → MH → Prop} (hd : d ≤ κ.d) (lf : LotF κ.φ c P q) (ok : CompOk κ.φ.f scope) (hco : scope.isCoroutine = false) (hgen : scope.isGenerator = false)
    (hf : WE κ fe (fun fv l1 σ1 => A4 (fv = .ref fn) (keepV κ.φ.g.K (.ref fn) = true) (l1 = l) (σ1 = σ)) l σ) (lt : Lot σ P q)
    (hv : ∀ x, (x, NameKind.free) ∈ scope.names → κ.φ.f.env.kindOf x = some .cell ∧ ∃ v, l x = some v ∧ plainV v = true)
    (h : ∀ a σ2 Xc, LamIn κ.φ.g σ σ2 P q a body scope (compLoc scope l) Xc → WCall κ.φ.g d fn [.ref a] (fun v σ' => ∀ σ'', (∀ b, Xc b → σ'' b = none) → (∀ b, ¬ Xc b → σ'' b = σ' b) → Q v l σ'') noX σ2)
    (he : eval (.Call fe [.Lambda noArgs body scope pos] [] cpos) κ.φ.f.env = (do callWith cpos (← eval fe κ.φ.f.env) [] (backTo cpos (starEach [.Lambda noArgs body scope pos] κ.φ.f.env)) []))
    (hs : starEach [.Lambda noArgs body scope pos] κ.φ.f.env = [(false, eval (.Lambda noArgs body scope pos) κ.φ.f.env)]) : WE κ (.Call fe [.Lambda noArgs body scope pos] [] cpos) Q l σ := by
  refine WE.callL (hf.mono fun fv l1 σ1 q => ?_) he (by rw [hs]; rfl)
  obtain ⟨rfl, kv, rfl, rfl⟩ := q
  refine WArgs.cons (WE.lam lf.code lf.hd ok lf.qual lt fun a σ1 st => WArgs.nil ⟨.inl kv, ?_⟩) hs
  generalize hcs : (scope.names.filter fun x => x.2 == .free).filterMap (fun x => κ.φ.f.env.cells.lookup x.1) = cs
  have mem : ∀ b, b ∈ cs ↔ ∃ x, (x, NameKind.free) ∈ scope.names ∧ κ.φ.f.env.cells.lookup x = some b := fun b => by
    rw [← hcs, List.mem_filterMap]
    constructor
    · rintro ⟨⟨x, k⟩, h1, h2⟩
      obtain ⟨h3, h4⟩ := List.mem_filter.mp h1
      have : k = .free := by cases k <;> first | rfl | cases h4
      exact ⟨x, this ▸ h3, h2⟩
    · rintro ⟨x, h1, h2⟩
      exact ⟨(x, .free), List.mem_filter.mpr ⟨h1, rfl⟩, h2⟩
  have slot : ∀ s δ, FS κ.φ l1 σ1 δ s → ∀ x, (x, NameKind.free) ∈ scope.names → ∃ b rv v, A5 (κ.φ.f.env.cells.lookup x = some b) (s.heap.IsCell b (some rv)) (l1 x = some v) (∀ h, VRel h v rv) (b ∈ κ.φ.f.fa) := fun s δ F x hx => by
    obtain ⟨hk, v, hl, hp⟩ := hv x hx
    obtain ⟨m, _, hlo, _⟩ := F.loc
    cases hlo x v hl with
    | loc hk' => rw [hk] at hk'; cases hk'
    | cell _ b rv h1 h2 h3 =>
      obtain ⟨b', w1, w2, _⟩ := lf.own x hk
      rw [h1] at w1; cases w1
      exact ⟨b, rv, v, h1, h2, hl, fun h => plain_rel hp h3, w2⟩
  have hc : ∀ s δ, FS κ.φ l1 σ1 δ s → ∀ b ∈ cs, b ∈ κ.φ.f.fa ∧ CellAt s.heap b := fun s δ F b hb => by
    obtain ⟨x, h1, h2⟩ := (mem b).mp hb
    obtain ⟨b', rv, v, w1, ⟨o, w2, w3⟩, _, _, w5⟩ := slot s δ F x h1
    rw [h2] at w1; cases w1
    exact ⟨w5, o, _, w2, w3⟩
  refine PVl.expose hc hd fun h0 s δ F hh => ?_
  subst hh
  have nd : ∀ b ∈ cs, σ1 b = none := fun b hb => isNone_of fun x e => (F.fa b (hc s δ F b hb).1).dom (.obj x e)
  have out : ∀ b x, σ1 b = some x → expo σ1 s.heap cs b = some x := fun b x e => (expo_out fun z => by rw [nd b z] at e; cases e).trans e
  obtain ⟨ps, hP, _⟩ := lt
  refine (h a (expo σ1 s.heap cs) (· ∈ cs) ⟨st.lot.keep (fun b r e => out b _ e) fun ps e => out P _ e, fun b x n e => out b x (st.keep b x n e), fun b hb => ⟨isNone_of fun x e => ?_, ?_⟩, fun b x n e => ?_, ?_, fun {σ' d' X K} kr hw => ?_⟩).mono (fun v σ' k => k _ (fun b hb => by unfold hidec; rw [if_pos hb]) fun b hb => by unfold hidec; rw [if_neg hb]) fun _ x => x
  · by_cases z : b = P
    · obtain ⟨ps', h1, _⟩ := st.lot
      rw [← z, nd b hb] at h1; cases h1
    · have := st.keep b x z e; rw [nd b hb] at this; cases this
  · obtain ⟨o, v, h1, h2⟩ := (hc s δ F b hb).2
    exact ⟨o, v, expo_in hb h1, h2⟩
  · by_cases hb : b ∈ cs
    · obtain ⟨o, v, h1, _⟩ := (hc s δ F b hb).2
      rw [expo_in hb h1] at e; cases e; exact ⟨o, rfl⟩
    · rw [expo_out hb] at e; exact st.new b x n e
  · obtain ⟨_, _, _, _, _, _, h1, _⟩ := st.clo
    exact ⟨_, _, out a _ h1, rfl⟩
  · refine (st.clo.keep fun b r e => kr b r (out b _ e)).call ok.kind hco hgen ok.cell (fun x v hx => ?_) hw
    unfold compLoc at hx
    split at hx
    · rename_i hf
      obtain ⟨b, rv, v', w1, ⟨o, w2, w3⟩, w4, w5, _⟩ := slot s δ F x hf
      rw [w4] at hx; cases hx
      have fo := ok.free _ hf rfl
      refine ⟨b, rv, o, ?_, fo.look, kr b o (expo_in ((mem b).mpr ⟨x, hf, w1⟩) w2), w3, w5⟩
      have := clOf_some (env := κ.φ.f.env) scope.names [] (.inl hf)
      rw [w1] at this; exact this
    · cases hx
end
end Mn
set_option genInjectivity false
namespace Mn
open PySem.SeqAt

noncomputable abbrev iitO (f : Value) (b : Bool) (d : Addr) (i n ep : Nat) (x y : Value) : Obj := { cls := .type "dict_itemiterator", data := .fields #[f, .bool b, .ref d, .int i 0, .int n 0, .int ep 0, x, y] }
noncomputable abbrev pairO (e : DictEntry) : Obj := { cls := .type "tuple", data := .seq #[e.key, e.val] }
inductive OwnT (h : Heap) (it S : Addr) : Value → Prop
  | no : OwnT h it S .none
  | at_ (a : Addr) (o : Obj) (h1 : h.get? a = some o) (h2 : a ≠ it) (h3 : a ≠ S) : OwnT h it S (rawInt a)
inductive IItr (h : Heap) (it d S : Addr) (i : Nat) (es : Array DictEntry) (ep : Nat) : Prop
  | mk (f : Value) (b : Bool) (x y : Value) (h1 : h.get? it = some (iitO f b d i es.size ep x y)) (h2 : OwnT h it S f) (h3 : DObj h d es ep)
section
variable {prog : Program} {w : World} {A : Around} {E : Value → Shared → Prop} {s : Shared} {d it S : Addr} {es : Array DictEntry} {ep i : Nat}
theorem IItr.keep {h h' : Heap} (I : IItr h it d S i es ep) (k : ∀ b o, b ≠ S → h.get? b = some o → h'.get? b = some o) (n1 : it ≠ S) (n2 : d ≠ S) : IItr h' it d S i es ep := by
  obtain ⟨f, b, x, y, h1, h2, h3⟩ := I
  refine ⟨f, b, x, y, k _ _ n1 h1, ?_, ⟨k _ _ n2 h3.at_⟩⟩
  cases h2 with
  | no => exact .no
  | at_ a o e m1 m2 => exact .at_ a o (k _ _ m2 e) m1 m2
theorem owned_free {f : Value} {b : Bool} {n : Nat} {x y : Value} {Q : Bool → Shared → Prop} (hit : s.heap.get? it = some (iitO f b d i n ep x y)) (hk : OwnT s.heap it S f)
    (h1 : f = .none → Q true s) (h2 : ∀ h', h'.get? it = some (iitO f true d i n ep x y) → Heap.SameBut it s.heap h' → OwnT s.heap it S f → Q false { s with heap := h' }) :
    wpAny (model prog w) A (Builtin.Dict_items.ownedTupleIsFree (.ref it)) Q E s := by
  unfold Builtin.Dict_items.ownedTupleIsFree
  refine wpAny_bind (wpAny_field hit rfl (x := f) rfl ?_)
  cases hk with
  | no => exact wpAny_pure (h1 rfl)
  | at_ a o e m1 m2 =>
    have hk' : OwnT s.heap it S (rawInt a) := .at_ a o e m1 m2
    show wpAny _ _ (loadIfAlive ((a : Int).toNat) >>= _) _ _ _
    rw [Int.toNat_natCast]
    refine wpAny_bind (kdx_alive e ?_)
    refine wpAny_bind (wpAny_field hit rfl (x := .bool b) rfl ?_)
    cases b with
    | true =>
      rw [if_neg (show ¬ ((Value.bool true != Value.bool true) = true) from Bool.false_ne_true)]
      exact wpAny_pure (h2 s.heap hit (Heap.SameBut.refl _ _) hk')
    | false =>
      rw [if_pos (show (Value.bool false != Value.bool true) = true from rfl)]
      exact wpAny_bind (wpAny_setField_rec hit (Nat.le_of_ble_eq_true rfl) fun h₃ he₃ hs₃ => wpAny_pure (h2 h₃ he₃ hs₃ hk'))
theorem next_item {Q : Option Value → Shared → Prop} (hh : A.handled = none) (I : IItr s.heap it d S i es ep) (hne : d ≠ it) (hS : S < s.heap.objs.size)
    (hs : ∀ e h', es[i]? = some e → IItr h' it d S (i + 1) es ep → h'.get? s.heap.objs.size = some (pairO e) → (∀ b o, b ≠ it → s.heap.get? b = some o → h'.get? b = some o) → Q (some (.ref s.heap.objs.size)) { s with heap := h' })
    (hn : es[i]? = none → ∀ h', Heap.ExtBut it s.heap h' → Q none { s with heap := h' }) : wpAny (model prog w) A (pyNext (.ref it)) Q E s := by
  obtain ⟨f, b, x, y, hit, hk, D⟩ := I
  have T : s.TypeIs (.ref it) "dict_itemiterator" := ⟨_, hit, rfl⟩
  unfold pyNext
  refine wpAny_bind (wpAny_attempt (wpAny_callSpecial?_slot (name := Str.ofString "__next__") T PySem.F.slot_dict_itemiterator_next (wpAny_call_entry PySem.F.slot_dict_itemiterator_next T PySem.F.entry_dict_itemiterator_next ?_ (PySem.F.args_dict_itemiterator_next_1 _))))
  refine wpAny_bind (wpAny_pure (wpAny_bind (wpAny_bind (wpAny_bind (wpAny_typeNameOfWhole_itemiter T (wpAny_pure ?_))))))
  refine wpAny_bind (wpAny_fieldsOf hit rfl ?_)
  have hown : Builtin.Dict_items.ownsTuple "dict_itemiterator" = true := by decide
  rw [hown]
  show wpAny _ _ (if (Value.ref d == Value.none) = true then _ else _) _ _ s
  rw [if_neg (show ¬ ((Value.ref d == Value.none) = true) from Bool.false_ne_true)]
  refine wpAny_bind (wpAny_pure (wpAny_bind (wpAny_dictEntries D.at_ rfl ?_)))
  rw [if_neg (fun z => (bne_iff_ne.mp z) rfl)]
  refine wpAny_bind (wpAny_pure (wpAny_bind (wpAny_dictEpoch D.at_ rfl ?_)))
  rw [if_neg (fun z => (bne_iff_ne.mp z) rfl)]
  refine wpAny_pure ?_
  dsimp only
  rw [if_neg (show ¬ ((i : Int) < 0) from Int.not_lt.mpr (Int.natCast_nonneg i)), Int.toNat_natCast]
  cases he : es[i]? with
  | some e =>
    refine wpAny_bind (wpAny_bind (wpAny_typeNameOfWhole_itemiter T (wpAny_pure ?_)))
    refine wpAny_bind (wpAny_isOneOf_itemiter T ?_)
    show wpAny _ _ (setField (.ref it) 3 (rawInt ((i : Int) + 1)) >>= _) _ _ s
    refine wpAny_bind (wpAny_setField_rec hit (Nat.le_of_ble_eq_true rfl) fun h₁ he₁ hs₁ => ?_)
    replace he₁ : h₁.get? it = some (iitO f b d (i + 1) es.size ep x y) := he₁
    have T₁ : Shared.TypeIs { s with heap := h₁ } (.ref it) "dict_itemiterator" := ⟨_, he₁, rfl⟩
    refine wpAny_bind (wpAny_holding ?_)
    refine wpAny_bind (wpAny_isOneOf_itemiter T₁ ?_)
    refine wpAny_bind (wpAny_isOneOf_itemiter T₁ ?_)
    show wpAny _ _ (Builtin.Dict_items.pairFromOwner (.ref it) 6 e.key e.val) _ _ { s with heap := h₁ }
    unfold Builtin.Dict_items.pairFromOwner
    refine wpAny_bind (wpAny_newTuple ?_)
    have z₁ : h₁.objs.size = s.heap.objs.size := hs₁.1
    have he₂ := Heap.get?_push_of_some (pairO e) he₁
    have ht₂ : (h₁.push (pairO e)).get? s.heap.objs.size = some (pairO e) := by rw [← z₁]; exact Heap.get?_push_size _ rfl
    have hk₂ : ∀ c o, c ≠ it → s.heap.get? c = some o → (h₁.push (pairO e)).get? c = some o := fun c o n q => Heap.get?_push_of_some _ (hs₁.extBut c o n q)
    have nit : s.heap.objs.size ≠ it := Nat.ne_of_gt (Heap.lt_size hit)
    have kp : OwnT (h₁.push (pairO e)) it S f := by
      cases hk with
      | no => exact .no
      | at_ a o q m1 m2 => exact .at_ a o (hk₂ _ _ m1 q) m1 m2
    show wpAny _ _ (Builtin.Dict_items.ownedTupleIsFree (.ref it) >>= _) _ _ { s with heap := h₁.push (pairO e) }
    rw [z₁]
    generalize h₁.push (pairO e) = h₂ at he₂ ht₂ hk₂ kp
    refine wpAny_bind (owned_free (S := S) he₂ kp (fun q_ => ?_) fun h₃ he₃ hs₃ kp' => ?_)
    · refine wpAny_bind (wpAny_field he₂ rfl (x := x) rfl ?_)
      refine wpAny_bind (wpAny_field he₂ rfl (x := y) rfl ?_)
      refine wpAny_bind (wpAny_setField_rec he₂ (Nat.le_of_ble_eq_true rfl) fun h₃ he₃ hs₃ => ?_)
      refine wpAny_bind (wpAny_setField_rec he₃ (Nat.le_of_ble_eq_true rfl) fun h₄ he₄ hs₄ => ?_)
      refine wpAny_bind (wpAny_setField_rec he₄ (Nat.le_of_ble_eq_true rfl) fun h₅ he₅ hs₅ => ?_)
      refine wpAny_bind (wpAny_setField_rec he₅ (Nat.le_of_ble_eq_true rfl) fun h₆ he₆ hs₆ => ?_)
      have k : ∀ c o, c ≠ it → h₂.get? c = some o → h₆.get? c = some o := fun c o n q => hs₆.extBut c o n (hs₅.extBut c o n (hs₄.extBut c o n (hs₃.extBut c o n q)))
      have t6 := k _ _ nit ht₂
      exact wpAny_bind (wpAny_letGo (wpAny_pure (wpAny_pure ⟨_, rfl, wpAny_pure (hs e h₆ he ⟨rawInt s.heap.objs.size, false, e.key, e.val, he₆, .at_ _ _ t6 nit (Nat.ne_of_gt hS), ⟨k _ _ hne (hk₂ _ _ hne D.at_)⟩⟩ t6 fun c o n q => k c o n (hk₂ c o n q))⟩)))
    · have k : ∀ c o, c ≠ it → h₂.get? c = some o → h₃.get? c = some o := fun c o n q => hs₃.extBut c o n q
      refine wpAny_pure (wpAny_pure ⟨_, rfl, wpAny_pure (hs e h₃ he ⟨f, true, x, y, he₃, ?_, ⟨k _ _ hne (hk₂ _ _ hne D.at_)⟩⟩ (k _ _ nit ht₂) fun c o n q => k c o n (hk₂ c o n q))⟩)
      cases kp' with
      | no => exact .no
      | at_ a o q m1 m2 => exact .at_ a o (k _ _ m1 q) m1 m2
  | none =>
    refine wpAny_bind (wpAny_bind (wpAny_typeNameOfWhole_itemiter T (wpAny_pure ?_)))
    refine wpAny_bind (wpAny_setField hit rfl (Nat.le_of_ble_eq_true rfl) ?_)
    show wpAny _ _ (newExc (.type "StopIteration") [] >>= _) _ _ _
    refine wpAny_bind ?_
    simp only [newExc, newTuple]
    refine wpAny_bind (wpAny_newObj_type ?_)
    refine wpAny_bind (m := firstArgMember _ _) (wpAny_of_eq (a := Value.none) (by first | rfl | (simp only [firstArgMember]; rfl)) ?_)
    refine wpAny_newObj_type ?_
    refine wpAny_raiseNew_none (show A.in1.handled = none from hh) ?_
    refine wpAny_bind (wpAny_isInstance (T := "StopIteration") (b := true) ⟨_, Heap.get?_push_size _ rfl, rfl⟩ isSubtype_stop (wpAny_pure ?_))
    exact hn he _ (((Heap.SameBut.update ..).extBut.push _).push _)
end
noncomputable abbrev viewO (d : Addr) : Obj := { cls := .type "dict_items", data := .fields #[.ref d] }
inductive GotAt (es : Array DictEntry) (lo : Addr) (h : Heap) (j : Nat) (v : Value) : Prop
  | mk (a : Addr) (e : DictEntry) (h1 : v = .ref a) (h2 : es[j]? = some e) (h3 : lo < a) (h4 : h.get? a = some (pairO e))
structure Got (es : Array DictEntry) (lo : Addr) (h : Heap) (i : Nat) (acc : Array Value) : Prop where
  size : acc.size = i
  at_ : ∀ j v, acc[j]? = some v → GotAt es lo h j v
theorem GotAt.keep {es : Array DictEntry} {lo : Addr} {h h' : Heap} {j : Nat} {v : Value} (x : GotAt es lo h j v) (k : ∀ b o, lo < b → h.get? b = some o → h'.get? b = some o) : GotAt es lo h' j v := by
  obtain ⟨a, e, h1, h2, h3, h4⟩ := x; exact ⟨a, e, h1, h2, h3, k _ _ h3 h4⟩
set_option tactic.hygienic true in
theorem Got.push {es : Array DictEntry} {lo : Addr} {h h' : Heap} {i : Nat} {acc : Array Value} {v : Value} (g : Got es lo h i acc) (k : ∀ b o, lo < b → h.get? b = some o → h'.get? b = some o) (hv : GotAt es lo h' i v) : Got es lo h' (i + 1) (acc.push v) := by
  refine ⟨by rw [Array.size_push, g.size], fun j x hj => ?_⟩
  rw [Array.getElem?_push, g.size] at hj
  split at hj
  · rename_i e; cases hj; exact e ▸ hv
  · exact (g.at_ j x hj).keep k
section
variable {prog : Program} {w : World} {A : Around} {E : Value → Shared → Prop} {s : Shared} {d r I S : Addr} {es : Array DictEntry} {ep i : Nat}
theorem items_meets (d : Addr) (hd : (d == sysModules) = false) : MeetsIn prog w (Builtin.«dict.items» ⟨[.ref d], []⟩) (fun q_ R s => s.TypeIs (.ref d) "dict" ∧ R (.ok (.ret (.ref s.heap.objs.size))) { s with heap := s.heap.push (viewO d) }) :=
  .of_wp fun A R s ⟨T, h⟩ => by
    refine wpAny_bind ?_
    unfold Builtin.Dict.noArgs
    refine wpAny_bind (wpAny_notOrdered_dict T ?_)
    show wpAny _ _ (pure d) _ _ s
    refine wpAny_pure ?_
    show wpAny _ _ (Builtin.Dict.showsAll d >>= _) _ _ s
    unfold Builtin.Dict.showsAll
    rw [hd]
    exact wpAny_bind (wpAny_pure (wpAny_bind (wpAny_newObj_type (wpAny_pure ⟨_, rfl, h⟩))))
theorem iter_items {Q : Value → Shared → Prop} (hv : s.heap.get? r = some (viewO d)) (D : DObj s.heap d es ep) (h : Q (.ref s.heap.objs.size) { s with heap := s.heap.push (iitO .none false d 0 es.size ep .none .none) }) : wpAny (model prog w) A (pyIter (.ref r)) Q E s := by
  have T : s.TypeIs (.ref r) "dict_items" := ⟨_, hv, rfl⟩
  refine wpAny_pyIter_slot T PySem.F.slot_dict_items_iter (wpAny_call_entry PySem.F.slot_dict_items_iter T PySem.F.entry_dict_items_iter ?_ (PySem.F.args_dict_items_iter_1 _))
  unfold Builtin.«dict_items.__iter__»
  refine wpAny_bind (wpAny_pure ?_)
  refine wpAny_bind ?_
  unfold Builtin.Dict_items.dictOf
  refine wpAny_bind (wpAny_field hv rfl (x := .ref d) rfl (wpAny_pure ?_))
  refine wpAny_bind ?_
  unfold Builtin.Dict_items.newIterator
  refine wpAny_bind (wpAny_dictEntries D.at_ rfl ?_)
  refine wpAny_bind (wpAny_dictEpoch D.at_ rfl ?_)
  have hown : Builtin.Dict_items.ownsTuple "dict_itemiterator" = true := by decide
  simp only [hown, if_true]
  refine wpAny_newObj_type (wpAny_pure ⟨_, rfl, "dict_itemiterator", _, ⟨_, Heap.get?_push_size _ rfl, rfl⟩, PySem.F.slot_dict_itemiterator_next.lookup, h⟩) ?_
  simp only [sizeOk, Builtin.Dict_items.ownedTupleFields, List.size_toArray, List.length_append, List.length_cons, List.length_nil, sizeLine_eq]; omega
theorem items_loop {R : Result → Shared → Prop} (hh : A.handled = none) (hSI : S < I) (hSd : d ≠ S) (hId : d ≠ I) (hn : es.size ≤ sizeLine) (res : Value) {h₁ : Heap}
    (hR : ∀ h' tk acc c, (∀ b o, b ≠ S → b ≠ I → h₁.get? b = some o → h'.get? b = some o) → h'.get? S = some { cls := .type "list", data := .seq acc c } → Got es I h' es.size acc → R (.ok (.ret res)) { s with heap := h', toks := tk }) :
    ∀ (k i : Nat) (h : Heap) (tk c : Nat) (acc : Array Value), i + k = es.size → IItr h I d S i es ep → (∀ b o, b ≠ S → b ≠ I → h₁.get? b = some o → h.get? b = some o) →
      h.get? S = some { cls := .type "list", data := .seq acc c } → Got es I h i acc → I < h.objs.size →
      codeAny (model prog w) A (.builtin "list.extend.loop" ⟨[.ref S, .ref I, res], []⟩) R { s with heap := h, toks := tk } := by
  have hne : S ≠ I := Nat.ne_of_lt hSI
  intro k
  induction k with
  | zero =>
    intro i h tk c acc hk hit hkeep hS G hIs
    refine codeAny_builtin PySem.F.entry_extend_loop ?_
    rw [Around.under_plainId PySem.F.plain_extend_loop _]
    show wpAny _ A.in1 (pyNext (.ref I) >>= _) _ _ _
    have e0 : i = es.size := hk
    refine wpAny_bind (next_item (s := { s with heap := h, toks := tk }) (A := A.in1) hh hit hId (Heap.lt_size hS) (fun e h' he => absurd (Array.getElem?_eq_some_iff.mp he).1 (by rw [e0]; exact Nat.lt_irrefl _)) fun q_ h' eb => ?_)
    exact wpAny_pure (hR h' tk acc c (fun b o h1 h2 q => eb b o h2 (hkeep b o h1 h2 q)) (eb S _ hne hS) ⟨G.size.trans e0, fun j v hj => (G.at_ j v hj).keep fun b o hb q => eb b o (Nat.ne_of_gt hb) q⟩)
  | succ k ih =>
    intro i h tk c acc hk hit hkeep hS G hIs
    refine codeAny_builtin PySem.F.entry_extend_loop ?_
    rw [Around.under_plainId PySem.F.plain_extend_loop _]
    show wpAny _ A.in1 (pyNext (.ref I) >>= _) _ _ _
    have hlt : i < es.size := hk ▸ Nat.lt_add_of_pos_right (Nat.succ_pos k)
    refine wpAny_bind (next_item (s := { s with heap := h, toks := tk }) (A := A.in1) hh hit hId (Heap.lt_size hS) (fun e h' he hit' ht hkp => ?_) fun z => absurd (Array.getElem?_eq_none_iff.mp z) (Nat.not_le.mpr hlt))
    dsimp only at ht hkp ⊢
    have hS' := hkp S _ hne hS
    have up : ∀ b o, b ≠ S → h'.get? b = some o → (h'.update S (Obj.mapSeq (·.push (Value.ref h.objs.size)))).get? b = some o := fun b o hb q => (Heap.get?_update_other _ _ (Ne.symm hb)).trans q
    have hSl : S < h.objs.size := Heap.lt_size hS
    have t2 := up _ _ (Nat.ne_of_gt hSl) ht
    show wpAny _ A.in1 (updateSeq S (·.push (Value.ref h.objs.size)) >>= _) _ _ _
    refine wpAny_bind ?_
    refine wpAny_updateSeq hS' rfl (wpAny_pure ⟨plainId_quiet PySem.F.plain_extend_loop _, ih (i + 1) _ tk _ (acc.push (Value.ref h.objs.size)) (by rw [← hk]; exact Nat.add_right_comm i 1 k ▸ rfl) (hit'.keep up (Ne.symm hne) hSd)
      (fun b o h1 h2 q => up b o h1 (hkp b o h2 (hkeep b o h1 h2 q))) (Heap.get?_update_self _ hS' rfl) (G.push (fun b o hb q => up b o (Nat.ne_of_gt (Nat.lt_trans hSI hb)) (hkp b o (Nat.ne_of_gt hb) q)) ⟨_, e, rfl, he, hIs, t2⟩) (Nat.lt_trans hIs (Heap.lt_size t2))⟩) (by rw [G.size]; omega) (by show (acc.push (Value.ref h.objs.size)).size ≤ sizeLine + 1; rw [Array.size_push, G.size]; omega)
theorem items_extend {R : Result → Shared → Prop} (hh : A.handled = none) (hv : s.heap.get? r = some (viewO d)) (D : DObj s.heap d es ep) (hSr : S ≠ r) (hSd : d ≠ S) (res : Value) (c₀ : Nat) (hS : s.heap.get? S = some { cls := .type "list", data := .seq #[] c₀ })
    (hR : ∀ h' tk acc c, (∀ b o, b ≠ S → s.heap.get? b = some o → h'.get? b = some o) → h'.get? S = some { cls := .type "list", data := .seq acc c } → Got es s.heap.objs.size h' es.size acc → R (.ok (.ret res)) { s with heap := h', toks := tk }) (hn : es.size ≤ sizeLine) :
    wpAny (model prog w) A.in1 (Builtin.List.listExtendWith (.ref S) (.ref r) res)
      (fun fin s' => match fin with | .done f => R (.ok f) s' | .again c' => c'.quiet = true ∧ codeAny (model prog w) A c' R s') (fun e s' => R (.error e) s') s := by
  have hSI : S < s.heap.objs.size := Heap.lt_size hS
  have hdI : d < s.heap.objs.size := Heap.lt_size D.at_
  have key : ∀ (h : Heap) (c₁ tk : Nat), (∀ b o, b ≠ S → (s.heap.push (iitO .none false d 0 es.size ep .none .none)).get? b = some o → h.get? b = some o) →
      h.get? S = some { cls := .type "list", data := .seq #[] c₁ } → codeAny (model prog w) A (.builtin "list.extend.loop" ⟨[.ref S, .ref s.heap.objs.size, res], []⟩) R { s with heap := h, toks := tk } := by
    intro h c₁ tk hk hS₁
    have hI := hk s.heap.objs.size _ (Nat.ne_of_gt hSI) (Heap.get?_push_size _ rfl)
    exact items_loop (h₁ := s.heap) hh hSI hSd (Nat.ne_of_lt hdI) hn res (fun h' tk' acc c hk' hS' G => hR h' tk' acc c (fun b o hb e => hk' b o hb (Nat.ne_of_lt (Heap.lt_size e)) e) hS' G)
      es.size 0 h tk c₁ #[] (Nat.zero_add _) ⟨_, _, _, _, hI, .no, ⟨hk d _ hSd (Heap.get?_push_of_some _ D.at_)⟩⟩ (fun b o hb q_ e => hk b o hb (Heap.get?_push_of_some _ e)) hS₁ ⟨rfl, fun j v hj => by cases hj⟩ (Heap.lt_size hI)
  unfold Builtin.List.listExtendWith
  refine wpAny_bind (wpAny_typeOf (T := "dict_items") ⟨_, hv, rfl⟩ ?_)
  have h1 : Builtin.List.listSameRef (.ref S) (.ref r) = false := by simp [Builtin.List.listSameRef, hSr]
  have h2 : (Value.type "dict_items" == Value.type "list") = false := by decide
  have h3 : (Value.type "dict_items" == Value.type "tuple") = false := by decide
  simp only [h1, h2, h3, Bool.or_false, Bool.false_eq_true, if_false]
  refine wpAny_bind (iter_items hv D ?_)
  have hS₁ := Heap.get?_push_of_some (iitO .none false d 0 es.size ep .none .none) hS
  refine wpAny_bind (wpAny_holding (kdx_hint ⟨_, Heap.get?_push_of_some _ hv, rfl⟩ ?_))
  refine wpAny_ite_split (fun q_ => ?_) (fun q_ => wpAny_pure ⟨plainId_quiet PySem.F.plain_extend_loop _, key _ c₀ _ (fun b o q_ e => e) hS₁⟩)
  refine wpAny_bind (wpAny_rule ?_)
  refine wpAny_bind ?_
  show wpAny _ _ (updateSeq S (·.push .none) >>= fun q_ => updateSeq S (·.pop)) _ _ _
  refine wpAny_bind (wpAny_updateSeq hS₁ rfl ?_)
  have hS₂ := Heap.get?_update_self (Obj.mapSeq (·.push Value.none)) hS₁ rfl
  refine wpAny_updateSeq (hz := by seq_fits) hS₂ rfl ?_
  have hS₃ := Heap.get?_update_self (Obj.mapSeq (·.pop)) hS₂ rfl
  exact wpAny_pure ⟨plainId_quiet PySem.F.plain_extend_loop _, key _ _ _ (fun b o hb e => (Heap.get?_update_other _ _ (Ne.symm hb)).trans ((Heap.get?_update_other _ _ (Ne.symm hb)).trans e)) hS₃⟩
theorem items_call {Q : Value → Shared → Prop} (hh : A.handled = none) (hv : s.heap.get? r = some (viewO d)) (D : DObj s.heap d es ep) (hn : es.size ≤ sizeLine)
    (hQ : ∀ h' tk acc c, (∀ b o, s.heap.get? b = some o → h'.get? b = some o) → h'.get? s.heap.objs.size = some { cls := .type "list", data := .seq acc c } → Got es s.heap.objs.size h' es.size acc → Q (.ref s.heap.objs.size) { s with heap := h', toks := tk }) :
    wpAny (model prog w) A (call (.type "list") [.ref r]) Q E s := by
  refine callType_codes (Q₁ := fun obj s₁ => obj = .ref s.heap.objs.size ∧ s₁ = { s with heap := s.heap.push { cls := .type "list", data := .seq #[] } }) PySem.F.called_list (PySem.F.typeCall_list_1 _) PySem.F.entry_list_init
    (code_list_new _ ⟨rfl, rfl⟩) fun obj s₁ h₁ => ?_
  obtain ⟨rfl, rfl⟩ := h₁
  have hS : (s.heap.push { cls := .type "list", data := .seq #[] }).get? s.heap.objs.size = some { cls := .type "list", data := .seq #[] } := Heap.get?_push_size _ rfl
  have hr : r < s.heap.objs.size := Heap.lt_size hv
  have hd : d < s.heap.objs.size := Heap.lt_size D.at_
  refine ⟨⟨_, hS, rfl⟩, PySem.F.args_list_init_2 _ _, ?_⟩
  show wpAny _ _ (do let old ← Builtin.List.listItems (.ref s.heap.objs.size); Builtin.List.listUpdate (.ref s.heap.objs.size) (fun q_ => #[]); letGo old.toList.reverse; Builtin.List.listExtendWith (.ref s.heap.objs.size) (.ref r) .none) _ _ _
  refine wpAny_bind ?_
  unfold Builtin.List.listItems
  refine wpAny_bind (wpAny_seqItems hS rfl (wpAny_pure ?_))
  refine wpAny_bind ?_
  show wpAny _ _ (updateSeq s.heap.objs.size (fun q_ => #[])) _ _ _
  refine wpAny_updateSeq hS rfl ?_
  have hS₂ := Heap.get?_update_self (Obj.mapSeq (fun q_ => (#[] : Array Value))) hS rfl
  have oth : ∀ b o, b ≠ s.heap.objs.size → s.heap.get? b = some o → ((s.heap.push { cls := .type "list", data := .seq #[] }).update s.heap.objs.size (Obj.mapSeq (fun q_ => (#[] : Array Value)))).get? b = some o :=
    fun b o hb e => (Heap.get?_update_other _ _ (Ne.symm hb)).trans (Heap.get?_push_of_some _ e)
  refine wpAny_bind (wpAny_letGo ?_)
  refine items_extend (A := A.in1) hh (oth _ _ (Nat.ne_of_lt hr) hv) ⟨oth _ _ (Nat.ne_of_lt hd) D.at_⟩ (Nat.ne_of_gt hr) (Nat.ne_of_lt hd) .none _ hS₂ (fun h' tk acc c hk hS' G => ?_) hn
  exact ⟨rfl, hQ h' tk acc c (fun b o e => hk b o (Nat.ne_of_lt (Heap.lt_size e)) (oth _ _ (Nat.ne_of_lt (Heap.lt_size e)) e)) hS' ⟨G.size, fun j v hj => by obtain ⟨a, e, h1, h2, h3, h4⟩ := G.at_ j v hj; exact ⟨a, e, h1, h2, Nat.lt_trans (Heap.lt_size hS₂) h3, h4⟩⟩⟩
end
end Mn
set_option genInjectivity false
namespace Mn
open PySem.SeqAt

theorem miss_keys : typeLookup (.type "list") (Str.ofString "keys") = pure none := by rw [typeLookup_type, builtinLookup_eq_fast]; kernel_rfl
theorem keys_miss {prog : Program} {w : World} {A : Around} {E : Value → Shared → Prop} {s : Shared} {a : Addr} {xs : Array Value} {k : Nat} {Q : Option Value → Shared → Prop} (hx : s.heap.get? a = some { cls := .type "list", data := .seq xs k }) (hA : A.handled = none)
    (h : ∀ h' tk, (∀ b o, s.heap.get? b = some o → h'.get? b = some o) → Q none { s with heap := h', toks := tk }) : wpAny (model prog w) A (getAttr? (.ref a) "keys") Q E s := by
  obtain ⟨hp, g, d, tk, os⟩ := s
  have hT : ∀ tk', (⟨hp, g, d, tk', os⟩ : Shared).TypeIs (.ref a) "list" := fun q_ => ⟨_, hx, rfl⟩
  have f1 := sub_AttributeError
  have f3 := PySem.F.slot_list_getattribute.lookup
  have f4 := PySem.F.slot_list_getattribute.bind (.ref a)
  have f5 := am_list_getattr_none
  have hmiss := miss_keys
  unfold getAttr? getAttrBy? getAttrBy
  repeat (any_goals (first | assumption | exact hT _ | ((with_reducible show wpAny _ _ (call (Value.builtin "list.__getattribute__") _ _) _ _ _); refine call_meets PySem.F.slot_list_getattribute (hT _) am_entry_list_getattribute (PySem.F.args_list_getattribute_2 _ _) (meets_getattribute_miss_list a xs k #[] _ _ hmiss (by decide) (by size_fits)) ⟨hx, hA, fun h' tk' e hx' => ?_⟩) | wp_step))
  obtain ⟨t', u', he⟩ := hx'.there
  show wpAny _ _ (getattributeRaised _ _ _ _ _ _ _) _ _ _
  unfold getattributeRaised
  repeat (any_goals (first | assumption | wp_step))
  exact h _ _ hx'.keeps
theorem entry_update_loop : entryFor table "dict.update.loop" = some Builtin.«dict.update.loop» := entryFor_of_tree (by kernel_rfl)
theorem plain_update_loop : plainId "dict.update.loop" = true := by decide +kernel
theorem RepD.keep {w : World} {h h' : Heap} {a : Addr} {P : Prs} (x : RepD w h a P) (ka : ∀ o, h.get? a = some o → h'.get? a = some o) (k : ∀ b o, h.get? b = some o → IsTup o → h'.get? b = some o) : RepD w h' a P := by
  obtain ⟨ys, n, h1, h2, h3, h4⟩ := x
  exact ⟨ys, n, ka _ h1, h2.mono k, h3, h4⟩
noncomputable abbrev prT (p : Tag × V) : V := .tup [kv p.1, p.2]
set_option tactic.hygienic true in
theorem take_put {P : Prs} {i : Nat} {t : Tag} {v : V} (nd : (P.map (·.1)).Nodup) (e : P[i]? = some (t, v)) : dset (P.take i) t v = P.take (i + 1) := by
  have hn : dfind (P.take i) t = none := by
    cases q : dfind (P.take i) t with
    | none => rfl
    | some u =>
      unfold dfind at q
      cases q2 : (P.take i).find? fun p => decide (p.1 = t) with
      | none => rw [q2] at q; cases q
      | some p =>
        obtain ⟨j, hj⟩ := List.mem_iff_getElem?.mp (List.mem_of_find?_eq_some q2)
        have ht : p.1 = t := of_decide_eq_true (List.find?_some (p := fun p : Tag × V => decide (p.1 = t)) q2)
        rw [List.getElem?_take] at hj
        split at hj
        · rename_i lt
          have a1 : (P.map (·.1))[j]? = some t := by rw [List.getElem?_map, hj]; exact congrArg Option.some ht
          have a2 : (P.map (·.1))[i]? = some t := by rw [List.getElem?_map, e]; rfl
          exact absurd ((List.getElem?_inj (List.getElem?_eq_some_iff.mp a1).1 nd).mp (a1.trans a2.symm)) (Nat.ne_of_lt lt)
        · cases hj
  unfold dset
  rw [hn]
  show P.take i ++ [(t, v)] = _
  rw [List.take_add_one, e]; rfl
section
variable {prog : Program} {w : World} {A : Around} {E : Value → Shared → Prop} {s : Shared} {D I L : Addr} {P : Prs} {vs : Array Value}
theorem pairs_loop {R : Result → Shared → Prop} (hh : A.handled = none) (hu : A.in1.units + 1 < cLine) (hDI : D ≠ I) (hDL : D ≠ L) (hLI : L ≠ I) (hz : P.length ≤ 2 ^ 20) (kt : ∀ p ∈ P, KTag p.1) (nd : (P.map (·.1)).Nodup) {h₁ : Heap}
    (hR : ∀ h' tk, (∀ b o, b ≠ D → b ≠ I → h₁.get? b = some o → h'.get? b = some o) → RepD w h' D P → R (.ok (.ret .none)) { s with heap := h', toks := tk }) :
    ∀ (k i : Nat) (h : Heap) (tk : Nat), i + k = P.length → h.IsListIter I L i → h.IsList L vs → VsRel h (P.map prT) vs.toList → RepD w h D (P.take i) → (∀ b o, b ≠ D → b ≠ I → h₁.get? b = some o → h.get? b = some o) →
      codeAny (model prog w) A (.builtin "dict.update.loop" ⟨[.ref D, .ref I, rawInt i, .none], []⟩) R { s with heap := h, toks := tk } := by
  intro k
  induction k with
  | zero =>
    intro i h tk hk hit hl hv hd kp
    refine codeAny_builtin entry_update_loop ?_
    rw [Around.under_plainId plain_update_loop _]
    have e0 : i = P.length := hk
    have sz : vs.size = P.length := by rw [← Array.length_toList, hv.length, List.length_map]
    show wpAny _ A.in1 (pyNext (.ref I) >>= _) _ _ _
    refine wpAny_bind (wpAny_pyNext_list_end (s := { s with heap := h, toks := tk }) (A := A.in1) hh hit hl (Array.getElem?_eq_none_iff.mpr (by rw [sz, e0]; exact Nat.le_refl _)) fun h' eb => ?_)
    refine wpAny_bind (wpAny_pure ?_)
    refine wpAny_pure (hR h' tk (fun b o n1 n2 q => eb b o n2 (kp b o n1 n2 q)) ?_)
    have tp : ∀ b o, h.get? b = some o → IsTup o → h'.get? b = some o := fun b o q t => eb b o (fun z => by obtain ⟨o', q', c', _⟩ := hit; rw [z, q'] at q; cases q; obtain ⟨c, _⟩ := t; rw [c'] at c; exact absurd c (by decide)) q
    rw [show P = P.take i by rw [e0, List.take_length]]
    exact hd.keep (fun o q => eb D o hDI q) tp
  | succ k ih =>
    intro i h tk hk hit hl hv hd kp
    refine codeAny_builtin entry_update_loop ?_
    rw [Around.under_plainId plain_update_loop _]
    have lt : i < P.length := hk ▸ Nat.lt_add_of_pos_right (Nat.succ_pos k)
    have sz : vs.size = P.length := by rw [← Array.length_toList, hv.length, List.length_map]
    have hx : vs[i]? = some (vs[i]'(sz ▸ lt)) := Array.getElem?_eq_getElem _
    generalize vs[i]'(sz ▸ lt) = x at hx
    obtain ⟨⟨t, v⟩, hp⟩ : ∃ p, P[i]? = some p := ⟨_, List.getElem?_eq_getElem lt⟩
    have xr : VRel h (.tup [kv t, v]) x := hv.at' i _ _ (by rw [List.getElem?_map, hp]; rfl) (by rw [Array.getElem?_toList]; exact hx)
    show wpAny _ A.in1 (pyNext (.ref I) >>= _) _ _ _
    refine wpAny_bind (wpAny_pyNext_list_item (s := { s with heap := h, toks := tk }) (A := A.in1) hit hl hx fun h' hit' sb => ?_)
    have ap : ∀ b o, h.get? b = some o → IsTup o → b ≠ I := fun b o q t z => by obtain ⟨o', q', c', _⟩ := hit; rw [z, q'] at q; cases q; obtain ⟨c, _⟩ := t; rw [c'] at c; exact absurd c (by decide)
    have tp : ∀ b o, h.get? b = some o → IsTup o → h'.get? b = some o := fun b o q t => sb.extBut b o (ap b o q t) q
    have xr' := xr.mono tp
    have hd' := hd.keep (fun o q => sb.extBut D o hDI q) tp
    have hv' := hv.mono tp
    have hl' : h'.IsList L vs := let ⟨o, q, r⟩ := hl; ⟨o, sb.extBut _ _ hLI q, r⟩
    obtain ⟨b, ws, ⟨o, ho, hc, n, hdat⟩, hl2⟩ := xr'.tup_inv
    obtain ⟨rk, rv, e2, h3, h4⟩ := hl2.two
    obtain ⟨kb, rfl⟩ := VRel.kv_inv h3
    have hT : Shared.TypeIs { s with heap := h', toks := tk } (.ref b) "tuple" := ⟨_, ho, hc⟩
    refine wpAny_bind (wpAny_holding ?_)
    refine wpAny_bind (wpAny_tryCatch ?_)
    show wpAny _ _ (Builtin.Dict.pairItems (.ref b)) _ _ _
    unfold Builtin.Dict.pairItems
    refine wpAny_bind (wpAny_typeOf hT ?_)
    rw [if_pos (by decide)]
    refine wpAny_bind (wpAny_seqItems ho hdat (wpAny_pure ?_))
    show wpAny _ _ (match ws.toList with | [k, v] => _ | l => _) _ _ _
    rw [e2]
    refine wpAny_holding ?_
    obtain ⟨ys, n, q1, q2, q3, q4⟩ := hd'
    have hy : ys.length ≤ 2 ^ 20 := by rw [q2.length, List.length_take]; exact Nat.le_trans (Nat.min_le_right _ _) hz
    have key : KAt h' t kb := ⟨kt _ (List.mem_of_getElem? hp), h3⟩
    have dm : h'.DictOfH (tagK prog w) D ys := ⟨_, _, n, q1, ⟨rfl, rfl, rfl⟩, rfl, List.toList_toArray, q2.is, by rw [q2.keys]; exact q3⟩
    refine wpAny_dictSet_heap (hsz := by rw [sizeLine_eq]; lia) (knd := tagK prog w) (k := t) (s := { s with heap := h', toks := tk }) hu key dm fun h'' hm'' sb'' => ?_
    have ap'' : ∀ b o, h'.get? b = some o → IsTup o → b ≠ D := fun b o q t z => by rw [z, q1] at q; cases q; exact notTup_dict rfl t
    have tp'' : ∀ b o, h'.get? b = some o → IsTup o → h''.get? b = some o := fun b o q t => sb''.extBut b o (ap'' b o q t) q
    have rd : RepD w h'' D (P.take (i + 1)) := take_put nd hp ▸ RepD.of hm'' ((q2.set key h4).mono tp'') (dset_nd q3) q4
    refine wpAny_pure ⟨plainId_quiet plain_update_loop _, ih (i + 1) h'' _ (by rw [← hk]; exact Nat.add_right_comm i 1 k ▸ rfl) (let ⟨o, q, r⟩ := hit'; ⟨o, sb''.extBut _ _ (Ne.symm hDI) q, r⟩) (let ⟨o, q, r⟩ := hl'; ⟨o, sb''.extBut _ _ (Ne.symm hDL) q, r⟩) (hv'.mono tp'') rd fun b o n1 n2 q => sb''.extBut b o n1 (sb.extBut b o n2 (kp b o n1 n2 q))⟩
end
end Mn
set_option genInjectivity false
namespace Mn
open PySem.SeqAt
section
variable {prog : Program} {w : World} {A : Around} {E : Value → Shared → Prop} {s : Shared} {D I L : Addr} {P : Prs} {vs : Array Value}
theorem pairs_call {n : Nat} {Q : Value → Shared → Prop} (hh : A.handled = none) (hu : A.in1.in1.units + 1 < cLine) (hl : s.heap.get? L = some { cls := .type "list", data := .seq vs n }) (hv : VsRel s.heap (P.map prT) vs.toList) (hz : P.length ≤ 2 ^ 20) (kt : ∀ p ∈ P, KTag p.1) (nd : (P.map (·.1)).Nodup) (big : s.heap.objs.size ≠ sysModules)
    (hQ : ∀ h' tk, (∀ b o, s.heap.get? b = some o → h'.get? b = some o) → RepD w h' s.heap.objs.size P → Q (.ref s.heap.objs.size) { s with heap := h', toks := tk }) :
    wpAny (model prog w) A (call (.type "dict") [.ref L]) Q E s := by
  refine callType_codes (Q₁ := fun obj s₁ => obj = .ref s.heap.objs.size ∧ s₁ = { s with heap := s.heap.push { cls := .type "dict", data := .dict #[] } }) PySem.F.kt_called_dict (PySem.F.kt_typeCall_dict_1 _) PySem.F.entry_dict_init (kt_code_dict_new _ ⟨rfl, rfl⟩) ?_
  rintro obj s₁ ⟨rfl, rfl⟩
  have hnew : (s.heap.push { cls := .type "dict", data := .dict #[] }).get? s.heap.objs.size = some { cls := .type "dict", data := .dict #[] } := Heap.get?_push_size _ rfl
  have T : Shared.TypeIs { s with heap := s.heap.push { cls := .type "dict", data := .dict #[] } } (.ref s.heap.objs.size) "dict" := ⟨_, hnew, rfl⟩
  have hl1 := Heap.get?_push_of_some { cls := .type "dict", data := .dict #[] } hl
  have ltL := Heap.lt_size hl
  refine ⟨T, PySem.F.args_dict_init_2 _ _, ?_⟩
  unfold Builtin.«dict.__init__»
  refine wpAny_bind ?_
  unfold Builtin.Dict.selfAndRest
  refine wpAny_bind (wpAny_notOrdered_dict T ?_)
  show wpAny _ _ (pure (s.heap.objs.size, [Value.ref L])) _ _ _
  refine wpAny_pure ?_
  show wpAny _ _ (Builtin.Dict.updateFrom "dict.__init__" s.heap.objs.size (.ref L) [] .none) _ _ _
  unfold Builtin.Dict.updateFrom
  refine wpAny_bind (wpAny_typeOf (T := "list") ⟨_, hl1, rfl⟩ ?_)
  rw [if_pos (by decide)]
  refine wpAny_bind (keys_miss (A := A.in1.in1) hl1 hh fun h2 tk2 k2 => ?_)
  rw [if_pos (by rfl)]
  refine wpAny_bind (wpAny_rule ?_)
  refine wpAny_bind (wpAny_pyIter_list (items := vs) ⟨_, k2 _ _ hl1, rfl, n, rfl⟩ ?_)
  have z2 : s.heap.objs.size < h2.objs.size := Heap.lt_size (k2 _ _ hnew)
  have kp : ∀ b o, s.heap.get? b = some o → (h2.push { cls := .type "list_iterator", data := .fields #[.ref L, .int 0 0] }).get? b = some o := fun b o q => Heap.get?_push_of_some _ (k2 _ _ (Heap.get?_push_of_some _ q))
  refine wpAny_pure ⟨plainId_quiet plain_update_loop _, pairs_loop (A := A.in1) (vs := vs) (P := P) hh hu (Nat.ne_of_lt z2) (Nat.ne_of_gt ltL) (Nat.ne_of_lt (Nat.lt_trans ltL z2)) hz kt nd
    (h₁ := h2.push { cls := .type "list_iterator", data := .fields #[.ref L, .int 0 0] }) (fun h' tk k rd => ⟨rfl, hQ h' tk (fun b o q => k b o (Nat.ne_of_lt (Heap.lt_size q)) (Nat.ne_of_lt (Nat.lt_trans (Heap.lt_size q) z2)) (kp b o q)) rd⟩)
    P.length 0 _ _ (Nat.zero_add _) ⟨_, Heap.get?_push_size _ rfl, rfl, rfl⟩ ⟨_, kp _ _ hl, rfl, n, rfl⟩ (hv.mono fun b o q q_ => kp b o q)
    ⟨[], 0, Heap.get?_push_of_some _ (k2 _ _ hnew), .nil, List.nodup_nil, big⟩ fun b o q_ q_ q => q⟩
end
section
variable {κ : Cx} {l : Loc} {σ : MH} {δ : DM} {a r : Addr} {P : Prs}
theorem FS.big {φ : Fx} {s : Shared} (F : FS φ l σ δ s) : s.heap.objs.size ≠ sysModules := by
  obtain ⟨o, es, ep, ho, _⟩ := F.top.g
  have lt : mainGlobals < s.heap.objs.size := Heap.lt_size ho
  exact fun z => by rw [z] at lt; exact absurd lt (by decide)
theorem PV.items {Q : V → MH → Prop} (hσ : σ a = some (.dict P)) (h : ∀ b, σ b = none → Q (.ref b) (upd σ b (.raw (viewO a)))) : PV κ tcall [.bi "dict.items", .ref a] Q σ := fun A s δ l rs G F hv => by
  obtain ⟨rf, ra, rfl, hf, ha⟩ := hv.two
  rw [hf.bi_inv, ha.ref_inv]
  obtain ⟨ys, D⟩ := F.sim.dict hσ
  refine call_meetsIn PySem.F.slot_dict_items D.of.typeIs PySem.F.entry_dict_items (PySem.F.args_dict_items_1 _) (items_meets a D.ns) ⟨D.of.typeIs, ?_⟩
  have e0 := F.sim.freshσ (Nat.le_refl s.heap.objs.size)
  have g := F.grow (tk := s.toks) (h' := s.heap.push (viewO a)) fun b o e => Heap.get?_push_of_some _ e
  have fin := F.newRaw g.1 g.2 (Nat.le_refl _) (Heap.get?_push_size _ rfl) (fun ⟨c, _⟩ => by injection c with c; exact absurd c (by decide)) e0 rfl
  exact ⟨.ref _, l, _, δ, .ref _, fin.1, fin.2, rfl, h _ e0⟩
theorem items_rel {h h' : Heap} {ys : Ys} {w : World} {lo : Addr} {acc : Array Value} (y : YRel h P ys) (k : ∀ b o, h.get? b = some o → h'.get? b = some o) (g : Got (ys.map (ent w)).toArray lo h' (ys.map (ent w)).toArray.size acc) : VsRel h' (P.map prT) acc.toList := by
  refine .of_at (by rw [Array.length_toList, List.length_map, g.size, List.size_toArray, List.length_map, y.length]) fun i v x e e' => ?_
  rw [Array.getElem?_toList] at e'
  obtain ⟨c, en, rfl, h1, _, h4⟩ := g.at_ i x e'
  rw [List.getElem?_toArray, List.getElem?_map] at h1
  rw [List.getElem?_map] at e
  obtain ⟨x, hx, rfl⟩ := Option.map_eq_some_iff.mp h1
  obtain ⟨p, hp, rfl⟩ := Option.map_eq_some_iff.mp e
  obtain ⟨u, b, rv⟩ := x
  obtain ⟨v, hv, hr⟩ := y.at hx
  rw [hp] at hv; cases hv
  have q : VsRel h' [kv u, v] [.ref b, rv] := .cons (((y.is _ (List.mem_of_getElem? hx)).rel).mono fun b o e q_ => k b o e) (.cons (hr.mono fun b o e q_ => k b o e) .nil)
  exact .tup' h4 rfl rfl rfl q.at'
theorem PV.itemsList {Q : V → MH → Prop} (hσ : σ a = some (.dict P)) (hr : σ r = some (.raw (viewO a))) (hz : P.length ≤ 2 ^ 20) (h : ∀ b, σ b = none → Q (.ref b) (upd σ b (.list (P.map prT)))) : PV κ tcall [.typ "list", .ref r] Q σ := fun A s δ l rs G F hv => by
  obtain ⟨rf, ra, rfl, hf, ha⟩ := hv.two
  rw [hf.typ_inv, ha.ref_inv]
  obtain ⟨ys, n, h1, h2, h3, h4⟩ := F.sim.rep _ _ hσ
  have sz : (ys.map (ent κ.φ.g.w)).toArray.size = ys.length := by rw [List.size_toArray, List.length_map]
  refine items_call (es := (ys.map (ent κ.φ.g.w)).toArray) (ep := n) G.handled (F.sim.rep _ _ hr).1 ⟨h1⟩ (by rw [sz, h2.length, sizeLine_eq]; lia) fun h' tk acc c kk hS hacc => ?_
  have fin := F.new (tk := tk) (δ' := δ) (o := .list (P.map prT)) kk (Nat.le_refl _) ⟨acc, c, hS, items_rel h2 kk hacc⟩ (fun b x e => .inl e) (fun b x e => e)
  exact ⟨.ref _, l, _, δ, .ref _, fin.1, fin.2, rfl, h _ (F.sim.freshσ (Nat.le_refl _))⟩
theorem PV.dictOf {Q : V → MH → Prop} (hσ : σ a = some (.list (P.map prT))) (hz : P.length ≤ 2 ^ 20) (kt : ∀ p ∈ P, KTag p.1) (nd : (P.map (·.1)).Nodup) (h : ∀ b, σ b = none → Q (.ref b) (upd σ b (.dict P))) : PV κ tcall [.typ "dict", .ref a] Q σ := fun A s δ l rs G F hv => by
  obtain ⟨rf, ra, rfl, hf, ha⟩ := hv.two
  rw [hf.typ_inv, ha.ref_inv]
  obtain ⟨vs, n, h1, h2⟩ := F.sim.rep _ _ hσ
  refine pairs_call G.handled (by have := G.units; show A.units + 2 + 1 < 9900; lia) h1 h2 hz kt nd F.big fun h' tk kk rd => ?_
  have fin := F.new (tk := tk) (δ' := δ) (o := .dict P) kk (Nat.le_refl _) rd (fun b x e => .inl e) (fun b x e => e)
  exact ⟨.ref _, l, _, δ, .ref _, fin.1, fin.2, rfl, h _ (F.sim.freshσ (Nat.le_refl _))⟩
end
end Mn
set_option genInjectivity false
namespace Mn
open PySem.SeqAt

noncomputable abbrev Ls := List (Option V)
noncomputable def toL : List Str → Ls → Loc
  | n :: ns, v :: ls => fun x => if x = n then v else toL ns ls x
  | _, _ => fun q_ => none
noncomputable def slot : List Str → Str → Option Nat
  | [], _ => none
  | n :: ns, x => if x = n then some 0 else (slot ns x).map (· + 1)
noncomputable def getS : Ls → Nat → Option V
  | [], _ => none
  | v :: _, 0 => v
  | _ :: r, i + 1 => getS r i
noncomputable def setS : Ls → Nat → V → Ls
  | [], 0, v => [some v]
  | [], i + 1, v => none :: setS [] i v
  | _ :: r, 0, v => some v :: r
  | a :: r, i + 1, v => a :: setS r i v
theorem toL_nil (ns : List Str) : toL ns [] = fun q_ => none := by cases ns <;> rfl
theorem toL_get {x : Str} {i : Nat} : ∀ {ns : List Str} {ls : Ls}, slot ns x = some i → toL ns ls x = getS ls i
  | [], _, h => nomatch h
  | n :: ns, [], h => by rw [toL_nil]; rfl
  | n :: ns, v :: ls, h => by
    unfold slot at h
    unfold toL
    split at h
    · rw [if_pos ‹_›]; cases h; rfl
    · rw [if_neg ‹_›]
      obtain ⟨j, hj, rfl⟩ := Option.map_eq_some_iff.mp h
      exact toL_get hj
set_option tactic.hygienic true in
theorem toL_set {x : Str} {v : V} : ∀ {i : Nat} {ns : List Str} {ls : Ls}, slot ns x = some i → upd (toL ns ls) x v = toL ns (setS ls i v)
  | _, [], _, h => nomatch h
  | i, n :: ns, ls, h => by
    unfold slot at h
    funext y
    split at h
    · rename_i e
      cases h; subst e
      cases ls with
      | nil => rw [toL_nil]; unfold setS toL upd; rw [toL_nil]
      | cons w ls => unfold setS toL upd; by_cases z : y = x
                     · rw [if_pos z, if_pos z]
                     · rw [if_neg z, if_neg z]; exact if_neg z
    · rename_i e
      obtain ⟨j, hj, rfl⟩ := Option.map_eq_some_iff.mp h
      cases ls with
      | nil =>
        have := congrFun (toL_set (v := v) (ls := []) hj) y
        rw [toL_nil] at this
        rw [toL_nil]
        refine this.trans ?_
        show toL ns (setS [] j v) y = if y = n then none else toL ns (setS [] j v) y
        by_cases z : y = n
        · rw [if_pos z, ← this]; exact if_neg fun w => e (w.symm.trans z)
        · rw [if_neg z]
      | cons w ls =>
        have := congrFun (toL_set (v := v) (ls := ls) hj) y
        show (if y = x then some v else if y = n then w else toL ns ls y) = if y = n then w else toL ns (setS ls j v) y
        rw [← this]
        unfold upd
        by_cases z : y = n
        · rw [if_pos z, if_pos z]; exact if_neg fun q => e (q.symm.trans z)
        · rw [if_neg z, if_neg z]

structure En where
  g : G
  d : Nat
  X : MH → Prop
noncomputable abbrev En.nx (E : En) : En := ⟨E.g, E.d, noX⟩
noncomputable abbrev Cx.en (κ : Cx) : En := ⟨κ.φ.g, κ.d, κ.X⟩
structure Pv (E : En) (t : List Value → Sem Value) (vs : List V) (K : V → MH → Prop) (σ : MH) : Prop where
  h : ∀ φ : Fx, φ.g = E.g → PV ⟨φ, E.d, E.X⟩ t vs K σ
structure Pu (E : En) (t : List Value → Sem Unit) (vs : List V) (K : MH → Prop) (σ : MH) : Prop where
  h : ∀ φ : Fx, φ.g = E.g → PU ⟨φ, E.d, E.X⟩ t vs K σ
structure Pg (E : En) (a b : V) (K : V → MH → Prop) (σ : MH) : Prop where
  h : ∀ φ : Fx, φ.g = E.g → PG ⟨φ, E.d, E.X⟩ a b K σ
theorem Pv.at {κ : Cx} {t vs K σ} (h : Pv κ.en t vs K σ) : PV κ t vs K σ := h.h κ.φ rfl
theorem Pu.at {κ : Cx} {t vs K σ} (h : Pu κ.en t vs K σ) : PU κ t vs K σ := h.h κ.φ rfl
theorem Pg.at {κ : Cx} {a b K σ} (h : Pg κ.en a b K σ) : PG κ a b K σ := h.h κ.φ rfl
noncomputable def gA (x : Str) : List Value → Sem Value := t1 fun r => getAttr r x true
noncomputable def sA (x : Str) : List Value → Sem Unit := u2 fun ro rv => setAttr ro x rv

inductive Slc (f : Nat → List V → List V) (σ : MH) (K : V → MH → Prop) : V → V → Prop
  | mk (a : Addr) (xs : List V) (k : Nat) (hσ : lst σ a xs) (hz : xs.length ≤ 2 ^ 24) (q : ∀ b, σ b = none → K (.ref b) (upd σ b (.list (f k xs)))) : Slc f σ K (.ref a) (.int (k : Int))
inductive Meth (x : Str) (C : Addr) (σ : MH) (K : Prop) : V → Prop
  | mk (a : Addr) (fs : List (Str × V)) (hσ : σ a = some (.inst C fs)) (hx : getF fs x = none) (q : K) : Meth x C σ K (.ref a)
inductive IsL (σ : MH) (K : Prop) : V → Prop
  | mk (a : Addr) (xs : List V) (hσ : σ a = some (.list xs)) (q : K) : IsL σ K (.ref a)
inductive IsB (σ : MH) (K : Prop) : Bool → V → Prop
  | list (a : Addr) (xs : List V) (hσ : σ a = some (.list xs)) (q : K) : IsB σ K false (.ref a)
  | dict (a : Addr) (P : Prs) (hσ : σ a = some (.dict P)) (q : K) : IsB σ K true (.ref a)
inductive It (σ : MH) (K : List V → (MH → Prop) → Prop) : Nat → List V → Prop
  | val (v : V) (ys : List V) (Inv : MH → Prop) (s : Seq1 σ v ys Inv) (q : K ys Inv) : It σ K 0 [v]
  | range1 (n : Int) (hn : n.natAbs < 2 ^ 60) (q : K (rng 0 n.toNat) fun q_ => True) : It σ K 1 [.int n]
  | range2 (a b : Int) (ha : a.natAbs < 2 ^ 60) (hb : b.natAbs < 2 ^ 60) (q : K (rng a (b - a).toNat) fun q_ => True) : It σ K 1 [.int a, .int b]
  | rev (a : Addr) (ys : List V) (hl : lst σ a ys) (q : K ys.reverse fun σ => lst σ a ys) : It σ K 2 [.ref a]
  | enum (a : Addr) (ys : List V) (hl : lst σ a ys) (q : K (enumL ys) fun σ => lst σ a ys) : It σ K 3 [.ref a]
noncomputable def loopC (C : Ls → MH → Prop) (A : Ls → MH → Prop) (Q : Fw → Ls → MH → Prop) : Fw → Ls → MH → Prop
  | .next => C
  | .cont => C
  | .brk => A
  | .ret v => Q (.ret v)
inductive Whl (step : (Fw → Ls → MH → Prop) → Ls → MH → Prop) (A : Ls → MH → Prop) (Q : Fw → Ls → MH → Prop) (ls : Ls) (σ : MH) : Prop
  | mk (I : Nat → Ls → MH → Prop) (n : Nat) (h0 : I n ls σ) (turn : ∀ n ls σ, I n ls σ → step (loopC (fun ls σ => ∃ m, m < n ∧ I m ls σ) A Q) ls σ)
inductive ForL (step : V → (Fw → Ls → MH → Prop) → Ls → MH → Prop) (A : Ls → MH → Prop) (Q : Fw → Ls → MH → Prop) (ls : Ls) (σ : MH) (ys : List V) (Inv : MH → Prop) : Prop
  | mk (I : Nat → Ls → MH → Prop) (h0 : I 0 ls σ) (inv : ∀ k ls σ, I k ls σ → Inv σ) (turn : ∀ k v ls σ, ys[k]? = some v → I k ls σ → step v (loopC (I (k + 1)) A Q) ls σ) (fin : ∀ ls σ, I ys.length ls σ → A ls σ)
noncomputable def compC (C : MH → Prop) (R : V → MH → Prop) : Fw → Ls → MH → Prop
  | .cont => fun q_ => C
  | .ret v => fun q_ => R v
  | _ => fun q_ q_ => False
inductive CmpL (step : V → (Fw → Ls → MH → Prop) → MH → Prop) (K : V → MH → Prop) (σ : MH) (ys : List V) (Inv : MH → Prop) : Prop
  | mk (I : Addr → Nat → List V → MH → Prop) (h0 : ∀ D, σ D = none → I D 0 [] (upd σ D (.list []))) (acc : ∀ D k acc σ2, I D k acc σ2 → AccAt Inv D acc σ2)
      (turn : ∀ D k v acc σ2, σ D = none → ys[k]? = some v → I D k acc σ2 → step v (compC (I D (k + 1) acc) fun r σ4 => σ4 D = some (.list acc) ∧ I D (k + 1) (acc ++ [r]) (upd σ4 D (.list (acc ++ [r])))) σ2)
      (fin : ∀ D acc σ2, σ D = none → I D ys.length acc σ2 → K (.ref D) σ2)

noncomputable def intQ : V → (Int → Prop) → Prop → Prop
  | .int a, K, _ => K a
  | _, _, P => P
noncomputable def optQ {α : Type} : Option α → (α → Prop) → Prop → Prop
  | some f, K, _ => K f
  | none, _, P => P
noncomputable def iiQ (a b : V) (F : Int → Int → Prop) (P : Prop) : Prop := intQ a (fun x => intQ b (fun y => F x y) P) P
theorem iiQ.run {a b : V} {F : Int → Int → Prop} {P : Prop} (h : iiQ a b F P) (k : ∀ x y, a = .int x → b = .int y → F x y → P) : P := by
  cases a with
  | int x =>
    cases b with
    | int y => exact k x y rfl rfl h
    | _ => exact h
  | _ => exact h
noncomputable def binQ (E : En) (op : Operator) (a b : V) (K : V → MH → Prop) (σ : MH) : Prop := match op with
  | .Add => iiQ a b (fun x y => K (.int (x + y)) σ) (Pv E (t2 (binaryOp .Add)) [a, b] K σ)
  | .Sub => iiQ a b (fun x y => K (.int (x - y)) σ) (Pv E (t2 (binaryOp .Sub)) [a, b] K σ)
  | .BitAnd => iiQ a b (fun x y => K (.int (Builtin.bitAnd x y)) σ) (Pv E (t2 (binaryOp .BitAnd)) [a, b] K σ)
  | .BitOr => iiQ a b (fun x y => K (.int (Builtin.bitOr x y)) σ) (Pv E (t2 (binaryOp .BitOr)) [a, b] K σ)
  | .BitXor => iiQ a b (fun x y => K (.int (Builtin.bitXor x y)) σ) (Pv E (t2 (binaryOp .BitXor)) [a, b] K σ)
  | op => Pv E (t2 (binaryOp op)) [a, b] K σ
noncomputable def inpQ (E : En) (op : Operator) (a b : V) (K : V → MH → Prop) (σ : MH) : Prop := match op with
  | .Add => iiQ a b (fun x y => K (.int (x + y)) σ) (Pv E (t2 (inplaceOp .Add)) [a, b] K σ)
  | .Sub => iiQ a b (fun x y => K (.int (x - y)) σ) (Pv E (t2 (inplaceOp .Sub)) [a, b] K σ)
  | op => Pv E (t2 (inplaceOp op)) [a, b] K σ
noncomputable def cmpQ (E : En) (op : CmpOp) (a b : V) (K : V → MH → Prop) (σ : MH) : Prop := match op with
  | .Lt => iiQ a b (fun x y => K (.bool (decide (x < y))) σ) (Pv E (t2 (compareOp .Lt)) [a, b] K σ)
  | .LtE => iiQ a b (fun x y => K (.bool (decide (x ≤ y))) σ) (Pv E (t2 (compareOp .LtE)) [a, b] K σ)
  | .Gt => iiQ a b (fun x y => K (.bool (decide (y < x))) σ) (Pv E (t2 (compareOp .Gt)) [a, b] K σ)
  | .GtE => iiQ a b (fun x y => K (.bool (decide (y ≤ x))) σ) (Pv E (t2 (compareOp .GtE)) [a, b] K σ)
  | .NotEq => iiQ a b (fun x y => K (.bool (!decide (x = y))) σ) (Pv E (t2 (compareOp .NotEq)) [a, b] K σ)
  | .Eq => iiQ a b (fun x y => K (.bool (decide (x = y))) σ) (Pv E (t2 (compareOp .Eq)) [a, b] K σ)
  | op => Pv E (t2 (compareOp op)) [a, b] K σ
noncomputable def unaQ (E : En) : UnaryOp → V → (V → MH → Prop) → MH → Prop
  | .USub, .int x, K, σ => K (.int (-x)) σ
  | .Not, .bool b, K, σ => K (.bool (!b)) σ
  | op, a, K, σ => Pv E (t1 (unaryOp op)) [a] K σ
section
variable {E : En} {a b : V} {K : V → MH → Prop} {σ : MH}
theorem unaQ.run {op} (h : unaQ E op a K σ) : Pv E (t1 (unaryOp op)) [a] K σ := by
  cases op with
  | USub =>
    cases a with
    | int x => exact ⟨fun q_ q_ => PV.neg h⟩
    | _ => exact h
  | Not =>
    cases a with
    | bool b => exact ⟨fun q_ q_ => PV.not h⟩
    | _ => exact h
  | _ => exact h
theorem PV.eqI {κ : Cx} {a b : Int} (h : K (.bool (decide (a = b))) σ) : PV κ (t2 (compareOp .Eq)) [.int a, .int b] K σ :=
  PV.eq (n := 0) (.ii _ _) (Nat.zero_le _) (by rw [veq_dec (p := a = b) ⟨fun e => V.int.inj e, fun e => e ▸ rfl⟩]; exact h)
theorem Pv.of2 {x y : Int} {t} (ha : a = .int x) (hb : b = .int y) (h : ∀ κ : Cx, PV κ t [.int x, .int y] K σ) : Pv E t [a, b] K σ := by subst ha hb; exact ⟨fun q_ q_ => h _⟩
theorem binQ.run {op} (h : binQ E op a b K σ) : Pv E (t2 (binaryOp op)) [a, b] K σ := by
  cases op with
  | Add => exact iiQ.run h fun x y ha hb q => .of2 ha hb fun q_ => PV.add q
  | Sub => exact iiQ.run h fun x y ha hb q => .of2 ha hb fun q_ => PV.sub q
  | BitAnd => exact iiQ.run h fun x y ha hb q => .of2 ha hb fun q_ => PV.band q
  | BitOr => exact iiQ.run h fun x y ha hb q => .of2 ha hb fun q_ => PV.bor q
  | BitXor => exact iiQ.run h fun x y ha hb q => .of2 ha hb fun q_ => PV.bxor q
  | _ => exact h
theorem inpQ.run {op} (h : inpQ E op a b K σ) : Pv E (t2 (inplaceOp op)) [a, b] K σ := by
  cases op with
  | Add => exact iiQ.run h fun x y ha hb q => .of2 ha hb fun q_ => PV.iadd q
  | Sub => exact iiQ.run h fun x y ha hb q => .of2 ha hb fun q_ => PV.isub q
  | _ => exact h
theorem cmpQ.run {op} (h : cmpQ E op a b K σ) : Pv E (t2 (compareOp op)) [a, b] K σ := by
  cases op with
  | Lt => exact iiQ.run h fun x y ha hb q => .of2 ha hb fun q_ => PV.lt q
  | LtE => exact iiQ.run h fun x y ha hb q => .of2 ha hb fun q_ => PV.le q
  | Gt => exact iiQ.run h fun x y ha hb q => .of2 ha hb fun q_ => PV.gt q
  | GtE => exact iiQ.run h fun x y ha hb q => .of2 ha hb fun q_ => PV.ge q
  | NotEq => exact iiQ.run h fun x y ha hb q => .of2 ha hb fun q_ => PV.ne q
  | Eq => exact iiQ.run h fun x y ha hb q => .of2 ha hb fun q_ => PV.eqI q
  | _ => exact h
end

set_option genCtorIdx false in
inductive Cd
  | lit (v : V) (k : Cd)
  | ld (i : Nat) (k : Cd)
  | st (i : Nat) (k : Cd)
  | pop (k : Cd)
  | dup (n : Nat) (k : Cd)
  | fld (x : Str) (k : Cd)
  | stf (x : Str) (k : Cd)
  | stfr (x : Str) (k : Cd)
  | ix (k : Cd)
  | stx (k : Cd)
  | stxr (k : Cd)
  | slc (b : Bool) (k : Cd)
  | bin (op : Operator) (k : Cd)
  | inp (op : Operator) (k : Cd)
  | cmp (op : CmpOp) (k : Cd)
  | una (op : UnaryOp) (k : Cd)
  | isn (b : Bool) (k : Cd)
  | chn (op : CmpOp) (a b : Cd)
  | br (a b : Cd)
  | tup (n : Nat) (k : Cd)
  | lst (n : Nat) (k : Cd)
  | unp (b : Bool) (is : List Nat) (k : Cd)
  | call (f : V) (n : Nat) (k : Cd)
  | mld (C : Addr) (x : Str) (k : Cd)
  | ald (k : Cd)
  | whl (c k : Cd)
  | forl (it n : Nat) (c k : Cd)
  | comp (it n : Nat) (fr : List Nat) (c k : Cd)
  | comp2 (it n : Nat) (fr : List Nat) (c k : Cd)
  | dct (k : Cd)
  | bld (d : Bool) (k : Cd)
  | ret
  | fin
  | brk
  | cnt
  | raz
  | trs (c : Cd) (i : Nat) (v : V) (k : Cd)
  | clv (n : Nat) (k : Cd)
  | cll (fn P : Addr) (q : Str) (fr : List Nat) (c k : Cd)
  | bad
noncomputable def tryC (C : Ls → MH → Prop) (Q : Fw → Ls → MH → Prop) : Fw → Ls → MH → Prop
  | .next => C
  | w => Q w
noncomputable def pop1 : List V → (V → List V → Prop) → Prop
  | v :: s, K => K v s
  | [], _ => False
noncomputable def pop2 (s : List V) (K : V → V → List V → Prop) : Prop := pop1 s fun b s => pop1 s fun a s => K a b s
noncomputable def pop3 (s : List V) (K : V → V → V → List V → Prop) : Prop := pop1 s fun c s => pop2 s fun a b s => K a b c s
noncomputable def popN : Nat → List V → List V → (List V → List V → Prop) → Prop
  | 0, acc, s, K => K acc s
  | n + 1, acc, s, K => pop1 s fun v s => popN n (v :: acc) s K
noncomputable def boolQ : V → (Bool → Prop) → Prop
  | .bool b, K => K b
  | _, _ => False
noncomputable def tupQ : V → (List V → Prop) → Prop
  | .tup l, K => K l
  | _, _ => False
noncomputable def tup2 : V → (V → V → Prop) → Prop
  | .tup [a, b], K => K a b
  | _, _ => False
noncomputable def setAll : List Nat → List V → Ls → (Ls → Prop) → Prop
  | [], [], ls, K => K ls
  | i :: is, v :: vs, ls, K => setAll is vs (setS ls i v) K
  | _, _, _, _ => False
noncomputable def retC (Q : V → MH → Prop) : Fw → Ls → MH → Prop
  | .next => fun q_ => Q .none
  | .ret v => fun q_ => Q v
  | _ => fun q_ q_ => False
inductive Clv (σ : MH) (f : V) (K : Prop) : Prop
  | mk (a : Addr) (o : Obj) (fd : FuncData) (e : f = .ref a) (h1 : σ a = some (.raw o)) (h2 : o.data = .func fd) (q : K)
structure LamC (g : G) (W : Nat → (MH → Prop) → (V → MH → Prop) → MH → Prop) (σ σ2 : MH) (P : Addr) (q : Str) (a : Addr) (Xc : Addr → Prop) : Prop where
  lot : Lot σ2 P q
  keep : ∀ b x, b ≠ P → σ b = some x → σ2 b = some x
  cell : ∀ b, Xc b → σ b = none ∧ X2 fun r v => σ2 b = some (.raw r) ∧ r.data = .cell v
  new : ∀ b x, σ b = none → σ2 b = some x → ∃ r, x = .raw r
  fn : X2 fun o fd => σ2 a = some (.raw o) ∧ o.data = .func fd
  call : ∀ {σ' : MH} {d : Nat} {X : MH → Prop} {K : V → MH → Prop}, (∀ b r, σ2 b = some (.raw r) → σ' b = some (.raw r)) → W d X K σ' → WCall g (d + 1) a [] K X σ'
inductive Cll (E : En) (fn P : Addr) (q : Str) (vs : Ls) (W : Nat → (MH → Prop) → (V → MH → Prop) → MH → Prop) (K : V → MH → Prop) (σ : MH) : Prop
  | mk (d : Nat) (hd : d ≤ E.d) (lot : Lot σ P q) (hv : ∀ v ∈ vs, ∃ w, v = some w ∧ plainV w = true) (h : ∀ a σ2 Xc, LamC E.g W σ σ2 P q a Xc → WCall E.g d fn [.ref a] (fun v σ' => ∀ σ'', (∀ b, Xc b → σ'' b = none) → (∀ b, ¬ Xc b → σ'' b = σ' b) → K v σ'') noX σ2)
noncomputable def wp : Cd → En → (Fw → Ls → MH → Prop) → List V → Ls → MH → Prop
  | .lit v k, E, Q, s, ls, σ => wp k E Q (v :: s) ls σ
  | .ld i k, E, Q, s, ls, σ => optQ (getS ls i) (fun v => wp k E Q (v :: s) ls σ) False
  | .st i k, E, Q, s, ls, σ => pop1 s fun v s => wp k E Q s (setS ls i v) σ
  | .pop k, E, Q, s, ls, σ => pop1 s fun q_ s => wp k E Q s ls σ
  | .dup n k, E, Q, s, ls, σ => wp k E Q (s.take n ++ s) ls σ
  | .fld x k, E, Q, s, ls, σ => pop1 s fun o s => Pv E (gA x) [o] (fun v σ => wp k E Q (v :: s) ls σ) σ
  | .stf x k, E, Q, s, ls, σ => pop2 s fun v o s => Pu E (sA x) [o, v] (fun σ => wp k E Q s ls σ) σ
  | .stfr x k, E, Q, s, ls, σ => pop2 s fun o r s => Pu E (sA x) [o, r] (fun σ => wp k E Q s ls σ) σ
  | .ix k, E, Q, s, ls, σ => pop2 s fun o i s => Pg E o i (fun v σ => wp k E Q (v :: s) ls σ) σ
  | .stx k, E, Q, s, ls, σ => pop3 s fun v o i s => Pu E (u3 setItem) [o, i, v] (fun σ => wp k E Q s ls σ) σ
  | .stxr k, E, Q, s, ls, σ => pop3 s fun o i r s => Pu E (u3 setItem) [o, i, r] (fun σ => wp k E Q s ls σ) σ
  | .slc b k, E, Q, s, ls, σ => pop2 s fun o u s => Slc (bif b then List.drop else List.take) σ (fun v σ => wp k E Q (v :: s) ls σ) o u
  | .bin op k, E, Q, s, ls, σ => pop2 s fun a b s => binQ E op a b (fun v σ => wp k E Q (v :: s) ls σ) σ
  | .inp op k, E, Q, s, ls, σ => pop2 s fun a b s => inpQ E op a b (fun v σ => wp k E Q (v :: s) ls σ) σ
  | .cmp op k, E, Q, s, ls, σ => pop2 s fun a b s => cmpQ E op a b (fun v σ => wp k E Q (v :: s) ls σ) σ
  | .una op k, E, Q, s, ls, σ => pop1 s fun a s => unaQ E op a (fun v σ => wp k E Q (v :: s) ls σ) σ
  | .isn b k, E, Q, s, ls, σ => pop1 s fun a s => a.plain = true ∧ wp k E Q (.bool (bif b then isNone a else !isNone a) :: s) ls σ
  | .chn op a b, E, Q, s, ls, σ => pop2 s fun x y s => cmpQ E op x y (fun v σ => boolQ v fun t => brk2 (wp a E Q (y :: s) ls σ) (wp b E Q s ls σ) t) σ
  | .br a b, E, Q, s, ls, σ => pop1 s fun v s => boolQ v fun t => brk2 (wp a E Q s ls σ) (wp b E Q s ls σ) t
  | .tup n k, E, Q, s, ls, σ => popN n [] s fun vs s => wp k E Q (.tup vs :: s) ls σ
  | .lst n k, E, Q, s, ls, σ => popN n [] s fun vs s => ∀ a, σ a = none → wp k E Q (.ref a :: s) ls (upd σ a (.list vs))
  | .unp b is k, E, Q, s, ls, σ => pop1 s fun v s => tupQ v fun vs => setAll is (bif b then vs.reverse else vs) ls fun ls => wp k E Q s ls σ
  | .call f n k, E, Q, s, ls, σ => popN n [] s fun vs s => Pv E tcall (f :: vs) (fun v σ => wp k E Q (v :: s) ls σ) σ
  | .mld C x k, E, Q, s, ls, σ => pop1 s fun o s => Meth x C σ (wp k E Q (o :: s) ls σ) o
  | .ald k, E, Q, s, ls, σ => pop1 s fun o s => IsL σ (wp k E Q (o :: s) ls σ) o
  | .whl c k, E, Q, s, ls, σ => Whl (fun Q ls σ => wp c E.nx Q [] ls σ) (fun ls σ => wp k E Q [] ls σ) Q ls σ
  | .forl it n c k, E, Q, s, ls, σ => popN n [] s fun vs s => It σ (ForL (fun v Q ls σ => wp c E.nx Q [v] ls σ) (fun ls σ => wp k E Q [] ls σ) Q ls σ) it vs
  | .comp it n fr c k, E, Q, s, ls, σ => popN n [] s fun vs s => It σ (CmpL (fun v Q σ => wp c E.nx Q [] (some v :: fr.map (getS ls)) σ) (fun v σ => wp k E Q (v :: s) ls σ) σ) it vs
  | .comp2 it n fr c k, E, Q, s, ls, σ => popN n [] s fun vs s => It σ (CmpL (fun v Q σ => tup2 v fun a b => wp c E.nx Q [] (some b :: some a :: fr.map (getS ls)) σ) (fun v σ => wp k E Q (v :: s) ls σ) σ) it vs
  | .dct k, E, Q, s, ls, σ => ∀ a, σ a = none → wp k E Q (.ref a :: s) ls (upd σ a (.dict []))
  | .bld d k, E, Q, s, ls, σ => pop1 s fun o s => IsB σ (wp k E Q (o :: s) ls σ) d o
  | .ret, E, Q, s, ls, σ => pop1 s fun v q_ => Q (.ret v) ls σ
  | .fin, E, Q, s, ls, σ => Q .next ls σ
  | .brk, E, Q, s, ls, σ => Q .brk ls σ
  | .cnt, E, Q, s, ls, σ => Q .cont ls σ
  | .raz, E, Q, s, ls, σ => Nat.ble 1 E.d = true ∧ E.X σ
  | .trs c i v k, E, Q, s, ls, σ => wp c ⟨E.g, E.d, fun σ => wp k E Q [] (setS [] i v) σ⟩ (tryC (fun ls σ => wp k E Q [] ls σ) Q) [] ls σ
  | .clv n k, E, Q, s, ls, σ => popN n [] s fun vs s => pop1 s fun f s => Clv σ f (Pv E tcall (f :: vs) (fun v σ => wp k E Q (v :: s) ls σ) σ)
  | .cll fn P q fr c k, E, Q, s, ls, σ => Cll E fn P q (fr.map (getS ls)) (fun d X K σ => wp c ⟨E.g, d, X⟩ (retC K) [] (fr.map (getS ls)) σ) (fun v σ => wp k E Q (v :: s) ls σ) σ
  | .bad, _, _, _, _, _ => False
section
variable {k k' : Cd} {E : En} {Q : Fw → Ls → MH → Prop} {a b : V} {s : List V} {ls : Ls} {σ : MH}
theorem run_bin {op} (h : wp (.bin op k) E Q (b :: a :: s) ls σ) : Pv E (t2 (binaryOp op)) [a, b] (fun v σ => wp k E Q (v :: s) ls σ) σ := binQ.run h
theorem run_inp {op} (h : wp (.inp op k) E Q (b :: a :: s) ls σ) : Pv E (t2 (inplaceOp op)) [a, b] (fun v σ => wp k E Q (v :: s) ls σ) σ := inpQ.run h
theorem run_cmp {op} (h : wp (.cmp op k) E Q (b :: a :: s) ls σ) : Pv E (t2 (compareOp op)) [a, b] (fun v σ => wp k E Q (v :: s) ls σ) σ := cmpQ.run h
theorem run_una {op} (h : wp (.una op k) E Q (a :: s) ls σ) : Pv E (t1 (unaryOp op)) [a] (fun v σ => wp k E Q (v :: s) ls σ) σ := unaQ.run h
theorem run_chn {op} (h : wp (.chn op k k') E Q (b :: a :: s) ls σ) : Pv E (t2 (compareOp op)) [a, b] (fun v σ => boolQ v fun t => brk2 (wp k E Q (b :: s) ls σ) (wp k' E Q s ls σ) t) σ := cmpQ.run h
end
end Mn
set_option genInjectivity false
namespace Mn
open PySem.SeqAt

structure Tabs where
  gf : List (Str × Addr)
  gi : List (Str × Int)
  bt : List (Str × V)
  mt : List (Str × (Addr × Addr))
  cf : List (Str × Addr)
  H : Addr
  cX : Addr
  lt : List (Addr × (Addr × Addr × Str))
noncomputable def okName (x : Str) : Bool := x != "__debug__" && x != "__name__" && x != "__classdict__"
structure GfOk (K : Frag) (a : Addr) (x : Str) : Prop where
  ns : nsIn K mainGlobals x = some (some (.ref a))
  kp : keepIn K (.ref a) = true
structure BtOk (K : Frag) (v : V) (x : Str) : Prop where
  ns : nsIn K mainGlobals x = some none
  at_ : ∃ rv, bootBuiltins x = some rv ∧ ∀ h, VRel h v rv
  kp : keepV K v = true
structure TabsOk (T : Tabs) (K : Frag) : Prop where
  gf : ∀ x a, T.gf.lookup x = some a → GfOk K a x
  gi : ∀ x i, T.gi.lookup x = some i → ∃ t, nsIn K mainGlobals x = some (some (.int i t))
  bt : ∀ x v, T.bt.lookup x = some v → BtOk K v x
  mt : ∀ x c, T.mt.lookup x = some c → methK K c.1 x c.2 = true
  cf : ∀ x fn, T.cf.lookup x = some fn → ∃ mc, clsFnK K T.H mc x fn
  ex : ∃ N fI fd, ExcOk K T.cX N fI fd
structure Gm where
  T : Tabs
  ns : List Str
  kd : List (Str × NameKind)
  lot : Option (Addr × Addr × Str)
structure GOk (Γ : Gm) (κ : Cx) : Prop where
  tabs : TabsOk Γ.T κ.φ.g.K
  gk : ∀ x, Γ.kd.lookup x = some .globalImplicit → κ.φ.f.env.kindOf x = some .globalImplicit
  ce : ∀ x, Γ.kd.lookup x = some .cell → κ.φ.f.env.kindOf x = some .cell ∧ ∃ c, κ.φ.f.env.cells.lookup x = some c
  lt : ∀ c P q, Γ.lot = some (c, P, q) → LotF κ.φ c P q
theorem GOk.nx {Γ κ} (G : GOk Γ κ) : GOk Γ κ.nx := ⟨G.tabs, G.gk, G.ce, G.lt⟩

noncomputable def form : PySem.Expr → Nat
  | .Name .. => 1
  | .Attribute .. => 2
  | .Subscript .. => 3
  | .Constant .. => 4
  | .Call .. => 5
  | .BinOp .. => 6
  | .Tuple .. => 7
  | .List .. => 8
  | .UnaryOp .. => 9
  | .Compare .. => 10
  | .BoolOp .. => 11
  | .IfExp .. => 12
  | .ListComp .. => 13
  | .Dict .. => 14
  | .Lambda .. => 15
  | _ => 0
structure Form (e : PySem.Expr) : Prop where
  star : ∀ es env, starEach (e :: es) env = (false, eval e env) :: starEach es env
  marks : ∀ op, behindInMarks op e = false
  sub : ∀ ro ri, subscripted e false ro ri = operate [ro, ri] (getItem ro ri)
  aug : ∀ ov iv new, augStore e ov iv new = (do holding [new, ov, iv] (setItem ov iv new); release [new, ov, iv] []; pure .next)
  set : ∀ env x, foldedSetIterable e env x = pure x
  asg : ∀ env ts, assignEach (e :: ts) env = (false, assign e env) :: assignEach ts env
theorem Form.of {e : PySem.Expr} (h : form e ≠ 0) : Form e := by
  cases e <;> first | exact ⟨fun q_ q_ => rfl, fun q_ => rfl, fun q_ q_ => rfl, fun q_ q_ q_ => rfl, fun q_ q_ => rfl, fun q_ q_ => rfl⟩ | exact absurd rfl h
noncomputable def plainB : PySem.Expr → Bool
  | .Call _ [] _ _ => false
  | _ => true
theorem base_of {e : PySem.Expr} (h : form e ≠ 0) (h5 : plainB e = true) (a : Str) (env : Env) (w : Sem Value) : attributeBase e a env w = w := by
  cases e with
  | Call f as ks p =>
    cases as with
    | nil => cases h5
    | cons b bs =>
      cases f <;> rfl
  | _ => first | rfl | exact absurd rfl h
theorem swap_of {e : PySem.Expr} (h : form e ≠ 0) (h5 : form e ≠ 13) (t : Option PySem.Expr) (n : Nat) (env : Env) : swapsWith e t n env = pure false := by
  cases e <;> first | rfl | exact absurd rfl h5 | exact absurd rfl h
theorem true_of {e : PySem.Expr} (h : form e ≠ 0) (h5 : form e < 6) (env : Env) (w : Sem Value) : isTrue e env w = (do let v ← w; standAt e.pos; holding [v] (truthy v)) := by
  cases e <;> first | rfl | exact absurd rfl h | exact absurd (Nat.blt_eq.mpr h5 : _) Bool.false_ne_true

section
variable (Γ : Gm)
noncomputable abbrev KE (e : PySem.Expr) := { c : Cd → Cd // ∀ {κ Q k s ls σ}, GOk Γ κ → wp (c k) κ.en Q s ls σ → WE κ e (fun v l σ => l = toL Γ.ns ls ∧ wp k κ.en Q (v :: s) ls σ) (toL Γ.ns ls) σ }
noncomputable abbrev KB (e : PySem.Expr) := { c : Cd → Cd → Cd // ∀ {κ Q a b s ls σ}, GOk Γ κ → wp (c a b) κ.en Q s ls σ → WB κ e (fun t l σ => l = toL Γ.ns ls ∧ brk2 (wp a κ.en Q s ls σ) (wp b κ.en Q s ls σ) t) (toL Γ.ns ls) σ }
noncomputable abbrev KL (es : List PySem.Expr) := { c : Cd → Cd // (∀ {κ Q k s ls σ}, GOk Γ κ → wp (c k) κ.en Q s ls σ → WArgs κ es (fun vs l σ => l = toL Γ.ns ls ∧ vs.length = es.length ∧ wp k κ.en Q (vs.reverse ++ s) ls σ) (toL Γ.ns ls) σ) ∧ (∀ env, (starEach es env).all (fun x => !x.1) = true) }
end
noncomputable abbrev KE.c {Γ : Gm} {e : PySem.Expr} (x : KE Γ e) : Cd → Cd := x.1
theorem KE.ok {Γ : Gm} {e : PySem.Expr} (x : KE Γ e) : ∀ {κ Q k s ls σ}, GOk Γ κ → wp (x.1 k) κ.en Q s ls σ → WE κ e (fun v l σ => l = toL Γ.ns ls ∧ wp k κ.en Q (v :: s) ls σ) (toL Γ.ns ls) σ := x.2
noncomputable abbrev KB.c {Γ : Gm} {e : PySem.Expr} (x : KB Γ e) : Cd → Cd → Cd := x.1
theorem KB.ok {Γ : Gm} {e : PySem.Expr} (x : KB Γ e) : ∀ {κ Q a b s ls σ}, GOk Γ κ → wp (x.1 a b) κ.en Q s ls σ → WB κ e (fun t l σ => l = toL Γ.ns ls ∧ brk2 (wp a κ.en Q s ls σ) (wp b κ.en Q s ls σ) t) (toL Γ.ns ls) σ := x.2
noncomputable abbrev KL.c {Γ : Gm} {es : List PySem.Expr} (x : KL Γ es) : Cd → Cd := x.1
theorem KL.ok {Γ : Gm} {es : List PySem.Expr} (x : KL Γ es) : ∀ {κ Q k s ls σ}, GOk Γ κ → wp (x.1 k) κ.en Q s ls σ → WArgs κ es (fun vs l σ => l = toL Γ.ns ls ∧ vs.length = es.length ∧ wp k κ.en Q (vs.reverse ++ s) ls σ) (toL Γ.ns ls) σ := x.2.1
theorem KL.pl {Γ : Gm} {es : List PySem.Expr} (x : KL Γ es) : ∀ env, (starEach es env).all (fun x => !x.1) = true := x.2.2
section
variable {Γ : Gm} {κ : Cx} {l : Loc} {σ : MH}
theorem popN_rev {K : List V → List V → Prop} {s : List V} : ∀ (n : Nat) (vs acc : List V), vs.length = n → popN n acc (vs.reverse ++ s) K → K (vs ++ acc) s
  | 0, [], _, _, h => h
  | n + 1, vs, acc, hn, h => by
    obtain ⟨ws, w, rfl⟩ : ∃ ws w, vs = ws ++ [w] := ⟨_, _, (List.dropLast_concat_getLast (fun z => by rw [z] at hn; cases hn)).symm⟩
    rw [List.reverse_append] at h
    rw [List.append_assoc]
    exact popN_rev n ws (w :: acc) (by rw [List.length_append] at hn; exact Nat.succ.inj hn) h
theorem WE.then {e l0} {P : V → MH → Prop} {Q : V → Loc → MH → Prop} (h : WE κ e (fun v l1 σ1 => l1 = l0 ∧ P v σ1) l σ) (k : ∀ v σ, P v σ → Q v l0 σ) : WE κ e Q l σ := h.mono fun v l σ h => h.1 ▸ k v σ h.2
theorem WB.then {e l0} {P : Bool → MH → Prop} {Q : Bool → Loc → MH → Prop} (h : WB κ e (fun v l1 σ1 => l1 = l0 ∧ P v σ1) l σ) (k : ∀ v σ, P v σ → Q v l0 σ) : WB κ e Q l σ := h.mono fun v l σ h => h.1 ▸ k v σ h.2
theorem WArgs.then {es l0} {P : List V → MH → Prop} {Q : List V → Loc → MH → Prop} (h : WArgs κ es (fun v l1 σ1 => l1 = l0 ∧ P v σ1) l σ) (k : ∀ v σ, P v σ → Q v l0 σ) : WArgs κ es Q l σ := fun A s δ p G F => (h A s δ p G F).mono fun v l σ h => h.1 ▸ k v σ h.2
theorem asB_of {K : Bool → Prop} {v : V} (h : boolQ v K) : asB K v := by
  cases v with
  | bool b => exact .mk b h
  | _ => exact h.elim
theorem boolQ.mono {K K' : Bool → Prop} {v : V} (h : boolQ v K) (k : ∀ b, K b → K' b) : boolQ v K' := by
  cases v with
  | bool b => exact k b h
  | _ => exact h
theorem brk2.mono {P P' R R' : Prop} {b : Bool} (h : brk2 P R b) (p : P → P') (r : R → R') : brk2 P' R' b := by
  cases b
  · exact r h
  · exact p h
theorem optQ_some {α : Type} {o : Option α} {K : α → Prop} (h : optQ o K False) : ∃ a, o = some a ∧ K a := by
  cases o with
  | none => exact h.elim
  | some a => exact ⟨a, rfl, h⟩
noncomputable def eL (f : ∀ e, Option (KE Γ e)) : (es : List PySem.Expr) → Option (KL Γ es)
  | [] => some ⟨fun k => k, fun q_ h => WArgs.nil ⟨rfl, rfl, h⟩, fun q_ => rfl⟩
  | e :: es => if hf : form e ≠ 0 then (f e).bind fun x => (eL f es).bind fun y => some ⟨fun k => x.c (y.c k), fun {κ Q k s ls σ} G h =>
      WArgs.cons ((x.ok G h).then fun v σ h => (y.ok G h).then fun vs σ h => ⟨rfl, congrArg (· + 1) h.1, by rw [List.reverse_cons, List.append_assoc]; exact h.2⟩) ((Form.of hf).star _ _),
      fun env => by rw [(Form.of hf).star]; exact y.pl env⟩ else none
noncomputable def eB1 (f : ∀ e, Option (KE Γ e)) (r : ∀ e, Option (KB Γ e)) : (e : PySem.Expr) → Option (KB Γ e)
  | .UnaryOp .Not e p => (r e).bind fun x => some ⟨fun a b => x.c b a, fun G h => WB.not ((x.ok G h).then fun t σ h => ⟨rfl, by cases t <;> exact h⟩)⟩
  | .BoolOp .And [e1, e2] p => (r e1).bind fun x => (r e2).bind fun y => some ⟨fun a b => x.c (y.c a b) b, fun G h => WB.all (WAll.andC ((x.ok G h).then fun t σ h =>
      h.mono (fun h => WAll.andC ((y.ok G h).then fun t σ h => h.mono (fun h => WAll.andN ⟨rfl, h⟩) fun h => ⟨rfl, h⟩)) fun h => ⟨rfl, h⟩))⟩
  | .BoolOp .Or [e1, e2] p => (r e1).bind fun x => (r e2).bind fun y => some ⟨fun a b => x.c a (y.c a b), fun G h => WB.all (WAll.orC ((x.ok G h).then fun t σ h =>
      h.mono (fun h => ⟨rfl, h⟩) fun h => WAll.orC ((y.ok G h).then fun t σ h => h.mono (fun h => ⟨rfl, h⟩) fun h => WAll.orN ⟨rfl, h⟩)))⟩
  | .BoolOp .And [e1, e2, e3] p => (r e1).bind fun x => (r e2).bind fun y => (r e3).bind fun z => some ⟨fun a b => x.c (y.c (z.c a b) b) b, fun G h => WB.all (WAll.andC ((x.ok G h).then fun t σ h =>
      h.mono (fun h => WAll.andC ((y.ok G h).then fun t σ h => h.mono (fun h => WAll.andC ((z.ok G h).then fun t σ h => h.mono (fun h => WAll.andN ⟨rfl, h⟩) fun h => ⟨rfl, h⟩)) fun h => ⟨rfl, h⟩)) fun h => ⟨rfl, h⟩))⟩
  | .BoolOp .Or [e1, e2, e3] p => (r e1).bind fun x => (r e2).bind fun y => (r e3).bind fun z => some ⟨fun a b => x.c a (y.c a (z.c a b)), fun G h => WB.all (WAll.orC ((x.ok G h).then fun t σ h =>
      h.mono (fun h => ⟨rfl, h⟩) fun h => WAll.orC ((y.ok G h).then fun t σ h => h.mono (fun h => ⟨rfl, h⟩) fun h => WAll.orC ((z.ok G h).then fun t σ h => h.mono (fun h => ⟨rfl, h⟩) fun h => WAll.orN ⟨rfl, h⟩))))⟩
  | .Compare e1 [.Is] [.Constant .none kk pp] p => (f e1).bind fun x => some ⟨fun a b => x.c (.isn true (.br a b)), fun G h =>
      WB.cmp1 ((x.ok G h).then fun v σ h => WE.cNone (PV.isNone h.1 (.mk _ ⟨rfl, h.2⟩))) rfl⟩
  | .Compare e1 [.IsNot] [.Constant .none kk pp] p => (f e1).bind fun x => some ⟨fun a b => x.c (.isn false (.br a b)), fun G h =>
      WB.cmp1 ((x.ok G h).then fun v σ h => WE.cNone (PV.isNotNone h.1 (.mk _ ⟨rfl, h.2⟩))) rfl⟩
  | .Compare e1 [op] [e2] p => if hf : form e2 ≠ 0 then (f e1).bind fun x => (f e2).bind fun y => some ⟨fun a b => x.c (y.c (.cmp op (.br a b))), fun G h =>
      WB.cmp1 ((x.ok G h).then fun v σ h => (y.ok G h).then fun w σ h => (run_cmp h).at.mono fun r σ h => asB_of (h.mono fun t h => ⟨rfl, h⟩)) ((Form.of hf).marks op)⟩ else none
  | .Compare e1 [op1, op2] [e2, e3] p => if hf : form e3 ≠ 0 then (f e1).bind fun x => (f e2).bind fun y => (f e3).bind fun z => some ⟨fun a b => x.c (y.c (.chn op1 (z.c (.cmp op2 (.br a b))) b)), fun G h =>
      WB.cmp2 ((x.ok G h).then fun v σ h => (y.ok G h).then fun w σ h => (run_chn h).at.mono fun r σ h => asB_of (h.mono fun t h => h.mono (fun h => (z.ok G h).then fun w σ h => (run_cmp h).at.mono fun r σ h => asB_of (h.mono fun t h => ⟨rfl, h⟩))
        fun h => ⟨rfl, h⟩)) ((Form.of hf).marks op2)⟩ else none
  | e => if hf : form e ≠ 0 ∧ form e < 6 then (f e).bind fun x => some ⟨fun a b => x.c (.br a b), fun G h => WB.val (true_of hf.1 hf.2) ((x.ok G h).then fun v σ h => asB_of (h.mono fun t h => ⟨rfl, h⟩))⟩ else none
noncomputable def eB (f : ∀ e, Option (KE Γ e)) : Nat → (e : PySem.Expr) → Option (KB Γ e)
  | 0 => eB1 f fun q_ => none
  | n + 1 => eB1 f (eB f n)
end
end Mn
set_option genInjectivity false
namespace Mn
open PySem.SeqAt

noncomputable abbrev FE := ∀ Γ e, Option (KE Γ e)
section
variable {Γ : Gm} {κ : Cx} {l : Loc} {σ : MH}
structure OkN (x : Str) : Prop where
  db : (x == ("__debug__" : Str)) = false
  nm : x ≠ "__name__"
  cd : (x == ("__classdict__" : Str)) = false
theorem okN {x : Str} (h : okName x = true) : OkN x := by
  unfold okName at h; simp only [Bool.and_eq_true, bne_iff_ne, ne_eq] at h
  exact ⟨beq_eq_false_iff_ne.mpr h.1.1, h.1.2, beq_eq_false_iff_ne.mpr h.2⟩
noncomputable def eName (Γ : Gm) (x : Str) (p : Pos) : Option (KE Γ (.Name x p)) :=
  if hn : okName x = true then
    match hs : slot Γ.ns x with
    | some i => some ⟨.ld i, fun {κ Q k s ls σ} G h => by
        obtain ⟨v, hv, h⟩ := optQ_some h
        exact WE.loc ((toL_get hs).trans hv) ⟨rfl, h⟩ (okN hn).db (okN hn).cd⟩
    | none => if hk : Γ.kd.lookup x = some .globalImplicit then
        match hi : Γ.T.gi.lookup x, hg : Γ.T.gf.lookup x, hb : Γ.T.bt.lookup x with
        | some i, _, _ => some ⟨.lit (.int i), fun G h => by
            obtain ⟨t, e⟩ := G.tabs.gi x i hi
            exact WE.glob e (G.gk x hk) (fun q_ => .int _ _) ⟨rfl, h⟩ (okN hn).db⟩
        | none, some a, _ => some ⟨.lit (.ref a), fun G h => WE.glob (G.tabs.gf x a hg).ns (G.gk x hk) (fun q_ => .ref _) ⟨rfl, h⟩ (okN hn).db⟩
        | none, none, some v => some ⟨.lit v, fun G h => by
            obtain ⟨e, ⟨rv, e2, e3⟩, _⟩ := G.tabs.bt x v hb
            exact WE.builtin e e2 (G.gk x hk) e3 ⟨rfl, h⟩ (okN hn).nm (okN hn).db⟩
        | none, none, none => none
      else none
  else none
noncomputable abbrev KF (Γ : Gm) (x : Str) := { v : V // ∀ {κ p l σ} {Q : V → Loc → MH → Prop}, GOk Γ κ → (keepV κ.φ.g.K v = true → Q v l σ) → WE κ (.Name x p) Q l σ }
noncomputable abbrev KF.v {Γ : Gm} {x' : Str} (x : KF Γ x') : V := x.1
theorem KF.ok {Γ : Gm} {x' : Str} (x : KF Γ x') : ∀ {κ p l σ} {Q : V → Loc → MH → Prop}, GOk Γ κ → (keepV κ.φ.g.K x.1 = true → Q x.1 l σ) → WE κ (.Name x' p) Q l σ := x.2
noncomputable def eFn (Γ : Gm) (x : Str) : Option (KF Γ x) :=
  if hn : okName x = true ∧ Γ.kd.lookup x = some .globalImplicit then
    match hg : Γ.T.gf.lookup x, hb : Γ.T.bt.lookup x with
    | some a, _ => some ⟨.ref a, fun G h => WE.glob (G.tabs.gf x a hg).ns (G.gk x hn.2) (fun q_ => .ref _) (h (G.tabs.gf x a hg).kp) (okN hn.1).db⟩
    | none, some v => some ⟨v, fun G h => by
        obtain ⟨e, ⟨rv, e2, e3⟩, kp⟩ := G.tabs.bt x v hb
        exact WE.builtin e e2 (G.gk x hn.2) e3 (h kp) (okN hn.1).nm (okN hn.1).db⟩
    | none, none => none
  else none
theorem all_back {pos : Pos} : ∀ {xs : List (Bool × Sem Value)}, xs.all (fun x => !x.1) = true → ((backTo pos xs).all (!·.1)) = true
  | [], _ => rfl
  | x :: r, hx => by
    rw [List.all_cons, Bool.and_eq_true] at hx
    show (!x.1 && (backTo pos r).all (!·.1)) = true
    rw [hx.1, all_back hx.2]; rfl
theorem eval_meth {o : PySem.Expr} {x : Str} {apos pos : Pos} {args : List PySem.Expr} {env : Env} (hf : form o ≠ 0 ∧ plainB o = true) (hn : args.length < 30) (hp : (apos.endLine == pos.line) = true) (ha : (starEach args env).all (fun x => !x.1) = true) :
    eval (.Call (.Attribute o x apos) args [] pos) env = (do
      let ov ← eval o env
      standAt apos.atName
      let (f', first) ← holding [ov] (getMethod ov x (do return (← importBound o env).getD true))
      callWith pos f' first (backTo pos (starEach args env)) (backToKw pos (keywordEach [] env))) := by
  have hm : methodCallForm (args.length + 0) (backTo pos (starEach args env)) (backToKw pos (keywordEach [] env)) = true := by
    unfold methodCallForm
    rw [all_back ha]
    exact decide_eq_true (show args.length + 0 + 0 < 30 from hn)
  show (do
    let ov ← attributeBase o x env (eval o env)
    standAt apos.atName
    methodCall o x apos pos env ov (args.length + 0) (backTo pos (starEach args env)) (backToKw pos (keywordEach [] env))) = _
  rw [base_of hf.1 hf.2]
  unfold methodCall calleeOf methodCallPos
  rw [hm]
  rw [hp]; rfl
theorem KL.at {es : List PySem.Expr} (x : KL Γ es) {Q s ls k σ} {fv v : V} (G : GOk Γ κ) (h : wp (x.c (.call fv (es.length + 1) k)) κ.en Q (v :: s) ls σ) :
    WArgs κ es (fun vs l2 σ2 => PV κ tcall (fv :: v :: vs) (fun r σ3 => l2 = toL Γ.ns ls ∧ wp k κ.en Q (r :: s) ls σ3) σ2) (toL Γ.ns ls) σ := (x.ok G h).then fun vs σ h => by
  have := popN_rev (es.length + 1) (v :: vs) [] (congrArg (· + 1) h.1) (K := fun vs s => Pv κ.en tcall (fv :: vs) (fun v σ => wp k κ.en Q (v :: s) ls σ) σ) (s := s) (by rw [List.reverse_cons, List.append_assoc]; exact h.2)
  rw [List.append_nil] at this
  exact this.at.mono fun r σ h => ⟨rfl, h⟩
noncomputable def eCall (f : FE) (Γ : Gm) (apos pos : Pos) (o : PySem.Expr) (x : Str) (args : List PySem.Expr) : Option (KE Γ (.Call (.Attribute o x apos) args [] pos)) :=
  if hc : (form o ≠ 0 ∧ plainB o = true) ∧ args.length < 30 ∧ (apos.endLine == pos.line) = true then
    if hx : x = "append" then
      (f Γ o).bind fun y => (eL (f Γ) args).bind fun z => some ⟨fun k => y.c (.ald (z.c (.call (.bi "list.append") (args.length + 1) k))), fun G h => by
        subst hx
        exact WE.methB bm_append ((y.ok G h).then fun v σ h => (by cases h with
          | mk a xs hσ q => exact ⟨a, rfl, ⟨xs, hσ⟩, z.at G q⟩)) (eval_meth hc.1 hc.2.1 hc.2.2 (z.pl _)) (z.pl _)⟩
    else match bmOf x args.length with
    | some b => (f Γ o).bind fun y => (eL (f Γ) args).bind fun z => some ⟨fun k => y.c (.bld b.d (z.c (.call (.bi b.id) (args.length + 1) k))), fun G h =>
        WE.methB b.ok ((y.ok G h).then fun v σ h => (by
          have h : IsB σ _ b.d v := h
          generalize b.d = d at h ⊢
          cases h with
          | list a xs hσ q => exact ⟨a, rfl, ⟨xs, hσ⟩, z.at G q⟩
          | dict a P hσ q => exact ⟨a, rfl, ⟨P, hσ⟩, z.at G q⟩)) (eval_meth hc.1 hc.2.1 hc.2.2 (z.pl _)) (z.pl _)⟩
    | none =>
      match hm : Γ.T.mt.lookup x with
      | some fn => (f Γ o).bind fun y => (eL (f Γ) args).bind fun z => some ⟨fun k => y.c (.mld fn.1 x (z.c (.call (.ref fn.2) (args.length + 1) k))), fun G h => WE.methI ((y.ok G h).then fun v σ h => (by cases h with
          | mk a fs hσ hx q => exact ⟨a, _, fs, fn.2, rfl, hσ, G.tabs.mt x fn hm, hx, z.at G q⟩)) (eval_meth hc.1 hc.2.1 hc.2.2 (z.pl _)) (z.pl _)⟩
      | none => none
  else none
end
end Mn
set_option genInjectivity false
namespace Mn
open PySem.SeqAt

section
variable {Γ : Gm} {κ : Cx} {l : Loc} {σ : MH}
structure KI (Γ : Gm) (tgt e : PySem.Expr) where
  it : Nat
  n : Nat
  c : Cd → Cd
  ok : ∀ {κ Q k s ls σ} {K : MH → List V → (MH → Prop) → Prop}, GOk Γ κ → (∀ vs σ, vs.length = n → wp k κ.en Q (vs.reverse ++ s) ls σ → It σ (K σ) it vs) → wp (c k) κ.en Q s ls σ →
    WIt κ tgt e (fun ys Inv l σ => l = toL Γ.ns ls ∧ K σ ys Inv) (toL Γ.ns ls) σ
noncomputable def eVal (f : FE) (Γ : Gm) (tgt e : PySem.Expr) : Option (KI Γ tgt e) := (f Γ e).bind fun x => some ⟨0, 1, x.c, fun G hk h => WIt.val ((x.ok G h).then fun v σ h => by
  cases hk [v] σ rfl h with
  | val v ys Inv s q => exact ⟨ys, Inv, s, rfl, q⟩)⟩
noncomputable def eIt (f : FE) (Γ : Gm) : (tgt e : PySem.Expr) → Option (KI Γ tgt e)
  | tgt, .Call (.Name g pg) args [] p => (eFn Γ g).bind fun F => (eL (f Γ) args).bind fun x =>
    match F, tgt with
    | ⟨.typ "range", hF⟩, tgt => some ⟨1, args.length, x.c, fun G hk h => WIt.call (hF G fun kp => ⟨kp, (x.ok G h).then fun vs σ h => by
        cases hk vs σ h.1 h.2 with
        | range1 n hn q => exact WItC.range1 hn ⟨rfl, q⟩
        | range2 a b ha hb q => exact WItC.range2 ha hb ⟨rfl, q⟩⟩) rfl (x.pl _)⟩
    | ⟨.typ "reversed", hF⟩, tgt => some ⟨2, args.length, x.c, fun G hk h => WIt.call (hF G fun kp => ⟨kp, (x.ok G h).then fun vs σ h => by
        cases hk vs σ h.1 h.2 with
        | rev a ys hl q => exact WItC.rev hl ⟨rfl, q⟩⟩) rfl (x.pl _)⟩
    | ⟨.typ "enumerate", hF⟩, .Tuple elts tk tp => some ⟨3, args.length, x.c, fun G hk h => WIt.call (hF G fun kp => ⟨kp, (x.ok G h).then fun vs σ h => by
        cases hk vs σ h.1 h.2 with
        | enum a ys hl q => exact WItC.enum hl ⟨rfl, q⟩⟩) rfl (x.pl _)⟩
    | _, tgt => eVal f Γ tgt (.Call (.Name g pg) args [] p)
  | tgt, e => eVal f Γ tgt e

noncomputable def frees (ns : List Str) : List (Str × NameKind) → Option (List Str × List Nat)
  | [] => some ([], [])
  | (y, k) :: r => (frees ns r).bind fun q => if k = .free then (slot ns y).map fun i => (y :: q.1, i :: q.2) else some q
set_option tactic.hygienic true in
theorem frees_ok {ns : List Str} {ls : Ls} : ∀ {names : List (Str × NameKind)} {q}, frees ns names = some q → ∀ y, toL q.1 (q.2.map (getS ls)) y = open Classical in if (y, NameKind.free) ∈ names then toL ns ls y else none
  | [], q, h, y => by cases h; exact (if_neg (fun z => nomatch z)).symm
  | (x, k) :: r, q, h, y => by
    obtain ⟨q', h1, h2⟩ := Option.bind_eq_some_iff.mp h
    have ih := frees_ok (ls := ls) h1 y
    split at h2
    · rename_i hk
      obtain ⟨i, hi, rfl⟩ := Option.map_eq_some_iff.mp h2
      show (if y = x then getS ls i else toL q'.1 (q'.2.map (getS ls)) y) = _
      by_cases z : y = x
      · rw [if_pos z, if_pos (by rw [z, hk]; exact .head _), z]; exact (toL_get hi).symm
      · rw [if_neg z, ih]
        by_cases w : (y, NameKind.free) ∈ r
        · rw [if_pos w, if_pos (.tail _ w)]
        · rw [if_neg w, if_neg fun q => (List.mem_cons.mp q).elim (fun e => z (Prod.mk.inj e).1) w]
    · rename_i hk
      cases h2
      rw [ih]
      by_cases w : (y, NameKind.free) ∈ r
      · rw [if_pos w, if_pos (.tail _ w)]
      · rw [if_neg w, if_neg fun q => (List.mem_cons.mp q).elim (fun e => hk (Prod.mk.inj e).2.symm) w]
structure CompG (Γ : Gm) (scope : Scope) : Prop where
  all : ∀ y ∈ scope.names, y.2 ≠ .cell ∧ (y.2 = .local → scope.names.lookup y.1 = some .local) ∧ (y.2 = .free → scope.names.lookup y.1 = some .free ∧ Γ.kd.lookup y.1 = some .cell)
  kind : scope.kind = .function
theorem CompG.ok {scope : Scope} (c : CompG Γ scope) (G : GOk Γ κ) : CompOk κ.φ.f scope := ⟨fun y hy => (c.all y hy).1, c.kind, fun y hy => (c.all y hy).2.1, fun y hy e =>
  have h := (c.all y hy).2.2 e
  ⟨.inl (G.ce _ h.2).1, (G.ce _ h.2).2, h.1⟩⟩
noncomputable abbrev Gm.inner (Γ : Gm) (scope : Scope) (fn : List Str) : Gm := ⟨Γ.T, fn, scope.names, none⟩
theorem CompG.inner {scope : Scope} {fn} {f'} (c : CompG Γ scope) (G : GOk Γ κ) (cf : CompF κ.φ.f scope f') : GOk (Γ.inner scope fn) (κ.inner f') := ⟨G.tabs, fun y e => cf.kind e (fun z => nomatch z), fun y e => absurd rfl (c.all _ (mem_of_lookup e)).1, fun q_ q_ q_ e => nomatch e⟩
noncomputable abbrev KT (Γ : Gm) (ifs : List PySem.Expr) := { c : Cd → Cd → Cd // ∀ {κ Q a b s ls σ}, GOk Γ κ → wp (c a b) κ.en Q s ls σ → WTs κ ifs (fun t l σ => l = toL Γ.ns ls ∧ brk2 (wp a κ.en Q s ls σ) (wp b κ.en Q s ls σ) t) (toL Γ.ns ls) σ }
noncomputable abbrev KT.c {Γ : Gm} {ifs : List PySem.Expr} (x : KT Γ ifs) : Cd → Cd → Cd := x.1
theorem KT.ok {Γ : Gm} {ifs : List PySem.Expr} (x : KT Γ ifs) : ∀ {κ Q a b s ls σ}, GOk Γ κ → wp (x.1 a b) κ.en Q s ls σ → WTs κ ifs (fun t l σ => l = toL Γ.ns ls ∧ brk2 (wp a κ.en Q s ls σ) (wp b κ.en Q s ls σ) t) (toL Γ.ns ls) σ := x.2
noncomputable def eT (f : FE) (Γ : Gm) : (ifs : List PySem.Expr) → Option (KT Γ ifs)
  | [] => some ⟨fun a q_ => a, fun G h => WTs.nil ⟨rfl, h⟩⟩
  | [e] => (eB (f Γ) 4 e).bind fun x => some ⟨x.c, fun G h => WTs.one (x.ok G h)⟩
  | _ => none
structure KC (Γ : Gm) (elt : PySem.Expr) (tgt : PySem.Expr) (iter : PySem.Expr) (ifs : List PySem.Expr) (scope : Scope) where
  c : Cd → Cd
  ok : ∀ {κ Q k s ls σ}, GOk Γ κ → wp (c k) κ.en Q s ls σ → WIt κ tgt iter (CompQ κ scope tgt ifs elt fun v l σ => l = toL Γ.ns ls ∧ wp k κ.en Q (v :: s) ls σ) (toL Γ.ns ls) σ
  cg : CompG Γ scope
theorem WIt.mono {tgt e} {Q Q' : List V → (MH → Prop) → Loc → MH → Prop} (h : WIt κ tgt e Q l σ) (k : ∀ ys Inv l σ, Q ys Inv l σ → Q' ys Inv l σ) : WIt κ tgt e Q' l σ := fun A s δ G F =>
  wpAny_mono (h A s δ G F) (fun r s1 h => wpAny_mono h (fun it s2 ⟨l1, σ1, δ1, P, its, ys, Inv, F, E, hits, live, W, hP, q⟩ => ⟨l1, σ1, δ1, P, its, ys, Inv, F, E, hits, live, W, hP, k _ _ _ _ q⟩) fun q_ q_ e => e) fun q_ q_ e => e
structure KTg (scope : Scope) (tgt : PySem.Expr) where
  xs : List Str
  cd : Nat → Nat → List Nat → Cd → Cd → Cd
  tg : V → (Ls → Prop) → Prop
  hw : ∀ {it n fr c k E Q s ls σ}, wp (cd it n fr c k) E Q s ls σ → popN n [] s fun vs s => It σ (CmpL (fun v Q σ => tg v fun pre => wp c E.nx Q [] (pre ++ fr.map (getS ls)) σ) (fun v σ => wp k E Q (v :: s) ls σ) σ) it vs
  wa : ∀ {κ : Cx} {fn ls v σ} {K : Loc → MH → Prop}, (∀ x ∈ xs, κ.φ.f.env.kindOf x = some .local) → (tg v fun pre => K (toL (xs ++ fn) (pre ++ ls)) σ) → WA κ tgt v K (toL fn ls) σ
  loc : ∀ x ∈ xs, scope.names.lookup x = some .local
  mono : ∀ {v} {P P' : Ls → Prop}, tg v P → (∀ pre, P pre → P' pre) → tg v P'
noncomputable def eTgt (scope : Scope) : (tgt : PySem.Expr) → Option (KTg scope tgt)
  | .Name x px => if hx : scope.names.lookup x = some .local then
      some ⟨[x], .comp, fun v K => K [some v], fun h => h, fun hk h => WA.name (.inl (hk _ (.head _))) h, fun y hy => (List.mem_singleton.mp hy) ▸ hx, fun h k => k _ h⟩ else none
  | .Tuple [.Name x px, .Name y py] kk tp => if hx : scope.names.lookup x = some .local ∧ scope.names.lookup y = some .local then
      some ⟨[y, x], .comp2, fun v K => tup2 v fun a b => K [some b, some a], fun h => h, fun {κ fn ls v σ K} hk h => by
        cases v with
        | tup l =>
          match l, h with
          | [a, b], h => exact WA.tuple (WAs.cons (WA.name (.inl (hk _ (.tail _ (.head _)))) (WAs.cons (WA.name (.inl (hk _ (.head _))) (WAs.nil h)) rfl)) rfl) rfl rfl
        | _ => exact h.elim, fun z hz => by
        rcases List.mem_cons.mp hz with rfl | hz
        · exact hx.2
        · exact (List.mem_singleton.mp hz) ▸ hx.1, fun {v P P'} h k => by
        cases v with
        | tup l =>
          match l, h with
          | [a, b], h => exact k _ h
        | _ => exact h.elim⟩ else none
  | _ => none
noncomputable def eComp (f : FE) (Γ : Gm) (elt tgt iter : PySem.Expr) (ifs : List PySem.Expr) (scope : Scope) : Option (KC Γ elt tgt iter ifs scope) :=
  if hc : (∀ y ∈ scope.names, y.2 ≠ .cell ∧ (y.2 = .local → scope.names.lookup y.1 = some .local) ∧ (y.2 = .free → scope.names.lookup y.1 = some .free ∧ Γ.kd.lookup y.1 = some .cell)) ∧ scope.kind = .function then
    match hq : frees Γ.ns scope.names with
    | some q => (eTgt scope tgt).bind fun g => (eIt f Γ tgt iter).bind fun i => (eT f (Γ.inner scope (g.xs ++ q.1)) ifs).bind fun t => (f (Γ.inner scope (g.xs ++ q.1)) elt).bind fun e =>
      have cg : CompG Γ scope := ⟨hc.1, hc.2⟩
      some ⟨fun k => i.c (g.cd i.it i.n q.2 (t.c (e.c .ret) .cnt) k), fun {κ Q k s ls σ} G h => by
        refine (i.ok (K := fun σ => CmpL (fun v Q σ => g.tg v fun pre => wp (t.c (e.c .ret) .cnt) κ.en.nx Q [] (pre ++ q.2.map (getS ls)) σ) (fun v σ => wp k κ.en Q (v :: s) ls σ) σ) G (fun vs σ hn h => ?_) h).mono fun ys Inv l σ h => ?_
        · have := popN_rev (s := s) i.n vs [] hn (g.hw h)
          rw [List.append_nil] at this
          exact this
        · obtain ⟨rfl, I, h0, acc, turn, fin⟩ := h
          refine ⟨I, fun D hD => ⟨acc D, fun f' k v a σ2 cf hv hI => ?_⟩, h0, fun D a σ2 hD hI => ⟨rfl, fin D a σ2 hD hI⟩⟩
          have eq : compLoc scope (toL Γ.ns ls) = toL q.1 (q.2.map (getS ls)) := funext fun y => by rw [frees_ok hq]; rfl
          rw [eq]
          have G' := cg.inner (fn := g.xs ++ q.1) G cf
          exact g.wa (fun x hx => cf.kind (g.loc x hx) (fun z => nomatch z)) (g.mono (turn D k v a σ2 hD hv hI) fun pre h => fun A s δ gg F => ((t.ok G' h) A s δ gg F).mono fun b l σ h => h.2.mono (fun h' => h.1 ▸ (e.ok G' h').mono fun v l σ h => h.2) id), cg⟩
    | none => none
  else none
end
end Mn
set_option genInjectivity false
namespace Mn
open PySem.SeqAt

section
variable {Γ : Gm} {κ : Cx} {l : Loc} {σ : MH}
theorem KL.pops {es : List PySem.Expr} (x : KL Γ es) {Q} {s : List V} {ls k} {K : List V → List V → MH → Prop} (G : GOk Γ κ) (h : wp (x.c k) κ.en Q s ls σ) (hk : ∀ (vs : List V) σ, wp k κ.en Q (vs.reverse ++ s) ls σ → popN es.length [] (vs.reverse ++ s) (fun vs s => K vs s σ)) :
    WArgs κ es (fun vs l σ => l = toL Γ.ns ls ∧ vs.length = es.length ∧ K vs s σ) (toL Γ.ns ls) σ := (x.ok G h).then fun vs σ h => ⟨rfl, h.1, by have := popN_rev _ vs [] h.1 (hk vs σ h.2); rwa [List.append_nil] at this⟩
theorem WBo.and2 {a b es} {Q : V → Loc → MH → Prop} (h : WE κ a (fun v l1 σ1 => boolQ v fun c => brk2 (WBo κ .And (b :: es) Q l1 σ1) (Q (.bool false) l1 σ1) c) l σ) : WBo κ .And (a :: b :: es) Q l σ := .andC (h.mono fun v l σ h => asB_of (h.mono fun c h => by
  cases c
  · rw [if_pos rfl]; exact h
  · rw [if_neg (fun z => nomatch z)]; exact h))
theorem WBo.or2 {a b es} {Q : V → Loc → MH → Prop} (h : WE κ a (fun v l1 σ1 => boolQ v fun c => brk2 (Q (.bool true) l1 σ1) (WBo κ .Or (b :: es) Q l1 σ1) c) l σ) : WBo κ .Or (a :: b :: es) Q l σ := .orC (h.mono fun v l σ h => asB_of (h.mono fun c h => by
  cases c
  · rw [if_neg (fun z => nomatch z)]; exact h
  · rw [if_pos rfl]; exact h))
variable (Γ) in
noncomputable abbrev KBo (op : BoolOp) (es : List PySem.Expr) := { c : Cd → Cd // ∀ {κ Q k s ls σ}, GOk Γ κ → wp (c k) κ.en Q s ls σ → WBo κ op es (fun v l σ => l = toL Γ.ns ls ∧ wp k κ.en Q (v :: s) ls σ) (toL Γ.ns ls) σ }
noncomputable abbrev KBo.c {Γ : Gm} {op : BoolOp} {es : List PySem.Expr} (x : KBo Γ op es) : Cd → Cd := x.1
theorem KBo.ok {Γ : Gm} {op : BoolOp} {es : List PySem.Expr} (x : KBo Γ op es) : ∀ {κ Q k s ls σ}, GOk Γ κ → wp (x.1 k) κ.en Q s ls σ → WBo κ op es (fun v l σ => l = toL Γ.ns ls ∧ wp k κ.en Q (v :: s) ls σ) (toL Γ.ns ls) σ := x.2
noncomputable def eBo (f : ∀ e, Option (KE Γ e)) : (op : BoolOp) → (es : List PySem.Expr) → Option (KBo Γ op es)
  | _, [] => none
  | _, [a] => (f a).bind fun x => some ⟨x.c, fun G h => WBo.last (x.ok G h)⟩
  | .And, a :: b :: es => (f a).bind fun x => (eBo f .And (b :: es)).bind fun y => some ⟨fun k => x.c (.br (y.c k) (.lit (.bool false) k)), fun G h => WBo.and2 ((x.ok G h).then fun v σ h => h.mono fun c h => h.mono (fun h => y.ok G h) fun h => ⟨rfl, h⟩)⟩
  | .Or, a :: b :: es => (f a).bind fun x => (eBo f .Or (b :: es)).bind fun y => some ⟨fun k => x.c (.br (.lit (.bool true) k) (y.c k)), fun G h => WBo.or2 ((x.ok G h).then fun v σ h => h.mono fun c h => h.mono (fun h => ⟨rfl, h⟩) fun h => y.ok G h)⟩
noncomputable def eClv (Γ : Gm) (g : Str) (pg p : Pos) : (args : List PySem.Expr) → Option (KE Γ (.Call (.Name g pg) args [] p))
  | [] => (eName Γ g pg).bind fun F => some ⟨fun k => F.c (.clv 0 k), fun {κ Q k s ls σ} G h => WE.callL ((F.ok G h).mono fun fv l1 σ1 q => by
      obtain ⟨rfl, a, o, fd, e, h1, h2, q⟩ := q
      exact WArgs.nil ⟨.inr ⟨a, o, fd, e, h1, h2⟩, PV.toL (q.at.mono fun v σ h => ⟨rfl, h⟩)⟩) rfl rfl⟩
  | _ => none
set_option tactic.hygienic true in
theorem frees_mem {ns : List Str} : ∀ {names : List (Str × NameKind)} {q x}, frees ns names = some q → (x, NameKind.free) ∈ names → ∃ i ∈ q.2, slot ns x = some i
  | [], q, x, _, h => nomatch h
  | (y, k) :: r, q, x, h, hx => by
    obtain ⟨q', h1, h2⟩ := Option.bind_eq_some_iff.mp h
    split at h2
    · obtain ⟨i, hi, rfl⟩ := Option.map_eq_some_iff.mp h2
      rcases List.mem_cons.mp hx with e | hx
      · cases e; exact ⟨i, .head _, hi⟩
      · obtain ⟨j, hj, e⟩ := frees_mem h1 hx; exact ⟨j, .tail _ hj, e⟩
    · rename_i hk
      cases h2
      rcases List.mem_cons.mp hx with e | hx
      · cases e; exact absurd rfl hk
      · exact frees_mem h1 hx
noncomputable def eCll (r : FE) (Γ : Gm) (g : Str) (pg p lp : Pos) (body : PySem.Expr) (scope : Scope) : Option (KE Γ (.Call (.Name g pg) [.Lambda noArgs body scope lp] [] p)) :=
  if hc : ((∀ y ∈ scope.names, y.2 ≠ .cell ∧ (y.2 = .local → scope.names.lookup y.1 = some .local) ∧ (y.2 = .free → scope.names.lookup y.1 = some .free ∧ Γ.kd.lookup y.1 = some .cell)) ∧ scope.kind = .function) ∧ scope.isCoroutine = false ∧ scope.isGenerator = false then
    match hl : Γ.lot, eFn Γ g, hq : frees Γ.ns scope.names with
    | some (c, P, q), some ⟨.ref fn, hF⟩, some fr => (r (Γ.inner scope fr.1) body).bind fun e => some ⟨fun k => .cll fn P q fr.2 (e.c .ret) k, fun {κ Q k s ls σ} G h => by
        have cg : CompG Γ scope := ⟨hc.1.1, hc.1.2⟩
        obtain ⟨d, hd, lot, hv, hh⟩ := h
        refine WE.lamcall hd (G.lt _ _ _ hl) (cg.ok G) hc.2.1 hc.2.2 (hF G fun kp => ⟨rfl, kp, rfl, rfl⟩) lot (fun x hx => ⟨(G.ce x ((cg.all _ hx).2.2 rfl).2).1, ?_⟩) (fun a σ2 Xc L => (hh a σ2 Xc ⟨L.lot, L.keep, L.cell, L.new, L.fn, fun {σ' d' X K} kr hw => L.call kr fun f fl lf => ?_⟩).mono (fun v σ' hq σ'' h1 h2 => ⟨rfl, hq σ'' h1 h2⟩) fun q_ x => x) rfl rfl
        · obtain ⟨i, hi, hs⟩ := frees_mem hq hx
          obtain ⟨w, e1, e2⟩ := hv _ (List.mem_map.mpr ⟨i, hi, rfl⟩)
          exact ⟨w, (toL_get hs).trans e1, e2⟩
        · obtain ⟨L', a', cd, clos, rfl⟩ := lf
          have eq : compLoc scope (toL Γ.ns ls) = toL fr.1 (fr.2.map (getS ls)) := funext fun y => by rw [frees_ok hq]; rfl
          rw [eq]
          exact (e.ok (κ := ⟨⟨κ.φ.g, envX q scope L' a' cd clos :: fl, ⟨envX q scope L' a' cd clos, [L']⟩⟩, d', X⟩) ⟨G.tabs, fun x e => e, fun y e => absurd rfl (cg.all _ (mem_of_lookup e)).1, fun q_ q_ q_ e => nomatch e⟩ hw).mono fun v l σ h => h.2⟩
    | _, _, _ => none
  else none
noncomputable def eE1 (r : FE) (Γ : Gm) (e : PySem.Expr) : Option (KE Γ e) := match e with
    | .Constant (.int i) _ _ => some ⟨.lit (.int i), fun G h => WE.cInt ⟨rfl, h⟩⟩
    | .Constant (.bool i) _ _ => some ⟨.lit (.bool i), fun G h => WE.cBool ⟨rfl, h⟩⟩
    | .Constant .none _ _ => some ⟨.lit .none, fun G h => WE.cNone ⟨rfl, h⟩⟩
    | .Constant (.bytes i) _ _ => some ⟨.lit (.bytes i.toArray), fun G h => WE.cBytes ⟨rfl, h⟩⟩
    | .Constant (.str i) _ _ => some ⟨.lit (.str i), fun G h => WE.cStr ⟨rfl, h⟩⟩
    | .Name x p => eName Γ x p
    | .Attribute o x p => if hf : form o ≠ 0 ∧ plainB o = true then (r Γ o).bind fun y => some ⟨fun k => y.c (.fld x k), fun G h => WE.attr ((y.ok G h).then fun v σ h => (Pv.at h).mono fun w σ h => ⟨rfl, h⟩) (base_of hf.1 hf.2 _ _ _)⟩ else none
    | .Subscript o (.Slice none (some u) none sp) p => (r Γ o).bind fun x => (r Γ u).bind fun y => some ⟨fun k => x.c (y.c (.slc false k)), fun G h => WE.sliceTo ((x.ok G h).then fun v σ h => (y.ok G h).then fun w σ h => by
        cases h with
        | mk a xs k hσ hz q => exact ⟨a, xs, k, hσ, hz, fun b hb => ⟨rfl, q b hb⟩⟩)⟩
    | .Subscript o (.Slice (some u) none none sp) p => (r Γ o).bind fun x => (r Γ u).bind fun y => some ⟨fun k => x.c (y.c (.slc true k)), fun G h => WE.sliceFrom ((x.ok G h).then fun v σ h => (y.ok G h).then fun w σ h => by
        cases h with
        | mk a xs k hσ hz q => exact ⟨a, xs, k, hσ, hz, fun b hb => ⟨rfl, q b hb⟩⟩)⟩
    | .Subscript o i p => if hf : form i ≠ 0 then (r Γ o).bind fun x => (r Γ i).bind fun y => some ⟨fun k => x.c (y.c (.ix k)), fun G h => WE.sub ((x.ok G h).then fun v σ h => (y.ok G h).then fun w σ h =>
        fun A s δ l ra rb gg F ha hb => have q := Pg.at h A s δ l ra rb gg F ha hb
          ⟨q.1, q.2.mono fun v l σ h => ⟨h.1, rfl, h.2⟩⟩) (Form.of hf).sub⟩ else none
    | .BinOp a op b p => (r Γ a).bind fun x => (r Γ b).bind fun y => some ⟨fun k => x.c (y.c (.bin op k)), fun G h => WE.binop ((x.ok G h).then fun v σ h => (y.ok G h).then fun w σ h => (run_bin h).at.mono fun r σ h => ⟨rfl, h⟩)⟩
    | .UnaryOp op a p => (r Γ a).bind fun x => some ⟨fun k => x.c (.una op k), fun G h => WE.unop ((x.ok G h).then fun v σ h => (run_una h).at.mono fun r σ h => ⟨rfl, h⟩)⟩
    | .Compare a [.Is] [.Constant .none kk pp] p => (r Γ a).bind fun x => some ⟨fun k => x.c (.isn true k), fun G h => WE.cmp1 ((x.ok G h).then fun v σ h => WE.cNone (PV.isNone h.1 ⟨rfl, h.2⟩)) rfl⟩
    | .Compare a [.IsNot] [.Constant .none kk pp] p => (r Γ a).bind fun x => some ⟨fun k => x.c (.isn false k), fun G h => WE.cmp1 ((x.ok G h).then fun v σ h => WE.cNone (PV.isNotNone h.1 ⟨rfl, h.2⟩)) rfl⟩
    | .Compare a [op] [b] p => if hf : form b ≠ 0 then (r Γ a).bind fun x => (r Γ b).bind fun y => some ⟨fun k => x.c (y.c (.cmp op k)), fun G h => WE.cmp1 ((x.ok G h).then fun v σ h => (y.ok G h).then fun w σ h => (run_cmp h).at.mono fun r σ h => ⟨rfl, h⟩) ((Form.of hf).marks op)⟩ else none
    | .BoolOp op es p => (eBo (r Γ) op es).bind fun x => some ⟨x.c, fun G h => WE.bo (x.ok G h)⟩
    | .Dict [] [] p => some ⟨.dct, fun G h => WE.dict0 fun a ha => ⟨rfl, h a ha⟩⟩
    | .IfExp t a b p => (eB (r Γ) 4 t).bind fun z => (r Γ a).bind fun x => (r Γ b).bind fun y => some ⟨fun k => z.c (x.c k) (y.c k), fun G h => WE.ifexp ((z.ok G h).then fun c σ h => h.mono (fun h => x.ok G h) fun h => y.ok G h)⟩
    | .Tuple es kk p => if hz : es.length ≤ 100 then (eL (r Γ) es).bind fun x => some ⟨fun k => x.c (.tup es.length k), fun {κ Q k s ls σ} G h => WE.tuple ((x.pops (K := fun vs s σ => wp k κ.en Q (.tup vs :: s) ls σ) G h fun vs σ h => h).then fun vs σ h => ⟨by rw [h.1]; exact Nat.le_trans hz (Nat.le_of_ble_eq_true rfl), rfl, h.2⟩)⟩ else none
    | .List es p => if hz : es.length ≤ 100 then (eL (r Γ) es).bind fun x => some ⟨fun k => x.c (.lst es.length k), fun {κ Q k s ls σ} G h => WE.list ((x.pops (K := fun vs s σ => ∀ a, σ a = none → wp k κ.en Q (.ref a :: s) ls (upd σ a (.list vs))) G h fun vs σ h => h).then fun vs σ h => ⟨by rw [h.1]; exact Nat.le_trans hz (Nat.le_of_ble_eq_true rfl), fun a ha => ⟨rfl, h.2 a ha⟩⟩)⟩ else none
    | .Call (.Name g pg) [.Lambda ⟨[], [], none, [], [], none, []⟩ body scope lp] [] p => eCll r Γ g pg p lp body scope
    | .Call (.Name g pg) args [] p => Option.or ((eFn Γ g).bind fun F => (eL (r Γ) args).bind fun x => some ⟨fun k => x.c (.call F.v args.length k), fun {κ Q k s ls σ} G h => WE.call (F.ok G fun kp => ⟨kp, (x.pops (K := fun vs s σ => Pv κ.en tcall (F.v :: vs) (fun v σ => wp k κ.en Q (v :: s) ls σ) σ) G h fun vs σ h => h).then fun vs σ h => h.2.at.mono fun r σ q => ⟨rfl, q⟩⟩) rfl (x.pl _)⟩) (eClv Γ g pg p args)
    | .Call (.Attribute (.Name o po) x apos) args [] pos => match hs : slot Γ.ns o, hc : Γ.T.cf.lookup x with
      | none, some fn => if hg : Γ.T.gf.lookup o = some Γ.T.H ∧ okName o = true ∧ Γ.kd.lookup o = some .globalImplicit ∧ args.length < 30 ∧ (apos.endLine == pos.line) = true then
          (eL (r Γ) args).bind fun z => some ⟨fun k => z.c (.call (.ref fn) args.length k), fun {κ Q k s ls σ} G h => by
            obtain ⟨mc, hm⟩ := G.tabs.cf x fn hc
            exact WE.methC (mc := mc) (WE.glob (G.tabs.gf o _ hg.1).ns (G.gk o hg.2.2.1) (fun q_ => .ref _) ⟨_, fn, rfl, hm, (z.pops (K := fun vs s σ => Pv κ.en tcall (.ref fn :: vs) (fun v σ => wp k κ.en Q (v :: s) ls σ) σ) G h fun vs σ h => h).then fun vs σ h => h.2.at.mono fun r σ q => ⟨rfl, q⟩⟩ (okN hg.2.1).db)
              (eval_meth ⟨(fun z => nomatch z), rfl⟩ hg.2.2.2.1 hg.2.2.2.2 (z.pl _)) (z.pl _)⟩ else none
      | _, _ => eCall r Γ apos pos (.Name o po) x args
    | .Call (.Attribute o x apos) args [] pos => eCall r Γ apos pos o x args
    | .ListComp elt [⟨tgt, iter, ifs, 0⟩] scope pos => if hf : form iter ≠ 0 then (eComp r Γ elt tgt iter ifs scope).bind fun y => some ⟨y.c, fun G h => WE.comp (y.cg.ok G) (y.ok G h) ((Form.of hf).set _)⟩ else none
    | _ => none
noncomputable def eE : Nat → FE
  | 0 => fun q_ q_ => none
  | n + 1 => eE1 (eE n)
end
end Mn
set_option genInjectivity false
namespace Mn
open PySem.SeqAt

noncomputable def semPure {α : Type} : Sem α → Option α
  | .pure a => some a
  | _ => none
theorem semPure_some {α : Type} {m : Sem α} {a : α} (h : semPure m = some a) : m = pure a := by
  cases m <;> cases h
  rfl
noncomputable def fk (kd : List (Str × NameKind)) : Env := { scope := ⟨.function, kd, false, false, []⟩, locals := 0, globals := 0, cells := [] }
structure GS (Γ : Gm) (κ : Cx) : Prop where
  tabs : TabsOk Γ.T κ.φ.g.K
  names : κ.φ.f.env.scope.names = Γ.kd
  kind : κ.φ.f.env.scope.kind = .function
  own : CellsOwn κ.φ.f
  cX : κ.φ.g.cX = Γ.T.cX
  sole : Γ.kd.all (fun x => x.2 != .cell) = true → Sole κ.φ
  lt : ∀ c P q, Γ.lot = some (c, P, q) → LotF κ.φ c P q
section
variable {Γ : Gm} {κ : Cx} {l : Loc} {σ : MH}
theorem GS.nx (G : GS Γ κ) : GS Γ κ.nx := ⟨G.tabs, G.names, G.kind, G.own, G.cX, G.sole, G.lt⟩
theorem GS.kd (G : GS Γ κ) (x : Str) : κ.φ.f.env.kindOf x = Γ.kd.lookup x := by unfold Env.kindOf; rw [G.names]
theorem GS.ok (G : GS Γ κ) : GOk Γ κ := ⟨G.tabs, fun x h => (G.kd x).trans h, fun x h => ⟨(G.kd x).trans h, let ⟨c, hc, _⟩ := G.own x ((G.kd x).trans h); ⟨c, hc⟩⟩, G.lt⟩
theorem GS.bk (G : GS Γ κ) : κ.φ.f.env.blockKind = .function := by unfold Env.blockKind; rw [G.kind]; rfl
theorem GS.my (G : GS Γ κ) {x : Str} (h : Γ.kd.lookup x = some .local ∨ Γ.kd.lookup x = some .cell) : MyName κ x := h.elim (fun h => .inl ((G.kd x).trans h)) fun h => .inr ⟨(G.kd x).trans h, G.own⟩
theorem GS.stores (G : GS Γ κ) (ts : List PySem.Expr) (v : PySem.Expr) : swappedStores ts v κ.φ.f.env = swappedStores ts v (fk Γ.kd) := by
  delta swappedStores
  rw [show (fk Γ.kd).blockKind = .function from rfl, G.bk, show κ.φ.f.env.kindOf = (fk Γ.kd).kindOf from funext G.kd]
theorem GS.swaps (G : GS Γ κ) (v : PySem.Expr) (t : Option PySem.Expr) (n : Nat) : swapsWith v t n κ.φ.f.env = swapsWith v t n (fk Γ.kd) := by
  delta swapsWith
  rw [show (fk Γ.kd).blockKind = .function from rfl, G.bk, show κ.φ.f.env.kindOf = (fk Γ.kd).kindOf from funext G.kd, show (fk Γ.kd).scope.kind = .function from rfl, G.kind]

noncomputable def aft (Γ : Gm) (κ : Cx) (k : Cd) (Q : Fw → Ls → MH → Prop) : Fw → Loc → MH → Prop
  | .next, l, σ => ∃ ls, l = toL Γ.ns ls ∧ wp k κ.en Q [] ls σ
  | w, l, σ => ∃ ls, l = toL Γ.ns ls ∧ Q w ls σ
variable (Γ) in
noncomputable abbrev KS1 (st : PySem.Stmt) := { c : Cd → Cd // ∀ {κ Q k ls σ}, GS Γ κ → wp (c k) κ.en Q [] ls σ → WS1 κ st (aft Γ κ k Q) (toL Γ.ns ls) σ }
noncomputable abbrev KS1.c {Γ : Gm} {st : PySem.Stmt} (x : KS1 Γ st) : Cd → Cd := x.1
theorem KS1.ok {Γ : Gm} {st : PySem.Stmt} (x : KS1 Γ st) : ∀ {κ Q k ls σ}, GS Γ κ → wp (x.1 k) κ.en Q [] ls σ → WS1 κ st (aft Γ κ k Q) (toL Γ.ns ls) σ := x.2
variable (Γ) in
noncomputable abbrev KS (ss : List PySem.Stmt) := { c : Cd → Cd // ∀ {κ Q k ls σ}, GS Γ κ → wp (c k) κ.en Q [] ls σ → WS κ ss (aft Γ κ k Q) (toL Γ.ns ls) σ }
noncomputable abbrev KS.c {Γ : Gm} {ss : List PySem.Stmt} (x : KS Γ ss) : Cd → Cd := x.1
theorem KS.ok {Γ : Gm} {ss : List PySem.Stmt} (x : KS Γ ss) : ∀ {κ Q k ls σ}, GS Γ κ → wp (x.1 k) κ.en Q [] ls σ → WS κ ss (aft Γ κ k Q) (toL Γ.ns ls) σ := x.2
variable (Γ) in
noncomputable abbrev KA (t : PySem.Expr) := { c : Cd → Cd // ∀ {κ Q k v s ls σ}, GS Γ κ → wp (c k) κ.en Q (v :: s) ls σ → WA κ t v (fun l σ => ∃ ls, l = toL Γ.ns ls ∧ wp k κ.en Q s ls σ) (toL Γ.ns ls) σ }
noncomputable abbrev KA.c {Γ : Gm} {t : PySem.Expr} (x : KA Γ t) : Cd → Cd := x.1
theorem KA.ok {Γ : Gm} {t : PySem.Expr} (x : KA Γ t) : ∀ {κ Q k v s ls σ}, GS Γ κ → wp (x.1 k) κ.en Q (v :: s) ls σ → WA κ t v (fun l σ => ∃ ls, l = toL Γ.ns ls ∧ wp k κ.en Q s ls σ) (toL Γ.ns ls) σ := x.2
noncomputable def eSs (f : ∀ st, Option (KS1 Γ st)) : (ss : List PySem.Stmt) → Option (KS Γ ss)
  | [] => some ⟨fun k => k, fun G h => WS.nil ⟨_, rfl, h⟩⟩
  | st :: ss => ((f st).or (some ⟨fun q_ => .bad, fun q_ h => h.elim⟩)).bind fun x => (eSs f ss).bind fun y => some ⟨fun k => x.c (y.c k), fun G h => WS.cons ((x.ok G h).mono fun w l σ h => by
      cases w with
      | next => obtain ⟨ls, rfl, h⟩ := h; exact y.ok G h
      | _ => exact h)⟩
noncomputable abbrev KNs (Γ : Gm) (ts : List PySem.Expr) := { is : List Nat // (∀ env, (assignEach ts env).length = ts.length ∧ (assignEach ts env).findIdx? (·.1) = none) ∧ ∀ {κ : Cx} {vs ls σ} {K : Ls → MH → Prop}, GS Γ κ → setAll is vs ls (fun ls => K ls σ) → vs.length = ts.length ∧ WAs κ ts vs (fun l σ => ∃ ls, l = toL Γ.ns ls ∧ K ls σ) (toL Γ.ns ls) σ }
noncomputable def eNames1 (Γ : Gm) {ts : List PySem.Expr} (x : Str) (p : Pos) (r : KNs Γ ts) : Option (KNs Γ (.Name x p :: ts)) := if hx : Γ.kd.lookup x = some .local ∨ Γ.kd.lookup x = some .cell then
      match hs : slot Γ.ns x with
      | some i => some ⟨i :: r.1, fun env => ⟨congrArg (· + 1) (r.2.1 env).1, (List.findIdx?_cons ..).trans (by rw [(r.2.1 env).2]; rfl)⟩, fun {κ vs ls σ K} G h => by
          cases vs with
          | nil => exact h.elim
          | cons v vs =>
            have q := r.2.2 (K := K) G h
            exact ⟨congrArg (· + 1) q.1, WAs.cons (WA.name (G.my hx) (toL_set hs ▸ q.2)) rfl⟩⟩
      | none => none
    else none
noncomputable def eNames (Γ : Gm) : (ts : List PySem.Expr) → Option (KNs Γ ts)
  | [] => some ⟨[], fun q_ => ⟨rfl, rfl⟩, fun {κ vs ls σ K} G h => by
      cases vs with
      | nil => exact ⟨rfl, WAs.nil ⟨_, rfl, h⟩⟩
      | cons => exact h.elim⟩
  | .Name x p :: ts => (eNames Γ ts).bind (eNames1 Γ x p)
  | _ => none
theorem PU.mono {t vs σ} {Q Q' : MH → Prop} (h : PU κ t vs Q σ) (k : ∀ σ, Q σ → Q' σ) : PU κ t vs Q' σ := fun A s δ l rs G F hv => (h A s δ l rs G F hv).mono fun q_ q_ q_ h => ⟨h.1, k _ h.2⟩
noncomputable def eA (f : FE) (Γ : Gm) : (t : PySem.Expr) → Option (KA Γ t)
  | .Name x p => if hx : Γ.kd.lookup x = some .local ∨ Γ.kd.lookup x = some .cell then
      match hs : slot Γ.ns x with
      | some i => some ⟨.st i, fun G h => WA.name (G.my hx) ⟨_, toL_set hs, h⟩⟩
      | none => none
    else none
  | .Attribute o x p => (f Γ o).bind fun y => some ⟨fun k => y.c (.stf x k), fun G h => WA.attr ((y.ok G.ok h).then fun v σ h => (Pu.at h).mono fun σ h => ⟨_, rfl, h⟩)⟩
  | .Subscript o i p => (f Γ o).bind fun x => (f Γ i).bind fun y => some ⟨fun k => x.c (y.c (.stx k)), fun G h => WA.sub ((x.ok G.ok h).then fun v σ h => (y.ok G.ok h).then fun w σ h => (Pu.at h).mono fun σ h => ⟨_, rfl, h⟩)⟩
  | .Tuple ts kk p => (eNames Γ ts).bind fun r => some ⟨fun k => .unp false r.1 k, fun {κ Q k v s ls σ} G h => by
      cases v with
      | tup vs =>
        have q := r.2.2 (K := fun ls σ => wp k κ.en Q s ls σ) G h
        exact WA.tuple q.2 ((r.2.1 _).1.trans q.1.symm) (r.2.1 _).2
      | _ => exact h.elim⟩
  | _ => none
noncomputable abbrev KNm (Γ : Gm) (xs : List Str) := { is : List Nat // ∀ {κ : Cx} {vs ls σ} {K : Ls → MH → Prop}, GS Γ κ → setAll is vs ls (fun ls => K ls σ) → vs.length = xs.length ∧ WNms κ xs vs (fun l σ => ∃ ls, l = toL Γ.ns ls ∧ K ls σ) (toL Γ.ns ls) σ }
noncomputable def eNms1 (Γ : Gm) {xs : List Str} (x : Str) (r : KNm Γ xs) : Option (KNm Γ (x :: xs)) := if hx : Γ.kd.lookup x = some .local ∨ Γ.kd.lookup x = some .cell then
      match hs : slot Γ.ns x with
      | some i => some ⟨i :: r.1, fun {κ vs ls σ K} G h => by
          cases vs with
          | nil => exact h.elim
          | cons v vs =>
            have q := r.2 (K := K) G h
            exact ⟨congrArg (· + 1) q.1, WNms.cons (G.my hx) (toL_set hs ▸ q.2)⟩⟩
      | none => none
    else none
noncomputable def eNms (Γ : Gm) : (xs : List Str) → Option (KNm Γ xs)
  | [] => some ⟨[], fun {κ vs ls σ K} G h => by
      cases vs with
      | nil => exact ⟨rfl, WNms.nil ⟨_, rfl, h⟩⟩
      | cons => exact h.elim⟩
  | x :: xs => (eNms Γ xs).bind (eNms1 Γ x)
theorem loop_aft {k Q C w l σ} (h : aft Γ κ.nx .fin (loopC C (fun ls σ => wp k κ.en Q [] ls σ) Q) w l σ) : loopQ (fun l σ => ∃ ls, l = toL Γ.ns ls ∧ C ls σ) (aft Γ κ k Q) w l σ := by
  cases w <;> exact h
theorem loopQ.mono {C C' : Loc → MH → Prop} {Q w l σ} (h : loopQ C Q w l σ) (k : C l σ → C' l σ) : loopQ C' Q w l σ := by
  cases w
  · exact k h
  · exact h
  · exact k h
  · exact h
noncomputable def eSwp (f : FE) (Γ : Gm) (pos : Pos) (value : PySem.Expr) (names : List Str) : (t : PySem.Expr) → swapsWith value (some t) pos.line (fk Γ.kd) = pure false → swappedStores [t] value (fk Γ.kd) = pure (some names) → Option (KS1 Γ (.Assign [t] value pos))
  | .Tuple elts kk tp, hs, hw => (eNms Γ names.reverse).bind fun r => (f Γ value).bind fun y => some ⟨fun k => y.c (.unp true r.1 k), fun {κ Q k ls σ} G h => WS1.assignSwap ((y.ok G.ok h).then fun v σ h => by
          cases v with
          | tup vs =>
            have q := r.2 (vs := vs.reverse) (K := fun ls σ => wp k κ.en Q [] ls σ) G h
            exact ⟨vs, rfl, by have := q.1; rwa [List.length_reverse, List.length_reverse] at this, q.2⟩
          | _ => exact h.elim) ((G.swaps _ _ _).trans hs) ((G.stores _ _).trans hw)⟩
  | _, _, _ => none
noncomputable def eGen (f : FE) (Γ : Gm) (pos : Pos) (t value : PySem.Expr) : Option (KS1 Γ (.Assign [t] value pos)) :=
  if hc : form t ≠ 0 ∧ form value ≠ 0 then
    match hs : semPure (swapsWith value (some t) pos.line (fk Γ.kd)), hw : semPure (swappedStores [t] value (fk Γ.kd)) with
    | some false, some (some names) => eSwp f Γ pos value names t (semPure_some hs) (semPure_some hw)
    | some false, some none => (eA f Γ t).bind fun x => (f Γ value).bind fun y => some ⟨fun k => y.c (x.c k), fun G h => WS1.assign ((y.ok G.ok h).then fun v σ h => x.ok G h) ((G.swaps _ _ _).trans (semPure_some hs)) ((G.stores _ _).trans (semPure_some hw)) (by rw [(Form.of hc.1).asg]; rfl)⟩
    | _, _ => none
  else none
noncomputable def eAssign (f : FE) (Γ : Gm) (pos : Pos) : (t value : PySem.Expr) → Option (KS1 Γ (.Assign [t] value pos))
  | .Name y py, .ListComp elt [⟨tgt, iter, ifs, 0⟩] scope lp =>
      match hs : slot Γ.ns y, hw : semPure (swapsWith (.ListComp elt [⟨tgt, iter, ifs, 0⟩] scope lp) (some (.Name y py)) pos.line (fk Γ.kd)) with
      | some i, some true => if hy : (Γ.kd.lookup y = some .local ∨ Γ.kd.lookup y = some .cell) ∧ form iter ≠ 0 then (eComp f Γ elt tgt iter ifs scope).bind fun z => some ⟨fun k => z.c (.st i k), fun G h => WS1.assignComp (z.cg.ok G.ok) (G.my hy.1) ((z.ok G.ok h).mono fun ys Inv l σ ⟨I, T, h0, h1⟩ => ⟨I, T, h0, fun D acc σ2 hD hI => by
            obtain ⟨rfl, h⟩ := h1 D acc σ2 hD hI
            exact ⟨_, toL_set hs, h⟩⟩) ((G.swaps _ _ _).trans (semPure_some hw)) ((Form.of hy.2).set _)⟩ else none
      | _, _ => eGen f Γ pos (.Name y py) (.ListComp elt [⟨tgt, iter, ifs, 0⟩] scope lp)
  | t, value => eGen f Γ pos t value
noncomputable def eAug (f : FE) (Γ : Gm) (op : Operator) (value : PySem.Expr) (pos : Pos) : (t : PySem.Expr) → Option (KS1 Γ (.AugAssign t op value pos))
  | .Name x p => if hx : (Γ.kd.lookup x = some .local ∨ Γ.kd.lookup x = some .cell) ∧ okName x = true then
      match hs : slot Γ.ns x with
      | some i => (f Γ value).bind fun y => some ⟨fun k => .ld i (y.c (.inp op (.st i k))), fun G h => by
          obtain ⟨v, hv, h⟩ := optQ_some h
          exact WS1.augName ((toL_get hs).trans hv) (G.my hx.1) ((y.ok G.ok h).then fun w σ h => (run_inp h).at.mono fun r σ h => ⟨_, toL_set hs, h⟩) (okN hx.2).cd⟩
      | none => none
    else none
  | .Attribute o x p => (f Γ o).bind fun y => (f Γ value).bind fun z => some ⟨fun k => y.c (.dup 1 (.fld x (z.c (.inp op (.stfr x k))))), fun G h => WS1.augAttr ((y.ok G.ok h).then fun o σ h => (Pv.at h).mono fun old σ h => (z.ok G.ok h).then fun v σ h =>
      (run_inp h).at.mono fun r σ h => (Pu.at h).mono fun σ h => ⟨_, rfl, h⟩)⟩
  | .Subscript o i p => if hi : form i ≠ 0 then (f Γ o).bind fun x => (f Γ i).bind fun y => (f Γ value).bind fun z => some ⟨fun k => x.c (y.c (.dup 2 (.ix (z.c (.inp op (.stxr k)))))), fun G h => WS1.augSub ((x.ok G.ok h).then fun o σ h => (y.ok G.ok h).then fun i σ h =>
      fun A s δ l ra rb gg F ha hb => have q := Pg.at h A s δ l ra rb gg F ha hb
        ⟨q.1, q.2.mono fun old l σ h => ⟨h.1, (z.ok G.ok h.2).then fun v σ h => (run_inp h).at.mono fun r σ h => (Pu.at h).mono fun σ h => ⟨_, rfl, h⟩⟩⟩) (Form.of hi).aug⟩ else none
  | _ => none
noncomputable def eS1 (f : FE) (Γ : Gm) (r : ∀ st, Option (KS1 Γ st)) (st : PySem.Stmt) : Option (KS1 Γ st) := match st with
    | .If test body orelse pos => (eB (f Γ) 4 test).bind fun z => (eSs r body).bind fun x => (eSs r orelse).bind fun y => some ⟨fun k => z.c (x.c k) (y.c k), fun G h => WS1.ite ((z.ok G.ok h).then fun t σ h => h.mono (fun h => x.ok G h) fun h => y.ok G h)⟩
    | .While test body [] pos => (eB (f Γ) 4 test).bind fun z => (eSs r body).bind fun x => some ⟨fun k => .whl (z.c (x.c .fin) .brk) k, fun {κ Q k ls σ} G h => by
        obtain ⟨I, m, h0, turn⟩ := h
        exact WS1.whileI (fun n l σ => ∃ ls, l = toL Γ.ns ls ∧ I n ls σ) (fun n l σ ⟨ls, e, hI⟩ => e ▸ (z.ok G.ok.nx (turn n ls σ hI)).then fun t σ h => h.mono (fun h => (x.ok G.nx h).mono fun w l σ h => (loop_aft h).mono fun ⟨ls, e, m, hm, h⟩ => ⟨m, hm, ls, e, h⟩) fun h => ⟨_, rfl, h⟩) m ⟨ls, rfl, h0⟩⟩
    | .For tgt iter body [] pos => if hf : form iter ≠ 0 then (eIt f Γ tgt iter).bind fun i => (eA f Γ tgt).bind fun a => (eSs r body).bind fun x => some ⟨fun k => i.c (.forl i.it i.n (a.c (x.c .fin)) k), fun {κ Q k ls σ} G h => by
        refine WS1.forI ((i.ok (K := fun σ => ForL (fun v Q ls σ => wp (a.c (x.c .fin)) κ.en.nx Q [v] ls σ) (fun ls σ => wp k κ.en Q [] ls σ) Q ls σ) G.ok (fun vs σ hn h => ?_) h).mono fun ys Inv l σ h => ?_) ((Form.of hf).set _)
        · have := popN_rev (s := []) i.n vs [] hn h
          rw [List.append_nil] at this
          exact this
        · obtain ⟨rfl, I, h0, inv, turn, fin⟩ := h
          refine ⟨fun n l σ => ∃ ls, l = toL Γ.ns ls ∧ I n ls σ, ⟨ls, rfl, h0⟩, fun k l σ ⟨ls, _, hI⟩ => inv k ls σ hI, fun k v l σ hv ⟨ls, e, hI⟩ => ?_, fun l σ ⟨ls, e, hI⟩ => ⟨ls, e, fin ls σ hI⟩⟩
          subst e
          exact fun A s δ rv gg F hr => (a.ok G.nx (turn k v ls σ hv hI) A s δ rv gg F hr).mono fun _ l σ ⟨ls, e, h⟩ => e ▸ (x.ok G.nx h).mono fun w l σ h => loop_aft h⟩ else none
    | .Return (some e) pos => (f Γ e).bind fun x => some ⟨fun q_ => x.c .ret, fun G h => WS1.ret ((x.ok G.ok h).then fun v σ h => ⟨_, rfl, h⟩)⟩
    | .Return none pos => some ⟨fun q_ => .lit .none .ret, fun G h => WS1.ret0 ⟨_, rfl, h⟩⟩
    | .Pass pos => some ⟨fun k => k, fun G h => WS1.pass ⟨_, rfl, h⟩⟩
    | .Break pos => some ⟨fun q_ => .brk, fun G h => WS1.brk ⟨_, rfl, h⟩⟩
    | .Expr e pos => if hf : form e ≠ 0 ∧ form e ≠ 13 then (f Γ e).bind fun x => some ⟨fun k => x.c (.pop k), fun G h => WS1.expr ((x.ok G.ok h).then fun v σ h => ⟨_, rfl, h⟩) (swap_of hf.1 hf.2 _ _ _)⟩ else none
    | .Assign [t] value pos => eAssign f Γ pos t value
    | .AugAssign t op value pos => eAug f Γ op value pos t
    | .Raise (some (.Call (.Name x np) [.Constant (.bytes b) kb bp] [] cpos)) none pos => if hx : Γ.kd.lookup x = some .globalImplicit ∧ Γ.T.gf.lookup x = some Γ.T.cX ∧ okName x = true then
        some ⟨fun q_ => .raz, fun {κ Q k ls σ} G h => by
          obtain ⟨N, fI, fd, H⟩ := G.tabs.ex
          exact WS1.raise (G.cX.symm ▸ H) (G.cX.symm ▸ (G.tabs.gf _ _ hx.2.1).ns) ((G.kd x).trans hx.1) (Nat.le_of_ble_eq_true h.1) h.2 (okN hx.2.2).db⟩ else none
    | .Try body [.ExceptHandler (some (.Name x np)) none [.Assign [.Name y yp] (.Constant (.bool b) bk bp) rpos] hpos] [] [] pos => match hi : slot Γ.ns y with
      | some i => if hx : Γ.kd.lookup x = some .globalImplicit ∧ Γ.T.gf.lookup x = some Γ.T.cX ∧ okName x = true ∧ Γ.kd.all (fun x => x.2 != .cell) = true ∧ Γ.kd.lookup y = some .local then
        if hs : semPure (swapsWith (.Constant (.bool b) bk bp) (some (.Name y yp)) rpos.line (fk Γ.kd)) = some false ∧ semPure (swappedStores [.Name y yp] (.Constant (.bool b) bk bp) (fk Γ.kd)) = some none then
        (eSs r body).bind fun z => some ⟨fun k => .trs (z.c .fin) i (.bool b) k, fun {κ Q k ls σ} G h => by
          obtain ⟨N, fI, fd, H⟩ := G.tabs.ex
          refine WS1.tryAsg (X' := fun σ => wp k κ.en Q [] (setS [] i (.bool b)) σ) (G.cX.symm ▸ H) (G.cX.symm ▸ (G.tabs.gf _ _ hx.2.1).ns) ((G.kd x).trans hx.1) (G.sole hx.2.2.2.1) ((z.ok (κ := ⟨κ.φ, κ.d, fun σ => wp k κ.en Q [] (setS [] i (.bool b)) σ⟩) ⟨G.tabs, G.names, G.kind, G.own, G.cX, G.sole, G.lt⟩ h).mono fun w l σ h => ?_)
            (fun σ1 h => ⟨setS [] i (.bool b), by rw [← toL_nil Γ.ns]; exact toL_set hi, h⟩) ((G.kd y).trans hx.2.2.2.2) ?_ ((G.stores _ _).trans (semPure_some hs.2)) (okN hx.2.2.1).db
          · cases w <;> obtain ⟨ls, e, h⟩ := h <;> exact ⟨ls, e, h⟩
          · exact (G.swaps _ _ _).trans (semPure_some hs.1)⟩ else none else none
      | none => none
    | _ => none
noncomputable def eS (f : FE) (Γ : Gm) : Nat → (st : PySem.Stmt) → Option (KS1 Γ st)
  | 0 => fun q_ => none
  | n + 1 => eS1 f Γ (eS f Γ n)
end
end Mn
set_option genInjectivity false
namespace Mn
open PySem.SeqAt

noncomputable def fnAt (K : Frag) (a : Addr) : FuncData := match K.lookup a with | some ⟨_, _, .func fd, _⟩ => fd | _ => default
noncomputable def bodyOf (fd : FuncData) : List PySem.Stmt := match fd.body with | .stmts b => b | _ => []
noncomputable def isFnB (K : Frag) (a : Addr) : Bool := match K.lookup a with | some ⟨_, _, .func _, _⟩ => true | _ => false
noncomputable def fnChk (K : Frag) (fn : Addr) (ps : List Str) : Bool :=
  isFnB K fn && codeIn K (fnAt K fn).code (fnAt K fn).qualname && (match (fnAt K fn).body with | .stmts _ => true | _ => false) && (fnAt K fn).globals == mainGlobals && (fnAt K fn).builtins == builtinsNs &&
  (fnAt K fn).closure.isEmpty && ps.all (fun x => (fnAt K fn).scope.names.lookup x == some .local || (fnAt K fn).scope.names.lookup x == some .cell) && decide ps.Nodup &&
  !(fnAt K fn).scope.isCoroutine && !(fnAt K fn).scope.isGenerator && (fnAt K fn).scope.kind == .function
structure FnOk (K : Frag) (fn : Addr) (ps : List Str) : Prop where
  isfn : fnK K fn (fnAt K fn)
  code : codeIn K (fnAt K fn).code (fnAt K fn).qualname = true
  body : (fnAt K fn).body = .stmts (bodyOf (fnAt K fn))
  gl : (fnAt K fn).globals = mainGlobals
  bu : (fnAt K fn).builtins = builtinsNs
  clo : (fnAt K fn).closure = []
  loc : ∀ x ∈ ps, (fnAt K fn).scope.names.lookup x = some .local ∨ (fnAt K fn).scope.names.lookup x = some .cell
  nd : ps.Nodup
  co : (fnAt K fn).scope.isCoroutine = false
  gen : (fnAt K fn).scope.isGenerator = false
  kind : (fnAt K fn).scope.kind = .function
theorem FnOk.of {K fn ps} (h : fnChk K fn ps = true) : FnOk K fn ps := by
  unfold fnChk at h
  simp only [Bool.and_eq_true] at h
  obtain ⟨⟨⟨⟨⟨⟨⟨⟨⟨⟨h1, h2⟩, h3⟩, h4⟩, h5⟩, h6⟩, h7⟩, h8⟩, h9⟩, h10⟩, h11⟩ := h
  refine ⟨?_, h2, ?_, eq_of_beq h4, eq_of_beq h5, List.isEmpty_iff.mp h6, fun x hx => ?_, of_decide_eq_true h8, Bool.not_eq_true' _ ▸ h9, Bool.not_eq_true' _ ▸ h10, eq_of_beq h11⟩
  · delta isFnB at h1
    delta fnAt
    cases e : K.lookup fn with
    | none => rw [e] at h1; cases h1
    | some o =>
      rw [e] at h1
      obtain ⟨oc, od, d, sl⟩ := o
      cases d with
      | func fd => exact ⟨oc, od, sl, e⟩
      | _ => cases h1
  · delta bodyOf
    generalize (fnAt K fn).body = b at h3
    cases b with
    | stmts b => rfl
    | _ => cases h3
  · have := List.all_eq_true.mp h7 x hx
    rw [Bool.or_eq_true] at this
    exact this.imp eq_of_beq eq_of_beq
noncomputable def lotOf (T : Tabs) (K : Frag) (fn : Addr) : Option (Addr × Addr × Str) := (T.lt.lookup fn).bind fun x => if (fnAt K fn).code == .ref x.1 && (fnAt K fn).qualname ++ ".<locals>." ++ "<lambda>" == x.2.2 then some x else none
theorem lotOf_ok {T : Tabs} {K : Frag} {fn c P : Addr} {q : Str} (h : lotOf T K fn = some (c, P, q)) : A3 ((fnAt K fn).code = .ref c) (T.lt.lookup fn = some (c, P, q)) ((fnAt K fn).qualname ++ ".<locals>." ++ "<lambda>" = q) := by
  obtain ⟨x, h1, h2⟩ := Option.bind_eq_some_iff.mp h
  obtain ⟨h3, h4⟩ := Option.ite_none_right_eq_some.mp h2
  cases h4
  obtain ⟨h5, h6⟩ := Bool.and_eq_true_iff.mp h3
  exact ⟨eq_of_beq h5, h1, eq_of_beq h6⟩
structure GT (T : Tabs) (g : G) : Prop where
  cX : g.cX = T.cX
  lt : ∀ fn x, T.lt.lookup fn = some x → CodeHd g.base x.1 x.2.1
noncomputable def codeOf (T : Tabs) (K : Frag) (fn : Addr) (ns : List Str) : Option Cd := (eSs (eS (eE 40) ⟨T, ns, (fnAt K fn).scope.names, lotOf T K fn⟩ 20) (bodyOf (fnAt K fn))).map fun x => x.c .fin
theorem lookup_rev {x : Str} : ∀ {l : List (Str × V)}, (l.map (·.1)).Nodup → l.reverse.lookup x = l.lookup x
  | [], _ => rfl
  | (y, v) :: r, nd => by
    rw [List.map_cons, List.nodup_cons] at nd
    rw [List.reverse_cons, List.lookup_append, lookup_rev nd.2, List.lookup_cons, List.lookup_cons]
    by_cases z : x = y
    · have e : r.lookup x = none := isNone_of fun w e => nd.1 (List.mem_map.mpr ⟨_, mem_of_lookup e, z⟩)
      rw [e, beq_iff_eq.mpr z]; rfl
    · rw [beq_eq_false_iff_ne.mpr z]; exact Option.or_none
noncomputable def pad (vs : List V) (rest : List Str) : Ls := vs.map some ++ rest.map fun q_ => none
theorem toL_none {x : Str} : ∀ {rest : List Str}, toL rest (rest.map fun q_ => none) x = none
  | [] => rfl
  | n :: r => by
    show (if x = n then none else toL r (r.map fun q_ => none) x) = none
    rw [toL_none]; exact ite_self _
theorem zip_toL {x : Str} : ∀ {ps rest : List Str} {vs : List V}, ps.length = vs.length → (ps.zip vs).lookup x = toL (ps ++ rest) (pad vs rest) x
  | [], rest, [], _ => toL_none.symm
  | p :: ps, rest, v :: vs, h => by
    rw [List.zip_cons_cons, List.lookup_cons]
    show _ = if x = p then some v else toL (ps ++ rest) (pad vs rest) x
    by_cases z : x = p
    · rw [if_pos z, z, beq_self_eq_true]
    · rw [if_neg z, beq_eq_false_iff_ne.mpr z]; exact zip_toL (Nat.succ.inj h)
theorem bind_toL {ps rest : List Str} {vs : List V} (nd : ps.Nodup) (h : ps.length = vs.length) : bindLoc (ps.zip vs) = toL (ps ++ rest) (pad vs rest) := funext fun x =>
  (lookup_rev (by rw [List.map_fst_zip (Nat.le_of_eq h)]; exact nd)).trans (zip_toL h)
theorem bd_zip {h : Heap} : ∀ {ps : List Str} {vs : List V} {rs : List Value}, VsRel h vs rs → BdRel h (ps.zip vs) (ps.zip rs)
  | [], _, _, _ => .nil
  | _ :: _, _, _, .nil => .nil
  | _ :: _, _, _, .cons a b => .cons a (bd_zip b)
section
variable {g : G} {T : Tabs} {fn : Addr} {ps rest : List Str} {code : Cd} {d : Nat} {args dv : List V} {Q : V → MH → Prop} {X : MH → Prop} {σ : MH}
theorem codeOf.run {κ : Cx} {ls} (hc : codeOf T κ.φ.g.K fn (ps ++ rest) = some code) (G : GS ⟨T, ps ++ rest, (fnAt κ.φ.g.K fn).scope.names, lotOf T κ.φ.g.K fn⟩ κ) (h : wp code κ.en (retC Q) [] ls σ) : WS κ (bodyOf (fnAt κ.φ.g.K fn)) (retQ Q) (toL (ps ++ rest) ls) σ := by
  obtain ⟨x, _, rfl⟩ := Option.map_eq_some_iff.mp hc
  refine (x.ok G h).mono fun w l σ h => ?_
  cases w <;> obtain ⟨ls, _, h⟩ := h
  · exact h
  · exact h
  · exact h
  · exact h
theorem WCall.go (TO : TabsOk T g.K) (hX : GT T g) (H : fnChk g.K fn ps = true) (hcell : (fnAt g.K fn).scope.names.all (fun x => x.2 != .cell) = true) (hn : ps.length = args.length + dv.length)
    (hb : ∀ (s : Shared) (rargs : List Value), g.K.In s.heap → rargs.length = args.length → ∃ rdv, BindsTo s (fnAt g.K fn) ⟨rargs, []⟩ (ps.zip (rargs ++ rdv)) ∧ ∀ h, VsRel h dv rdv)
    (hc : codeOf T g.K fn (ps ++ rest) = some code) (h : wp code ⟨g, d, X⟩ (retC Q) [] (pad (args ++ dv) rest) σ) : WCall g (d + 1) fn args Q X σ := by
  have H := FnOk.of H
  have hcell : ∀ x ∈ (fnAt g.K fn).scope.names, x.2 ≠ .cell := fun x hx => ne_of_beq_false (Bool.not_eq_true' _ ▸ List.all_eq_true.mp hcell x hx)
  refine WCall.enter (fd := fnAt g.K fn) (bs := ps.zip (args ++ dv)) H.isfn H.code H.body H.gl H.bu (fun s rargs Ki hv => ?_) hcell (fun x hx => ?_) H.co H.gen H.kind (fun L fl => ?_)
  · obtain ⟨rdv, h1, h2⟩ := hb s rargs Ki hv.length
    exact ⟨_, h1, bd_zip (hv.append (h2 _))⟩
  · exact (H.loc x.1 (List.of_mem_zip hx).1).elim id fun e => absurd rfl (hcell _ (mem_of_lookup e))
  · rw [bind_toL H.nd (by rw [hn, List.length_append])]
    exact codeOf.run (κ := ⟨⟨g, _, _⟩, d, X⟩) hc ⟨TO, rfl, H.kind, fun x e => absurd rfl (hcell _ (mem_of_lookup e)), hX.cX, fun q_ => ⟨⟨_, rfl⟩, rfl, rfl, fun y e => absurd rfl (hcell _ (mem_of_lookup e))⟩, fun c P q e => let r := lotOf_ok e; ⟨r.h1, hX.lt _ _ r.h2, r.h3, fun x e => absurd rfl (hcell _ (mem_of_lookup e))⟩⟩ h
theorem WCall.goC (TO : TabsOk T g.K) (hX : GT T g) (H : fnChk g.K fn ps = true) (hn : ps.length = args.length)
    (hb : ∀ rargs : List Value, rargs.length = args.length → bindArgs (fnAt g.K fn) ⟨rargs, []⟩ = pure (ps.zip rargs))
    (hc : codeOf T g.K fn (ps ++ rest) = some code) (h : wp code ⟨g, d, X⟩ (retC Q) [] (pad args rest) σ) : WCall g (d + 1) fn args Q X σ := by
  have H := FnOk.of H
  refine WCall.enterC (fd := fnAt g.K fn) (bs := ps.zip args) H.isfn H.code H.body H.gl H.bu H.clo (fun rargs hz => ⟨_, hb rargs hz, fun h hv => bd_zip hv⟩) (by rw [List.map_fst_zip (Nat.le_of_eq hn)]; exact H.nd) (fun x hx => H.loc x.1 (List.of_mem_zip hx).1) H.co H.gen H.kind (fun L fl own => ?_)
  rw [bind_toL H.nd hn]
  exact codeOf.run (κ := ⟨⟨g, _, _⟩, d, X⟩) hc ⟨TO, rfl, H.kind, own, hX.cX, fun hc => ⟨⟨_, rfl⟩, rfl, congrArg (L :: ·) (by unfold cellAddrs; rw [List.filter_eq_nil_iff.mpr fun x hx => by have := List.all_eq_true.mp hc x hx; simpa using this]; rfl), fun y e => ne_of_beq_false (Bool.not_eq_true' _ ▸ List.all_eq_true.mp hc _ (mem_of_lookup e)) rfl⟩, fun c P q e => let r := lotOf_ok e; ⟨r.h1, hX.lt _ _ r.h2, r.h3, own⟩⟩ h
end
end Mn
namespace Mn
open PySem.SeqAt
noncomputable abbrev cT : Addr := 406
noncomputable abbrev cN : Addr := 177
noncomputable abbrev cL : Addr := 79
noncomputable abbrev cD : Addr := 149
noncomputable abbrev cH : Addr := 58
noncomputable def theTabs : Tabs where
  gf := [("is_number", 90), ("type_of", 97), ("is_collectable", 104), ("raw_equal", 111), ("string_hash", 118), ("log2", 125), ("ceil_log2", 132), ("array_index", 188), ("compute_sizes", 195), ("count_key", 202), ("Node", 177), ("Table", 406), ("DeadKey", 149), ("LightValue", 79), ("HeapObject", 58), ("LuaError", 38), ("_law_key", 415), ("_law_tag", 422), ("_law_value", 429), ("_law_same", 436), ("_law_border_right", 443), ("_law_walk_right", 450), ("_law_refused", 457), ("_law_entries_right", 464), ("_law_deed", 471)]
  gi := [("MAX_BITS", 26), ("MAX_ARRAY", 67108864), ("MAX_INT", 2147483645), ("BASE_SIZE", 56), ("SLOT_SIZE", 16), ("NODE_SIZE", 32), ("HASH_MASK", 4294967295), ("T_NONE", -1), ("T_NIL", 0), ("T_BOOLEAN", 1), ("T_LIGHT", 2), ("T_NUMBER", 3), ("T_STRING", 4)]
  bt := [("len", .bi "len"), ("isinstance", .bi "isinstance"), ("int", .typ "int"), ("bool", .typ "bool"), ("bytes", .typ "bytes"), ("min", .bi "min"), ("abs", .bi "abs"), ("range", .typ "range"), ("reversed", .typ "reversed"), ("enumerate", .typ "enumerate"), ("list", .typ "list"), ("dict", .typ "dict")]
  mt := [("main_position", (cT, 224)), ("find_node", (cT, 231)), ("free_position", (cT, 238)), ("get_int", (cT, 245)), ("get", (cT, 259)), ("set", (cT, 266)), ("set_int", (cT, 273)), ("put", (cT, 287)), ("new_key", (cT, 294)), ("put_again", (cT, 301)), ("count_array", (cT, 308)), ("count_nodes", (cT, 315)), ("rehash", (cT, 322)), ("resize", (cT, 330)), ("put_back", (cT, 337)), ("make_nodes", (cT, 342)), ("weigh", (cT, 356)), ("find_index", (cT, 363)), ("next", (cT, 370)), ("length", (cT, 377)), ("unbound_search", (cT, 384)), ("moved_to", (cN, 174)), ("resize_array", (cT, 349)), ("bury", (cT, 391)), ("bury_empty", (cT, 398)), ("entries", (cT, 403)), ("get_text", (cT, 252)), ("set_text", (cT, 280))]
  cf := [("__init__", 55)]
  H := cH
  cX := 38
  lt := [(471, (470, 466, "_law_deed.<locals>.<lambda>"))]
structure Law (g : G) : Prop where
  K : g.K = hd.heap_1 g.w.params
  cX : GT theTabs g
noncomputable def intAt : Option (Option Value) → Int → Bool
  | some (some (.int b _)), i => b == i
  | _, _ => false
theorem intAt_of {o : Option (Option Value)} {i : Int} (h : intAt o i = true) : ∃ t, o = some (some (.int i t)) := by
  cases o with
  | none => cases h
  | some o =>
    cases o with
    | none => cases h
    | some v =>
      cases v with
      | int b t => exact ⟨t, by rw [show b = i from eq_of_beq h]⟩
      | _ => cases h
noncomputable def btV : V → Option Value
  | .typ n => some (.type n)
  | .bi n => some (.builtin n)
  | _ => none
theorem btV_rel {v : V} {w : Value} (h : btV v = some w) : (∀ h, VRel h v w) ∧ ∀ K, keepV K v = true := by
  cases v with
  | typ n => cases h; exact ⟨fun q_ => .typ _, fun q_ => rfl⟩
  | bi n => cases h; exact ⟨fun q_ => .bi _, fun q_ => rfl⟩
  | _ => cases h
noncomputable def tabsB (K : Frag) : Bool :=
  theTabs.gf.all (fun p => nsIn K mainGlobals p.1 == some (some (.ref p.2)) && keepIn K (.ref p.2)) &&
  theTabs.gi.all (fun p => intAt (nsIn K mainGlobals p.1) p.2) &&
  theTabs.bt.all (fun p => nsIn K mainGlobals p.1 == some none && (btV p.2).isSome && bootBuiltins p.1 == btV p.2) &&
  theTabs.mt.all (fun p => methK K p.2.1 p.1 p.2.2)
theorem tabs_ok {g : G} (E : Law g) : TabsOk theTabs g.K := by
  have t : ∀ P, tabsB (hd.heap_1 P) = true := fun P => by kernel_rfl
  have t := t g.w.params
  rw [← E.K] at t
  obtain ⟨t, t4⟩ := Bool.and_eq_true_iff.mp t
  obtain ⟨t, t3⟩ := Bool.and_eq_true_iff.mp t
  obtain ⟨t1, t2⟩ := Bool.and_eq_true_iff.mp t
  refine ⟨fun x a h => ?_, fun x i h => intAt_of (List.all_eq_true.mp t2 (x, i) (mem_of_lookup h)), fun x v h => ?_, fun x c h => List.all_eq_true.mp t4 (x, c) (mem_of_lookup h), fun x fn h => ?_, ?_⟩
  · obtain ⟨h1, h2⟩ := Bool.and_eq_true_iff.mp (List.all_eq_true.mp t1 (x, a) (mem_of_lookup h))
    exact ⟨eq_of_beq h1, h2⟩
  · obtain ⟨h1, h3⟩ := Bool.and_eq_true_iff.mp (List.all_eq_true.mp t3 (x, v) (mem_of_lookup h))
    obtain ⟨h1, h2⟩ := Bool.and_eq_true_iff.mp h1
    obtain ⟨w, hw⟩ := Option.isSome_iff_exists.mp h2
    have r := btV_rel hw
    exact ⟨eq_of_beq h1, ⟨w, (eq_of_beq h3).trans hw, r.1⟩, r.2 _⟩
  · obtain ⟨rfl, rfl⟩ : x = "__init__" ∧ fn = 55 := by
      have := mem_of_lookup h
      simp only [theTabs, List.mem_singleton, Prod.mk.injEq] at this
      exact this
    have e : ∀ P, clsFnK (hd.heap_1 P) cH (.type "type") "__init__" 55 := fun P => ⟨by kernel_rfl, by kernel_rfl, by kernel_rfl, by kernel_rfl⟩
    exact ⟨_, E.K ▸ e _⟩
  · rw [E.K]
    refine ⟨_, _, _, ⟨⟨_, _, _, _, _, _, _, _, _, _, _, _, _, rfl⟩, by kernel_rfl, (by kernel_rfl : nsIn _ _ _ = some (some (.ref 35))), by kernel_rfl, by kernel_rfl, by kernel_rfl⟩,
      ⟨⟨_, _, rfl⟩, by kernel_rfl, ⟨_, _, _, _, _, _, _, _, rfl⟩, fun q_ q_ => by kernel_rfl, fun x hx => ?_, by kernel_rfl, by kernel_rfl, by kernel_rfl, by kernel_rfl, by kernel_rfl⟩⟩
    have := List.all_eq_true.mp (show List.all _ (fun x : Str × NameKind => x.2 != NameKind.cell) = true from by kernel_rfl) x hx
    simpa using this
inductive Q2 {α β : Type} (σ : MH) (r : α → β → Nat) (L : α → β → Ls) (P : α → β → Prop) : Nat → Ls → MH → Prop
  | mk (x : α) (y : β) (h : P x y) : Q2 σ r L P (r x y) (L x y) σ
section
variable {E : En} {K : V → MH → Prop} {σ : MH} {k : Cd} {Q : Fw → Ls → MH → Prop} {s : List V} {ls : Ls}
theorem brk2.dec {P R c : Prop} [Decidable c] (h1 : c → P) (h2 : ¬ c → R) : brk2 P R (decide c) := by
  by_cases h : c
  · rw [decide_eq_true h]; exact h1 h
  · rw [decide_eq_false h]; exact h2 h
theorem brk2.bool {P R : Prop} {b : Bool} (h1 : b = true → P) (h2 : b = false → R) : brk2 P R b := by
  cases b
  · exact h2 rfl
  · exact h1 rfl
theorem nt {b : Bool} (h : (!b) = true) : b = false := by
  cases b with
  | false => rfl
  | true => cases h
theorem nf {b : Bool} (h : (!b) = false) : b = true := by
  cases b with
  | true => rfl
  | false => cases h
theorem ne_of_nd {p : Prop} [Decidable p] (h : (!decide p) = true) : ¬ p := fun z => by rw [decide_eq_true z] at h; cases h
theorem eq_of_nd {p : Prop} [Decidable p] (h : (!decide p) = false) : p := Decidable.byContradiction fun z => by rw [decide_eq_false z] at h; cases h
theorem brk2.nd {P R c : Prop} [Decidable c] (h1 : ¬ c → P) (h2 : c → R) : brk2 P R (!decide c) := brk2.bool (fun e => h1 (ne_of_nd e)) fun e => h2 (eq_of_nd e)
theorem Pv.shr {a n : Int} (hn : 0 ≤ n) (h : K (.int (a.fdiv (2 ^ n.toNat))) σ) : Pv E (t2 (binaryOp .RShift)) [.int a, .int n] K σ := ⟨fun q_ q_ => PV.shr hn h⟩
theorem Pv.shl {a n : Int} (hn : 0 ≤ n) (hn2 : n ≤ 1000000) (ha : a.natAbs < 2 ^ 64) (h : K (.int (a * 2 ^ n.toNat)) σ) : Pv E (t2 (binaryOp .LShift)) [.int a, .int n] K σ := ⟨fun q_ q_ => PV.shl hn hn2 ha h⟩
theorem Pv.mul {a b : Int} (hm : IntMulOk a b) (h : K (.int (a * b)) σ) : Pv E (t2 (binaryOp .Mult)) [.int a, .int b] K σ := ⟨fun q_ q_ => PV.mul hm h⟩
theorem Pv.imul {a b : Int} (hm : IntMulOk a b) (h : K (.int (a * b)) σ) : Pv E (t2 (inplaceOp .Mult)) [.int a, .int b] K σ := ⟨fun q_ q_ => PV.imul hm h⟩
theorem Pv.div {a b : Int} (hb : b ≠ 0) (hs : b.natAbs < 2 ^ 64) (h : K (.int (a.fdiv b)) σ) : Pv E (t2 (binaryOp .FloorDiv)) [.int a, .int b] K σ := ⟨fun q_ q_ => PV.div hb hs h⟩
theorem Pv.mod {a b : Int} (hb : b ≠ 0) (h : K (.int (a.fmod b)) σ) : Pv E (t2 (binaryOp .Mod)) [.int a, .int b] K σ := ⟨fun q_ q_ => PV.mod hb h⟩
end
noncomputable abbrev FnX (n : Nat) (fn : Addr) (args : List V) (Q : V → MH → Prop) (X : MH → Prop) (σ : MH) : Prop := ∀ g, Law g → WCall g n fn args Q X σ
noncomputable abbrev Fn (n : Nat) (fn : Addr) (args : List V) (Q : V → MH → Prop) (σ : MH) : Prop := FnX n fn args Q noX σ
theorem Pv.fnX {E : En} (L : Law E.g) {n fn args Q X σ} {K : V → MH → Prop} (h : FnX n fn args Q X σ) (hd : Nat.ble n E.d = true) (k : ∀ v σ, Q v σ → K v σ) (kx : ∀ σ, X σ → E.X σ) : Pv E tcall (.ref fn :: args) K σ := ⟨fun φ e => PV.fn (((h _ (e ▸ L)).mono k kx)) (Nat.le_of_ble_eq_true hd)⟩
theorem Pv.fn {E : En} (L : Law E.g) {n fn args Q σ} {K : V → MH → Prop} (h : Fn n fn args Q σ) (hd : Nat.ble n E.d = true) (k : ∀ v σ, Q v σ → K v σ) : Pv E tcall (.ref fn :: args) K σ := Pv.fnX L h hd k fun q_ x => x.elim
theorem Pv.fn1 {E : En} (L : Law E.g) {n fn args r σ} {K : V → MH → Prop} (h : Fn n fn args (fun v σ' => v = r ∧ σ' = σ) σ) (hd : Nat.ble n E.d = true) (k : K r σ) : Pv E tcall (.ref fn :: args) K σ := Pv.fn L h hd fun v σ' e => by rw [e.1, e.2]; exact k
theorem FnX.go {fn : Addr} {ps rest : List Str} {code : Cd} {d : Nat} {args : List V} {Q : V → MH → Prop} {X : MH → Prop} {σ : MH} (H : ∀ P, fnChk (hd.heap_1 P) fn ps = true) (hcell : ∀ P, (fnAt (hd.heap_1 P) fn).scope.names.all (fun x => x.2 != .cell) = true)
    (hb : ∀ P (rargs : List Value), rargs.length = args.length → bindArgs (fnAt (hd.heap_1 P) fn) ⟨rargs, []⟩ = pure (ps.zip rargs)) (hc : ∀ P, codeOf theTabs (hd.heap_1 P) fn (ps ++ rest) = some code) (hn : ps.length = args.length)
    (h : ∀ g, Law g → wp code ⟨g, d, X⟩ (retC Q) [] (pad args rest) σ) : FnX (d + 1) fn args Q X σ := fun g L =>
  WCall.go (dv := []) (tabs_ok L) L.cX (by rw [L.K]; exact H _) (by rw [L.K]; exact hcell _) (by rw [hn]; rfl) (fun s rargs Ki hl => ⟨[], by rw [List.append_nil]; exact .of_eq (by rw [L.K]; exact hb _ _ hl), fun q_ => .nil⟩) (by rw [L.K]; exact hc _) (by rw [List.append_nil]; exact h g L)
theorem Fn.go {fn : Addr} {ps rest : List Str} {code : Cd} {d : Nat} {args : List V} {Q : V → MH → Prop} {σ : MH} (H : ∀ P, fnChk (hd.heap_1 P) fn ps = true) (hcell : ∀ P, (fnAt (hd.heap_1 P) fn).scope.names.all (fun x => x.2 != .cell) = true)
    (hb : ∀ P (rargs : List Value), rargs.length = args.length → bindArgs (fnAt (hd.heap_1 P) fn) ⟨rargs, []⟩ = pure (ps.zip rargs)) (hc : ∀ P, codeOf theTabs (hd.heap_1 P) fn (ps ++ rest) = some code) (hn : ps.length = args.length)
    (h : ∀ g, Law g → wp code ⟨g, d, noX⟩ (retC Q) [] (pad args rest) σ) : Fn (d + 1) fn args Q σ := FnX.go H hcell hb hc hn h
theorem args0 {P : List Value → Prop} (h : P []) : ∀ r : List Value, r.length = 0 → P r := fun r e => List.length_eq_zero_iff.mp e ▸ h
theorem argsS {P : List Value → Prop} {n : Nat} (h : ∀ a r, r.length = n → P (a :: r)) : ∀ r : List Value, r.length = n + 1 → P r := fun r e => by
  cases r with
  | nil => cases e
  | cons a r => exact h a r (Nat.succ.inj e)
theorem args1 {P : List Value → Prop} (h : ∀ a, P [a]) : ∀ r : List Value, r.length = 1 → P r := argsS fun a => args0 (P := fun r => P (a :: r)) (h a)
theorem args2 {P : List Value → Prop} (h : ∀ a b, P [a, b]) : ∀ r : List Value, r.length = 2 → P r := argsS fun a => args1 (P := fun r => P (a :: r)) (h a)
theorem args3 {P : List Value → Prop} (h : ∀ a b c, P [a, b, c]) : ∀ r : List Value, r.length = 3 → P r := argsS fun a => args2 (P := fun r => P (a :: r)) (h a)
theorem args4 {P : List Value → Prop} (h : ∀ a b c d, P [a, b, c, d]) : ∀ r : List Value, r.length = 4 → P r := argsS fun a => args3 (P := fun r => P (a :: r)) (h a)
noncomputable def c_log2_1 : Cd := .ld 0 <| .lit (.int (1)) <| .bin .RShift <| .st 0 <| .ld 1 <| .lit (.int (1)) <| .bin .Add <| .st 1 <| .fin
noncomputable def c_log2_2 : Cd := .ld 0 <| .lit (.int (0)) <| .cmp .Gt <| .br (c_log2_1) (.brk)
noncomputable def c_log2 : Cd := .lit (.int (1)) <| .una .USub <| .st 1 <| .whl (c_log2_2) (.ld 1 <| .ret)
noncomputable def lg (n : Int) : Int := if 0 < n then (Nat.log2 n.toNat : Int) else -1
theorem lg_half {n : Int} (h : 0 < n) : lg n = lg (n.fdiv 2) + 1 := by
  unfold lg
  rw [if_pos h]
  obtain ⟨m, rfl⟩ := Int.eq_ofNat_of_zero_le (Int.le_of_lt h)
  have e : (m : Int).fdiv 2 = ((m / 2 : Nat) : Int) := by
    rw [Int.fdiv_eq_ediv_of_nonneg _ (by (refine Int.not_lt.mp fun q_ => ?_; lia -abstractProof))]; lia -abstractProof
  rw [e]
  simp only [Int.toNat_natCast]
  by_cases h2 : 0 < m / 2
  · rw [if_pos (by (refine Int.lt_of_not_ge fun q_ => ?_; lia -abstractProof))]
    rw [Nat.log2_def m, if_pos (by (refine Nat.le_of_not_lt fun q_ => ?_; lia -abstractProof))]
    lia -abstractProof
  · rw [if_neg (by lia -abstractProof)]
    have : m = 1 := by lia -abstractProof
    subst this
    decide
theorem log2_ok {n : Int} {σ : MH} : Fn 1 125 [.int n] (fun r σ' => r = .int (lg n) ∧ σ' = σ) σ := by
  refine Fn.go (ps := ["n"]) (rest := ["found"]) (code := c_log2) (fun q_ => by kernel_rfl) (fun q_ => by kernel_rfl) (fun q_ => args1 fun q_ => by kernel_rfl) (fun q_ => by kernel_rfl) rfl fun g L => ?_
  refine Whl.mk (Q2 σ (fun m q_ => m.toNat) (fun (m fnd : Int) => [some (.int m), some (.int fnd)]) fun m fnd => lg m + fnd + 1 = lg n) _ ⟨n, -1, by lia -abstractProof⟩ ?_
  rintro k ls σ1 ⟨m, fnd, he⟩
  refine brk2.dec (fun hp => ?_) fun hp => ?_
  · refine Pv.shr (by decide) ?_
    refine ⟨_, ?_, _, _, ?_⟩
    · have : m.fdiv 2 = m / 2 := Int.fdiv_eq_ediv_of_nonneg _ (by (refine Int.not_lt.mp fun q_ => ?_; lia -abstractProof))
      show (m.fdiv (2 ^ 1)).toNat < _
      rw [show (2 : Int) ^ 1 = 2 from rfl]
      (refine Nat.lt_of_not_le fun q_ => ?_; lia -abstractProof)
    · have := lg_half hp
      show lg (m.fdiv (2 ^ 1)) + (fnd + 1) + 1 = _
      simp only [show (2 : Int) ^ 1 = 2 from rfl]
      lia -abstractProof
  · refine ⟨?_, rfl⟩
    have : lg m = -1 := by unfold lg; rw [if_neg hp]
    rw [show fnd = lg n by lia -abstractProof]
structure Rf where
  kind : Nat
  num : Int
noncomputable abbrev Nu := Addr → Option Rf
noncomputable def cls : Nat → Addr
  | 0 => cT
  | 1 => cL
  | _ => cD
structure Knows (σ : MH) (ν : Nu) : Prop where
  at_ : ∀ a r, ν a = some r → r.kind ≤ 2 ∧ ∃ fs, σ a = some (.inst (cls r.kind) fs) ∧ getF fs "number" = some (.int r.num) ∧ getF fs "kind" = none

structure Nd where
  key : V
  value : V
  next : Int
noncomputable def Nd.fs (n : Nd) : List (Str × V) := [("key", n.key), ("value", n.value), ("next", .int n.next)]
structure Tb where
  num : Int
  mark : V
  size : V
  meta_ : V
  flags : V
  weak : V
  aa : Addr
  arr : List V
  na : Addr
  nds : List (Addr × Nd)
  logn : V
  free : Int
noncomputable def Tb.fs (T : Tb) : List (Str × V) := [("number", .int T.num), ("mark", T.mark), ("size", T.size), ("meta", T.meta_), ("flags", T.flags), ("weak", T.weak), ("array", .ref T.aa), ("nodes", .ref T.na), ("log_nodes", T.logn), ("free", .int T.free)]
structure TR (σ : MH) (t : Addr) (T : Tb) : Prop where
  t : σ t = some (.inst cT T.fs)
  arr : σ T.aa = some (.list T.arr)
  nl : σ T.na = some (.list (T.nds.map fun p => .ref p.1))
  nd : ∀ p ∈ T.nds, σ p.1 = some (.inst cN p.2.fs)
  nodup : (T.nds.map (·.1)).Nodup
  ne : T.aa ≠ T.na
  pa : ∀ v ∈ T.arr, v.plain = true
  pn : ∀ p ∈ T.nds, p.2.key.plain = true ∧ p.2.value.plain = true
  sa : T.arr.length ≤ 2 ^ 23
  sn : T.nds.length ≤ 2 ^ 23
noncomputable def foot (t : Addr) (T : Tb) (b : Addr) : Prop := b = t ∨ b = T.aa ∨ b = T.na ∨ b ∈ T.nds.map (·.1)
structure Mv (σ : MH) (t : Addr) (T : Tb) (σ' : MH) (T' : Tb) : Prop where
  keep : ∀ b o, σ b = some o → ¬ foot t T b → σ' b = some o
  ft : ∀ b, foot t T' b → foot t T b ∨ σ b = none
  dom : ∀ b o, σ b = some o → ∃ o', σ' b = some o'
  num : T'.num = T.num
theorem Mv.refl (σ t T) : Mv σ t T σ T := ⟨fun q_ q_ h q_ => h, fun q_ h => .inl h, fun q_ o h => ⟨o, h⟩, rfl⟩
theorem Mv.none_of {σ t T σ' T'} (m : Mv σ t T σ' T') {b} (h : σ' b = none) : σ b = none := by
  cases q : σ b with
  | none => rfl
  | some o => obtain ⟨o', h'⟩ := m.dom b o q; rw [h] at h'; cases h'
theorem Mv.trans {σ t T σ' T' σ'' T''} (x : Mv σ t T σ' T') (y : Mv σ' t T' σ'' T'') : Mv σ t T σ'' T'' where
  keep b o h n := y.keep b o (x.keep b o h n) fun z => (x.ft b z).elim n fun q => by rw [h] at q; cases q
  ft b h := (y.ft b h).elim (x.ft b) fun z => .inr (x.none_of z)
  dom b o h := by obtain ⟨o', h'⟩ := x.dom b o h; exact y.dom b o' h'
  num := y.num.trans x.num
theorem TR.at_ {σ t T} (h : TR σ t T) {i : Nat} {p} (e : T.nds[i]? = some p) : σ p.1 = some (.inst cN p.2.fs) := h.nd p (List.mem_of_getElem? e)
theorem TR.same {σ σ' t T} (h : TR σ t T) (k : ∀ b o, foot t T b → σ b = some o → σ' b = some o) : TR σ' t T :=
  ⟨k _ _ (.inl rfl) h.t, k _ _ (.inr (.inl rfl)) h.arr, k _ _ (.inr (.inr (.inl rfl))) h.nl, fun p hp => k _ _ (.inr (.inr (.inr (List.mem_map.mpr ⟨p, hp, rfl⟩)))) (h.nd p hp), h.nodup, h.ne, h.pa, h.pn, h.sa, h.sn⟩
theorem TR.footD {σ t T} (h : TR σ t T) {b} (f : foot t T b) : ∃ o, σ b = some o := by
  rcases f with rfl | rfl | rfl | f
  · exact ⟨_, h.t⟩
  · exact ⟨_, h.arr⟩
  · exact ⟨_, h.nl⟩
  · obtain ⟨p, hp, rfl⟩ := List.mem_map.mp f; exact ⟨_, h.nd p hp⟩
theorem TR.notFoot {σ t T} (h : TR σ t T) {a C fs} (e : σ a = some (.inst C fs)) (hC : C ≠ cN) (ht : a ≠ t) : ¬ foot t T a := by
  rintro (rfl | rfl | rfl | f)
  · exact ht rfl
  · rw [h.arr] at e; cases e
  · rw [h.nl] at e; cases e
  · obtain ⟨p, hp, rfl⟩ := List.mem_map.mp f
    rw [h.nd p hp] at e; cases e; exact hC rfl
theorem cls_ne (k : Nat) : cls k ≠ cN := by
  unfold cls; split <;> decide
theorem Knows.mv {σ ν t T σ' T'} (k : Knows σ ν) (h : TR σ t T) (m : Mv σ t T σ' T') (hn : ν t = none) : Knows σ' ν := ⟨fun a r e => by
  obtain ⟨h1, fs, h2, h3⟩ := k.at_ a r e
  exact ⟨h1, fs, m.keep _ _ h2 (h.notFoot h2 (cls_ne _) fun z => by rw [z, hn] at e; cases e), h3⟩⟩
theorem Knows.fresh {σ ν a o} (k : Knows σ ν) (h : σ a = none) : Knows (upd σ a o) ν := ⟨fun b r e => by
  obtain ⟨h1, fs, h2, h3⟩ := k.at_ b r e
  exact ⟨h1, fs, (upd_ne _ _ fun z => by rw [z, h] at h2; cases h2).trans h2, h3⟩⟩

noncomputable def Tb.setNd (T : Tb) (i : Nat) (n : Nd) : Tb := { T with nds := T.nds.modify i fun p => (p.1, n) }
theorem map_modify {α β : Type} (f : α → β) (g : α → α) (h : ∀ x, f (g x) = f x) : ∀ (l : List α) (i : Nat), (l.modify i g).map f = l.map f
  | [], 0 => rfl
  | [], _ + 1 => rfl
  | _ :: _, 0 => by simp [h]
  | _ :: r, i + 1 => by simp [map_modify f g h r i]
theorem setNd_ad (T : Tb) (i n) : (T.setNd i n).nds.map (·.1) = T.nds.map (·.1) := map_modify (·.1) (fun p => (p.1, n)) (fun q_ => rfl) T.nds i
theorem setNd_refs (T : Tb) (i n) : ((T.setNd i n).nds.map fun p => V.ref p.1) = T.nds.map fun p => V.ref p.1 := map_modify (fun p => V.ref p.1) (fun p => (p.1, n)) (fun q_ => rfl) T.nds i
theorem nd_at {σ t T} (h : TR σ t T) {i j : Nat} {p q} (hi : T.nds[i]? = some p) (hj : T.nds[j]? = some q) (e : p.1 = q.1) : i = j := by
  have hi' := List.getElem?_eq_some_iff.mp hi
  have hj' := List.getElem?_eq_some_iff.mp hj
  obtain ⟨li, hi'⟩ := hi'
  obtain ⟨lj, hj'⟩ := hj'
  exact (List.getElem_inj (h₀ := by simpa using li) (h₁ := by simpa using lj) h.nodup).mp (by simp [hi', hj', e])

theorem TR.setNd {σ t T} (h : TR σ t T) {i : Nat} {a n} {n' : Nd} (hi : T.nds[i]? = some (a, n)) (hp : n'.key.plain = true ∧ n'.value.plain = true) :
    TR (upd σ a (.inst cN n'.fs)) t (T.setNd i n') ∧ Mv σ t T (upd σ a (.inst cN n'.fs)) (T.setNd i n') := by
  have ha := h.at_ hi
  have net : t ≠ a := fun z => by rw [← z, h.t] at ha; exact absurd ha (by simp [cT, cN])
  have nea : T.aa ≠ a := fun z => by rw [← z, h.arr] at ha; cases ha
  have nen : T.na ≠ a := fun z => by rw [← z, h.nl] at ha; cases ha
  refine ⟨⟨(upd_ne _ _ net).trans h.t, (upd_ne _ _ nea).trans h.arr, (upd_ne _ _ nen).trans (by rw [setNd_refs]; exact h.nl), fun p hp => ?_, by rw [setNd_ad]; exact h.nodup, h.ne, h.pa, fun p hpq => ?_, h.sa, by show (T.nds.modify i _).length ≤ _; rw [List.length_modify]; exact h.sn⟩,
    fun b o e n => ?_, fun b f => .inl ?_, fun b o e => ?_, rfl⟩
  · obtain ⟨j, hj⟩ := List.getElem?_of_mem hp
    have hj : (T.nds.modify i fun p => (p.1, n'))[j]? = some p := hj
    rw [List.getElem?_modify] at hj
    obtain ⟨q, hq, e⟩ := Option.map_eq_some_iff.mp hj
    by_cases z : i = j
    · subst z
      rw [hi] at hq; cases hq
      simp at e; subst e
      exact upd_same ..
    · simp [z] at e; subst e
      rw [upd_ne]
      · exact h.at_ hq
      · intro w; exact z (nd_at h hi hq w.symm)
  · obtain ⟨j, hj⟩ := List.getElem?_of_mem hpq
    have hj : (T.nds.modify i fun p => (p.1, n'))[j]? = some p := hj
    rw [List.getElem?_modify] at hj
    obtain ⟨q, hq, e⟩ := Option.map_eq_some_iff.mp hj
    by_cases z : i = j
    · simp [z] at e; subst e; exact hp
    · simp [z] at e; subst e; exact h.pn _ (List.mem_of_getElem? hq)
  · rw [upd_ne]
    · exact e
    · intro z; exact n (.inr (.inr (.inr (z ▸ List.mem_map.mpr ⟨_, List.mem_of_getElem? hi, rfl⟩))))
  · rcases f with f | f | f | f
    · exact .inl f
    · exact .inr (.inl f)
    · exact .inr (.inr (.inl f))
    · rw [setNd_ad] at f; exact .inr (.inr (.inr f))
  · by_cases z : b = a
    · subst z; exact ⟨_, upd_same ..⟩
    · exact ⟨o, (upd_ne _ _ z).trans e⟩
theorem TR.setF {σ t T T'} (h : TR σ t T) (e1 : T'.aa = T.aa) (e2 : T'.arr = T.arr) (e3 : T'.na = T.na) (e4 : T'.nds = T.nds) (e5 : T'.num = T.num) : TR (upd σ t (.inst cT T'.fs)) t T' ∧ Mv σ t T (upd σ t (.inst cT T'.fs)) T' := by
  have nea : T.aa ≠ t := fun z => by have := h.arr; rw [z, h.t] at this; cases this
  have nen : T.na ≠ t := fun z => by have := h.nl; rw [z, h.t] at this; cases this
  refine ⟨⟨upd_same .., by rw [e1, e2]; exact (upd_ne _ _ nea).trans h.arr, by rw [e3, e4]; exact (upd_ne _ _ nen).trans h.nl, fun p hp => ?_, by rw [e4]; exact h.nodup, by rw [e1, e3]; exact h.ne, by rw [e2]; exact h.pa, by rw [e4]; exact h.pn, by rw [e2]; exact h.sa, by rw [e4]; exact h.sn⟩,
    fun b o e n => ?_, fun b f => .inl ?_, fun b o e => ?_, e5⟩
  · rw [e4] at hp
    rw [upd_ne]
    · exact h.nd p hp
    · intro z; have := h.nd p hp; rw [z, h.t] at this; exact absurd this (by simp [cT, cN])
  · rw [upd_ne]
    · exact e
    · intro z; exact n (.inl z)
  · unfold foot at *; rwa [e1, e3, e4] at f
  · by_cases z : b = t
    · subst z; exact ⟨_, upd_same ..⟩
    · exact ⟨o, (upd_ne _ _ z).trans e⟩
theorem TR.setA {σ t T} (h : TR σ t T) (xs : List V) (hp : ∀ v ∈ xs, v.plain = true) (hz : xs.length ≤ 2 ^ 23) : TR (upd σ T.aa (.list xs)) t { T with arr := xs } ∧ Mv σ t T (upd σ T.aa (.list xs)) { T with arr := xs } := by
  have nea : t ≠ T.aa := fun z => by have := h.arr; rw [← z, h.t] at this; cases this
  refine ⟨⟨(upd_ne _ _ nea).trans h.t, upd_same .., (upd_ne _ _ h.ne.symm).trans h.nl, fun p hp => ?_, h.nodup, h.ne, hp, h.pn, hz, h.sn⟩, fun b o e n => ?_, fun b f => .inl f, fun b o e => ?_, rfl⟩
  · refine (upd_ne _ _ fun z => ?_).trans (h.nd p hp)
    have := h.nd p hp; rw [z, h.arr] at this; cases this
  · rw [upd_ne]
    · exact e
    · intro z; exact n (.inr (.inl z))
  · by_cases z : b = T.aa
    · subst z; exact ⟨_, upd_same ..⟩
    · exact ⟨o, (upd_ne _ _ z).trans e⟩
theorem TR.new {σ t T a o} (h : TR σ t T) (ha : σ a = none) : TR (upd σ a o) t T ∧ Mv σ t T (upd σ a o) T := by
  have k : ∀ b x, σ b = some x → upd σ a o b = some x := fun b x e => (upd_ne _ _ fun z => by rw [z, ha] at e; cases e).trans e
  exact ⟨h.same fun b x q_ e => k b x e, fun b o e q_ => k b o e, fun b f => .inl f, fun b o e => ⟨o, k b o e⟩, rfl⟩
section
variable {g : G} (E : Law g)
include E
theorem Law.fT {x : Str} (h : (["number", "mark", "size", "meta", "flags", "weak", "array", "nodes", "log_nodes", "free"] : List Str).contains x = true) : fldK g.K cT x = true := by
  have : ∀ P, (["number", "mark", "size", "meta", "flags", "weak", "array", "nodes", "log_nodes", "free"] : List Str).all (fun x => fldK (hd.heap_1 P) cT x) = true := fun P => by kernel_rfl
  rw [E.K]
  exact List.all_eq_true.mp (this _) x (by simpa using h)
theorem Law.fN {x : Str} (h : (["key", "value", "next"] : List Str).contains x = true) : fldK g.K cN x = true := by
  have : ∀ P, (["key", "value", "next"] : List Str).all (fun x => fldK (hd.heap_1 P) cN x) = true := fun P => by kernel_rfl
  rw [E.K]
  exact List.all_eq_true.mp (this _) x (by simpa using h)
theorem Law.fNum {k : Nat} : fldK g.K (cls k) "number" = true := by
  unfold cls; rw [E.K]
  split <;> kernel_rfl
end
section
variable {E : En} {σ : MH} {K : V → MH → Prop} {KK : MH → Prop}
theorem Pv.fld {a C fs x v} (hσ : σ a = some (.inst C fs)) (hk : fldK E.g.K C x = true) (hx : getF fs x = some v) (hp : v.plain = true) (h : K v σ) : Pv E (gA x) [.ref a] K σ := ⟨fun φ e => PV.fld hσ (by rw [e]; exact hk) hx hp h⟩
theorem Pu.fld {a C fs x v} (hσ : σ a = some (.inst C fs)) (hk : fldK E.g.K C x = true) (hz : fs.length ≤ 900) (h : KK (upd σ a (.inst C (setF fs x v)))) : Pu E (sA x) [.ref a, v] KK σ := ⟨fun φ e => PU.setattr hσ (by rw [e]; exact hk) hz h⟩
theorem Pg.lst {a xs} {k : Int} {v : V} (hσ : lst σ a xs) (h0 : 0 ≤ k) (hk : k < 2 ^ 63) (hx : xs[k.toNat]? = some v) (h : K v σ) : Pg E (.ref a) (.int k) K σ := ⟨fun q_ q_ => PG.list hσ h0 hk hx h⟩
theorem Pg.tup {xs} {k : Int} {v : V} (h0 : 0 ≤ k) (hk : k < 2 ^ 63) (hx : xs[k.toNat]? = some v) (h : K v σ) : Pg E (.tup xs) (.int k) K σ := ⟨fun q_ q_ => PG.tup h0 hk hx h⟩
theorem Pg.bytes {b : Array UInt8} {k : Int} (hz : b.size ≤ 2 ^ 30) (h0 : 0 ≤ k) (hk : k < b.size) (h : K (.int (b.toList.getD k.toNat 0).toNat) σ) : Pg E (.bytes b) (.int k) K σ := ⟨fun q_ q_ => PG.bytes hz h0 hk h⟩
theorem Pu.lst {a xs v} {k : Int} (hσ : σ a = some (.list xs)) (h0 : 0 ≤ k) (hk : k < xs.length) (hz : xs.length ≤ 2 ^ 24) (h : KK (upd σ a (.list (xs.set k.toNat v)))) : Pu E (u3 setItem) [.ref a, .int k, v] KK σ := ⟨fun q_ q_ => PU.setList hσ h0 hk hz h⟩
theorem Pv.len {a xs} (hσ : Mn.lst σ a xs) (hz : xs.length < 2 ^ 60) (h : K (.int xs.length) σ) : Pv E tcall [.bi "len", .ref a] K σ := ⟨fun q_ q_ => PV.len_list hσ hz h⟩
theorem Pv.lenB {b : Array UInt8} (hz : b.size ≤ 2 ^ 30) (h : K (.int b.size) σ) : Pv E tcall [.bi "len", .bytes b] K σ := ⟨fun q_ q_ => PV.len_bytes hz h⟩
theorem Pv.intB {b : Bool} (h : K (.int (if b = true then 1 else 0)) σ) : Pv E tcall [.typ "int", .bool b] K σ := ⟨fun q_ q_ => PV.int_bool h⟩
theorem Pv.min2 {a b : Int} (h : K (.int (if b < a then b else a)) σ) : Pv E tcall [.bi "min", .int a, .int b] K σ := ⟨fun q_ q_ => PV.min2 h⟩
theorem Pv.app {a xs v} (hσ : σ a = some (.list xs)) (hz : xs.length ≤ 2 ^ 24) (h : K .none (upd σ a (.list (xs ++ [v])))) : Pv E tcall [.bi "list.append", .ref a, v] K σ := ⟨fun q_ q_ => PV.append hσ hz h⟩
theorem Pv.eq {n a b} (c : Cq n a b) (hn : n ≤ 100) (h : K (.bool (veq a b)) σ) : Pv E (t2 (compareOp .Eq)) [a, b] K σ := ⟨fun q_ q_ => PV.eq c hn h⟩
end
section
variable {E : En} (L : Law E.g) {t : Addr} {T : Tb} {σ : MH} {K : V → MH → Prop} {KK : MH → Prop}
include L
theorem Pv.tf (hT : TR σ t T) {x v} (hx : getF T.fs x = some v) (hk : (["number", "mark", "size", "meta", "flags", "weak", "array", "nodes", "log_nodes", "free"] : List Str).contains x = true) (hp : v.plain = true) (h : K v σ) : Pv E (gA x) [.ref t] K σ :=
  Pv.fld hT.t (L.fT hk) hx hp h
theorem Pv.array (hT : TR σ t T) (h : K (.ref T.aa) σ) : Pv E (gA "array") [.ref t] K σ := Pv.tf L hT (by kernel_rfl) (by kernel_rfl) rfl h
theorem Pv.nodes (hT : TR σ t T) (h : K (.ref T.na) σ) : Pv E (gA "nodes") [.ref t] K σ := Pv.tf L hT (by kernel_rfl) (by kernel_rfl) rfl h
theorem Pv.free (hT : TR σ t T) (h : K (.int T.free) σ) : Pv E (gA "free") [.ref t] K σ := Pv.tf L hT (by kernel_rfl) (by kernel_rfl) rfl h
theorem Pv.logn (hT : TR σ t T) (hp : T.logn.plain = true) (h : K T.logn σ) : Pv E (gA "log_nodes") [.ref t] K σ := Pv.tf L hT (by kernel_rfl) (by kernel_rfl) hp h
theorem Pv.key {a} {i : Nat} {n : Nd} (hT : TR σ t T) (hi : T.nds[i]? = some (a, n)) (h : K n.key σ) : Pv E (gA "key") [.ref a] K σ :=
  Pv.fld (hT.at_ hi) (L.fN (by kernel_rfl)) (show getF (Nd.fs n) "key" = some n.key by kernel_rfl) (hT.pn _ (List.mem_of_getElem? hi)).1 h
theorem Pv.value {a} {i : Nat} {n : Nd} (hT : TR σ t T) (hi : T.nds[i]? = some (a, n)) (h : K n.value σ) : Pv E (gA "value") [.ref a] K σ :=
  Pv.fld (hT.at_ hi) (L.fN (by kernel_rfl)) (show getF (Nd.fs n) "value" = some n.value by kernel_rfl) (hT.pn _ (List.mem_of_getElem? hi)).2 h
theorem Pv.next {a} {i : Nat} {n : Nd} (hT : TR σ t T) (hi : T.nds[i]? = some (a, n)) (h : K (.int n.next) σ) : Pv E (gA "next") [.ref a] K σ :=
  Pv.fld (hT.at_ hi) (L.fN (by kernel_rfl)) (show getF (Nd.fs n) "next" = some (.int n.next) by kernel_rfl) rfl h
theorem Pu.key {a v} {i : Nat} {n : Nd} (hT : TR σ t T) (hi : T.nds[i]? = some (a, n)) (hp : v.plain = true) (h : ∀ σ', TR σ' t (T.setNd i { n with key := v }) → Mv σ t T σ' (T.setNd i { n with key := v }) → KK σ') : Pu E (sA "key") [.ref a, v] KK σ :=
  have r := hT.setNd hi (n' := { n with key := v }) ⟨hp, (hT.pn _ (List.mem_of_getElem? hi)).2⟩
  Pu.fld (hT.at_ hi) (L.fN (by kernel_rfl)) (show _ ≤ 900 from Nat.le_of_ble_eq_true rfl) (by rw [show setF (Nd.fs n) "key" v = Nd.fs { n with key := v } by kernel_rfl]; exact h _ r.1 r.2)
theorem Pu.value {a v} {i : Nat} {n : Nd} (hT : TR σ t T) (hi : T.nds[i]? = some (a, n)) (hp : v.plain = true) (h : ∀ σ', TR σ' t (T.setNd i { n with value := v }) → Mv σ t T σ' (T.setNd i { n with value := v }) → KK σ') : Pu E (sA "value") [.ref a, v] KK σ :=
  have r := hT.setNd hi (n' := { n with value := v }) ⟨(hT.pn _ (List.mem_of_getElem? hi)).1, hp⟩
  Pu.fld (hT.at_ hi) (L.fN (by kernel_rfl)) (show _ ≤ 900 from Nat.le_of_ble_eq_true rfl) (by rw [show setF (Nd.fs n) "value" v = Nd.fs { n with value := v } by kernel_rfl]; exact h _ r.1 r.2)
theorem Pu.next {a} {i : Nat} {n : Nd} {k : Int} (hT : TR σ t T) (hi : T.nds[i]? = some (a, n)) (h : ∀ σ', TR σ' t (T.setNd i { n with next := k }) → Mv σ t T σ' (T.setNd i { n with next := k }) → KK σ') : Pu E (sA "next") [.ref a, .int k] KK σ :=
  have r := hT.setNd hi (n' := { n with next := k }) (hT.pn _ (List.mem_of_getElem? hi))
  Pu.fld (hT.at_ hi) (L.fN (by kernel_rfl)) (show _ ≤ 900 from Nat.le_of_ble_eq_true rfl) (by rw [show setF (Nd.fs n) "next" (.int k) = Nd.fs { n with next := k } by kernel_rfl]; exact h _ r.1 r.2)
theorem Pu.free {k : Int} (hT : TR σ t T) (h : ∀ σ', TR σ' t { T with free := k } → Mv σ t T σ' { T with free := k } → KK σ') : Pu E (sA "free") [.ref t, .int k] KK σ :=
  have r := hT.setF (T' := { T with free := k }) rfl rfl rfl rfl rfl
  Pu.fld hT.t (L.fT (by kernel_rfl)) (show _ ≤ 900 from Nat.le_of_ble_eq_true rfl) (by rw [show setF T.fs "free" (.int k) = Tb.fs { T with free := k } by kernel_rfl]; exact h _ r.1 r.2)
theorem Pu.flags {v} (hT : TR σ t T) (h : ∀ σ', TR σ' t { T with flags := v } → Mv σ t T σ' { T with flags := v } → KK σ') : Pu E (sA "flags") [.ref t, v] KK σ :=
  have r := hT.setF (T' := { T with flags := v }) rfl rfl rfl rfl rfl
  Pu.fld hT.t (L.fT (by kernel_rfl)) (show _ ≤ 900 from Nat.le_of_ble_eq_true rfl) (by rw [show setF T.fs "flags" v = Tb.fs { T with flags := v } by kernel_rfl]; exact h _ r.1 r.2)
theorem Pu.size {v} (hT : TR σ t T) (h : ∀ σ', TR σ' t { T with size := v } → Mv σ t T σ' { T with size := v } → KK σ') : Pu E (sA "size") [.ref t, v] KK σ :=
  have r := hT.setF (T' := { T with size := v }) rfl rfl rfl rfl rfl
  Pu.fld hT.t (L.fT (by kernel_rfl)) (show _ ≤ 900 from Nat.le_of_ble_eq_true rfl) (by rw [show setF T.fs "size" v = Tb.fs { T with size := v } by kernel_rfl]; exact h _ r.1 r.2)
omit L
theorem Pg.arr {k : Int} {v : V} (hT : TR σ t T) (h0 : 0 ≤ k) (hx : T.arr[k.toNat]? = some v) (h : K v σ) : Pg E (.ref T.aa) (.int k) K σ :=
  Pg.lst (.inl hT.arr) h0 (by have := (List.getElem?_eq_some_iff.mp hx).1; have := hT.sa; (refine Int.lt_of_not_ge fun q_ => ?_; lia -abstractProof)) hx h
theorem Pg.nod {k : Int} {a n} (hT : TR σ t T) (h0 : 0 ≤ k) (hx : T.nds[k.toNat]? = some (a, n)) (h : K (.ref a) σ) : Pg E (.ref T.na) (.int k) K σ :=
  Pg.lst (.inl hT.nl) h0 (by have := (List.getElem?_eq_some_iff.mp hx).1; have := hT.sn; (refine Int.lt_of_not_ge fun q_ => ?_; lia -abstractProof)) (by rw [List.getElem?_map, hx]; rfl) h
theorem Pv.lenA (hT : TR σ t T) (h : K (.int T.arr.length) σ) : Pv E tcall [.bi "len", .ref T.aa] K σ := Pv.len (.inl hT.arr) (by have := hT.sa; (refine Nat.lt_of_le_of_lt (by assumption) ?_; decide)) h
theorem Pv.lenN (hT : TR σ t T) (h : K (.int T.nds.length) σ) : Pv E tcall [.bi "len", .ref T.na] K σ :=
  Pv.len (.inl hT.nl) (by have := hT.sn; simp; (refine Nat.lt_of_le_of_lt (by assumption) ?_; decide)) (by simpa using h)
theorem Pu.arr {k : Int} {v : V} (hT : TR σ t T) (h0 : 0 ≤ k) (hk : k < T.arr.length) (hp : v.plain = true) (h : ∀ σ', TR σ' t { T with arr := T.arr.set k.toNat v } → Mv σ t T σ' { T with arr := T.arr.set k.toNat v } → KK σ') :
    Pu E (u3 setItem) [.ref T.aa, .int k, v] KK σ :=
  have r := hT.setA (T.arr.set k.toNat v) (fun w hw => (List.mem_or_eq_of_mem_set hw).elim (hT.pa w) fun e => e ▸ hp) (by rw [List.length_set]; exact hT.sa)
  Pu.lst hT.arr h0 hk (by have := hT.sa; (refine Nat.le_trans (by assumption) ?_; decide)) (h _ r.1 r.2)
theorem Meth.tab {x : Str} {P : Prop} (hT : TR σ t T) (hx : getF T.fs x = none) (h : P) : Meth x cT σ P (.ref t) := .mk t T.fs hT.t hx h
end
noncomputable def tag (ν : Nu) : V → Tag
  | .none => .nil
  | .bool b => .bool b
  | .int i => .int i
  | .bytes b => .bytes b.toList
  | .ref a => match ν a with | some r => .ref r.kind r.num | none => .bad
  | _ => .bad
inductive AnyV (ν : Nu) : V → Prop
  | none : AnyV ν .none
  | bool (b : Bool) : AnyV ν (.bool b)
  | int (i : Int) : AnyV ν (.int i)
  | bytes (b : Array UInt8) (h : b.size ≤ 2 ^ 20) : AnyV ν (.bytes b)
  | ref (a : Addr) (r : Rf) (h : ν a = some r) : AnyV ν (.ref a)
theorem AnyV.plain {ν v} (h : AnyV ν v) : v.plain = true := by cases h <;> rfl
noncomputable def isInt : V → Bool
  | .int _ => true
  | _ => false
noncomputable def tcode : Tag → Int
  | .nil => 0
  | .bool _ => 1
  | .int _ => 3
  | .bytes _ => 4
  | .ref 0 _ => 5
  | .ref 1 _ => 2
  | _ => -1
noncomputable def isTab : Tag → Bool
  | .ref 0 _ => true
  | _ => false
noncomputable def isBool : V → Bool
  | .bool _ => true
  | _ => false
noncomputable def isBytes : V → Bool
  | .bytes _ => true
  | _ => false
noncomputable def isRef (k : Nat) : Tag → Bool
  | .ref j _ => j == k
  | _ => false
theorem tag_ref {ν : Nu} {a r} (h : ν a = some r) : tag ν (.ref a) = .ref r.kind r.num := by show (match ν a with | some r => Tag.ref r.kind r.num | none => .bad) = _; rw [h]
section
variable {E : En} (L : Law E.g) {ν : Nu} {σ : MH} {K : V → MH → Prop} {v : V}
theorem clsVal (c : V) (hc : ∀ h r, VRel h c r → r = toVal c) {b : Bool} (C : Value) (hv : ClsOf σ v C) (e : kitOne E.g.K C (toVal c) = some b) (ho : ownKV E.g.K C = true) (h : K (.bool b) σ) : Pv E tcall [.bi "isinstance", v, c] K σ :=
  ⟨fun φ q => PV.isi hv hc (by rw [q]; exact ho) (by rw [q]; exact e) h⟩
structure IsAns (K : Frag) (c : V) (fn fb fi fy f0 f1 f2 : Bool) : Prop where
  val : ∀ h r, VRel h c r → r = toVal c
  n : kitOne K (.type "NoneType") (toVal c) = some fn
  b : kitOne K (.type "bool") (toVal c) = some fb
  i : kitOne K (.type "int") (toVal c) = some fi
  y : kitOne K (.type "bytes") (toVal c) = some fy
  t : kitOne K (.ref cT) (toVal c) = some f0
  l : kitOne K (.ref cL) (toVal c) = some f1
  d : kitOne K (.ref cD) (toVal c) = some f2
theorem Law.own {g : G} (L : Law g) (k : Nat) : ownKV g.K (.ref (cls k)) = true := by unfold cls; rw [L.K]; split <;> kernel_rfl
include L
theorem IsAns.at {c fn fb fi fy f0 f1 f2} (A : IsAns E.g.K c fn fb fi fy f0 f1 f2) (k : Knows σ ν) (hv : AnyV ν v) {q : Bool} (hn : v = .none → fn = q) (hb : ∀ b, v = .bool b → fb = q) (hi : ∀ i, v = .int i → fi = q) (hy : ∀ b, v = .bytes b → fy = q)
    (h0 : ∀ n, tag ν v = .ref 0 n → f0 = q) (h1 : ∀ n, tag ν v = .ref 1 n → f1 = q) (h2 : ∀ n, tag ν v = .ref 2 n → f2 = q) (h : K (.bool q) σ) : Pv E tcall [.bi "isinstance", v, c] K σ := by
  cases hv with
  | none => exact clsVal c A.val _ .none (hn rfl ▸ A.n) rfl h
  | bool b => exact clsVal c A.val _ (.bool b) (hb b rfl ▸ A.b) rfl h
  | int b => exact clsVal c A.val _ (.int b) (hi b rfl ▸ A.i) rfl h
  | bytes b => exact clsVal c A.val _ (.bytes b) (hy b rfl ▸ A.y) rfl h
  | ref a r e =>
    obtain ⟨hk, fs, hσ, _⟩ := k.at_ a r e
    have et := tag_ref e
    obtain ⟨k, n⟩ := r
    have ho := L.own k
    rcases k with _ | _ | _ | k
    · exact clsVal c A.val _ (.inst hσ) (h0 n et ▸ A.t) ho h
    · exact clsVal c A.val _ (.inst hσ) (h1 n et ▸ A.l) ho h
    · exact clsVal c A.val _ (.inst hσ) (h2 n et ▸ A.d) ho h
    · exact absurd hk (by simp)
end
section
variable {E : En} (L : Law E.g) {ν : Nu} {σ : MH} {K : V → MH → Prop} {v : V}
theorem toVal_ref {a : Addr} : ∀ h r, VRel h (.ref a) r → r = toVal (.ref a) := fun q_ q_ e => e.ref_inv
theorem toVal_typ {n : String} : ∀ h r, VRel h (.typ n) r → r = toVal (.typ n) := fun q_ q_ e => e.typ_inv
noncomputable def ansB (K : Frag) (c : V) (fn fb fi fy f0 f1 f2 : Bool) : Bool :=
  kitOne K (.type "NoneType") (toVal c) == some fn && (kitOne K (.type "bool") (toVal c) == some fb && (kitOne K (.type "int") (toVal c) == some fi && (kitOne K (.type "bytes") (toVal c) == some fy && (kitOne K (.ref cT) (toVal c) == some f0 && (kitOne K (.ref cL) (toVal c) == some f1 && kitOne K (.ref cD) (toVal c) == some f2)))))
theorem Law.ans {g : G} (L : Law g) {c : V} {fn fb fi fy f0 f1 f2 : Bool} (hv : ∀ h r, VRel h c r → r = toVal c) (h : ∀ P, ansB (hd.heap_1 P) c fn fb fi fy f0 f1 f2 = true) : IsAns g.K c fn fb fi fy f0 f1 f2 := by
  have h := h g.w.params
  rw [← L.K] at h
  obtain ⟨h1, h⟩ := Bool.and_eq_true_iff.mp h
  obtain ⟨h2, h⟩ := Bool.and_eq_true_iff.mp h
  obtain ⟨h3, h⟩ := Bool.and_eq_true_iff.mp h
  obtain ⟨h4, h⟩ := Bool.and_eq_true_iff.mp h
  obtain ⟨h5, h⟩ := Bool.and_eq_true_iff.mp h
  obtain ⟨h6, h7⟩ := Bool.and_eq_true_iff.mp h
  exact ⟨hv, eq_of_beq h1, eq_of_beq h2, eq_of_beq h3, eq_of_beq h4, eq_of_beq h5, eq_of_beq h6, eq_of_beq h7⟩
theorem Law.isI {g : G} (L : Law g) : IsAns g.K (.typ "int") false true true false false false false := L.ans toVal_typ fun q_ => by kernel_rfl
theorem Law.isB {g : G} (L : Law g) : IsAns g.K (.typ "bool") false true false false false false false := L.ans toVal_typ fun q_ => by kernel_rfl
theorem Law.isY {g : G} (L : Law g) : IsAns g.K (.typ "bytes") false false false true false false false := L.ans toVal_typ fun q_ => by kernel_rfl
theorem Law.isH {g : G} (L : Law g) : IsAns g.K (.ref cH) false false false false true false false := L.ans toVal_ref fun q_ => by kernel_rfl
theorem Law.isL {g : G} (L : Law g) : IsAns g.K (.ref cL) false false false false false true false := L.ans toVal_ref fun q_ => by kernel_rfl
theorem Law.isD {g : G} (L : Law g) : IsAns g.K (.ref cD) false false false false false false true := L.ans toVal_ref fun q_ => by kernel_rfl
include L
theorem Pv.isR {k : Nat} {c fn fb fi fy f0 f1 f2} (A : IsAns E.g.K c fn fb fi fy f0 f1 f2) (hk : Knows σ ν) (hv : AnyV ν v) (hz : (!fn && !fb && !fi && !fy && f0 == (0 == k) && f1 == (1 == k) && f2 == (2 == k)) = true) (h : K (.bool (isRef k (tag ν v))) σ) : Pv E tcall [.bi "isinstance", v, c] K σ := by
  simp only [Bool.and_eq_true, Bool.not_eq_true', beq_iff_eq] at hz
  obtain ⟨⟨⟨⟨⟨⟨rfl, rfl⟩, rfl⟩, rfl⟩, rfl⟩, rfl⟩, rfl⟩ := hz
  exact A.at L hk hv (fun e => by rw [e]; rfl) (fun b e => by rw [e]; rfl) (fun b e => by rw [e]; rfl) (fun b e => by rw [e]; rfl) (fun n e => by rw [e]; rfl) (fun n e => by rw [e]; rfl) (fun n e => by rw [e]; rfl) h
omit L in
theorem isVal {f : V → Bool} (hr : ∀ a, f (.ref a) = false) {k n} (e : tag ν v = .ref k n) : false = f v := by
  cases v <;> first | exact (hr _).symm | cases e
theorem Pv.isB (hk : Knows σ ν) (hv : AnyV ν v) (h : K (.bool (isBool v)) σ) : Pv E tcall [.bi "isinstance", v, .typ "bool"] K σ :=
  L.isB.at L hk hv (fun e => by rw [e]; rfl) (fun b e => by rw [e]; rfl) (fun b e => by rw [e]; rfl) (fun b e => by rw [e]; rfl) (fun q_ e => isVal (fun q_ => rfl) e) (fun q_ e => isVal (fun q_ => rfl) e) (fun q_ e => isVal (fun q_ => rfl) e) h
theorem Pv.isI (hk : Knows σ ν) (hv : AnyV ν v) (h : K (.bool (isInt v || isBool v)) σ) : Pv E tcall [.bi "isinstance", v, .typ "int"] K σ :=
  L.isI.at L hk hv (fun e => by rw [e]; rfl) (fun b e => by rw [e]; rfl) (fun b e => by rw [e]; rfl) (fun b e => by rw [e]; rfl) (fun q_ e => isVal (f := fun v => isInt v || isBool v) (fun q_ => rfl) e) (fun q_ e => isVal (f := fun v => isInt v || isBool v) (fun q_ => rfl) e) (fun q_ e => isVal (f := fun v => isInt v || isBool v) (fun q_ => rfl) e) h
theorem Pv.isY (hk : Knows σ ν) (hv : AnyV ν v) (h : K (.bool (isBytes v)) σ) : Pv E tcall [.bi "isinstance", v, .typ "bytes"] K σ :=
  L.isY.at L hk hv (fun e => by rw [e]; rfl) (fun b e => by rw [e]; rfl) (fun b e => by rw [e]; rfl) (fun b e => by rw [e]; rfl) (fun q_ e => isVal (fun q_ => rfl) e) (fun q_ e => isVal (fun q_ => rfl) e) (fun q_ e => isVal (fun q_ => rfl) e) h
theorem Pv.isH (hk : Knows σ ν) (hv : AnyV ν v) (h : K (.bool (isRef 0 (tag ν v))) σ) : Pv E tcall [.bi "isinstance", v, .ref cH] K σ := Pv.isR L L.isH hk hv rfl h
theorem Pv.isL (hk : Knows σ ν) (hv : AnyV ν v) (h : K (.bool (isRef 1 (tag ν v))) σ) : Pv E tcall [.bi "isinstance", v, .ref cL] K σ := Pv.isR L L.isL hk hv rfl h
theorem Pv.isD (hk : Knows σ ν) (hv : AnyV ν v) (h : K (.bool (isRef 2 (tag ν v))) σ) : Pv E tcall [.bi "isinstance", v, .ref cD] K σ := Pv.isR L L.isD hk hv rfl h
end
noncomputable def c_is_number_1 : Cd := .ld 0 <| .lit (.typ "bool") <| .call (.bi "isinstance") 2 <| .una .Not <| .ret
noncomputable def c_is_number_2 : Cd := .lit (.bool false) <| .ret
noncomputable def c_is_number : Cd := .ld 0 <| .lit (.typ "int") <| .call (.bi "isinstance") 2 <| .br (c_is_number_1) (c_is_number_2)
theorem is_number_ok {ν v} {σ : MH} (k : Knows σ ν) (hv : AnyV ν v) : Fn 1 90 [v] (fun r σ' => r = .bool (isInt v) ∧ σ' = σ) σ := by
  refine Fn.go (ps := ["value"]) (rest := []) (code := c_is_number) (fun q_ => by kernel_rfl) (fun q_ => by kernel_rfl) (fun q_ => args1 fun q_ => by kernel_rfl) (fun q_ => by kernel_rfl) rfl fun g L => ?_
  refine Pv.isI L k hv (brk2.bool (fun e => ?_) fun e => ?_)
  · refine Pv.isB L k hv ⟨?_, rfl⟩
    cases v <;> first | rfl | cases e
  · refine ⟨?_, rfl⟩
    cases v <;> first | rfl | cases e
section
variable {E : En} (L : Law E.g) {ν : Nu} {σ : MH} {K : V → MH → Prop} {v a b : V}
set_option tactic.hygienic true in
theorem tag_inv {j n} (e : tag ν v = .ref j n) : ∃ a, v = .ref a ∧ ν a = some ⟨j, n⟩ := by
  cases v with
  | ref a =>
    refine ⟨a, rfl, ?_⟩
    change (match ν a with | some r => Tag.ref r.kind r.num | none => .bad) = .ref j n at e
    split at e
    · rename_i r h; cases e; exact h
    · cases e
  | _ => cases e
theorem isRef_eq {k t} (e : isRef k t = true) : ∃ n, t = .ref k n := by
  cases t with
  | ref j n => exact ⟨n, by rw [show j = k from eq_of_beq e]⟩
  | _ => cases e
include L
theorem Pv.num {j n} (k : Knows σ ν) (e : tag ν v = .ref j n) (h : K (.int n) σ) : Pv E (gA "number") [v] K σ := by
  obtain ⟨a, rfl, e2⟩ := tag_inv e
  obtain ⟨_, fs, h2, h3, _⟩ := k.at_ a _ e2
  exact Pv.fld h2 L.fNum h3 rfl h
theorem Pv.kind {n} (k : Knows σ ν) (e : tag ν v = .ref 0 n) (h : K (.int 5) σ) : Pv E (gA "kind") [v] K σ := by
  obtain ⟨a, rfl, e2⟩ := tag_inv e
  obtain ⟨_, fs, h2, _, h3⟩ := k.at_ a _ e2
  have t : ∃ tk, cattrK E.g.K cT "kind" (.int 5 tk) = true := by
    rw [L.K]
    exact ⟨209, by kernel_rfl⟩
  obtain ⟨tk, t⟩ := t
  exact ⟨fun φ q => PV.cattr h2 (by rw [q]; exact t) h3 (fun q_ => .int _ _) h⟩
omit L
theorem Pv.inTup {n xs x} (c : ∀ y ∈ xs, Cq n y x) (hn : n ≤ 100) (h : K (.bool (xs.any (veq · x))) σ) : Pv E (t2 (compareOp .In)) [x, .tup xs] K σ := ⟨fun q_ q_ => PV.inTup c hn h⟩
theorem veq_int {x y : Int} : veq (.int x) (.int y) = decide (x = y) := veq_dec ⟨fun e => V.int.inj e, fun e => e ▸ rfl⟩
theorem cmp_eq {n k Q s ls} (c : Cq n a b) (hn : n ≤ 100) (h : wp k E Q (.bool (veq a b) :: s) ls σ) : wp (.cmp .Eq k) E Q (b :: a :: s) ls σ := by
  show cmpQ E .Eq a b (fun v σ => wp k E Q (v :: s) ls σ) σ
  have p : Pv E (t2 (compareOp .Eq)) [a, b] (fun v σ => wp k E Q (v :: s) ls σ) σ := Pv.eq c hn h
  cases a with
  | int x =>
    cases b with
    | int y => rw [veq_int] at h; exact h
    | _ => exact p
  | _ => exact p
end
noncomputable def c_type_of_1 : Cd := .lit (.int (0)) <| .ret
noncomputable def c_type_of_2 : Cd := .lit (.int (1)) <| .ret
noncomputable def c_type_of_3 : Cd := .lit (.int (3)) <| .ret
noncomputable def c_type_of_4 : Cd := .lit (.int (4)) <| .ret
noncomputable def c_type_of_5 : Cd := .lit (.int (2)) <| .ret
noncomputable def c_type_of_6 : Cd := .ld 0 <| .fld "kind" <| .ret
noncomputable def c_type_of_7 : Cd := .lit (.int (-1)) <| .ret
noncomputable def c_type_of_8 : Cd := .ld 0 <| .lit (.ref 58) <| .call (.bi "isinstance") 2 <| .br (c_type_of_6) (c_type_of_7)
noncomputable def c_type_of_9 : Cd := .ld 0 <| .lit (.ref 79) <| .call (.bi "isinstance") 2 <| .br (c_type_of_5) (c_type_of_8)
noncomputable def c_type_of_10 : Cd := .ld 0 <| .lit (.typ "bytes") <| .call (.bi "isinstance") 2 <| .br (c_type_of_4) (c_type_of_9)
noncomputable def c_type_of_11 : Cd := .ld 0 <| .lit (.typ "int") <| .call (.bi "isinstance") 2 <| .br (c_type_of_3) (c_type_of_10)
noncomputable def c_type_of_12 : Cd := .ld 0 <| .lit (.typ "bool") <| .call (.bi "isinstance") 2 <| .br (c_type_of_2) (c_type_of_11)
noncomputable def c_type_of : Cd := .ld 0 <| .isn true <| .br (c_type_of_1) (c_type_of_12)
section
variable {ν : Nu} {σ : MH} {v a b : V}
theorem type_of_ok (k : Knows σ ν) (hv : AnyV ν v) : Fn 1 97 [v] (fun r σ' => r = .int (tcode (tag ν v)) ∧ σ' = σ) σ := by
  refine Fn.go (ps := ["value"]) (rest := []) (code := c_type_of) (fun q_ => by kernel_rfl) (fun q_ => by kernel_rfl) (fun q_ => args1 fun q_ => by kernel_rfl) (fun q_ => by kernel_rfl) rfl fun g L => ?_
  refine ⟨hv.plain, brk2.bool (fun e => ⟨?_, rfl⟩) fun e0 => Pv.isB L k hv (brk2.bool (fun e => ⟨?_, rfl⟩) fun e1 => Pv.isI L k hv (brk2.bool (fun e => ⟨?_, rfl⟩) fun e2 => Pv.isY L k hv (brk2.bool (fun e => ⟨?_, rfl⟩) fun e3 =>
    Pv.isL L k hv (brk2.bool (fun e => ?_) fun e4 => Pv.isH L k hv (brk2.bool (fun e => ?_) fun e5 => ⟨?_, rfl⟩)))))⟩
  · cases v <;> first | rfl | cases e
  · cases v <;> first | rfl | cases e
  · cases v <;> first | rfl | exact absurd e Bool.false_ne_true | exact absurd e1.symm Bool.false_ne_true
  · cases v <;> first | rfl | cases e
  · obtain ⟨n, e⟩ := isRef_eq e
    exact ⟨by rw [e]; rfl, rfl⟩
  · obtain ⟨n, e⟩ := isRef_eq e
    exact Pv.kind L k e ⟨by rw [e]; rfl, rfl⟩
  · cases hv with
    | ref x r h =>
      rw [tag_ref h] at e4 e5 ⊢
      obtain ⟨j, n⟩ := r
      rcases j with _ | _ | j
      · cases e5
      · cases e4
      · rfl
    | none => cases e0
    | bool => cases e1
    | int => cases e2
    | bytes => cases e3
end
noncomputable def c_raw_equal_1 : Cd := .lit (.bool false) <| .ret
noncomputable def c_raw_equal_2 : Cd := .lit (.bool true) <| .ret
noncomputable def c_raw_equal_3 : Cd := .ld 0 <| .ld 1 <| .cmp .Eq <| .ret
noncomputable def c_raw_equal_4 : Cd := .ld 0 <| .fld "number" <| .ld 1 <| .fld "number" <| .cmp .Eq <| .ret
noncomputable def c_raw_equal_5 : Cd := .ld 2 <| .lit (.int (1)) <| .lit (.int (3)) <| .lit (.int (4)) <| .tup 3 <| .cmp .In <| .br (c_raw_equal_3) (c_raw_equal_4)
noncomputable def c_raw_equal_6 : Cd := .ld 2 <| .lit (.int (0)) <| .cmp .Eq <| .br (c_raw_equal_2) (c_raw_equal_5)
noncomputable def c_raw_equal : Cd := .ld 0 <| .call (.ref 97) 1 <| .st 2 <| .ld 2 <| .ld 1 <| .call (.ref 97) 1 <| .cmp .NotEq <| .br (c_raw_equal_1) (c_raw_equal_6)
section
variable {ν : Nu} {σ : MH} {a b : V}
noncomputable def inTri (t : Int) : Bool := decide (1 = t) || (decide (3 = t) || (decide (4 = t) || false))
theorem any_tri (t : Int) : [V.int 1, .int 3, .int 4].any (veq · (.int t)) = inTri t := by
  show (veq (.int 1) (.int t) || (veq (.int 3) (.int t) || (veq (.int 4) (.int t) || false))) = _
  rw [veq_int, veq_int, veq_int]; rfl
theorem bytes_inj {p q : Array UInt8} (h : p.toList = q.toList) : p = q := by
  cases p; cases q; exact congrArg _ h
structure TriC (ν : Nu) (a b : V) : Prop where
  c : Cq 0 a b
  h : a = b ↔ tag ν a = tag ν b
theorem tri_ref {r : Rf} (h : inTri (tcode (.ref r.kind r.num)) = true) : False := by
  obtain ⟨j, n⟩ := r
  rcases j with _ | _ | j <;> cases h
theorem tri_cq (ha : AnyV ν a) (hb : AnyV ν b) (h : inTri (tcode (tag ν a)) = true) (e : tcode (tag ν a) = tcode (tag ν b)) : TriC ν a b := by
  cases ha with
  | none => cases h
  | bool p =>
    cases hb with
    | bool q => exact ⟨.bb _ _, fun e => e ▸ rfl, fun e => by cases e; rfl⟩
    | ref y s hy => rw [e, tag_ref hy] at h; exact (tri_ref h).elim
    | _ => cases e
  | int p =>
    cases hb with
    | int q => exact ⟨.ii _ _, fun e => e ▸ rfl, fun e => by cases e; rfl⟩
    | ref y s hy => rw [e, tag_ref hy] at h; exact (tri_ref h).elim
    | _ => cases e
  | bytes p =>
    cases hb with
    | bytes q => exact ⟨.yy _ _, fun e => e ▸ rfl, fun e => congrArg V.bytes (bytes_inj (by injection e))⟩
    | ref y s hy => rw [e, tag_ref hy] at h; exact (tri_ref h).elim
    | _ => cases e
  | ref x r hx => rw [tag_ref hx] at h; exact (tri_ref h).elim
theorem two_refs (k : Knows σ ν) (ha : AnyV ν a) (hb : AnyV ν b) (e : tcode (tag ν a) = tcode (tag ν b)) (h0 : tcode (tag ν a) ≠ 0) (h : inTri (tcode (tag ν a)) = false) : X3 fun j n m => tag ν a = .ref j n ∧ tag ν b = .ref j m := by
  have at_ : ∀ {v : V}, AnyV ν v → tcode (tag ν v) ≠ 0 → inTri (tcode (tag ν v)) = false → X2 fun j n => j ≤ 2 ∧ tag ν v = .ref j n := fun hv h0 h => by
    cases hv with
    | none => exact absurd rfl h0
    | ref x r hx => exact ⟨_, _, (k.at_ x r hx).1, tag_ref hx⟩
    | _ => cases h
  obtain ⟨i, n, hi, ea⟩ := at_ ha h0 h
  obtain ⟨j, m, hj, eb⟩ := at_ hb (e ▸ h0) (e ▸ h)
  rw [ea, eb] at e
  refine ⟨i, n, m, ea, ?_⟩
  rcases i with _ | _ | _ | i <;> rcases j with _ | _ | _ | j <;> first | exact eb | lia -abstractProof | cases e
theorem raw_equal_ok (k : Knows σ ν) (ha : AnyV ν a) (hb : AnyV ν b) : Fn 3 111 [a, b] (fun r σ' => r = .bool (decide (tag ν a = tag ν b)) ∧ σ' = σ) σ := by
  refine Fn.go (ps := ["a", "b"]) (rest := ["tag"]) (code := c_raw_equal) (fun q_ => by kernel_rfl) (fun q_ => by kernel_rfl) (fun q_ => args2 fun q_ q_ => by kernel_rfl) (fun q_ => by kernel_rfl) rfl fun g L => ?_
  refine Pv.fn1 L (type_of_ok k ha) rfl ?_
  refine Pv.fn1 L (type_of_ok k hb) rfl ?_
  refine brk2.bool (fun e => ?_) fun e => ?_
  · have hne : tag ν a ≠ tag ν b := fun z => by simp [z] at e
    exact ⟨by rw [decide_eq_false hne], rfl⟩
  have hc : tcode (tag ν a) = tcode (tag ν b) := by simpa using e
  refine brk2.dec (fun h0 => ?_) fun h0 => Pv.inTup (n := 0) (x := .int (tcode (tag ν a))) (xs := [.int 1, .int 3, .int 4]) (fun y hy => ?_) (Nat.zero_le _) ?_
  · have z : ∀ {v}, AnyV ν v → tcode (tag ν v) = 0 → tag ν v = .nil := fun hv h => by
      cases hv with
      | none => rfl
      | ref x r hx =>
        rw [tag_ref hx] at h
        obtain ⟨j, n⟩ := r
        rcases j with _ | _ | j <;> cases h
      | _ => cases h
    exact ⟨by rw [z ha h0, z hb (hc ▸ h0)]; rfl, rfl⟩
  · rcases List.mem_cons.mp hy with rfl | hy
    · exact .ii _ _
    · rcases List.mem_cons.mp hy with rfl | hy
      · exact .ii _ _
      · rw [List.mem_singleton.mp hy]; exact .ii _ _
  · rw [any_tri]
    refine brk2.bool (fun e => ?_) fun e => ?_
    · obtain ⟨c, h⟩ := tri_cq ha hb e hc
      exact cmp_eq c (Nat.zero_le _) ⟨by rw [veq_dec h], rfl⟩
    · obtain ⟨j, n, m, ea, eb⟩ := two_refs k ha hb hc h0 e
      refine Pv.num L k ea (Pv.num L k eb ⟨?_, rfl⟩)
      rw [ea, eb]
      exact congrArg V.bool (by rw [Bool.eq_iff_iff, decide_eq_true_iff, decide_eq_true_iff]; exact ⟨fun e => e ▸ rfl, fun e => by injection e⟩)
end
inductive Rch (N : Nat → Int) : Nat → Nat → Prop
  | refl (i : Nat) : Rch N i i
  | step {i j k : Nat} (h : N i = (j : Int)) (t : Rch N j k) : Rch N i k
structure Gr (n : Nat) (has : Nat → Prop) (mn : Nat → Nat) (N : Nat → Int) : Prop where
  rng : ∀ i, i < n → -1 ≤ N i ∧ N i < n
  free : ∀ i, i < n → ¬ has i → N i = -1 ∧ ∀ j, j < n → N j ≠ i
  inj : ∀ i j, i < n → j < n → N i = N j → 0 ≤ N i → i = j
  rank : ∃ r : Nat → Nat, ∀ i j, i < n → j < n → N i = (j : Int) → r j < r i
  main : ∀ i, i < n → has i → mn i < n ∧ has (mn i) ∧ mn (mn i) = mn i ∧ Rch N (mn i) i
theorem Rch.next {N : Nat → Int} {i k : Nat} (h : Rch N i k) (ne : i ≠ k) : ∃ j : Nat, N i = (j : Int) ∧ Rch N j k := by
  cases h with
  | refl => exact absurd rfl ne
  | step h t => exact ⟨_, h, t⟩
theorem Gr.congr {n has mn N has' mn' N'} (G : Gr n has mn N) (h1 : ∀ i, i < n → (has' i ↔ has i)) (h2 : ∀ i, i < n → has i → mn' i = mn i) (h3 : ∀ i, i < n → N' i = N i) : Gr n has' mn' N' := by
  have rc : ∀ {i j}, Rch N i j → i < n → Rch N' i j := by
    intro i j h
    induction h with
    | refl => intro _; exact .refl _
    | step h _ ih => intro hi; exact .step ((h3 _ hi).trans h) (ih (by have := (G.rng _ hi).2; lia))
  obtain ⟨r, hr⟩ := G.rank
  refine ⟨fun i hi => by rw [h3 i hi]; exact G.rng i hi, fun i hi nh => ?_, fun i j hi hj e p => ?_, ⟨r, fun i j hi hj e => hr i j hi hj (by rw [← h3 i hi]; exact e)⟩, fun i hi hh => ?_⟩
  · have := G.free i hi (fun z => nh ((h1 i hi).mpr z))
    exact ⟨by rw [h3 i hi]; exact this.1, fun j hj => by rw [h3 j hj]; exact this.2 j hj⟩
  · rw [h3 i hi] at e p; rw [h3 j hj] at e; exact G.inj i j hi hj e p
  · have hh' := (h1 i hi).mp hh
    obtain ⟨a, b, c, d⟩ := G.main i hi hh'
    rw [h2 i hi hh']
    exact ⟨a, (h1 _ a).mpr b, by rw [h2 _ a b]; exact c, rc d a⟩
theorem Gr.fill {n has mn N has' mn'} (G : Gr n has mn N) {m : Nat} (hm : m < n) (a1 : has' m) (a2 : mn' m = m) (a3 : ∀ i, i < n → i ≠ m → (has' i ↔ has i)) (a4 : ∀ i, i < n → i ≠ m → mn' i = mn i) : Gr n has' mn' N := by
  refine ⟨G.rng, fun i hi nh => ?_, G.inj, G.rank, fun i hi hh => ?_⟩
  · have : i ≠ m := fun z => nh (z ▸ a1)
    exact G.free i hi fun z => nh ((a3 i hi this).mpr z)
  · by_cases e : i = m
    · subst e; rw [a2]; exact ⟨hi, a1, a2, .refl _⟩
    · obtain ⟨b1, b2, b3, b4⟩ := G.main i hi ((a3 i hi e).mp hh)
      rw [a4 i hi e]
      by_cases e2 : mn i = m
      · exact ⟨b1, by rw [e2]; exact a1, by rw [e2]; exact a2, b4⟩
      · exact ⟨b1, (a3 _ b1 e2).mpr b2, by rw [a4 _ b1 e2]; exact b3, b4⟩
theorem Gr.link {n has mn N has' mn' N'} (G : Gr n has mn N) {m s : Nat} (hm : m < n) (hs : s < n) (k1 : has m) (k2 : mn m = m) (k3 : ¬ has s) (n1 : N' m = (s : Int)) (n2 : N' s = N m) (n3 : ∀ i, i < n → i ≠ m → i ≠ s → N' i = N i)
    (a1 : has' s) (a2 : mn' s = m) (a3 : ∀ i, i < n → i ≠ s → (has' i ↔ has i)) (a4 : ∀ i, i < n → i ≠ s → mn' i = mn i) : Gr n has' mn' N' := by
  have ms : m ≠ s := fun z => k3 (z ▸ k1)
  obtain ⟨f1, f2⟩ := G.free s hs k3
  obtain ⟨r, hr⟩ := G.rank
  have rc : ∀ {i j}, Rch N i j → i < n → i ≠ s → Rch N' i j := by
    intro i j h
    induction h with
    | refl => intro _ _; exact .refl _
    | @step i j k h t ih =>
      intro hi hn
      have hj : j < n := by have := (G.rng _ hi).2; lia
      have js : j ≠ s := fun z => f2 i hi (by rw [h, z])
      by_cases e : i = m
      · subst e; exact .step n1 (.step (n2.trans h) (ih hj js))
      · exact .step ((n3 i hi e hn).trans h) (ih hj js)
  refine ⟨fun i hi => ?_, fun i hi nh => ?_, fun i j hi hj e p => ?_, ⟨fun i => if i = s then 2 * r m else 2 * r i + 1, fun i j hi hj e => ?_⟩, fun i hi hh => ?_⟩
  · by_cases e1 : i = m
    · rw [e1, n1]; lia
    · by_cases e2 : i = s
      · rw [e2, n2]; exact G.rng m hm
      · rw [n3 i hi e1 e2]; exact G.rng i hi
  · have is : i ≠ s := fun z => nh (z ▸ a1)
    have nh' : ¬ has i := fun z => nh ((a3 i hi is).mpr z)
    have im : i ≠ m := fun z => nh' (z ▸ k1)
    obtain ⟨g1, g2⟩ := G.free i hi nh'
    refine ⟨by rw [n3 i hi im is]; exact g1, fun j hj => ?_⟩
    by_cases e1 : j = m
    · rw [e1, n1]; intro z; exact is (by lia)
    · by_cases e2 : j = s
      · rw [e2, n2]; exact g2 m hm
      · rw [n3 j hj e1 e2]; exact g2 j hj
  · by_cases i1 : i = m
    · by_cases j1 : j = m
      · rw [i1, j1]
      · exfalso
        rw [i1, n1] at e
        by_cases j2 : j = s
        · rw [j2, n2] at e; exact f2 m hm e.symm
        · rw [n3 j hj j1 j2] at e; exact f2 j hj e.symm
    · by_cases j1 : j = m
      · exfalso
        rw [j1, n1] at e
        by_cases i2 : i = s
        · rw [i2, n2] at e; exact f2 m hm e
        · rw [n3 i hi i1 i2] at e; exact f2 i hi e
      · by_cases i2 : i = s
        · by_cases j2 : j = s
          · rw [i2, j2]
          · exfalso
            rw [i2, n2] at p
            rw [i2, n2, n3 j hj j1 j2] at e
            exact j1 (G.inj m j hm hj e p).symm
        · by_cases j2 : j = s
          · exfalso
            rw [n3 i hi i1 i2] at p
            rw [j2, n2, n3 i hi i1 i2] at e
            exact i1 (G.inj i m hi hm e p)
          · rw [n3 i hi i1 i2] at p
            rw [n3 i hi i1 i2, n3 j hj j1 j2] at e
            exact G.inj i j hi hj e p
  · dsimp only
    by_cases i1 : i = m
    · have : j = s := by rw [i1, n1] at e; lia
      rw [if_pos this, if_neg (i1 ▸ ms), i1]; lia
    · by_cases i2 : i = s
      · rw [i2, n2] at e
        have := hr m j hm hj e
        rw [if_pos i2, if_neg (fun z => f2 m hm (by rw [e, z]))]; lia
      · rw [n3 i hi i1 i2] at e
        have := hr i j hi hj e
        rw [if_neg i2, if_neg (fun z => f2 i hi (by rw [e, z]))]; lia
  · by_cases e : i = s
    · subst e; rw [a2]
      exact ⟨hm, (a3 m hm ms).mpr k1, by rw [a4 m hm ms]; exact k2, .step n1 (.refl _)⟩
    · obtain ⟨b1, b2, b3, b4⟩ := G.main i hi ((a3 i hi e).mp hh)
      have ne : mn i ≠ s := fun z => k3 (z ▸ b2)
      rw [a4 i hi e]
      exact ⟨b1, (a3 _ b1 ne).mpr b2, by rw [a4 _ b1 ne]; exact b3, rc b4 b1 ne⟩
theorem Gr.move {n has mn N has' mn' N'} (G : Gr n has mn N) {m s p : Nat} (hm : m < n) (hs : s < n) (hp : p < n) (k1 : has m) (k2 : mn m ≠ m) (k3 : ¬ has s) (kp : N p = (m : Int))
    (n1 : N' p = (s : Int)) (n2 : N' s = N m) (n0 : N' m = -1) (n3 : ∀ i, i < n → i ≠ m → i ≠ s → i ≠ p → N' i = N i)
    (a1 : has' s) (a2 : mn' s = mn m) (b1 : has' m) (b2 : mn' m = m) (a3 : ∀ i, i < n → i ≠ s → i ≠ m → (has' i ↔ has i)) (a4 : ∀ i, i < n → i ≠ s → i ≠ m → mn' i = mn i) : Gr n has' mn' N' := by
  have ms : m ≠ s := fun z => k3 (z ▸ k1)
  obtain ⟨f1, f2⟩ := G.free s hs k3
  obtain ⟨r, hr⟩ := G.rank
  have pm : p ≠ m := fun z => by have := hr p m hp hm kp; rw [z] at this; lia
  have ps : p ≠ s := fun z => by rw [z, f1] at kp; lia
  have mm : ∀ j : Nat, N m = (j : Int) → j < n → j ≠ m := fun j e hj z => by have := hr m j hm hj e; rw [z] at this; lia
  have only : ∀ i, i < n → N i = (m : Int) → i = p := fun i hi e => G.inj i p hi hp (by rw [e, kp]) (by rw [e]; lia)
  have rc : ∀ {i j}, Rch N i j → i < n → i ≠ s → Rch N' (if i = m then s else i) (if j = m then s else j) := by
    intro i j h
    induction h with
    | refl => intro _ _; exact .refl _
    | @step i j k h t ih =>
      intro hi hn
      have hj : j < n := by have := (G.rng _ hi).2; lia
      have js : j ≠ s := fun z => f2 i hi (by rw [h, z])
      have ih := ih hj js
      by_cases e : i = m
      · rw [if_pos e]
        have jm : j ≠ m := mm j (e ▸ h) hj
        rw [if_neg jm] at ih
        exact .step (n2.trans (e ▸ h)) ih
      · rw [if_neg e]
        by_cases jm : j = m
        · rw [if_pos jm] at ih
          have : i = p := only i hi (by rw [h, jm])
          exact .step (this ▸ n1) ih
        · rw [if_neg jm] at ih
          have : i ≠ p := fun z => jm (by rw [z, kp] at h; lia)
          exact .step ((n3 i hi e hn this).trans h) ih
  refine ⟨fun i hi => ?_, fun i hi nh => ?_, fun i j hi hj e q => ?_, ⟨fun i => if i = s then r m else r i, fun i j hi hj e => ?_⟩, fun i hi hh => ?_⟩
  · by_cases e1 : i = m
    · rw [e1, n0]; lia
    · by_cases e2 : i = s
      · rw [e2, n2]; exact G.rng m hm
      · by_cases e3 : i = p
        · rw [e3, n1]; lia
        · rw [n3 i hi e1 e2 e3]; exact G.rng i hi
  · have is : i ≠ s := fun z => nh (z ▸ a1)
    have im : i ≠ m := fun z => nh (z ▸ b1)
    have nh' : ¬ has i := fun z => nh ((a3 i hi is im).mpr z)
    obtain ⟨g1, g2⟩ := G.free i hi nh'
    have ip : i ≠ p := fun z => by rw [z, kp] at g1; lia
    refine ⟨by rw [n3 i hi im is ip]; exact g1, fun j hj => ?_⟩
    by_cases e1 : j = m
    · rw [e1, n0]; lia
    · by_cases e2 : j = s
      · rw [e2, n2]; exact g2 m hm
      · by_cases e3 : j = p
        · rw [e3, n1]; intro z; exact is (by lia)
        · rw [n3 j hj e1 e2 e3]; exact g2 j hj
  · have cl : ∀ i, i < n → 0 ≤ N' i → (i = p ∧ N' i = (s : Int)) ∨ (i ≠ p ∧ i ≠ m ∧ ∃ i', A4 (i' < n) (N' i = N i') (N i' ≠ (s : Int)) (((i = s ∧ i' = m) ∨ (i ≠ s ∧ i' = i)))) := by
      intro i hi q
      by_cases e1 : i = p
      · exact .inl ⟨e1, e1 ▸ n1⟩
      · right
        refine ⟨e1, fun z => by rw [z, n0] at q; lia, ?_⟩
        by_cases e2 : i = s
        · exact ⟨m, hm, e2 ▸ n2, f2 m hm, .inl ⟨e2, rfl⟩⟩
        · exact ⟨i, hi, n3 i hi (fun z => by rw [z, n0] at q; lia) e2 e1, f2 i hi, .inr ⟨e2, rfl⟩⟩
    rcases cl i hi q with ⟨x1, x2⟩ | ⟨x0, xm, i', x1, x2, x3, x4⟩
    · rcases cl j hj (e ▸ q) with ⟨y1, y2⟩ | ⟨y0, ym, j', y1, y2, y3, y4⟩
      · rw [x1, y1]
      · exfalso; rw [x2, y2] at e; exact y3 e.symm
    · rcases cl j hj (e ▸ q) with ⟨y1, y2⟩ | ⟨y0, ym, j', y1, y2, y3, y4⟩
      · exfalso; rw [x2, y2] at e; exact x3 e
      · have := G.inj i' j' x1 y1 (by rw [← x2, ← y2]; exact e) (by rw [← x2]; exact q)
        rcases x4 with ⟨u1, u2⟩ | ⟨u1, u2⟩ <;> rcases y4 with ⟨v1, v2⟩ | ⟨v1, v2⟩
        · rw [u1, v1]
        · exfalso; exact ym (by rw [← v2, ← this, u2])
        · exfalso; exact xm (by rw [← u2, this, v2])
        · rw [← u2, ← v2, this]
  · dsimp only
    by_cases i1 : i = m
    · rw [i1, n0] at e; lia
    · by_cases i2 : i = p
      · have : j = s := by rw [i2, n1] at e; lia
        rw [if_pos this, if_neg (i2 ▸ ps), i2]
        exact hr p m hp hm kp
      · by_cases i3 : i = s
        · rw [i3, n2] at e
          rw [if_pos i3, if_neg (fun z => f2 m hm (by rw [e, z]))]
          exact hr m j hm hj e
        · rw [n3 i hi i1 i3 i2] at e
          rw [if_neg i3, if_neg (fun z => f2 i hi (by rw [e, z]))]
          exact hr i j hi hj e
  · by_cases e : i = s
    · subst e; rw [a2]
      obtain ⟨c1, c2, c3, c4⟩ := G.main m hm k1
      have ne : mn m ≠ i := fun z => k3 (z ▸ c2)
      have := rc c4 c1 ne
      rw [if_neg k2, if_pos rfl] at this
      exact ⟨c1, (a3 _ c1 ne k2).mpr c2, by rw [a4 _ c1 ne k2]; exact c3, this⟩
    · by_cases e2 : i = m
      · subst e2; rw [b2]; exact ⟨hi, b1, b2, .refl _⟩
      · obtain ⟨c1, c2, c3, c4⟩ := G.main i hi ((a3 i hi e e2).mp hh)
        have ne : mn i ≠ s := fun z => k3 (z ▸ c2)
        have ne2 : mn i ≠ m := fun z => k2 (by rw [z] at c3; exact c3)
        have := rc c4 c1 ne
        rw [if_neg ne2, if_neg e2] at this
        rw [a4 i hi e e2]
        exact ⟨c1, (a3 _ c1 ne ne2).mpr c2, by rw [a4 _ c1 ne ne2]; exact c3, this⟩
noncomputable def mixH (found : Int) (b : Int) : Int := Builtin.bitAnd (Builtin.bitXor found (found * 2 ^ 5 + found.fdiv (2 ^ 2) + b)) 4294967295
noncomputable def hloop (t : List UInt8) (step : Nat) : Nat → Nat → Int → Int
  | 0, _, found => found
  | k + 1, at_, found => if step ≤ at_ then hloop t step k (at_ - step) (mixH found ((t.getD (at_ - 1) 0).toNat : Nat)) else found
noncomputable def shash (t : List UInt8) : Int := hloop t (t.length / 32 + 1) t.length t.length (Builtin.bitAnd t.length 4294967295)
noncomputable def mpos (many : Nat) : Tag → Int
  | .bool b => Builtin.bitAnd (if b = true then 1 else 0) ((many : Int) - 1)
  | .int i => i.fmod (Builtin.bitOr ((many : Int) - 1) 1)
  | .bytes l => Builtin.bitAnd (shash l) ((many : Int) - 1)
  | .ref _ n => n.fmod (Builtin.bitOr ((many : Int) - 1) 1)
  | _ => 0
theorem bitOr_one (x : Int) : Builtin.bitOr x 1 = x + 1 - x % 2 := by
  have h1 := bitXor_and x 1
  have h2 : Builtin.bitXor x 1 = Builtin.bitOr x 1 - Builtin.bitAnd x 1 := rfl
  have h3 := bitAnd_m1 x
  lia -abstractProof
theorem mask_range (x : Int) {many : Nat} (h : ∃ k, many = 2 ^ k) : 0 ≤ Builtin.bitAnd x ((many : Int) - 1) ∧ Builtin.bitAnd x ((many : Int) - 1) < many := by
  obtain ⟨k, rfl⟩ := h
  have p : (0 : Int) < 2 ^ k := Int.pow_pos (by decide)
  have e : ((2 ^ k : Nat) : Int) = 2 ^ k := by norm_cast
  rw [e, kbt_mask]
  exact ⟨Int.emod_nonneg _ (by lia -abstractProof), Int.emod_lt_of_pos _ p⟩
theorem rest_range (x : Int) {many : Nat} (h : ∃ k, many = 2 ^ k) : Builtin.bitOr ((many : Int) - 1) 1 ≠ 0 ∧ 0 ≤ x.fmod (Builtin.bitOr ((many : Int) - 1) 1) ∧ x.fmod (Builtin.bitOr ((many : Int) - 1) 1) < many := by
  obtain ⟨k, rfl⟩ := h
  have p : 0 < 2 ^ k := Nat.pow_pos (by decide)
  rw [bitOr_one]
  have m := Int.emod_nonneg ((((2 ^ k : Nat) : Int) - 1)) (show (2 : Int) ≠ 0 by decide)
  have m2 := Int.emod_lt_of_pos ((((2 ^ k : Nat) : Int) - 1)) (show (0 : Int) < 2 by decide)
  have pos : 0 < ((2 ^ k : Nat) : Int) - 1 + 1 - (((2 ^ k : Nat) : Int) - 1) % 2 := by
    rcases k with _ | k
    · decide
    · have : 2 ^ (k + 1) = 2 * 2 ^ k := by rw [Nat.pow_succ]; omega
      have : 0 < 2 ^ k := Nat.pow_pos (by decide)
      omega
  refine ⟨by omega, ?_, ?_⟩
  · rw [Int.fmod_eq_emod_of_nonneg _ (by omega)]; exact Int.emod_nonneg _ (by omega)
  · rw [Int.fmod_eq_emod_of_nonneg _ (by omega)]
    have := Int.emod_lt_of_pos x pos
    have : ((2 ^ k : Nat) : Int) - 1 + 1 - (((2 ^ k : Nat) : Int) - 1) % 2 ≤ ((2 ^ k : Nat) : Int) := by omega
    omega
theorem mpos_range {many : Nat} (h : ∃ k, many = 2 ^ k) (t : Tag) : 0 ≤ mpos many t ∧ mpos many t < many := by
  have p : 0 < many := by obtain ⟨k, rfl⟩ := h; exact Nat.pow_pos (by decide)
  cases t with
  | bool b => exact mask_range _ h
  | int i => exact (rest_range _ h).2
  | bytes l => exact mask_range _ h
  | ref k n => exact (rest_range _ h).2
  | nil => exact ⟨Int.le_refl 0, Int.natCast_pos.mpr p⟩
  | bad => exact ⟨Int.le_refl 0, Int.natCast_pos.mpr p⟩

noncomputable def Tb.n (T : Tb) : Nat := T.nds.length
noncomputable def Tb.nd (T : Tb) (i : Nat) : Nd := ((T.nds[i]?).map (·.2)).getD ⟨.none, .none, -1⟩
theorem Tb.nd_of {T : Tb} {i : Nat} {a n} (h : T.nds[i]? = some (a, n)) : T.nd i = n := by unfold Tb.nd; rw [h]; rfl
theorem Tb.nd_get {T : Tb} {i : Nat} (h : i < T.n) : ∃ a, T.nds[i]? = some (a, T.nd i) := by
  unfold Tb.n at h
  refine ⟨(T.nds[i]).1, ?_⟩
  unfold Tb.nd
  rw [List.getElem?_eq_getElem h]; rfl
@[simp] theorem Tb.n_setNd (T : Tb) (i n) : (T.setNd i n).n = T.n := by unfold Tb.n Tb.setNd; simp
theorem Tb.nd_setNd (T : Tb) {i : Nat} (n) (h : i < T.n) (j : Nat) : (T.setNd i n).nd j = if j = i then n else T.nd j := by
  unfold Tb.nd Tb.setNd
  simp only [List.getElem?_modify]
  unfold Tb.n at h
  by_cases e : j = i
  · subst e; simp [List.getElem?_eq_getElem h]
  · simp [e, Ne.symm e]
noncomputable def proper : Tag → Bool
  | .nil => false
  | .bad => false
  | .ref 2 _ => false
  | _ => true
structure Inv (ν : Nu) (T : Tb) : Prop where
  sz : T.n = 0 ∨ ∃ k, k ≤ 20 ∧ T.n = 2 ^ k
  sa : T.arr.length ≤ 2 ^ 22
  fr : 0 ≤ T.free ∧ T.free ≤ T.n
  keys : ∀ i, i < T.n → AnyV ν (T.nd i).key
  vals : ∀ i, i < T.n → proper (tag ν (T.nd i).key) = false → (T.nd i).value = .none
  gr : Gr T.n (fun i => (T.nd i).key ≠ .none) (fun i => (mpos T.n (tag ν (T.nd i).key)).toNat) (fun i => (T.nd i).next)
  full : ∀ i, i < T.n → T.free ≤ i → (T.nd i).key ≠ .none
  uniq : ∀ i j, i < T.n → j < T.n → tag ν (T.nd i).key = tag ν (T.nd j).key → proper (tag ν (T.nd i).key) = true → i = j
  out : ∀ i x, i < T.n → (T.nd i).key = .int x → ¬ (1 ≤ x ∧ x ≤ T.arr.length)
noncomputable def inArr (T : Tb) : Tag → Bool
  | .int x => decide (1 ≤ x ∧ x ≤ T.arr.length)
  | _ => false
noncomputable def IsAt (ν : Nu) (T : Tb) (t : Tag) (i : Nat) : Prop := i < T.n ∧ tag ν (T.nd i).key = t
noncomputable def nlook (ν : Nu) (T : Tb) (t : Tag) : V := ((T.nds.find? fun p => decide (tag ν p.2.key = t)).map (·.2.value)).getD .none
noncomputable def look (ν : Nu) (T : Tb) (t : Tag) : V :=
  match t with
  | .int x => if 1 ≤ x ∧ x ≤ T.arr.length then (T.arr[(x - 1).toNat]?).getD .none else nlook ν T t
  | _ => nlook ν T t
theorem nlook_none {ν T t} (h : ∀ i, ¬ IsAt ν T t i) : nlook ν T t = .none := by
  unfold nlook
  rw [List.find?_eq_none.mpr]
  · rfl
  · intro p hp q
    obtain ⟨i, hi⟩ := List.getElem?_of_mem hp
    have lt := (List.getElem?_eq_some_iff.mp hi).1
    exact h i ⟨lt, by rw [Tb.nd_of (a := p.1) (n := p.2) hi]; simpa using q⟩
theorem nlook_at {ν T t i} (I : Inv ν T) (hp : proper t = true) (h : IsAt ν T t i) : nlook ν T t = (T.nd i).value := by
  obtain ⟨h1, h2⟩ := h
  obtain ⟨a, ha⟩ := Tb.nd_get h1
  have hs : (T.nds.find? fun p => decide (tag ν p.2.key = t)).isSome := by
    rw [List.find?_isSome]
    exact ⟨_, List.mem_of_getElem? ha, by simpa using h2⟩
  obtain ⟨p, hp'⟩ := Option.isSome_iff_exists.mp hs
  unfold nlook
  rw [hp']
  have h3 := List.find?_some hp'
  obtain ⟨j, hj⟩ := List.getElem?_of_mem (List.mem_of_find?_eq_some hp')
  have lt := (List.getElem?_eq_some_iff.mp hj).1
  have e : T.nd j = p.2 := Tb.nd_of (a := p.1) (n := p.2) hj
  have : tag ν (T.nd j).key = t := by rw [e]; simpa using h3
  have := I.uniq j i lt h1 (by rw [this, h2]) (by rw [this]; exact hp)
  subst this
  rw [e]; rfl
theorem look_out {ν T x} (h : ¬ (1 ≤ x ∧ x ≤ (T.arr.length : Int))) : look ν T (.int x) = nlook ν T (.int x) := if_neg h
theorem look_node {ν T t} (h : inArr T t = false) : look ν T t = nlook ν T t := by
  cases t with
  | int x => exact look_out (of_decide_eq_false h)
  | _ => rfl
theorem look_arr {ν T x} (h : 1 ≤ x ∧ x ≤ (T.arr.length : Int)) : look ν T (.int x) = (T.arr[(x - 1).toNat]?).getD .none := if_pos h
inductive InA (T : Tb) : Tag → Prop
  | mk (x : Int) (h : 1 ≤ x ∧ x ≤ (T.arr.length : Int)) : InA T (.int x)
theorem inA_of {T t} (h : inArr T t = true) : InA T t := by
  cases t with
  | int x => exact .mk x (of_decide_eq_true h)
  | _ => cases h
theorem inA_no {T x} (h : ¬ (1 ≤ x ∧ x ≤ (T.arr.length : Int))) : inArr T (.int x) = false := decide_eq_false h
theorem predN : ∀ x : Nat, ((x : Int) - 1).toNat = x - 1
  | 0 => rfl
  | x + 1 => by rw [Int.natCast_succ, Int.add_sub_cancel, Int.toNat_natCast]; rfl
theorem sucN (x : Nat) : ((x : Int) + 1 - 1).toNat = x := by rw [Int.add_sub_cancel, Int.toNat_natCast]
theorem halfN (x : Nat) : (x : Int).fdiv 2 = ((x / 2 : Nat) : Int) := by rw [Int.fdiv_eq_ediv_of_nonneg _ (by decide)]; lia -abstractProof
theorem not_at_arr {ν T t i} (I : Inv ν T) (h : inArr T t = true) : ¬ IsAt ν T t i := fun ⟨h1, h2⟩ => by
  obtain ⟨x, hx⟩ := inA_of h
  clear h
  have k := I.keys i h1
  generalize hk : (T.nd i).key = key at *
  cases k with
  | int y =>
    have h2 := Tag.int.inj h2
    subst h2
    exact I.out i y h1 hk hx
  | ref a r hr => rw [tag_ref hr] at h2; cases h2
  | _ => cases h2
noncomputable def cnt (n : Nat) (p : Nat → Bool) : Nat := (List.range n).countP p
theorem cnt_succ (n p) : cnt (n + 1) p = cnt n p + if p n = true then 1 else 0 := by
  unfold cnt; rw [List.range_succ, List.countP_append]; simp [List.countP_cons]
theorem cnt_zero (p) : cnt 0 p = 0 := rfl
theorem cnt_mono {n p q} (h : ∀ i, i < n → p i = true → q i = true) : cnt n p ≤ cnt n q := by
  induction n with
  | zero => exact Nat.le_refl _
  | succ n ih =>
    rw [cnt_succ, cnt_succ]
    have := ih fun i hi => h i (by lia)
    have := h n (by lia)
    by_cases e : p n = true
    · rw [if_pos e, if_pos (this e)]; lia
    · rw [if_neg e]; split <;> lia
theorem cnt_congr {n p q} (h : ∀ i, i < n → p i = q i) : cnt n p = cnt n q :=
  Nat.le_antisymm (cnt_mono fun i hi e => h i hi ▸ e) (cnt_mono fun i hi e => (h i hi).symm ▸ e)
theorem cnt_ins {n p q} (s : Nat) (h : ∀ i, i < n → p i = true → q i = true ∨ i = s) : cnt n p ≤ cnt n q + 1 := by
  induction n with
  | zero => exact Nat.zero_le _
  | succ n ih =>
    rw [cnt_succ, cnt_succ]
    by_cases z : n = s
    · have : cnt n p ≤ cnt n q := cnt_mono fun i hi e => (h i (by lia) e).elim id fun w => by lia
      split <;> split <;> lia
    · have := ih fun i hi => h i (by lia)
      have := h n (by lia)
      by_cases e : p n = true
      · rw [if_pos e, if_pos ((this e).elim id fun w => absurd w z)]; lia
      · rw [if_neg e]; split <;> lia
theorem cnt_le (n p) : cnt n p ≤ n := by
  induction n with
  | zero => exact Nat.le_refl _
  | succ n ih => rw [cnt_succ]; split <;> lia
theorem cnt_full {n p} (h : cnt n p = n) : ∀ i, i < n → p i = true := by
  induction n with
  | zero => intro i hi; lia
  | succ n ih =>
    rw [cnt_succ] at h
    have := cnt_le n p
    intro i hi
    by_cases e : p n = true
    · rw [if_pos e] at h
      by_cases z : i = n
      · rw [z]; exact e
      · exact ih (by lia) i (by lia)
    · rw [if_neg e] at h; lia
theorem cnt_all {n p} (h : ∀ i, i < n → p i = true) : cnt n p = n := by
  induction n with
  | zero => rfl
  | succ n ih => rw [cnt_succ, ih fun i hi => h i (by lia), if_pos (h n (by lia))]
theorem isNone_iff {v : V} : isNone v = true ↔ v = .none := by cases v <;> first | exact ⟨fun q_ => rfl, fun q_ => rfl⟩ | exact ⟨(fun h => nomatch h), fun h => nomatch h⟩
noncomputable def kc (T : Tb) : Nat := cnt T.n fun i => !isNone (T.nd i).key
noncomputable def arrL (T : Tb) (i : Nat) : Bool := !isNone (T.arr.getD i .none)
noncomputable def ndL (T : Tb) (i : Nat) : Bool := !isNone (T.nd i).value
noncomputable def lives (T : Tb) : Nat := cnt T.arr.length (arrL T) + cnt T.n (ndL T)
noncomputable def HasKey (ν : Nu) (T : Tb) (t : Tag) : Prop := ∃ i, IsAt ν T t i

theorem look_ext {ν T T' t} (I : Inv ν T) (I' : Inv ν T') (ha : T'.arr = T.arr) (hp : proper t = true) (h1 : ∀ i, IsAt ν T t i → ((T.nd i).value = .none ∧ ∀ i', ¬ IsAt ν T' t i') ∨ ∃ i', IsAt ν T' t i' ∧ (T'.nd i').value = (T.nd i).value)
    (h2 : ∀ i', IsAt ν T' t i' → ∃ i, IsAt ν T t i) : look ν T' t = look ν T t := by
  by_cases hi : inArr T t = true
  · obtain ⟨x, hi'⟩ := inA_of hi
    clear hi
    have hi := hi'
    rw [look_arr hi, look_arr (by rw [ha]; exact hi), ha]
  · have hi : inArr T t = false := by simpa using hi
    have hi' : inArr T' t = false := by
      cases t with
      | int x => exact inA_no (by rw [ha]; exact of_decide_eq_false hi)
      | _ => rfl
    rw [look_node hi, look_node hi']
    by_cases e : ∃ i, IsAt ν T t i
    · obtain ⟨i, e⟩ := e
      rw [nlook_at I hp e]
      rcases h1 i e with ⟨a, b⟩ | ⟨i', a, b⟩
      · rw [nlook_none b, a]
      · rw [nlook_at I' hp a, b]
    · rw [nlook_none (fun i h => e ⟨i, h⟩), nlook_none (fun i h => e (h2 i h))]
noncomputable def Tb.weighed (T : Tb) : Tb := { T with size := .int (56 + 16 * (T.arr.length : Int) + 32 * (T.n : Int)) }
structure Ins (ν : Nu) (T T' : Tb) (t : Tag) (v : V) : Prop where
  inv : Inv ν T'
  look : ∀ t', proper t' = true → look ν T' t' = if t' = t then v else look ν T t'
  keys : ∀ t', proper t' = true → HasKey ν T' t' → HasKey ν T t' ∨ t' = t ∨ Mn.look ν T t' ≠ .none
  lives : lives T' ≤ lives T + 1
theorem ins_of {ν T T' t v q} (I : Inv ν T) (ht : proper t = true) (hin : inArr T t = false) (hno : ∀ i, ¬ IsAt ν T t i) (ea : T'.arr = T.arr) (en : T'.n = T.n)
    (ef : 0 ≤ T'.free ∧ T'.free ≤ (T.n : Int)) (hf : ∀ i : Nat, i < T.n → T'.free ≤ (i : Int) → (T'.nd i).key ≠ .none)
    (gr : Gr T'.n (fun i => (T'.nd i).key ≠ .none) (fun i => (mpos T'.n (tag ν (T'.nd i).key)).toNat) (fun i => (T'.nd i).next))
    (hq : q < T.n) {k : V} (hk : AnyV ν k) (htk : tag ν k = t) (eq1 : (T'.nd q).key = k) (eq2 : (T'.nd q).value = v)
    (from_ : ∀ i, i < T.n → i ≠ q → ∃ j, A3 (j < T.n) ((T'.nd i).key = (T.nd j).key) ((T'.nd i).value = (T.nd j).value))
    (inj : ∀ i j, i < T.n → j < T.n → i ≠ q → j ≠ q → (T'.nd i).key = (T'.nd j).key → (T'.nd i).key ≠ .none → tag ν (T'.nd i).key = tag ν (T'.nd j).key → proper (tag ν (T'.nd i).key) = true → i = j)
    (to : ∀ i, i < T.n → (T.nd i).key ≠ .none → (T.nd i).value = .none ∨ ∃ j, A4 (j < T.n) (j ≠ q) ((T'.nd j).key = (T.nd i).key) ((T'.nd j).value = (T.nd i).value))
    (s : Nat) (lv : ∀ i, i < T.n → ndL T' i = true → ndL T i = true ∨ i = s) : Ins ν T T' t v := by
  have kin := from_
  have tq : ∀ i, i < T.n → i ≠ q → tag ν (T'.nd i).key ≠ t := fun i hi hn z => by
    obtain ⟨j, a, b, _⟩ := kin i hi hn
    exact hno j ⟨a, by rw [← b]; exact z⟩
  have tnn : ∀ x : V, proper (tag ν x) = true → x ≠ .none := fun x h z => by rw [z] at h; cases h
  have I' : Inv ν T' := by
    refine ⟨by rw [en]; exact I.sz, by rw [ea]; exact I.sa, by rw [en]; exact ef, fun i hi => ?_, fun i hi h => ?_, gr, fun i hi => hf i (en ▸ hi), fun i j hi hj e hp => ?_, fun i x hi e => ?_⟩
    · rw [en] at hi
      by_cases z : i = q
      · rw [z, eq1]; exact hk
      · obtain ⟨j, a, b, _⟩ := kin i hi z; rw [b]; exact I.keys j a
    · rw [en] at hi
      by_cases z : i = q
      · rw [z, eq1, htk, ht] at h; cases h
      · obtain ⟨j, a, b, c⟩ := kin i hi z; rw [c]; exact I.vals j a (by rw [← b]; exact h)
    · rw [en] at hi hj
      by_cases z : i = q
      · by_cases w : j = q
        · rw [z, w]
        · exfalso; rw [z, eq1, htk] at e; exact tq j hj w e.symm
      · by_cases w : j = q
        · exfalso; rw [w, eq1, htk] at e; exact tq i hi z e
        · obtain ⟨i', a1, a2, _⟩ := kin i hi z
          obtain ⟨j', b1, b2, _⟩ := kin j hj w
          have : i' = j' := I.uniq i' j' a1 b1 (by rw [← a2, ← b2]; exact e) (by rw [← a2]; exact hp)
          subst this
          exact inj i j hi hj z w (by rw [a2, b2]) (tnn _ hp) e hp
    · rw [en] at hi
      rw [ea]
      by_cases z : i = q
      · rw [z, eq1] at e
        subst e
        have : t = .int x := htk.symm
        rw [this] at hin
        simpa [inArr] using hin
      · obtain ⟨j, a, b, _⟩ := kin i hi z; rw [b] at e; exact I.out j x a e
  have keys : ∀ t', proper t' = true → HasKey ν T' t' → HasKey ν T t' ∨ t' = t := fun t' _ ⟨i, hi, e⟩ => by
    rw [en] at hi
    by_cases z : i = q
    · right; rw [← e, z, eq1, htk]
    · left; obtain ⟨j, a, b, _⟩ := kin i hi z; exact ⟨j, a, by rw [← b]; exact e⟩
  refine ⟨I', fun t' hp => ?_, fun t' hp h => (keys t' hp h).imp id .inl, ?_⟩
  · by_cases e : t' = t
    · subst e
      rw [if_pos rfl]
      have hin' : inArr T' t' = false := by
        cases t' <;> first | rfl | skip
        simpa [inArr, ea] using hin
      rw [look_node hin', nlook_at I' hp ⟨by rw [en]; exact hq, by rw [eq1, htk]⟩, eq2]
    · rw [if_neg e]
      refine look_ext I I' ea hp (fun i hi => ?_) fun i hi => ?_
      · by_cases w : ∃ i', IsAt ν T' t' i'
        · right
          obtain ⟨i', w⟩ := w
          refine ⟨i', w, ?_⟩
          have hi' : i' < T.n := by have := w.1; rwa [en] at this
          by_cases z : i' = q
          · exfalso; have := w.2; rw [z, eq1, htk] at this; exact e this.symm
          · obtain ⟨j, a, b, c⟩ := kin i' hi' z
            have : j = i := I.uniq j i a hi.1 (by rw [← b, w.2, hi.2]) (by rw [← b, w.2]; exact hp)
            rw [c, this]
        · left
          refine ⟨?_, fun i' h => w ⟨i', h⟩⟩
          rcases to i hi.1 (tnn _ (by rw [hi.2]; exact hp)) with a | ⟨j, a, _, b, _⟩
          · exact a
          · exact absurd ⟨j, by rw [en]; exact a, by rw [b]; exact hi.2⟩ w
      · rcases keys t' hp ⟨i, hi⟩ with h | h
        · exact h
        · exact absurd h e
  · unfold lives
    have e1 : arrL T' = arrL T := by unfold arrL; rw [ea]
    rw [e1, ea, en]
    have := cnt_ins s lv
    lia
noncomputable def c_is_collectable : Cd := .ld 0 <| .lit (.ref cH) <| .call (.bi "isinstance") 2 <| .ret
noncomputable def c_ceil_log2 : Cd := .ld 0 <| .lit (.int (1)) <| .bin .Sub <| .call (.ref 125) 1 <| .lit (.int (1)) <| .bin .Add <| .ret
noncomputable def c_string_hash_1 : Cd := .ld 1 <| .ld 1 <| .lit (.int (5)) <| .bin .LShift <| .ld 1 <| .lit (.int (2)) <| .bin .RShift <| .bin .Add <| .ld 0 <| .ld 2 <| .lit (.int (1)) <| .bin .Sub <| .ix <| .bin .Add <| .bin .BitXor <| .lit (.int (4294967295)) <| .bin .BitAnd <| .st 1 <| .ld 2 <| .ld 3 <| .bin .Sub <| .st 2 <| .fin
noncomputable def c_string_hash_2 : Cd := .ld 2 <| .ld 3 <| .cmp .GtE <| .br (c_string_hash_1) (.brk)
noncomputable def c_string_hash : Cd := .ld 0 <| .call (.bi "len") 1 <| .lit (.int (4294967295)) <| .bin .BitAnd <| .ld 0 <| .call (.bi "len") 1 <| .tup 2 <| .unp true [2, 1] <| .ld 0 <| .call (.bi "len") 1 <| .lit (.int (5)) <| .bin .RShift <| .lit (.int (1)) <| .bin .Add <| .st 3 <| .whl (c_string_hash_2) (.ld 1 <| .ret)
noncomputable def c_array_index_1 : Cd := .lit (.int (1)) <| .una .USub <| .ret
noncomputable def c_array_index : Cd := .ld 0 <| .call (.ref 90) 1 <| .br (.ld 0 <| .ret) (c_array_index_1)
noncomputable def c_main_position_1 : Cd := .ld 1 <| .call (.typ "int") 1 <| .ld 2 <| .lit (.int (1)) <| .bin .Sub <| .bin .BitAnd <| .ret
noncomputable def c_main_position_2 : Cd := .ld 1 <| .ld 2 <| .lit (.int (1)) <| .bin .Sub <| .lit (.int (1)) <| .bin .BitOr <| .bin .Mod <| .ret
noncomputable def c_main_position_3 : Cd := .ld 1 <| .call (.ref 118) 1 <| .ld 2 <| .lit (.int (1)) <| .bin .Sub <| .bin .BitAnd <| .ret
noncomputable def c_main_position_4 : Cd := .ld 1 <| .fld "number" <| .ld 2 <| .lit (.int (1)) <| .bin .Sub <| .lit (.int (1)) <| .bin .BitOr <| .bin .Mod <| .ret
noncomputable def c_main_position_5 : Cd := .ld 1 <| .lit (.typ "bytes") <| .call (.bi "isinstance") 2 <| .br (c_main_position_3) (c_main_position_4)
noncomputable def c_main_position_6 : Cd := .ld 1 <| .lit (.typ "int") <| .call (.bi "isinstance") 2 <| .br (c_main_position_2) (c_main_position_5)
noncomputable def c_main_position : Cd := .ld 0 <| .fld "nodes" <| .call (.bi "len") 1 <| .st 2 <| .ld 1 <| .lit (.typ "bool") <| .call (.bi "isinstance") 2 <| .br (c_main_position_1) (c_main_position_6)
noncomputable def clg (n : Int) : Int := lg (n - 1) + 1
noncomputable def aidx : V → Int
  | .int i => i
  | _ => -1
theorem mixH_range (a b : Int) : 0 ≤ mixH a b ∧ mixH a b ≤ 4294967295 := bitAnd_range _ (by decide)
section
variable {ν : Nu} {σ : MH} {v : V}
theorem is_collectable_ok (k : Knows σ ν) (hv : AnyV ν v) : Fn 1 104 [v] (fun r σ' => r = .bool (isTab (tag ν v)) ∧ σ' = σ) σ := by
  refine Fn.go (ps := ["value"]) (rest := []) (code := c_is_collectable) (fun q_ => by kernel_rfl) (fun q_ => by kernel_rfl) (fun q_ => args1 fun q_ => by kernel_rfl) (fun q_ => by kernel_rfl) rfl fun g L => ?_
  refine Pv.isH L k hv ⟨congrArg V.bool ?_, rfl⟩
  generalize tag ν v = t
  cases t with
  | ref j n => cases j <;> rfl
  | _ => rfl
theorem ceil_log2_ok {n : Int} : Fn 2 132 [.int n] (fun r σ' => r = .int (clg n) ∧ σ' = σ) σ := by
  refine Fn.go (ps := ["n"]) (rest := []) (code := c_ceil_log2) (fun q_ => by kernel_rfl) (fun q_ => by kernel_rfl) (fun q_ => args1 fun q_ => by kernel_rfl) (fun q_ => by kernel_rfl) rfl fun g L => ?_
  refine Pv.fn1 L log2_ok rfl ?_
  exact ⟨rfl, rfl⟩
theorem array_index_ok (k : Knows σ ν) (hv : AnyV ν v) : Fn 2 188 [v] (fun r σ' => r = .int (aidx v) ∧ σ' = σ) σ := by
  refine Fn.go (ps := ["key"]) (rest := []) (code := c_array_index) (fun q_ => by kernel_rfl) (fun q_ => by kernel_rfl) (fun q_ => args1 fun q_ => by kernel_rfl) (fun q_ => by kernel_rfl) rfl fun g L => ?_
  refine Pv.fn1 L (is_number_ok k hv) rfl ?_
  cases hv <;> exact ⟨rfl, rfl⟩
theorem abs_lt {x : Int} (h0 : 0 ≤ x) (h1 : x ≤ 4294967295) : x.natAbs < 2 ^ 64 := by lia -abstractProof
theorem string_hash_ok {b : Array UInt8} (hb : b.size ≤ 2 ^ 20) : Fn 1 118 [.bytes b] (fun r σ' => r = .int (shash b.toList) ∧ σ' = σ) σ := by
  refine Fn.go (ps := ["text"]) (rest := ["found", "at", "step"]) (code := c_string_hash) (fun q_ => by kernel_rfl) (fun q_ => by kernel_rfl) (fun q_ => args1 fun q_ => by kernel_rfl) (fun q_ => by kernel_rfl) rfl fun g L => ?_
  have hs : b.size ≤ 2 ^ 30 := by (refine Nat.le_trans (by assumption) ?_; decide)
  have hl : b.toList.length = b.size := Array.length_toList
  have hst : ((b.size : Int).fdiv (2 ^ (5 : Int).toNat)) + 1 = ((b.size / 32 + 1 : Nat) : Int) := by
    show ((b.size : Int).fdiv (2 ^ 5)) + 1 = _
    rw [Int.fdiv_eq_ediv_of_nonneg _ (by decide)]; rfl
  refine Pv.lenB hs (Pv.lenB hs (Pv.lenB hs (Pv.shr (by decide) ?_)))
  refine Whl.mk (fun k ls σ1 => σ1 = σ ∧ ∃ fnd : Int, A5 (ls = [some (.bytes b), some (.int fnd), some (.int k), some (.int ((b.size : Int).fdiv (2 ^ (5 : Int).toNat) + 1))]) (k ≤ b.size) (0 ≤ fnd) (fnd ≤ 4294967295) (∃ fu, k ≤ fu ∧ hloop b.toList (b.size / 32 + 1) fu k fnd = shash b.toList)) b.size ⟨rfl, _, rfl, Nat.le_refl _, (bitAnd_range _ (by decide)).1, (bitAnd_range _ (by decide)).2, b.size, Nat.le_refl _, ?_⟩ ?_
  · unfold shash; rw [hl]
  rintro k ls σ1 ⟨rfl, fnd, rfl, a5, a6, a7, fu, a8, a9⟩
  refine brk2.dec (fun hp => ?_) fun hp => ?_
  · rw [hst] at hp
    have hp : b.size / 32 + 1 ≤ k := Int.ofNat_le.mp hp
    have kp : 0 < k := Nat.lt_of_lt_of_le (Nat.succ_pos _) hp
    obtain ⟨fu, rfl⟩ := Nat.exists_eq_succ_of_ne_zero (Nat.ne_of_gt (Nat.lt_of_lt_of_le kp a8))
    have r := mixH_range fnd ((b.toList.getD (k - 1) 0).toNat : Nat)
    refine Pv.shl (by decide) (by decide) (abs_lt a6 a7) (Pv.shr (by decide) (Pg.bytes hs (Int.sub_nonneg_of_le (Int.ofNat_le.mpr kp)) (Int.sub_one_lt_of_le (Int.ofNat_le.mpr a5)) ?_))
    rw [predN]
    refine ⟨k - (b.size / 32 + 1), Nat.sub_lt kp (Nat.succ_pos _), rfl, mixH fnd ((b.toList.getD (k - 1) 0).toNat : Nat), ?_, Nat.le_trans (Nat.sub_le ..) a5, r.1, r.2, fu, Nat.sub_le_iff_le_add.mpr (Nat.le_trans a8 (Nat.add_le_add_left (Nat.le_add_left 1 _) fu)), ?_⟩
    · rw [Int.ofNat_sub hp, ← hst]; rfl
    · exact (if_pos hp).symm.trans a9
  · refine ⟨?_, rfl⟩
    rw [hst] at hp
    rw [← a9]
    cases fu with
    | zero => rfl
    | succ q => exact congrArg V.int (if_neg (c := b.size / 32 + 1 ≤ k) fun z => hp (Int.ofNat_le.mpr z)).symm
theorem main_position_ok {t T} (k : Knows σ ν) (hT : TR σ t T) (hn : ∃ k, T.n = 2 ^ k) (hv : AnyV ν v) (hv0 : v ≠ .none) : Fn 2 224 [.ref t, v] (fun r σ' => r = .int (mpos T.n (tag ν v)) ∧ σ' = σ) σ := by
  refine Fn.go (ps := ["self", "key"]) (rest := ["many"]) (code := c_main_position) (fun q_ => by kernel_rfl) (fun q_ => by kernel_rfl) (fun q_ => args2 fun q_ q_ => by kernel_rfl) (fun q_ => by kernel_rfl) rfl fun g L => ?_
  have r := fun x => (rest_range x hn).1
  refine Pv.nodes L hT (Pv.lenN hT (Pv.isB L k hv ?_))
  cases hv with
  | none => exact absurd rfl hv0
  | bool b => exact Pv.intB ⟨rfl, rfl⟩
  | int i => exact Pv.isI L k (.int i) (Pv.mod (r i) ⟨rfl, rfl⟩)
  | bytes b hb =>
    refine Pv.isI L k (.bytes b hb) (Pv.isY L k (.bytes b hb) (Pv.fn1 L (string_hash_ok hb) rfl ⟨rfl, rfl⟩))
  | ref a s h =>
    have e := tag_ref h
    refine Pv.isI L k (.ref a s h) (Pv.isY L k (.ref a s h) (Pv.num L k e (Pv.mod (r s.num) ⟨?_, rfl⟩)))
    rw [e]; rfl
end
noncomputable def c_find_node_1 : Cd := .lit (.int (1)) <| .una .USub <| .ret
noncomputable def c_find_node_2 : Cd := .ld 0 <| .fld "nodes" <| .ld 2 <| .ix <| .fld "next" <| .st 2 <| .fin
noncomputable def c_find_node_3 : Cd := .ld 0 <| .fld "nodes" <| .ld 2 <| .ix <| .fld "key" <| .ld 1 <| .call (.ref 111) 2 <| .br (.ld 2 <| .ret) (c_find_node_2)
noncomputable def c_find_node_4 : Cd := .ld 2 <| .lit (.int (0)) <| .cmp .GtE <| .br (c_find_node_3) (.brk)
noncomputable def c_find_node_5 : Cd := .ld 0 <| .mld cT "main_position" <| .ld 1 <| .call (.ref 224) 2 <| .st 2 <| .whl (c_find_node_4) (c_find_node_1)
noncomputable def c_find_node_6 : Cd := .ld 1 <| .isn true <| .br (c_find_node_1) (c_find_node_5)
noncomputable def c_find_node : Cd := .ld 0 <| .fld "nodes" <| .call (.bi "len") 1 <| .lit (.int (0)) <| .cmp .Eq <| .br (c_find_node_1) (c_find_node_6)
section
variable {ν : Nu} {σ : MH} {v : V}
noncomputable def FindR (ν : Nu) (T : Tb) (t : Tag) (j : Int) : Prop := (j = -1 ∧ (t = .nil ∨ ∀ i, ¬ IsAt ν T t i)) ∨ ∃ i : Nat, A3 (j = i) (IsAt ν T t i) (t ≠ .nil)
theorem tag_nil (h : AnyV ν v) : tag ν v = .nil ↔ v = .none := by
  cases h with
  | ref a r h => rw [tag_ref h]; exact ⟨fun e => (nomatch e), fun e => (nomatch e)⟩
  | none => exact ⟨fun q_ => rfl, fun q_ => rfl⟩
  | _ => exact ⟨fun e => (nomatch e), fun e => (nomatch e)⟩
theorem find_node_ok {t T} (k : Knows σ ν) (hT : TR σ t T) (I : Inv ν T) (hv : AnyV ν v) : Fn 4 231 [.ref t, v] (fun r σ' => (∃ j, r = .int j ∧ FindR ν T (tag ν v) j) ∧ σ' = σ) σ := by
  refine Fn.go (ps := ["self", "key"]) (rest := ["at"]) (code := c_find_node) (fun q_ => by kernel_rfl) (fun q_ => by kernel_rfl) (fun q_ => args2 fun q_ q_ => by kernel_rfl) (fun q_ => by kernel_rfl) rfl fun g L => ?_
  have hlen : (T.nds.length : Int) = T.n := rfl
  refine Pv.nodes L hT (Pv.lenN hT (brk2.dec (fun e0 => ⟨⟨-1, rfl, .inl ⟨rfl, .inr fun i h => by have := h.1; lia -abstractProof⟩⟩, rfl⟩) fun e0 => ⟨hv.plain, brk2.bool (fun e1 => ?_) fun e1 => ?_⟩))
  · cases v with
    | none => exact ⟨⟨-1, rfl, .inl ⟨rfl, .inl rfl⟩⟩, rfl⟩
    | _ => cases e1
  have hv0 : v ≠ .none := fun z => by rw [z] at e1; cases e1
  have hn : ∃ k, T.n = 2 ^ k := by rcases I.sz with h | ⟨k, _, h⟩; exact absurd (by lia -abstractProof) e0; exact ⟨k, h⟩
  have ht0 : tag ν v ≠ .nil := fun z => hv0 ((tag_nil hv).mp z)
  have mr := mpos_range hn (tag ν v)
  refine Meth.tab hT rfl (Pv.fn1 L (main_position_ok k hT hn hv hv0) rfl ?_)
  obtain ⟨r, hr⟩ := I.gr.rank
  refine Whl.mk (fun m ls σ1 => σ1 = σ ∧ ∃ at_ : Int, A5 (ls = [some (.ref t), some v, some (.int at_)]) (-1 ≤ at_) (at_ < T.n) ((∀ i, IsAt ν T (tag ν v) i → 0 ≤ at_ ∧ Rch (fun i => (T.nd i).next) at_.toNat i)) (m = if at_ < 0 then 0 else r at_.toNat + 1)) _
    ⟨rfl, mpos T.n (tag ν v), rfl, by (refine Int.not_lt.mp fun q_ => ?_; lia -abstractProof), mr.2, fun i hi => ⟨mr.1, ?_⟩, rfl⟩ ?_
  · obtain ⟨_, _, _, h4⟩ := I.gr.main i hi.1 (fun z => ht0 (by rw [← hi.2, z]; rfl))
    rw [hi.2] at h4
    exact h4
  rintro m ls σ1 ⟨rfl, at_, rfl, a4, a5, a6, a7⟩
  refine brk2.dec (fun hp => ?_) fun hp => ⟨⟨-1, rfl, .inl ⟨rfl, .inr fun i hi => hp (a6 i hi).1⟩⟩, rfl⟩
  have lt : at_.toNat < T.n := by (refine Nat.lt_of_not_le fun q_ => ?_; lia -abstractProof)
  obtain ⟨ad, had⟩ := T.nd_get lt
  have hnx := I.gr.rng _ lt
  refine Pv.nodes L hT (Pg.nod hT hp had (Pv.key L hT had (Pv.fn1 L (raw_equal_ok k (I.keys _ lt) hv) rfl ?_)))
  refine brk2.dec (fun hq => ⟨⟨at_, rfl, .inr ⟨at_.toNat, by lia -abstractProof, ⟨lt, hq⟩, ht0⟩⟩, rfl⟩) fun hq => Pv.nodes L hT (Pg.nod hT hp had (Pv.next L hT had ⟨_, ?_, rfl, (T.nd at_.toNat).next, rfl, hnx.1, hnx.2, ?_, rfl⟩))
  · rw [a7]
    by_cases z : (T.nd at_.toNat).next < 0
    · rw [if_pos z, if_neg (by lia -abstractProof)]; (refine Nat.lt_of_not_le fun q_ => ?_; lia -abstractProof)
    · rw [if_neg z, if_neg (by lia -abstractProof)]
      have := hr at_.toNat (T.nd at_.toNat).next.toNat lt (by (refine Nat.lt_of_not_le fun q_ => ?_; lia -abstractProof)) (by lia -abstractProof)
      (refine Nat.lt_of_not_le fun q_ => ?_; lia -abstractProof)
  · intro i hi
    obtain ⟨b1, b2⟩ := a6 i hi
    obtain ⟨j, c1, c2⟩ := b2.next (fun z => hq (by rw [z]; exact hi.2))
    have c1 : (T.nd at_.toNat).next = (j : Int) := c1
    rw [c1]
    exact ⟨by exact Int.natCast_nonneg _, by simpa using c2⟩
end
noncomputable def c_free_position_1 : Cd := .ld 0 <| .fld "free" <| .ret
noncomputable def c_free_position_2 : Cd := .ld 0 <| .dup 1 <| .fld "free" <| .lit (.int (1)) <| .inp .Sub <| .stfr "free" <| .ld 0 <| .fld "nodes" <| .ld 0 <| .fld "free" <| .ix <| .fld "key" <| .isn true <| .br (c_free_position_1) (.fin)
noncomputable def c_free_position_3 : Cd := .ld 0 <| .fld "free" <| .lit (.int (0)) <| .cmp .Gt <| .br (c_free_position_2) (.brk)
noncomputable def c_free_position_4 : Cd := .lit (.int (1)) <| .una .USub <| .ret
noncomputable def c_free_position : Cd := .whl (c_free_position_3) (c_free_position_4)
noncomputable def c_get_int_1 : Cd := .ld 0 <| .fld "array" <| .ld 1 <| .lit (.int (1)) <| .bin .Sub <| .ix <| .ret
noncomputable def c_get_int_2 : Cd := .lit .none <| .ret
noncomputable def c_get_int_3 : Cd := .ld 0 <| .fld "nodes" <| .ld 2 <| .ix <| .fld "value" <| .ret
noncomputable def c_get_int_4 : Cd := .ld 0 <| .mld cT "find_node" <| .ld 1 <| .call (.ref 231) 2 <| .st 2 <| .ld 2 <| .lit (.int (0)) <| .cmp .Lt <| .br (c_get_int_2) (c_get_int_3)
noncomputable def c_get_int_5 : Cd := .ld 0 <| .fld "array" <| .call (.bi "len") 1 <| .cmp .LtE <| .br (c_get_int_1) (c_get_int_4)
noncomputable def c_get_int : Cd := .lit (.int (1)) <| .ld 1 <| .chn .LtE (c_get_int_5) (c_get_int_4)
noncomputable def c_get_2 : Cd := .ld 0 <| .mld cT "get_int" <| .ld 1 <| .call (.ref 245) 2 <| .ret
noncomputable def c_get_5 : Cd := .ld 1 <| .call (.ref 90) 1 <| .br (c_get_2) (c_get_int_4)
noncomputable def c_get : Cd := .ld 1 <| .isn true <| .br (c_get_int_2) (c_get_5)
section
variable {ν : Nu} {σ : MH} {v : V} {t : Addr} {T : Tb}
theorem isNone_eq (h : isNone v = true) : v = .none := by cases v <;> first | rfl | cases h
theorem isSome_ne {v : V} (e : (!isNone v) = true) : v ≠ .none := fun z => by rw [z] at e; cases e
theorem isNone_nn {v : V} (e : (!isNone v) = false) : v = .none := isNone_eq (by simpa using e)
theorem FindR.look {t : Tag} {j : Int} (I : Inv ν T) (hp : proper t = true) (h : FindR ν T t j) : (j < 0 ∧ nlook ν T t = .none) ∨ (0 ≤ j ∧ j.toNat < T.n ∧ nlook ν T t = (T.nd j.toNat).value) := by
  rcases h with ⟨rfl, h | h⟩ | ⟨i, rfl, h, _⟩
  · subst h; cases hp
  · exact .inl ⟨by decide, nlook_none h⟩
  · exact .inr ⟨Int.natCast_nonneg _, h.1, nlook_at I hp h⟩
theorem find_tail {g d} (L : Law g) (hd : Nat.ble 4 d = true) (k : Knows σ ν) (hT : TR σ t T) (I : Inv ν T) (hv : AnyV ν v) (hp : proper (tag ν v) = true) (ha : inArr T (tag ν v) = false) : wp c_get_int_4 ⟨g, d, noX⟩ (retC fun r σ' => r = look ν T (tag ν v) ∧ σ' = σ) [] [some (.ref t), some v, none] σ := by
  refine Meth.tab hT rfl (Pv.fn L (find_node_ok k hT I hv) hd ?_)
  rintro r σ' ⟨⟨j, rfl, hj⟩, rfl⟩
  rw [look_node ha]
  refine brk2.dec (fun hz => ?_) fun hz => ?_
  · rcases hj.look I hp with ⟨_, b⟩ | ⟨a, _⟩
    · exact ⟨b.symm, rfl⟩
    · omega
  · rcases hj.look I hp with ⟨a, _⟩ | ⟨a, lt, b⟩
    · exact absurd a hz
    · obtain ⟨ad, had⟩ := T.nd_get lt
      exact Pv.nodes L hT (Pg.nod hT a had (Pv.value L hT had ⟨b.symm, rfl⟩))
theorem get_int_ok {n : Int} (k : Knows σ ν) (hT : TR σ t T) (I : Inv ν T) : Fn 5 245 [.ref t, .int n] (fun r σ' => r = look ν T (.int n) ∧ σ' = σ) σ := by
  refine Fn.go (ps := ["self", "n"]) (rest := ["at"]) (code := c_get_int) (fun q_ => by kernel_rfl) (fun q_ => by kernel_rfl) (fun q_ => args2 fun q_ q_ => by kernel_rfl) (fun q_ => by kernel_rfl) rfl fun g L => ?_
  have tl : inArr T (.int n) = false → _ := find_tail (d := 4) L rfl k hT I (.int n) rfl
  refine brk2.dec (fun hp => Pv.array L hT (Pv.lenA hT (brk2.dec (fun hq => ?_) fun hq => tl ?_))) fun hp => tl ?_
  · obtain ⟨w, hw⟩ : ∃ v, T.arr[(n - 1).toNat]? = some v := ⟨_, List.getElem?_eq_getElem (by omega)⟩
    refine Pv.array L hT (Pg.arr hT (by omega) hw ⟨?_, rfl⟩)
    rw [look_arr ⟨hp, hq⟩, hw]; rfl
  · exact inA_no fun z => hq z.2
  · exact inA_no fun z => hp z.1
theorem look_nil (I : Inv ν T) : look ν T .nil = .none := by
  show nlook ν T .nil = .none
  unfold nlook
  cases h : T.nds.find? (fun p => decide (tag ν p.2.key = .nil)) with
  | none => rfl
  | some p =>
    have h3 := List.find?_some h
    obtain ⟨j, hj⟩ := List.getElem?_of_mem (List.mem_of_find?_eq_some h)
    have e : T.nd j = p.2 := Tb.nd_of (a := p.1) (n := p.2) hj
    have := I.vals j (List.getElem?_eq_some_iff.mp hj).1 (by rw [e, of_decide_eq_true h3]; rfl)
    rw [e] at this
    exact this
theorem get_ok (k : Knows σ ν) (hT : TR σ t T) (I : Inv ν T) (hv : AnyV ν v) (hp : v ≠ .none → proper (tag ν v) = true) : Fn 6 259 [.ref t, v] (fun r σ' => r = look ν T (tag ν v) ∧ σ' = σ) σ := by
  refine Fn.go (ps := ["self", "key"]) (rest := ["at"]) (code := c_get) (fun q_ => by kernel_rfl) (fun q_ => by kernel_rfl) (fun q_ => args2 fun q_ q_ => by kernel_rfl) (fun q_ => by kernel_rfl) rfl fun g L => ?_
  refine ⟨hv.plain, brk2.bool (fun e1 => ?_) fun e1 => Pv.fn1 L (is_number_ok k hv) rfl (brk2.bool (fun hi => ?_) fun hi => find_tail (d := 5) L rfl k hT I hv (hp fun z => by rw [z] at e1; cases e1) ?_)⟩
  · rw [isNone_eq e1]
    exact ⟨(look_nil I).symm, rfl⟩
  · cases v with
    | int n => exact Meth.tab hT rfl (Pv.fn1 L (get_int_ok k hT I) rfl ⟨rfl, rfl⟩)
    | _ => cases hi
  · cases hv with
    | int => cases hi
    | ref a r h => rw [tag_ref h]; rfl
    | _ => rfl
noncomputable def FreeR (T : Tb) (fr : Int) (r : Int) : Prop := 0 ≤ fr ∧ fr ≤ T.free ∧ ((r = -1 ∧ fr = 0 ∧ ∀ i, i < T.n → (T.nd i).key ≠ .none) ∨ (r = fr ∧ fr < T.n ∧ (T.nd fr.toNat).key = .none ∧ ∀ i : Nat, i < T.n → fr < i → (T.nd i).key ≠ .none))
theorem free_position_ok (hT : TR σ t T) (I : Inv ν T) : Fn 1 238 [.ref t] (fun r σ' => X2 fun (fr j : Int) => A4 (r = .int j) (FreeR T fr j) (TR σ' t { T with free := fr }) (Mv σ t T σ' { T with free := fr })) σ := by
  refine Fn.go (ps := ["self"]) (rest := []) (code := c_free_position) (fun q_ => by kernel_rfl) (fun q_ => by kernel_rfl) (fun q_ => args1 fun q_ => by kernel_rfl) (fun q_ => by kernel_rfl) rfl fun g L => ?_
  refine Whl.mk (fun m ls σ1 => ls = [some (.ref t)] ∧ ∃ fr : Int, A6 (0 ≤ fr) (fr ≤ T.free) (TR σ1 t { T with free := fr }) (Mv σ t T σ1 { T with free := fr }) ((∀ i : Nat, i < T.n → fr ≤ i → (T.nd i).key ≠ .none)) (m = fr.toNat)) _
    ⟨rfl, T.free, I.fr.1, Int.le_refl _, hT, Mv.refl .., I.full, rfl⟩ ?_
  rintro m ls σ1 ⟨rfl, fr, a2, a3, hT1, m1, a6, rfl⟩
  refine Pv.free L hT1 (brk2.dec (fun (hp : 0 < fr) => Pv.free L hT1 (Pu.free L hT1 fun σ2 hT2 m2 => ?_)) fun (hp : ¬ 0 < fr) => ?_)
  · have lt : (fr - 1).toNat < T.n := by have := I.fr.2; omega
    obtain ⟨ad, had⟩ := T.nd_get lt
    have hT2 : TR σ2 t { T with free := fr - 1 } := hT2
    have m2 : Mv σ t T σ2 { T with free := fr - 1 } := m1.trans m2
    refine Pv.nodes L hT2 (Pv.free L hT2 (Pg.nod hT2 (show 0 ≤ fr - 1 by omega) had (Pv.key L hT2 had ⟨(I.keys _ lt).plain, brk2.bool (fun e => Pv.free L hT2 ⟨fr - 1, fr - 1, rfl, ⟨by omega, by omega, .inr ⟨rfl, by omega, isNone_eq e, fun i hi h => a6 i hi (by omega)⟩⟩, hT2, m2⟩) fun e =>
      ⟨_, ?_, rfl, fr - 1, by omega, by omega, hT2, m2, fun i hi h => ?_, rfl⟩⟩)))
    · omega
    · by_cases z : (i : Int) = fr - 1
      · rw [show i = (fr - 1).toNat by omega]
        intro q; rw [q] at e; cases e
      · exact a6 i hi (by omega)
  · have : fr = 0 := by omega
    subst this
    exact ⟨0, -1, rfl, ⟨Int.le_refl _, a3, .inl ⟨rfl, rfl, fun i hi => a6 i hi (Int.natCast_nonneg _)⟩⟩, hT1, m1⟩
end
theorem setNd_setNd (T : Tb) (i : Nat) (x y : Nd) : (T.setNd i x).setNd i y = T.setNd i y := by
  unfold Tb.setNd
  simp only [List.modify_modify_eq]
  rfl
theorem setNd_get {T : Tb} {i : Nat} {a n x} (h : T.nds[i]? = some (a, n)) : (T.setNd i x).nds[i]? = some (a, x) := by
  unfold Tb.setNd; simp [h]
theorem setNd_get_ne {T : Tb} {i j : Nat} {x} (h : i ≠ j) : (T.setNd i x).nds[j]? = T.nds[j]? := by
  unfold Tb.setNd; simp [h]
noncomputable def c_moved_to : Cd := .ld 0 <| .fld "key" <| .ld 1 <| .stf "key" <| .ld 0 <| .fld "value" <| .ld 1 <| .stf "value" <| .ld 0 <| .fld "next" <| .ld 1 <| .stf "next" <| .fin
section
variable {ν : Nu} {σ : MH}
theorem moved_to_ok {t T a b n m} {i j : Nat} (hT : TR σ t T) (hi : T.nds[i]? = some (a, n)) (hj : T.nds[j]? = some (b, m)) (hij : i ≠ j) : Fn 1 174 [.ref a, .ref b] (fun r σ' => r = .none ∧ TR σ' t (T.setNd j n) ∧ Mv σ t T σ' (T.setNd j n)) σ := by
  refine Fn.go (ps := ["self", "other"]) (rest := []) (code := c_moved_to) (fun q_ => by kernel_rfl) (fun q_ => by kernel_rfl) (fun q_ => args2 fun q_ q_ => by kernel_rfl) (fun q_ => by kernel_rfl) rfl fun g L => ?_
  have pn := hT.pn _ (List.mem_of_getElem? hi)
  have hi' : ∀ x, (T.setNd j x).nds[i]? = some (a, n) := fun x => (setNd_get_ne (Ne.symm hij)).trans hi
  have hj' : ∀ x, (T.setNd j x).nds[j]? = some (b, x) := fun x => setNd_get hj
  refine Pv.key L hT hi (Pu.key L hT hj pn.1 fun σ1 hT1 m1 => Pv.value L hT1 (hi' _) (Pu.value L hT1 (hj' _) pn.2 fun σ2 hT2 m2 => ?_))
  have m2 := m1.trans m2
  rw [setNd_setNd] at hT2 m2
  refine Pv.next L hT2 (hi' _) (Pu.next L hT2 (hj' _) fun σ3 hT3 m3 => ?_)
  have m3 := m2.trans m3
  rw [setNd_setNd] at hT3 m3
  exact ⟨rfl, hT3, m3⟩
end
theorem tnn {ν : Nu} {x : V} (h : proper (tag ν x) = true) : x ≠ .none := fun z => by rw [z] at h; cases h
theorem ins_fill {ν T k v m} (I : Inv ν T) (hk : AnyV ν k) (hp : proper (tag ν k) = true) (hin : inArr T (tag ν k) = false) (hno : ∀ i, ¬ IsAt ν T (tag ν k) i) (hm : m < T.n) (hmp : (mpos T.n (tag ν k)).toNat = m) (hv : (T.nd m).value = .none) :
    Ins ν T (T.setNd m { T.nd m with key := k, value := v }) (tag ν k) v ∧ kc (T.setNd m { T.nd m with key := k, value := v }) ≤ kc T + 1 := by
  have nd := T.nd_setNd { T.nd m with key := k, value := v } hm
  have ne : ∀ i, i ≠ m → (T.setNd m { T.nd m with key := k, value := v }).nd i = T.nd i := fun i h => by rw [nd, if_neg h]
  have eq : (T.setNd m { T.nd m with key := k, value := v }).nd m = { T.nd m with key := k, value := v } := by rw [nd, if_pos rfl]
  have k0 := tnn hp
  generalize hT' : T.setNd m { T.nd m with key := k, value := v } = T' at *
  have en : T'.n = T.n := by rw [← hT']; simp
  have ea : T'.arr = T.arr := by rw [← hT']; rfl
  have efr : T'.free = T.free := by rw [← hT']; rfl
  have lv : ∀ i, i < T.n → ndL T' i = true → ndL T i = true ∨ i = m := fun i q_ h => by
    by_cases z : i = m
    · exact .inr z
    · left; unfold ndL at *; rwa [ne i z] at h
  refine ⟨ins_of I hp hin hno ea en (by rw [efr]; exact I.fr) (fun i hi h => ?_) ?_ hm hk rfl (by rw [eq]) (by rw [eq]) (fun i hi h => ⟨i, hi, by rw [ne i h], by rw [ne i h]⟩) (fun i j hi hj h1 h2 q_ q_ e hpr => ?_) (fun i hi h => ?_) m lv, ?_⟩
  · by_cases z : i = m
    · rw [z, eq]; exact k0
    · rw [ne i z]; exact I.full i hi (by rw [← efr]; exact h)
  · rw [en]
    have G := I.gr
    refine (G.congr (N' := fun i => (T'.nd i).next) (fun i q_ => Iff.rfl) (fun i q_ q_ => rfl) (fun i hi => ?_)).fill hm (by rw [eq]; exact k0) (by rw [eq]; exact hmp) (fun i hi h => by rw [ne i h]) (fun i hi h => by rw [ne i h])
    by_cases z : i = m
    · subst z; rw [eq]
    · rw [ne i z]
  · rw [ne i h1] at e hpr; rw [ne j h2] at e; exact I.uniq i j hi hj e hpr
  · by_cases z : i = m
    · left; rw [z]; exact hv
    · right; exact ⟨i, hi, z, by rw [ne i z], by rw [ne i z]⟩
  · unfold kc
    rw [en]
    refine cnt_ins m fun i hi h => ?_
    by_cases z : i = m
    · exact .inr z
    · left; rwa [ne i z] at h
theorem ins_link {ν T T' k v m s} {fr : Int} (I : Inv ν T) (hk : AnyV ν k) (hp : proper (tag ν k) = true) (hin : inArr T (tag ν k) = false) (hno : ∀ i, ¬ IsAt ν T (tag ν k) i) (hm : m < T.n) (hmp : (mpos T.n (tag ν k)).toNat = m)
    (hs : s < T.n) (hfs : fr = s) (hfr : fr ≤ T.free) (hsk : (T.nd s).key = .none) (hfull : ∀ i : Nat, i < T.n → fr < i → (T.nd i).key ≠ .none)
    (hmk : (T.nd m).key ≠ .none) (hmm : (mpos T.n (tag ν (T.nd m).key)).toNat = m)
    (en : T'.n = T.n) (ea : T'.arr = T.arr) (efr : T'.free = fr) (em : T'.nd m = { T.nd m with next := s }) (es : T'.nd s = { key := k, value := v, next := (T.nd m).next }) (eo : ∀ i, i < T.n → i ≠ m → i ≠ s → T'.nd i = T.nd i) :
    Ins ν T T' (tag ν k) v ∧ kc T' ≤ kc T + 1 := by
  have k0 := tnn hp
  have ms : m ≠ s := fun z => hmk (by rw [z]; exact hsk)
  have kv : ∀ i, i < T.n → i ≠ s → (T'.nd i).key = (T.nd i).key ∧ (T'.nd i).value = (T.nd i).value := fun i hi h => by
    by_cases z : i = m
    · subst z; rw [em]; exact ⟨rfl, rfl⟩
    · rw [eo i hi z h]; exact ⟨rfl, rfl⟩
  refine ⟨ins_of I hp hin hno ea en ⟨by rw [efr]; lia, by rw [efr]; lia⟩ (fun i hi h => ?_) ?_ hs hk rfl (by rw [es]) (by rw [es]) (fun i hi h => ⟨i, hi, (kv i hi h).1, (kv i hi h).2⟩) (fun i j hi hj h1 h2 q_ q_ e hpr => ?_) (fun i hi h => ?_) s (fun i hi h => ?_), ?_⟩
  · by_cases z : i = s
    · rw [z, es]; exact k0
    · rw [(kv i hi z).1]; exact hfull i hi (by rw [efr] at h; lia)
  · rw [en]
    refine I.gr.link hm hs hmk hmm (by rw [hsk]; simp) (by rw [em]) (by rw [es]) (fun i hi h1 h2 => by rw [eo i hi h1 h2]) (by rw [es]; exact k0) (by rw [es]; exact hmp) (fun i hi h => by rw [(kv i hi h).1]) (fun i hi h => by rw [(kv i hi h).1])
  · rw [(kv i hi h1).1] at e hpr; rw [(kv j hj h2).1] at e; exact I.uniq i j hi hj e hpr
  · by_cases z : i = s
    · exact absurd hsk (z ▸ h)
    · right; exact ⟨i, hi, z, (kv i hi z).1, (kv i hi z).2⟩
  · by_cases z : i = s
    · exact .inr z
    · left; unfold ndL at *; rwa [(kv i hi z).2] at h
  · unfold kc
    rw [en]
    refine cnt_ins s fun i hi h => ?_
    by_cases z : i = s
    · exact .inr z
    · left; rwa [(kv i hi z).1] at h
theorem ins_move {ν T T' k v m s p} {fr : Int} (I : Inv ν T) (hk : AnyV ν k) (hp : proper (tag ν k) = true) (hin : inArr T (tag ν k) = false) (hno : ∀ i, ¬ IsAt ν T (tag ν k) i) (hm : m < T.n) (hmp : (mpos T.n (tag ν k)).toNat = m)
    (hs : s < T.n) (hfs : fr = s) (hfr : fr ≤ T.free) (hsk : (T.nd s).key = .none) (hfull : ∀ i : Nat, i < T.n → fr < i → (T.nd i).key ≠ .none)
    (hmk : (T.nd m).key ≠ .none) (hml : (T.nd m).value ≠ .none) (hmm : (mpos T.n (tag ν (T.nd m).key)).toNat ≠ m) (hpn : p < T.n) (hpm : (T.nd p).next = m)
    (en : T'.n = T.n) (ea : T'.arr = T.arr) (efr : T'.free = fr) (em : T'.nd m = { key := k, value := v, next := -1 }) (es : T'.nd s = T.nd m) (ep : T'.nd p = { T.nd p with next := s }) (eo : ∀ i, i < T.n → i ≠ m → i ≠ s → i ≠ p → T'.nd i = T.nd i) :
    Ins ν T T' (tag ν k) v ∧ kc T' ≤ kc T + 1 := by
  have k0 := tnn hp
  have ms : m ≠ s := fun z => hmk (by rw [z]; exact hsk)
  have hmpr : proper (tag ν (T.nd m).key) = true := by
    cases h : proper (tag ν (T.nd m).key) with
    | true => rfl
    | false => exact absurd (I.vals m hm h) hml
  have kv : ∀ i, i < T.n → i ≠ s → i ≠ m → (T'.nd i).key = (T.nd i).key ∧ (T'.nd i).value = (T.nd i).value := fun i hi h h2 => by
    by_cases z : i = p
    · subst z; rw [ep]; exact ⟨rfl, rfl⟩
    · rw [eo i hi h2 h z]; exact ⟨rfl, rfl⟩
  refine ⟨ins_of I hp hin hno ea en ⟨by rw [efr]; lia, by rw [efr]; lia⟩ (fun i hi h => ?_) ?_ hm hk rfl (by rw [em]) (by rw [em]) (fun i hi h => ?_) (fun i j hi hj h1 h2 q_ q_ e hpr => ?_) (fun i hi h => ?_) s (fun i hi h => ?_), ?_⟩
  · by_cases z : i = s
    · rw [z, es]; exact hmk
    · by_cases w : i = m
      · rw [w, em]; exact k0
      · rw [(kv i hi z w).1]; exact hfull i hi (by rw [efr] at h; lia)
  · rw [en]
    refine I.gr.move hm hs hpn hmk hmm (by rw [hsk]; simp) hpm (by rw [ep]) (by rw [es]) (by rw [em]) (fun i hi h1 h2 h3 => by rw [eo i hi h1 h2 h3]) (by rw [es]; exact hmk) (by rw [es]) (by rw [em]; exact k0) (by rw [em]; exact hmp) (fun i hi h h2 => by rw [(kv i hi h h2).1]) (fun i hi h h2 => by rw [(kv i hi h h2).1])
  · by_cases z : i = s
    · exact ⟨m, hm, by rw [z, es], by rw [z, es]⟩
    · exact ⟨i, hi, (kv i hi z h).1, (kv i hi z h).2⟩
  · have f : ∀ i, i < T.n → i ≠ m → (T'.nd i).key = (T.nd (if i = s then m else i)).key := fun i hi h => by
      by_cases z : i = s
      · rw [if_pos z, z, es]
      · rw [if_neg z, (kv i hi z h).1]
    rw [f i hi h1] at e hpr
    rw [f j hj h2] at e
    have lt : ∀ i, i < T.n → (if i = s then m else i) < T.n := fun i hi => by split <;> assumption
    have := I.uniq _ _ (lt i hi) (lt j hj) e hpr
    by_cases z : i = s <;> by_cases w : j = s <;> simp only [z, w, if_true, if_false] at this
    · rw [z, w]
    · exact absurd this.symm h2
    · exact absurd this h1
    · exact this
  · right
    by_cases w : i = m
    · exact ⟨s, hs, Ne.symm ms, by rw [es, w], by rw [es, w]⟩
    · have z : i ≠ s := fun z => h (by rw [z]; exact hsk)
      exact ⟨i, hi, w, (kv i hi z w).1, (kv i hi z w).2⟩
  · by_cases z : i = s
    · exact .inr z
    · left
      by_cases w : i = m
      · unfold ndL; rw [w, Bool.not_eq_true', ← Bool.not_eq_true, isNone_iff]; exact hml
      · unfold ndL at *; rwa [(kv i hi z w).2] at h
  · unfold kc
    rw [en]
    refine cnt_ins s fun i hi h => ?_
    by_cases z : i = s
    · exact .inr z
    · left
      by_cases w : i = m
      · rw [w, Bool.not_eq_true', ← Bool.not_eq_true, isNone_iff]; exact hmk
      · rwa [(kv i hi z w).1] at h
noncomputable def c_new_key_1 : Cd := .ld 0 <| .mld cT "rehash" <| .ld 1 <| .ld 3 <| .call (.ref 322) 3 <| .pop <| .ld 0 <| .mld cT "put_again" <| .ld 1 <| .ld 2 <| .ld 3 <| .call (.ref 301) 4 <| .pop <| .lit .none <| .ret
noncomputable def c_new_key_2 : Cd := .ld 0 <| .fld "nodes" <| .ld 7 <| .ix <| .fld "next" <| .st 7 <| .fin
noncomputable def c_new_key_3 : Cd := .ld 0 <| .fld "nodes" <| .ld 7 <| .ix <| .fld "next" <| .ld 4 <| .cmp .NotEq <| .br (c_new_key_2) (.brk)
noncomputable def c_new_key_4 : Cd := .ld 6 <| .ld 0 <| .fld "nodes" <| .ld 7 <| .ix <| .stf "next" <| .ld 5 <| .mld cN "moved_to" <| .ld 0 <| .fld "nodes" <| .ld 6 <| .ix <| .call (.ref 174) 2 <| .pop <| .lit (.int (1)) <| .una .USub <| .ld 5 <| .stf "next" <| .lit .none <| .ld 5 <| .stf "value" <| .ld 1 <| .ld 5 <| .stf "key" <| .ld 2 <| .ld 5 <| .stf "value" <| .ld 3 <| .isn false <| .br (.bad) (.fin)
noncomputable def c_new_key_5 : Cd := .whl (c_new_key_3) (c_new_key_4)
noncomputable def c_new_key_6 : Cd := .ld 5 <| .fld "next" <| .ld 0 <| .fld "nodes" <| .ld 6 <| .ix <| .stf "next" <| .ld 6 <| .ld 5 <| .stf "next" <| .ld 0 <| .fld "nodes" <| .ld 6 <| .ix <| .st 5 <| .ld 1 <| .ld 5 <| .stf "key" <| .ld 2 <| .ld 5 <| .stf "value" <| .ld 3 <| .isn false <| .br (.bad) (.fin)
noncomputable def c_new_key_7 : Cd := .ld 0 <| .mld cT "main_position" <| .ld 5 <| .fld "key" <| .call (.ref 224) 2 <| .st 7 <| .ld 7 <| .ld 4 <| .cmp .NotEq <| .br (c_new_key_5) (c_new_key_6)
noncomputable def c_new_key_8 : Cd := .ld 0 <| .mld cT "free_position" <| .call (.ref 238) 1 <| .st 6 <| .ld 6 <| .lit (.int (0)) <| .cmp .Lt <| .br (c_new_key_1) (c_new_key_7)
noncomputable def c_new_key_9 : Cd := .ld 1 <| .ld 5 <| .stf "key" <| .ld 2 <| .ld 5 <| .stf "value" <| .ld 3 <| .isn false <| .br (.bad) (.fin)
noncomputable def c_new_key_10 : Cd := .ld 0 <| .mld cT "main_position" <| .ld 1 <| .call (.ref 224) 2 <| .st 4 <| .ld 0 <| .fld "nodes" <| .ld 4 <| .ix <| .st 5 <| .ld 5 <| .fld "value" <| .isn false <| .br (c_new_key_8) (c_new_key_9)
noncomputable def c_new_key : Cd := .ld 0 <| .fld "nodes" <| .call (.bi "len") 1 <| .lit (.int (0)) <| .cmp .Eq <| .br (c_new_key_1) (c_new_key_10)
section
variable {ν : Nu} {σ : MH}
theorem new_key_ok {d : Nat} {t T k v} {Post : MH → Prop} (hd : 4 ≤ d) (K : Knows σ ν) (hν : ν t = none) (hT : TR σ t T) (I : Inv ν T) (hk : AnyV ν k) (hp : proper (tag ν k) = true) (hin : inArr T (tag ν k) = false) (hno : ∀ i, ¬ IsAt ν T (tag ν k) i) (hv : v.plain = true)
    (hre : kc T = T.n → ∀ σ1 fr, 0 ≤ fr → fr ≤ T.free → TR σ1 t { T with free := fr } → Mv σ t T σ1 { T with free := fr } → Knows σ1 ν →
      Fn d 322 [.ref t, k, .none] (fun r σ2 => r = .none ∧ (∃ T2, TR σ2 t T2) ∧ Fn d 301 [.ref t, k, v, .none] (fun r σ' => r = .none ∧ Post σ') σ2) σ1)
    (hok : ∀ σ' T', TR σ' t T' → Mv σ t T σ' T' → Ins ν T T' (tag ν k) v → T'.arr = T.arr → T'.n = T.n → kc T' ≤ kc T + 1 → Post σ') : Fn (d + 1) 294 [.ref t, k, v, .none] (fun r σ' => r = .none ∧ Post σ') σ := by
  refine Fn.go (ps := ["self", "key", "value", "heap"]) (rest := ["main", "place", "spot", "other"]) (code := c_new_key) (fun q_ => by kernel_rfl) (fun q_ => by kernel_rfl) (fun q_ => args4 fun q_ q_ q_ q_ => by kernel_rfl) (fun q_ => by kernel_rfl) rfl fun g L => ?_
  have hlen : (T.nds.length : Int) = T.n := rfl
  have k0 := tnn hp
  have hd1 : Nat.ble 1 d = true := Nat.ble_eq.mpr (Nat.le_trans (Nat.le_of_ble_eq_true rfl) hd)
  have hd2 : Nat.ble 2 d = true := Nat.ble_eq.mpr (Nat.le_trans (Nat.le_of_ble_eq_true rfl) hd)
  have hdd : Nat.ble d d = true := Nat.ble_eq.mpr (Nat.le_refl d)
  have again : ∀ {ls σ1 T1}, TR σ1 t T1 → Fn d 322 [.ref t, k, .none] (fun r σ2 => r = .none ∧ (∃ T2, TR σ2 t T2) ∧ Fn d 301 [.ref t, k, v, .none] (fun r σ' => r = .none ∧ Post σ') σ2) σ1 →
      wp c_new_key_1 ⟨g, d, noX⟩ (retC fun r σ' => r = .none ∧ Post σ') [] (some (.ref t) :: some k :: some v :: some .none :: ls) σ1 := fun hT1 h => by
    refine Meth.tab hT1 rfl (Pv.fn L h hdd ?_)
    rintro _ σ2 ⟨rfl, ⟨T2, hT2⟩, hpa⟩
    refine Meth.tab hT2 rfl (Pv.fn L hpa hdd ?_)
    rintro _ σ3 ⟨rfl, hq⟩
    exact ⟨rfl, hq⟩
  refine Pv.nodes L hT (Pv.lenN hT (brk2.dec (fun e0 => ?_) fun e0 => ?_))
  · have e1 : kc T = T.n := by unfold kc; rw [show T.n = 0 by lia -abstractProof]; rfl
    exact again hT (hre e1 σ T.free I.fr.1 (Int.le_refl _) hT (Mv.refl ..) K)
  have hn : ∃ k, T.n = 2 ^ k := by rcases I.sz with h | ⟨k, _, h⟩; exact absurd (by lia -abstractProof) e0; exact ⟨k, h⟩
  have mr := mpos_range hn (tag ν k)
  have hm : (mpos T.n (tag ν k)).toNat < T.n := by (refine Nat.lt_of_not_le fun q_ => ?_; lia -abstractProof)
  generalize hmd : (mpos T.n (tag ν k)).toNat = m at hm
  have hmi : mpos T.n (tag ν k) = (m : Int) := by lia -abstractProof
  obtain ⟨am, ham⟩ := T.nd_get hm
  have hpm := hT.pn _ (List.mem_of_getElem? ham)
  refine Meth.tab hT rfl (Pv.fn1 L (main_position_ok K hT hn hk k0) hd2 ?_)
  rw [hmi]
  refine Pv.nodes L hT (Pg.nod hT (Int.natCast_nonneg m) (by rw [Int.toNat_natCast]; exact ham) (Pv.value L hT ham ⟨hpm.2, brk2.bool (fun e1 => ?_) fun e1 => ?_⟩))
  rotate_left
  · -- no value is there
    have e1 : (T.nd m).value = .none := isNone_eq (by simpa using e1)
    have fin := ins_fill (v := v) I hk hp hin hno hm hmd e1
    refine Pu.key L hT ham hk.plain fun σ1 hT1 m1 => Pu.value L hT1 (setNd_get ham) hv fun σ2 hT2 m2 => ?_
    have m2 := m1.trans m2
    rw [setNd_setNd] at hT2 m2
    exact ⟨rfl, rfl, hok _ _ hT2 m2 fin.1 rfl (T.n_setNd ..) fin.2⟩
  have e1 : (T.nd m).value ≠ .none := fun z => by rw [z] at e1; cases e1
  have hmk : (T.nd m).key ≠ .none := fun z => e1 (I.vals m hm (by rw [z]; rfl))
  have hkm := I.keys m hm
  refine Meth.tab hT rfl (Pv.fn L (free_position_ok hT I) hd1 ?_)
  rintro _ σ1 ⟨fr, j, rfl, ⟨f1, f2, f3⟩, hT1, m1⟩
  have K1 := K.mv hT m1 hν
  refine brk2.dec (fun hj => ?_) fun hj => ?_
  · -- no place is free
    rcases f3 with ⟨rfl, rfl, f3⟩ | ⟨rfl, _⟩
    · have e2 : kc T = T.n := cnt_all fun i hi => by
        rw [Bool.not_eq_true', ← Bool.not_eq_true]; exact fun z => f3 i hi (isNone_eq z)
      exact again hT1 (hre e2 σ1 0 f1 f2 hT1 m1 K1)
    · lia -abstractProof
  rcases f3 with ⟨rfl, _⟩ | ⟨rfl, f4, f5, f6⟩
  · lia -abstractProof
  generalize hsd : j.toNat = s at f5
  have hji : j = (s : Int) := by lia -abstractProof
  have hs : s < T.n := by (refine Nat.lt_of_not_le fun q_ => ?_; lia -abstractProof)
  subst hji
  obtain ⟨as, has⟩ := T.nd_get hs
  have ms : m ≠ s := fun z => hmk (by rw [z]; exact f5)
  have ham1 : ({ T with free := (s : Int) } : Tb).nds[m]? = some (am, T.nd m) := ham
  have has1 : ({ T with free := (s : Int) } : Tb).nds[s]? = some (as, T.nd s) := has
  have mr2 := mpos_range hn (tag ν (T.nd m).key)
  refine Meth.tab hT1 rfl (Pv.key L hT1 ham1 (Pv.fn1 L (main_position_ok K1 hT1 hn hkm hmk) hd2 (brk2.bool (fun e2 => ?_) fun e2 => ?_)))
  · -- the key there stands in another's place
    have e2 : mpos T.n (tag ν (T.nd m).key) ≠ (m : Int) := ne_of_nd e2
    have e3 : (mpos T.n (tag ν (T.nd m).key)).toNat ≠ m := by lia -abstractProof
    obtain ⟨r, hr⟩ := I.gr.rank
    obtain ⟨g1, g2, g3, g4⟩ := I.gr.main m hm hmk
    refine Whl.mk (fun q ls σ2 => σ2 = σ1 ∧ ∃ o : Nat, A5 (ls = [some (.ref t), some k, some v, some .none, some (.int m), some (.ref am), some (.int s), some (.int o)]) (o < T.n) (o ≠ m) (Rch (fun i => (T.nd i).next) o m) (q = r o)) _
      ⟨rfl, (mpos T.n (tag ν (T.nd m).key)).toNat, by rw [Int.toNat_of_nonneg mr2.1]; rfl, g1, e3, g4, rfl⟩ ?_
    rintro q ls σ2 ⟨rfl, o, rfl, a9, a10, a11, rfl⟩
    obtain ⟨j, c1, c2⟩ := a11.next a10
    have c1 : (T.nd o).next = (j : Int) := c1
    obtain ⟨ao, hao⟩ := T.nd_get a9
    have hao1 : ({ T with free := (s : Int) } : Tb).nds[o]? = some (ao, T.nd o) := hao
    have jl : j < T.n := by have := (I.gr.rng o a9).2; (refine Nat.lt_of_not_le fun q_ => ?_; lia -abstractProof)
    refine Pv.nodes L hT1 (Pg.nod hT1 (Int.natCast_nonneg o) (by rw [Int.toNat_natCast]; exact hao1) (Pv.next L hT1 hao1 (brk2.bool (fun e4 => ?_) fun e4 => ?_)))
    · have e4 : j ≠ m := fun z => by rw [c1, z] at e4; simp at e4
      refine Pv.nodes L hT1 (Pg.nod hT1 (Int.natCast_nonneg o) (by rw [Int.toNat_natCast]; exact hao1) (Pv.next L hT1 hao1 ⟨r j, hr o j a9 jl c1, rfl, j, by rw [c1]; rfl, jl, e4, c2, rfl⟩))
    · have e4 : j = m := by have : (T.nd o).next = m := by simpa using e4
                            exact Int.ofNat_inj.mp (c1.symm.trans this)
      subst e4
      have os : o ≠ s := fun z => by
        have := (I.gr.free s hs (fun h => h f5)).1
        rw [z] at c1; lia -abstractProof
      refine Pv.nodes L hT1 (Pg.nod hT1 (Int.natCast_nonneg o) (by rw [Int.toNat_natCast]; exact hao1) (Pu.next L hT1 hao1 fun σ3 hT3 m3 => ?_))
      have m3 := m1.trans m3
      have ham3 := (setNd_get_ne (T := { T with free := (s : Int) }) (x := { T.nd o with next := (s : Int) }) a10).trans ham1
      have has3 := (setNd_get_ne (T := { T with free := (s : Int) }) (x := { T.nd o with next := (s : Int) }) os).trans has1
      refine Meth.mk am _ (hT3.at_ ham3) rfl (Pv.nodes L hT3 (Pg.nod hT3 (Int.natCast_nonneg s) (by rw [Int.toNat_natCast]; exact has3) (Pv.fn L (moved_to_ok hT3 ham3 has3 ms) hd1 ?_)))
      rintro _ σ4 ⟨rfl, hT4, m4⟩
      have m4 := m3.trans m4
      have ham4 := (setNd_get_ne (x := T.nd j) (Ne.symm ms)).trans ham3
      refine Pu.next L hT4 ham4 fun σ5 hT5 m5 => Pu.value L hT5 (setNd_get ham4) rfl fun σ6 hT6 m6 => ?_
      have m6 := (m4.trans m5).trans m6
      rw [setNd_setNd] at hT6 m6
      refine Pu.key L hT6 (setNd_get ham4) hk.plain fun σ7 hT7 m7 => ?_
      have m7 := m6.trans m7
      rw [setNd_setNd] at hT7 m7
      refine Pu.value L hT7 (setNd_get ham4) hv fun σ8 hT8 m8 => ?_
      have m8 := m7.trans m8
      rw [setNd_setNd] at hT8 m8
      have x1 : o < Tb.n { T with free := (s : Int) } := a9
      have x2 : s < (Tb.setNd { T with free := (s : Int) } o { T.nd o with next := (s : Int) }).n := by rw [Tb.n_setNd]; exact hs
      have x3 : j < ((Tb.setNd { T with free := (s : Int) } o { T.nd o with next := (s : Int) }).setNd s (T.nd j)).n := by rw [Tb.n_setNd, Tb.n_setNd]; exact hm
      have fin := ins_move (T' := (((Tb.setNd { T with free := (s : Int) } o { T.nd o with next := (s : Int) }).setNd s (T.nd j)).setNd j { key := k, value := v, next := -1 })) (fr := s) I hk hp hin hno hm hmd hs rfl f2 f5 (fun i hi h => f6 i hi h) hmk e1 e3 a9 c1
        (by rw [Tb.n_setNd, Tb.n_setNd, Tb.n_setNd]; rfl) rfl rfl (by rw [Tb.nd_setNd _ _ x3, if_pos rfl]) (by rw [Tb.nd_setNd _ _ x3, if_neg (Ne.symm ms), Tb.nd_setNd _ _ x2, if_pos rfl])
        (by rw [Tb.nd_setNd _ _ x3, if_neg a10, Tb.nd_setNd _ _ x2, if_neg os, Tb.nd_setNd _ _ x1, if_pos rfl]) (fun i hi h1 h2 h3 => by rw [Tb.nd_setNd _ _ x3, if_neg h1, Tb.nd_setNd _ _ x2, if_neg h2, Tb.nd_setNd _ _ x1, if_neg h3]; rfl)
      exact ⟨rfl, rfl, hok _ _ hT8 m8 fin.1 rfl (by rw [Tb.n_setNd, Tb.n_setNd, Tb.n_setNd]; rfl) fin.2⟩
  · -- it is of the same main place
    have e2 : mpos T.n (tag ν (T.nd m).key) = (m : Int) := eq_of_nd e2
    refine Pv.next L hT1 ham1 (Pv.nodes L hT1 (Pg.nod hT1 (Int.natCast_nonneg s) (by rw [Int.toNat_natCast]; exact has1) (Pu.next L hT1 has1 fun σ3 hT3 m3 => ?_)))
    have m3 := m1.trans m3
    have ham3 := (setNd_get_ne (T := { T with free := (s : Int) }) (x := { T.nd s with next := (T.nd m).next }) (Ne.symm ms)).trans ham1
    refine Pu.next L hT3 ham3 fun σ4 hT4 m4 => ?_
    have m4 := m3.trans m4
    have has4 := (setNd_get_ne (x := { T.nd m with next := (s : Int) }) ms).trans (setNd_get (x := { T.nd s with next := (T.nd m).next }) has1)
    refine Pv.nodes L hT4 (Pg.nod hT4 (Int.natCast_nonneg s) (by rw [Int.toNat_natCast]; exact has4) (Pu.key L hT4 has4 hk.plain fun σ5 hT5 m5 => Pu.value L hT5 (setNd_get has4) hv fun σ6 hT6 m6 => ?_))
    have m6 := (m4.trans m5).trans m6
    rw [setNd_setNd] at hT6 m6
    have x1 : s < Tb.n { T with free := (s : Int) } := hs
    have x2 : m < (Tb.setNd { T with free := (s : Int) } s { T.nd s with next := (T.nd m).next }).n := by rw [Tb.n_setNd]; exact hm
    have x3 : s < ((Tb.setNd { T with free := (s : Int) } s { T.nd s with next := (T.nd m).next }).setNd m { T.nd m with next := (s : Int) }).n := by rw [Tb.n_setNd, Tb.n_setNd]; exact hs
    have fin := ins_link (T' := ((Tb.setNd { T with free := (s : Int) } s { T.nd s with next := (T.nd m).next }).setNd m { T.nd m with next := (s : Int) }).setNd s { key := k, value := v, next := (T.nd m).next }) (fr := s) I hk hp hin hno hm hmd hs rfl f2 f5 (fun i hi h => f6 i hi h) hmk (by lia -abstractProof)
      (by rw [Tb.n_setNd, Tb.n_setNd, Tb.n_setNd]; rfl) rfl rfl (by rw [Tb.nd_setNd _ _ x3, if_neg ms, Tb.nd_setNd _ _ x2, if_pos rfl]) (by rw [Tb.nd_setNd _ _ x3, if_pos rfl])
      (fun i hi h1 h2 => by rw [Tb.nd_setNd _ _ x3, if_neg h2, Tb.nd_setNd _ _ x2, if_neg h1, Tb.nd_setNd _ _ x1, if_neg h2]; rfl)
    exact ⟨rfl, rfl, hok _ _ hT6 m6 fin.1 rfl (by rw [Tb.n_setNd, Tb.n_setNd, Tb.n_setNd]; rfl) fin.2⟩
end
structure Ext1 (σ : MH) (t : Addr) (σ' : MH) : Prop where
  keep : ∀ b o, σ b = some o → b ≠ t → σ' b = some o
  dom : ∀ b o, σ b = some o → ∃ o', σ' b = some o'
theorem Ext1.trans {σ t σ' σ''} (x : Ext1 σ t σ') (y : Ext1 σ' t σ'') : Ext1 σ t σ'' := ⟨fun b o h n => y.keep b o (x.keep b o h n) n, fun b o h => let ⟨o', h'⟩ := x.dom b o h; y.dom b o' h'⟩
theorem Ext1.new {σ t a o} (h : σ a = none) : Ext1 σ t (upd σ a o) := ⟨fun b x e q_ => (upd_ne _ _ fun z => by rw [z, h] at e; cases e).trans e, fun b x e => ⟨x, (upd_ne _ _ fun z => by rw [z, h] at e; cases e).trans e⟩⟩
theorem Ext1.put {σ t o} : Ext1 σ t (upd σ t o) := ⟨fun b x e n => (upd_ne _ _ n).trans e, fun b x e => by
  by_cases z : b = t
  · exact ⟨o, z ▸ upd_same ..⟩
  · exact ⟨x, (upd_ne _ _ z).trans e⟩⟩
theorem Ext1.none_of {σ t σ'} (x : Ext1 σ t σ') {b} (h : σ' b = none) : σ b = none := by
  cases q : σ b with
  | none => rfl
  | some o => obtain ⟨o', h'⟩ := x.dom b o q; rw [h] at h'; cases h'
theorem TR.setN {σ t T a} {nds' : List (Addr × Nd)} (h : TR σ t T) (ha : σ a = some (.list (nds'.map fun p => .ref p.1))) (hnd : ∀ p ∈ nds', σ p.1 = some (.inst cN p.2.fs)) (nd : (nds'.map (·.1)).Nodup) (ne : T.aa ≠ a) (hp : ∀ p ∈ nds', p.2.key.plain = true ∧ p.2.value.plain = true) (hz : nds'.length ≤ 2 ^ 23) :
    TR (upd σ t (.inst cT { T with na := a, nds := nds' }.fs)) t { T with na := a, nds := nds' } := by
  have n1 : T.aa ≠ t := fun z => by have := h.arr; rw [z, h.t] at this; cases this
  have n2 : a ≠ t := fun z => by rw [z, h.t] at ha; cases ha
  exact ⟨upd_same .., (upd_ne _ _ n1).trans h.arr, (upd_ne _ _ n2).trans ha, fun p hpp => (upd_ne _ _ fun z => by have := hnd p hpp; rw [z, h.t] at this; exact absurd this (by simp [cT, cN])).trans (hnd p hpp), nd, ne, h.pa, hp, h.sa, hz⟩
noncomputable def c_Node_init : Cd := .lit .none <| .ld 0 <| .stf "key" <| .lit .none <| .ld 0 <| .stf "value" <| .lit (.int (1)) <| .una .USub <| .ld 0 <| .stf "next" <| .fin
noncomputable def c_weigh_1 : Cd := .lit (.int (56)) <| .lit (.int (16)) <| .ld 0 <| .fld "array" <| .call (.bi "len") 1 <| .bin .Mult <| .bin .Add <| .lit (.int (32)) <| .ld 0 <| .fld "nodes" <| .call (.bi "len") 1 <| .bin .Mult <| .bin .Add <| .ld 0 <| .stf "size" <| .fin
noncomputable def c_weigh : Cd := .ld 1 <| .isn false <| .br (.bad) (c_weigh_1)
section
variable {ν : Nu} {σ : MH} {E : En}
noncomputable def nd0 : Nd := ⟨.none, .none, -1⟩
theorem Pv.make (L : Law E.g) {C fI : Addr} {n : Nat} {args : List V} {K : V → MH → Prop} (hm : ∀ P, makeK (hd.heap_1 P) C fI = true) (hd : Nat.ble (n + 1) E.d = true) (h : ∀ a, σ a = none → Fn n fI (.ref a :: args) (fun v σ' => v = .none ∧ K (.ref a) σ') (upd σ a (.inst C []))) : Pv E tcall (.ref C :: args) K σ := ⟨fun φ e =>
  PV.make (κ := ⟨φ, E.d, E.X⟩) (d := n) (by rw [e, L.K]; exact hm _) (Nat.le_of_ble_eq_true hd) fun a ha => (h a ha _ (e ▸ L)).mono (fun q_ q_ q => q) fun q_ x => x.elim⟩
theorem node_init {a : Addr} (ha : σ a = some (.inst cN [])) : Fn 1 167 [.ref a] (fun v σ' => v = .none ∧ σ' = upd σ a (.inst cN nd0.fs)) σ := by
  refine Fn.go (ps := ["self"]) (rest := []) (code := c_Node_init) (fun q_ => by kernel_rfl) (fun q_ => by kernel_rfl) (fun q_ => args1 fun q_ => by kernel_rfl) (fun q_ => by kernel_rfl) rfl fun g L => ?_
  refine Pu.fld ha (L.fN (by kernel_rfl)) (Nat.le_of_ble_eq_true rfl) (Pu.fld (upd_same ..) (L.fN (by kernel_rfl)) (Nat.le_of_ble_eq_true rfl) (Pu.fld (upd_same ..) (L.fN (by kernel_rfl)) (Nat.le_of_ble_eq_true rfl) ⟨rfl, ?_⟩))
  rw [upd_upd, upd_upd]
  exact congrArg (fun fs => upd σ a (.inst cN fs)) (show setF (setF (setF [] "key" V.none) "value" V.none) "next" (V.int (-1)) = nd0.fs by kernel_rfl)
theorem Pv.node (L : Law E.g) {K : V → MH → Prop} (hd : Nat.ble 2 E.d = true) (h : ∀ a, σ a = none → K (.ref a) (upd σ a (.inst cN nd0.fs))) : Pv E tcall [.ref cN] K σ :=
  Pv.make L (n := 1) (fI := 167) (fun q_ => by kernel_rfl) hd fun a ha g L => (node_init (upd_same ..) g L).mono (fun v σ' e => ⟨e.1, by rw [e.2, upd_upd]; exact h a ha⟩) fun q_ x => x
theorem weigh_ok {t T} (hT : TR σ t T) : Fn 1 356 [.ref t, .none] (fun r σ' => r = .none ∧ TR σ' t T.weighed ∧ Mv σ t T σ' T.weighed) σ := by
  refine Fn.go (ps := ["self", "heap"]) (rest := []) (code := c_weigh) (fun q_ => by kernel_rfl) (fun q_ => by kernel_rfl) (fun q_ => args2 fun q_ q_ => by kernel_rfl) (fun q_ => by kernel_rfl) rfl fun g L => ?_
  have b16 : Builtin.Int.intBits 16 ≤ 64 := by decide +kernel
  have b32 : Builtin.Int.intBits 32 ≤ 64 := by decide +kernel
  exact ⟨rfl, Pv.array L hT (Pv.lenA hT (Pv.mul (IntMulOk.of_left b16) (Pv.nodes L hT (Pv.lenN hT (Pv.mul (IntMulOk.of_left b32) (Pu.size L hT fun σ1 hT1 m1 => ⟨rfl, hT1, m1⟩))))))⟩
end
theorem clg_two {h : Nat} (h1 : 1 < h) : clg h = ((h - 1).log2 + 1 : Nat) := by
  unfold clg lg
  rw [if_pos (by (refine Int.lt_of_not_ge fun q_ => ?_; lia -abstractProof)), predN h]; rfl
theorem clg_range {h : Nat} (h1 : 1 ≤ h) (h2 : h ≤ 2 ^ 20) : 0 ≤ clg h ∧ clg h ≤ 20 ∧ h ≤ 2 ^ (clg h).toNat ∧ (2 ≤ h → 2 ^ ((clg h).toNat - 1) < h) := by
  rcases Nat.eq_or_lt_of_le h1 with e | e
  · subst e; decide
  · rw [clg_two e]
    have z := Nat.sub_ne_zero_of_lt e
    have p := Nat.sub_lt h1 Nat.one_pos
    have l2 : (h - 1).log2 < 20 := (Nat.log2_lt z).mpr (Nat.lt_of_lt_of_le p h2)
    exact ⟨Int.natCast_nonneg _, Int.ofNat_le.mpr l2, Nat.le_of_pred_lt Nat.lt_log2_self, fun q_ => Nat.lt_of_le_of_lt (Nat.log2_self_le z) p⟩
noncomputable def places (h : Nat) : Nat := if h = 0 then 0 else 2 ^ (clg h).toNat
theorem places_le {h : Nat} (h2 : h ≤ 2 ^ 20) : h ≤ places h ∧ places h ≤ 2 ^ 20 ∧ (places h = 0 ∨ ∃ k, k ≤ 20 ∧ places h = 2 ^ k) := by
  unfold places
  by_cases e : h = 0
  · simp [e]
  · rw [if_neg e]
    have r := clg_range (h := h) (by (refine Nat.le_of_not_lt fun q_ => ?_; lia -abstractProof)) h2
    refine ⟨r.2.2.1, Nat.pow_le_pow_right (by decide) (by (refine Nat.le_of_not_lt fun q_ => ?_; lia -abstractProof)), .inr ⟨_, by (refine Nat.le_of_not_lt fun q_ => ?_; lia -abstractProof), rfl⟩⟩
structure MkR (h : Nat) (σ : MH) (t : Addr) (T T' : Tb) : Prop where
  aa : T'.aa = T.aa
  arr : T'.arr = T.arr
  n : T'.n = places h
  nd : ∀ i, i < T'.n → T'.nd i = nd0
  free : T'.free = T'.n
  ft : ∀ b, foot t T' b → b = t ∨ b = T.aa ∨ σ b = none
noncomputable def c_make_nodes_1 : Cd := .call (.ref cN) 0 <| .ret
noncomputable def c_make_nodes_2 : Cd := .lit (.int (1)) <| .ld 0 <| .fld "log_nodes" <| .bin .LShift <| .comp 1 1 [] (c_make_nodes_1) <| .ld 0 <| .stf "nodes" <| .ld 0 <| .fld "nodes" <| .call (.bi "len") 1 <| .ld 0 <| .stf "free" <| .fin
noncomputable def c_make_nodes_3 : Cd := .ld 1 <| .call (.ref 132) 1 <| .ld 0 <| .stf "log_nodes" <| .ld 0 <| .fld "log_nodes" <| .lit (.int (26)) <| .cmp .Gt <| .br (.raz) (c_make_nodes_2)
noncomputable def c_make_nodes_4 : Cd := .ld 0 <| .fld "nodes" <| .call (.bi "len") 1 <| .ld 0 <| .stf "free" <| .fin
noncomputable def c_make_nodes : Cd := .lst 0 <| .ld 0 <| .stf "nodes" <| .lit (.int (0)) <| .ld 0 <| .stf "log_nodes" <| .ld 1 <| .lit (.int (0)) <| .cmp .Gt <| .br (c_make_nodes_3) (c_make_nodes_4)
section
variable {ν : Nu} {σ : MH} {E : En}
theorem Pu.any (L : Law E.g) {t T T' x v} {KK : MH → Prop} (hT : TR σ t T) (hk : (["number", "mark", "size", "meta", "flags", "weak", "array", "nodes", "log_nodes", "free"] : List Str).contains x = true) (hs : setF T.fs x v = T'.fs)
    (e1 : T'.aa = T.aa) (e2 : T'.arr = T.arr) (e3 : T'.na = T.na) (e4 : T'.nds = T.nds) (e5 : T'.num = T.num) (h : ∀ σ', TR σ' t T' → Mv σ t T σ' T' → Ext1 σ t σ' → KK σ') : Pu E (sA x) [.ref t, v] KK σ :=
  have r := hT.setF (T' := T') e1 e2 e3 e4 e5
  Pu.fld hT.t (L.fT hk) (show _ ≤ 900 from Nat.le_of_ble_eq_true rfl) (by rw [hs]; exact h _ r.1 r.2 Ext1.put)
theorem make_nodes_ok {t T} {h : Nat} (hT : TR σ t T) (hh : h ≤ 2 ^ 20) : Fn 4 342 [.ref t, .int h] (fun r σ' => r = .none ∧ ∃ T', A4 (TR σ' t T') (Mv σ t T σ' T') (MkR h σ t T T') (Ext1 σ t σ')) σ := by
  refine Fn.go (ps := ["self", "hash_size"]) (rest := []) (code := c_make_nodes) (fun q_ => by kernel_rfl) (fun q_ => by kernel_rfl) (fun q_ => args2 fun q_ q_ => by kernel_rfl) (fun q_ => by kernel_rfl) rfl fun g L => ?_
  intro a ha
  have hT0 := (hT.new (o := .list []) ha).1
  have na : T.aa ≠ a := fun z => by have := hT.arr; rw [z, ha] at this; cases this
  have tr1 := hT0.setN (a := a) (nds' := []) (upd_same ..) (by simp) (by simp) na (by simp) (by decide)
  refine Pu.fld hT0.t (L.fT (by kernel_rfl)) (show _ ≤ 900 from Nat.le_of_ble_eq_true rfl) ?_
  rw [show setF T.fs "nodes" (.ref a) = Tb.fs { T with na := a, nds := [] } by kernel_rfl]
  have x1 := (Ext1.new (t := t) (o := O.list []) ha).trans (Ext1.put (o := .inst cT (Tb.fs { T with na := a, nds := [] })))
  generalize upd (upd σ a (.list [])) t (.inst cT (Tb.fs { T with na := a, nds := [] })) = σ1 at tr1 x1
  refine Pu.any L (T' := { T with na := a, nds := [], logn := .int 0 }) tr1 (by kernel_rfl) (by kernel_rfl) rfl rfl rfl rfl rfl fun σ2 tr2 q_ x2 => ?_
  have x2 := x1.trans x2
  have fin : ∀ {σ' T'}, TR σ' t T' → Ext1 σ t σ' → T'.num = T.num → T'.aa = T.aa → T'.arr = T.arr → T'.n = places h → (∀ i, i < T'.n → T'.nd i = nd0) → T'.free = T'.n → (∀ b, foot t T' b → b = t ∨ b = T.aa ∨ σ b = none) → ∃ T', A4 (TR σ' t T') (Mv σ t T σ' T') (MkR h σ t T T') (Ext1 σ t σ') := fun {σ' T'} h1 h2 h3 h4 h5 h6 h7 h8 h9 =>
    ⟨T', h1, ⟨fun b o e n => h2.keep b o e fun z => n (.inl z), fun b hb => (h9 b hb).elim (fun z => .inl (.inl z)) fun z => z.elim (fun z => .inl (.inr (.inl z))) .inr, h2.dom, h3⟩, ⟨h4, h5, h6, h7, h8, h9⟩, h2⟩
  refine brk2.dec (fun hp => ?_) fun hp => ?_
  · have hp : 0 < h := by (refine Nat.lt_of_not_le fun q_ => ?_; lia -abstractProof)
    have cr := clg_range (h := h) (by exact Nat.succ_le_of_lt (by assumption)) hh
    refine Pv.fn1 L ceil_log2_ok rfl (Pu.any L (T' := { T with na := a, nds := [], logn := .int (clg h) }) tr2 (by kernel_rfl) (by kernel_rfl) rfl rfl rfl rfl rfl fun σ3 tr3 q_ x3 => Pv.logn L tr3 rfl (brk2.dec (fun hq => absurd hq (by show ¬ 26 < clg h; lia -abstractProof)) fun hq => Pv.logn L tr3 rfl (Pv.shl cr.1 (by show clg h ≤ 1000000; (refine Int.not_lt.mp fun q_ => ?_; lia -abstractProof)) (by decide) ?_)))
    have x3 := x2.trans x3
    have e1 : (1 : Int) * 2 ^ (clg (h : Int)).toNat = ((places h : Nat) : Int) := by
      unfold places; rw [if_neg (by lia -abstractProof), Int.one_mul]; norm_cast
    have pl := places_le hh
    rw [e1]
    refine It.range1 _ (by rw [Int.natAbs_natCast]; exact Nat.lt_of_le_of_lt pl.2.1 (by decide)) ?_
    refine CmpL.mk (fun D k acc σ' => ∃ nds : List (Addr × Nd), A7 (acc = nds.map (fun p => V.ref p.1)) (nds.length = k) ((∀ p ∈ nds, p.2 = nd0 ∧ σ' p.1 = some (.inst cN nd0.fs) ∧ σ3 p.1 = none)) ((nds.map (·.1)).Nodup) (σ' D = some (.list acc)) ((∀ b o, σ3 b = some o → σ' b = some o)) (k ≤ places h))
      (fun D hD => ⟨[], rfl, rfl, by simp, by simp, upd_same .., fun c o e => (upd_ne _ _ fun z => by rw [z, hD] at e; cases e).trans e, Nat.zero_le _⟩)
      (fun D k acc σ' ⟨nds, e, hl, _, _, h5, _, hz⟩ => ⟨trivial, h5, by rw [e, List.length_map]; (refine Nat.le_of_not_lt fun q_ => ?_; lia -abstractProof)⟩) (fun D k v acc σ' hD hv ⟨nds, e, hl, q1, q2, q3, q4, hz⟩ => Pv.node L rfl fun b hb => ?_) ?_
    · subst e
      have hD' : D ≠ b := fun z => by rw [z, hb] at q3; cases q3
      have hbn : b ∉ nds.map (·.1) := fun z => by
        obtain ⟨p, hp, rfl⟩ := List.mem_map.mp z
        rw [(q1 p hp).2.1] at hb; cases hb
      have lt : k < places h := by
        rw [rng_get] at hv
        split at hv
        · simpa using ‹_›
        · cases hv
      refine ⟨(upd_ne _ _ hD').trans q3, nds ++ [(b, nd0)], by simp, by simp [hl], fun p hp => ?_, ?_, upd_same .., fun c o e => ?_, lt⟩
      · rcases List.mem_append.mp hp with hp | hp
        · obtain ⟨r1, r2, r3⟩ := q1 p hp
          have n1 : p.1 ≠ D := fun z => by rw [z, q3] at r2; cases r2
          have n2 : p.1 ≠ b := fun z => by rw [z, hb] at r2; cases r2
          exact ⟨r1, (upd_ne _ _ n1).trans ((upd_ne _ _ n2).trans r2), r3⟩
        · rw [List.mem_singleton.mp hp]
          refine ⟨rfl, (upd_ne _ _ (Ne.symm hD')).trans (upd_same ..), ?_⟩
          cases w : σ3 b with
          | none => rfl
          | some o => rw [q4 b o w] at hb; cases hb
      · rw [List.map_append, List.nodup_append]
        refine ⟨q2, by simp, fun x hx y hy z => ?_⟩
        have : y = b := by simpa using hy
        exact hbn (this ▸ z ▸ hx)
      · have n1 : c ≠ D := fun z => by rw [z, hD] at e; cases e
        have n2 : c ≠ b := fun z => by have := q4 c o e; rw [z, hb] at this; cases this
        exact (upd_ne _ _ n1).trans ((upd_ne _ _ n2).trans (q4 c o e))
    · rintro D acc σ4 hD ⟨nds, rfl, hl, q1, q2, q3, q4, hz⟩
      have hl : nds.length = places h := by rw [hl, rng_len]; simp
      have tr4 : TR σ4 t { T with na := a, nds := [], logn := .int (clg h) } := ⟨q4 _ _ tr3.t, q4 _ _ tr3.arr, q4 _ _ tr3.nl, by simp, by simp, tr3.ne, tr3.pa, by simp, tr3.sa, by simp⟩
      have nD : T.aa ≠ D := fun z => by have := tr3.arr; rw [show ({ T with na := a, nds := [], logn := .int (clg h) } : Tb).aa = D from z, hD] at this; cases this
      have x4 : Ext1 σ t σ4 := x3.trans ⟨fun b o e q_ => q4 b o e, fun b o e => ⟨o, q4 b o e⟩⟩
      have tr5 := tr4.setN (a := D) (nds' := nds) q3 (fun p hp => by rw [(q1 p hp).1]; exact (q1 p hp).2.1) q2 nD (fun p hp => by rw [(q1 p hp).1]; exact ⟨rfl, rfl⟩) (by (refine Nat.le_of_not_lt fun q_ => ?_; lia -abstractProof))
      refine Pu.fld tr4.t (L.fT (by kernel_rfl)) (show _ ≤ 900 from Nat.le_of_ble_eq_true rfl) ?_
      rw [show setF (Tb.fs { T with na := a, nds := [], logn := .int (clg h) }) "nodes" (.ref D) = Tb.fs { T with na := D, nds := nds, logn := .int (clg h) } by kernel_rfl]
      have x5 := x4.trans (Ext1.put (o := .inst cT (Tb.fs { T with na := D, nds := nds, logn := .int (clg h) })))
      have tr5 : TR (upd σ4 t (.inst cT (Tb.fs { T with na := D, nds := nds, logn := .int (clg h) }))) t { T with na := D, nds := nds, logn := .int (clg h) } := tr5
      generalize upd σ4 t (.inst cT (Tb.fs { T with na := D, nds := nds, logn := .int (clg h) })) = σ5 at tr5 x5
      refine Pv.nodes L tr5 (Pv.lenN tr5 (Pu.any L (T' := { T with na := D, nds := nds, logn := .int (clg h), free := (nds.length : Int) }) tr5 (by kernel_rfl) (by kernel_rfl) rfl rfl rfl rfl rfl fun σ6 tr6 q_ x6 => ?_))
      have x6 := x5.trans x6
      refine ⟨rfl, fin tr6 x6 rfl rfl rfl hl (fun i hi => ?_) rfl (fun b hb => ?_)⟩
      · obtain ⟨ad, hq⟩ := Tb.nd_get hi
        exact (q1 _ (List.mem_of_getElem? hq)).1
      · rcases hb with hb | hb | hb | hb
        · exact .inl hb
        · exact .inr (.inl hb)
        · right; right
          have hb : b = D := hb
          rw [hb]; exact x3.none_of hD
        · obtain ⟨p, hp, rfl⟩ := List.mem_map.mp hb
          exact .inr (.inr (x3.none_of (q1 p hp).2.2))
  · have hp : h = 0 := by lia -abstractProof
    subst hp
    refine Pv.nodes L tr2 (Pv.lenN tr2 (Pu.any L (T' := { T with na := a, nds := [], logn := .int 0, free := 0 }) tr2 (by kernel_rfl) (by kernel_rfl) rfl rfl rfl rfl rfl fun σ3 tr3 q_ x3 => ?_))
    have x3 := x2.trans x3
    refine ⟨rfl, fin tr3 x3 rfl rfl rfl rfl (fun i hi => absurd hi (Nat.not_lt_zero _)) rfl (fun b hb => ?_)⟩
    rcases hb with hb | hb | hb | hb
    · exact .inl hb
    · exact .inr (.inl hb)
    · have hb : b = a := hb
      exact .inr (.inr (hb ▸ ha))
    · cases hb
end
noncomputable def CntAt (σ : MH) (c : Addr) (F : Nat → Nat) : Prop := σ c = some (.list ((List.range 27).map fun j => V.int (F j : Nat)))
noncomputable def bkOf : Tag → Option Nat
  | .int x => if 1 ≤ x ∧ x ≤ 2 ^ 26 then some (clg x).toNat else none
  | _ => none
theorem clg_big {x : Int} (h1 : 1 ≤ x) (h2 : x ≤ 2 ^ 26) : 0 ≤ clg x ∧ clg x ≤ 26 := by
  unfold clg lg
  split
  · have l2 : (x - 1).toNat.log2 < 26 := (Nat.log2_lt (by omega)).mpr (by omega)
    exact ⟨Int.natCast_nonneg (_ + 1), Int.ofNat_le.mpr l2⟩
  · exact ⟨by decide, by decide⟩
theorem clg_eq {x : Nat} {k : Nat} (h1 : 1 ≤ x) (h2 : x ≤ 2 ^ k) (h3 : k = 0 ∨ 2 ^ (k - 1) < x) : clg (x : Nat) = k := by
  unfold clg lg
  obtain ⟨y, rfl⟩ : ∃ y, x = y + 1 := ⟨x - 1, (Nat.sub_add_cancel h1).symm⟩
  rw [show (((y + 1 : Nat) : Int) - 1) = y from Int.add_sub_cancel (y : Int) 1, Int.toNat_natCast]
  cases k with
  | zero => rw [Nat.eq_zero_of_le_zero (Nat.le_of_succ_le_succ h2)]; rfl
  | succ q =>
    have h3 : 2 ^ q ≤ y := Nat.le_of_lt_succ (h3.resolve_left (Nat.succ_ne_zero q))
    have hy : 0 < y := Nat.lt_of_lt_of_le (Nat.pow_pos (by decide)) h3
    rw [if_pos (Int.natCast_pos.mpr hy), (Nat.log2_eq_iff (Nat.ne_of_gt hy)).mpr ⟨h3, h2⟩]; rfl
set_option tactic.hygienic true in
theorem bk_lt {t j} (h : bkOf t = some j) : j < 27 := by
  unfold bkOf at h
  split at h
  · split at h
    · rename_i x hx
      have := clg_big hx.1 hx.2
      have : (clg x).toNat = j := Option.some.inj h
      omega
    · cases h
  · cases h
theorem set_range (F : Nat → Nat) (k v : Nat) : (((List.range 27).map fun j => V.int (F j : Nat)).set k (.int (v : Nat))) = (List.range 27).map fun j => V.int ((if j = k then v else F j : Nat) : Nat) := by
  apply List.ext_getElem?
  intro i
  rw [List.getElem?_set, List.getElem?_map, List.getElem?_map]
  simp only [List.length_map, List.length_range]
  by_cases hi : i < 27
  · rw [List.getElem?_range hi]
    by_cases e : k = i
    · subst e; simp [hi]
    · simp [e, Ne.symm e]
  · have : (List.range 27)[i]? = none := by simp; exact Nat.le_of_not_lt (by assumption)
    rw [this]
    split <;> simp; (refine Nat.le_of_not_lt fun q_ => ?_; lia -abstractProof)
noncomputable def c_count_key_1 : Cd := .ld 1 <| .ld 2 <| .call (.ref 132) 1 <| .dup 2 <| .ix <| .lit (.int (1)) <| .inp .Add <| .stxr <| .lit (.int (1)) <| .ret
noncomputable def c_count_key_2 : Cd := .lit (.int (0)) <| .ret
noncomputable def c_count_key_3 : Cd := .lit (.int (67108864)) <| .cmp .LtE <| .br (c_count_key_1) (c_count_key_2)
noncomputable def c_count_key : Cd := .ld 0 <| .call (.ref 188) 1 <| .st 2 <| .lit (.int (0)) <| .ld 2 <| .chn .Lt (c_count_key_3) (c_count_key_2)
section
variable {ν : Nu} {σ : MH} {E : En}
theorem Pg.cget {c F} {k : Int} {K : V → MH → Prop} (hc : CntAt σ c F) (h0 : 0 ≤ k) (hk : k < 27) (h : K (.int (F k.toNat : Nat)) σ) : Pg E (.ref c) (.int k) K σ := by
  refine Pg.lst (.inl hc) h0 (by (refine Int.lt_of_not_ge fun q_ => ?_; lia -abstractProof)) ?_ h
  have hk' : k.toNat < 27 := by (refine Nat.lt_of_not_le fun q_ => ?_; lia -abstractProof)
  rw [List.getElem?_map, List.getElem?_range hk']; rfl
theorem Pu.cset {c F} {k : Int} {v : Nat} {KK : MH → Prop} (hc : CntAt σ c F) (h0 : 0 ≤ k) (hk : k < 27) (h : ∀ σ', CntAt σ' c (fun j => if j = k.toNat then v else F j) → (∀ b, b ≠ c → σ' b = σ b) → KK σ') : Pu E (u3 setItem) [.ref c, .int k, .int (v : Nat)] KK σ := by
  refine Pu.lst hc h0 (by simp; omega) (by simp) (h _ ?_ fun b hb => upd_ne _ _ hb)
  unfold CntAt
  rw [set_range]; exact upd_same ..
theorem count_key_ok {c F v} (k : Knows σ ν) (hc : CntAt σ c F) (hv : AnyV ν v) : Fn 4 202 [v, .ref c] (fun r σ' => r = .int (if (bkOf (tag ν v)).isSome = true then 1 else 0) ∧ CntAt σ' c (fun j => F j + if bkOf (tag ν v) = some j then 1 else 0) ∧ ∀ b, b ≠ c → σ' b = σ b) σ := by
  refine Fn.go (ps := ["key", "counts"]) (rest := ["at"]) (code := c_count_key) (fun q_ => by kernel_rfl) (fun q_ => by kernel_rfl) (fun q_ => args2 fun q_ q_ => by kernel_rfl) (fun q_ => by kernel_rfl) rfl fun g L => ?_
  have no : ¬ (1 ≤ aidx v ∧ aidx v ≤ 67108864) → retC (fun r σ' => r = .int (if (bkOf (tag ν v)).isSome = true then 1 else 0) ∧ CntAt σ' c (fun j => F j + if bkOf (tag ν v) = some j then 1 else 0) ∧ ∀ b, b ≠ c → σ' b = σ b) (.ret (.int 0)) [] σ := fun hr => by
    have e : bkOf (tag ν v) = none := by
      cases hv with
      | int i => exact if_neg hr
      | ref a r h => rw [tag_ref h]; rfl
      | _ => rfl
    rw [e]
    exact ⟨rfl, by simpa using hc, fun q_ q_ => rfl⟩
  refine Pv.fn1 L (array_index_ok k hv) rfl (brk2.dec (fun hp => brk2.dec (fun hq => ?_) fun hq => no fun z => hq z.2) fun hp => no fun z => hp (by (refine Int.lt_of_not_ge fun q_ => ?_; lia -abstractProof)))
  have hb : bkOf (tag ν v) = some (clg (aidx v)).toNat := by
    have hr : 1 ≤ aidx v ∧ aidx v ≤ 2 ^ 26 := ⟨by (refine Int.not_lt.mp fun q_ => ?_; lia -abstractProof), by (refine Int.not_lt.mp fun q_ => ?_; lia -abstractProof)⟩
    cases v with
    | int i => exact if_pos hr
    | _ => exact absurd hr.1 (show ¬ (1 : Int) ≤ -1 by decide)
  have cr := clg_big (x := aidx v) (by (refine Int.not_lt.mp fun q_ => ?_; lia -abstractProof)) (by (refine Int.not_lt.mp fun q_ => ?_; lia -abstractProof))
  rw [hb]
  refine Pv.fn1 L ceil_log2_ok rfl (Pg.cget hc cr.1 (by (refine Int.lt_of_not_ge fun q_ => ?_; lia -abstractProof)) (Pu.cset (v := F (clg (aidx v)).toNat + 1) hc cr.1 (by (refine Int.lt_of_not_ge fun q_ => ?_; lia -abstractProof)) fun σ1 hc1 hs => ⟨rfl, ?_, hs⟩))
  have e : (fun j => if j = (clg (aidx v)).toNat then F (clg (aidx v)).toNat + 1 else F j) = fun j => F j + if some (clg (aidx v)).toNat = some j then 1 else 0 := by
    funext j
    by_cases z : j = (clg (aidx v)).toNat
    · rw [if_pos z, if_pos (by rw [z]), z]
    · rw [if_neg z, if_neg (fun w => z (Option.some.inj w).symm)]; rfl
  rw [← e]; exact hc1
end
theorem bkOf_int (x : Int) : bkOf (.int x) = if 1 ≤ x ∧ x ≤ 2 ^ 26 then some (clg x).toNat else none := rfl
theorem cnt_seg {p q : Nat → Bool} {a b : Nat} (hab : a ≤ b) (h : ∀ i, a ≤ i → i < b → p i = q i) : cnt b p + cnt a q = cnt a p + cnt b q := by
  induction hab with
  | refl => rfl
  | @step b hab ih => rw [cnt_succ, cnt_succ, h b hab (Nat.lt_succ_self b), Nat.add_right_comm, ih fun i h1 h2 => h i h1 (Nat.lt_succ_of_lt h2), Nat.add_assoc]
noncomputable def arrB (T : Tb) (j i : Nat) : Bool := arrL T i && (bkOf (.int ((i : Nat) + 1 : Int)) == some j)
noncomputable def ndB (ν : Nu) (T : Tb) (j i : Nat) : Bool := ndL T i && (bkOf (tag ν (T.nd i).key) == some j)
noncomputable def ndW (ν : Nu) (T : Tb) (i : Nat) : Bool := ndL T i && (bkOf (tag ν (T.nd i).key)).isSome
noncomputable def mk_ (T : Tb) (k : Nat) : Nat := if k = 0 then 0 else min (2 ^ (k - 1)) T.arr.length
theorem bk_seg {T : Tb} {k i : Nat} (h1 : mk_ T k ≤ i) (h2 : i < min (2 ^ k) T.arr.length) (hs : T.arr.length ≤ 2 ^ 22) (hk : k < 27) : bkOf (.int ((i : Nat) + 1 : Int)) = some k := by
  obtain ⟨l1, l2⟩ := Nat.lt_min.mp h2
  have h3 : k = 0 ∨ 2 ^ (k - 1) < i + 1 := by
    cases k with
    | zero => exact .inl rfl
    | succ k =>
      have h1 : min (2 ^ k) T.arr.length ≤ i := h1
      rcases Nat.le_total (2 ^ k) T.arr.length with l | l
      · rw [Nat.min_eq_left l] at h1; exact .inr (Nat.lt_succ_of_le h1)
      · rw [Nat.min_eq_right l] at h1; exact absurd h1 (Nat.not_le.mpr l2)
  have := clg_eq (x := i + 1) (k := k) (Nat.succ_pos i) l1 h3
  rw [bkOf_int, if_pos ⟨Int.le_add_of_nonneg_left (Int.natCast_nonneg i), Int.ofNat_le.mpr (Nat.le_trans (Nat.lt_of_lt_of_le l2 hs) (by decide : 2 ^ 22 ≤ 2 ^ 26))⟩]
  show some (clg ((i + 1 : Nat) : Int)).toNat = _
  rw [this]; rfl
noncomputable def c_count_array_1 : Cd := .ld 7 <| .lit (.int (1)) <| .inp .Add <| .st 7 <| .ld 3 <| .lit (.int (1)) <| .inp .Add <| .st 3 <| .fin
noncomputable def c_count_array_2 : Cd := .ld 3 <| .lit (.int (1)) <| .inp .Add <| .st 3 <| .fin
noncomputable def c_count_array_3 : Cd := .ld 0 <| .fld "array" <| .ld 3 <| .lit (.int (1)) <| .bin .Sub <| .ix <| .isn false <| .br (c_count_array_1) (c_count_array_2)
noncomputable def c_count_array_4 : Cd := .ld 3 <| .ld 6 <| .cmp .LtE <| .br (c_count_array_3) (.brk)
noncomputable def c_count_array_5 : Cd := .ld 1 <| .ld 5 <| .dup 2 <| .ix <| .ld 7 <| .inp .Add <| .stxr <| .ld 2 <| .ld 7 <| .inp .Add <| .st 2 <| .ld 4 <| .lit (.int (2)) <| .inp .Mult <| .st 4 <| .fin
noncomputable def c_count_array_6 : Cd := .lit (.int (0)) <| .st 7 <| .whl (c_count_array_4) (c_count_array_5)
noncomputable def c_count_array_7 : Cd := .st 5 <| .ld 4 <| .ld 0 <| .fld "array" <| .call (.bi "len") 1 <| .call (.bi "min") 2 <| .st 6 <| .ld 3 <| .ld 6 <| .cmp .Gt <| .br (.brk) (c_count_array_6)
noncomputable def c_count_array : Cd := .lit (.int (0)) <| .st 2 <| .lit (.int (1)) <| .st 3 <| .lit (.int (1)) <| .st 4 <| .lit (.int (26)) <| .lit (.int (1)) <| .bin .Add <| .forl 1 1 (c_count_array_7) (.ld 2 <| .ret)
section
variable {ν : Nu} {σ : MH}
theorem arrL_at {T : Tb} {i : Nat} {v : V} (h : T.arr[i]? = some v) : arrL T i = !isNone v := by
  unfold arrL; rw [List.getD_eq_getElem?_getD, h]; rfl
theorem cnt_no : ∀ n, cnt n (fun q_ => false) = 0
  | 0 => rfl
  | n + 1 => by rw [cnt_succ, cnt_no n]; rfl
theorem cnt_z {n : Nat} {p : Nat → Bool} (h : ∀ i, i < n → p i = false) : cnt n p = 0 := (cnt_congr h).trans (cnt_no n)
theorem mk_end {T : Tb} {k : Nat} (h : mk_ T k = min (2 ^ k) T.arr.length) : mk_ T k = T.arr.length := by
  by_cases l : T.arr.length ≤ 2 ^ k
  · rw [h, Nat.min_eq_right l]
  · have l := Nat.lt_of_not_le l
    rw [Nat.min_eq_left (Nat.le_of_lt l)] at h
    cases k with
    | zero => cases h
    | succ k => exact absurd (Nat.le_trans (Nat.le_of_eq h.symm) (Nat.min_le_left (2 ^ k) _)) (Nat.not_le.mpr (Nat.pow_lt_pow_right (a := 2) (by decide) (Nat.lt_succ_self k)))
theorem arrB_step {T : Tb} {k i here : Nat} (hk27 : k < 27) (hs : T.arr.length ≤ 2 ^ 22) (hm : min (2 ^ k) T.arr.length = i) (b9 : mk_ T k ≤ i) (b11 : here + cnt (mk_ T k) (arrL T) = cnt i (arrL T)) :
    (fun j => if j = (k : Int).toNat then cnt (mk_ T k) (arrB T k) + here else cnt (mk_ T k) (arrB T j)) = fun j => cnt i (arrB T j) := by
  funext j
  by_cases z : j = k
  · subst z
    rw [if_pos (Int.toNat_natCast j).symm]
    have := cnt_seg (p := arrB T j) (q := arrL T) b9 fun i' h1' h2' => by
      unfold arrB; rw [bk_seg h1' (by rw [hm]; exact h2') hs hk27]; simp
    exact Nat.add_right_cancel (by rw [Nat.add_assoc, b11]; exact this.symm)
  · rw [if_neg (by rw [Int.toNat_natCast]; exact z)]
    have := cnt_seg (p := arrB T j) (q := fun q_ => false) b9 fun i' h1' h2' => by
      unfold arrB; rw [bk_seg h1' (by rw [hm]; exact h2') hs hk27]
      rw [show (some k == some j) = false from beq_eq_false_iff_ne.mpr fun w => z (Option.some.inj w).symm, Bool.and_false]
    rw [cnt_no, cnt_no] at this; exact this.symm
structure Away (σ : MH) (T : Tb) (c : Addr) : Prop where
  inst : ∀ fs C, σ c ≠ some (.inst C fs)
  aa : c ≠ T.aa
  na : c ≠ T.na
theorem Away.tr {t T c σ'} (A : Away σ T c) (hT : TR σ t T) (h : ∀ b, b ≠ c → σ' b = σ b) : TR σ' t T :=
  ⟨(h _ fun z => A.inst _ _ (z ▸ hT.t)).trans hT.t, (h _ (Ne.symm A.aa)).trans hT.arr, (h _ (Ne.symm A.na)).trans hT.nl, fun p hp => (h _ fun z => A.inst _ _ (z ▸ hT.nd p hp)).trans (hT.nd p hp), hT.nodup, hT.ne, hT.pa, hT.pn, hT.sa, hT.sn⟩
set_option tactic.hygienic true in
theorem count_array_ok {t T c} (hT : TR σ t T) (hs : T.arr.length ≤ 2 ^ 22) (hc : CntAt σ c fun _ => 0) (A : Away σ T c) : Fn 3 308 [.ref t, .ref c] (fun r σ' => r = .int (cnt T.arr.length (arrL T) : Nat) ∧ CntAt σ' c (fun j => cnt T.arr.length (arrB T j)) ∧ ∀ b, b ≠ c → σ' b = σ b) σ := by
  refine Fn.go (ps := ["self", "counts"]) (rest := ["total", "at", "limit", "step", "last", "here"]) (code := c_count_array) (fun _ => by kernel_rfl) (fun _ => by kernel_rfl) (fun _ => args2 fun _ _ => by kernel_rfl) (fun _ => by kernel_rfl) rfl fun g L => ?_
  refine It.range1 _ (by decide) (ForL.mk (fun k ls σ1 => X3 fun x y z => A3 (ls = [some (.ref t), some (.ref c), some (.int (cnt (mk_ T k) (arrL T) : Nat)), some (.int ((mk_ T k : Nat) + 1)), some (.int ((2 ^ k : Nat) : Int)), x, y, z]) ((∀ b, b ≠ c → σ1 b = σ b)) (CntAt σ1 c (fun j => cnt (mk_ T k) (arrB T j))))
    ⟨_, _, _, rfl, fun _ _ => rfl, hc⟩ (fun _ _ _ _ => trivial) ?_ ?_)
  · rintro k x ls σ2 hx ⟨x5, x6, x7, rfl, a3, a8⟩
    rw [rng_get] at hx
    split at hx
    rotate_left
    · cases hx
    rename_i hk27
    have hk27 : k < 27 := by simpa using hk27
    rw [Int.zero_add] at hx
    cases hx
    have hT2 := A.tr hT a3
    have hlast : (if (T.arr.length : Int) < ((2 ^ k : Nat) : Int) then (T.arr.length : Int) else ((2 ^ k : Nat) : Int)) = ((min (2 ^ k) T.arr.length : Nat) : Int) := by
      split
      · rename_i h; rw [Nat.min_eq_right (Nat.le_of_lt (Int.ofNat_lt.mp h))]
      · rename_i h; rw [Nat.min_eq_left (Nat.le_of_not_lt fun z => h (Int.ofNat_lt.mpr z))]
    have mk1 : mk_ T (k + 1) = min (2 ^ k) T.arr.length := by unfold mk_; rw [if_neg (Nat.succ_ne_zero k), Nat.add_sub_cancel]
    have mkle : mk_ T k ≤ min (2 ^ k) T.arr.length := by
      unfold mk_
      split
      · exact Nat.zero_le _
      · exact Nat.le_min.mpr ⟨Nat.le_trans (Nat.min_le_left ..) (Nat.pow_le_pow_right (by decide) (Nat.sub_le ..)), Nat.min_le_right ..⟩
    refine Pv.array L hT2 (Pv.lenA hT2 (Pv.min2 ?_))
    rw [hlast]
    generalize hm : min (2 ^ k) T.arr.length = m at *
    refine brk2.dec (fun hp => ?_) fun hp => ?_
    · have e : mk_ T k = T.arr.length := mk_end ((Nat.le_antisymm mkle (Int.ofNat_le.mp (Int.le_of_lt_add_one hp))).trans hm.symm)
      rw [← e]
      exact ⟨rfl, a8, a3⟩
    · refine Whl.mk (fun q ls σ3 => σ3 = σ2 ∧ X2 fun (i here : Nat) => ls = [some (.ref t), some (.ref c), some (.int (cnt (mk_ T k) (arrL T) : Nat)), some (.int ((i : Nat) + 1)), some (.int ((2 ^ k : Nat) : Int)), some (.int (k : Nat)), some (.int (m : Nat)), some (.int (here : Nat))] ∧
          mk_ T k ≤ i ∧ i ≤ m ∧ here + cnt (mk_ T k) (arrL T) = cnt i (arrL T) ∧ q = m - i) _ ⟨rfl, mk_ T k, 0, rfl, Nat.le_refl _, mkle, Nat.zero_add _, rfl⟩ ?_
      rintro q ls σ3 ⟨rfl, i, here, rfl, b9, b10, b11, rfl⟩
      refine brk2.dec (fun hq => ?_) fun hq => ?_
      · have lt : i < m := Int.ofNat_lt.mp hq
        obtain ⟨v, hv⟩ : ∃ v, T.arr[i]? = some v := ⟨_, List.getElem?_eq_getElem (Nat.lt_of_lt_of_le lt (hm ▸ Nat.min_le_right ..))⟩
        have hvp := hT.pa v (List.mem_of_getElem? hv)
        have e1 : ((i : Int) + 1 - 1).toNat = i := sucN i
        have hL := arrL_at hv
        refine Pv.array L hT2 (Pg.arr hT2 (Int.sub_nonneg_of_le (Int.le_add_of_nonneg_left (Int.natCast_nonneg i))) (by rw [e1]; exact hv) ⟨hvp, brk2.bool (fun e => ?_) fun e => ?_⟩)
        · exact ⟨m - (i + 1), Nat.sub_lt_sub_left lt (Nat.lt_succ_self i), rfl, i + 1, here + 1, rfl, Nat.le_succ_of_le b9, lt, by rw [cnt_succ, hL, show (!isNone v) = true from e, if_pos rfl]; exact (Nat.succ_add here _).trans (congrArg Nat.succ b11), rfl⟩
        · exact ⟨m - (i + 1), Nat.sub_lt_sub_left lt (Nat.lt_succ_self i), rfl, i + 1, here, rfl, Nat.le_succ_of_le b9, lt, by rw [cnt_succ, hL, show (!isNone v) = false from e, if_neg Bool.false_ne_true]; exact b11, rfl⟩
      · have hi : i = m := Nat.le_antisymm b10 (Nat.le_of_not_lt fun z => hq (Int.ofNat_lt.mpr z))
        have k27 : (k : Int) < 27 := Int.ofNat_lt.mpr hk27
        subst hi
        refine Pg.cget a8 (Int.natCast_nonneg k) k27 ?_
        have ec : ((cnt (mk_ T k) (arrB T (k : Int).toNat) : Nat) : Int) + (here : Int) = ((cnt (mk_ T k) (arrB T k) + here : Nat) : Int) := by rw [Int.toNat_natCast]; rfl
        show Pu _ _ [_, _, .int (((cnt (mk_ T k) (arrB T (k : Int).toNat) : Nat) : Int) + (here : Int))] _ _
        rw [ec]
        refine Pu.cset (v := cnt (mk_ T k) (arrB T k) + here) a8 (Int.natCast_nonneg k) k27 fun σ4 hc4 hs4 => Pv.imul (IntMulOk.of_right (by decide +kernel)) ⟨some (.int (k : Nat)), some (.int (i : Nat)), some (.int (here : Nat)), ?_, fun b hb => (hs4 b hb).trans (a3 b hb), ?_⟩
        · rw [mk1, show ((2 ^ (k + 1) : Nat) : Int) = ((2 ^ k : Nat) : Int) * 2 from Int.natCast_mul .., show ((cnt i (arrL T) : Nat) : Int) = ((cnt (mk_ T k) (arrL T) : Nat) : Int) + (here : Int) by rw [← b11, Nat.add_comm]; rfl]; rfl
        · rw [mk1, ← arrB_step hk27 hs hm b9 b11]; exact hc4
  · rintro ls σ2 ⟨x5, x6, x7, rfl, a3, a8⟩
    have e : mk_ T (rng 0 (26 + 1 : Int).toNat).length = T.arr.length := by
      rw [rng_len]
      show mk_ T 27 = _
      unfold mk_
      rw [if_neg (by decide)]
      exact Nat.min_eq_right (Nat.le_trans hs (by decide))
    have e : mk_ T (rng 0 (Int.add 26 1).toNat).length = T.arr.length := e
    rw [← e]
    exact ⟨rfl, a8, a3⟩
end
theorem Away.kn {σ σ' ν T c} (A : Away σ T c) (K : Knows σ ν) (h : ∀ b, b ≠ c → σ' b = σ b) : Knows σ' ν := ⟨fun a r e => by
  obtain ⟨h1, fs, h2, h3⟩ := K.at_ a r e
  exact ⟨h1, fs, (h a fun z => A.inst _ _ (z ▸ h2)).trans h2, h3⟩⟩
theorem Away.of {σ T c F} (hc : CntAt σ c F) (ha : c ≠ T.aa) (hn : c ≠ T.na) : Away σ T c := ⟨fun fs C z => (by rw [hc] at z; cases z), ha, hn⟩
noncomputable def Sm (F : Nat → Nat) : Nat → Nat
  | 0 => 0
  | k + 1 => Sm F k + F k
structure SzR (F : Nat → Nat) (size used : Nat) : Prop where
  or : (size = 0 ∧ used = 0) ∨ ∃ s, A4 (s ≤ 26) (size = 2 ^ s) (used = Sm F (s + 1)) (size < 2 * used)
noncomputable def c_count_nodes_1 : Cd := .ld 3 <| .ld 4 <| .fld "key" <| .ld 1 <| .call (.ref 202) 2 <| .inp .Add <| .st 3 <| .ld 2 <| .lit (.int (1)) <| .inp .Add <| .st 2 <| .fin
noncomputable def c_count_nodes_2 : Cd := .st 4 <| .ld 4 <| .fld "value" <| .isn false <| .br (c_count_nodes_1) (.fin)
noncomputable def c_count_nodes_3 : Cd := .ld 2 <| .ld 3 <| .tup 2 <| .ret
noncomputable def c_count_nodes : Cd := .lit (.int (0)) <| .st 2 <| .lit (.int (0)) <| .st 3 <| .ld 0 <| .fld "nodes" <| .forl 0 1 (c_count_nodes_2) (c_count_nodes_3)
noncomputable def c_compute_sizes_1 : Cd := .ld 5 <| .lit (.int (2)) <| .inp .Mult <| .st 5 <| .fin
noncomputable def c_compute_sizes_2 : Cd := .ld 5 <| .st 4 <| .ld 2 <| .st 3 <| .ld 2 <| .ld 1 <| .cmp .Eq <| .br (.brk) (c_compute_sizes_1)
noncomputable def c_compute_sizes_3 : Cd := .ld 2 <| .ld 1 <| .cmp .Eq <| .br (.brk) (c_compute_sizes_1)
noncomputable def c_compute_sizes_4 : Cd := .ld 2 <| .ld 6 <| .inp .Add <| .st 2 <| .ld 2 <| .ld 5 <| .lit (.int (2)) <| .bin .FloorDiv <| .cmp .Gt <| .br (c_compute_sizes_2) (c_compute_sizes_3)
noncomputable def c_compute_sizes_5 : Cd := .ld 6 <| .lit (.int (0)) <| .cmp .Gt <| .br (c_compute_sizes_4) (c_compute_sizes_3)
noncomputable def c_compute_sizes_6 : Cd := .st 6 <| .ld 5 <| .lit (.int (2)) <| .bin .FloorDiv <| .ld 1 <| .cmp .GtE <| .br (.brk) (c_compute_sizes_5)
noncomputable def c_compute_sizes_7 : Cd := .ld 4 <| .ld 3 <| .tup 2 <| .ret
noncomputable def c_compute_sizes : Cd := .lit (.int (0)) <| .st 2 <| .lit (.int (0)) <| .st 3 <| .lit (.int (0)) <| .st 4 <| .lit (.int (1)) <| .st 5 <| .ld 0 <| .forl 0 1 (c_compute_sizes_6) (c_compute_sizes_7)
section
variable {ν : Nu} {σ : MH}
theorem count_nodes_ok {t T c F} (K : Knows σ ν) (hT : TR σ t T) (hk : ∀ i, i < T.n → AnyV ν (T.nd i).key) (hc : CntAt σ c F) (hca : c ≠ T.aa) (hcn : c ≠ T.na) :
    Fn 5 315 [.ref t, .ref c] (fun r σ' => r = .tup [.int (cnt T.n (ndL T) : Nat), .int (cnt T.n (ndW ν T) : Nat)] ∧ CntAt σ' c (fun j => F j + cnt T.n (ndB ν T j)) ∧ ∀ b, b ≠ c → σ' b = σ b) σ := by
  refine Fn.go (ps := ["self", "counts"]) (rest := ["total", "whole", "node"]) (code := c_count_nodes) (fun q_ => by kernel_rfl) (fun q_ => by kernel_rfl) (fun q_ => args2 fun q_ q_ => by kernel_rfl) (fun q_ => by kernel_rfl) rfl fun g L => ?_
  have A := Away.of hc hca hcn
  refine Pv.nodes L hT (It.val _ _ _ (.list T.na _ (.inl hT.nl)) (ForL.mk (fun k ls σ1 => ∃ x, A3 (ls = [some (.ref t), some (.ref c), some (.int (cnt k (ndL T) : Nat)), some (.int (cnt k (ndW ν T) : Nat)), x]) ((∀ b, b ≠ c → σ1 b = σ b)) (CntAt σ1 c (fun j => F j + cnt k (ndB ν T j))))
    ⟨_, rfl, fun q_ q_ => rfl, hc⟩ (fun k ls σ2 ⟨_, _, a3, _⟩ => .inl ((a3 _ (Ne.symm hcn)).trans hT.nl)) ?_ ?_))
  · rintro k x ls σ2 hx ⟨x4, rfl, a3, a6⟩
    have hT2 := A.tr hT a3
    rw [List.getElem?_map] at hx
    obtain ⟨⟨ad, nd⟩, hp, e⟩ := Option.map_eq_some_iff.mp hx
    subst e
    have lt : k < T.n := (List.getElem?_eq_some_iff.mp hp).1
    have hnd : T.nd k = nd := Tb.nd_of hp
    subst hnd
    refine Pv.value L hT2 hp ⟨(hT.pn _ (List.mem_of_getElem? hp)).2, brk2.bool (fun e => ?_) fun e => ?_⟩
    · have eL : ndL T k = true := e
      refine Pv.key L hT2 hp (Pv.fn L (count_key_ok (A.kn K a3) a6 (hk k lt)) rfl ?_)
      rintro r σ3 ⟨rfl, hc3, hs3⟩
      have e2 : (((cnt k (ndW ν T) : Nat) : Int) + if (bkOf (tag ν (T.nd k).key)).isSome = true then 1 else 0) = ((cnt (k + 1) (ndW ν T) : Nat) : Int) := by
        rw [cnt_succ]; unfold ndW; rw [eL]; simp only [Bool.true_and]; split <;> rfl
      have e1 : ((cnt k (ndL T) : Nat) : Int) + 1 = ((cnt (k + 1) (ndL T) : Nat) : Int) := by rw [cnt_succ, eL]; simp
      have e3 : (fun j => F j + cnt k (ndB ν T j) + if bkOf (tag ν (T.nd k).key) = some j then 1 else 0) = fun j => F j + cnt (k + 1) (ndB ν T j) := by
        funext j
        rw [cnt_succ]; unfold ndB; rw [eL]; simp only [Bool.true_and, beq_iff_eq]; exact Nat.add_assoc ..
      exact ⟨some (.ref ad), by rw [← e1, ← e2]; rfl, fun b hb => (hs3 b hb).trans (a3 b hb), by rw [← e3]; exact hc3⟩
    · have eL : ndL T k = false := e
      refine ⟨some (.ref ad), ?_, a3, ?_⟩
      · rw [cnt_succ, cnt_succ, eL, show ndW ν T k = false by unfold ndW; rw [eL]; rfl]; rfl
      · have e3 : (fun j => F j + cnt k (ndB ν T j)) = fun j => F j + cnt (k + 1) (ndB ν T j) := by
          funext j
          rw [cnt_succ, show ndB ν T j k = false by unfold ndB; rw [eL]; rfl]; simp
        rw [← e3]; exact a6
  · rintro ls σ2 ⟨x4, rfl, a3, a6⟩
    have e : (T.nds.map fun p => V.ref p.1).length = T.n := List.length_map ..
    rw [e] at a6 ⊢
    exact ⟨rfl, a6, a3⟩
end
section
variable {σ : MH}
theorem compute_sizes_ok {c F} (hc : CntAt σ c F) : Fn 1 195 [.ref c, .int (Sm F 27 : Nat)] (fun r σ' => (X2 fun (size used : Nat) => r = .tup [.int size, .int used] ∧ SzR F size used) ∧ σ' = σ) σ := by
  refine Fn.go (ps := ["counts", "wanted"]) (rest := ["gathered", "used", "size", "power", "count"]) (code := c_compute_sizes) (fun q_ => by kernel_rfl) (fun q_ => by kernel_rfl) (fun q_ => args2 fun q_ q_ => by kernel_rfl) (fun q_ => by kernel_rfl) rfl fun g L => ?_
  refine It.val _ _ _ (.list c _ (.inl hc)) (ForL.mk (fun k ls σ1 => σ1 = σ ∧ X2 fun (size used : Nat) => ∃ x, ls = [some (.ref c), some (.int (Sm F 27 : Nat)), some (.int (Sm F k : Nat)), some (.int used), some (.int size), some (.int (2 ^ k : Nat)), x] ∧ SzR F size used)
    ⟨rfl, 0, 0, _, rfl, ⟨.inl ⟨rfl, rfl⟩⟩⟩ (fun k ls σ2 ⟨e, _⟩ => e ▸ .inl hc) ?_ ?_)
  · rintro k x ls σ2 hx ⟨rfl, size, used, x6, rfl, a7⟩
    have hk : k < 27 := by have := (List.getElem?_eq_some_iff.mp hx).1; simpa using this
    rw [List.getElem?_map, List.getElem?_range hk] at hx
    cases hx
    have hfd : ((2 ^ k : Nat) : Int).fdiv 2 = ((2 ^ k / 2 : Nat) : Int) := halfN _
    have hpw : ((2 ^ k : Nat) : Int) * 2 = ((2 ^ (k + 1) : Nat) : Int) := (Int.natCast_mul ..).symm
    have ek : Sm F (k + 1) = Sm F k + F k := rfl
    have eg : ((Sm F k : Nat) : Int) + (F k : Nat) = ((Sm F (k + 1) : Nat) : Int) := rfl
    -- the end of a turn
    have tl : ∀ size used : Nat, SzR F size used → wp c_compute_sizes_3 ⟨g, 0, noX⟩ (loopC (fun ls σ1 => σ1 = σ2 ∧ X2 fun (size used : Nat) => ∃ x, ls = [some (.ref c), some (.int (Sm F 27 : Nat)), some (.int (Sm F (k + 1) : Nat)), some (.int used), some (.int size), some (.int (2 ^ (k + 1) : Nat)), x] ∧ SzR F size used)
        (fun ls σ1 => wp c_compute_sizes_7 ⟨g, 0, noX⟩ (retC fun r σ' => (X2 fun (size used : Nat) => r = .tup [.int size, .int used] ∧ SzR F size used) ∧ σ' = σ2) [] ls σ1) (retC fun r σ' => (X2 fun (size used : Nat) => r = .tup [.int size, .int used] ∧ SzR F size used) ∧ σ' = σ2)) []
        [some (.ref c), some (.int (Sm F 27 : Nat)), some (.int (Sm F (k + 1) : Nat)), some (.int used), some (.int size), some (.int (2 ^ k : Nat)), some (.int (F k : Nat))] σ2 := fun size used sz =>
      brk2.bool (fun q_ => ⟨⟨size, used, rfl, sz⟩, rfl⟩) fun q_ => Pv.imul (IntMulOk.of_right (by decide +kernel)) ⟨rfl, size, used, some (.int (F k : Nat)), by rw [← hpw]; rfl, sz⟩
    refine Pv.div (by decide) (by decide) (brk2.dec (fun q_ => ⟨⟨size, used, rfl, a7⟩, rfl⟩) fun q_ => brk2.dec (fun hq => Pv.div (by decide) (by decide) ?_) fun hq => ?_)
    · rw [hfd]
      refine brk2.dec (fun hr => ?_) fun hr => ?_
      · have hr : ((2 ^ k / 2 : Nat) : Int) < ((Sm F k : Nat) : Int) + (F k : Nat) := hr
        have := tl (2 ^ k) (Sm F (k + 1)) ⟨.inr ⟨k, Nat.le_of_lt_succ hk, rfl, rfl, by rw [Nat.mul_comm]; exact (Nat.div_lt_iff_lt_mul (by decide)).mp (Int.ofNat_lt.mp hr)⟩⟩
        rw [← eg] at this
        exact this
      · have := tl size used a7
        rw [← eg] at this
        exact this
    · have e0 : Sm F k = Sm F (k + 1) := by rw [ek, Nat.eq_zero_of_not_pos fun z => hq (Int.natCast_pos.mpr z)]; rfl
      rw [e0]
      exact tl size used a7
  · rintro ls σ2 ⟨rfl, size, used, x6, rfl, a7⟩
    exact ⟨⟨size, used, rfl, a7⟩, rfl⟩
end
noncomputable def vanR (s : Nat) : List V → List (V × V)
  | [] => []
  | v :: r => if isNone v = true then vanR (s + 1) r else (.int (s : Nat), v) :: vanR (s + 1) r
noncomputable def nodR : List Nd → List (V × V)
  | [] => []
  | n :: r => if isNone n.value = true then nodR r else (n.key, n.value) :: nodR r
set_option tactic.hygienic true in
theorem mem_vanR {s : Nat} : ∀ {xs : List V} {k v : V}, (k, v) ∈ vanR s xs → ∃ i : Nat, A3 (k = .int ((s + i : Nat) : Int)) (xs[i]? = some v) (v ≠ .none)
  | [], _, _, h => by cases h
  | x :: r, k, v, h => by
    unfold vanR at h
    split at h
    · obtain ⟨i, a, b, c⟩ := mem_vanR h
      exact ⟨i + 1, by rw [a]; congr 2; lia -abstractProof, b, c⟩
    · rename_i e
      rcases List.mem_cons.mp h with h | h
      · cases h
        exact ⟨0, rfl, rfl, fun z => e (isNone_iff.mpr z)⟩
      · obtain ⟨i, a, b, c⟩ := mem_vanR h
        exact ⟨i + 1, by rw [a]; congr 2; lia -abstractProof, b, c⟩
theorem vanR_mem {s : Nat} : ∀ {xs : List V} {i : Nat} {v : V}, xs[i]? = some v → v ≠ .none → (V.int ((s + i : Nat) : Int), v) ∈ vanR s xs
  | x :: r, 0, v, h, hv => by
    cases h
    unfold vanR
    rw [if_neg (fun z => hv (isNone_iff.mp z))]
    exact .head _
  | x :: r, i + 1, v, h, hv => by
    have := vanR_mem (s := s + 1) (xs := r) (i := i) (by simpa using h) hv
    have e : ((s + 1 + i : Nat) : Int) = ((s + (i + 1) : Nat) : Int) := by lia -abstractProof
    rw [e] at this
    unfold vanR
    split
    · exact this
    · exact .tail _ this
set_option tactic.hygienic true in
theorem mem_nodR : ∀ {xs : List Nd} {k v : V}, (k, v) ∈ nodR xs → ∃ n ∈ xs, k = n.key ∧ v = n.value ∧ v ≠ .none
  | [], _, _, h => by cases h
  | x :: r, k, v, h => by
    unfold nodR at h
    split at h
    · obtain ⟨n, a, b⟩ := mem_nodR h; exact ⟨n, .tail _ a, b⟩
    · rename_i e
      rcases List.mem_cons.mp h with h | h
      · cases h; exact ⟨x, .head _, rfl, rfl, fun z => e (isNone_iff.mpr z)⟩
      · obtain ⟨n, a, b⟩ := mem_nodR h; exact ⟨n, .tail _ a, b⟩
theorem nodR_mem : ∀ {xs : List Nd} {n : Nd}, n ∈ xs → n.value ≠ .none → (n.key, n.value) ∈ nodR xs
  | x :: r, n, h, hv => by
    unfold nodR
    rcases List.mem_cons.mp h with h | h
    · subst h
      rw [if_neg (fun z => hv (isNone_iff.mp z))]; exact .head _
    · have := nodR_mem h hv
      split
      · exact this
      · exact .tail _ this
noncomputable def restL (T : Tb) (a : Nat) : List (V × V) := vanR (a + 1) (T.arr.drop a) ++ nodR (T.nds.map (·.2)).reverse
structure JJ (ν : Nu) (T : Tb) (Tc : Tb) (L : List (V × V)) : Prop where
  inv : Inv ν Tc
  ok : ∀ p ∈ L, AnyV ν p.1 ∧ proper (tag ν p.1) = true ∧ p.2.plain = true ∧ p.2 ≠ .none
  nd : (L.map fun p => tag ν p.1).Nodup
  out : ∀ p ∈ L, ¬ HasKey ν Tc (tag ν p.1)
  was : ∀ p ∈ L, look ν T (tag ν p.1) = p.2
  same : ∀ t, proper t = true → t ∉ (L.map fun p => tag ν p.1) → look ν Tc t = look ν T t
  live : ∀ t, proper t = true → HasKey ν Tc t → look ν T t ≠ .none
  none_ : ∀ p ∈ L, look ν Tc (tag ν p.1) = .none
theorem JJ.step {ν T Tc Tc' k v L} (J : JJ ν T Tc ((k, v) :: L)) (I : Ins ν Tc Tc' (tag ν k) v) : JJ ν T Tc' L := by
  have nd := J.nd
  rw [List.map_cons, List.nodup_cons] at nd
  have ne : ∀ p ∈ L, tag ν p.1 ≠ tag ν k := fun p hp h => nd.1 (h ▸ List.mem_map.mpr ⟨p, hp, rfl⟩)
  refine ⟨I.inv, fun p hp => J.ok p (.tail _ hp), nd.2, fun p hp h => ?_, fun p hp => J.was p (.tail _ hp), fun t ht hn => ?_, fun t ht h => ?_, fun p hp => ?_⟩
  · rcases I.keys _ (J.ok p (.tail _ hp)).2.1 h with h | h | h
    · exact J.out p (.tail _ hp) h
    · exact ne p hp h
    · exact h (J.none_ p (.tail _ hp))
  · rw [I.look t ht]
    by_cases e : t = tag ν k
    · rw [if_pos e, e]; exact (J.was (k, v) (.head _)).symm
    · rw [if_neg e]
      exact J.same t ht fun z => by
        rcases List.mem_cons.mp z with z | z
        · exact e z
        · exact hn z
  · rcases I.keys t ht h with h | h | h
    · exact J.live t ht h
    · rw [h, J.was (k, v) (.head _)]; exact (J.ok (k, v) (.head _)).2.2.2
    · rw [← J.same t ht fun z => ?_]
      · exact h
      · obtain ⟨p, hp, e⟩ := List.mem_map.mp z
        exact h (e ▸ J.none_ p hp)
  · rw [I.look _ (J.ok p (.tail _ hp)).2.1, if_neg (ne p hp)]
    exact J.none_ p (.tail _ hp)
theorem nd_mem {T : Tb} {n : Nd} (h : n ∈ (T.nds.map (·.2)).reverse) : ∃ i, i < T.n ∧ T.nd i = n := by
  rw [List.mem_reverse] at h
  obtain ⟨p, hp, e⟩ := List.mem_map.mp h
  obtain ⟨i, hi⟩ := List.getElem?_of_mem hp
  exact ⟨i, (List.getElem?_eq_some_iff.mp hi).1, by rw [← e]; exact Tb.nd_of (a := p.1) (n := p.2) hi⟩
theorem mem_nd {T : Tb} {i : Nat} (h : i < T.n) : T.nd i ∈ (T.nds.map (·.2)).reverse := by
  rw [List.mem_reverse]
  obtain ⟨a, ha⟩ := T.nd_get h
  exact List.mem_map.mpr ⟨_, List.mem_of_getElem? ha, rfl⟩
theorem live_proper {ν T i} (I : Inv ν T) (h : i < T.n) (hv : (T.nd i).value ≠ .none) : proper (tag ν (T.nd i).key) = true := by
  cases e : proper (tag ν (T.nd i).key) with
  | true => rfl
  | false => exact absurd (I.vals i h e) hv
theorem not_inArr {ν T i} (I : Inv ν T) (h : i < T.n) : inArr T (tag ν (T.nd i).key) = false := by
  cases e : inArr T (tag ν (T.nd i).key) with
  | false => rfl
  | true => exact absurd ⟨h, rfl⟩ (not_at_arr I e)
theorem tag_inj_nodR {ν T} (I : Inv ν T) : ((nodR (T.nds.map (·.2)).reverse).map fun p => tag ν p.1).Nodup := by
  have go : ∀ xs : List Nd, (∀ n ∈ xs, n.value ≠ .none → proper (tag ν n.key) = true) → (xs.filter (fun n => !isNone n.value)).Pairwise (fun a b => tag ν a.key ≠ tag ν b.key) → ((nodR xs).map fun p => tag ν p.1).Nodup := by
    intro xs
    induction xs with
    | nil => intro _ _; exact List.nodup_nil
    | cons x r ih =>
      intro h1 h2
      unfold nodR
      by_cases e : isNone x.value = true
      · rw [if_pos e]
        rw [List.filter_cons_of_neg (by simp [e])] at h2
        exact ih (fun n hn => h1 n (.tail _ hn)) h2
      · rw [if_neg e]
        rw [List.filter_cons_of_pos (by simp [e]), List.pairwise_cons] at h2
        rw [List.map_cons, List.nodup_cons]
        refine ⟨fun z => ?_, ih (fun n hn => h1 n (.tail _ hn)) h2.2⟩
        obtain ⟨⟨k, v⟩, hp, e2⟩ := List.mem_map.mp z
        obtain ⟨n, hn, rfl, rfl, hv⟩ := mem_nodR hp
        exact h2.1 n (List.mem_filter.mpr ⟨hn, by rw [Bool.not_eq_true', ← Bool.not_eq_true]; exact fun w => hv (isNone_iff.mp w)⟩) e2.symm
  refine go _ (fun n hn hv => ?_) ?_
  · obtain ⟨i, hi, rfl⟩ := nd_mem hn
    exact live_proper I hi hv
  · rw [← List.pairwise_map (f := fun n : Nd => n) (R := fun a b => tag ν a.key ≠ tag ν b.key), List.map_id']
    -- by the places
    have hp : (T.nds.map (·.2)).reverse.Pairwise (fun a b => a.value ≠ .none → b.value ≠ .none → tag ν a.key ≠ tag ν b.key) := by
      rw [List.pairwise_reverse]
      rw [List.pairwise_iff_getElem]
      intro i j hi hj hij ha hb
      have hi' : i < T.n := by unfold Tb.n; simpa using hi
      have hj' : j < T.n := by unfold Tb.n; simpa using hj
      have ei : (T.nds.map (·.2))[i] = T.nd i := by
        obtain ⟨a, h⟩ := T.nd_get hi'
        simp [(List.getElem?_eq_some_iff.mp h).2]
      have ej : (T.nds.map (·.2))[j] = T.nd j := by
        obtain ⟨a, h⟩ := T.nd_get hj'
        simp [(List.getElem?_eq_some_iff.mp h).2]
      rw [ei] at hb ⊢; rw [ej] at ha ⊢
      intro e
      have := I.uniq j i hj' hi' e (live_proper I hj' ha)
      lia -abstractProof
    rw [List.pairwise_filter]
    refine hp.imp fun h h1 h2 => h (fun z => ?_) (fun z => ?_)
    · rw [z] at h1; cases h1
    · rw [z] at h2; cases h2
theorem nodup_vanR {ν : Nu} : ∀ (xs : List V) (s : Nat), ((vanR s xs).map fun p => tag ν p.1).Nodup
  | [], _ => List.nodup_nil
  | x :: r, s => by
    unfold vanR
    split
    · exact nodup_vanR r (s + 1)
    · rw [List.map_cons, List.nodup_cons]
      refine ⟨fun z => ?_, nodup_vanR r (s + 1)⟩
      obtain ⟨⟨k, v⟩, hp, e⟩ := List.mem_map.mp z
      obtain ⟨i, rfl, _, _⟩ := mem_vanR hp
      have e := Tag.int.inj e
      lia -abstractProof
theorem take_rep_len (l : List V) (a : Nat) : (l.take a ++ List.replicate (a - l.length) V.none).length = a := by
  rw [List.length_append, List.length_take, List.length_replicate]
  rcases Nat.le_total a l.length with h | h
  · rw [Nat.min_eq_left h, Nat.sub_eq_zero_of_le h, Nat.add_zero]
  · rw [Nat.min_eq_right h, Nat.add_sub_of_le h]
theorem pos_nat {x : Int} (h : 1 ≤ x) : ∃ m : Nat, x = (m : Int) + 1 ∧ ((m : Int) + 1 - 1).toNat = m := ⟨(x - 1).toNat, by rw [Int.toNat_of_nonneg (Int.sub_nonneg_of_le h), Int.sub_add_cancel], by rw [Int.add_sub_cancel, Int.toNat_natCast]⟩
theorem JJ.start {ν T T0 a} (I : Inv ν T) (I0 : Inv ν T0) (pl : ∀ v ∈ T.arr, v.plain = true) (pn : ∀ i, i < T.n → (T.nd i).value.plain = true) (ha : T0.arr = T.arr.take a ++ List.replicate (a - T.arr.length) .none) (hn : ∀ i, i < T0.n → (T0.nd i).key = .none) : JJ ν T T0 (restL T a) := by
  have hal : T0.arr.length = a := by rw [ha]; exact take_rep_len ..
  have noK : ∀ t, proper t = true → ¬ HasKey ν T0 t := fun t ht ⟨i, h1, h2⟩ => by rw [hn i h1] at h2; rw [← h2] at ht; cases ht
  have nl0 : ∀ t, proper t = true → nlook ν T0 t = .none := fun t ht => nlook_none fun i h => noK t ht ⟨i, h⟩
  have get0 : ∀ x : Int, 1 ≤ x → x ≤ a → (T0.arr[(x - 1).toNat]?).getD .none = (T.arr[(x - 1).toNat]?).getD .none := fun x h1 h2 => by
    obtain ⟨m, rfl, em⟩ := pos_nat h1
    have hm : m < a := Int.ofNat_le.mp h2
    rw [em, ha]
    by_cases e : m < T.arr.length
    · rw [List.getElem?_append_left (by rw [List.length_take]; exact Nat.lt_min.mpr ⟨hm, e⟩), List.getElem?_take_of_lt hm]
    · have e := Nat.le_of_not_lt e
      rw [List.getElem?_append_right (Nat.le_trans (List.length_take_le' ..) e), List.getElem?_eq_none (l := T.arr) e, List.getElem?_replicate]
      split <;> rfl
  have van : ∀ k v, (k, v) ∈ vanR (a + 1) (T.arr.drop a) → ∃ x : Nat, A5 (k = .int (x : Nat)) (a < x) (x ≤ T.arr.length) (T.arr[x - 1]? = some v) (v ≠ .none) := fun k v h => by
    obtain ⟨i, e1, e2, e3⟩ := mem_vanR h
    rw [List.getElem?_drop] at e2
    have := (List.getElem?_eq_some_iff.mp e2).1
    exact ⟨a + 1 + i, e1, Nat.lt_of_lt_of_le (Nat.lt_succ_self a) (Nat.le_add_right ..), by rw [Nat.add_right_comm]; exact this, by rw [Nat.add_right_comm, Nat.add_sub_cancel]; exact e2, e3⟩
  have nod : ∀ k v, (k, v) ∈ nodR (T.nds.map (·.2)).reverse → ∃ i, A4 (i < T.n) (k = (T.nd i).key) (v = (T.nd i).value) (v ≠ .none) := fun k v h => by
    obtain ⟨n, h1, h2, h3, h4⟩ := mem_nodR h
    obtain ⟨i, hi, rfl⟩ := nd_mem h1
    exact ⟨i, hi, h2, h3, h4⟩
  have was : ∀ p ∈ restL T a, look ν T (tag ν p.1) = p.2 := fun p hp => by
    obtain ⟨k, v⟩ := p
    rcases List.mem_append.mp hp with h | h
    · obtain ⟨x, rfl, h1, h2, h3, h4⟩ := van k v h
      show look ν T (.int x) = v
      rw [look_arr ⟨Int.ofNat_le.mpr (Nat.lt_of_le_of_lt (Nat.zero_le a) h1), Int.ofNat_le.mpr h2⟩, predN, h3]; rfl
    · obtain ⟨i, hi, rfl, rfl, hv⟩ := nod k v h
      show look ν T (tag ν (T.nd i).key) = _
      rw [look_node (not_inArr I hi), nlook_at I (live_proper I hi hv) ⟨hi, rfl⟩]
  have okp : ∀ p ∈ restL T a, AnyV ν p.1 ∧ proper (tag ν p.1) = true ∧ p.2.plain = true ∧ p.2 ≠ .none := fun p hp => by
    obtain ⟨k, v⟩ := p
    rcases List.mem_append.mp hp with h | h
    · obtain ⟨x, rfl, h1, h2, h3, h4⟩ := van k v h
      exact ⟨.int _, rfl, pl _ (List.mem_of_getElem? h3), h4⟩
    · obtain ⟨i, hi, rfl, rfl, hv⟩ := nod k v h
      exact ⟨I.keys i hi, live_proper I hi hv, pn i hi, hv⟩
  refine ⟨I0, okp, ?_, fun p hp => noK _ (okp p hp).2.1, was, fun t ht hnt => ?_, fun t ht h => absurd h (noK t ht), fun p hp => ?_⟩
  · unfold restL
    rw [List.map_append, List.nodup_append]
    refine ⟨nodup_vanR _ _, tag_inj_nodR I, fun x hx y hy e => ?_⟩
    obtain ⟨⟨k, v⟩, h1, rfl⟩ := List.mem_map.mp hx
    obtain ⟨⟨k', v'⟩, h2, rfl⟩ := List.mem_map.mp hy
    obtain ⟨z, rfl, h3, h4, _⟩ := van k v h1
    obtain ⟨i, hi, rfl, _, _⟩ := nod k' v' h2
    have := not_inArr I hi
    rw [← e] at this
    exact of_decide_eq_false this ⟨Int.ofNat_le.mpr (Nat.lt_of_le_of_lt (Nat.zero_le a) h3), Int.ofNat_le.mpr h4⟩
  · -- nothing of it is left out
    have lookT : ∀ i, IsAt ν T t i → (T.nd i).value = .none := fun i hi => by
      cases e : isNone (T.nd i).value with
      | true => exact isNone_iff.mp e
      | false =>
        exfalso
        have hv : (T.nd i).value ≠ .none := fun z => by rw [z] at e; cases e
        exact hnt (List.mem_map.mpr ⟨_, List.mem_append.mpr (.inr (nodR_mem (mem_nd hi.1) hv)), hi.2⟩)
    have nlT : nlook ν T t = .none := by
      by_cases e : ∃ i, IsAt ν T t i
      · obtain ⟨i, e⟩ := e; rw [nlook_at I ht e]; exact lookT i e
      · exact nlook_none fun i h => e ⟨i, h⟩
    have nl := nl0 t ht
    cases t with
    | int x =>
      by_cases e0 : 1 ≤ x ∧ x ≤ (a : Int)
      · rw [look_arr (by rw [hal]; exact e0), get0 x e0.1 e0.2]
        by_cases e1 : x ≤ T.arr.length
        · rw [look_arr ⟨e0.1, e1⟩]
        · rw [look_out fun z => e1 z.2, nlT]
          obtain ⟨m, rfl, em⟩ := pos_nat e0.1
          rw [em, List.getElem?_eq_none (Nat.le_of_not_lt fun z => e1 (Int.ofNat_le.mpr z))]; rfl
      · rw [look_out (by rw [hal]; exact e0), nl]
        by_cases e1 : 1 ≤ x ∧ x ≤ T.arr.length
        · rw [look_arr e1]
          obtain ⟨m, rfl, em⟩ := pos_nat e1.1
          have hm : m < T.arr.length := Int.ofNat_le.mp e1.2
          have am : a ≤ m := Nat.le_of_not_lt fun z => e0 ⟨e1.1, Int.ofNat_le.mpr z⟩
          rw [em]
          obtain ⟨v, hv⟩ : ∃ v, T.arr[m]? = some v := ⟨_, List.getElem?_eq_getElem hm⟩
          rw [hv]
          show V.none = v
          cases e : isNone v with
          | true => exact (isNone_iff.mp e).symm
          | false =>
            exfalso
            have hv0 : v ≠ .none := fun z => by rw [z] at e; cases e
            have := vanR_mem (s := a + 1) (xs := T.arr.drop a) (i := m - a) (v := v) (by rw [List.getElem?_drop, Nat.add_sub_of_le am]; exact hv) hv0
            refine hnt (List.mem_map.mpr ⟨_, List.mem_append.mpr (.inl this), ?_⟩)
            exact congrArg (fun n : Nat => Tag.int n) (show a + 1 + (m - a) = m + 1 by rw [Nat.add_right_comm, Nat.add_sub_of_le am])
        · rw [look_out e1, nlT]
    | _ => exact nl.trans nlT.symm
  · obtain ⟨k, v⟩ := p
    have nl := nl0 _ (okp (k, v) hp).2.1
    rcases List.mem_append.mp hp with h | h
    · obtain ⟨x, rfl, h1, h2, h3, h4⟩ := van k v h
      exact (look_out (by rw [hal]; exact fun z => Nat.not_le_of_lt h1 (Int.ofNat_le.mp z.2))).trans nl
    · obtain ⟨i, hi, rfl, rfl, hv⟩ := nod k v h
      by_cases e : inArr T0 (tag ν (T.nd i).key) = true
      · have e1 := not_inArr I hi
        show look ν T0 (tag ν (T.nd i).key) = .none
        generalize tag ν (T.nd i).key = tt at e e1
        obtain ⟨x, e'⟩ := inA_of e
        clear e
        have e := e'
        have e1 := of_decide_eq_false e1
        rw [look_arr e, get0 x e.1 (by rw [hal] at e; exact e.2)]
        obtain ⟨m, rfl, em⟩ := pos_nat e.1
        rw [em, List.getElem?_eq_none (Nat.le_of_not_lt fun z => e1 ⟨e.1, Int.ofNat_le.mpr z⟩)]; rfl
      · rw [look_node (by simpa using e)]; exact nl
theorem grow_lt {l a k : Nat} (h : min a l + k < a) : k < a - l := by
  rcases Nat.le_total a l with z | z
  · rw [Nat.min_eq_left z] at h; exact absurd h (Nat.not_lt.mpr (Nat.le_add_right a k))
  · rw [Nat.min_eq_right z, Nat.add_comm] at h; exact Nat.lt_sub_of_add_lt h
theorem grow_eq {l a k : Nat} (h : ¬ min a l + k < a) (hk : k ≤ a - l) : k = a - l := by
  refine Nat.le_antisymm hk ?_
  rcases Nat.le_total a l with z | z
  · rw [Nat.sub_eq_zero_of_le z]; exact Nat.zero_le k
  · rw [Nat.min_eq_right z, Nat.add_comm] at h; exact Nat.sub_le_of_le_add (Nat.le_of_not_lt h)
theorem TR.setA2 {σ t T a xs} (h : TR σ t T) (ha : σ a = some (.list xs)) (ne : a ≠ T.na) (hp : ∀ v ∈ xs, v.plain = true) (hz : xs.length ≤ 2 ^ 23) : TR (upd σ t (.inst cT { T with aa := a, arr := xs }.fs)) t { T with aa := a, arr := xs } := by
  have n1 : T.na ≠ t := fun z => by have := h.nl; rw [z, h.t] at this; cases this
  have n2 : a ≠ t := fun z => by rw [z, h.t] at ha; cases ha
  exact ⟨upd_same .., (upd_ne _ _ n2).trans ha, (upd_ne _ _ n1).trans h.nl, fun p hpp => (upd_ne _ _ fun z => by have := h.nd p hpp; rw [z, h.t] at this; exact absurd this (by simp [cT, cN])).trans (h.nd p hpp), h.nodup, ne, hp, h.pn, hz, h.sn⟩
theorem Knows.ext {σ ν t σ'} (K : Knows σ ν) (hν : ν t = none) (x : Ext1 σ t σ') : Knows σ' ν := ⟨fun a r e => by
  obtain ⟨h1, fs, h2, h3⟩ := K.at_ a r e
  exact ⟨h1, fs, x.keep _ _ h2 fun z => (by rw [z, hν] at e; cases e), h3⟩⟩
noncomputable def c_resize_1 : Cd := .ld 0 <| .fld "array" <| .ald <| .lit .none <| .call (.bi "list.append") 2 <| .pop <| .fin
noncomputable def c_resize_2 : Cd := .ld 0 <| .fld "array" <| .call (.bi "len") 1 <| .ld 1 <| .cmp .Lt <| .br (c_resize_1) (.brk)
noncomputable def c_resize_3 : Cd := .ld 0 <| .mld cT "put_back" <| .ld 1 <| .ld 6 <| .bin .Add <| .lit (.int (1)) <| .bin .Add <| .ld 7 <| .ld 3 <| .call (.ref 337) 4 <| .pop <| .fin
noncomputable def c_resize_4 : Cd := .unp false [6, 7] <| .ld 7 <| .isn false <| .br (c_resize_3) (.fin)
noncomputable def c_resize_5 : Cd := .ld 0 <| .mld cT "put_back" <| .ld 8 <| .fld "key" <| .ld 8 <| .fld "value" <| .ld 3 <| .call (.ref 337) 4 <| .pop <| .fin
noncomputable def c_resize_6 : Cd := .st 8 <| .ld 8 <| .fld "value" <| .isn false <| .br (c_resize_5) (.fin)
noncomputable def c_resize_7 : Cd := .ld 0 <| .mld cT "weigh" <| .ld 3 <| .call (.ref 356) 2 <| .pop <| .fin
noncomputable def c_resize_8 : Cd := .ld 4 <| .forl 2 1 (c_resize_6) (c_resize_7)
noncomputable def c_resize_9 : Cd := .ld 0 <| .mld cT "make_nodes" <| .ld 2 <| .call (.ref 342) 2 <| .pop <| .ld 5 <| .forl 3 1 (c_resize_4) (c_resize_8)
noncomputable def c_resize : Cd := .ld 0 <| .fld "nodes" <| .st 4 <| .ld 0 <| .fld "array" <| .ld 1 <| .slc true <| .st 5 <| .ld 0 <| .fld "array" <| .ld 1 <| .slc false <| .ld 0 <| .stf "array" <| .whl (c_resize_2) (c_resize_9)
section
variable {ν : Nu} {σ : MH} {E : En} {K : V → MH → Prop}
theorem Pv.okey (L : Law E.g) {a} {n : Nd} (hσ : σ a = some (.inst cN n.fs)) (hp : n.key.plain = true) (h : K n.key σ) : Pv E (gA "key") [.ref a] K σ :=
  Pv.fld hσ (L.fN (by kernel_rfl)) (show getF (Nd.fs n) "key" = some n.key by kernel_rfl) hp h
theorem Pv.oval (L : Law E.g) {a} {n : Nd} (hσ : σ a = some (.inst cN n.fs)) (hp : n.value.plain = true) (h : K n.value σ) : Pv E (gA "value") [.ref a] K σ :=
  Pv.fld hσ (L.fN (by kernel_rfl)) (show getF (Nd.fs n) "value" = some n.value by kernel_rfl) hp h
theorem resize_body {g : G} {d : Nat} (L : Law g) {t T} {a h : Nat} {J : Tb → List (V × V) → Prop} (hdd : 5 ≤ d) (K : Knows σ ν) (hν : ν t = none) (hT : TR σ t T) (ha : a ≤ 2 ^ 22) (hh : h ≤ 2 ^ 20)
    (hJ0 : ∀ T4, T4.arr = T.arr.take a ++ List.replicate (a - T.arr.length) .none → T4.n = places h → (∀ i, i < T4.n → T4.nd i = nd0) → T4.free = T4.n → J T4 (restL T a))
    (step : ∀ σc Tc k v rest, J Tc ((k, v) :: rest) → TR σc t Tc → Knows σc ν → Fn d 337 [.ref t, k, v, .none] (fun r σ' => r = .none ∧ ∃ Tc', A3 (TR σ' t Tc') (Mv σc t Tc σ' Tc') (J Tc' rest)) σc) :
    wp c_resize ⟨g, d, noX⟩ (retC fun r σ' => r = .none ∧ X2 fun T' T'' => A4 (TR σ' t T') (Mv σ t T σ' T') (T' = T''.weighed) (J T'' [])) [] [some (.ref t), some (.int a), some (.int h), some .none, none, none, none, none, none] σ := by
  have hal := hT.sa
  have hall : T.arr.length ≤ 2 ^ 24 := by lia
  have hd1 : Nat.ble 1 d = true := Nat.ble_eq.mpr (by lia)
  have hd4 : Nat.ble 4 d = true := Nat.ble_eq.mpr (by lia)
  have hdd : Nat.ble d d = true := Nat.ble_eq.mpr (Nat.le_refl d)
  refine Pv.nodes L hT (Pv.array L hT (Slc.mk T.aa T.arr a (.inl hT.arr) hall fun va hva => ?_))
  have hT1 := (hT.new (o := .list (T.arr.drop a)) hva).1
  have x1 := Ext1.new (t := t) (o := O.list (T.arr.drop a)) hva
  have v1 : upd σ va (.list (T.arr.drop a)) va = some (.list (T.arr.drop a)) := upd_same ..
  show wp (.st 5 <| .ld 0 <| .fld "array" <| .ld 1 <| .slc false <| .ld 0 <| .stf "array" <| .whl c_resize_2 c_resize_9) _ _ _ _ (upd σ va (.list (T.arr.drop a)))
  generalize upd σ va (.list (T.arr.drop a)) = σ1 at hT1 x1 v1
  refine Pv.array L hT1 (Slc.mk T.aa T.arr a (.inl hT1.arr) hall fun aa haa => ?_)
  have haa0 : σ aa = none := x1.none_of haa
  have nva : va ≠ aa := fun z => by rw [z, haa] at v1; cases v1
  have hT2 := (hT1.new (o := .list (T.arr.take a)) haa).1
  have x2 := x1.trans (Ext1.new (t := t) (o := O.list (T.arr.take a)) haa)
  have na : aa ≠ T.na := fun z => by have := hT1.nl; rw [← z, haa] at this; cases this
  have tr2 := hT2.setA2 (upd_same ..) na (fun v hv => hT.pa v (List.mem_of_mem_take hv)) (by rw [List.length_take]; lia)
  have v2 : upd σ1 aa (.list (T.arr.take a)) va = some (.list (T.arr.drop a)) := (upd_ne _ _ nva).trans v1
  refine Pu.fld hT2.t (L.fT (by kernel_rfl)) (show _ ≤ 900 from Nat.le_of_ble_eq_true rfl) ?_
  rw [show setF T.fs "array" (.ref aa) = Tb.fs { T with aa := aa, arr := T.arr.take a } by kernel_rfl]
  have nvt : va ≠ t := fun z => by rw [z, hT2.t] at v2; cases v2
  have x3 := x2.trans (Ext1.put (o := .inst cT (Tb.fs { T with aa := aa, arr := T.arr.take a })))
  have v3 : upd (upd σ1 aa (.list (T.arr.take a))) t (.inst cT (Tb.fs { T with aa := aa, arr := T.arr.take a })) va = some (.list (T.arr.drop a)) := (upd_ne _ _ nvt).trans v2
  show wp (.whl c_resize_2 c_resize_9) _ _ _ [some (.ref t), some (.int a), some (.int h), some .none, some (.ref T.na), some (.ref va), none, none, none] (upd (upd σ1 aa (.list (T.arr.take a))) t (.inst cT (Tb.fs { T with aa := aa, arr := T.arr.take a })))
  generalize upd (upd σ1 aa (.list (T.arr.take a))) t (.inst cT (Tb.fs { T with aa := aa, arr := T.arr.take a })) = σ3 at tr2 x3 v3
  refine Whl.mk (fun m ls σ4 => ls = [some (.ref t), some (.int a), some (.int h), some .none, some (.ref T.na), some (.ref va), none, none, none] ∧
      ∃ k, A5 (k ≤ a - T.arr.length) (m = a - T.arr.length - k) (TR σ4 t { T with aa := aa, arr := T.arr.take a ++ List.replicate k .none }) (Ext1 σ t σ4) (σ4 va = some (.list (T.arr.drop a)))) _
    ⟨rfl, 0, Nat.zero_le _, rfl, by rw [show T.arr.take a ++ List.replicate 0 V.none = T.arr.take a from List.append_nil _]; exact tr2, x3, v3⟩ ?_
  rintro m ls σ4 ⟨rfl, k, hka, rfl, tr4, x4, v4⟩
  have hlenA : (T.arr.take a ++ List.replicate k V.none).length = min a T.arr.length + k := by rw [List.length_append, List.length_take, List.length_replicate]
  refine Pv.array L tr4 (Pv.lenA tr4 (brk2.dec (fun (hp : ((T.arr.take a ++ List.replicate k V.none).length : Int) < a) => ?_) fun (hp : ¬ ((T.arr.take a ++ List.replicate k V.none).length : Int) < a) => ?_))
  · rw [hlenA] at hp
    have hp := Int.ofNat_lt.mp hp
    have kq := grow_lt hp
    refine Pv.array L tr4 (IsL.mk aa _ tr4.arr (Pv.app tr4.arr (by show (T.arr.take a ++ List.replicate k V.none).length ≤ _; rw [hlenA]; exact Nat.le_trans (Nat.le_of_lt hp) (Nat.le_trans ha (by decide))) ?_))
    have e : (T.arr.take a ++ List.replicate k V.none) ++ [V.none] = T.arr.take a ++ List.replicate (k + 1) V.none := by rw [List.append_assoc, ← List.replicate_succ']
    have tr5 := (tr4.setA ((T.arr.take a ++ List.replicate k V.none) ++ [V.none]) (fun v hv => by
      rcases List.mem_append.mp hv with hv | hv
      · exact tr4.pa v hv
      · rw [List.mem_singleton.mp hv]; rfl) (by rw [List.length_append, hlenA, List.length_singleton]; exact Nat.le_trans hp (Nat.le_trans ha (by decide)))).1
    rw [e] at tr5
    refine ⟨_, Nat.sub_lt_sub_left kq (Nat.lt_succ_self k), rfl, k + 1, kq, rfl, by show TR (upd σ4 aa (.list ((T.arr.take a ++ List.replicate k V.none) ++ [V.none]))) _ _; rw [e]; exact tr5, ⟨fun b o hb hn => (upd_ne _ _ fun z => by rw [z, haa0] at hb; cases hb).trans (x4.keep b o hb hn), fun b o hb => ?_⟩, (upd_ne _ _ nva).trans v4⟩
    · obtain ⟨o', h'⟩ := x4.dom b o hb
      exact ⟨o', (upd_ne _ _ fun z => by rw [z, haa0] at hb; cases hb).trans h'⟩
  · rw [hlenA] at hp
    have hk' : k = a - T.arr.length := grow_eq (fun z => hp (Int.ofNat_lt.mpr z)) hka
    subst hk'
    clear hka
    refine Meth.tab tr4 rfl (Pv.fn L (make_nodes_ok tr4 hh) hd4 ?_)
    rintro _ σ5 ⟨rfl, T5, tr5, m5, mk, x5⟩
    have x5' := x4.trans x5
    have K5 := K.ext hν x5'
    have v5 : σ5 va = some (.list (T.arr.drop a)) := x5.keep _ _ v4 nvt
    have ft5 : ∀ b, foot t T5 b → b = t ∨ b = aa ∨ σ4 b = none := mk.ft
    have vaf : ¬ foot t T5 va := fun z => (ft5 va z).elim nvt fun z => z.elim nva fun z => by rw [v4] at z; cases z
    have oldf : ∀ b o, σ b = some o → b ≠ t → ¬ foot t T5 b := fun b o e n z => (ft5 b z).elim n fun z => z.elim (fun z => by rw [z, haa0] at e; cases e) fun z => by rw [x4.keep b o e n] at z; cases z
    have nat : T.na ≠ t := fun z => by have := hT.nl; rw [z, hT.t] at this; cases this
    have J5 := hJ0 T5 mk.arr mk.n mk.nd mk.free
    refine It.enum _ _ (.inl v5) (ForL.mk (fun i ls σ6 => X2 fun x y => ls = [some (.ref t), some (.int a), some (.int h), some .none, some (.ref T.na), some (.ref va), x, y, none] ∧ ∃ Tc, A3 (TR σ6 t Tc) (Mv σ5 t T5 σ6 Tc) (J Tc (vanR (a + 1 + i) ((T.arr.drop a).drop i) ++ nodR (T.nds.map (·.2)).reverse)))
      ⟨_, _, rfl, T5, tr5, Mv.refl .., J5⟩ (fun i ls σ6 h => by
        obtain ⟨_, _, h⟩ := h
        exact h.2.elim fun Tc h => .inl (h.h2.keep _ _ v5 vaf)) ?_ ?_)
    · rintro i x ls σ6 hx ⟨x6, x7, rfl, Tc, trc, mc, jc⟩
      rw [enumL_get] at hx
      obtain ⟨v, hv, rfl⟩ := Option.map_eq_some_iff.mp hx
      have lt := (List.getElem?_eq_some_iff.mp hv).1
      have hvp : v.plain = true := hT.pa v (List.mem_of_mem_drop (List.mem_of_getElem? hv))
      have ed : (T.arr.drop a).drop i = v :: (T.arr.drop a).drop (i + 1) := by rw [List.drop_eq_getElem_cons lt, (List.getElem?_eq_some_iff.mp hv).2]
      rw [ed] at jc
      unfold vanR at jc
      refine ⟨hvp, brk2.bool (fun e => ?_) fun e => ?_⟩
      · have e : isNone v = false := nt e
        rw [if_neg (by rw [e]; exact Bool.false_ne_true)] at jc
        have e2 : (a : Int) + (i : Nat) + 1 = ((a + 1 + i : Nat) : Int) := by lia
        refine Meth.tab trc rfl ?_
        show Pv _ tcall [.ref 337, .ref t, .int ((a : Int) + (i : Nat) + 1), v, .none] _ _
        rw [e2]
        refine Pv.fn L (step σ6 Tc _ v _ jc trc (K5.mv tr5 mc hν)) hdd ?_
        rintro _ σ7 ⟨rfl, Tc', trc', mc', jc'⟩
        exact ⟨_, _, rfl, Tc', trc', mc.trans mc', jc'⟩
      · have e : isNone v = true := nf e
        rw [if_pos e] at jc
        exact ⟨_, _, rfl, Tc, trc, mc, jc⟩
    · rintro ls σ6 ⟨x6, x7, rfl, Tc, trc, mc, jc⟩
      have e0 : (T.arr.drop a).drop (enumL (T.arr.drop a)).length = [] := by unfold enumL; simp; lia
      rw [e0] at jc
      have jc : J Tc (nodR (T.nds.map (·.2)).reverse) := jc
      have nl6 : σ6 T.na = some (.list (T.nds.map fun p => V.ref p.1)) := mc.keep _ _ (x5'.keep _ _ hT.nl nat) (oldf _ _ hT.nl nat)
      refine It.rev _ _ (.inl nl6) (ForL.mk (fun i ls σ7 => X3 fun x y z => ls = [some (.ref t), some (.int a), some (.int h), some .none, some (.ref T.na), some (.ref va), x, y, z] ∧ ∃ Tc, A3 (TR σ7 t Tc) (Mv σ5 t T5 σ7 Tc) (J Tc (nodR ((T.nds.map (fun p : Addr × Nd => p.2)).reverse.drop i))))
        ⟨_, _, _, rfl, Tc, trc, mc, by rw [List.drop_zero]; exact jc⟩ (fun i ls σ7 h => by
          obtain ⟨_, _, _, h⟩ := h
          exact h.2.elim fun Tc h => .inl (h.h2.keep _ _ (x5'.keep _ _ hT.nl nat) (oldf _ _ hT.nl nat))) ?_ ?_)
      · rintro i x ls σ7 hx ⟨x6, x7, x8, rfl, Tc, trc, mc, jc⟩
        have lt : i < T.nds.length := by have := (List.getElem?_eq_some_iff.mp hx).1; rwa [List.length_reverse, List.length_map] at this
        rw [← List.map_reverse, List.getElem?_map] at hx
        obtain ⟨⟨ad, nd⟩, hp2, e⟩ := Option.map_eq_some_iff.mp hx
        subst e
        have hmem : (ad, nd) ∈ T.nds := List.mem_reverse.mp (List.mem_of_getElem? hp2)
        have nat2 : ad ≠ t := fun z => by have := hT.nd _ hmem; rw [show (ad, nd).1 = t from z, hT.t] at this; exact absurd this (by simp [cT, cN])
        have ho : σ7 ad = some (.inst cN nd.fs) := mc.keep _ _ (x5'.keep _ _ (hT.nd _ hmem) nat2) (oldf _ _ (hT.nd _ hmem) nat2)
        have pl := hT.pn _ hmem
        have ed : (T.nds.map (·.2)).reverse.drop i = nd :: (T.nds.map (·.2)).reverse.drop (i + 1) := by
          have l2 : i < (T.nds.map (·.2)).reverse.length := by rw [List.length_reverse, List.length_map]; exact lt
          rw [List.drop_eq_getElem_cons l2]
          congr 1
          have : (T.nds.map (·.2)).reverse[i]? = some nd := by rw [← List.map_reverse, List.getElem?_map, hp2]; rfl
          exact (List.getElem?_eq_some_iff.mp this).2
        rw [ed] at jc
        unfold nodR at jc
        refine Pv.oval L ho pl.2 ⟨pl.2, brk2.bool (fun e => ?_) fun e => ?_⟩
        · have e : isNone nd.value = false := nt e
          rw [if_neg (by rw [e]; exact Bool.false_ne_true)] at jc
          refine Meth.tab trc rfl (Pv.okey L ho pl.1 (Pv.oval L ho pl.2 (Pv.fn L (step σ7 Tc _ _ _ jc trc (K5.mv tr5 mc hν)) hdd ?_)))
          rintro _ σ8 ⟨rfl, Tc', trc', mc', jc'⟩
          exact ⟨_, _, _, rfl, Tc', trc', mc.trans mc', jc'⟩
        · have e : isNone nd.value = true := nf e
          rw [if_pos e] at jc
          exact ⟨_, _, _, rfl, Tc, trc, mc, jc⟩
      · rintro ls σ7 ⟨x6, x7, x8, rfl, Tc, trc, mc, jc⟩
        have e0 : (T.nds.map (·.2)).reverse.drop ((T.nds.map fun p => V.ref p.1).reverse).length = [] := List.drop_of_length_le (by rw [List.length_reverse, List.length_reverse, List.length_map, List.length_map]; exact Nat.le_refl _)
        rw [e0] at jc
        have jc : J Tc [] := jc
        refine Meth.tab trc rfl (Pv.fn L (weigh_ok trc) hd1 ?_)
        rintro _ σ8 ⟨rfl, tr8, m8⟩
        have m58 := mc.trans m8
        refine ⟨rfl, _, Tc, tr8, ⟨fun b o e n => m58.keep _ _ (x5'.keep b o e fun z => n (.inl z)) (oldf b o e fun z => n (.inl z)), fun b hb => ?_, fun b o e => ?_, m58.num.trans m5.num⟩, rfl, jc⟩
        · rcases m58.ft b hb with z | z
          · rcases ft5 b z with z | z | z
            · exact .inl (.inl z)
            · exact .inr (z ▸ haa0)
            · exact .inr (x4.none_of z)
          · exact .inr (x5'.none_of z)
        · obtain ⟨o', h'⟩ := x5'.dom b o e
          exact m58.dom b o' h'
end
theorem cnt_add {n : Nat} {p q : Nat → Bool} (h : ∀ i, i < n → ¬ (p i = true ∧ q i = true)) : cnt n p + cnt n q = cnt n (fun i => p i || q i) := by
  induction n with
  | zero => rfl
  | succ n ih =>
    rw [cnt_succ, cnt_succ, cnt_succ, ← ih fun i hi => h i (by (refine Nat.lt_of_not_le fun q_ => ?_; lia -abstractProof))]
    have := h n (by (refine Nat.lt_of_not_le fun q_ => ?_; lia -abstractProof))
    cases hp : p n <;> cases hq : q n <;> simp_all <;> lia -abstractProof
theorem cnt_shift (a m : Nat) (p : Nat → Bool) : cnt (a + m) p = cnt a p + cnt m (fun i => p (a + i)) := by
  induction m with
  | zero => rfl
  | succ m ih => rw [← Nat.add_assoc, cnt_succ, ih, cnt_succ]; lia -abstractProof
theorem cnt_list {α : Type} (d : α) (p : α → Bool) : ∀ xs : List α, xs.countP p = cnt xs.length (fun i => p (xs.getD i d))
  | [] => rfl
  | x :: r => by
    have h := cnt_shift 1 r.length (fun i => p ((x :: r).getD i d))
    rw [List.length_cons, Nat.add_comm r.length 1, h, List.countP_cons, cnt_list d p r]
    have e : (fun i => p ((x :: r).getD (1 + i) d)) = fun i => p (r.getD i d) := by
      funext i; rw [Nat.add_comm 1 i]; rfl
    rw [e, cnt_succ]
    show _ + (if p x = true then 1 else 0) = cnt 0 _ + (if p x = true then 1 else 0) + _
    rw [cnt_zero]; lia -abstractProof
theorem Sm_add (F G : Nat → Nat) (k : Nat) : Sm (fun j => F j + G j) k = Sm F k + Sm G k := by
  induction k with
  | zero => rfl
  | succ k ih => show Sm (fun j => F j + G j) k + (F k + G k) = (Sm F k + F k) + (Sm G k + G k); rw [ih]; lia -abstractProof
theorem Sm_one (b : Option Nat) (k : Nat) : Sm (fun j => if b = some j then 1 else 0) k = if b.any (fun j => decide (j < k)) = true then 1 else 0 := by
  induction k with
  | zero => cases b <;> simp [Sm]
  | succ k ih =>
    show Sm _ k + _ = _
    rw [ih]
    cases b with
    | none => simp
    | some j =>
      simp only [Option.any_some, decide_eq_true_eq, Option.some.injEq]
      by_cases h1 : j < k
      · rw [if_pos h1, if_neg (by lia -abstractProof), if_pos (by (refine Nat.lt_of_not_le fun q_ => ?_; lia -abstractProof))]
      · by_cases h2 : j = k
        · rw [if_neg h1, if_pos h2, if_pos (by (refine Nat.lt_of_not_le fun q_ => ?_; lia -abstractProof))]
        · rw [if_neg h1, if_neg h2, if_neg (by lia -abstractProof)]
theorem Sm_cnt (n : Nat) (L : Nat → Bool) (b : Nat → Option Nat) (k : Nat) : Sm (fun j => cnt n (fun i => L i && (b i == some j))) k = cnt n (fun i => L i && (b i).any (fun j => decide (j < k))) := by
  induction n with
  | zero =>
    have : ∀ k, Sm (fun q_ => 0) k = 0 := fun k => by
      induction k with
      | zero => rfl
      | succ k ih => show Sm _ k + 0 = 0; rw [ih]
    exact this k
  | succ n ih =>
    have e : (fun j => cnt (n + 1) (fun i => L i && (b i == some j))) = fun j => cnt n (fun i => L i && (b i == some j)) + (if L n = true then (if b n = some j then 1 else 0) else 0) := by
      funext j
      rw [cnt_succ]
      cases L n <;> simp
    rw [e, Sm_add, ih, cnt_succ]
    cases h : L n with
    | false =>
      have : ∀ k, Sm (fun q_ => 0) k = 0 := fun k => by
        induction k with
        | zero => rfl
        | succ k ih => show Sm _ k + 0 = 0; rw [ih]
      show _ + Sm (fun q_ => 0) k = _
      rw [this]; rfl
    | true =>
      simp only [if_true, Bool.true_and]
      rw [Sm_one]
noncomputable def inR (a : Nat) : Tag → Bool
  | .int x => decide (1 ≤ x ∧ x ≤ (a : Int))
  | _ => false
theorem inR_0 (t : Tag) : inR 0 t = false := by
  cases t with
  | int x => exact decide_eq_false fun h => by have := h.2; have := h.1; lia -abstractProof
  | _ => rfl
theorem inArr_eq (T : Tb) (t : Tag) : inArr T t = inR T.arr.length t := by cases t <;> rfl
theorem clg_le {x s : Nat} (h1 : 1 ≤ x) : clg (x : Nat) ≤ s ↔ x ≤ 2 ^ s := by
  unfold clg lg
  by_cases e : x = 1
  · subst e
    have : 0 < 2 ^ s := Nat.pow_pos (by decide)
    simp; exact Nat.succ_le_of_lt (by assumption)
  · rw [if_pos (by (refine Int.lt_of_not_ge fun q_ => ?_; lia -abstractProof)), predN]
    have := Nat.log2_lt (n := x - 1) (k := s) (by lia -abstractProof)
    exact (Int.ofNat_le (m := (x - 1).log2 + 1) (n := s)).trans (this.trans ⟨Nat.le_of_pred_lt, fun z => Nat.lt_of_lt_of_le (Nat.sub_one_lt (Nat.ne_of_gt h1)) z⟩)
set_option tactic.hygienic true in
theorem bk_inR {s : Nat} (hs : s ≤ 26) (t : Tag) : (bkOf t).any (fun j => decide (j < s + 1)) = inR (2 ^ s) t := by
  cases t <;> first | rfl | skip
  rename_i x
  rw [bkOf_int]
  have p26 : 2 ^ s ≤ 2 ^ 26 := Nat.pow_le_pow_right (by decide) hs
  by_cases h : 1 ≤ x ∧ x ≤ 2 ^ 26
  · rw [if_pos h]
    obtain ⟨n, rfl⟩ := Int.eq_ofNat_of_zero_le (show 0 ≤ x by (refine Int.not_lt.mp fun _ => ?_; lia -abstractProof))
    have c := clg_le (x := n) (s := s) (by (refine Nat.le_of_not_lt fun _ => ?_; lia -abstractProof))
    have r := clg_big h.1 h.2
    simp only [Option.any_some, inR]
    rw [Bool.eq_iff_iff]
    simp only [decide_eq_true_eq]
    exact ⟨fun z => ⟨h.1, Int.ofNat_le.mpr (c.mp (Int.toNat_le.mp (Nat.le_of_lt_succ z)))⟩, fun z => Nat.lt_succ_of_le (Int.toNat_le.mpr (c.mpr (Int.ofNat_le.mp z.2)))⟩
  · rw [if_neg h]
    simp only [Option.any_none, inR]
    symm
    rw [decide_eq_false_iff_not]
    intro z
    apply h
    refine ⟨z.1, ?_⟩
    have : ((2 ^ s : Nat) : Int) ≤ ((2 ^ 26 : Nat) : Int) := by exact_mod_cast p26
    have e : ((2 ^ 26 : Nat) : Int) = 2 ^ 26 := by decide
    (refine Int.not_lt.mp fun _ => ?_; lia -abstractProof)
theorem bk_some27 (t : Tag) : (bkOf t).any (fun j => decide (j < 27)) = (bkOf t).isSome := by
  cases h : bkOf t with
  | none => rfl
  | some j => simpa using bk_lt h
set_option tactic.hygienic true in
theorem vanR_len : ∀ (xs : List V) (s : Nat), (vanR s xs).length = xs.countP (fun v => !isNone v)
  | [], _ => rfl
  | x :: r, s => by
    unfold vanR
    rw [List.countP_cons]
    split
    · rename_i e; rw [vanR_len r]; simp [e]
    · rename_i e; rw [List.length_cons, vanR_len r]; simp [e]
set_option tactic.hygienic true in
theorem nodR_count (q : V → Bool) : ∀ xs : List Nd, (nodR xs).countP (fun p => q p.1) = xs.countP (fun n => !isNone n.value && q n.key)
  | [] => rfl
  | x :: r => by
    unfold nodR
    rw [List.countP_cons]
    split
    · rename_i e; rw [nodR_count q r]; simp [e]
    · rename_i e; rw [List.countP_cons, nodR_count q r]; simp [e]
theorem cnt_nds (T : Tb) (p : Nd → Bool) : ((T.nds.map (·.2)).reverse).countP p = cnt T.n (fun i => p (T.nd i)) := by
  rw [List.countP_reverse, cnt_list ⟨.none, .none, -1⟩]
  unfold Tb.n
  rw [List.length_map]
  refine cnt_congr fun i hi => ?_
  unfold Tb.nd
  rw [List.getD_eq_getElem?_getD, List.getElem?_map]
theorem van_out (ν : Nu) (T : Tb) (a : Nat) : (vanR (a + 1) (T.arr.drop a)).countP (fun p => !inR a (tag ν p.1)) = (T.arr.drop a).countP (fun v => !isNone v) := by
  rw [← vanR_len (T.arr.drop a) (a + 1), List.countP_eq_length]
  intro p hp
  obtain ⟨k, v⟩ := p
  obtain ⟨i, rfl, _, _⟩ := mem_vanR hp
  exact congrArg (!·) (decide_eq_false fun h => by have := h.2; lia -abstractProof)
theorem nd_out (ν : Nu) (T : Tb) (a : Nat) : cnt T.n (fun i => !isNone (T.nd i).value && !inR a (tag ν (T.nd i).key)) + cnt T.n (fun i => ndL T i && inR a (tag ν (T.nd i).key)) = cnt T.n (ndL T) := by
  rw [cnt_add fun i q_ h => by cases hx : inR a (tag ν (T.nd i).key) <;> simp [hx] at h]
  refine cnt_congr fun i q_ => ?_
  unfold ndL
  cases isNone (T.nd i).value <;> cases inR a (tag ν (T.nd i).key) <;> rfl
theorem arr_out (T : Tb) (a : Nat) : (T.arr.drop a).countP (fun v => !isNone v) + cnt T.arr.length (fun i => arrL T i && decide (i < a)) = cnt T.arr.length (arrL T) := by
  by_cases h : a ≤ T.arr.length
  · obtain ⟨m, hm⟩ : ∃ m, T.arr.length = a + m := Nat.exists_eq_add_of_le h
    rw [cnt_list .none, List.length_drop, hm, cnt_shift a m, cnt_shift a m]
    have c1 : cnt a (fun i => arrL T i && decide (i < a)) = cnt a (arrL T) := cnt_congr fun i hi => by rw [decide_eq_true hi, Bool.and_true]
    have c2 : cnt m (fun i => arrL T (a + i) && decide (a + i < a)) = 0 := by
      exact cnt_z fun i q_ => by rw [decide_eq_false (fun h => Nat.not_lt.mpr (Nat.le_add_right a i) h), Bool.and_false]
    have c3 : cnt (a + m - a) (fun i => !isNone ((T.arr.drop a).getD i .none)) = cnt m (fun i => arrL T (a + i)) := by
      rw [Nat.add_sub_cancel_left]
      refine cnt_congr fun i hi => ?_
      unfold arrL
      rw [List.getD_eq_getElem?_getD, List.getD_eq_getElem?_getD, List.getElem?_drop]
    rw [c3, c1, c2]; exact Nat.add_comm ..
  · rw [List.drop_eq_nil_of_le (Nat.le_of_lt (Nat.not_le.mp h))]
    have := cnt_congr (n := T.arr.length) (p := fun i => arrL T i && decide (i < a)) (q := arrL T) fun i hi => by rw [decide_eq_true (Nat.lt_trans hi (Nat.not_le.mp h)), Bool.and_true]
    rw [this]; exact Nat.zero_add _
theorem restL_out (ν : Nu) (T : Tb) (a : Nat) : (restL T a).countP (fun p => !inR a (tag ν p.1)) + (cnt T.arr.length (fun i => arrL T i && decide (i < a)) + cnt T.n (fun i => ndL T i && inR a (tag ν (T.nd i).key))) = lives T := by
  unfold restL lives
  rw [List.countP_append, nodR_count (fun k => !inR a (tag ν k)), cnt_nds]
  have e1 := van_out ν T a
  have e2 := arr_out T a
  have e3 := nd_out ν T a
  rw [e1, ← e2, ← e3]; exact Nat.add_add_add_comm ..
theorem restL_len (T : Tb) (a : Nat) : (restL T a).length + cnt T.arr.length (fun i => arrL T i && decide (i < a)) = lives T := by
  unfold restL lives
  rw [List.length_append, vanR_len]
  have h1 := nodR_count (fun q_ => true) (T.nds.map (·.2)).reverse
  have h2 : (nodR (T.nds.map (·.2)).reverse).length = cnt T.n (ndL T) := by
    rw [← List.countP_true, h1, cnt_nds]
    refine cnt_congr fun i q_ => ?_
    unfold ndL; rw [Bool.and_true]
  rw [h2]
  have e2 := arr_out T a
  rw [← e2]; exact Nat.add_right_comm ..
theorem ins_arr {ν T x v} (I : Inv ν T) (h : 1 ≤ x ∧ x ≤ (T.arr.length : Int)) : Ins ν T { T with arr := T.arr.set (x - 1).toNat v } (.int x) v := by
  have el : (T.arr.set (x - 1).toNat v).length = T.arr.length := List.length_set ..
  have lk : ∀ t, nlook ν { T with arr := T.arr.set (x - 1).toNat v } t = nlook ν T t := fun q_ => rfl
  refine ⟨⟨I.sz, by show (T.arr.set _ _).length ≤ _; rw [el]; exact I.sa, I.fr, I.keys, I.vals, I.gr, I.full, I.uniq, fun i y hi e => ?_⟩, fun t ht => ?_, fun t ht h => .inl h, ?_⟩
  · show ¬ (1 ≤ y ∧ y ≤ ((T.arr.set (x - 1).toNat v).length : Int)); rw [el]; exact I.out i y hi e
  · by_cases e : t = .int x
    · subst e
      rw [if_pos rfl, look_arr (by show 1 ≤ x ∧ x ≤ ((T.arr.set (x - 1).toNat v).length : Int); rw [el]; exact h)]
      show ((T.arr.set (x - 1).toNat v)[(x - 1).toNat]?).getD .none = v
      rw [List.getElem?_set_self (by omega)]; rfl
    · rw [if_neg e]
      by_cases hi : inArr T t = true
      · obtain ⟨y, hi'⟩ := inA_of hi
        clear hi
        have hi := hi'
        rw [look_arr hi, look_arr (by show 1 ≤ y ∧ y ≤ ((T.arr.set (x - 1).toNat v).length : Int); rw [el]; exact hi)]
        show ((T.arr.set (x - 1).toNat v)[(y - 1).toNat]?).getD .none = _
        rw [List.getElem?_set_ne]
        intro z; exact e (by rw [show y = x by omega])
      · have hi : inArr T t = false := by simpa using hi
        rw [look_node hi, look_node (by rw [inArr_eq] at hi ⊢; show inR (T.arr.set (x - 1).toNat v).length t = _; rw [el]; exact hi)]
        rfl
  · unfold lives
    show cnt (T.arr.set (x - 1).toNat v).length _ + cnt T.n _ ≤ _
    rw [el]
    have := cnt_ins (n := T.arr.length) (p := arrL { T with arr := T.arr.set (x - 1).toNat v }) (q := arrL T) (x - 1).toNat fun i hi h => by
      by_cases z : i = (x - 1).toNat
      · exact .inr z
      · left
        unfold arrL at *
        have : (T.arr.set (x - 1).toNat v).getD i .none = T.arr.getD i .none := by
          rw [List.getD_eq_getElem?_getD, List.getD_eq_getElem?_getD, List.getElem?_set_ne (Ne.symm z)]
        rw [← this]; exact h
    have e2 : ndL { T with arr := T.arr.set (x - 1).toNat v } = ndL T := rfl
    rw [e2]; omega
noncomputable def c_put_back_1 : Cd := .ld 2 <| .ld 0 <| .fld "array" <| .ld 4 <| .lit (.int (1)) <| .bin .Sub <| .stx <| .fin
noncomputable def c_put_back_2 : Cd := .ld 0 <| .mld cT "new_key" <| .ld 1 <| .ld 2 <| .ld 3 <| .call (.ref 294) 4 <| .pop <| .fin
noncomputable def c_put_back_3 : Cd := .ld 0 <| .fld "array" <| .call (.bi "len") 1 <| .cmp .LtE <| .br (c_put_back_1) (c_put_back_2)
noncomputable def c_put_back : Cd := .ld 1 <| .call (.ref 188) 1 <| .st 4 <| .lit (.int (1)) <| .ld 4 <| .chn .LtE (c_put_back_3) (c_put_back_2)
section
variable {ν : Nu} {σ : MH}
theorem aidx_arr {T : Tb} {k : V} : inArr T (tag ν k) = decide (1 ≤ aidx k ∧ aidx k ≤ (T.arr.length : Int)) := by
  have no : decide ((1 : Int) ≤ -1 ∧ (-1 : Int) ≤ (T.arr.length : Int)) = false := decide_eq_false fun h => absurd h.1 (by decide)
  cases k with
  | int => rfl
  | ref a =>
    refine Eq.trans ?_ no.symm
    cases e : ν a with
    | none => show inArr T (match ν a with | some r => .ref r.kind r.num | none => .bad) = _; rw [e]; rfl
    | some r => rw [tag_ref e]; rfl
  | _ => exact no.symm
theorem tag_aidx {T : Tb} {k : V} (h : inArr T (tag ν k) = true) : tag ν k = .int (aidx k) := by
  cases k with
  | int => rfl
  | ref a => rw [aidx_arr] at h; exact absurd (of_decide_eq_true h).1 (show ¬ (1 : Int) ≤ -1 by decide)
  | _ => cases h
theorem put_back_wp {g : G} {d : Nat} (L : Law g) {t T k v} {Post : MH → Prop} (hdd : 3 ≤ d) (K : Knows σ ν) (hT : TR σ t T) (I : Inv ν T) (hk : AnyV ν k) (hv : v.plain = true)
    (hn : inArr T (tag ν k) = false → Fn d 294 [.ref t, k, v, .none] (fun r σ' => r = .none ∧ Post σ') σ)
    (ha : inArr T (tag ν k) = true → ∀ σ' T', TR σ' t T' → Mv σ t T σ' T' → Ins ν T T' (tag ν k) v → T'.arr.length = T.arr.length → T'.n = T.n → kc T' = kc T → Post σ') :
    wp c_put_back ⟨g, d, noX⟩ (retC fun r σ' => r = .none ∧ Post σ') [] [some (.ref t), some k, some v, some .none, none] σ := by
  have ai := aidx_arr (ν := ν) (T := T) (k := k)
  have hdd' : Nat.ble d d = true := Nat.ble_eq.mpr (Nat.le_refl d)
  have no : ¬ (1 ≤ aidx k ∧ aidx k ≤ (T.arr.length : Int)) → wp c_put_back_2 ⟨g, d, noX⟩ (retC fun r σ' => r = .none ∧ Post σ') [] [some (.ref t), some k, some v, some .none, some (.int (aidx k))] σ := fun h =>
    Meth.tab hT rfl (Pv.fn L (hn (by rw [ai, decide_eq_false h])) hdd' fun v σ' e => ⟨rfl, e.2⟩)
  refine Pv.fn1 L (array_index_ok K hk) (Nat.ble_eq.mpr (Nat.le_trans (Nat.le_of_ble_eq_true rfl) hdd)) (brk2.dec (fun hp => Pv.array L hT (Pv.lenA hT (brk2.dec (fun hq => ?_) fun hq => no fun z => hq z.2))) fun hp => no fun z => hp z.1)
  refine Pv.array L hT (Pu.arr hT (by (refine Int.not_lt.mp fun q_ => ?_; lia -abstractProof)) (by (refine Int.lt_of_not_ge fun q_ => ?_; lia -abstractProof)) hv fun σ1 hT1 m1 => ⟨rfl, ?_⟩)
  have e : inArr T (tag ν k) = true := by rw [ai, decide_eq_true ⟨hp, hq⟩]
  refine ha e _ _ hT1 m1 ?_ (List.length_set ..) rfl rfl
  rw [tag_aidx e]
  exact ins_arr I ⟨hp, hq⟩
theorem put_back_gen {d : Nat} {t T k v} {Post : MH → Prop} (hdd : 3 ≤ d) (K : Knows σ ν) (hT : TR σ t T) (I : Inv ν T) (hk : AnyV ν k) (hv : v.plain = true)
    (hn : inArr T (tag ν k) = false → Fn d 294 [.ref t, k, v, .none] (fun r σ' => r = .none ∧ Post σ') σ)
    (ha : inArr T (tag ν k) = true → ∀ σ' T', TR σ' t T' → Mv σ t T σ' T' → Ins ν T T' (tag ν k) v → T'.arr.length = T.arr.length → T'.n = T.n → kc T' = kc T → Post σ') :
    Fn (d + 1) 337 [.ref t, k, v, .none] (fun r σ' => r = .none ∧ Post σ') σ ∧ Fn (d + 1) 301 [.ref t, k, v, .none] (fun r σ' => r = .none ∧ Post σ') σ :=
  ⟨Fn.go (ps := ["self", "key", "value", "heap"]) (rest := ["at"]) (code := c_put_back) (fun q_ => by kernel_rfl) (fun q_ => by kernel_rfl) (fun q_ => args4 fun q_ q_ q_ q_ => by kernel_rfl) (fun q_ => by kernel_rfl) rfl fun g L => put_back_wp L hdd K hT I hk hv hn ha,
    Fn.go (ps := ["self", "key", "value", "heap"]) (rest := ["at"]) (code := c_put_back) (fun q_ => by kernel_rfl) (fun q_ => by kernel_rfl) (fun q_ => args4 fun q_ q_ q_ q_ => by kernel_rfl) (fun q_ => by kernel_rfl) rfl fun g L => put_back_wp L hdd K hT I hk hv hn ha⟩
structure PutR (ν : Nu) (σ : MH) (t : Addr) (T : Tb) (k v : V) (σ' : MH) (T' : Tb) : Prop where
  tr : TR σ' t T'
  mv : Mv σ t T σ' T'
  ins : Ins ν T T' (tag ν k) v
  arr : T'.arr.length = T.arr.length
  n : T'.n = T.n
  kc : kc T' ≤ kc T + if inArr T (tag ν k) = true then 0 else 1
theorem put_room {t T k v} (K : Knows σ ν) (hν : ν t = none) (hT : TR σ t T) (I : Inv ν T) (hk : AnyV ν k) (hp : proper (tag ν k) = true) (hv : v.plain = true)
    (hno : inArr T (tag ν k) = false → ¬ HasKey ν T (tag ν k)) (hr : inArr T (tag ν k) = false → kc T < T.n) :
    Fn 6 337 [.ref t, k, v, .none] (fun r σ' => r = .none ∧ ∃ T', PutR ν σ t T k v σ' T') σ ∧ Fn 6 301 [.ref t, k, v, .none] (fun r σ' => r = .none ∧ ∃ T', PutR ν σ t T k v σ' T') σ := by
  refine put_back_gen (by decide) K hT I hk hv (fun hi => ?_) fun hi σ' T' h1 h2 h3 h4 h5 h6 => ⟨T', h1, h2, h3, h4, h5, by rw [h6]; (refine Nat.le_of_not_lt fun q_ => ?_; lia -abstractProof)⟩
  refine new_key_ok (d := 4) (by decide) K hν hT I hk hp hi (fun i h => hno hi ⟨i, h⟩) hv (fun e => absurd (hr hi) (by lia -abstractProof)) fun σ' T' h1 h2 h3 h4 h5 h6 => ⟨T', h1, h2, h3, by rw [h4], h5, by rw [hi]; simpa using h6⟩
end
theorem inv_fresh {ν T} (h1 : T.arr.length ≤ 2 ^ 22) (h2 : T.n = 0 ∨ ∃ k, k ≤ 20 ∧ T.n = 2 ^ k) (h3 : T.free = T.n) (h4 : ∀ i, i < T.n → T.nd i = nd0) : Inv ν T := by
  refine ⟨h2, h1, by lia -abstractProof, fun i hi => by rw [h4 i hi]; exact .none, fun i hi q_ => by rw [h4 i hi]; rfl, ⟨fun i hi => ?_, fun i hi q_ => ?_, fun i j hi hj q_ p => ?_, ⟨fun q_ => 0, fun i j hi hj e => ?_⟩, fun i hi h => absurd (by rw [h4 i hi]; rfl) h⟩,
    fun i hi h => by lia -abstractProof, fun i j hi q_ q_ h => (by rw [h4 i hi] at h; cases h), fun i x hi e => (by rw [h4 i hi] at e; cases e)⟩
  · rw [h4 i hi]; show (-1 : Int) ≤ -1 ∧ (-1 : Int) < _; lia -abstractProof
  · refine ⟨by rw [h4 i hi]; rfl, fun j hj => ?_⟩
    rw [h4 j hj]; show (-1 : Int) ≠ _; lia -abstractProof
  · rw [h4 i hi] at p; exact absurd p (by decide)
  · rw [h4 i hi] at e
    have e : (-1 : Int) = j := e
    (refine Nat.lt_of_not_le fun q_ => ?_; lia -abstractProof)
theorem cnt_drop (T : Tb) (a : Nat) : (T.arr.drop a).countP (fun v => !isNone v) + cnt T.arr.length (fun i => arrL T i && decide (i < a)) = cnt T.arr.length (arrL T) := by
  have := restL_len { T with nds := [] } a
  unfold restL lives at this
  rw [List.length_append, vanR_len] at this
  have e : (nodR (({ T with nds := [] } : Tb).nds.map (·.2)).reverse).length = 0 := rfl
  rw [e] at this
  have e2 : cnt ({ T with nds := [] } : Tb).n (ndL { T with nds := [] }) = 0 := rfl
  rw [e2] at this
  exact this
theorem kc_zero {T : Tb} (h : ∀ i, i < T.n → T.nd i = nd0) : kc T = 0 := by
  unfold kc
  exact cnt_z fun i hi => by rw [h i hi]; rfl
theorem lives_start {T T4 : Tb} {a : Nat} (ha : T4.arr = T.arr.take a ++ List.replicate (a - T.arr.length) .none) (h : ∀ i, i < T4.n → T4.nd i = nd0) : lives T4 = cnt T.arr.length (fun i => arrL T i && decide (i < a)) := by
  have e1 : cnt T4.n (ndL T4) = 0 := cnt_z fun i hi => by unfold ndL; rw [h i hi]; rfl
  have e2 : cnt T4.arr.length (arrL T4) = T4.arr.countP (fun v => !isNone v) := (cnt_list V.none (fun v => !isNone v) T4.arr).symm
  have e3 : cnt T.arr.length (arrL T) = T.arr.countP (fun v => !isNone v) := (cnt_list V.none (fun v => !isNone v) T.arr).symm
  have e4 : T.arr.countP (fun v => !isNone v) = (T.arr.take a).countP (fun v => !isNone v) + (T.arr.drop a).countP (fun v => !isNone v) := by
    rw [← List.countP_append, List.take_append_drop]
  have e5 : T4.arr.countP (fun v => !isNone v) = (T.arr.take a).countP (fun v => !isNone v) := by
    rw [ha, List.countP_append, List.countP_replicate]; simp [isNone]
  have := cnt_drop T a
  unfold lives
  lia -abstractProof
structure RsR (ν : Nu) (T T' : Tb) : Prop where
  inv : Inv ν T'
  look : ∀ t, proper t = true → Mn.look ν T' t = Mn.look ν T t
  live : ∀ t, proper t = true → HasKey ν T' t → Mn.look ν T t ≠ .none
  lives : Mn.lives T' ≤ Mn.lives T
theorem Inv.size {ν T v} (I : Inv ν T) : Inv ν { T with size := v } := ⟨I.sz, I.sa, I.fr, I.keys, I.vals, I.gr, I.full, I.uniq, I.out⟩
theorem JJ.done {ν T T'} (J : JJ ν T T' []) (h : Mn.lives T' ≤ Mn.lives T) : RsR ν T T'.weighed := ⟨J.inv.size, fun t ht => J.same t ht (by simp), fun t ht h => J.live t ht h, h⟩
theorem Mv.of_keep {σ t T σ'} (h : ∀ b o, σ b = some o → σ' b = some o) : Mv σ t T σ' T := ⟨fun b o e q_ => h b o e, fun q_ h => .inl h, fun b o e => ⟨o, h b o e⟩, rfl⟩
noncomputable def outs (ν : Nu) (T : Tb) (a : Nat) : Nat := (restL T a).countP (fun p => !inR a (tag ν p.1))
theorem fnAt_of {K : Frag} {a : Addr} {P : FuncData → Prop} (h : X4 fun oc od fd sl => K.lookup a = some ⟨oc, od, .func fd, sl⟩ ∧ P fd) : P (fnAt K a) := by
  obtain ⟨oc, od, fd, sl, e, h⟩ := h
  unfold fnAt; rw [e]; exact h
theorem Fn.goD {fn : Addr} {ps rest : List Str} {code : Cd} {d : Nat} {args dv : List V} {Q : V → MH → Prop} {σ : MH} (H : ∀ P, fnChk (hd.heap_1 P) fn ps = true) (hcell : ∀ P, (fnAt (hd.heap_1 P) fn).scope.names.all (fun x => x.2 != .cell) = true)
    (hb : ∀ P (s : Shared) (rargs : List Value), (hd.heap_1 P).In s.heap → rargs.length = args.length → ∃ rdv, BindsTo s (fnAt (hd.heap_1 P) fn) ⟨rargs, []⟩ (ps.zip (rargs ++ rdv)) ∧ ∀ h, VsRel h dv rdv) (hc : ∀ P, codeOf theTabs (hd.heap_1 P) fn (ps ++ rest) = some code) (hn : ps.length = args.length + dv.length)
    (h : ∀ g, Law g → wp code ⟨g, d, noX⟩ (retC Q) [] (pad (args ++ dv) rest) σ) : Fn (d + 1) fn args Q σ := fun g L =>
  WCall.go (dv := dv) (tabs_ok L) L.cX (by rw [L.K]; exact H _) (by rw [L.K]; exact hcell _) hn (fun s rargs Ki hl => by rw [L.K] at Ki ⊢; exact hb _ s rargs Ki hl) (by rw [L.K]; exact hc _) (h g L)
theorem binds_resize4 : ∀ P (s : Shared) (rargs : List Value), (hd.heap_1 P).In s.heap → rargs.length = 4 → ∃ rdv, BindsTo s (fnAt (hd.heap_1 P) 330) ⟨rargs, []⟩ ((["self", "array_size", "hash_size", "heap"] : List Str).zip (rargs ++ rdv)) ∧ ∀ h, VsRel h [] rdv := fun P s rargs h => args4 (P := fun rargs => ∃ rdv, BindsTo s (fnAt (hd.heap_1 P) 330) ⟨rargs, []⟩ ((["self", "array_size", "hash_size", "heap"] : List Str).zip (rargs ++ rdv)) ∧ ∀ h, VsRel h [] rdv) (fun x y z w => ⟨[], fnAt_of (P := fun fd => BindsTo s fd ⟨[x, y, z, w], []⟩ _) ⟨_, _, _, _, rfl, BindsTo.of_defaults (T := 323) rfl (h 323 _ rfl) rfl rfl rfl⟩, fun q_ => .nil⟩) rargs
theorem binds_resize3 : ∀ P (s : Shared) (rargs : List Value), (hd.heap_1 P).In s.heap → rargs.length = 3 → ∃ rdv, BindsTo s (fnAt (hd.heap_1 P) 330) ⟨rargs, []⟩ ((["self", "array_size", "hash_size", "heap"] : List Str).zip (rargs ++ rdv)) ∧ ∀ h, VsRel h [V.none] rdv := fun P s rargs h => args3 (P := fun rargs => ∃ rdv, BindsTo s (fnAt (hd.heap_1 P) 330) ⟨rargs, []⟩ ((["self", "array_size", "hash_size", "heap"] : List Str).zip (rargs ++ rdv)) ∧ ∀ h, VsRel h [V.none] rdv) (fun x y z => ⟨[.none], fnAt_of (P := fun fd => BindsTo s fd ⟨[x, y, z], []⟩ _) ⟨_, _, _, _, rfl, BindsTo.of_defaults (T := 323) rfl (h 323 _ rfl) rfl rfl rfl⟩, fun q_ => .cons .none .nil⟩) rargs
section
variable {ν : Nu} {σ : MH}
theorem Fn.mono {n fn args} {Q Q' : V → MH → Prop} (h : Fn n fn args Q σ) (k : ∀ v σ, Q v σ → Q' v σ) : Fn n fn args Q' σ := fun g L => (h g L).mono k fun q_ x => x
theorem resize_ok {t T} {d : Nat} {a h : Nat} {J : Tb → List (V × V) → Prop} (hdd : 5 ≤ d) (K : Knows σ ν) (hν : ν t = none) (hT : TR σ t T) (ha : a ≤ 2 ^ 22) (hh : h ≤ 2 ^ 20)
    (hJ0 : ∀ T4, T4.arr = T.arr.take a ++ List.replicate (a - T.arr.length) .none → T4.n = places h → (∀ i, i < T4.n → T4.nd i = nd0) → T4.free = T4.n → J T4 (restL T a))
    (step : ∀ σc Tc k v rest, J Tc ((k, v) :: rest) → TR σc t Tc → Knows σc ν → Fn d 337 [.ref t, k, v, .none] (fun r σ' => r = .none ∧ ∃ Tc', A3 (TR σ' t Tc') (Mv σc t Tc σ' Tc') (J Tc' rest)) σc) :
    Fn (d + 1) 330 [.ref t, .int a, .int h, .none] (fun r σ' => r = .none ∧ X2 fun T' T'' => A4 (TR σ' t T') (Mv σ t T σ' T') (T' = T''.weighed) (J T'' [])) σ ∧
    Fn (d + 1) 330 [.ref t, .int a, .int h] (fun r σ' => r = .none ∧ X2 fun T' T'' => A4 (TR σ' t T') (Mv σ t T σ' T') (T' = T''.weighed) (J T'' [])) σ :=
  ⟨Fn.goD (ps := ["self", "array_size", "hash_size", "heap"]) (dv := []) (rest := ["old_nodes", "vanishing", "step", "value", "node"]) (code := c_resize) (fun q_ => by kernel_rfl) (fun q_ => by kernel_rfl) binds_resize4 (fun q_ => by kernel_rfl) rfl fun g L => resize_body L hdd K hν hT ha hh hJ0 step,
    Fn.goD (ps := ["self", "array_size", "hash_size", "heap"]) (dv := [.none]) (rest := ["old_nodes", "vanishing", "step", "value", "node"]) (code := c_resize) (fun q_ => by kernel_rfl) (fun q_ => by kernel_rfl) binds_resize3 (fun q_ => by kernel_rfl) rfl fun g L => resize_body L hdd K hν hT ha hh hJ0 step⟩
theorem resize_room {t T} {a h : Nat} (K : Knows σ ν) (hν : ν t = none) (hT : TR σ t T) (I : Inv ν T) (ha : a ≤ 2 ^ 22) (hh : h ≤ 2 ^ 20) (hr : outs ν T a ≤ h) :
    Fn 7 330 [.ref t, .int a, .int h, .none] (fun r σ' => r = .none ∧ ∃ T', A6 (TR σ' t T') (Mv σ t T σ' T') (RsR ν T T') (T'.arr.length = a) (T'.n = places h) (kc T' ≤ outs ν T a)) σ := by
  have pl := places_le hh
  have w := resize_ok (σ := σ) (d := 6) (J := fun Tc L => A5 (JJ ν T Tc L) (Tc.arr.length = a) (Tc.n = places h) (kc Tc + L.countP (fun p => !inR a (tag ν p.1)) ≤ outs ν T a) (lives Tc + L.length ≤ lives T))
    (by decide) K hν hT ha hh (fun T4 h1 h2 h3 h4 => ?_) (fun σc Tc k v rest ⟨j1, j2, j3, j4, j5⟩ trc Kc => ?_)
  · refine w.1.mono ?_
    rintro r σ' ⟨rfl, T', T'', h1, h2, rfl, j1, j2, j3, j4, j5⟩
    refine ⟨rfl, _, h1, h2, j1.done j5, j2, j3, ?_⟩
    simp only [List.countP_nil, Nat.add_zero] at j4
    exact j4
  · have e0 : T4.arr.length = a := by rw [h1]; exact take_rep_len ..
    have I4 : Inv ν T4 := inv_fresh (by rw [e0]; exact ha) (by rw [h2]; exact pl.2.2) h4 h3
    refine ⟨JJ.start I I4 hT.pa (fun i hi => ?_) h1 fun i hi => by rw [h3 i hi]; rfl, e0, h2, ?_, ?_⟩
    · obtain ⟨ad, had⟩ := T.nd_get hi
      exact (hT.pn _ (List.mem_of_getElem? had)).2
    · rw [kc_zero h3, Nat.zero_add]; exact Nat.le_refl _
    · rw [lives_start h1 h3]; exact Nat.le_of_eq ((Nat.add_comm ..).trans (restL_len T a))
  · have ok := j1.ok _ (.head _)
    have ci : (rest.countP fun p => !inR a (tag ν p.1)) + (if inArr Tc (tag ν k) = true then 0 else 1) = ((k, v) :: rest).countP fun p => !inR a (tag ν p.1) := by
      rw [List.countP_cons, inArr_eq, j2]
      cases inR a (tag ν k) <;> simp
    have := (put_room Kc hν trc j1.inv ok.1 ok.2.1 ok.2.2.1 (fun q_ => j1.out _ (.head _)) (fun hi => by rw [hi] at ci; rw [← ci] at j4; rw [j3]; exact Nat.lt_of_lt_of_le (Nat.lt_of_lt_of_le (Nat.lt_add_of_pos_right (Nat.succ_pos _)) j4) (Nat.le_trans hr pl.1))).1
    refine this.mono ?_
    rintro r σ' ⟨rfl, Tc', q⟩
    refine ⟨rfl, Tc', q.tr, q.mv, j1.step q.ins, q.arr.trans j2, q.n.trans j3, ?_, ?_⟩
    · have q' : kc Tc' ≤ kc Tc + if inArr Tc (tag ν k) = true then 0 else 1 := q.kc
      refine Nat.le_trans (Nat.add_le_add_right q' _) (Nat.le_trans (Nat.le_of_eq ?_) j4)
      rw [← ci, ← Nat.add_assoc]; exact Nat.add_right_comm ..
    · exact Nat.le_trans (Nat.add_le_add_right q.ins.lives _) (by rw [Nat.add_right_comm]; exact j5)
theorem Knows.none {c} (K : Knows σ ν) (h : σ c = none) : ν c = none := by
  cases e : ν c with
  | none => rfl
  | some r => obtain ⟨_, fs, h2, _⟩ := K.at_ c r e; rw [h] at h2; cases h2
noncomputable def c_rehash : Cd := .lit (.int (0)) <| .lst 1 <| .lit (.int (26)) <| .lit (.int (1)) <| .bin .Add <| .bin .Mult <| .st 3 <| .ld 0 <| .mld cT "count_array" <| .ld 3 <| .call (.ref 308) 2 <| .st 4 <| .ld 4 <| .st 5 <| .ld 0 <| .mld cT "count_nodes" <| .ld 3 <| .call (.ref 315) 2 <| .unp false [6, 7] <| .ld 5 <| .ld 6 <| .lit (.int (1)) <| .bin .Add <| .inp .Add <| .st 5 <| .ld 4 <| .ld 7 <| .ld 1 <| .ld 3 <| .call (.ref 202) 2 <| .bin .Add <| .inp .Add <| .st 4 <| .ld 3 <| .ld 4 <| .call (.ref 195) 2 <| .unp false [8, 9] <| .ld 0 <| .mld cT "resize" <| .ld 8 <| .ld 5 <| .ld 9 <| .bin .Sub <| .ld 2 <| .call (.ref 330) 4 <| .pop <| .fin
theorem Pv.mulList {E : En} {K : V → MH → Prop} {a v} {k : Nat} {σ : MH} (hσ : σ a = some (.list [v])) (hk : k ≤ 2 ^ 24) (h : ∀ c, σ c = none → K (.ref c) (upd σ c (.list (List.replicate k v)))) : Pv E (t2 (binaryOp .Mult)) [.ref a, .int (k : Nat)] K σ := ⟨fun q_ q_ => PV.mulList hσ hk h⟩
end
noncomputable def cI (ν : Nu) (T : Tb) (k : Tag) (a : Nat) : Nat := cnt T.arr.length (fun i => arrL T i && decide (i < a)) + cnt T.n (fun i => ndL T i && inR a (tag ν (T.nd i).key)) + (if inR a k = true then 1 else 0)
theorem cI_zero (ν T k) : cI ν T k 0 = 0 := by
  have h1 : cnt T.arr.length (fun i => arrL T i && decide (i < 0)) = 0 := cnt_z fun i q_ => by rw [decide_eq_false (Nat.not_lt_zero i), Bool.and_false]
  have h2 : cnt T.n (fun i => ndL T i && inR 0 (tag ν (T.nd i).key)) = 0 := cnt_z fun i q_ => by rw [inR_0, Bool.and_false]
  have h3 : inR 0 k = false := inR_0 _
  unfold cI
  rw [h1, h2, h3]; rfl
section
variable {ν : Nu} {σ : MH}
theorem rehash_ok {t T k} (K : Knows σ ν) (hν : ν t = none) (hT : TR σ t T) (I : Inv ν T) (hk : AnyV ν k) (hB : lives T + 1 ≤ 2 ^ 19) :
    Fn 8 322 [.ref t, k, .none] (fun r σ' => r = .none ∧ ∃ T', A4 (TR σ' t T') (Mv σ t T σ' T') (RsR ν T T') ((inArr T' (tag ν k) = false → kc T' < T'.n))) σ := by
  refine Fn.go (ps := ["self", "extra", "heap"]) (rest := ["counts", "whole", "total", "in_nodes", "whole_nodes", "size", "used"]) (code := c_rehash) (fun q_ => by kernel_rfl) (fun q_ => by kernel_rfl) (fun q_ => args3 fun q_ q_ q_ => by kernel_rfl) (fun q_ => by kernel_rfl) rfl fun g L => ?_
  intro a0 ha0
  refine Pv.mulList (k := 27) (upd_same ..) (by decide) fun c hc => ?_
  have hc0 : σ c = none := isNone_of fun o e => by rw [upd_ne _ _ (fun z => by rw [z, ha0] at e; cases e), e] at hc; cases hc
  have nea : c ≠ T.aa := fun z => by have := hT.arr; rw [← z, hc0] at this; cases this
  have nen : c ≠ T.na := fun z => by have := hT.nl; rw [← z, hc0] at this; cases this
  have hT2 := ((hT.new (o := .list [.int 0]) ha0).1.new (o := .list (List.replicate 27 (.int 0))) hc).1
  have K2 := (K.fresh (o := .list [.int 0]) ha0).fresh (o := .list (List.replicate 27 (.int 0))) hc
  have k2 : ∀ b o, σ b = some o → upd (upd σ a0 (.list [.int 0])) c (.list (List.replicate 27 (.int 0))) b = some o := fun b o e =>
    (upd_ne _ _ fun z => by rw [z, hc0] at e; cases e).trans ((upd_ne _ _ fun z => by rw [z, ha0] at e; cases e).trans e)
  have c2 : CntAt (upd (upd σ a0 (.list [.int 0])) c (.list (List.replicate 27 (.int 0)))) c (fun q_ => 0) := upd_same ..
  show wp (.st 3 <| .ld 0 <| _) _ _ [.ref c] _ (upd (upd σ a0 (.list [.int 0])) c (.list (List.replicate 27 (.int 0))))
  generalize upd (upd σ a0 (.list [.int 0])) c (.list (List.replicate 27 (.int 0))) = σ2 at hT2 K2 k2 c2
  have A2 : ∀ {σ' F}, CntAt σ' c F → Away σ' T c := fun h => Away.of h nea nen
  have kc_ : ∀ {σ' : MH}, (∀ b, b ≠ c → σ' b = σ2 b) → ∀ b o, σ b = some o → σ' b = some o := fun h b o e => (h b fun z => by rw [z, hc0] at e; cases e).trans (k2 b o e)
  refine Meth.tab hT2 rfl (Pv.fn L (count_array_ok hT2 I.sa c2 (A2 c2)) rfl ?_)
  rintro _ σ3 ⟨rfl, c3, s3⟩
  have hT3 := (A2 c2).tr hT2 s3
  have K3 := (A2 c2).kn K2 s3
  refine Meth.tab hT3 rfl (Pv.fn L (count_nodes_ok K3 hT3 I.keys c3 nea nen) rfl ?_)
  rintro _ σ4 ⟨rfl, c4, s4⟩
  have hT4 := (A2 c3).tr hT3 s4
  have K4 := (A2 c3).kn K3 s4
  refine Pv.fn L (count_key_ok K4 c4 hk) rfl ?_
  rintro _ σ5 ⟨rfl, c5, s5⟩
  have hT5 := (A2 c4).tr hT4 s5
  have K5 := (A2 c4).kn K4 s5
  have s25 : ∀ b, b ≠ c → σ5 b = σ2 b := fun b hb => (s5 b hb).trans ((s4 b hb).trans (s3 b hb))
  have m5 : Mv σ t T σ5 T := Mv.of_keep (kc_ s25)
  have hlen : T.arr.length ≤ 2 ^ 22 := I.sa
  -- the sums
  have sums : ∀ q, Sm (fun j => cnt T.arr.length (arrB T j) + cnt T.n (ndB ν T j) + if bkOf (tag ν k) = some j then 1 else 0) q =
      cnt T.arr.length (fun i => arrL T i && (bkOf (.int ((i : Nat) + 1 : Int))).any (fun j => decide (j < q))) + cnt T.n (fun i => ndL T i && (bkOf (tag ν (T.nd i).key)).any (fun j => decide (j < q))) + (if (bkOf (tag ν k)).any (fun j => decide (j < q)) = true then 1 else 0) := fun q => by
    have a1 := Sm_cnt T.arr.length (arrL T) (fun i => bkOf (.int ((i : Nat) + 1 : Int))) q
    have a2 := Sm_cnt T.n (ndL T) (fun i => bkOf (tag ν (T.nd i).key)) q
    have a3 := Sm_one (bkOf (tag ν k)) q
    rw [Sm_add (fun j => cnt T.arr.length (arrB T j) + cnt T.n (ndB ν T j)), Sm_add (fun j => cnt T.arr.length (arrB T j)), a3]
    unfold arrB ndB
    rw [a1, a2]
  have e27 : Sm (fun j => cnt T.arr.length (arrB T j) + cnt T.n (ndB ν T j) + if bkOf (tag ν k) = some j then 1 else 0) 27 = cnt T.arr.length (arrL T) + cnt T.n (ndW ν T) + (if (bkOf (tag ν k)).isSome = true then 1 else 0) := by
    rw [sums 27]
    have b1 : cnt T.arr.length (fun i => arrL T i && (bkOf (.int ((i : Nat) + 1 : Int))).any (fun j => decide (j < 27))) = cnt T.arr.length (arrL T) := cnt_congr fun i hi => by
      rw [bk_some27, bkOf_int, if_pos ⟨Int.le_add_of_nonneg_left (Int.natCast_nonneg i), Int.ofNat_le.mpr (Nat.le_trans (Nat.lt_of_lt_of_le hi hlen) (by decide : 2 ^ 22 ≤ 2 ^ 26))⟩]; simp
    have b2 : cnt T.n (fun i => ndL T i && (bkOf (tag ν (T.nd i).key)).any (fun j => decide (j < 27))) = cnt T.n (ndW ν T) := cnt_congr fun i hi => by rw [bk_some27]; rfl
    rw [b1, b2, bk_some27]
  generalize hF : (fun j => cnt T.arr.length (arrB T j) + cnt T.n (ndB ν T j) + if bkOf (tag ν k) = some j then 1 else 0) = F at c5 sums e27
  have ew : ((cnt T.arr.length (arrL T) : Nat) : Int) + (((cnt T.n (ndW ν T) : Nat) : Int) + (if (bkOf (tag ν k)).isSome = true then 1 else 0)) = ((Sm F 27 : Nat) : Int) := by rw [e27]; split <;> exact (Int.add_assoc ..).symm
  show Pv _ tcall [_, _, .int (((cnt T.arr.length (arrL T) : Nat) : Int) + (((cnt T.n (ndW ν T) : Nat) : Int) + (if (bkOf (tag ν k)).isSome = true then 1 else 0)))] _ _
  rw [ew]
  refine Pv.fn L (compute_sizes_ok c5) rfl ?_
  rintro _ _ ⟨⟨size, used, rfl, sz⟩, rfl⟩
  -- how the sizes stand
  have lv : cnt T.arr.length (arrL T) + cnt T.n (ndL T) = lives T := rfl
  have ro := restL_out ν T size
  have hS : ∀ s, s ≤ 26 → Sm F (s + 1) = cI ν T (tag ν k) (2 ^ s) := fun s hs => by
    rw [sums (s + 1), bk_inR hs]
    have h1 : cnt T.arr.length (fun i => arrL T i && (bkOf (.int ((i : Nat) + 1 : Int))).any (fun j => decide (j < s + 1))) = cnt T.arr.length (fun i => arrL T i && decide (i < 2 ^ s)) := cnt_congr fun i hi => by
      rw [bk_inR hs]
      have : inR (2 ^ s) (.int ((i : Nat) + 1 : Int)) = decide (i < 2 ^ s) := decide_eq_decide.mpr ⟨fun h => Int.ofNat_le.mp h.2, fun h => ⟨Int.le_add_of_nonneg_left (Int.natCast_nonneg i), Int.ofNat_le.mpr h⟩⟩
      rw [this]
    have h2 : cnt T.n (fun i => ndL T i && (bkOf (tag ν (T.nd i).key)).any (fun j => decide (j < s + 1))) = cnt T.n (fun i => ndL T i && inR (2 ^ s) (tag ν (T.nd i).key)) := cnt_congr fun i hi => by rw [bk_inR hs]
    rw [h1, h2]; rfl
  obtain ⟨hx3, hx4⟩ : used = cI ν T (tag ν k) size ∧ size ≤ 2 * used := by
    rcases sz.or with ⟨rfl, rfl⟩ | ⟨s, hs, rfl, rfl, h⟩
    · exact ⟨(cI_zero ..).symm, by decide⟩
    · exact ⟨hS s hs, by exact Nat.le_of_lt (by assumption)⟩
  obtain ⟨x, hx2⟩ : ∃ x, x = if inR size (tag ν k) = true then 1 else 0 := ⟨_, rfl⟩
  have hx1 : x ≤ 1 := by rw [hx2]; split <;> decide
  have hx3 : used = cnt T.arr.length (fun i => arrL T i && decide (i < size)) + cnt T.n (fun i => ndL T i && inR size (tag ν (T.nd i).key)) + x := by rw [hx2]; exact hx3
  have ou : outs ν T size + used = lives T + x := by rw [hx3, ← Nat.add_assoc]; exact congrArg (· + x) ro
  have ou1 : outs ν T size + used ≤ lives T + 1 := by rw [ou]; exact Nat.add_le_add_left hx1 _
  have hle : used ≤ lives T + 1 := Nat.le_trans (Nat.le_add_left ..) ou1
  have h20 : lives T + 1 - used ≤ 2 ^ 20 := Nat.le_trans (Nat.sub_le ..) (Nat.le_trans hB (by decide))
  have eh : ((cnt T.arr.length (arrL T) : Nat) : Int) + (((cnt T.n (ndL T) : Nat) : Int) + 1) - (used : Nat) = ((lives T + 1 - used : Nat) : Int) := by
    rw [Int.ofNat_sub hle, ← lv, Int.natCast_add, Int.natCast_add, Int.add_assoc]; rfl
  refine Meth.tab hT5 rfl ?_
  show Pv _ tcall [_, _, _, .int (((cnt T.arr.length (arrL T) : Nat) : Int) + (((cnt T.n (ndL T) : Nat) : Int) + 1) - (used : Nat)), _] _ _
  rw [eh]
  refine Pv.fn L (resize_room K5 hν hT5 I (a := size) (h := lives T + 1 - used) (Nat.le_trans hx4 (Nat.le_trans (Nat.mul_le_mul_left 2 (Nat.le_trans hle hB)) (by decide))) h20 (Nat.le_sub_of_add_le ou1)) rfl ?_
  rintro _ σ6 ⟨rfl, T', tr6, m6, rs, r1, r2, r3⟩
  refine ⟨rfl, T', tr6, m5.trans m6, rs, fun hin => ?_⟩
  rw [inArr_eq, r1] at hin
  rw [hin] at hx2
  have hx2 : x = 0 := by simpa using hx2
  rw [r2]
  exact Nat.lt_of_le_of_lt r3 (Nat.lt_of_lt_of_le (Nat.lt_sub_of_add_lt (by rw [ou, hx2]; exact Nat.lt_succ_self _)) (places_le h20).1)
end
theorem Inv.free_ {ν T} {fr : Int} (I : Inv ν T) (h0 : 0 ≤ fr) (h1 : fr ≤ T.free) (h : kc T = T.n) : Inv ν { T with free := fr } :=
  ⟨I.sz, I.sa, ⟨h0, by have := I.fr.2; show fr ≤ _; exact Int.le_trans h1 this⟩, I.keys, I.vals, I.gr, fun i hi q_ z => by
    have := cnt_full h i hi
    have z : (T.nd i).key = .none := z
    rw [z] at this
    cases this
    done, I.uniq, I.out⟩
theorem ins_val {ν T i a v} (I : Inv ν T) (hi : T.nds[i]? = some (a, T.nd i)) {t : Tag} (ht : proper t = true) (h : IsAt ν T t i) : Ins ν T (T.setNd i { T.nd i with value := v }) t v := by
  have lt := h.1
  have nd := T.nd_setNd { T.nd i with value := v } lt
  have ky : ∀ j, ((T.setNd i { T.nd i with value := v }).nd j).key = (T.nd j).key := fun j => by rw [nd]; split <;> simp_all
  have nx : ∀ j, ((T.setNd i { T.nd i with value := v }).nd j).next = (T.nd j).next := fun j => by rw [nd]; split <;> simp_all
  have vl : ∀ j, j ≠ i → ((T.setNd i { T.nd i with value := v }).nd j).value = (T.nd j).value := fun j e => by rw [nd, if_neg e]
  have vi : ((T.setNd i { T.nd i with value := v }).nd i).value = v := by rw [nd, if_pos rfl]
  have en : (T.setNd i { T.nd i with value := v }).n = T.n := by simp
  have ea : (T.setNd i { T.nd i with value := v }).arr = T.arr := rfl
  have ef : (T.setNd i { T.nd i with value := v }).free = T.free := rfl
  generalize T.setNd i { T.nd i with value := v } = T' at *
  have at_ : ∀ t j, IsAt ν T' t j ↔ IsAt ν T t j := fun t j => by unfold IsAt; rw [en, ky]
  have inA : inArr T t = false := by rw [← h.2]; exact not_inArr I lt
  have I' : Inv ν T' := by
    refine ⟨by rw [en]; exact I.sz, by rw [ea]; exact I.sa, by rw [en, ef]; exact I.fr, fun j hj => by rw [ky]; exact I.keys j (en ▸ hj), fun j hj e => ?_, ?_, fun j hj e => by rw [ky]; exact I.full j (en ▸ hj) (ef ▸ e), fun j k hj hk e p => ?_, fun j x hj e => ?_⟩
    · by_cases z : j = i
      · subst z; rw [ky, h.2, ht] at e; cases e
      · rw [vl j z]; rw [ky] at e; exact I.vals j (en ▸ hj) e
    · rw [en]
      exact I.gr.congr (fun j q_ => by rw [ky]) (fun j q_ q_ => by rw [ky]) (fun j q_ => nx j)
    · rw [ky] at e p; rw [ky] at e; exact I.uniq j k (en ▸ hj) (en ▸ hk) e p
    · rw [ky] at e; rw [ea]; exact I.out j x (en ▸ hj) e
  refine ⟨I', fun t' ht' => ?_, fun t' _ ⟨j, hj⟩ => .inl ⟨j, (at_ t' j).mp hj⟩, ?_⟩
  · by_cases e : t' = t
    · subst e
      have inA' : inArr T' t' = false := by rw [inArr_eq, ea, ← inArr_eq]; exact inA
      rw [if_pos rfl, look_node inA', nlook_at I' ht' ((at_ _ _).mpr h), vi]
    · rw [if_neg e]
      refine look_ext I I' ea ht' (fun j hj => .inr ⟨j, (at_ _ _).mpr hj, vl j fun z => e ?_⟩) fun j hj => ⟨j, (at_ _ _).mp hj⟩
      rw [← hj.2, z, h.2]
  · unfold lives
    have e1 : arrL T' = arrL T := by unfold arrL; rw [ea]
    rw [e1, ea, en]
    have := cnt_ins (n := T.n) (p := ndL T') (q := ndL T) i fun j hj e => by
      by_cases z : j = i
      · exact .inr z
      · left; unfold ndL at *; rwa [vl j z] at e
    (refine Nat.le_of_not_lt fun q_ => ?_; lia -abstractProof)
structure SameKeys (T T' : Tb) : Prop where
  arr : T'.arr.length = T.arr.length
  n : T'.n = T.n
  key : ∀ i, i < T.n → (T'.nd i).key = (T.nd i).key
noncomputable def c_put_1 : Cd := .ld 2 <| .ld 0 <| .fld "array" <| .ld 4 <| .lit (.int (1)) <| .bin .Sub <| .stx <| .ld 3 <| .isn false <| .br (.bad) (.fin)
noncomputable def c_put_2 : Cd := .ld 2 <| .ld 0 <| .fld "nodes" <| .ld 5 <| .ix <| .stf "value" <| .ld 3 <| .isn false <| .br (.bad) (.fin)
noncomputable def c_put_3 : Cd := .ld 0 <| .mld cT "new_key" <| .ld 1 <| .ld 2 <| .ld 3 <| .call (.ref 294) 4 <| .pop <| .ld 3 <| .isn false <| .br (.bad) (.fin)
noncomputable def c_put_4 : Cd := .ld 0 <| .mld cT "find_node" <| .ld 1 <| .call (.ref 231) 2 <| .st 5 <| .ld 5 <| .lit (.int (0)) <| .cmp .GtE <| .br (c_put_2) (c_put_3)
noncomputable def c_put_5 : Cd := .ld 0 <| .fld "array" <| .call (.bi "len") 1 <| .cmp .LtE <| .br (c_put_1) (c_put_4)
noncomputable def c_put : Cd := .ld 1 <| .call (.ref 188) 1 <| .st 4 <| .lit (.int (1)) <| .ld 4 <| .chn .LtE (c_put_5) (c_put_4)
section
variable {ν : Nu} {σ : MH}
structure PutG (ν : Nu) (σ : MH) (t : Addr) (T : Tb) (k v : V) (σ' : MH) (T' : Tb) : Prop where
  tr : TR σ' t T'
  mv : Mv σ t T σ' T'
  ins : Ins ν T T' (tag ν k) v
theorem Fn.le {n m fn args Q} {σ : MH} (h : Fn n fn args Q σ) (k : n ≤ m) : Fn m fn args Q σ := fun g L => (h g L).le k
theorem new_key_gen {t T k v} (K : Knows σ ν) (hν : ν t = none) (hT : TR σ t T) (I : Inv ν T) (hk : AnyV ν k) (hp : proper (tag ν k) = true) (hin : inArr T (tag ν k) = false) (hno : ∀ i, ¬ IsAt ν T (tag ν k) i) (hv : v.plain = true) (hB : lives T + 1 ≤ 2 ^ 19) :
    Fn 9 294 [.ref t, k, v, .none] (fun r σ' => r = .none ∧ ∃ T', PutG ν σ t T k v σ' T') σ := by
  refine new_key_ok (d := 8) (by decide) K hν hT I hk hp hin hno hv (fun e σ1 fr f1 f2 hT1 m1 K1 => ?_) fun σ' T' h1 h2 h3 h4 h5 h6 => ⟨T', h1, h2, h3⟩
  have I1 := I.free_ f1 f2 e
  refine (rehash_ok K1 hν hT1 I1 hk hB).mono ?_
  rintro r σ2 ⟨rfl, T2, hT2, m2, rs, room⟩
  have l0 : look ν T (tag ν k) = .none := by rw [look_node hin]; exact nlook_none hno
  have nk : ¬ HasKey ν T2 (tag ν k) := fun h => rs.live _ hp h l0
  have K2 := K1.mv hT1 m2 hν
  refine ⟨rfl, ⟨T2, hT2⟩, ((put_room K2 hν hT2 rs.inv hk hp hv (fun q_ => nk) room).2.le (by decide)).mono ?_⟩
  rintro r σ3 ⟨rfl, T3, q⟩
  refine ⟨rfl, T3, q.tr, (m1.trans m2).trans q.mv, q.ins.inv, fun t' ht => ?_, fun t' ht h => ?_, Nat.le_trans q.ins.lives (Nat.succ_le_succ rs.lives)⟩
  · rw [q.ins.look t' ht]
    split
    · rfl
    · exact rs.look t' ht
  · rcases q.ins.keys t' ht h with h | h | h
    · exact .inr (.inr (rs.live t' ht h))
    · exact .inr (.inl h)
    · rw [rs.look t' ht] at h; exact .inr (.inr h)
theorem put_gen {t T k v} (K : Knows σ ν) (hν : ν t = none) (hT : TR σ t T) (I : Inv ν T) (hk : AnyV ν k) (hp : proper (tag ν k) = true) (hv : v.plain = true) (hno : inArr T (tag ν k) = false → ¬ HasKey ν T (tag ν k)) (hB : lives T + 1 ≤ 2 ^ 19) :
    Fn 10 337 [.ref t, k, v, .none] (fun r σ' => r = .none ∧ ∃ T', PutG ν σ t T k v σ' T') σ :=
  (put_back_gen (d := 9) (by decide) K hT I hk hv (fun hi => new_key_gen K hν hT I hk hp hi (fun i h => hno hi ⟨i, h⟩) hv hB) fun hi σ' T' h1 h2 h3 h4 h5 h6 => ⟨T', h1, h2, h3⟩).1
theorem resize_gen {t T} {a h : Nat} (K : Knows σ ν) (hν : ν t = none) (hT : TR σ t T) (I : Inv ν T) (ha : a ≤ 2 ^ 22) (hh : h ≤ 2 ^ 20) (hB : lives T + 1 ≤ 2 ^ 19) :
    Fn 11 330 [.ref t, .int a, .int h, .none] (fun r σ' => r = .none ∧ ∃ T', A3 (TR σ' t T') (Mv σ t T σ' T') (RsR ν T T')) σ ∧ Fn 11 330 [.ref t, .int a, .int h] (fun r σ' => r = .none ∧ ∃ T', A3 (TR σ' t T') (Mv σ t T σ' T') (RsR ν T T')) σ := by
  have pl := places_le hh
  have w := resize_ok (σ := σ) (d := 10) (J := fun Tc L => JJ ν T Tc L ∧ lives Tc + L.length ≤ lives T)
    (by decide) K hν hT ha hh (fun T4 h1 h2 h3 h4 => ?_) (fun σc Tc k v rest ⟨j1, j5⟩ trc Kc => ?_)
  · have fin : ∀ r σ', (r = V.none ∧ X2 fun T' T'' => A4 (TR σ' t T') (Mv σ t T σ' T') (T' = T''.weighed) (JJ ν T T'' [] ∧ lives T'' + ([] : List (V × V)).length ≤ lives T)) → r = V.none ∧ ∃ T', A3 (TR σ' t T') (Mv σ t T σ' T') (RsR ν T T') := by
      rintro r σ' ⟨rfl, T', T'', h1, h2, rfl, j1, j5⟩
      exact ⟨rfl, _, h1, h2, j1.done j5⟩
    exact ⟨w.1.mono fin, w.2.mono fin⟩
  · have I4 : Inv ν T4 := inv_fresh (by rw [h1, take_rep_len]; exact ha) (by rw [h2]; exact pl.2.2) h4 h3
    refine ⟨JJ.start I I4 hT.pa (fun i hi => ?_) h1 fun i hi => by rw [h3 i hi]; rfl, ?_⟩
    · obtain ⟨ad, had⟩ := T.nd_get hi
      exact (hT.pn _ (List.mem_of_getElem? had)).2
    · rw [lives_start h1 h3]; exact Nat.le_of_eq ((Nat.add_comm ..).trans (restL_len T a))
  · have ok := j1.ok _ (.head _)
    have jl : lives Tc + (rest.length + 1) ≤ lives T := by rw [List.length_cons] at j5; exact j5
    refine (put_gen Kc hν trc j1.inv ok.1 ok.2.1 ok.2.2.1 (fun q_ => j1.out _ (.head _)) (Nat.le_trans (Nat.succ_le_succ (Nat.le_trans (Nat.le_add_right ..) jl)) hB)).mono ?_
    rintro r σ' ⟨rfl, Tc', q⟩
    refine ⟨rfl, Tc', q.tr, q.mv, j1.step q.ins, ?_⟩
    exact Nat.le_trans (Nat.add_le_add_right q.ins.lives _) (by rw [Nat.add_right_comm]; exact jl)
theorem put_ok {t T k v} (K : Knows σ ν) (hν : ν t = none) (hT : TR σ t T) (I : Inv ν T) (hk : AnyV ν k) (hp : proper (tag ν k) = true) (hv : v.plain = true) (hB : lives T + 1 ≤ 2 ^ 19) :
    Fn 10 287 [.ref t, k, v, .none] (fun r σ' => r = .none ∧ ∃ T', PutG ν σ t T k v σ' T' ∧ (inArr T (tag ν k) = true ∨ HasKey ν T (tag ν k) → SameKeys T T')) σ := by
  have ai := aidx_arr (ν := ν) (T := T) (k := k)
  refine Fn.go (ps := ["self", "key", "value", "heap"]) (rest := ["at", "spot"]) (code := c_put) (fun q_ => by kernel_rfl) (fun q_ => by kernel_rfl) (fun q_ => args4 fun q_ q_ q_ q_ => by kernel_rfl) (fun q_ => by kernel_rfl) rfl fun g L => ?_
  have tl : ¬ (1 ≤ aidx k ∧ aidx k ≤ (T.arr.length : Int)) → wp c_put_4 ⟨g, 9, noX⟩ (retC fun r σ' => r = .none ∧ ∃ T', PutG ν σ t T k v σ' T' ∧ (inArr T (tag ν k) = true ∨ HasKey ν T (tag ν k) → SameKeys T T')) [] [some (.ref t), some k, some v, some .none, some (.int (aidx k)), none] σ := fun h => by
    have hi : inArr T (tag ν k) = false := by rw [ai, decide_eq_false h]
    refine Meth.tab hT rfl (Pv.fn L (find_node_ok K hT I hk) rfl ?_)
    rintro _ _ ⟨⟨j, rfl, hj⟩, rfl⟩
    refine brk2.dec (fun hz => ?_) fun hz => ?_
    · rcases hj with ⟨rfl, _⟩ | ⟨i, rfl, b, _⟩
      · exact absurd hz (by decide)
      obtain ⟨ad, had⟩ := T.nd_get b.1
      refine Pv.nodes L hT (Pg.nod hT hz had (Pu.value L hT had hv fun σ1 hT1 m1 => ⟨rfl, rfl, _, ⟨hT1, m1, ins_val I had hp b⟩, fun q_ => ⟨rfl, by simp, fun i hi => ?_⟩⟩))
      rw [T.nd_setNd _ b.1]; split <;> simp_all
    · rcases hj with ⟨rfl, h0⟩ | ⟨i, rfl, _⟩
      rotate_left
      · lia -abstractProof
      have b : ∀ i, ¬ IsAt ν T (tag ν k) i := h0.resolve_left fun z => by rw [z] at hp; cases hp
      refine Meth.tab hT rfl (Pv.fn L (new_key_gen K hν hT I hk hp hi b hv hB) rfl ?_)
      rintro _ σ1 ⟨rfl, T', q⟩
      refine ⟨rfl, rfl, T', q, fun h => ?_⟩
      rcases h with h | ⟨i, h⟩
      · rw [hi] at h; cases h
      · exact absurd h (b i)
  refine Pv.fn1 L (array_index_ok K hk) rfl (brk2.dec (fun hp1 => Pv.array L hT (Pv.lenA hT (brk2.dec (fun hq => ?_) fun hq => tl fun z => hq z.2))) fun hp1 => tl fun z => hp1 z.1)
  refine Pv.array L hT (Pu.arr hT (by (refine Int.not_lt.mp fun q_ => ?_; lia -abstractProof)) (by (refine Int.lt_of_not_ge fun q_ => ?_; lia -abstractProof)) hv fun σ1 hT1 m1 => ⟨rfl, rfl, _, ⟨hT1, m1, ?_⟩, fun q_ => ⟨List.length_set .., rfl, fun q_ q_ => rfl⟩⟩)
  have e : inArr T (tag ν k) = true := by rw [ai, decide_eq_true ⟨hp1, hq⟩]
  rw [tag_aidx e]; exact ins_arr I ⟨hp1, hq⟩
end
set_option tactic.hygienic true in
theorem inj_le : ∀ (n m : Nat) (f : Nat → Nat), (∀ i, i < m → f i < n) → (∀ i j, i < m → j < m → f i = f j → i = j) → m ≤ n
  | 0, m, f, h, _ => by
    cases m with
    | zero => exact Nat.le_refl _
    | succ m => exact absurd (h 0 (by lia)) (by lia)
  | n + 1, m, f, h, hi => by
    cases m with
    | zero => lia
    | succ m =>
      have := inj_le n m (fun i => if f i = n then f m else f i) (fun i him => by
        split
        · rename_i e
          have h1 := h m (by lia)
          have : f m ≠ n := fun z => by have := hi i m (by lia) (by lia) (by rw [e, z]); lia
          lia
        · have := h i (by lia); lia) (fun i j him hjm e => by
        split at e <;> split at e
        · rename_i e1 e2; exact hi i j (by lia) (by lia) (by rw [e1, e2])
        · have := hi m j (by lia) (by lia) e; lia
        · have := hi i m (by lia) (by lia) e; lia
        · exact hi i j (by lia) (by lia) e)
      lia
theorem look_some {ν T t} (I : Inv ν T) (hp : proper t = true) (h : look ν T t ≠ .none) : inArr T t = true ∨ ∃ i, IsAt ν T t i := by
  by_cases e : inArr T t = true
  · exact .inl e
  · right
    have e : inArr T t = false := by simpa using e
    rw [look_node e] at h
    by_cases z : ∃ i, IsAt ν T t i
    · exact z
    · exact absurd (nlook_none fun i hi => z ⟨i, hi⟩) h
open Classical in
theorem ints_few {ν T m} (I : Inv ν T) (h : ∀ j : Nat, 1 ≤ j → j ≤ m → look ν T (.int j) ≠ .none) : m ≤ T.arr.length + T.n := by
  have ex : ∀ i, i < m → ∃ p, p < T.arr.length + T.n ∧ ((p < T.arr.length ∧ p = i) ∨ (T.arr.length ≤ p ∧ IsAt ν T (.int ((i + 1 : Nat) : Int)) (p - T.arr.length))) := fun i hi => by
    rcases look_some I rfl (h (i + 1) (Nat.succ_pos i) hi) with e | ⟨q, e⟩
    · have lt : i < T.arr.length := Int.ofNat_le.mp (of_decide_eq_true e).2
      exact ⟨i, Nat.lt_of_lt_of_le lt (Nat.le_add_right ..), .inl ⟨lt, rfl⟩⟩
    · exact ⟨T.arr.length + q, Nat.add_lt_add_left e.1 _, .inr ⟨Nat.le_add_right .., by rw [Nat.add_sub_cancel_left]; exact e⟩⟩
  refine inj_le (T.arr.length + T.n) m (fun i => if hi : i < m then (ex i hi).choose else 0) (fun i hi => ?_) fun i j hi hj e => ?_
  · rw [dif_pos hi]; exact (ex i hi).choose_spec.1
  · rw [dif_pos hi, dif_pos hj] at e
    have a := (ex i hi).choose_spec.2
    have b := (ex j hj).choose_spec.2
    rw [← e] at b
    rcases a with ⟨a1, a2⟩ | ⟨a1, a2⟩ <;> rcases b with ⟨b1, b2⟩ | ⟨b1, b2⟩
    · exact a2.symm.trans b2
    · exact absurd a1 (Nat.not_lt.mpr b1)
    · exact absurd b1 (Nat.not_lt.mpr a1)
    · exact Nat.succ.inj (Int.ofNat.inj (Tag.int.inj (a2.2.symm.trans b2.2)))
theorem look_plain {ν T σ t x} (hT : TR σ t T) : (look ν T x).plain = true := by
  have nl : (nlook ν T x).plain = true := by
    unfold nlook
    cases h : T.nds.find? (fun p => decide (tag ν p.2.key = x)) with
    | none => rfl
    | some p => exact (hT.pn p (List.mem_of_find?_eq_some h)).2
  cases x with
  | int i =>
    simp only [look]
    split
    · cases h : T.arr[(i - 1).toNat]? with
      | none => rfl
      | some v => exact hT.pa v (List.mem_of_getElem? h)
    · exact nl
  | _ => exact nl
structure Border (ν : Nu) (T : Tb) (b : Int) : Prop where
  pos : 0 ≤ b
  le : b ≤ 2147483645
  here : b = 0 ∨ look ν T (.int b) ≠ .none
  next : look ν T (.int (b + 1)) = .none
noncomputable def c_length_1 : Cd := .ld 3 <| .st 1 <| .fin
noncomputable def c_length_2 : Cd := .ld 3 <| .st 2 <| .fin
noncomputable def c_length_3 : Cd := .ld 2 <| .ld 1 <| .bin .Add <| .lit (.int (2)) <| .bin .FloorDiv <| .st 3 <| .ld 0 <| .fld "array" <| .ld 3 <| .lit (.int (1)) <| .bin .Sub <| .ix <| .isn true <| .br (c_length_1) (c_length_2)
noncomputable def c_length_4 : Cd := .ld 1 <| .ld 2 <| .bin .Sub <| .lit (.int (1)) <| .cmp .Gt <| .br (c_length_3) (.brk)
noncomputable def c_length_5 : Cd := .lit (.int (0)) <| .st 2 <| .whl (c_length_4) (.ld 2 <| .ret)
noncomputable def c_length_6 : Cd := .ld 0 <| .mld cT "unbound_search" <| .ld 1 <| .call (.ref 384) 2 <| .ret
noncomputable def c_length_7 : Cd := .ld 0 <| .fld "nodes" <| .call (.bi "len") 1 <| .lit (.int (0)) <| .cmp .Eq <| .br (.ld 1 <| .ret) (c_length_6)
noncomputable def c_length_8 : Cd := .ld 0 <| .fld "array" <| .ld 1 <| .lit (.int (1)) <| .bin .Sub <| .ix <| .isn true <| .br (c_length_5) (c_length_7)
noncomputable def c_length : Cd := .ld 0 <| .fld "array" <| .call (.bi "len") 1 <| .st 1 <| .ld 1 <| .lit (.int (0)) <| .cmp .Gt <| .br (c_length_8) (c_length_7)
noncomputable def c_unbound_search_1 : Cd := .ld 2 <| .lit (.int (1)) <| .inp .Add <| .st 2 <| .fin
noncomputable def c_unbound_search_2 : Cd := .ld 0 <| .mld cT "get_int" <| .ld 2 <| .call (.ref 245) 2 <| .isn false <| .br (c_unbound_search_1) (.brk)
noncomputable def c_unbound_search_3 : Cd := .ld 2 <| .lit (.int (1)) <| .bin .Sub <| .ret
noncomputable def c_unbound_search_4 : Cd := .lit (.int (1)) <| .st 2 <| .whl (c_unbound_search_2) (c_unbound_search_3)
noncomputable def c_unbound_search_5 : Cd := .ld 3 <| .st 2 <| .ld 3 <| .lit (.int (2)) <| .inp .Mult <| .st 3 <| .ld 3 <| .lit (.int (2147483645)) <| .cmp .Gt <| .br (c_unbound_search_4) (.fin)
noncomputable def c_unbound_search_6 : Cd := .ld 0 <| .mld cT "get_int" <| .ld 3 <| .call (.ref 245) 2 <| .isn false <| .br (c_unbound_search_5) (.brk)
noncomputable def c_unbound_search_7 : Cd := .ld 4 <| .st 3 <| .fin
noncomputable def c_unbound_search_8 : Cd := .ld 4 <| .st 2 <| .fin
noncomputable def c_unbound_search_9 : Cd := .ld 2 <| .ld 3 <| .bin .Add <| .lit (.int (2)) <| .bin .FloorDiv <| .st 4 <| .ld 0 <| .mld cT "get_int" <| .ld 4 <| .call (.ref 245) 2 <| .isn true <| .br (c_unbound_search_7) (c_unbound_search_8)
noncomputable def c_unbound_search_10 : Cd := .ld 3 <| .ld 2 <| .bin .Sub <| .lit (.int (1)) <| .cmp .Gt <| .br (c_unbound_search_9) (.brk)
noncomputable def c_unbound_search_11 : Cd := .whl (c_unbound_search_10) (.ld 2 <| .ret)
noncomputable def c_unbound_search : Cd := .ld 1 <| .st 2 <| .ld 1 <| .lit (.int (1)) <| .bin .Add <| .st 3 <| .whl (c_unbound_search_6) (c_unbound_search_11)
section
variable {ν : Nu} {σ : MH} {t : Addr} {T : Tb}
theorem gint {g d K} (L : Law g) (hd : Nat.ble 5 d = true) (k : Knows σ ν) (hT : TR σ t T) (I : Inv ν T) {n : Int} (h : K (look ν T (.int n)) σ) : Meth "get_int" cT σ (Pv ⟨g, d, noX⟩ tcall [.ref 245, .ref t, .int n] K σ) (.ref t) :=
  Meth.tab hT rfl (Pv.fn1 L (get_int_ok k hT I) hd h)
structure MidIn (low high : Nat) : Prop where
  h1 : low < (low + high) / 2
  h2 : (low + high) / 2 < high
  h3 : (low + high) / 2 - low < high - low
  h4 : high - (low + high) / 2 < high - low
theorem mid_in {low high : Nat} (h : (1 : Int) < (high : Int) - low) : MidIn low high := by
  have h : low + 2 ≤ high := by lia
  exact ⟨by lia, by lia, by lia, by lia⟩
theorem MidIn.pos {low high} (M : MidIn low high) : 1 ≤ (low + high) / 2 := Nat.lt_of_le_of_lt (Nat.zero_le _) M.h1
theorem mid_end {low high : Nat} (h : ¬ (1 : Int) < (high : Int) - low) (l : low < high) : high = low + 1 := by lia
theorem lt_dbl {h : Nat} (p : 0 < h) : h < h * 2 := by lia
theorem low_border {b : Nat} (h1 : b + 1 ≤ 2147483645) (h2 : b = 0 ∨ look ν T (.int b) ≠ .none) (h3 : look ν T (.int ((b + 1 : Nat) : Int)) = .none) : Border ν T b := ⟨Int.natCast_nonneg b, Int.ofNat_le.mpr (Nat.le_of_succ_le h1), h2.imp (congrArg Nat.cast) id, h3⟩
theorem us_mid {g : G} {σ : MH} (L : Law g) (K : Knows σ ν) (hT : TR σ t T) (I : Inv ν T) {f0 low high : Nat} {x : Option V} (a4 : low < high) (a5 : high ≤ 2147483645) (a6 : low = 0 ∨ look ν T (.int low) ≠ .none) (e : look ν T (.int high) = .none) :
    wp c_unbound_search_11 ⟨g, 5, noX⟩ (retC fun r σ' => (∃ b, r = .int b ∧ Border ν T b) ∧ σ' = σ) [] [some (.ref t), some (.int f0), some (.int low), some (.int high), x] σ := by
  refine Whl.mk (fun m ls σ2 => σ2 = σ ∧ X2 fun (low high : Nat) => ∃ x, A6 (ls = [some (.ref t), some (.int f0), some (.int low), some (.int high), x]) (low < high) (high ≤ 2147483645) ((low = 0 ∨ look ν T (.int low) ≠ .none)) (look ν T (.int high) = .none) (m = high - low)) _ ⟨rfl, low, high, x, rfl, a4, a5, a6, e, rfl⟩ ?_
  rintro m ls σ2 ⟨rfl, low, high, x, rfl, b4, b5, b6, b7, rfl⟩
  refine brk2.dec (fun hp => ?_) fun hp => ?_
  · have em : ((low : Int) + high).fdiv 2 = (((low + high) / 2 : Nat) : Int) := halfN _
    have M := mid_in hp
    refine Pv.div (by decide) (by decide) ?_
    rw [em]
    refine gint L rfl K hT I ⟨look_plain hT, brk2.bool (fun e2 => ?_) fun e2 => ?_⟩
    · exact ⟨_, M.h3, rfl, low, (low + high) / 2, _, rfl, M.h1, Nat.le_trans (Nat.le_of_lt M.h2) b5, b6, isNone_eq e2, rfl⟩
    · exact ⟨_, M.h4, rfl, (low + high) / 2, high, _, rfl, M.h2, b5, .inr fun z => (by rw [z] at e2; cases e2), b7, rfl⟩
  · obtain rfl := mid_end hp b4
    exact ⟨⟨_, rfl, low_border b5 b6 b7⟩, rfl⟩
theorem us_low {g : G} {σ : MH} (L : Law g) (K : Knows σ ν) (hT : TR σ t T) (I : Inv ν T) {f0 : Nat} {high : Int} {y x : Option V} {Q : Fw → Ls → MH → Prop} (tot : T.arr.length + T.n ≤ 2 ^ 24) (hQ : ∀ b ls, Border ν T b → Q (.ret (.int b)) ls σ) :
    wp c_unbound_search_4 ⟨g, 5, noX⟩ Q [] [some (.ref t), some (.int f0), y, some (.int high), x] σ := by
  refine Whl.mk (fun m ls σ2 => σ2 = σ ∧ ∃ j : Nat, A3 (ls = [some (.ref t), some (.int f0), some (.int ((j : Nat) + 1)), some (.int high), x]) ((∀ i : Nat, 1 ≤ i → i ≤ j → look ν T (.int i) ≠ .none)) (m = T.arr.length + T.n + 1 - j)) _ ⟨rfl, 0, rfl, fun i h1 h2 => absurd h2 (Nat.not_le.mpr h1), rfl⟩ ?_
  rintro m ls σ2 ⟨rfl, j, rfl, b3, rfl⟩
  have few := ints_few I b3
  refine gint L rfl K hT I ⟨look_plain hT, brk2.bool (fun e2 => ?_) fun e2 => ?_⟩
  · have b4 : ∀ i : Nat, 1 ≤ i → i ≤ j + 1 → look ν T (.int i) ≠ .none := fun i h1 h2 => by
      by_cases z : i = j + 1
      · rw [z, Int.natCast_succ]; exact isSome_ne e2
      · exact b3 i h1 (Nat.le_of_lt_succ (Nat.lt_of_le_of_ne h2 z))
    exact ⟨T.arr.length + T.n + 1 - (j + 1), Nat.sub_lt_sub_left (Nat.lt_succ_of_le few) (Nat.lt_succ_self j), rfl, j + 1, rfl, b4, rfl⟩
  · have e2 : look ν T (.int ((j : Nat) + 1)) = .none := isNone_nn e2
    refine hQ ((j : Int) + 1 - 1) _ ?_
    rw [Int.add_sub_cancel]
    exact low_border (Nat.le_trans (Nat.succ_le_succ (Nat.le_trans few tot)) (by decide)) (if z : j = 0 then .inl z else .inr (b3 j (Nat.pos_of_ne_zero z) (Nat.le_refl _))) e2
theorem unbound_search_ok {f0 : Nat} (K : Knows σ ν) (hT : TR σ t T) (I : Inv ν T) (hf : f0 ≤ 2 ^ 22) (h0 : f0 = 0 ∨ look ν T (.int f0) ≠ .none) :
    Fn 6 384 [.ref t, .int f0] (fun r σ' => (∃ b, r = .int b ∧ Border ν T b) ∧ σ' = σ) σ := by
  refine Fn.go (ps := ["self", "first"]) (rest := ["low", "high", "middle"]) (code := c_unbound_search) (fun q_ => by kernel_rfl) (fun q_ => by kernel_rfl) (fun q_ => args2 fun q_ q_ => by kernel_rfl) (fun q_ => by kernel_rfl) rfl fun g L => ?_
  have tot : T.arr.length + T.n ≤ 2 ^ 24 := Nat.le_trans (Nat.add_le_add hT.sa hT.sn) (by decide)
  refine Whl.mk (fun m ls σ1 => σ1 = σ ∧ X2 fun (low high : Nat) => A5 (ls = [some (.ref t), some (.int f0), some (.int low), some (.int high), none]) (low < high) (high ≤ 2147483645) ((low = 0 ∨ look ν T (.int low) ≠ .none)) (m = 2147483646 - high)) _ ⟨rfl, f0, f0 + 1, rfl, Nat.lt_succ_self _, Nat.le_trans (Nat.succ_le_succ hf) (by decide), h0, rfl⟩ ?_
  rintro m ls σ1 ⟨rfl, low, high, rfl, a4, a5, a6, rfl⟩
  refine gint L rfl K hT I ⟨look_plain hT, brk2.bool (fun e => ?_) fun e => us_mid L K hT I a4 a5 a6 (isNone_nn e)⟩
  refine Pv.imul (IntMulOk.of_right (by decide +kernel)) (brk2.dec (fun hp => ?_) fun hp => ?_)
  · exact us_low L K hT I tot fun b ls hb => ⟨⟨b, rfl, hb⟩, rfl⟩
  have hp : ¬ (2147483645 : Int) < (high : Int) * 2 := hp
  have d := lt_dbl (Nat.lt_of_le_of_lt (Nat.zero_le _) a4)
  exact ⟨2147483646 - high * 2, Nat.sub_lt_sub_left (Nat.lt_succ_of_le a5) d, rfl, high, high * 2, rfl, d, Int.ofNat_le.mp (Int.not_lt.mp hp), .inr (isSome_ne e), rfl⟩
theorem length_ok (K : Knows σ ν) (hT : TR σ t T) (I : Inv ν T) : Fn 7 377 [.ref t] (fun r σ' => (∃ b, r = .int b ∧ Border ν T b) ∧ σ' = σ) σ := by
  refine Fn.go (ps := ["self"]) (rest := ["last", "low", "middle"]) (code := c_length) (fun q_ => by kernel_rfl) (fun q_ => by kernel_rfl) (fun q_ => args1 fun q_ => by kernel_rfl) (fun q_ => by kernel_rfl) rfl fun g L => ?_
  have hsa := I.sa
  have hlen : (T.nds.length : Int) = T.n := rfl
  have lk : ∀ (x : Nat) v, 1 ≤ x → T.arr[x - 1]? = some v → look ν T (.int x) = v := fun x v h1 h2 => by
    have := (List.getElem?_eq_some_iff.mp h2).1
    rw [look_arr ⟨Int.ofNat_le.mpr h1, Int.ofNat_le.mpr (Nat.le_of_pred_lt this)⟩, predN, h2]; rfl
  have tl : (T.arr.length = 0 ∨ look ν T (.int T.arr.length) ≠ .none) → wp c_length_7 ⟨g, 6, noX⟩ (retC fun r σ' => (∃ b, r = .int b ∧ Border ν T b) ∧ σ' = σ) [] [some (.ref t), some (.int T.arr.length), none, none] σ := fun hh => by
    refine Pv.nodes L hT (Pv.lenN hT (brk2.dec (fun e0 => ?_) fun e0 => Meth.tab hT rfl (Pv.fn L (unbound_search_ok K hT I hsa hh) rfl ?_)))
    · refine ⟨⟨_, rfl, low_border (Nat.le_trans (Nat.succ_le_succ hsa) (by decide)) hh ?_⟩, rfl⟩
      rw [look_out fun h => absurd (Int.ofNat_le.mp h.2) (Nat.not_succ_le_self _)]
      exact nlook_none fun i hi => absurd ((Int.ofNat.inj e0 : T.n = 0) ▸ hi.1) (Nat.not_lt_zero _)
    · exact fun v σ' h => h
  refine Pv.array L hT (Pv.lenA hT (brk2.dec (fun hp => ?_) fun hp => tl (.inl (Nat.eq_zero_of_not_pos fun z => hp (Int.natCast_pos.mpr z)))))
  have pos : 0 < T.arr.length := Int.natCast_pos.mp hp
  obtain ⟨v, hv⟩ : ∃ v, T.arr[T.arr.length - 1]? = some v := ⟨_, List.getElem?_eq_getElem (Nat.sub_lt pos Nat.one_pos)⟩
  have e1 : ((T.arr.length : Int) - 1).toNat = T.arr.length - 1 := predN _
  have hh := lk _ _ pos hv
  refine Pv.array L hT (Pg.arr hT (Int.sub_nonneg_of_le (Int.ofNat_le.mpr pos)) (by rw [e1]; exact hv) ⟨hT.pa v (List.mem_of_getElem? hv), brk2.bool (fun e => ?_) fun e => tl (.inr (by rw [hh]; exact fun z => by rw [z] at e; cases e))⟩)
  refine Whl.mk (fun m ls σ2 => σ2 = σ ∧ X2 fun (low last : Nat) => ∃ x, A6 (ls = [some (.ref t), some (.int last), some (.int low), x]) (low < last) (last ≤ T.arr.length) ((low = 0 ∨ look ν T (.int low) ≠ .none)) (look ν T (.int last) = .none) (m = last - low)) _
    ⟨rfl, 0, T.arr.length, _, rfl, pos, Nat.le_refl _, .inl rfl, hh.trans (isNone_eq e), rfl⟩ ?_
  rintro m ls σ2 ⟨rfl, low, last, x, rfl, b4, b5, b6, b7, rfl⟩
  refine brk2.dec (fun hq => ?_) fun hq => ?_
  · have em : ((low : Int) + last).fdiv 2 = (((low + last) / 2 : Nat) : Int) := halfN _
    have M := mid_in hq
    obtain ⟨v, hv2⟩ : ∃ v, T.arr[(low + last) / 2 - 1]? = some v := ⟨_, List.getElem?_eq_getElem (Nat.lt_of_le_of_lt (Nat.sub_le ..) (Nat.lt_of_lt_of_le M.h2 b5))⟩
    have hl := lk _ _ M.pos hv2
    have e2 : ((((low + last) / 2 : Nat) : Int) - 1).toNat = (low + last) / 2 - 1 := predN _
    refine Pv.div (by decide) (by decide) ?_
    rw [em]
    refine Pv.array L hT (Pg.arr hT (Int.sub_nonneg_of_le (Int.ofNat_le.mpr M.pos)) (by rw [e2]; exact hv2) ⟨hT.pa v (List.mem_of_getElem? hv2), brk2.bool (fun e => ?_) fun e => ?_⟩)
    · exact ⟨_, M.h3, rfl, low, (low + last) / 2, _, rfl, M.h1, Nat.le_trans (Nat.le_of_lt M.h2) b5, b6, hl.trans (isNone_eq e), rfl⟩
    · exact ⟨_, M.h4, rfl, (low + last) / 2, last, _, rfl, M.h2, b5, .inr (by rw [hl]; exact fun z => by rw [z] at e; cases e), b7, rfl⟩
  · obtain rfl := mid_end hq b4
    exact ⟨⟨_, rfl, low_border (Nat.le_trans b5 (Nat.le_trans hsa (by decide))) b6 b7⟩, rfl⟩
end
noncomputable def NoDead (ν : Nu) : Prop := ∀ a r, ν a = some r → r.kind ≠ 2
theorem NoDead.not {ν : Nu} {v : V} (h : NoDead ν) : isRef 2 (tag ν v) = false := by
  cases v with
  | ref a =>
    cases e : ν a with
    | none => show isRef 2 (match ν a with | some r => Tag.ref r.kind r.num | none => .bad) = _; rw [e]; rfl
    | some r => rw [tag_ref e]; exact beq_eq_false_iff_ne.mpr (h a r e)
  | _ => rfl
structure Mt (ν : Nu) (T : Tb) (t : Tag) (i : Nat) : Prop where
  lt : i < T.n
  at_ : tag ν (T.nd i).key = t ∨ ∃ n, t = .ref 0 n ∧ tag ν (T.nd i).key = .ref 2 n
theorem Mt.pos {ν T t i} (h : Mt ν T t i) (m : Nat) : mpos m (tag ν (T.nd i).key) = mpos m t := by
  rcases h.at_ with e | ⟨n, e, e'⟩
  · rw [e]
  · rw [e, e']; rfl
theorem Mt.nodead {ν T t i} (h : Mt ν T t i) (nd : NoDead ν) : IsAt ν T t i := ⟨h.lt, h.at_.resolve_right fun ⟨n, _, e⟩ => by have := nd.not (v := (T.nd i).key); rw [e] at this; cases this⟩
inductive Idx (ν : Nu) (T : Tb) (k : V) (j : Int) : Prop
  | none (hk : k = .none) (hj : j = -1)
  | arr (x : Int) (ht : tag ν k = .int x) (h1 : 1 ≤ x) (h2 : x ≤ (T.arr.length : Int)) (hj : j = x - 1)
  | nod (hk : k ≠ .none) (hi : inArr T (tag ν k) = false) (i : Nat) (ha : Mt ν T (tag ν k) i) (hj : j = (T.arr.length : Int) + i)
structure NotIn (ν : Nu) (T : Tb) (k : V) : Prop where
  k0 : k ≠ .none
  arr : inArr T (tag ν k) = false
  nod : ∀ i, ¬ Mt ν T (tag ν k) i
noncomputable def c_find_index_1 : Cd := .lit (.int (1)) <| .una .USub <| .ret
noncomputable def c_find_index_2 : Cd := .ld 2 <| .lit (.int (1)) <| .bin .Sub <| .ret
noncomputable def c_find_index_3 : Cd := .ld 0 <| .fld "array" <| .call (.bi "len") 1 <| .ld 3 <| .bin .Add <| .ret
noncomputable def c_find_index_4 : Cd := .ld 0 <| .fld "nodes" <| .ld 3 <| .ix <| .fld "next" <| .st 3 <| .fin
noncomputable def c_find_index_5 : Cd := .ld 4 <| .fld "number" <| .ld 1 <| .fld "number" <| .cmp .Eq <| .br (c_find_index_3) (c_find_index_4)
noncomputable def c_find_index_6 : Cd := .ld 1 <| .call (.ref 104) 1 <| .br (c_find_index_5) (c_find_index_4)
noncomputable def c_find_index_7 : Cd := .ld 4 <| .lit (.ref 149) <| .call (.bi "isinstance") 2 <| .br (c_find_index_6) (c_find_index_4)
noncomputable def c_find_index_8 : Cd := .ld 0 <| .fld "nodes" <| .ld 3 <| .ix <| .fld "key" <| .st 4 <| .ld 4 <| .ld 1 <| .call (.ref 111) 2 <| .br (c_find_index_3) (c_find_index_7)
noncomputable def c_find_index_9 : Cd := .ld 3 <| .lit (.int (0)) <| .cmp .GtE <| .br (c_find_index_8) (.brk)
noncomputable def c_find_index_10 : Cd := .ld 0 <| .mld cT "main_position" <| .ld 1 <| .call (.ref 224) 2 <| .st 3 <| .whl (c_find_index_9) (.raz)
noncomputable def c_find_index_11 : Cd := .lit (.int (1)) <| .una .USub <| .st 3 <| .whl (c_find_index_9) (.raz)
noncomputable def c_find_index_12 : Cd := .ld 0 <| .fld "nodes" <| .call (.bi "len") 1 <| .lit (.int (0)) <| .cmp .Gt <| .br (c_find_index_10) (c_find_index_11)
noncomputable def c_find_index_13 : Cd := .ld 0 <| .fld "array" <| .call (.bi "len") 1 <| .cmp .LtE <| .br (c_find_index_2) (c_find_index_12)
noncomputable def c_find_index_14 : Cd := .ld 1 <| .call (.ref 188) 1 <| .st 2 <| .lit (.int (1)) <| .ld 2 <| .chn .LtE (c_find_index_13) (c_find_index_12)
noncomputable def c_find_index : Cd := .ld 1 <| .isn true <| .br (c_find_index_1) (c_find_index_14)
section
variable {ν : Nu} {σ : MH} {t : Addr} {T : Tb} {k : V}
theorem find_index_ok (K : Knows σ ν) (hT : TR σ t T) (I : Inv ν T) (hk : AnyV ν k) : FnX 5 363 [.ref t, k] (fun r σ' => (∃ j, r = .int j ∧ Idx ν T k j) ∧ σ' = σ) (fun σ' => σ' = σ ∧ NotIn ν T k) σ := by
  refine FnX.go (ps := ["self", "key"]) (rest := ["at", "spot", "found"]) (code := c_find_index) (fun q_ => by kernel_rfl) (fun q_ => by kernel_rfl) (fun q_ => args2 fun q_ q_ => by kernel_rfl) (fun q_ => by kernel_rfl) rfl fun g L => ?_
  have hlen : (T.nds.length : Int) = T.n := rfl
  have ai := aidx_arr (ν := ν) (T := T) (k := k)
  refine ⟨hk.plain, brk2.bool (fun e1 => ⟨⟨-1, rfl, .none (isNone_eq e1) rfl⟩, rfl⟩) fun e1 => ?_⟩
  have k0 : k ≠ .none := fun z => by rw [z] at e1; cases e1
  have ht0 : tag ν k ≠ .nil := fun z => k0 ((tag_nil hk).mp z)
  obtain ⟨r, hr⟩ := I.gr.rank
  have tl : inArr T (tag ν k) = false → ∀ sp : Int, -1 ≤ sp → sp < T.n → (∀ i, Mt ν T (tag ν k) i → 0 ≤ sp ∧ Rch (fun i => (T.nd i).next) sp.toNat i) →
      wp (.whl c_find_index_9 .raz) ⟨g, 4, fun σ' => σ' = σ ∧ NotIn ν T k⟩ (retC fun r σ' => (∃ j, r = .int j ∧ Idx ν T k j) ∧ σ' = σ) [] [some (.ref t), some k, some (.int (aidx k)), some (.int sp), none] σ := fun hin sp s1 s2 s3 => by
    refine Whl.mk (fun m ls σ1 => σ1 = σ ∧ ∃ at_ : Int, ∃ x, A5 (ls = [some (.ref t), some k, some (.int (aidx k)), some (.int at_), x]) (-1 ≤ at_) (at_ < T.n) ((∀ i, Mt ν T (tag ν k) i → 0 ≤ at_ ∧ Rch (fun i => (T.nd i).next) at_.toNat i)) (m = if at_ < 0 then 0 else r at_.toNat + 1)) _ ⟨rfl, sp, _, rfl, s1, s2, s3, rfl⟩ ?_
    rintro m ls σ1 ⟨rfl, at_, x, rfl, a4, a5, a6, a7⟩
    refine brk2.dec (fun hp => ?_) fun hp => ⟨rfl, rfl, k0, hin, fun i hi => hp (a6 i hi).1⟩
    have lt : at_.toNat < T.n := by (refine Nat.lt_of_not_le fun q_ => ?_; lia -abstractProof)
    obtain ⟨ad, had⟩ := T.nd_get lt
    have hkey := I.keys _ lt
    have hnx := I.gr.rng _ lt
    refine Pv.nodes L hT (Pg.nod hT hp had (Pv.key L hT had (Pv.fn1 L (raw_equal_ok K hkey hk) rfl (brk2.dec (fun hq => ?_) fun hq => ?_))))
    · exact Pv.array L hT (Pv.lenA hT ⟨⟨(T.arr.length : Int) + at_, rfl, .nod k0 hin at_.toNat ⟨lt, .inl hq⟩ (by lia -abstractProof)⟩, rfl⟩)
    · have go : ∀ {X Q}, (∀ ls σ2, (∃ m', m' < m ∧ (σ2 = σ1 ∧ ∃ at_ : Int, ∃ x, A5 (ls = [some (.ref t), some k, some (.int (aidx k)), some (.int at_), x]) (-1 ≤ at_) (at_ < T.n) ((∀ i, Mt ν T (tag ν k) i → 0 ≤ at_ ∧ Rch (fun i => (T.nd i).next) at_.toNat i)) (m' = if at_ < 0 then 0 else r at_.toNat + 1))) → Q .next ls σ2) →
          (∀ n, tag ν k = .ref 0 n → tag ν (T.nd at_.toNat).key ≠ .ref 2 n) → wp c_find_index_4 ⟨g, 4, X⟩ Q [] [some (.ref t), some k, some (.int (aidx k)), some (.int at_), some (T.nd at_.toNat).key] σ1 := fun hQ nt => by
        refine Pv.nodes L hT (Pg.nod hT hp had (Pv.next L hT had (hQ _ _ ⟨_, ?_, rfl, (T.nd at_.toNat).next, _, rfl, hnx.1, hnx.2, fun i hi => ?_, rfl⟩)))
        · rw [a7]
          by_cases z : (T.nd at_.toNat).next < 0
          · rw [if_pos z, if_neg (by lia -abstractProof)]; (refine Nat.lt_of_not_le fun q_ => ?_; lia -abstractProof)
          · rw [if_neg z, if_neg (by lia -abstractProof)]
            have := hr at_.toNat (T.nd at_.toNat).next.toNat lt (by (refine Nat.lt_of_not_le fun q_ => ?_; lia -abstractProof)) (by lia -abstractProof)
            (refine Nat.lt_of_not_le fun q_ => ?_; lia -abstractProof)
        · obtain ⟨b1, b2⟩ := a6 i hi
          obtain ⟨j, c1, c2⟩ := b2.next (fun z => hi.at_.elim (fun e => hq (by rw [z]; exact e)) fun ⟨n, e, e'⟩ => nt n e (by rw [z]; exact e'))
          have c1 : (T.nd at_.toNat).next = (j : Int) := c1
          rw [c1]
          exact ⟨by exact Int.natCast_nonneg _, by simpa using c2⟩
      refine Pv.isD L K hkey (brk2.bool (fun e => Pv.fn1 L (is_collectable_ok K hk) rfl (brk2.bool (fun e' => ?_) fun e' => go (fun q_ q_ h => h) fun n z => by rw [z] at e'; cases e')) fun e => go (fun q_ q_ h => h) fun n q_ z => by rw [z] at e; cases e)
      obtain ⟨n, en⟩ := isRef_eq e
      obtain ⟨n', en'⟩ : ∃ n', tag ν k = .ref 0 n' := by
        revert e'
        cases tag ν k with
        | ref j n' =>
          cases j with
          | zero => exact fun q_ => ⟨n', rfl⟩
          | succ => exact fun z => nomatch z
        | _ => exact fun z => nomatch z
      refine Pv.num L K en (Pv.num L K en' (brk2.dec (fun e1 => ?_) fun e1 => go (fun q_ q_ h => h) fun m z w => e1 (by rw [en] at w; rw [en'] at z; cases w; cases z; rfl)))
      exact Pv.array L hT (Pv.lenA hT ⟨⟨(T.arr.length : Int) + at_, rfl, .nod k0 hin at_.toNat ⟨lt, .inr ⟨n', en', by rw [en, e1]⟩⟩ (by lia -abstractProof)⟩, rfl⟩)
  have tl2 : ¬ (1 ≤ aidx k ∧ aidx k ≤ (T.arr.length : Int)) → wp c_find_index_12 ⟨g, 4, fun σ' => σ' = σ ∧ NotIn ν T k⟩ (retC fun r σ' => (∃ j, r = .int j ∧ Idx ν T k j) ∧ σ' = σ) [] [some (.ref t), some k, some (.int (aidx k)), none, none] σ := fun h => by
    have hin : inArr T (tag ν k) = false := by rw [ai, decide_eq_false h]
    refine Pv.nodes L hT (Pv.lenN hT (brk2.dec (fun hz => ?_) fun hz => tl hin _ (Int.le_refl _) (show (-1 : Int) < T.n by (refine Int.lt_of_not_ge fun q_ => ?_; lia -abstractProof)) fun i hi => by have := hi.lt; lia -abstractProof))
    have hq : ∃ q, T.n = 2 ^ q := I.sz.elim (fun h => absurd h (by lia -abstractProof)) fun ⟨q, _, h⟩ => ⟨q, h⟩
    have mr := mpos_range hq (tag ν k)
    refine Meth.tab hT rfl (Pv.fn1 L (main_position_ok K hT hq hk k0) rfl (tl hin _ (by (refine Int.not_lt.mp fun q_ => ?_; lia -abstractProof)) mr.2 fun i hi => ⟨mr.1, ?_⟩))
    obtain ⟨_, _, _, h4⟩ := I.gr.main i hi.lt (fun z => hi.at_.elim (fun e => ht0 (by rw [← e, z]; rfl)) fun ⟨n, _, e⟩ => by rw [z] at e; cases e)
    rw [hi.pos] at h4
    exact h4
  refine Pv.fn1 L (array_index_ok K hk) rfl (brk2.dec (fun hp => Pv.array L hT (Pv.lenA hT (brk2.dec (fun hq => ?_) fun hq => tl2 fun z => hq z.2))) fun hp => tl2 fun z => hp z.1)
  exact ⟨⟨aidx k - 1, rfl, .arr _ (tag_aidx (T := T) (by rw [ai, decide_eq_true ⟨hp, hq⟩])) hp hq rfl⟩, rfl⟩
end
noncomputable def total (T : Tb) : Nat := T.arr.length + T.n
noncomputable def skey (T : Tb) (p : Nat) : V := if p < T.arr.length then .int ((p : Nat) + 1) else (T.nd (p - T.arr.length)).key
noncomputable def sval (T : Tb) (p : Nat) : V := if p < T.arr.length then T.arr.getD p .none else (T.nd (p - T.arr.length)).value
inductive NextR (T : Tb) (s : Int) (r : V) : Prop
  | fin (hr : r = .none) (h : ∀ p : Nat, s ≤ p → p < total T → sval T p = .none)
  | at_ (p : Nat) (h1 : s ≤ p) (h2 : p < total T) (hr : r = .tup [skey T p, sval T p]) (hv : sval T p ≠ .none) (h : ∀ q : Nat, s ≤ q → q < p → sval T q = .none)
theorem skey_arr {T : Tb} {p : Nat} (h : p < T.arr.length) : skey T p = .int ((p : Nat) + 1) := if_pos h
theorem sval_arr {T : Tb} {p : Nat} (h : p < T.arr.length) : sval T p = T.arr.getD p .none := if_pos h
theorem skey_nod (T : Tb) (i : Nat) : skey T (T.arr.length + i) = (T.nd i).key := by unfold skey; rw [if_neg (Nat.not_lt.mpr (Nat.le_add_right ..)), Nat.add_sub_cancel_left]
theorem sval_nod (T : Tb) (i : Nat) : sval T (T.arr.length + i) = (T.nd i).value := by unfold sval; rw [if_neg (Nat.not_lt.mpr (Nat.le_add_right ..)), Nat.add_sub_cancel_left]
inductive SlotC (T : Tb) : Nat → Prop
  | arr (p : Nat) (h : p < T.arr.length) : SlotC T p
  | nod (i : Nat) (h : i < T.n) : SlotC T (T.arr.length + i)
theorem slot_cases {T : Tb} {p : Nat} (hp : p < total T) : SlotC T p := by
  by_cases h : p < T.arr.length
  · exact .arr p h
  · obtain ⟨i, rfl⟩ := Nat.exists_eq_add_of_le (Nat.le_of_not_lt h)
    exact .nod i (Nat.lt_of_add_lt_add_left hp)
theorem idx_nat {ν T k j} (h : Idx ν T k j) : X2 fun (m : Nat) (_ : Unit) => j + 1 = m ∧ m ≤ total T := by
  cases h with
  | none _ h => exact ⟨0, (), by rw [h]; rfl, Nat.zero_le _⟩
  | arr x _ h1 h2 h3 => exact ⟨x.toNat, (), by rw [h3, Int.sub_add_cancel, Int.toNat_of_nonneg (Int.le_trans (by decide) h1)], Nat.le_trans (Int.toNat_le.mpr h2) (Nat.le_add_right ..)⟩
  | nod _ _ i h1 h => exact ⟨T.arr.length + i + 1, (), by rw [h]; rfl, Nat.add_lt_add_left h1.lt _⟩
noncomputable def c_next_1 : Cd := .ld 2 <| .lit (.int (1)) <| .bin .Add <| .ld 0 <| .fld "array" <| .ld 2 <| .ix <| .tup 2 <| .ret
noncomputable def c_next_2 : Cd := .ld 2 <| .lit (.int (1)) <| .inp .Add <| .st 2 <| .fin
noncomputable def c_next_3 : Cd := .ld 0 <| .fld "array" <| .ld 2 <| .ix <| .isn false <| .br (c_next_1) (c_next_2)
noncomputable def c_next_4 : Cd := .ld 2 <| .ld 0 <| .fld "array" <| .call (.bi "len") 1 <| .cmp .Lt <| .br (c_next_3) (.brk)
noncomputable def c_next_5 : Cd := .ld 4 <| .fld "key" <| .ld 4 <| .fld "value" <| .tup 2 <| .ret
noncomputable def c_next_6 : Cd := .ld 3 <| .lit (.int (1)) <| .inp .Add <| .st 3 <| .fin
noncomputable def c_next_7 : Cd := .ld 0 <| .fld "nodes" <| .ld 3 <| .ix <| .st 4 <| .ld 4 <| .fld "value" <| .isn false <| .br (c_next_5) (c_next_6)
noncomputable def c_next_8 : Cd := .ld 3 <| .ld 0 <| .fld "nodes" <| .call (.bi "len") 1 <| .cmp .Lt <| .br (c_next_7) (.brk)
noncomputable def c_next_9 : Cd := .lit .none <| .ret
noncomputable def c_next_10 : Cd := .ld 2 <| .ld 0 <| .fld "array" <| .call (.bi "len") 1 <| .bin .Sub <| .st 3 <| .whl (c_next_8) (c_next_9)
noncomputable def c_next : Cd := .ld 0 <| .mld cT "find_index" <| .ld 1 <| .call (.ref 363) 2 <| .lit (.int (1)) <| .bin .Add <| .st 2 <| .whl (c_next_4) (c_next_10)
noncomputable def c_set_1 : Cd := .ld 0 <| .mld cT "put" <| .ld 1 <| .ld 2 <| .ld 3 <| .call (.ref 287) 4 <| .pop <| .fin
noncomputable def c_set : Cd := .lit (.int (0)) <| .ld 0 <| .stf "flags" <| .ld 1 <| .isn true <| .br (.raz) (c_set_1)
section
variable {ν : Nu} {σ : MH} {t : Addr} {T : Tb} {k v : V}
theorem next_ok (K : Knows σ ν) (hT : TR σ t T) (I : Inv ν T) (hk : AnyV ν k) : FnX 6 370 [.ref t, k] (fun r σ' => (∃ j, Idx ν T k j ∧ NextR T (j + 1) r) ∧ σ' = σ) (fun σ' => σ' = σ ∧ NotIn ν T k) σ := by
  refine FnX.go (ps := ["self", "key"]) (rest := ["at", "spot", "node"]) (code := c_next) (fun q_ => by kernel_rfl) (fun q_ => by kernel_rfl) (fun q_ => args2 fun q_ q_ => by kernel_rfl) (fun q_ => by kernel_rfl) rfl fun g L => ?_
  have hlen : (T.nds.length : Int) = T.n := rfl
  refine Meth.tab hT rfl (Pv.fnX L (find_index_ok K hT I hk) rfl ?_ fun q_ h => h)
  rintro _ σ0 ⟨⟨j, rfl, hj⟩, rfl⟩
  obtain ⟨m0, _, hm, m0t⟩ := idx_nat hj
  show wp _ _ _ [] [some (.ref t), some k, some (.int (j + 1)), none, none] _
  rw [hm]
  have val : ∀ {r}, NextR T (m0 : Int) r → (∃ j, Idx ν T k j ∧ NextR T (j + 1) r) ∧ σ0 = σ0 := fun h => ⟨⟨j, hj, hm ▸ h⟩, rfl⟩
  have avl : ∀ q : Nat, q < T.arr.length → ∀ v, T.arr[q]? = some v → sval T q = v := fun q h1 v h2 => by
    rw [sval_arr h1, List.getD_eq_getElem?_getD, h2]; rfl
  have ge : ∀ {a b : Nat}, (a : Int) ≤ (b : Int) → a ≤ b := Int.ofNat_le.mp
  refine Whl.mk (fun m ls σ1 => σ1 = σ0 ∧ ∃ at_ : Nat, A5 (ls = [some (.ref t), some k, some (.int at_), none, none]) (m0 ≤ at_) (at_ ≤ total T) ((∀ q : Nat, m0 ≤ q → q < at_ → sval T q = .none)) (m = total T - at_)) _
    ⟨rfl, m0, rfl, Nat.le_refl _, m0t, fun q h1 h2 => absurd h1 (Nat.not_le.mpr h2), rfl⟩ ?_
  rintro m ls σ1 ⟨rfl, at_, rfl, a3, a4, a5, rfl⟩
  refine Pv.array L hT (Pv.lenA hT (brk2.dec (fun hp => ?_) fun hp => ?_))
  · have hp' : at_ < T.arr.length := by exact Int.ofNat_lt.mp (by assumption)
    have ht : at_ < total T := Nat.lt_of_lt_of_le hp' (Nat.le_add_right ..)
    obtain ⟨v, hv⟩ : ∃ v, T.arr[at_]? = some v := ⟨_, List.getElem?_eq_getElem hp'⟩
    have hsv := avl at_ hp' v hv
    have gt : ∀ {K : V → MH → Prop}, K v σ1 → Pg ⟨g, 5, noX⟩ (.ref T.aa) (.int at_) K σ1 := fun h => Pg.arr hT (Int.natCast_nonneg _) (by rw [Int.toNat_natCast]; exact hv) h
    refine Pv.array L hT (gt ⟨hT.pa v (List.mem_of_getElem? hv), brk2.bool (fun e => ?_) fun e => ?_⟩)
    · exact Pv.array L hT (gt (val (.at_ at_ (Int.ofNat_le.mpr a3) ht (by rw [hsv, skey_arr hp']) (by rw [hsv]; exact isSome_ne e) fun q h1 h2 => a5 q (ge h1) h2)))
    · have e : v = .none := isNone_nn e
      refine ⟨total T - (at_ + 1), Nat.sub_lt_sub_left ht (Nat.lt_succ_self at_), rfl, at_ + 1, rfl, Nat.le_succ_of_le a3, ht, fun q h1 h2 => ?_, rfl⟩
      by_cases z : q = at_
      · rw [z, hsv, e]
      · exact a5 q h1 (Nat.lt_of_le_of_ne (Nat.le_of_lt_succ h2) z)
  · have hp' : T.arr.length ≤ at_ := by exact Nat.le_of_not_lt fun z => absurd (Int.ofNat_lt.mpr z) (by assumption)
    obtain ⟨s0, rfl⟩ := Nat.exists_eq_add_of_le hp'
    refine Pv.array L hT (Pv.lenA hT ?_)
    refine Whl.mk (fun m ls σ2 => σ2 = σ1 ∧ ∃ s : Nat, ∃ x, A5 (ls = [some (.ref t), some k, some (.int (T.arr.length + s0 : Nat)), some (.int s), x]) (m0 ≤ T.arr.length + s) (s ≤ T.n) ((∀ q : Nat, m0 ≤ q → q < T.arr.length + s → sval T q = .none)) (m = T.n - s)) _
      ⟨rfl, s0, _, by rw [← Int.ofNat_sub hp', Nat.add_sub_cancel_left]; rfl, a3, Nat.le_of_add_le_add_left a4, a5, rfl⟩ ?_
    rintro m ls σ2 ⟨rfl, s, x, rfl, b3, b4, b5, rfl⟩
    refine Pv.nodes L hT (Pv.lenN hT (brk2.dec (fun hq => ?_) fun hq => val (.fin rfl fun p h1 h2 => b5 p (ge h1) (Nat.lt_of_lt_of_le h2 (Nat.add_le_add_left (Nat.le_of_not_lt fun z => hq (Int.ofNat_lt.mpr z)) _)))))
    have lt : s < T.n := Int.ofNat_lt.mp hq
    obtain ⟨ad, had⟩ := T.nd_get lt
    refine Pv.nodes L hT (Pg.nod hT (Int.natCast_nonneg s) (by rw [Int.toNat_natCast]; exact had) (Pv.value L hT had ⟨(hT.pn _ (List.mem_of_getElem? had)).2, brk2.bool (fun e => ?_) fun e => ?_⟩))
    · exact Pv.key L hT had (Pv.value L hT had (val (.at_ (T.arr.length + s) (Int.ofNat_le.mpr b3) (Nat.add_lt_add_left lt _) (by rw [sval_nod, skey_nod]) (by rw [sval_nod]; exact isSome_ne e) fun q h1 h2 => b5 q (ge h1) h2)))
    · have e : (T.nd s).value = .none := isNone_nn e
      refine ⟨T.n - (s + 1), Nat.sub_lt_sub_left lt (Nat.lt_succ_self s), rfl, s + 1, _, rfl, Nat.le_succ_of_le b3, lt, fun q h1 h2 => ?_, rfl⟩
      by_cases z : q = T.arr.length + s
      · rw [z, sval_nod, e]
      · exact b5 q h1 (Nat.lt_of_le_of_ne (Nat.le_of_lt_succ h2) z)
theorem Inv.flags {v} (I : Inv ν T) : Inv ν { T with flags := v } := ⟨I.sz, I.sa, I.fr, I.keys, I.vals, I.gr, I.full, I.uniq, I.out⟩
theorem set_ok (K : Knows σ ν) (hν : ν t = none) (hT : TR σ t T) (I : Inv ν T) (hk : AnyV ν k) (hp : proper (tag ν k) = true) (hv : v.plain = true) (hB : lives T + 1 ≤ 2 ^ 19) :
    Fn 11 266 [.ref t, k, v, .none] (fun r σ' => r = .none ∧ ∃ T', PutG ν σ t T k v σ' T' ∧ (inArr T (tag ν k) = true ∨ HasKey ν T (tag ν k) → SameKeys T T')) σ := by
  refine Fn.go (ps := ["self", "key", "value", "heap"]) (rest := []) (code := c_set) (fun q_ => by kernel_rfl) (fun q_ => by kernel_rfl) (fun q_ => args4 fun q_ q_ q_ q_ => by kernel_rfl) (fun q_ => by kernel_rfl) rfl fun g L => ?_
  refine Pu.flags L hT fun σ1 hT1 m1 => ⟨hk.plain, brk2.bool (fun e => absurd (isNone_eq e) (tnn hp)) fun e => Meth.tab hT1 rfl (Pv.fn L (put_ok (K.mv hT m1 hν) hν hT1 I.flags hk hp hv hB) rfl ?_)⟩
  rintro _ σ2 ⟨rfl, T', q, sk⟩
  exact ⟨rfl, T', ⟨q.tr, m1.trans q.mv, q.ins.inv, q.ins.look, q.ins.keys, q.ins.lives⟩, fun h => let s := sk h; ⟨s.arr, s.n, s.key⟩⟩
theorem set_nil_ok (hT : TR σ t T) : FnX 3 266 [.ref t, .none, v, .none] (fun q_ q_ => False) (fun σ' => TR σ' t { T with flags := .int 0 } ∧ Mv σ t T σ' { T with flags := .int 0 }) σ :=
  FnX.go (ps := ["self", "key", "value", "heap"]) (rest := []) (code := c_set) (fun q_ => by kernel_rfl) (fun q_ => by kernel_rfl) (fun q_ => args4 fun q_ q_ q_ q_ => by kernel_rfl) (fun q_ => by kernel_rfl) rfl fun g L => Pu.flags L hT fun σ1 hT1 m1 => ⟨rfl, rfl, hT1, m1⟩
end
noncomputable def c_set_int : Cd := .ld 0 <| .mld cT "put" <| .ld 1 <| .ld 2 <| .ld 3 <| .call (.ref 287) 4 <| .pop <| .fin
section
variable {ν : Nu} {σ : MH} {t : Addr} {T : Tb} {k v : V}
theorem set_int_ok {n : Int} (K : Knows σ ν) (hν : ν t = none) (hT : TR σ t T) (I : Inv ν T) (hv : v.plain = true) (hB : lives T + 1 ≤ 2 ^ 19) :
    Fn 11 273 [.ref t, .int n, v, .none] (fun r σ' => r = .none ∧ ∃ T', PutG ν σ t T (.int n) v σ' T' ∧ (inArr T (.int n) = true ∨ HasKey ν T (.int n) → SameKeys T T')) σ :=
  Fn.go (ps := ["self", "n", "value", "heap"]) (rest := []) (code := c_set_int) (fun q_ => by kernel_rfl) (fun q_ => by kernel_rfl) (fun q_ => args4 fun q_ q_ q_ q_ => by kernel_rfl) (fun q_ => by kernel_rfl) rfl fun g L => Meth.tab hT rfl (Pv.fn L (put_ok K hν hT I (.int n) rfl hv hB) rfl fun v σ' h => ⟨rfl, h.2⟩)
end
theorem Fn.goC {fn : Addr} {ps rest : List Str} {code : Cd} {d : Nat} {args : List V} {Q : V → MH → Prop} {σ : MH} (H : ∀ P, fnChk (hd.heap_1 P) fn ps = true)
    (hb : ∀ P (rargs : List Value), rargs.length = args.length → bindArgs (fnAt (hd.heap_1 P) fn) ⟨rargs, []⟩ = pure (ps.zip rargs)) (hc : ∀ P, codeOf theTabs (hd.heap_1 P) fn (ps ++ rest) = some code) (hn : ps.length = args.length)
    (h : ∀ g, Law g → wp code ⟨g, d, noX⟩ (retC Q) [] (pad args rest) σ) : Fn (d + 1) fn args Q σ := fun g L =>
  WCall.goC (tabs_ok L) L.cX (by rw [L.K]; exact H _) hn (fun rargs hl => by rw [L.K]; exact hb _ _ hl) (by rw [L.K]; exact hc _) (h g L)
noncomputable abbrev Grow (σ σ' : MH) : Prop := ∀ b o, σ b = some o → σ' b = some o
structure Held (σ : MH) (t : Addr) (T : Tb) (a : Addr) (xs : List V) : Prop where
  at_ : σ a = some (.list xs)
  off : ¬ foot t T a
theorem Held.mv {σ t T a xs σ' T'} (h : Held σ t T a xs) (m : Mv σ t T σ' T') : Held σ' t T' a xs := ⟨m.keep _ _ h.at_ h.off, fun z => (m.ft a z).elim h.off fun z => by rw [h.at_] at z; cases z⟩
theorem Held.new {σ t T a xs σ'} (hT : TR σ t T) (ha : σ a = none) (h : σ' a = some (.list xs)) : Held σ' t T a xs := ⟨h, fun z => by obtain ⟨o, e⟩ := hT.footD z; rw [ha] at e; cases e⟩
theorem TR.grow {σ t T σ'} (h : TR σ t T) (k : ∀ b o, σ b = some o → σ' b = some o) : TR σ' t T := h.same fun b o q_ e => k b o e
theorem Knows.grow {σ ν σ'} (K : Knows σ ν) (k : ∀ b o, σ b = some o → σ' b = some o) : Knows σ' ν := ⟨fun a r e => by
  obtain ⟨h1, fs, h2, h3⟩ := K.at_ a r e
  exact ⟨h1, fs, k _ _ h2, h3⟩⟩

section
variable {E : En} {K : V → MH → Prop} {σ : MH}
end
section
variable {ν : Nu} {T T' T0 : Tb} {t : Tag}
theorem node_out (I : Inv ν T) {i} (hi : i < T.n) : inArr T (tag ν (T.nd i).key) = false := by
  cases h : inArr T (tag ν (T.nd i).key) with
  | false => rfl
  | true => exact absurd ⟨hi, rfl⟩ (not_at_arr (i := i) I h)
theorem one_le_succ (p : Nat) : (1 : Int) ≤ (p : Int) + 1 := Int.le_add_of_nonneg_left (Int.natCast_nonneg p)
theorem sval_look (I : Inv ν T) {p} (hp : p < total T) (hk : proper (tag ν (skey T p)) = true) : look ν T (tag ν (skey T p)) = sval T p := by
  cases slot_cases hp with
  | arr p h =>
    rw [skey_arr h, sval_arr h]
    show look ν T (.int _) = _
    rw [look_arr (x := (p : Int) + 1) ⟨one_le_succ p, Int.ofNat_le.mpr h⟩, sucN, List.getD_eq_getElem?_getD]
  | nod i h =>
    rw [skey_nod] at hk ⊢
    rw [sval_nod, look_node (node_out I h), nlook_at I hk ⟨h, rfl⟩]
theorem slot_proper (I : Inv ν T) {p} (hp : p < total T) (h : sval T p ≠ .none) : proper (tag ν (skey T p)) = true := by
  cases slot_cases hp with
  | arr p z => rw [skey_arr z]; rfl
  | nod i z =>
    rw [sval_nod] at h
    rw [skey_nod]
    cases e : proper (tag ν (T.nd i).key) with
    | true => rfl
    | false => exact absurd (I.vals _ z e) h
theorem slot_any (I : Inv ν T) {p} (hp : p < total T) : AnyV ν (skey T p) := by
  cases slot_cases hp with
  | arr p z => rw [skey_arr z]; exact .int _
  | nod i z => rw [skey_nod]; exact I.keys _ z
theorem slot_of (I : Inv ν T) {t} (ht : proper t = true) (h : look ν T t ≠ .none) : ∃ p, A3 (p < total T) (tag ν (skey T p) = t) (sval T p = look ν T t) := by
  cases hi : inArr T t with
  | true =>
    obtain ⟨x, hx⟩ := inA_of hi
    obtain ⟨n, hn⟩ := Int.eq_ofNat_of_zero_le (Int.sub_nonneg_of_le hx.1)
    obtain rfl := Int.sub_eq_iff_eq_add.mp hn
    have lt : n < T.arr.length := Int.ofNat_le.mp hx.2
    exact ⟨n, Nat.lt_of_lt_of_le lt (Nat.le_add_right ..), by rw [skey_arr lt]; rfl, by rw [sval_arr lt, look_arr hx, sucN, List.getD_eq_getElem?_getD]⟩
  | false =>
    rw [look_node hi] at h ⊢
    obtain ⟨i, hi⟩ : ∃ i, IsAt ν T t i := Classical.byContradiction fun z => h (nlook_none fun i hi => z ⟨i, hi⟩)
    exact ⟨T.arr.length + i, Nat.add_lt_add_left hi.1 _, by rw [skey_nod]; exact hi.2, by rw [sval_nod, nlook_at I ht hi]⟩
theorem slot_an (I : Inv ν T) {p i} (hp : p < T.arr.length) (hi : i < T.n) (e : tag ν (skey T p) = tag ν (T.nd i).key) : False := by
  have := node_out I hi
  rw [← e, skey_arr hp] at this
  exact of_decide_eq_false this ⟨one_le_succ p, Int.ofNat_le.mpr hp⟩
theorem slot_uniq (I : Inv ν T) {p q} (hp : p < total T) (hq : q < total T) (hk : proper (tag ν (skey T p)) = true) (e : tag ν (skey T p) = tag ν (skey T q)) : p = q := by
  cases slot_cases hp with
  | arr p h =>
    cases slot_cases hq with
    | arr q h' =>
      rw [skey_arr h, skey_arr h'] at e
      exact Nat.succ.inj (Int.ofNat.inj (Tag.int.inj e))
    | nod j h' => rw [skey_nod] at e; exact (slot_an I h h' e).elim
  | nod i h =>
    rw [skey_nod] at e hk
    cases slot_cases hq with
    | arr q h' => exact (slot_an I h' h e.symm).elim
    | nod j h' => rw [skey_nod] at e; rw [I.uniq _ _ h h' e hk]
theorem SameKeys.total (S : SameKeys T T') : Mn.total T' = Mn.total T := by unfold Mn.total; rw [S.arr, S.n]
set_option tactic.hygienic true in
theorem SameKeys.skey (S : SameKeys T T') {p} (hp : p < Mn.total T) : Mn.skey T' p = Mn.skey T p := by
  unfold Mn.total at hp
  unfold Mn.skey
  rw [S.arr]
  split
  · rfl
  · rename_i h; exact S.key _ (Nat.sub_lt_left_of_lt_add (Nat.le_of_not_lt h) hp)
theorem SameKeys.trans {T''} (S : SameKeys T T') (S' : SameKeys T' T'') : SameKeys T T'' := ⟨S'.arr.trans S.arr, S'.n.trans S.n, fun i hi => (S'.key i (by rw [S.n]; exact hi)).trans (S.key i hi)⟩
theorem has_of_look (ht : look ν T t ≠ .none) : inArr T t = true ∨ HasKey ν T t := by
  cases hi : inArr T t with
  | true => exact .inl rfl
  | false =>
    rw [look_node hi] at ht
    exact .inr (Classical.byContradiction fun z => ht (nlook_none fun i hi => z ⟨i, hi⟩))
noncomputable def metT (ν : Nu) (T0 : Tb) (s : Nat) : List Tag := ((List.range s).filter fun q => !isNone (sval T0 q)).map fun q => tag ν (skey T0 q)
theorem isNone_ne {v : V} (h : v ≠ .none) : isNone v = false := by
  cases e : isNone v with
  | false => rfl
  | true => exact absurd (isNone_iff.mp e) h
theorem metT_step {s : Nat} : metT ν T0 (s + 1) = if isNone (sval T0 s) = true then metT ν T0 s else metT ν T0 s ++ [tag ν (skey T0 s)] := by
  unfold metT
  rw [List.range_succ, List.filter_append, List.map_append]
  cases e : isNone (sval T0 s) <;> rw [List.filter_cons, e] <;> simp
theorem metT_skip {s p : Nat} (h : s ≤ p) (hn : ∀ q, s ≤ q → q < p → sval T0 q = .none) : metT ν T0 p = metT ν T0 s := by
  induction h with
  | refl => rfl
  | step h ih => rw [metT_step, isNone_iff.mpr (hn _ h (Nat.lt_succ_self _)), if_pos rfl]; exact ih fun q a b => hn q a (Nat.lt_succ_of_lt b)
theorem metT_next {s p : Nat} (h : s ≤ p) (hn : ∀ q, s ≤ q → q < p → sval T0 q = .none) (hp : sval T0 p ≠ .none) : metT ν T0 (p + 1) = metT ν T0 s ++ [tag ν (skey T0 p)] := by
  rw [← metT_skip h hn, metT_step, isNone_ne hp]; rfl
theorem metT_mem {s t} : t ∈ metT ν T0 s ↔ ∃ q, A3 (q < s) (sval T0 q ≠ .none) (tag ν (skey T0 q) = t) := by
  unfold metT
  simp only [List.mem_map, List.mem_filter, List.mem_range]
  constructor
  · rintro ⟨q, ⟨a, b⟩, c⟩
    exact ⟨q, a, fun z => (by rw [z] at b; cases b), c⟩
  · rintro ⟨q, a, b, c⟩
    exact ⟨q, ⟨a, by rw [isNone_ne b]; rfl⟩, c⟩
theorem metT_nodup (I0 : Inv ν T0) {s} (hs : s ≤ total T0) : (metT ν T0 s).Nodup := by
  unfold metT
  refine List.pairwise_map.mpr ?_
  have h1 : ((List.range s).filter fun q => !isNone (sval T0 q)).Pairwise (· ≠ ·) := (List.filter_sublist).nodup List.nodup_range
  refine List.Pairwise.imp_of_mem (fun {a b} ha hb hab e => ?_) h1
  have ha' := List.mem_filter.mp ha
  have hb' := List.mem_filter.mp hb
  have la := List.mem_range.mp ha'.1
  have lb := List.mem_range.mp hb'.1
  exact hab (slot_uniq I0 (Nat.lt_of_lt_of_le la hs) (Nat.lt_of_lt_of_le lb hs) (slot_proper I0 (Nat.lt_of_lt_of_le la hs) fun z => by rw [z] at ha'; cases ha'.2) e)
theorem perm_of_mem {ts us : List Tag} (n : ts.Nodup) (m : us.Nodup) (h : ∀ t, t ∈ ts ↔ t ∈ us) : ts.Perm us := (List.perm_ext_iff_of_nodup n m).mpr h

end
theorem nd_len {α : Type} [DecidableEq α] : ∀ {l m : List α}, l.Nodup → (∀ x, x ∈ l → x ∈ m) → l.length ≤ m.length
  | [], _, _, _ => Nat.zero_le _
  | x :: l, m, n, h => by
    rw [List.nodup_cons] at n
    have hx := h x (.head _)
    have := nd_len (m := m.erase x) n.2 fun y hy => (List.mem_erase_of_ne (fun z : y = x => n.1 (by rw [← z]; exact hy))).mpr (h y (.tail _ hy))
    rw [List.length_erase_of_mem hx] at this
    exact Nat.lt_of_le_of_lt this (Nat.sub_lt (List.length_pos_of_mem hx) Nat.one_pos)
theorem TR.updO {σ t T a o} (h : TR σ t T) (n : ¬ foot t T a) : TR (upd σ a o) t T := by
  exact h.same fun b o f e => (upd_ne _ _ fun z => n (by rw [← z]; exact f)).trans e
noncomputable def c_HeapObject_init : Cd := .ld 1 <| .ld 0 <| .stf "number" <| .lit (.int (0)) <| .ld 0 <| .stf "mark" <| .ld 2 <| .ld 0 <| .stf "size" <| .fin
noncomputable def c_Table_init_1 : Cd := .ld 0 <| .mld cT "resize" <| .ld 2 <| .ld 3 <| .call (.ref 330) 3 <| .pop <| .fin
noncomputable def c_Table_init_2 : Cd := .ld 3 <| .lit (.int (0)) <| .cmp .Gt <| .br (c_Table_init_1) (.fin)
noncomputable def c_Table_init : Cd := .ld 0 <| .ld 1 <| .lit (.int (56)) <| .call (.ref 55) 3 <| .pop <| .lit .none <| .ld 0 <| .stf "meta" <| .lit (.int (0)) <| .ld 0 <| .stf "flags" <| .lit (.bytes [].toArray) <| .ld 0 <| .stf "weak" <| .lst 0 <| .ld 0 <| .stf "array" <| .lst 0 <| .ld 0 <| .stf "nodes" <| .lit (.int (0)) <| .ld 0 <| .stf "log_nodes" <| .lit (.int (0)) <| .ld 0 <| .stf "free" <| .ld 2 <| .lit (.int (0)) <| .cmp .Gt <| .br (c_Table_init_1) (c_Table_init_2)
noncomputable def tb0 (num : Int) (aa nn : Addr) : Tb := ⟨num, .int 0, .int 56, .none, .int 0, .bytes [].toArray, aa, [], nn, [], .int 0, 0⟩
structure NewT (ν : Nu) (σ : MH) (a : Addr) (num : Int) (σ' : MH) (T : Tb) : Prop where
  tr : TR σ' a T
  inv : Inv ν T
  look : ∀ t, proper t = true → Mn.look ν T t = .none
  nokey : ∀ t, proper t = true → ¬ HasKey ν T t
  lives : Mn.lives T = 0
  num : T.num = num
  keep : ∀ b o, σ b = some o → σ' b = some o
  fresh : ∀ b, foot a T b → σ b = none
theorem binds_table4 : ∀ P (s : Shared) (rargs : List Value), (hd.heap_1 P).In s.heap → rargs.length = 4 → ∃ rdv, BindsTo s (fnAt (hd.heap_1 P) 217) ⟨rargs, []⟩ ((["self", "number", "array_size", "hash_size"] : List Str).zip (rargs ++ rdv)) ∧ ∀ h, VsRel h [] rdv := fun P s rargs h =>
  args4 (P := fun rargs => ∃ rdv, BindsTo s (fnAt (hd.heap_1 P) 217) ⟨rargs, []⟩ ((["self", "number", "array_size", "hash_size"] : List Str).zip (rargs ++ rdv)) ∧ ∀ h, VsRel h [] rdv) (fun x y z w => ⟨[], fnAt_of (P := fun fd => BindsTo s fd ⟨[x, y, z, w], []⟩ _) ⟨_, _, _, _, rfl, BindsTo.of_defaults (T := 210) rfl (h 210 _ rfl) rfl rfl rfl⟩, fun q_ => .nil⟩) rargs
section
variable {ν : Nu} {σ : MH} {a b : Addr} {fs : List (Str × V)} {x : Str} {v : V} {KK : MH → Prop}
theorem Pu.put {E : En} (L : Law E.g) (hk : (["number", "mark", "size", "meta", "flags", "weak", "array", "nodes", "log_nodes", "free"] : List Str).contains x = true) (hz : Nat.ble fs.length 900 = true) (h : KK (upd σ a (.inst cT (setF fs x v)))) : Pu E (sA x) [.ref a, v] KK (upd σ a (.inst cT fs)) :=
  Pu.fld (upd_same ..) (L.fT hk) (Nat.le_of_ble_eq_true hz) (by rw [upd_upd]; exact h)
theorem Pu.put2 {E : En} (L : Law E.g) {o : O} (hb : upd σ a (.inst cT fs) b = none) (hk : (["number", "mark", "size", "meta", "flags", "weak", "array", "nodes", "log_nodes", "free"] : List Str).contains x = true) (hz : Nat.ble fs.length 900 = true) (h : σ b = none → KK (upd (upd σ b o) a (.inst cT (setF fs x v)))) :
    Pu E (sA x) [.ref a, v] KK (upd (upd σ a (.inst cT fs)) b o) := by
  have n : a ≠ b := fun z => by rw [z, upd_same] at hb; cases hb
  refine Pu.fld ((upd_ne _ _ n).trans (upd_same ..)) (L.fT hk) (Nat.le_of_ble_eq_true hz) ?_
  have e : ∀ w, upd (upd (upd σ a (.inst cT fs)) b o) a w = upd (upd σ b o) a w := fun w => funext fun y => by
    unfold upd
    by_cases z : y = a
    · rw [if_pos z, if_pos z]
    · rw [if_neg z, if_neg z, if_neg z]
  rw [e]; exact h ((upd_ne _ _ (Ne.symm n)).symm.trans hb)
theorem heapobject_init {num size : V} : Fn 1 55 [.ref a, num, size] (fun r σ' => r = .none ∧ σ' = upd σ a (.inst cT (setF (setF (setF [] "number" num) "mark" (V.int 0)) "size" size))) (upd σ a (.inst cT [])) :=
  Fn.go (ps := ["self", "number", "size"]) (rest := []) (code := c_HeapObject_init) (fun q_ => by kernel_rfl) (fun q_ => by kernel_rfl) (fun q_ => args3 fun q_ q_ q_ => by kernel_rfl) (fun q_ => by kernel_rfl) rfl fun g L =>
    Pu.put L (by kernel_rfl) rfl (Pu.put L (by kernel_rfl) rfl (Pu.put L (by kernel_rfl) rfl ⟨rfl, rfl⟩))
theorem table_init {num : Int} {as hs : Nat} {g : G} (L : Law g) (K : Knows σ ν) (h0 : σ a = none) (has : as ≤ 2 ^ 20) (hhs : hs ≤ 2 ^ 20) :
    wp c_Table_init ⟨g, 11, noX⟩ (retC fun r σ' => r = .none ∧ ∃ T, NewT ν σ a num σ' T) [] [some (.ref a), some (.int num), some (.int as), some (.int hs)] (upd σ a (.inst cT [])) := by
  have hν := Knows.none K h0
  refine Pv.fn L heapobject_init rfl ?_
  rintro _ _ ⟨rfl, rfl⟩
  refine Pu.put L (by kernel_rfl) rfl (Pu.put L (by kernel_rfl) rfl (Pu.put L (by kernel_rfl) rfl fun aa haa => Pu.put2 L haa (by kernel_rfl) rfl fun haa0 nn hnn => Pu.put2 L hnn (by kernel_rfl) rfl fun hnn0 => Pu.put L (by kernel_rfl) rfl (Pu.put L (by kernel_rfl) rfl ?_)))
  have hnn1 : σ nn = none := isNone_of fun o e => by rw [upd_ne _ _ (fun z => by rw [z, haa0] at e; cases e), e] at hnn0; cases hnn0
  have na : a ≠ aa := fun z => by rw [← z, upd_same] at haa; cases haa
  have nnn : a ≠ nn := fun z => by rw [← z, upd_same] at hnn; cases hnn
  have nna : aa ≠ nn := fun z => by rw [← z, upd_same] at hnn0; cases hnn0
  rw [show setF (setF (setF (setF (setF (setF (setF (setF (setF (setF [] "number" (V.int num)) "mark" (V.int 0)) "size" (V.int 56)) "meta" V.none) "flags" (V.int 0)) "weak" (V.bytes [].toArray)) "array" (V.ref aa)) "nodes" (V.ref nn)) "log_nodes" (V.int 0)) "free" (V.int 0) = Tb.fs (tb0 num aa nn) by kernel_rfl]
  have tr : TR (upd (upd (upd σ aa (.list [])) nn (.list [])) a (.inst cT (tb0 num aa nn).fs)) a (tb0 num aa nn) :=
    ⟨upd_same .., (upd_ne _ _ (Ne.symm na)).trans ((upd_ne _ _ nna).trans (upd_same ..)), (upd_ne _ _ (Ne.symm nnn)).trans (upd_same ..), (fun q_ h => nomatch h), List.nodup_nil, nna, (fun q_ h => nomatch h), (fun q_ h => nomatch h), Nat.zero_le _, Nat.zero_le _⟩
  have k2 : ∀ b o, σ b = some o → upd (upd (upd σ aa (.list [])) nn (.list [])) a (.inst cT (tb0 num aa nn).fs) b = some o := fun b o e =>
    (upd_ne _ _ fun z => by rw [z, h0] at e; cases e).trans ((upd_ne _ _ fun z => by rw [z, hnn1] at e; cases e).trans ((upd_ne _ _ fun z => by rw [z, haa0] at e; cases e).trans e))
  generalize upd (upd (upd σ aa (.list [])) nn (.list [])) a (.inst cT (tb0 num aa nn).fs) = σ2 at tr k2
  have I2 : Inv ν (tb0 num aa nn) := inv_fresh (Nat.zero_le _) (.inl rfl) rfl (fun i hi => absurd hi (Nat.not_lt_zero _))
  have K2 : Knows σ2 ν := ⟨fun b r e => let ⟨q1, fs, q2, q3⟩ := K.at_ b r e; ⟨q1, fs, k2 b _ q2, q3⟩⟩
  have nk2 : ∀ t, ¬ HasKey ν (tb0 num aa nn) t := fun t ⟨i, h⟩ => absurd h.1 (Nat.not_lt_zero _)
  have lk2 : ∀ t, look ν (tb0 num aa nn) t = .none := fun t => by
    rw [look_node]
    · exact nlook_none fun i h => nk2 t ⟨i, h⟩
    · cases t with
      | int x => exact decide_eq_false fun (h : 1 ≤ x ∧ x ≤ ((0 : Nat) : Int)) => absurd (Int.le_trans h.1 h.2) (by decide)
      | _ => rfl
  have f2 : ∀ b, foot a (tb0 num aa nn) b → σ b = none := fun b hb => by
    rcases hb with hb | hb | hb | hb
    · exact hb ▸ h0
    · exact hb ▸ haa0
    · exact hb ▸ hnn1
    · cases hb
  have re : ¬ (as = 0 ∧ hs = 0) → wp c_Table_init_1 ⟨g, 11, noX⟩ (retC fun r σ' => r = .none ∧ ∃ T, NewT ν σ a num σ' T) [] [some (.ref a), some (.int num), some (.int as), some (.int hs)] σ2 := fun nz => by
    refine Meth.tab tr rfl (Pv.fn L (resize_gen K2 hν tr I2 (a := as) (h := hs) (by (refine Nat.le_trans (by assumption) ?_; decide)) hhs (by show 0 + 1 ≤ _; decide)).2 rfl ?_)
    rintro _ σ3 ⟨rfl, T3, tr3, m3, rs⟩
    refine ⟨rfl, T3, ⟨tr3, rs.inv, fun t ht => (rs.look t ht).trans (lk2 t), fun t ht h => rs.live t ht h (lk2 t), ?_, m3.num, fun b o e => m3.keep b o (k2 b o e) fun z => (by rw [f2 b z] at e; cases e), fun b hb => ?_⟩⟩
    · exact Nat.eq_zero_of_le_zero rs.lives
    · rcases m3.ft b hb with z | z
      · exact f2 b z
      · exact isNone_of fun o w => by rw [k2 b o w] at z; cases z
  exact brk2.dec (fun h => re fun z => by rw [z.1] at h; exact absurd h (by decide)) fun q_ => brk2.dec (fun h => re fun z => by rw [z.2] at h; exact absurd h (by decide)) fun q_ => ⟨rfl, _, ⟨tr, I2, fun t q_ => lk2 t, fun t q_ => nk2 t, rfl, rfl, k2, f2⟩⟩
theorem Pv.table {E : En} {K : V → MH → Prop} {num : Int} {as hs : Nat} {args : List V} (L : Law E.g) (hd : Nat.ble 13 E.d = true) (Kn : Knows σ ν) (has : as ≤ 2 ^ 20) (hhs : hs ≤ 2 ^ 20) (ha : args = [.int num, .int as, .int hs])
    (h : ∀ a σ' T, σ a = none → NewT ν σ a num σ' T → K (.ref a) σ') : Pv E tcall (.ref cT :: args) K σ := by
  subst ha
  exact Pv.make L (n := 12) (fI := 217) (fun q_ => by kernel_rfl) hd fun a hna => Fn.mono (Q := fun r σ' => r = .none ∧ ∃ T, NewT ν σ a num σ' T) (Fn.goD (ps := ["self", "number", "array_size", "hash_size"]) (dv := []) (rest := []) (code := c_Table_init) (fun q_ => by kernel_rfl) (fun q_ => by kernel_rfl) binds_table4 (fun q_ => by kernel_rfl) rfl fun g L => table_init L Kn hna has hhs) fun v σ' q => ⟨q.1, let ⟨T, n⟩ := q.2; h a σ' T hna n⟩
end
theorem fmod_pos (x : Int) {m : Int} (h : 0 ≤ m) : x.fmod m = x % m := Int.fmod_eq_emod_of_nonneg _ h
theorem fmod_in (x : Int) {m : Int} (h : 0 < m) : 0 ≤ x.fmod m ∧ x.fmod m < m := by
  rw [fmod_pos x (Int.le_of_lt h)]
  exact ⟨Int.emod_nonneg _ (Int.ne_of_gt h), Int.emod_lt_of_pos _ h⟩
theorem dfind_mem {P : Prs} {t v} (h : dfind P t = some v) : (t, v) ∈ P := by
  obtain ⟨p, hp, rfl⟩ := Option.map_eq_some_iff.mp h
  have e : p.1 = t := by simpa using List.find?_some hp
  rw [← e]; exact List.mem_of_find?_eq_some hp
theorem dfind_some {P : Prs} {t} (h : t ∈ P.map (·.1)) : ∃ v, dfind P t = some v := by
  cases e : dfind P t with
  | some v => exact ⟨v, rfl⟩
  | none => exact absurd h (dfind_none e)
noncomputable def liveL (T : Tb) (s : Nat) : List Nat := (List.range s).filter fun q => !isNone (sval T q)
theorem metT_live (ν T s) : metT ν T s = (liveL T s).map fun q => tag ν (skey T q) := rfl
theorem liveL_step (T : Tb) (s : Nat) : liveL T (s + 1) = if isNone (sval T s) = true then liveL T s else liveL T s ++ [s] := by
  unfold liveL
  rw [List.range_succ, List.filter_append, List.filter_cons, List.filter_nil]
  cases e : isNone (sval T s)
  · rfl
  · exact List.append_nil _
theorem liveL_mem {T : Tb} {s q : Nat} (h : q ∈ liveL T s) : q < s ∧ sval T q ≠ .none := by
  obtain ⟨h1, h2⟩ := List.mem_filter.mp h
  exact ⟨List.mem_range.mp h1, isSome_ne h2⟩
set_option tactic.hygienic true in
theorem dfind_set (P : Prs) (t t' : Tag) (v : V) : dfind (dset P t v) t' = if t' = t then some v else dfind P t' := by
  unfold dset
  split
  · rename_i h
    obtain ⟨w, hw⟩ := Option.isSome_iff_exists.mp h
    clear h
    induction P with
    | nil => cases hw
    | cons p P ih =>
      rw [List.map_cons, dfind_cons, dfind_cons]
      rw [dfind_cons] at hw
      unfold dput
      by_cases e : p.1 = t
      · rw [if_pos e]
        by_cases e' : t' = t
        · rw [if_pos e', if_pos (e.trans e'.symm)]
        · rw [if_neg e', if_neg fun z => e' (z.symm.trans e), if_neg fun z => e' (z.symm.trans e)]
          clear ih hw
          induction P with
          | nil => rfl
          | cons q P ih =>
            rw [List.map_cons, dfind_cons, dfind_cons, ih]
            by_cases e2 : q.1 = t
            · rw [if_pos e2, if_neg fun z => e' (z.symm.trans e2), if_neg fun z => e' (z.symm.trans e2)]
            · rw [if_neg e2]
      · rw [if_neg e] at hw ⊢
        have ih := ih hw
        unfold dput at ih
        rw [ih]
        by_cases e2 : p.1 = t'
        · rw [if_pos e2, if_pos e2, if_neg fun z => e (e2.trans z)]
        · rw [if_neg e2, if_neg e2]
  · rename_i h0
    have h := Option.not_isSome_iff_eq_none.mp h0
    clear h0
    induction P with
    | nil =>
      rw [List.nil_append, dfind_cons]
      by_cases e : t' = t
      · rw [if_pos e, if_pos e.symm]
      · rw [if_neg e, if_neg fun z => e z.symm]
    | cons p P ih =>
      rw [dfind_cons] at h
      by_cases e : p.1 = t
      · rw [if_pos e] at h; cases h
      · rw [if_neg e] at h
        rw [List.cons_append, dfind_cons, dfind_cons, ih h]
        by_cases e2 : p.1 = t'
        · rw [if_pos e2, if_pos e2, if_neg fun z => e (e2.trans z)]
        · rw [if_neg e2, if_neg e2]
theorem dfind_del (P : Prs) (t t' : Tag) : dfind (ddel P t) t' = if t' = t then none else dfind P t' := by
  induction P with
  | nil => split <;> rfl
  | cons p P ih =>
    rw [ddel_cons, dfind_cons]
    by_cases e : p.1 = t
    · rw [if_pos e, ih]
      by_cases e2 : t' = t
      · rw [if_pos e2, if_pos e2]
      · rw [if_neg e2, if_neg e2, if_neg fun z => e2 (z.symm.trans e)]
    · rw [if_neg e, dfind_cons, ih]
      by_cases e2 : p.1 = t'
      · rw [if_pos e2, if_pos e2, if_neg fun z => e (e2.trans z)]
      · rw [if_neg e2, if_neg e2]
theorem dset_mem {P : Prs} {t v p} (h : p ∈ dset P t v) : p ∈ P ∨ p = (t, v) := by
  unfold dset at h
  split at h
  · obtain ⟨q, hq, rfl⟩ := List.mem_map.mp h
    unfold dput
    split
    · exact .inr (by rw [← ‹q.1 = t›])
    · exact .inl hq
  · exact (List.mem_append.mp h).imp id List.mem_singleton.mp
section
variable {E : En} {K : V → MH → Prop} {KK : MH → Prop} {σ : MH} {a : Addr} {P : Prs} {t : Tag}
theorem Pv.dIn (hσ : σ a = some (.dict P)) (ht : KTag t) (h : K (.bool (dfind P t).isSome) σ) : Pv E (t2 (compareOp .In)) [kv t, .ref a] K σ := ⟨fun q_ q_ => PV.inDict hσ ht h⟩
theorem Pv.dNotIn (hσ : σ a = some (.dict P)) (ht : KTag t) (h : K (.bool (!(dfind P t).isSome)) σ) : Pv E (t2 (compareOp .NotIn)) [kv t, .ref a] K σ := ⟨fun q_ q_ => PV.notInDict hσ ht h⟩
theorem Pv.dLen (hσ : σ a = some (.dict P)) (hz : P.length < 2 ^ 60) (h : K (.int P.length) σ) : Pv E tcall [.bi "len", .ref a] K σ := ⟨fun q_ q_ => PV.len_dict hσ hz h⟩
theorem Pg.dict {v : V} (hσ : σ a = some (.dict P)) (ht : KTag t) (hx : dfind P t = some v) (h : K v σ) : Pg E (.ref a) (kv t) K σ := ⟨fun q_ q_ => PG.dict hσ ht hx h⟩
end
section
variable {σ : MH} {a : Addr}
theorem Grow.refl : Grow σ σ := fun q_ q_ h => h
theorem Grow.new {o : O} (h : σ a = none) : Grow σ (upd σ a o) := fun b x e => (upd_ne _ _ fun z => by rw [z, h] at e; cases e).trans e
theorem Grow.trans {σ' σ'' : MH} (x : Grow σ σ') (y : Grow σ' σ'') : Grow σ σ'' := fun b o h => y b o (x b o h)
theorem Grow.trans2 {σ σ' σ'' : MH} {a : Addr} (k : Grow σ σ') (ha : σ a = none) (h : ∀ b o, b ≠ a → σ' b = some o → σ'' b = some o) : Grow σ σ'' := fun b o e => h b o (fun z => by rw [z, ha] at e; cases e) (k b o e)
theorem ne_same {x y : Int} {E : En} {Q : Fw → Ls → MH → Prop} {k k' : Cd} {ls : Ls} (h : x = y) (hk : wp k' E Q [] ls σ) : wp (.cmp .NotEq <| .br k k') E Q [.int y, .int x] ls σ := brk2.nd (fun z => absurd h z) fun q_ => hk
end
noncomputable def c_entries_1 : Cd := .ld 1 <| .lit (.int (1)) <| .bin .Add <| .ld 0 <| .tup 2 <| .ret
noncomputable def c_entries_2 : Cd := .ld 0 <| .isn false <| .br (c_entries_1) (.cnt)
noncomputable def c_entries_3 : Cd := .ld 1 <| .ald <| .ld 2 <| .fld "key" <| .ld 2 <| .fld "value" <| .tup 2 <| .call (.bi "list.append") 2 <| .pop <| .fin
noncomputable def c_entries_4 : Cd := .st 2 <| .ld 2 <| .fld "value" <| .isn false <| .br (c_entries_3) (.fin)
noncomputable def c_entries : Cd := .ld 0 <| .fld "array" <| .comp2 3 1 [] (c_entries_2) <| .st 1 <| .ld 0 <| .fld "nodes" <| .forl 0 1 (c_entries_4) (.ld 1 <| .ret)
noncomputable def entV (T : Tb) (s : Nat) : List V := (liveL T s).map fun q => .tup [skey T q, sval T q]
theorem ent_no {T s} (h : sval T s = .none) : entV T (s + 1) = entV T s := by unfold entV; rw [liveL_step, h]; rfl
theorem ent_yes {T s} (h : sval T s ≠ .none) : entV T (s + 1) = entV T s ++ [.tup [skey T s, sval T s]] := by unfold entV; rw [liveL_step, isNone_ne h, if_neg (by decide), List.map_append]; rfl
theorem ent_len (T : Tb) (s : Nat) : (entV T s).length ≤ s := by
  unfold entV liveL
  rw [List.length_map]
  exact Nat.le_trans (List.length_filter_le ..) (by rw [List.length_range]; exact Nat.le_refl s)
section
variable {ν : Nu} {σ : MH} {t : Addr} {T : Tb}
theorem entries_ok (hT : TR σ t T) (I : Inv ν T) : Fn 1 403 [.ref t] (fun r σ' => (∃ D, r = .ref D ∧ σ' D = some (.list (entV T (total T)))) ∧ Grow σ σ') σ := by
  refine Fn.goC (ps := ["self"]) (rest := ["found", "node"]) (code := c_entries) (fun q_ => by kernel_rfl) (fun q_ => args1 fun q_ => by kernel_rfl) (fun q_ => by kernel_rfl) rfl fun g L => ?_
  have sa := hT.sa
  have sn : T.n ≤ 2 ^ 23 := hT.sn
  refine Pv.array L hT (It.enum _ _ (.inl hT.arr) (CmpL.mk (fun D k acc σ' => A4 (k ≤ T.arr.length) (acc = entV T k) (σ' D = some (.list acc)) (Grow σ σ')) (fun D hD => ⟨Nat.zero_le _, rfl, upd_same .., Grow.new hD⟩)
    (fun D k acc σ2 h => ⟨.inl (h.h4 _ _ hT.arr), h.h3, ?_⟩) (fun D k v acc σ2 hD hv h => ?_) fun D acc σ2 hD h => ?_))
  · rw [h.h2]; exact Nat.le_trans (ent_len T k) (Nat.le_trans h.h1 (Nat.le_trans sa (by decide)))
  · obtain ⟨_, rfl, h3, k2⟩ := h
    rw [enumL_get] at hv
    obtain ⟨x, hx, rfl⟩ := Option.map_eq_some_iff.mp hv
    have lt := (List.getElem?_eq_some_iff.mp hx).1
    have e1 : sval T k = x := by rw [sval_arr lt, List.getD_eq_getElem?_getD, hx]; rfl
    have e2 := skey_arr lt
    refine ⟨hT.pa x (List.mem_of_getElem? hx), brk2.bool (fun e => ?_) fun e => ?_⟩
    · have ne : sval T k ≠ .none := by rw [e1]; exact isSome_ne e
      refine ⟨h3, lt, ?_, upd_same .., fun b o hb => (upd_ne _ _ fun z => by rw [z, hD] at hb; cases hb).trans (k2 b o hb)⟩
      rw [ent_yes ne, e1, e2]
    · exact ⟨lt, by rw [ent_no (by rw [e1]; exact isNone_nn e)], h3, k2⟩
  obtain ⟨_, rfl, h3, k2⟩ := h
  rw [show (enumL T.arr).length = T.arr.length by unfold enumL; simp] at h3
  have hT2 := hT.grow k2
  refine Pv.nodes L hT2 (It.val _ _ _ (.list T.na _ (.inl hT2.nl)) (ForL.mk (fun k ls σ3 => ∃ x, A4 (ls = [some (.ref t), some (.ref D), x]) (k ≤ T.n) (σ3 D = some (.list (entV T (T.arr.length + k)))) (∀ b o, b ≠ D → σ2 b = some o → σ3 b = some o))
    ⟨_, rfl, Nat.zero_le _, h3, fun q_ q_ q_ h => h⟩ (fun k ls σ3 ⟨x, h⟩ => .inl (h.h4 _ _ (fun z => by have := hT.nl; rw [z, hD] at this; cases this) hT2.nl)) ?_ ?_))
  · rintro k v ls σ3 hv ⟨x, rfl, _, d3, k3⟩
    rw [List.getElem?_map] at hv
    obtain ⟨⟨ad, n⟩, had, rfl⟩ := Option.map_eq_some_iff.mp hv
    have lt : k < T.n := (List.getElem?_eq_some_iff.mp had).1
    have en := T.nd_of had
    have hT3 : TR σ3 t T := hT2.same fun b o f e => k3 b o (fun z => by obtain ⟨o, e⟩ := hT.footD f; rw [z, hD] at e; cases e) e
    have e1 := sval_nod T k
    have e2 := skey_nod T k
    rw [en] at e1 e2
    refine Pv.value L hT3 had ⟨(hT.pn _ (List.mem_of_getElem? had)).2, brk2.bool (fun e => ?_) fun e => ?_⟩
    · have ne : sval T (T.arr.length + k) ≠ .none := by rw [e1]; exact isSome_ne e
      refine IsL.mk D _ d3 (Pv.key L hT3 had (Pv.value L hT3 had (Pv.app d3 (Nat.le_trans (ent_len T _) (Nat.le_trans (Nat.add_le_add sa (Nat.le_trans (Nat.le_of_lt lt) sn)) (by decide))) ⟨_, rfl, lt, ?_, fun b o hb h => (upd_ne _ _ hb).trans (k3 b o hb h)⟩)))
      rw [← Nat.add_assoc, ent_yes ne, e1, e2]; exact upd_same ..
    · exact ⟨_, rfl, lt, by rw [← Nat.add_assoc, ent_no (by rw [e1]; exact isNone_nn e)]; exact d3, k3⟩
  · rintro ls σ3 ⟨x, rfl, _, d3, k3⟩
    rw [List.length_map] at d3
    exact ⟨⟨D, rfl, d3⟩, k2.trans2 hD k3⟩
end
noncomputable def never : List UInt8 := [110, 101, 118, 101, 114, 32, 116, 104, 101, 114, 101]
inductive U1 : Tag → Prop
  | int (i : Int) (h1 : -4611686018427387904 < i) (h2 : i < 4611686018427387904) : U1 (.int i)
  | bool (b : Bool) : U1 (.bool b)
  | bytes (l : List UInt8) (h : l ≠ never) : U1 (.bytes l)
  | tab (n : Int) (h1 : 70 ≤ n) (h2 : n ≤ 72) : U1 (.ref 0 n)
  | lig (n : Int) (h1 : 0 ≤ n) (h2 : n ≤ 4) : U1 (.ref 1 n)
theorem U1.k {t} (h : U1 t) : KTag t := by cases h <;> constructor
theorem U1.proper {t} (h : U1 t) : proper t = true := by cases h <;> rfl
inductive W1 : V → Prop
  | int (i : Int) : W1 (.int i)
  | bool (b : Bool) : W1 (.bool b)
  | bytes (b : Array UInt8) : W1 (.bytes b)
theorem W1.ne {v} (h : W1 v) : v ≠ .none := by cases h <;> exact fun z => nomatch z
theorem W1.plain {v} (h : W1 v) : v.plain = true := by cases h <;> rfl
noncomputable def w1 : V → Bool
  | .int _ => true
  | .bool _ => true
  | .bytes _ => true
  | _ => false
theorem W1.of {v} (h : w1 v = true) : W1 v := by cases v <;> first | constructor | cases h
structure UK (ν : Nu) (k : V) : Prop where
  any : AnyV ν k
  lt : U1 (tag ν k)
structure KR (ν : Nu) (T : Tb) (P : Prs) : Prop where
  ok : ∀ p ∈ P, U1 p.1 ∧ W1 p.2
  nd : (P.map (·.1)).Nodup
  same : ∀ t, U1 t → (dfind P t).getD .none = look ν T t
  keys : ∀ t, proper t = true → HasKey ν T t ∨ look ν T t ≠ .none → U1 t
section
variable {ν ν' : Nu} {T T' : Tb} {P : Prs} {t : Tag}
theorem KR.live (R : KR ν T P) (I : Inv ν T) {q} (hq : q < total T) (h : sval T q ≠ .none) : A4 (U1 (tag ν (skey T q))) (W1 (sval T q)) (dfind P (tag ν (skey T q)) = some (sval T q)) (AnyV ν (skey T q)) := by
  have hp := slot_proper I hq h
  have lk := sval_look I hq hp
  have t3 := R.keys _ hp (.inr (by rw [lk]; exact h))
  have e := R.same _ t3
  rw [lk] at e
  cases f : dfind P (tag ν (skey T q)) with
  | none => rw [f] at e; exact absurd e.symm h
  | some v =>
    rw [f] at e
    have w := (R.ok _ (dfind_mem f)).2
    have e : v = sval T q := e
    subst e
    exact ⟨t3, w, rfl, slot_any I hq⟩
theorem KR.perm (R : KR ν T P) (I : Inv ν T) : (metT ν T (total T)).Perm (P.map (·.1)) := by
  refine perm_of_mem (metT_nodup I (Nat.le_refl _)) R.nd fun t => ⟨fun h => ?_, fun h => ?_⟩
  · obtain ⟨q, h1, h2, rfl⟩ := metT_mem.mp h
    exact List.mem_map.mpr ⟨_, dfind_mem (R.live I h1 h2).h3, rfl⟩
  · obtain ⟨v, hv⟩ := dfind_some h
    obtain ⟨t3, w⟩ := R.ok _ (dfind_mem hv)
    have e2 := R.same _ t3
    rw [hv] at e2
    have e2 : v = look ν T t := e2
    have ne : look ν T t ≠ .none := by rw [← e2]; exact w.ne
    obtain ⟨p, h1, h2, h3⟩ := slot_of I t3.proper ne
    exact metT_mem.mpr ⟨p, h1, by rw [h3]; exact ne, h2⟩
theorem KR.size (R : KR ν T P) (I : Inv ν T) : (liveL T (total T)).length = P.length := by
  have := (R.perm I).length_eq
  rwa [metT_live, List.length_map, List.length_map] at this
theorem keys_ins {v} (R : KR ν T P) (J : Ins ν T T' t v) (ht : U1 t) : ∀ t', proper t' = true → HasKey ν T' t' ∨ look ν T' t' ≠ .none → U1 t' := fun t' hp h => by
  by_cases e : t' = t
  · exact e ▸ ht
  · rcases h with h | h
    · exact (J.keys t' hp h).elim (fun h => R.keys t' hp (.inl h)) fun h => h.elim (fun z => absurd z e) fun h => R.keys t' hp (.inr h)
    · rw [J.look t' hp, if_neg e] at h; exact R.keys t' hp (.inr h)
theorem KR.set {v : V} (R : KR ν T P) (J : Ins ν T T' t v) (ht : U1 t) (w : W1 v) : KR ν T' (dset P t v) :=
  ⟨fun p hp => (dset_mem hp).elim (R.ok p) fun e => e ▸ ⟨ht, w⟩, dset_nd R.nd, fun t' h' => by
    rw [dfind_set, J.look t' h'.proper]
    split
    · rfl
    · exact R.same t' h', keys_ins R J ht⟩
theorem KR.del (R : KR ν T P) (J : Ins ν T T' t .none) (ht : U1 t) : KR ν T' (ddel P t) :=
  ⟨fun p hp => R.ok p (List.mem_filter.mp hp).1, ddel_nd R.nd, fun t' h' => by
    rw [dfind_del, J.look t' h'.proper]
    split
    · rfl
    · exact R.same t' h', keys_ins R J ht⟩
theorem KR.rs (R : KR ν T P) (J : RsR ν T T') : KR ν T' P :=
  ⟨R.ok, R.nd, fun t' h' => (R.same t' h').trans (J.look t' h'.proper).symm, fun t' hp h => R.keys t' hp (.inr (h.elim (J.live t' hp) fun h => by rw [J.look t' hp] at h; exact h))⟩
theorem KR.flags {v : V} (R : KR ν T P) : KR ν { T with flags := v } P := ⟨R.ok, R.nd, R.same, R.keys⟩
theorem KR.fit (R : KR ν T P) (I : Inv ν T) : lives T = P.length := by
  rw [← R.size I]
  unfold lives liveL total
  rw [← List.countP_eq_length_filter]
  show _ = cnt (T.arr.length + T.n) _
  rw [cnt_shift]
  congr 1
  · exact cnt_congr fun i hi => by unfold arrL sval; rw [if_pos hi]
  · exact cnt_congr fun i hi => by unfold ndL sval; rw [if_neg (by lia -abstractProof), Nat.add_sub_cancel_left]
noncomputable abbrev NuLe (ν ν' : Nu) : Prop := ∀ a r, ν a = some r → ν' a = some r
theorem AnyV.ext (le : NuLe ν ν') {v : V} (h : AnyV ν v) : AnyV ν' v := by
  cases h with
  | ref a r e => exact .ref a r (le a r e)
  | bytes b h => exact .bytes b h
  | _ => constructor
theorem tag_le (le : NuLe ν ν') {v : V} (h : AnyV ν v) : tag ν' v = tag ν v := by
  cases h with
  | ref a r e => rw [tag_ref e, tag_ref (le a r e)]
  | _ => rfl
theorem Inv.ext (I : Inv ν T) (le : NuLe ν ν') : Inv ν' T := by
  have e : ∀ i, i < T.n → tag ν' (T.nd i).key = tag ν (T.nd i).key := fun i hi => tag_le le (I.keys i hi)
  refine ⟨I.sz, I.sa, I.fr, fun i hi => (I.keys i hi).ext le, fun i hi h => I.vals i hi (by rw [← e i hi]; exact h), ?_, I.full, fun i j hi hj h1 h2 => I.uniq i j hi hj (by rw [← e i hi, ← e j hj]; exact h1) (by rw [← e i hi]; exact h2), I.out⟩
  exact I.gr.congr (fun i hi => Iff.rfl) (fun i hi q_ => by rw [e i hi]) fun i hi => rfl
theorem IsAt.ext (I : Inv ν T) (le : NuLe ν ν') {i : Nat} : IsAt ν' T t i ↔ IsAt ν T t i :=
  ⟨fun h => ⟨h.1, by rw [← tag_le le (I.keys i h.1)]; exact h.2⟩, fun h => ⟨h.1, by rw [tag_le le (I.keys i h.1)]; exact h.2⟩⟩
theorem HasKey.ext (I : Inv ν T) (le : NuLe ν ν') : HasKey ν' T t ↔ HasKey ν T t := exists_congr fun q_ => IsAt.ext I le
theorem look_le (I : Inv ν T) (le : NuLe ν ν') : look ν' T t = look ν T t := by
  have e : nlook ν' T t = nlook ν T t := by
    have f : ∀ (l : List (Addr × Nd)), (∀ p ∈ l, tag ν' p.2.key = tag ν p.2.key) → l.find? (fun p => decide (tag ν' p.2.key = t)) = l.find? (fun p => decide (tag ν p.2.key = t)) := fun l => by
      induction l with
      | nil => exact fun q_ => rfl
      | cons p l ih => intro h; rw [List.find?_cons, List.find?_cons, h p (.head _), ih fun q hq => h q (.tail _ hq)]
    unfold nlook
    rw [f _ fun p hp => ?_]
    obtain ⟨i, hi⟩ := List.getElem?_of_mem hp
    have lt := (List.getElem?_eq_some_iff.mp hi).1
    have := I.keys i lt
    rw [Tb.nd_of (a := p.1) (n := p.2) hi] at this
    exact tag_le le this
  unfold look
  split
  · rw [e]
  · exact e
theorem KR.ext (R : KR ν T P) (I : Inv ν T) (le : NuLe ν ν') : KR ν' T P :=
  ⟨R.ok, R.nd, fun t h => (R.same t h).trans (look_le I le).symm, fun t hp h => R.keys t hp (h.imp (HasKey.ext I le).mp fun h => by rwa [look_le I le] at h)⟩
theorem KR.strange (R : KR ν T P) (hp : proper t = true) (h : ¬ U1 t) : ¬ HasKey ν T t ∧ look ν T t = .none := by
  refine ⟨fun z => h (R.keys t hp (.inl z)), ?_⟩
  by_cases e : look ν T t = .none
  · exact e
  · exact absurd (R.keys t hp (.inr e)) h
end
noncomputable def c__law_tag_1 : Cd := .lit (.str "b") <| .ld 0 <| .call (.typ "int") 1 <| .tup 2 <| .ret
noncomputable def c__law_tag_2 : Cd := .lit (.str "n") <| .ld 0 <| .tup 2 <| .ret
noncomputable def c__law_tag_3 : Cd := .lit (.str "s") <| .ld 0 <| .tup 2 <| .ret
noncomputable def c__law_tag_4 : Cd := .lit (.str "l") <| .ld 0 <| .fld "number" <| .tup 2 <| .ret
noncomputable def c__law_tag_5 : Cd := .lit (.str "t") <| .ld 0 <| .fld "number" <| .tup 2 <| .ret
noncomputable def c__law_tag_6 : Cd := .ld 0 <| .lit (.ref 79) <| .call (.bi "isinstance") 2 <| .br (c__law_tag_4) (c__law_tag_5)
noncomputable def c__law_tag_7 : Cd := .ld 0 <| .lit (.typ "bytes") <| .call (.bi "isinstance") 2 <| .br (c__law_tag_3) (c__law_tag_6)
noncomputable def c__law_tag_8 : Cd := .ld 0 <| .lit (.typ "int") <| .call (.bi "isinstance") 2 <| .br (c__law_tag_2) (c__law_tag_7)
noncomputable def c__law_tag : Cd := .ld 0 <| .lit (.typ "bool") <| .call (.bi "isinstance") 2 <| .br (c__law_tag_1) (c__law_tag_8)
noncomputable def c__law_value : Cd := .ld 0 <| .lit (.int (7)) <| .bin .Mod <| .lit (.bool false) <| .lit (.bool true) <| .lit (.bytes [118].toArray) <| .lit (.bytes [].toArray) <| .lit (.int (0)) <| .ld 0 <| .lit (.int (5)) <| .bin .Mod <| .bin .Sub <| .lit (.int (1)) <| .lit (.int (0)) <| .lst 8 <| .ld 0 <| .lit (.int (8)) <| .bin .Mod <| .ix <| .ret
noncomputable def c__law_same_1 : Cd := .ld 0 <| .ld 1 <| .cmp .Eq <| .ret
noncomputable def c__law_same_2 : Cd := .lit (.bool false) <| .ret
noncomputable def c__law_same_3 : Cd := .ld 1 <| .lit (.typ "bool") <| .call (.bi "isinstance") 2 <| .br (c__law_same_1) (c__law_same_2)
noncomputable def c__law_same_4 : Cd := .ld 0 <| .lit (.typ "bool") <| .call (.bi "isinstance") 2 <| .br (c__law_same_3) (c__law_same_2)
noncomputable def c__law_same_5 : Cd := .ld 1 <| .isn true <| .ret
noncomputable def c__law_same_6 : Cd := .ld 0 <| .isn true <| .br (c__law_same_5) (c__law_same_2)
noncomputable def c__law_same_7 : Cd := .ld 0 <| .lit (.typ "bytes") <| .call (.bi "isinstance") 2 <| .ld 1 <| .lit (.typ "bytes") <| .call (.bi "isinstance") 2 <| .cmp .Eq <| .br (c__law_same_1) (c__law_same_2)
noncomputable def c__law_same_8 : Cd := .ld 1 <| .isn true <| .br (c__law_same_6) (c__law_same_7)
noncomputable def c__law_same_9 : Cd := .ld 0 <| .isn true <| .br (c__law_same_6) (c__law_same_8)
noncomputable def c__law_same_10 : Cd := .ld 1 <| .lit (.typ "bool") <| .call (.bi "isinstance") 2 <| .br (c__law_same_4) (c__law_same_9)
noncomputable def c__law_same : Cd := .ld 0 <| .lit (.typ "bool") <| .call (.bi "isinstance") 2 <| .br (c__law_same_4) (c__law_same_10)
noncomputable def c_get_text_1 : Cd := .lit .none <| .ret
noncomputable def c_get_text_2 : Cd := .ld 0 <| .fld "nodes" <| .ld 2 <| .ix <| .fld "value" <| .ret
noncomputable def c_get_text : Cd := .ld 0 <| .mld cT "find_node" <| .ld 1 <| .call (.ref 231) 2 <| .st 2 <| .ld 2 <| .lit (.int (0)) <| .cmp .Lt <| .br (c_get_text_1) (c_get_text_2)
noncomputable def c_set_text : Cd := .lit (.int (0)) <| .ld 0 <| .stf "flags" <| .ld 0 <| .mld cT "put" <| .ld 1 <| .ld 2 <| .ld 3 <| .call (.ref 287) 4 <| .pop <| .fin
section
variable {ν : Nu} {σ : MH} {t : Addr} {T : Tb} {k v : V}
theorem law_tag_ok (K : Knows σ ν) (hk : UK ν k) : Fn 1 422 [k] (fun r σ' => r = kv (tag ν k) ∧ σ' = σ) σ := by
  refine Fn.go (ps := ["key"]) (rest := []) (code := c__law_tag) (fun q_ => by kernel_rfl) (fun q_ => by kernel_rfl) (fun q_ => args1 fun q_ => by kernel_rfl) (fun q_ => by kernel_rfl) rfl fun g L => ?_
  obtain ⟨hv, lt⟩ := hk
  refine Pv.isB L K hv ?_
  cases hv with
  | none => cases lt
  | bool b => exact Pv.intB ⟨rfl, rfl⟩
  | int i => exact Pv.isI L K (.int i) ⟨rfl, rfl⟩
  | bytes b hb => exact Pv.isI L K (.bytes b hb) (Pv.isY L K (.bytes b hb) ⟨rfl, rfl⟩)
  | ref a s h =>
    have e := tag_ref h
    refine Pv.isI L K (.ref a s h) (Pv.isY L K (.ref a s h) (Pv.isR (k := 1) L L.isL K (.ref a s h) rfl ?_))
    rw [e] at lt ⊢
    obtain ⟨j, n⟩ := s
    cases lt <;> exact Pv.num L K e ⟨rfl, rfl⟩
theorem law_same_ok (K : Knows σ ν) (hv : v = .none ∨ W1 v) : Fn 1 436 [v, v] (fun r σ' => r = .bool true ∧ σ' = σ) σ := by
  refine Fn.go (ps := ["a", "b"]) (rest := []) (code := c__law_same) (fun q_ => by kernel_rfl) (fun q_ => by kernel_rfl) (fun q_ => args2 fun q_ q_ => by kernel_rfl) (fun q_ => by kernel_rfl) rfl fun g L => ?_
  have e : ∀ b : Bool, veq (.bool b) (.bool b) = true := fun b => veq_iff.mpr rfl
  rcases hv with rfl | hv
  · exact Pv.isB L K .none (Pv.isB L K .none ⟨rfl, rfl, rfl, rfl, rfl⟩)
  cases hv with
  | bool b =>
    refine Pv.isB L K (.bool b) (Pv.isB L K (.bool b) (Pv.isB L K (.bool b) (cmp_eq (.bb _ _) (Nat.zero_le _) ⟨?_, rfl⟩)))
    rw [e]
  | int i =>
    refine Pv.isB L K (.int i) (Pv.isB L K (.int i) ⟨rfl, rfl, Pv.isY L K (.int i) (Pv.isY L K (.int i) (cmp_eq (.bb _ _) (Nat.zero_le _) ?_))⟩)
    rw [e]
    exact cmp_eq (.ii _ _) (Nat.zero_le _) ⟨by rw [veq_iff.mpr rfl], rfl⟩
  | bytes b =>
    have ib : ∀ {K : V → MH → Prop}, K (.bool false) σ → Pv ⟨g, 0, noX⟩ tcall [.bi "isinstance", .bytes b, .typ "bool"] K σ := fun h => clsVal (.typ "bool") L.isB.val _ (.bytes b) L.isB.y rfl h
    have iy : ∀ {K : V → MH → Prop}, K (.bool true) σ → Pv ⟨g, 0, noX⟩ tcall [.bi "isinstance", .bytes b, .typ "bytes"] K σ := fun h => clsVal (.typ "bytes") L.isY.val _ (.bytes b) L.isY.y rfl h
    refine ib (ib ⟨rfl, rfl, iy (iy (cmp_eq (.bb _ _) (Nat.zero_le _) ?_))⟩)
    rw [e]
    exact cmp_eq (.yy _ _) (Nat.zero_le _) ⟨by rw [veq_iff.mpr rfl], rfl⟩
theorem law_value_ok {n : Int} : Fn 1 429 [.int n] (fun r σ' => W1 r ∧ Grow σ σ') σ := by
  refine Fn.go (ps := ["n"]) (rest := []) (code := c__law_value) (fun q_ => by kernel_rfl) (fun q_ => by kernel_rfl) (fun q_ => args1 fun q_ => by kernel_rfl) (fun q_ => by kernel_rfl) rfl fun g L => ?_
  obtain ⟨f1, f2⟩ := fmod_in n (m := 8) (by decide)
  refine Pv.mod (by decide) (Pv.mod (by decide) fun a ha => Pv.mod (by decide) ?_)
  have lt : (n.fmod 8).toNat < 8 := (Int.toNat_lt f1).mpr f2
  refine Pg.lst (.inl (upd_same ..)) f1 (Int.lt_trans f2 (by decide)) (List.getElem?_eq_getElem lt) ⟨?_, Grow.new ha⟩
  exact W1.of (List.all_eq_true.mp (show List.all [V.int (n.fmod 7), .bool false, .bool true, .bytes [118].toArray, .bytes [].toArray, .int (0 - n.fmod 5), .int 1, .int 0] w1 = true from rfl) _ (List.getElem_mem lt))
theorem get_text_ok {b : Array UInt8} (hb : b.size ≤ 2 ^ 20) (K : Knows σ ν) (hT : TR σ t T) (I : Inv ν T) : Fn 5 252 [.ref t, .bytes b] (fun r σ' => r = look ν T (.bytes b.toList) ∧ σ' = σ) σ :=
  Fn.go (ps := ["self", "text"]) (rest := ["at"]) (code := c_get_text) (fun q_ => by kernel_rfl) (fun q_ => by kernel_rfl) (fun q_ => args2 fun q_ q_ => by kernel_rfl) (fun q_ => by kernel_rfl) rfl fun g L => find_tail (d := 4) L rfl K hT I (.bytes b hb) rfl rfl
theorem set_text_ok {b : Array UInt8} (hb : b.size ≤ 2 ^ 20) (K : Knows σ ν) (hν : ν t = none) (hT : TR σ t T) (I : Inv ν T) (hv : v.plain = true) (hB : lives T + 1 ≤ 2 ^ 19) :
    Fn 11 280 [.ref t, .bytes b, v, .none] (fun r σ' => r = .none ∧ ∃ T', PutG ν σ t T (.bytes b) v σ' T') σ := by
  refine Fn.go (ps := ["self", "text", "value", "heap"]) (rest := []) (code := c_set_text) (fun q_ => by kernel_rfl) (fun q_ => by kernel_rfl) (fun q_ => args4 fun q_ q_ q_ q_ => by kernel_rfl) (fun q_ => by kernel_rfl) rfl fun g L => ?_
  refine Pu.flags L hT fun σ1 hT1 m1 => Meth.tab hT1 rfl (Pv.fn L (put_ok (K.mv hT m1 hν) hν hT1 I.flags (.bytes b hb) rfl hv hB) rfl ?_)
  rintro _ σ2 ⟨rfl, T', q, sk⟩
  exact ⟨rfl, T', ⟨q.tr, m1.trans q.mv, q.ins.inv, q.ins.look, q.ins.keys, q.ins.lives⟩⟩
end
noncomputable def c_LightValue_init : Cd := .ld 1 <| .ld 0 <| .stf "number" <| .fin
noncomputable def c__law_border_right_1 : Cd := .lit (.str "n") <| .ld 2 <| .lit (.int (1)) <| .bin .Add <| .tup 2 <| .ld 1 <| .cmp .NotIn <| .ret
noncomputable def c__law_border_right_2 : Cd := .lit (.bool false) <| .ret
noncomputable def c__law_border_right_3 : Cd := .ld 2 <| .lit (.int (0)) <| .cmp .GtE <| .br (c__law_border_right_1) (c__law_border_right_2)
noncomputable def c__law_border_right_4 : Cd := .lit (.bool true) <| .br (c__law_border_right_3) (c__law_border_right_2)
noncomputable def c__law_border_right_5 : Cd := .lit (.str "n") <| .ld 2 <| .tup 2 <| .ld 1 <| .cmp .In <| .br (c__law_border_right_3) (c__law_border_right_2)
noncomputable def c__law_border_right : Cd := .ld 0 <| .mld cT "length" <| .call (.ref 377) 1 <| .st 2 <| .ld 2 <| .lit (.int (0)) <| .cmp .Eq <| .br (c__law_border_right_4) (c__law_border_right_5)
section
variable {ν ν' ν'' : Nu} {σ σ' σ'' : MH} {t : Addr} {T : Tb}
theorem Pv.light {E : En} (L : Law E.g) {m : Int} {K : V → MH → Prop} (hd : Nat.ble 2 E.d = true) (h : ∀ a, σ a = none → K (.ref a) (upd σ a (.inst cL [("number", .int m)]))) : Pv E tcall [.ref cL, .int m] K σ :=
  Pv.make L (n := 1) (fI := 76) (fun q_ => by kernel_rfl) hd fun a ha =>
    Fn.go (ps := ["self", "number"]) (rest := []) (code := c_LightValue_init) (fun q_ => by kernel_rfl) (fun q_ => by kernel_rfl) (fun q_ => args2 fun q_ q_ => by kernel_rfl) (fun q_ => by kernel_rfl) rfl fun g L =>
      Pu.fld (upd_same ..) (L.fNum (k := 1)) (Nat.le_of_ble_eq_true rfl) ⟨rfl, by rw [upd_upd]; exact h a ha⟩
structure NuX (ν : Nu) (σ : MH) (ν' : Nu) (σ' : MH) : Prop where
  kn : Knows σ' ν'
  new : ∀ a, ν' a = ν a ∨ (σ a = none ∧ ∃ r, ν' a = some r ∧ r.kind ≠ 2)
  grow : Grow σ σ'
theorem NuX.of (K : Knows σ ν) (k : Grow σ σ') : NuX ν σ ν σ' := ⟨K.grow k, fun q_ => .inl rfl, k⟩
theorem NuX.le (x : NuX ν σ ν' σ') (K : Knows σ ν) : NuLe ν ν' := fun a r e => by
  rcases x.new a with h | ⟨h, _⟩
  · rw [h]; exact e
  · rw [K.none h] at e; cases e
theorem NuX.trans (x : NuX ν σ ν' σ') (y : NuX ν' σ' ν'' σ'') : NuX ν σ ν'' σ'' := by
  refine ⟨y.kn, fun a => ?_, x.grow.trans y.grow⟩
  rcases y.new a with h | ⟨h, r, e, q⟩
  · rw [h]; exact x.new a
  · exact .inr ⟨isNone_of fun o e => (by rw [x.grow a o e] at h; cases h), r, e, q⟩
theorem NuX.dead (x : NuX ν σ ν' σ') (h : NoDead ν) : NoDead ν' := fun a r e => by
  rcases x.new a with q | ⟨_, r', q, n⟩
  · exact h a r (by rw [← q]; exact e)
  · rw [e] at q; cases q; exact n
theorem NuX.off (x : NuX ν σ ν' σ') {a o} (h : ν a = none) (e : σ a = some o) : ν' a = none := by
  rcases x.new a with q | ⟨q, _⟩
  · rw [q]; exact h
  · rw [q] at e; cases e
theorem NuX.light (K : Knows σ ν) {a : Addr} {m : Int} (ha : σ a = none) : NuX ν σ (upd ν a ⟨1, m⟩) (upd σ a (.inst cL [("number", .int m)])) := by
  refine ⟨⟨fun b r e => ?_⟩, fun b => ?_, Grow.new ha⟩
  · by_cases z : b = a
    · subst z; rw [upd_same] at e; cases e
      exact ⟨Nat.le_of_ble_eq_true rfl, _, upd_same .., by kernel_rfl, by kernel_rfl⟩
    · rw [upd_ne _ _ z] at e
      obtain ⟨h1, fs, h2, h3⟩ := K.at_ b r e
      exact ⟨h1, fs, (upd_ne _ _ z).trans h2, h3⟩
  · by_cases z : b = a
    · subst z; exact .inr ⟨ha, _, upd_same .., show (1 : Nat) ≠ 2 by decide⟩
    · exact .inl (upd_ne _ _ z)
theorem law_border_right_ok {ka : Addr} {P : Prs} (K : Knows σ ν) (hT : TR σ t T) (I : Inv ν T) (R : KR ν T P) (hk : σ ka = some (.dict P)) : Fn 8 443 [.ref t, .ref ka] (fun r σ' => r = .bool true ∧ σ' = σ) σ := by
  refine Fn.go (ps := ["t", "kept"]) (rest := ["n"]) (code := c__law_border_right) (fun q_ => by kernel_rfl) (fun q_ => by kernel_rfl) (fun q_ => args2 fun q_ q_ => by kernel_rfl) (fun q_ => by kernel_rfl) rfl fun g L => ?_
  refine Meth.tab hT rfl (Pv.fn L (length_ok K hT I) rfl ?_)
  rintro _ σ' ⟨⟨b, rfl, B⟩, rfl⟩
  have u : U1 (.int b) := .int b (by have := B.pos; lia) (by have := B.le; lia)
  have u1 : U1 (.int (b + 1)) := .int (b + 1) (by have := B.pos; lia) (by have := B.le; lia)
  have e1 : dfind P (.int (b + 1)) = Option.none := by
    cases q : dfind P (.int (b + 1)) with
    | none => rfl
    | some v =>
      have w := (R.ok _ (dfind_mem q)).2
      have := R.same _ u1
      rw [q, B.next] at this
      exact absurd this w.ne
  have tail : wp c__law_border_right_3 ⟨g, 7, noX⟩ (retC fun r σ'' => r = .bool true ∧ σ'' = σ') [] [some (.ref t), some (.ref ka), some (.int b)] σ' := by
    refine brk2.dec (fun q_ => ?_) fun z => absurd B.pos z
    refine Pv.dNotIn (t := .int (b + 1)) hk (.int _) ⟨?_, rfl⟩
    rw [e1]; rfl
  refine brk2.dec (fun q_ => tail) fun z => ?_
  have nn := B.here.resolve_left z
  refine Pv.dIn (t := .int b) hk (.int _) (brk2.bool (fun q_ => tail) fun e => ?_)
  cases q : dfind P (.int b) with
  | some v => rw [q] at e; cases e
  | none =>
    have := R.same _ u
    rw [q] at this
    exact absurd this.symm nn
end
noncomputable def c__law_key_1 : Cd := .lit (.str "n") <| .lit (.int (1)) <| .ld 2 <| .lit (.int (20)) <| .bin .Mod <| .bin .Add <| .tup 2 <| .lit (.int (1)) <| .ld 2 <| .lit (.int (20)) <| .bin .Mod <| .bin .Add <| .tup 2 <| .ret
noncomputable def c__law_key_2 : Cd := .lit (.str "n") <| .ld 2 <| .lit (.int (41)) <| .bin .Mod <| .lit (.int (20)) <| .bin .Sub <| .tup 2 <| .ld 2 <| .lit (.int (41)) <| .bin .Mod <| .lit (.int (20)) <| .bin .Sub <| .tup 2 <| .ret
noncomputable def c__law_key_3 : Cd := .lit (.int (1)) <| .ld 2 <| .lit (.int (40)) <| .bin .Mod <| .bin .LShift <| .ld 2 <| .lit (.int (1)) <| .lit (.int (62)) <| .bin .LShift <| .bin .Mod <| .lit (.int (0)) <| .ld 2 <| .lit (.int (1)) <| .lit (.int (62)) <| .bin .LShift <| .bin .Mod <| .bin .Sub <| .lst 3 <| .ld 2 <| .lit (.int (3)) <| .bin .Mod <| .ix <| .st 4 <| .lit (.str "n") <| .ld 4 <| .tup 2 <| .ld 4 <| .tup 2 <| .ret
noncomputable def c__law_key_4 : Cd := .lit (.str "b") <| .ld 2 <| .lit (.int (2)) <| .bin .Mod <| .tup 2 <| .ld 2 <| .lit (.int (2)) <| .bin .Mod <| .lit (.int (1)) <| .cmp .Eq <| .tup 2 <| .ret
noncomputable def c__law_key_5 : Cd := .lit (.bytes [].toArray) <| .lit (.bytes [97].toArray) <| .lit (.bytes [110].toArray) <| .lit (.bytes [95, 95, 105, 110, 100, 101, 120].toArray) <| .lit (.bytes [107, 101, 121].toArray) <| .lit (.bytes [121, 101, 107].toArray) <| .lit (.bytes [49].toArray) <| .lit (.bytes [108, 111, 110, 103, 32, 116, 101, 120, 116, 32, 111, 102, 32, 115, 111, 109, 101, 32, 115, 105, 103, 110, 115].toArray) <| .lst 8 <| .ld 2 <| .lit (.int (8)) <| .bin .Mod <| .ix <| .st 5 <| .lit (.str "s") <| .ld 5 <| .tup 2 <| .ld 5 <| .tup 2 <| .ret
noncomputable def c__law_key_6 : Cd := .lit (.str "t") <| .ld 1 <| .ld 2 <| .lit (.int (3)) <| .bin .Mod <| .ix <| .fld "number" <| .tup 2 <| .ld 1 <| .ld 2 <| .lit (.int (3)) <| .bin .Mod <| .ix <| .tup 2 <| .ret
noncomputable def c__law_key_7 : Cd := .lit (.str "l") <| .ld 2 <| .lit (.int (5)) <| .bin .Mod <| .tup 2 <| .ld 2 <| .lit (.int (5)) <| .bin .Mod <| .call (.ref 79) 1 <| .tup 2 <| .ret
noncomputable def c__law_key_8 : Cd := .ld 3 <| .lit (.int (7)) <| .cmp .Eq <| .br (c__law_key_6) (c__law_key_7)
noncomputable def c__law_key_9 : Cd := .ld 3 <| .lit (.int (6)) <| .cmp .Eq <| .br (c__law_key_5) (c__law_key_8)
noncomputable def c__law_key_10 : Cd := .ld 3 <| .lit (.int (5)) <| .cmp .Eq <| .br (c__law_key_4) (c__law_key_9)
noncomputable def c__law_key_11 : Cd := .ld 3 <| .lit (.int (4)) <| .cmp .Eq <| .br (c__law_key_3) (c__law_key_10)
noncomputable def c__law_key_12 : Cd := .ld 3 <| .lit (.int (3)) <| .cmp .Eq <| .br (c__law_key_2) (c__law_key_11)
noncomputable def c__law_key : Cd := .ld 0 <| .lit (.int (9)) <| .bin .FloorDiv <| .st 2 <| .ld 0 <| .lit (.int (9)) <| .bin .Mod <| .st 3 <| .ld 3 <| .lit (.int (3)) <| .cmp .Lt <| .br (c__law_key_1) (c__law_key_12)
structure Oth (ν : Nu) (σ : MH) (oa : Addr) (a : Nat → Addr) : Prop where
  at_ : σ oa = some (.list [.ref (a 0), .ref (a 1), .ref (a 2)])
  r : ∀ j, j < 3 → ν (a j) = some ⟨0, 70 + (j : Int)⟩
inductive KeyR (ν : Nu) (σ : MH) (r : V) (σ' : MH) : Prop
  | mk (ν' : Nu) (k : V) (x : NuX ν σ ν' σ') (uk : UK ν' k) (e : r = .tup [kv (tag ν' k), k])
noncomputable def texts : List (List UInt8) := [[], [97], [110], [95, 95, 105, 110, 100, 101, 120], [107, 101, 121], [121, 101, 107], [49], [108, 111, 110, 103, 32, 116, 101, 120, 116, 32, 111, 102, 32, 115, 111, 109, 101, 32, 115, 105, 103, 110, 115]]
theorem texts_ok : texts.all (fun l => l != never && Nat.ble l.length 30) = true := by decide
section
variable {ν : Nu} {σ : MH} {oa : Addr} {a : Nat → Addr}
theorem Oth.ix (O : Oth ν σ oa a) {i : Int} (h0 : 0 ≤ i) (h3 : i < 3) : ∃ b, A3 ([V.ref (a 0), .ref (a 1), .ref (a 2)][i.toNat]? = some (.ref b)) (ν b = some ⟨0, 70 + i⟩) (UK ν (.ref b)) := by
  obtain ⟨j, rfl⟩ := Int.eq_ofNat_of_zero_le h0
  have lt : j < 3 := Int.ofNat_lt.mp h3
  have r := O.r j lt
  refine ⟨a j, ?_, r, .ref _ _ r, ?_⟩
  · rw [Int.toNat_natCast]
    match j, lt with
    | 0, _ => rfl
    | 1, _ => rfl
    | 2, _ => rfl
  · rw [tag_ref r]
    exact .tab _ (Int.le_add_of_nonneg_right h0) (by show (70 : Int) + j ≤ 72; lia)
theorem KeyR.int (K : Knows σ ν) {i : Int} {σ' : MH} (k : Grow σ σ') (h1 : -4611686018427387904 < i) (h2 : i < 4611686018427387904) : KeyR ν σ (.tup [.tup [.str "n", .int i], .int i]) σ' := ⟨ν, .int i, .of K k, ⟨.int i, .int i h1 h2⟩, rfl⟩
theorem law_key_ok {n : Int} (K : Knows σ ν) (O : Oth ν σ oa a) : Fn 3 415 [.int n, .ref oa] (KeyR ν σ) σ := by
  refine Fn.go (ps := ["n", "others"]) (rest := ["m", "form", "far", "text"]) (code := c__law_key) (fun q_ => by kernel_rfl) (fun q_ => by kernel_rfl) (fun q_ => args2 fun q_ q_ => by kernel_rfl) (fun q_ => by kernel_rfl) rfl fun g L => ?_
  refine Pv.div (by decide) (by decide) (Pv.mod (by decide) ?_)
  generalize n.fdiv 9 = m
  generalize n.fmod 9 = f
  refine brk2.dec (fun q_ => ?_) fun q_ => brk2.dec (fun q_ => ?_) fun q_ => brk2.dec (fun q_ => ?_) fun q_ => brk2.dec (fun q_ => ?_) fun q_ => brk2.dec (fun q_ => ?_) fun q_ => brk2.dec (fun q_ => ?_) fun q_ => ?_
  · obtain ⟨h1, h2⟩ := fmod_in m (m := 20) (by decide)
    exact Pv.mod (by decide) (Pv.mod (by decide) (KeyR.int K Grow.refl (by lia) (by lia)))
  · obtain ⟨h1, h2⟩ := fmod_in m (m := 41) (by decide)
    exact Pv.mod (by decide) (Pv.mod (by decide) (KeyR.int K Grow.refl (by lia) (by lia)))
  · obtain ⟨h1, h2⟩ := fmod_in m (m := 40) (by decide)
    obtain ⟨h3, h4⟩ := fmod_in m (m := 3) (by decide)
    obtain ⟨h5, h6⟩ := fmod_in m (m := 1 * 2 ^ (62 : Int).toNat) (by decide)
    refine Pv.mod (by decide) (Pv.shl h1 (by lia) (by decide) (Pv.shl (by decide) (by decide) (by decide) (Pv.mod (by decide) (Pv.shl (by decide) (by decide) (by decide) (Pv.mod (by decide) fun c hc => Pv.mod (by decide) ?_)))))
    have lt : (m.fmod 3).toNat < 3 := (Int.toNat_lt h3).mpr h4
    have p40 : (2 : Int) ^ (m.fmod 40).toNat ≤ 2 ^ 39 := by
      have q : (m.fmod 40).toNat ≤ 39 := Int.toNat_le.mpr (Int.le_of_lt_add_one h2)
      have := Nat.pow_le_pow_right (n := 2) (by decide) q
      exact_mod_cast this
    have p0 : (0 : Int) < 2 ^ (m.fmod 40).toNat := Int.pow_pos (by decide)
    have e62 : (1 * 2 ^ (62 : Int).toNat : Int) = 4611686018427387904 := by decide
    rw [e62] at h5 h6 ⊢
    have hw : ∀ v ∈ [V.int (1 * 2 ^ (m.fmod 40).toNat), .int (m.fmod 4611686018427387904), .int (0 - m.fmod 4611686018427387904)], ∃ i : Int, A3 (v = .int i) (-4611686018427387904 < i) (i < 4611686018427387904) :=
      List.forall_mem_cons.mpr ⟨⟨_, rfl, by lia, by lia⟩, List.forall_mem_cons.mpr ⟨⟨_, rfl, Int.lt_of_lt_of_le (by decide) h5, h6⟩, List.forall_mem_cons.mpr ⟨⟨_, rfl, by lia, by lia⟩, fun q_ h => nomatch h⟩⟩⟩
    obtain ⟨v, e⟩ : ∃ v, [V.int (1 * 2 ^ (m.fmod 40).toNat), .int (m.fmod 4611686018427387904), .int (0 - m.fmod 4611686018427387904)][(m.fmod 3).toNat]? = some v := ⟨_, List.getElem?_eq_getElem lt⟩
    obtain ⟨i, rfl, h7, h8⟩ := hw v (List.mem_of_getElem? e)
    exact Pg.lst (.inl (upd_same ..)) h3 (Int.lt_trans h4 (by decide)) e (KeyR.int K (Grow.new hc) h7 h8)
  · obtain ⟨h1, h2⟩ := fmod_in m (m := 2) (by decide)
    refine Pv.mod (by decide) (Pv.mod (by decide) ⟨ν, .bool (decide (m.fmod 2 = 1)), .of K Grow.refl, ⟨.bool _, .bool _⟩, ?_⟩)
    by_cases e : m.fmod 2 = 1
    · rw [e]; rfl
    · rw [decide_eq_false e, show m.fmod 2 = 0 by lia]; rfl
  · obtain ⟨h3, h4⟩ := fmod_in m (m := 8) (by decide)
    refine fun c hc => Pv.mod (by decide) ?_
    have lt : (m.fmod 8).toNat < 8 := (Int.toNat_lt h3).mpr h4
    obtain ⟨l, hl⟩ : ∃ l, texts[(m.fmod 8).toNat]? = some l := ⟨_, List.getElem?_eq_getElem lt⟩
    obtain ⟨h7, h8⟩ := Bool.and_eq_true_iff.mp (List.all_eq_true.mp texts_ok l (List.mem_of_getElem? hl))
    have e : (texts.map fun l => V.bytes l.toArray)[(m.fmod 8).toNat]? = some (.bytes l.toArray) := by rw [List.getElem?_map, hl]; rfl
    exact Pg.lst (.inl (upd_same ..)) h3 (Int.lt_trans h4 (by decide)) e ⟨ν, .bytes l.toArray, .of K (Grow.new hc), ⟨.bytes _ (Nat.le_trans (Nat.le_of_ble_eq_true h8) (by decide)), .bytes l (bne_iff_ne.mp h7)⟩, rfl⟩
  · obtain ⟨h3, h4⟩ := fmod_in m (m := 3) (by decide)
    obtain ⟨b, e1, e2, uk⟩ := O.ix h3 h4
    have lt := Int.lt_trans h4 (show (3 : Int) < 2 ^ 63 by decide)
    refine Pv.mod (by decide) (Pg.lst (.inl O.at_) h3 lt e1 (Pv.num L K (tag_ref e2) (Pv.mod (by decide) (Pg.lst (.inl O.at_) h3 lt e1 ⟨ν, .ref b, .of K Grow.refl, uk, ?_⟩))))
    rw [tag_ref e2]; rfl
  · obtain ⟨h1, h2⟩ := fmod_in m (m := 5) (by decide)
    refine Pv.mod (by decide) (Pv.mod (by decide) (Pv.light L rfl fun b hb => ⟨_, .ref b, .light K hb, ⟨.ref b _ (upd_same ..), ?_⟩, ?_⟩))
    · rw [tag_ref (upd_same ..)]; exact .lig _ h1 (Int.le_of_lt_add_one h2)
    · rw [tag_ref (upd_same ..)]; rfl
end
noncomputable def c__law_entries_right_1 : Cd := .lit (.bool false) <| .ret
noncomputable def c__law_entries_right_2 : Cd := .ld 4 <| .ld 1 <| .ld 5 <| .ix <| .call (.ref 436) 2 <| .br (.fin) (c__law_entries_right_1)
noncomputable def c__law_entries_right_3 : Cd := .unp false [3, 4] <| .ld 3 <| .call (.ref 422) 1 <| .st 5 <| .ld 5 <| .ld 1 <| .cmp .NotIn <| .br (c__law_entries_right_1) (c__law_entries_right_2)
noncomputable def c__law_entries_right_4 : Cd := .lit (.bool true) <| .ret
noncomputable def c__law_entries_right_5 : Cd := .ld 2 <| .forl 0 1 (c__law_entries_right_3) (c__law_entries_right_4)
noncomputable def c__law_entries_right : Cd := .ld 0 <| .mld cT "entries" <| .call (.ref 403) 1 <| .st 2 <| .ld 2 <| .call (.bi "len") 1 <| .ld 1 <| .call (.bi "len") 1 <| .cmp .NotEq <| .br (c__law_entries_right_1) (c__law_entries_right_5)
section
variable {ν : Nu} {σ : MH} {t ka : Addr} {T : Tb} {P : Prs}
theorem law_entries_right_ok (K : Knows σ ν) (hT : TR σ t T) (I : Inv ν T) (R : KR ν T P) (hk : σ ka = some (.dict P)) (hz : P.length ≤ 2 ^ 20) : Fn 2 464 [.ref t, .ref ka] (fun r σ' => r = .bool true ∧ Grow σ σ') σ := by
  refine Fn.goC (ps := ["t", "kept"]) (rest := ["found", "key", "value", "tag"]) (code := c__law_entries_right) (fun q_ => by kernel_rfl) (fun q_ => args2 fun q_ q_ => by kernel_rfl) (fun q_ => by kernel_rfl) rfl fun g L => ?_
  refine Meth.tab hT rfl (Pv.fn L (entries_ok hT I) rfl ?_)
  rintro _ σ1 ⟨⟨D, rfl, hD⟩, k1⟩
  have hk1 := k1 _ _ hk
  have K1 := K.grow k1
  have el : (entV T (total T)).length = P.length := (List.length_map ..).trans (R.size I)
  have hz2 : P.length < 2 ^ 60 := Nat.lt_of_le_of_lt hz (by decide)
  refine Pv.len (.inl hD) (by rw [el]; exact hz2) (Pv.dLen hk1 hz2 ?_)
  rw [el]
  refine ne_same rfl (It.val _ _ _ (.list D _ (.inl hD)) (ForL.mk (fun k ls σ2 => σ2 = σ1 ∧ ∃ x y z, ls = [some (.ref t), some (.ref ka), some (.ref D), x, y, z]) ⟨rfl, _, _, _, rfl⟩ (fun k ls σ2 h => by rw [h.1]; exact .inl hD) ?_ ?_))
  · rintro k v ls σ2 hx ⟨rfl, x, y, z, rfl⟩
    unfold entV at hx
    rw [List.getElem?_map] at hx
    obtain ⟨q, hq, rfl⟩ := Option.map_eq_some_iff.mp hx
    obtain ⟨h1, h2⟩ := liveL_mem (List.mem_of_getElem? hq)
    obtain ⟨u, w, h3, av⟩ := R.live I h1 h2
    refine Pv.fn1 L (law_tag_ok K1 ⟨av, u⟩) rfl (Pv.dNotIn hk1 u.k ?_)
    rw [h3]
    exact Pg.dict hk1 u.k h3 (Pv.fn1 L (law_same_ok K1 (.inr w)) rfl ⟨rfl, _, _, _, rfl⟩)
  · rintro ls σ2 ⟨rfl, x, y, z, rfl⟩
    exact ⟨rfl, k1⟩
end
noncomputable def c__law_refused_1 : Cd := .ld 0 <| .clv 0 <| .pop <| .fin
noncomputable def c__law_refused : Cd := .lit (.bool false) <| .st 1 <| .trs (c__law_refused_1) 1 (.bool true) (.ld 1 <| .ret)
section
variable {σ : MH} {fa : Addr} {o : Obj} {fd : FuncData} {d : Nat} {R : MH → Prop} {g : G} {X : MH → Prop} {K : V → MH → Prop}
theorem law_refused_ok (L : Law g) (h1 : σ fa = some (.raw o)) (h2 : o.data = .func fd) (h : ∀ K : V → MH → Prop, WCall g d fa [] K R σ) (hK : ∀ σ', R σ' → K (.bool true) σ') : WCall g (d + 1) 457 [.ref fa] K X σ := by
  have hb : ∀ rargs : List Value, rargs.length = 1 → bindArgs (fnAt (hd.heap_1 g.w.params) 457) ⟨rargs, []⟩ = pure ((["work"] : List Str).zip rargs) := args1 fun q_ => by kernel_rfl
  refine WCall.goC (ps := ["work"]) (rest := ["found"]) (code := c__law_refused) (tabs_ok L) L.cX (by rw [L.K]; kernel_rfl) rfl (fun rargs hl => by rw [L.K]; exact hb rargs hl) (by rw [L.K]; kernel_rfl) ?_
  exact ⟨fa, o, fd, rfl, h1, h2, ⟨fun φ e => by
    obtain ⟨g', fl, f⟩ := φ
    cases e
    exact PV.fn ((h _).mono (fun q_ q_ q => q) hK) (Nat.le_refl _)⟩⟩
end
section
variable {ν : Nu} {T T' T0 : Tb}
theorem slot_idx (I : Inv ν T) (nd : NoDead ν) {p j} (hp : p < total T) (hk : proper (tag ν (skey T p)) = true) (h : Idx ν T (skey T p) j) : j = p := by
  cases slot_cases hp with
  | arr p lt =>
    rw [skey_arr lt] at h
    cases h with
    | none e => cases e
    | arr x e h1 h2 hj => rw [hj, ← Tag.int.inj e, Int.add_sub_cancel]
    | nod _ hi => exact absurd (⟨one_le_succ p, Int.ofNat_le.mpr lt⟩ : 1 ≤ (p : Int) + 1 ∧ (p : Int) + 1 ≤ (T.arr.length : Int)) (of_decide_eq_false hi)
  | nod i lt =>
    rw [skey_nod] at h hk
    cases h with
    | none e => rw [e] at hk; cases hk
    | arr x e h1 h2 hj =>
      have := node_out I lt
      rw [e] at this
      exact absurd ⟨h1, h2⟩ (of_decide_eq_false this)
    | nod _ _ i' h hj =>
      obtain ⟨h1, h2⟩ := h.nodead nd
      rw [hj, I.uniq _ _ h1 lt h2 (by rw [h2]; exact hk)]; rfl
structure WalkI (T0 T : Tb) (s : Nat) : Prop where
  same : SameKeys T0 T
  down : ∀ q, q < total T0 → sval T q ≠ .none → sval T0 q ≠ .none
  up : ∀ q, s ≤ q → q < total T0 → sval T0 q ≠ .none → sval T q ≠ .none
theorem WalkI.refl (T : Tb) : WalkI T T 0 := ⟨⟨rfl, rfl, fun q_ q_ => rfl⟩, fun q_ q_ h => h, fun q_ q_ q_ h => h⟩
theorem WalkI.mono {s s'} (W : WalkI T0 T s) (h : s ≤ s') : WalkI T0 T s' := ⟨W.same, W.down, fun q a b c => W.up q (by lia) b c⟩
set_option tactic.hygienic true in
theorem WalkI.set {s t v} (W : WalkI T0 T s) (I0 : Inv ν T0) (I : Inv ν T) (hi : Ins ν T T' t v) (S : SameKeys T T') (hl : look ν T t ≠ .none) (hv : v ≠ .none ∨ ∃ p, A4 (p < s) (p < total T0) (sval T0 p ≠ .none) (tag ν (skey T0 p) = t)) : WalkI T0 T' s := by
  have tt := W.same.total
  have tt' := S.total
  refine ⟨W.same.trans S, fun q hq h => W.down q hq ?_, fun q hs hq h => ?_⟩
  · have pr := slot_proper hi.inv (by lia) h
    have e := sval_look hi.inv (by lia) pr
    rw [S.skey (by lia)] at pr e
    have e2 := sval_look I (by lia) pr
    rw [← e2]
    rw [← e, hi.look _ pr] at h
    split at h
    · rename_i z; rw [z]; exact hl
    · exact h
  · have h1 := W.up q hs hq h
    have pr := slot_proper I (by lia) h1
    have e2 := sval_look I (by lia) pr
    rw [← e2] at h1
    have pr' := pr
    rw [← S.skey (by lia)] at pr'
    have e := sval_look hi.inv (by lia) pr'
    rw [S.skey (by lia), hi.look _ pr] at e
    rw [← e]
    split
    · rename_i z
      rcases hv with hv | ⟨p, p1, p2, p3, p4⟩
      · exact hv
      · have := slot_uniq I0 p2 hq (slot_proper I0 p2 p3) (by rw [p4, ← z, W.same.skey hq])
        lia
    · exact h1
end
inductive HereAt (ν : Nu) (T : Tb) : Nat → V → Prop
  | start : HereAt ν T 0 .none
  | at_ (p : Nat) (hp : p < total T) (hl : sval T p ≠ .none) : HereAt ν T (p + 1) (skey T p)
theorem HereAt.any {ν T s v} (h : HereAt ν T s v) (I : Inv ν T) : AnyV ν v := by
  cases h with
  | start => exact .none
  | at_ p hp => exact slot_any I hp
theorem HereAt.idx {ν T T1 s v j} (h : HereAt ν T s v) (nd : NoDead ν) (I : Inv ν T) (I1 : Inv ν T1) (S : SameKeys T T1) (hj : Idx ν T1 v j) : j + 1 = s := by
  cases h with
  | start =>
    cases hj with
    | none _ h => rw [h]; rfl
    | arr x e => cases e
    | nod e => exact absurd rfl e
  | at_ p hp hl =>
    rw [← S.skey hp] at hj
    rw [slot_idx I1 nd (by rw [S.total]; exact hp) (by rw [S.skey hp]; exact slot_proper I hp hl) hj]; rfl
theorem HereAt.notIn {ν T T1 s v} (h : HereAt ν T s v) (S : SameKeys T T1) (hn : NotIn ν T1 v) : False := by
  obtain ⟨h1, h2, h3⟩ := hn
  cases h with
  | start => exact h1 rfl
  | at_ p hp hl =>
    rw [← S.skey hp] at h2 h3
    have hp' : p < total T1 := by rw [S.total]; exact hp
    cases slot_cases hp' with
    | arr p z => rw [skey_arr z] at h2; exact of_decide_eq_false h2 ⟨one_le_succ p, Int.ofNat_le.mpr z⟩
    | nod i z => rw [skey_nod] at h3; exact h3 i ⟨z, .inl rfl⟩
structure Walking (ν : Nu) (σ : MH) (t : Addr) (T : Tb) (P : Prs) (ka da ma : Addr) (σ1 : MH) (T1 : Tb) (P1 : Prs) (s : Nat) : Prop where
  tr : TR σ1 t T1
  keep : ∀ b o, σ b = some o → b ≠ ka → ¬ foot t T b → σ1 b = some o
  ft : ∀ b, foot t T1 b → foot t T b ∨ σ b = none
  dom : ∀ b o, σ b = some o → ∃ o', σ1 b = some o'
  inv : Inv ν T1
  kr : KR ν T1 P1
  wi : WalkI T T1 s
  le : s ≤ total T
  dk : σ1 ka = some (.dict P1)
  ko : ¬ foot t T1 ka
  dd : σ1 da = some (.dict P)
  do_ : ¬ foot t T1 da
  same : ∀ q, q < total T → sval T1 q ≠ .none → sval T1 q = sval T q
  met : Held σ1 t T1 ma ((metT ν T s).map kv)
  fr : σ ma = none
  nk : ma ≠ ka
  nd : ma ≠ da
  kd : ka ≠ da
  len : P1.length ≤ P.length
section
variable {ν : Nu} {σ σ1 σ2 : MH} {t ka da ma : Addr} {T T1 T2 : Tb} {P P1 : Prs} {s : Nat}
theorem Walking.tot (W : Walking ν σ t T P ka da ma σ1 T1 P1 s) : total T1 = total T := W.wi.same.total
structure FoundR (ν : Nu) (T : Tb) (P : Prs) (T1 : Tb) (s p : Nat) : Prop where
  key : skey T1 p = skey T p
  uk : UK ν (skey T1 p)
  w : W1 (sval T1 p)
  due : dfind P (tag ν (skey T1 p)) = some (sval T1 p)
  lk : look ν T1 (tag ν (skey T1 p)) = sval T1 p
  nm : tag ν (skey T1 p) ∉ metT ν T s
  em : metT ν T (p + 1) = metT ν T s ++ [tag ν (skey T1 p)]
theorem Walking.found (I : Inv ν T) (R : KR ν T P) (W : Walking ν σ t T P ka da ma σ1 T1 P1 s) {p} (hs : s ≤ p) (hp : p < total T) (hl : sval T1 p ≠ .none) (hn : ∀ q, s ≤ q → q < p → sval T1 q = .none) : FoundR ν T P T1 s p := by
  have tt := W.tot
  have e := W.wi.same.skey hp
  have l0 := W.wi.down p hp hl
  have hp1 : p < total T1 := by rw [tt]; exact hp
  obtain ⟨u, w, _, av⟩ := W.kr.live W.inv hp1 hl
  refine ⟨e, ⟨av, u⟩, w, ?_, sval_look W.inv hp1 u.proper, fun z => ?_, ?_⟩
  · rw [e, W.same p hp hl]; exact (R.live I hp l0).h3
  · obtain ⟨q, a, b, c⟩ := metT_mem.mp z
    rw [e] at c
    have := slot_uniq I (by lia) hp (slot_proper I (by lia) b) c
    lia
  · rw [e]
    refine metT_next hs (fun q a b => ?_) l0
    exact Classical.byContradiction fun z => W.wi.up q a (by lia) z (hn q a b)
theorem met_len (I : Inv ν T) (R : KR ν T P) (h : s ≤ total T) : (metT ν T s).length ≤ P.length := by
  rw [← List.length_map (f := (·.1)) (as := P)]
  exact nd_len (metT_nodup I h) fun x hx => by
    obtain ⟨q, a, b, rfl⟩ := metT_mem.mp hx
    exact List.mem_map.mpr ⟨_, dfind_mem (R.live I (Nat.lt_of_lt_of_le a h) b).h3, rfl⟩
theorem Walking.all (I : Inv ν T) (R : KR ν T P) (W : Walking ν σ t T P ka da ma σ1 T1 P1 s) (h : ∀ q, s ≤ q → q < total T → sval T1 q = .none) : (metT ν T s).length = P.length := by
  have hp : (metT ν T s).Perm (P.map (·.1)) := by
    refine perm_of_mem (metT_nodup I W.le) R.nd fun u => ⟨fun hu => ?_, fun hu => ?_⟩
    · obtain ⟨q, a, b, rfl⟩ := metT_mem.mp hu
      exact List.mem_map.mpr ⟨_, dfind_mem (R.live I (Nat.lt_of_lt_of_le a W.le) b).h3, rfl⟩
    · obtain ⟨q, a, b, c⟩ := metT_mem.mp ((R.perm I).mem_iff.mpr hu)
      exact metT_mem.mpr ⟨q, Nat.lt_of_not_le fun z => W.wi.up q z a b (h q z a), b, c⟩
  rw [hp.length_eq, List.length_map]
end
section
variable {ν : Nu} {σ σ1 σ2 : MH} {t ka da ma : Addr} {T T1 T2 : Tb} {P P1 : Prs} {s : Nat}
theorem Walking.meet (I : Inv ν T) (R : KR ν T P) (W : Walking ν σ t T P ka da ma σ1 T1 P1 s) {p} (hs : s ≤ p) (hp : p < total T) (F : FoundR ν T P T1 s p) :
    Walking ν σ t T P ka da ma (upd σ1 ma (.list ((metT ν T s).map kv ++ [kv (tag ν (skey T1 p))]))) T1 P1 (p + 1) := by
  have h := W.met.off
  refine ⟨W.tr.updO h, fun b o eb nk nb => (upd_ne _ _ fun z => by rw [z, W.fr] at eb; cases eb).trans (W.keep b o eb nk nb), W.ft, fun b o eb => ?_, W.inv, W.kr, W.wi.mono (Nat.le_succ_of_le hs), hp, (upd_ne _ _ (Ne.symm W.nk)).trans W.dk, W.ko, (upd_ne _ _ (Ne.symm W.nd)).trans W.dd, W.do_, W.same, ⟨?_, h⟩, W.fr, W.nk, W.nd, W.kd, W.len⟩
  · obtain ⟨o', h'⟩ := W.dom b o eb
    exact ⟨o', (upd_ne _ _ fun z => by rw [z, W.fr] at eb; cases eb).trans h'⟩
  · rw [upd_same, F.em, List.map_append]; rfl
theorem ddel_le (P : Prs) (u : Tag) : (ddel P u).length ≤ P.length := List.length_filter_le ..
theorem Walking.del (I : Inv ν T) (R : KR ν T P) (W : Walking ν σ t T P ka da ma σ1 T1 P1 s) (hν : ka ≠ t) {k : V} (uk : UK ν k) (q : PutG ν σ1 t T1 k .none σ2 T2) (S2 : SameKeys T1 T2) (hl : look ν T1 (tag ν k) ≠ .none)
    (hh : ∃ p, A4 (p < s) (p < total T) (sval T p ≠ .none) (tag ν (skey T p) = tag ν k)) :
    σ2 ka = some (.dict P1) ∧ Walking ν σ t T P ka da ma (upd σ2 ka (.dict (ddel P1 (tag ν k)))) T2 (ddel P1 (tag ν k)) s := by
  have e := q.mv.keep _ _ W.dk W.ko
  have off : ∀ {a o}, σ1 a = some o → ¬ foot t T1 a → ¬ foot t T2 a := fun ha hn z => (q.mv.ft _ z).elim hn fun z => by rw [ha] at z; cases z
  have met2 := W.met.mv q.mv
  refine ⟨e, q.tr.updO (off W.dk W.ko), fun b o eb nk nb => (upd_ne _ _ nk).trans (q.mv.keep b o (W.keep b o eb nk nb) fun z => (W.ft b z).elim nb fun z => by rw [eb] at z; cases z), fun b z => (q.mv.ft b z).elim (W.ft b) fun z => .inr (isNone_of fun o eb => by obtain ⟨o', h'⟩ := W.dom b o eb; rw [z] at h'; cases h'), fun b o eb => ?_, q.ins.inv, W.kr.del q.ins uk.lt, W.wi.set I W.inv q.ins S2 hl (.inr hh), W.le, upd_same .., off W.dk W.ko, (upd_ne _ _ (Ne.symm W.kd)).trans (q.mv.keep _ _ W.dd W.do_), off W.dd W.do_, fun x hx hv => ?_, ⟨(upd_ne _ _ W.nk).trans met2.at_, met2.off⟩, W.fr, W.nk, W.nd, W.kd, Nat.le_trans (ddel_le ..) W.len⟩
  · by_cases z : b = ka
    · subst z; exact ⟨_, upd_same ..⟩
    · obtain ⟨o', h'⟩ := W.dom b o eb
      obtain ⟨o2, h2⟩ := q.mv.dom b o' h'
      exact ⟨o2, (upd_ne _ _ z).trans h2⟩
  · have t1 := W.tot
    have t2 := S2.total
    have hx2 : x < total T2 := by rw [t2, t1]; exact hx
    have hx1 : x < total T1 := by rw [t1]; exact hx
    have pr := slot_proper q.ins.inv hx2 hv
    have e2 := sval_look q.ins.inv hx2 pr
    rw [q.ins.look _ pr, S2.skey hx1] at e2
    rw [S2.skey hx1] at pr
    split at e2
    · exact absurd e2.symm hv
    · rw [sval_look W.inv hx1 pr] at e2
      rw [← e2] at hv ⊢
      exact W.same x hx hv
end
section
variable {E : En} {K : V → MH → Prop} {KK : MH → Prop} {σ : MH} {a r : Addr} {P : Prs} {u : Tag} {v : V}
theorem Pv.dItems (hσ : σ a = some (.dict P)) (h : ∀ b, σ b = none → K (.ref b) (upd σ b (.raw (viewO a)))) : Pv E tcall [.bi "dict.items", .ref a] K σ := ⟨fun q_ q_ => PV.items hσ h⟩
theorem Pv.dItemsL (hσ : σ a = some (.dict P)) (hr : σ r = some (.raw (viewO a))) (hz : P.length ≤ 2 ^ 20) (h : ∀ b, σ b = none → K (.ref b) (upd σ b (.list (P.map prT)))) : Pv E tcall [.typ "list", .ref r] K σ := ⟨fun q_ q_ => PV.itemsList hσ hr hz h⟩
theorem Pv.dOf (hσ : σ a = some (.list (P.map prT))) (hz : P.length ≤ 2 ^ 20) (kt : ∀ p ∈ P, KTag p.1) (nd : (P.map (·.1)).Nodup) (h : ∀ b, σ b = none → K (.ref b) (upd σ b (.dict P))) : Pv E tcall [.typ "dict", .ref a] K σ := ⟨fun q_ q_ => PV.dictOf hσ hz kt nd h⟩
theorem Pv.inList {n a xs x} (hσ : lst σ a xs) (c : ∀ y ∈ xs, Cq n y x) (hn : n ≤ 100) (h : K (.bool (xs.any (veq · x))) σ) : Pv E (t2 (compareOp .In)) [x, .ref a] K σ := ⟨fun q_ q_ => PV.inList hσ c hn h⟩
theorem Pu.dict (hσ : σ a = some (.dict P)) (ht : KTag u) (hz : P.length ≤ 2 ^ 20) (h : KK (upd σ a (.dict (dset P u v)))) : Pu E (u3 setItem) [.ref a, kv u, v] KK σ := ⟨fun q_ q_ => PU.setDict hσ ht hz h⟩
theorem Pv.dPop (hσ : σ a = some (.dict P)) (ht : KTag u) (hz : P.length ≤ 2 ^ 20) (h : K ((dfind P u).getD v) (upd σ a (.dict (ddel P u)))) : Pv E tcall [.bi "dict.pop", .ref a, kv u, v] K σ := ⟨fun q_ q_ => PV.popGen hσ ht hz (.inr ⟨v, rfl, rfl⟩) h⟩
theorem Pv.dPop1 (hσ : σ a = some (.dict P)) (ht : KTag u) (hz : P.length ≤ 2 ^ 20) (hv : dfind P u = some v) (h : K v (upd σ a (.dict (ddel P u)))) : Pv E tcall [.bi "dict.pop", .ref a, kv u] K σ := ⟨fun q_ q_ => PV.popGen hσ ht hz (.inl ⟨rfl, hv⟩) h⟩
theorem Pv.dGet2 (hσ : σ a = some (.dict P)) (ht : KTag u) (h : K ((dfind P u).getD v) σ) : Pv E tcall [.bi "dict.get", .ref a, kv u, v] K σ := ⟨fun q_ q_ => PV.get2 hσ ht h⟩
theorem Pv.dKeysL (hσ : σ a = some (.dict P)) (hz : P.length ≤ 2 ^ 20) (h : ∀ b, σ b = none → K (.ref b) (upd σ b (.list (P.map fun p => kv p.1)))) : Pv E tcall [.typ "list", .ref a] K σ := ⟨fun q_ q_ => PV.keysList hσ hz h⟩
theorem any_kv {u : Tag} {ts : List Tag} (h : ∀ t ∈ ts, KTag t) (hu : KTag u) : (ts.map kv).any (veq · (kv u)) = decide (u ∈ ts) := by
  induction ts with
  | nil => rfl
  | cons t ts ih =>
    rw [List.map_cons, List.any_cons, kv_veq (h t (.head _)) hu, ih fun x hx => h x (.tail _ hx), ← Bool.decide_or]
    exact decide_eq_decide.mpr ⟨fun z => z.elim (fun z => z ▸ .head _) (.tail _), fun z => (List.mem_cons.mp z).imp Eq.symm id⟩
end
noncomputable def c__law_walk_right_1 : Cd := .lit (.bool false) <| .ret
noncomputable def c__law_walk_right_2 : Cd := .ld 0 <| .mld cT "set" <| .ld 5 <| .lit .none <| .lit .none <| .call (.ref 266) 4 <| .pop <| .ld 1 <| .bld true <| .ld 8 <| .call (.bi "dict.pop") 2 <| .pop <| .fin
noncomputable def c__law_walk_right_3 : Cd := .ld 4 <| .call (.bi "len") 1 <| .ld 2 <| .bin .Mod <| .lit (.int (0)) <| .cmp .Eq <| .br (c__law_walk_right_2) (.fin)
noncomputable def c__law_walk_right_4 : Cd := .ld 4 <| .ald <| .ld 8 <| .call (.bi "list.append") 2 <| .pop <| .ld 2 <| .lit (.int (0)) <| .cmp .Gt <| .br (c__law_walk_right_3) (.fin)
noncomputable def c__law_walk_right_5 : Cd := .ld 7 <| .lit (.int (1)) <| .ix <| .ld 3 <| .ld 8 <| .ix <| .call (.ref 436) 2 <| .br (c__law_walk_right_4) (c__law_walk_right_1)
noncomputable def c__law_walk_right_6 : Cd := .ld 8 <| .ld 3 <| .cmp .NotIn <| .br (c__law_walk_right_1) (c__law_walk_right_5)
noncomputable def c__law_walk_right_7 : Cd := .ld 7 <| .lit (.int (0)) <| .ix <| .st 5 <| .ld 5 <| .call (.ref 422) 1 <| .st 8 <| .ld 8 <| .ld 4 <| .cmp .In <| .br (c__law_walk_right_1) (c__law_walk_right_6)
noncomputable def c__law_walk_right_8 : Cd := .st 6 <| .ld 0 <| .mld cT "next" <| .ld 5 <| .call (.ref 370) 2 <| .st 7 <| .ld 7 <| .isn true <| .br (.brk) (c__law_walk_right_7)
noncomputable def c__law_walk_right_9 : Cd := .ld 0 <| .mld cT "next" <| .ld 5 <| .call (.ref 370) 2 <| .isn true <| .ret
noncomputable def c__law_walk_right_10 : Cd := .ld 4 <| .call (.bi "len") 1 <| .ld 3 <| .call (.bi "len") 1 <| .cmp .Eq <| .br (c__law_walk_right_9) (c__law_walk_right_1)
noncomputable def c__law_walk_right : Cd := .ld 1 <| .bld true <| .call (.bi "dict.items") 1 <| .call (.typ "list") 1 <| .call (.typ "dict") 1 <| .st 3 <| .lst 0 <| .lit .none <| .tup 2 <| .unp true [5, 4] <| .ld 3 <| .call (.bi "len") 1 <| .lit (.int (1)) <| .bin .Add <| .forl 1 1 (c__law_walk_right_8) (c__law_walk_right_10)
section
variable {ν : Nu} {σ σ1 : MH} {t ka da ma : Addr} {T T1 : Tb} {P P1 : Prs} {s : Nat} {v : V} {g : G} {Q : Fw → Ls → MH → Prop} {x2 x6 x7 x8 : Option V}
theorem walk_end (L : Law g) (I : Inv ν T) (R : KR ν T P) (nd : NoDead ν) (K1 : Knows σ1 ν) (W : Walking ν σ t T P ka da ma σ1 T1 P1 s) (ha : HereAt ν T s v) (hz : P.length ≤ 2 ^ 10) (hq : ∀ q, s ≤ q → q < total T → sval T1 q = .none) (hQ : ∀ ls, Q (.ret (.bool true)) ls σ1) :
    wp c__law_walk_right_10 ⟨g, 12, noX⟩ Q [] [some (.ref t), some (.ref ka), x2, some (.ref da), some (.ref ma), some v, x6, x7, x8] σ1 := by
  have el := W.all I R hq
  have hz2 : P.length < 2 ^ 60 := Nat.lt_of_le_of_lt hz (by decide)
  refine Pv.len (.inl W.met.at_) (by rw [List.length_map, el]; exact hz2) (Pv.dLen W.dd hz2 (brk2.dec (fun q_ => ?_) fun z => absurd (by rw [List.length_map, el]) z))
  refine Meth.tab W.tr rfl (Pv.fnX L (next_ok K1 W.tr W.inv (ha.any I)) rfl ?_ fun q_ h => (ha.notIn W.wi.same h.2).elim)
  rintro r σ2 ⟨⟨j, hj, hr⟩, rfl⟩
  rw [ha.idx nd I W.inv W.wi.same hj] at hr
  cases hr with
  | fin e _ => subst e; exact ⟨rfl, hQ _⟩
  | at_ p hs hp e hl _ => exact absurd (hq p (Int.ofNat_le.mp hs) (by rw [← W.tot]; exact hp)) hl
end
section
variable {ν : Nu} {σ : MH} {t ka : Addr} {T : Tb} {P : Prs}
structure WAt (ν : Nu) (σ0 : MH) (t ka da ma : Addr) (T : Tb) (P : Prs) (st : Int) (n : Nat) (ls : Ls) (σ1 : MH) (T1 : Tb) (P1 : Prs) (s : Nat) (v : V) (x6 x7 x8 : Option V) : Prop where
  ls : ls = [some (.ref t), some (.ref ka), some (.int st), some (.ref da), some (.ref ma), some v, x6, x7, x8]
  w : Walking ν σ0 t T P ka da ma σ1 T1 P1 s
  kn : Knows σ1 ν
  here : HereAt ν T s v
  cnt : (metT ν T s).length = n
  one : st = 1 → ∀ q, q < s → sval T1 q = .none
end
section
variable {ν : Nu} {σ0 σ1 : MH} {t ka da ma : Addr} {T T1 : Tb} {P P1 : Prs} {st : Int} {n s : Nat} {ls : Ls} {v : V} {x6 x7 x8 : Option V} {g : G} {Q : Fw → Ls → MH → Prop}
theorem walk_turn (L : Law g) (I : Inv ν T) (R : KR ν T P) (nd : NoDead ν) (hz : P.length ≤ 2 ^ 10) {x : V} (W : WAt ν σ0 t ka da ma T P st n ls σ1 T1 P1 s v x6 x7 x8)
    (hend : (∀ q, s ≤ q → q < total T → sval T1 q = .none) → ∀ x6 x7, Q .brk [some (.ref t), some (.ref ka), some (.int st), some (.ref da), some (.ref ma), some v, x6, x7, x8] σ1)
    (hmet : ∀ p σ2 x6 x7, s ≤ p → p < total T → FoundR ν T P T1 s p → look ν T1 (tag ν (skey T1 p)) ≠ .none → Knows σ2 ν → Walking ν σ0 t T P ka da ma σ2 T1 P1 (p + 1) → (metT ν T (p + 1)).length = n + 1 → (st = 1 → ∀ q, q < p → sval T1 q = .none) →
      wp (.ld 2 <| .lit (.int (0)) <| .cmp .Gt <| .br (c__law_walk_right_3) (.fin)) ⟨g, 12, noX⟩ Q [] [some (.ref t), some (.ref ka), some (.int st), some (.ref da), some (.ref ma), some (skey T1 p), x6, x7, some (kv (tag ν (skey T1 p)))] σ2) :
    wp c__law_walk_right_8 ⟨g, 12, noX⟩ Q [x] ls σ1 := by
  obtain ⟨rfl, W, K1, ha, hc, one⟩ := W
  refine Meth.tab W.tr rfl (Pv.fnX L (next_ok K1 W.tr W.inv (ha.any I)) rfl ?_ fun q_ h => (ha.notIn W.wi.same h.2).elim)
  rintro r σ2 ⟨⟨j, hj, hr⟩, rfl⟩
  rw [ha.idx nd I W.inv W.wi.same hj] at hr
  cases hr with
  | fin e hq => subst e; exact ⟨rfl, hend (fun q h1 h2 => hq q (Int.ofNat_le.mpr h1) (by rw [W.tot]; exact h2)) _ _⟩
  | at_ p hs hp e hl hq =>
    subst e
    have hs : s ≤ p := Int.ofNat_le.mp hs
    have hp : p < total T := by rw [← W.tot]; exact hp
    have F := W.found I R hs hp hl fun q a b => hq q (Int.ofNat_le.mpr a) b
    have kt := F.uk
    have ku : ∀ u ∈ metT ν T s, KTag u := fun u hu => by
      obtain ⟨q, a, b, rfl⟩ := metT_mem.mp hu
      exact (R.live I (Nat.lt_of_lt_of_le a W.le) b).h1.k
    have ml := met_len I R W.le
    have M := W.meet I R hs hp F
    have K2 : Knows (upd σ2 ma (.list ((metT ν T s).map kv ++ [kv (tag ν (skey T1 p))]))) ν := ⟨fun b r e => let ⟨a1, fs, a2, a3⟩ := K1.at_ b r e; ⟨a1, fs, (upd_ne _ _ fun z => by rw [z, W.met.at_] at a2; cases a2).trans a2, a3⟩⟩
    refine ⟨rfl, Pg.tup (by decide) (by decide) rfl (Pv.fn1 L (law_tag_ok K1 kt) rfl (Pv.inList (n := 1) (.inl W.met.at_) (fun y hy => ?_) (by decide) ?_))⟩
    · obtain ⟨u, hu, rfl⟩ := List.mem_map.mp hy
      exact kp_cq (ku u hu) kt.lt.k
    · rw [any_kv ku kt.lt.k, decide_eq_false F.nm]
      refine Pv.dNotIn W.dd kt.lt.k ?_
      rw [F.due]
      exact Pg.tup (by decide) (by decide) rfl (Pg.dict W.dd kt.lt.k F.due (Pv.fn1 L (law_same_ok K1 (.inr F.w)) rfl (IsL.mk ma _ W.met.at_ (Pv.app W.met.at_ (by rw [List.length_map]; exact Nat.le_trans ml (Nat.le_trans hz (by decide))) (hmet p _ _ _ hs hp F (by rw [F.lk]; exact hl) K2 M (by rw [F.em, List.length_append, hc]; rfl) fun h q hq' => if z : q < s then one h q z else hq q (Int.ofNat_le.mpr (Nat.le_of_not_lt z)) hq')))))
end
section
variable {ν : Nu} {σ0 σ1 : MH} {t ka da ma : Addr} {T T1 : Tb} {P P1 : Prs} {st : Int} {n s p : Nat} {x6 x7 : Option V} {g : G} {Q : Fw → Ls → MH → Prop}
set_option tactic.hygienic true in
theorem walk_step (L : Law g) (I : Inv ν T) (R : KR ν T P) (hz : P.length ≤ 2 ^ 10) (hν : ν t = none) (hkt : ka ≠ t) (hp : p < total T) (h0 : sval T p ≠ .none) (F : FoundR ν T P T1 s p) (hl : look ν T1 (tag ν (skey T1 p)) ≠ .none) (K1 : Knows σ1 ν) (W : Walking ν σ0 t T P ka da ma σ1 T1 P1 (p + 1)) (hc : (metT ν T (p + 1)).length = n + 1) (one : st = 1 → ∀ q, q < p → sval T1 q = .none)
    (hQ : ∀ ls σ2 T2 P2 x6 x7 x8, WAt ν σ0 t ka da ma T P st (n + 1) ls σ2 T2 P2 (p + 1) (skey T p) x6 x7 x8 → Q .next ls σ2) :
    wp (.ld 2 <| .lit (.int (0)) <| .cmp .Gt <| .br (c__law_walk_right_3) (.fin)) ⟨g, 12, noX⟩ Q [] [some (.ref t), some (.ref ka), some (.int st), some (.ref da), some (.ref ma), some (skey T1 p), x6, x7, some (kv (tag ν (skey T1 p)))] σ1 := by
  have e := F.key
  have here : HereAt ν T (p + 1) (skey T p) := .at_ p hp h0
  have stay : st ≠ 1 → Q .next [some (.ref t), some (.ref ka), some (.int st), some (.ref da), some (.ref ma), some (skey T1 p), x6, x7, some (kv (tag ν (skey T1 p)))] σ1 := fun n1 => hQ _ _ _ _ _ _ _ ⟨by rw [e], W, K1, here, hc, fun h => absurd h n1⟩
  refine brk2.dec (fun h1 => ?_) fun h0 => stay fun z => h0 (by rw [z]; decide)
  refine Pv.len (.inl W.met.at_) (by rw [List.length_map, hc]; have := met_len I R W.le; lia) (Pv.mod (fun z => by rw [z] at h1; exact absurd h1 (by decide)) (brk2.dec (fun _ => ?_) fun h2 => stay fun z => h2 (by rw [z]; exact Int.fmod_one _)))
  have fit := W.kr.fit W.inv
  have wl := W.len
  refine Meth.tab W.tr rfl (Pv.fn L (set_ok K1 hν W.tr W.inv F.uk.any F.uk.lt.proper rfl (by rw [fit]; lia)) rfl ?_)
  rintro _ σ2 ⟨rfl, T2, q, sk⟩
  obtain ⟨d1, d2⟩ := W.del I R hkt F.uk q (sk (has_of_look hl)) hl ⟨p, Nat.lt_succ_self p, hp, h0, by rw [e]⟩
  have K2 := K1.mv W.tr q.mv hν
  have hv : ∃ v, dfind P1 (tag ν (skey T1 p)) = some v := by
    have := W.kr.same _ F.uk.lt
    cases z : dfind P1 (tag ν (skey T1 p)) with
    | none => rw [z] at this; exact absurd this.symm hl
    | some v => exact ⟨v, rfl⟩
  obtain ⟨v, hv⟩ := hv
  have S2 := sk (has_of_look hl)
  have one2 : st = 1 → ∀ x, x < p + 1 → sval T2 x = .none := fun h x hx => by
    by_cases hv : sval T2 x = .none
    · exact hv
    have hx1 : x < total T1 := by rw [W.tot]; lia
    have hx2 : x < total T2 := by rw [S2.total]; exact hx1
    have pr := slot_proper q.ins.inv hx2 hv
    have e2 := sval_look q.ins.inv hx2 pr
    rw [q.ins.look _ pr, S2.skey hx1] at e2
    rw [S2.skey hx1] at pr
    split at e2
    · exact e2.symm
    · rename_i ne
      rw [sval_look W.inv hx1 pr, one h x (Nat.lt_of_le_of_ne (Nat.le_of_lt_succ hx) fun z => ne (by rw [z]))] at e2
      exact e2.symm
  refine .dict ka _ d1 (Pv.dPop1 d1 F.uk.lt.k (Nat.le_trans wl (Nat.le_trans hz (by decide))) hv ?_)
  refine hQ [some (.ref t), some (.ref ka), some (.int st), some (.ref da), some (.ref ma), some (skey T1 p), x6, x7, some (kv (tag ν (skey T1 p)))] _ _ _ x6 x7 _ (by exact ⟨by rw [e], d2, ⟨fun b r eb => let ⟨a1, fs, a2, a3⟩ := K2.at_ b r eb; ⟨a1, fs, (upd_ne _ _ fun z => by rw [z, d1] at a2; cases a2).trans a2, a3⟩⟩, here, hc, one2⟩)
end
section
variable {ν : Nu} {σ : MH} {t ka : Addr} {T : Tb} {P : Prs} {st : Int}
structure WalkE (ν : Nu) (σ : MH) (t ka : Addr) (T : Tb) (P : Prs) (st : Int) (σ' : MH) (T1 : Tb) (P1 : Prs) : Prop where
  tr : TR σ' t T1
  inv : Inv ν T1
  kr : KR ν T1 P1
  dk : σ' ka = some (.dict P1)
  ko : ¬ foot t T1 ka
  kn : Knows σ' ν
  keep : ∀ b o, σ b = some o → b ≠ ka → ¬ foot t T b → σ' b = some o
  ft : ∀ b, foot t T1 b → foot t T b ∨ σ b = none
  dom : ∀ b o, σ b = some o → ∃ o', σ' b = some o'
  len : P1.length ≤ P.length
  one : st = 1 → ∀ q, q < total T1 → sval T1 q = .none
inductive WIx (ν : Nu) (σ0 : MH) (t ka da ma : Addr) (T : Tb) (P : Prs) (st : Int) (n : Nat) (ls : Ls) (σ1 : MH) : Prop
  | mk (T1 : Tb) (P1 : Prs) (s : Nat) (v : V) (x6 x7 x8 : Option V) (h : WAt ν σ0 t ka da ma T P st n ls σ1 T1 P1 s v x6 x7 x8)
theorem law_walk_right_ok (K : Knows σ ν) (nd : NoDead ν) (hν : ν t = none) (hT : TR σ t T) (I : Inv ν T) (R : KR ν T P) (hk : σ ka = some (.dict P)) (ko : ¬ foot t T ka) (hz : P.length ≤ 2 ^ 10) :
    Fn 13 450 [.ref t, .ref ka, .int st] (fun r σ' => r = .bool true ∧ X2 fun T1 P1 => WalkE ν σ t ka T P st σ' T1 P1) σ := by
  refine Fn.goC (ps := ["t", "kept", "step"]) (rest := ["due", "seen", "key", "turn", "pair", "tag"]) (code := c__law_walk_right) (fun q_ => by kernel_rfl) (fun q_ => args3 fun q_ q_ q_ => by kernel_rfl) (fun q_ => by kernel_rfl) rfl fun g L => ?_
  have hz20 : P.length ≤ 2 ^ 20 := Nat.le_trans hz (by decide)
  have hkt : ka ≠ t := fun z => ko (.inl z)
  refine .dict ka _ hk (Pv.dItems hk fun va hva => Pv.dItemsL ((Grow.new hva) _ _ hk) (upd_same ..) hz20 fun la hla => Pv.dOf (upd_same ..) hz20 (fun p hp => (R.ok p hp).1.k) R.nd fun da hda ma hma => ?_)
  have k1 : Grow σ (upd (upd σ va (.raw (viewO ka))) la (.list (P.map prT))) := (Grow.new hva).trans (Grow.new hla)
  have k2 := k1.trans (Grow.new (o := .dict P) hda)
  have k3 := k2.trans (Grow.new (o := .list []) hma)
  have z : ∀ {b o}, σ b = some o → b ≠ ma := fun e z => by rw [z] at e; rw [k2 _ _ e] at hma; cases hma
  have W0 : Walking ν σ t T P ka da ma (upd (upd (upd (upd σ va (.raw (viewO ka))) la (.list (P.map prT))) da (.dict P)) ma (.list [])) T P 0 := by
    refine ⟨hT.grow k3, fun b o e q_ q_ => k3 _ _ e, fun b f => .inl f, fun b o e => ⟨o, k3 _ _ e⟩, I, R, WalkI.refl T, Nat.zero_le _, k3 _ _ hk, ko, ?_, fun f => ?_, fun q_ q_ q_ => rfl, ⟨upd_same .., fun f => ?_⟩, ?_, Ne.symm (z hk), ?_, ?_, Nat.le_refl _⟩
    · exact (upd_ne _ _ fun e => by rw [← e, upd_same] at hma; cases hma).trans (upd_same ..)
    · obtain ⟨o, e⟩ := hT.footD f; rw [k1 _ _ e] at hda; cases hda
    · obtain ⟨o, e⟩ := hT.footD f; rw [k2 _ _ e] at hma; cases hma
    · exact isNone_of fun o e => by rw [k2 _ _ e] at hma; cases hma
    · exact fun e => by rw [e, upd_same] at hma; cases hma
    · exact fun e => by rw [← e, k1 _ _ hk] at hda; cases hda
  generalize upd (upd (upd (upd σ va (.raw (viewO ka))) la (.list (P.map prT))) da (.dict P)) ma (.list []) = σ1 at k3 W0
  have K1 := K.grow k3
  have hz2 : P.length < 2 ^ 60 := Nat.lt_of_le_of_lt hz (by decide)
  refine Pv.dLen W0.dd hz2 (It.range1 _ (by lia) (ForL.mk (fun n ls σ2 => WIx ν σ t ka da ma T P st n ls σ2) (.mk T P 0 .none none none none ⟨rfl, W0, K1, .start, rfl, fun q_ q h => absurd h (Nat.not_lt_zero q)⟩) (fun q_ q_ q_ q_ => trivial) ?_ ?_))
  · rintro n x ls σ2 _ ⟨T1, P1, s, v, x6, x7, x8, W⟩
    refine walk_turn L I R nd hz W (fun hq x6 x7 => walk_end L I R nd W.kn W.w W.here hz hq fun ls => ⟨rfl, T1, P1, W.w.tr, W.w.inv, W.w.kr, W.w.dk, W.w.ko, W.kn, W.w.keep, W.w.ft, W.w.dom, W.w.len, fun h q hq' => if z : q < s then W.one h q z else hq q (Nat.le_of_not_lt z) (by rw [← W.w.tot]; exact hq')⟩) fun p σ3 x6 x7 hs hp F hl K2 M hc one => ?_
    exact walk_step L I R hz hν hkt hp (W.w.wi.down p hp (by rw [← F.lk]; exact hl)) F hl K2 M hc one fun ls σ4 T2 P2 x6 x7 x8 h => .mk T2 P2 (p + 1) _ x6 x7 x8 h
  · rintro ls σ2 ⟨T1, P1, s, v, x6, x7, x8, W⟩
    exfalso
    have := W.cnt
    have := met_len I R W.w.le
    rw [rng_len] at *
    lia
end
noncomputable abbrev lamQ : Str := "_law_deed.<locals>.<lambda>"
structure DI (ν : Nu) (σ : MH) (t ka : Addr) (T : Tb) (P : Prs) : Prop where
  tr : TR σ t T
  inv : Inv ν T
  kr : KR ν T P
  dk : σ ka = some (.dict P)
  ko : ¬ foot t T ka
  kn : Knows σ ν
  nd : NoDead ν
  out : ν t = none
  lot : Lot σ 466 lamQ
structure DR (ν : Nu) (σ : MH) (t ka : Addr) (T : Tb) (ν' : Nu) (σ' : MH) (T' : Tb) (P' : Prs) : Prop where
  di : DI ν' σ' t ka T' P'
  le : NuLe ν ν'
  keep : ∀ b o, σ b = some o → b ≠ ka → b ≠ 466 → ¬ foot t T b → σ' b = some o
  ft : ∀ b, foot t T' b → foot t T b ∨ σ b = none
  dom : ∀ b o, σ b = some o → ∃ o', σ' b = some o'
inductive FootO : O → Prop
  | inst (C fs) : FootO (.inst C fs)
  | list (xs) : FootO (.list xs)
theorem TR.footO {σ t T} (h : TR σ t T) {b} (f : foot t T b) : ∃ o, σ b = some o ∧ FootO o := by
  rcases f with rfl | rfl | rfl | f
  · exact ⟨_, h.t, .inst ..⟩
  · exact ⟨_, h.arr, .list _⟩
  · exact ⟨_, h.nl, .list _⟩
  · obtain ⟨p, hp, rfl⟩ := List.mem_map.mp f; exact ⟨_, h.nd p hp, .inst ..⟩
theorem TR.off {σ t T b o} (h : TR σ t T) (e : σ b = some o) (n : ¬ FootO o) : ¬ foot t T b := fun f => by
  obtain ⟨o', e', k⟩ := h.footO f
  rw [e] at e'; cases e'; exact n k
theorem Lot.at_ {σ q b} (x : Lot σ b q) : ∃ ps, σ b = some (.lot ps) := let ⟨ps, h, _, _⟩ := x; ⟨ps, h⟩
section
variable {ν ν' ν'' : Nu} {σ σ' σ'' : MH} {t ka : Addr} {T T' T'' : Tb} {P P' P'' : Prs} {k v : V}
theorem DI.k466 (D : DI ν σ t ka T P) : ka ≠ 466 := fun z => by obtain ⟨ps, e⟩ := D.lot.at_; rw [← z, D.dk] at e; cases e
theorem DI.off466 (D : DI ν σ t ka T P) : ¬ foot t T 466 := by obtain ⟨ps, e⟩ := D.lot.at_; exact D.tr.off e fun z => nomatch z
theorem DR.trans (x : DR ν σ t ka T ν' σ' T' P') (y : DR ν' σ' t ka T' ν'' σ'' T'' P'') : DR ν σ t ka T ν'' σ'' T'' P'' := by
  refine ⟨y.di, fun a r e => y.le a r (x.le a r e), fun b o e n1 n2 n3 => y.keep b o (x.keep b o e n1 n2 n3) n1 n2 fun f => (x.ft b f).elim n3 fun z => (by rw [e] at z; cases z), fun b f => (y.ft b f).elim (x.ft b) fun z => .inr (isNone_of fun o e => ?_), fun b o e => let ⟨o', e'⟩ := x.dom b o e; y.dom b o' e'⟩
  obtain ⟨o', e'⟩ := x.dom b o e
  rw [z] at e'; cases e'
theorem Lot.mv (x : Lot σ 466 lamQ) (h : TR σ t T) (m : Mv σ t T σ' T') : Lot σ' 466 lamQ := x.keep (fun b r e => m.keep b _ e (h.off e fun z => nomatch z)) fun ps e => m.keep _ _ e (h.off e fun z => nomatch z)
theorem Lot.grow (x : Lot σ 466 lamQ) (k : Grow σ σ') : Lot σ' 466 lamQ := x.keep (fun b r e => k b _ e) fun ps e => k _ _ e
theorem Lot.upd (x : Lot σ 466 lamQ) {b : Addr} {P : Prs} (e : σ b = some (.dict P)) (o : O) : Lot (Mn.upd σ b o) 466 lamQ :=
  x.keep (fun c r q => (upd_ne _ _ fun z => by rw [z, e] at q; cases q).trans q) fun ps q => (upd_ne _ _ fun z => by rw [z, e] at q; cases q).trans q
theorem Knows.upd (K : Knows σ ν) {b : Addr} {P : Prs} (e : σ b = some (.dict P)) (o : O) : Knows (Mn.upd σ b o) ν :=
  ⟨fun a r q => let ⟨h1, fs, h2, h3⟩ := K.at_ a r q; ⟨h1, fs, (upd_ne _ _ fun z => by rw [z, e] at h2; cases h2).trans h2, h3⟩⟩
theorem DI.nux (D : DI ν σ t ka T P) (x : NuX ν σ ν' σ') : DR ν σ t ka T ν' σ' T P :=
  have le := x.le D.kn
  ⟨⟨D.tr.grow x.grow, D.inv.ext le, D.kr.ext D.inv le, x.grow _ _ D.dk, D.ko, x.kn, x.dead D.nd, x.off D.out D.tr.t, D.lot.grow x.grow⟩, le, fun b o e q_ q_ q_ => x.grow b o e, fun b f => .inl f, fun b o e => ⟨o, x.grow b o e⟩⟩
theorem DI.grow (D : DI ν σ t ka T P) (k : Grow σ σ') : DR ν σ t ka T ν σ' T P := D.nux (.of D.kn k)
theorem DI.mv (D : DI ν σ t ka T P) (m : Mv σ t T σ' T') (tr : TR σ' t T') (I : Inv ν T') (R : KR ν T' P) : DR ν σ t ka T ν σ' T' P :=
  ⟨⟨tr, I, R, m.keep _ _ D.dk D.ko, fun f => (m.ft _ f).elim D.ko fun z => (by rw [D.dk] at z; cases z), D.kn.mv D.tr m D.out, D.nd, D.out, D.lot.mv D.tr m⟩, fun q_ q_ e => e, fun b o e q_ q_ n => m.keep b o e n, m.ft, m.dom⟩
theorem DI.put (D : DI ν σ t ka T P) (q : PutG ν σ t T k v σ' T') (R : KR ν T' P') : σ' ka = some (.dict P) ∧ DR ν σ t ka T ν (upd σ' ka (.dict P')) T' P' := by
  have e := q.mv.keep _ _ D.dk D.ko
  have off : ¬ foot t T' ka := fun f => (q.mv.ft _ f).elim D.ko fun z => by rw [D.dk] at z; cases z
  refine ⟨e, ⟨q.tr.updO off, q.ins.inv, R, upd_same .., off, (D.kn.mv D.tr q.mv D.out).upd e _, D.nd, D.out, (D.lot.mv D.tr q.mv).upd e _⟩, fun q_ q_ e => e, fun b o eb n q_ nf => (upd_ne _ _ n).trans (q.mv.keep b o eb nf), q.mv.ft, fun b o eb => ?_⟩
  obtain ⟨o', e'⟩ := q.mv.dom b o eb
  by_cases z : b = ka
  · exact ⟨_, by rw [z]; exact upd_same ..⟩
  · exact ⟨o', (upd_ne _ _ z).trans e'⟩
theorem DI.walk {st T1 P1} (D : DI ν σ t ka T P) (W : WalkE ν σ t ka T P st σ' T1 P1) : DR ν σ t ka T ν σ' T1 P1 :=
  ⟨⟨W.tr, W.inv, W.kr, W.dk, W.ko, W.kn, D.nd, D.out, D.lot.keep (fun b r e => W.keep b _ e (fun z => by rw [z, D.dk] at e; cases e) (D.tr.off e fun z => nomatch z)) fun ps e => W.keep _ _ e (fun z => by rw [z, D.dk] at e; cases e) (D.tr.off e fun z => nomatch z)⟩, fun q_ q_ e => e, fun b o e n q_ nf => W.keep b o e n nf, W.ft, W.dom⟩
end
section
variable {ν : Nu} {σ : MH} {t ka : Addr} {T T' : Tb} {P : Prs} {k : V}
structure Odd (ν : Nu) (k : V) : Prop where
  any : AnyV ν k
  pr : proper (tag ν k) = true
  no : ¬ U1 (tag ν k)
theorem Odd.idx (o : Odd ν k) (D : DI ν σ t ka T P) {j} (h : Idx ν T k j) : False := by
  cases h with
  | none e => have := o.pr; rw [e] at this; cases this
  | arr x e h1 h2 hj => have := D.inv.sa; exact o.no (e ▸ .int x (by lia) (by lia))
  | nod _ _ i h hj => exact (D.kr.strange o.pr o.no).1 ⟨i, h.nodead D.nd⟩
theorem deed_refused {E : En} (L : Law E.g) (D : DI ν σ t ka T P) {vs : Ls} {W : Nat → (MH → Prop) → (V → MH → Prop) → MH → Prop} {K : V → MH → Prop} (hd : 12 ≤ E.d)
    (hv : ∀ v ∈ vs, ∃ w, v = some w ∧ plainV w = true) (ef : ∀ b, foot t T' b → foot t T b) (I : Inv ν T') (R : KR ν T' P)
    (hw : ∀ σ2, TR σ2 t T → Knows σ2 ν → ∀ K, W 10 (fun σ' => TR σ' t T' ∧ Mv σ2 t T σ' T') K σ2)
    (hK : ∀ σ', DR ν σ t ka T ν σ' T' P → K (.bool true) σ') : Cll E 457 466 lamQ vs W K σ := by
  refine .mk 12 hd D.lot hv fun a σ2 Xc H => ?_
  obtain ⟨o, fd, f1, f2⟩ := H.fn
  have keep := H.keep
  have tr2 : TR σ2 t T := D.tr.same fun b o f e => keep b o (fun z => D.off466 (z ▸ f)) e
  have kn2 : Knows σ2 ν := ⟨fun a r e => let ⟨h1, fs, h2, h3⟩ := D.kn.at_ a r e; ⟨h1, fs, keep _ _ (fun z => by
    obtain ⟨ps, e'⟩ := D.lot.at_
    rw [z, e'] at h2; cases h2) h2, h3⟩⟩
  refine law_refused_ok L f1 f2 (fun K => H.call (fun q_ q_ e => e) (hw σ2 tr2 kn2 K)) fun σ' ⟨tr', m⟩ σ'' hx hn => hK σ'' ?_
  have nx : ∀ {b x}, σ b = some x → ¬ Xc b := fun e z => by rw [(H.cell _ z).1] at e; cases e
  have fo : ∀ b, foot t T' b → ¬ Xc b := fun b f => let ⟨o, e⟩ := D.tr.footD (ef b f); nx e
  have k1 : ∀ b o, σ b = some o → b ≠ 466 → ¬ foot t T b → σ'' b = some o := fun b o e n nf => (hn b (nx e)).trans (m.keep b o (keep b o n e) nf)
  refine ⟨⟨tr'.same fun b o f e => (hn b (fo b f)).trans e, I, R, k1 ka _ D.dk D.k466 D.ko, fun f => D.ko (ef _ f), ⟨fun a r e => ?_⟩, D.nd, D.out, ?_⟩, fun q_ q_ e => e, fun b o e q_ n nf => k1 b o e n nf, fun b f => .inl (ef b f), fun b o e => ?_⟩
  · obtain ⟨h1, fs, h2, h3⟩ := (kn2.mv tr2 m D.out).at_ a r e
    obtain ⟨_, fs0, h0, _⟩ := D.kn.at_ a r e
    exact ⟨h1, fs, (hn a (nx h0)).trans h2, h3⟩
  · obtain ⟨ps, h1, h2, h3⟩ := H.lot.mv tr2 m
    obtain ⟨ps0, e0⟩ := D.lot.at_
    refine ⟨ps, (hn _ (nx e0)).trans h1, h2, fun pos => ?_⟩
    have x := h3 pos
    generalize codeAmong pos ps.toList = z at x
    cases x with
    | no => exact .no
    | at_ c oc vs tk q1 q2 q3 =>
      refine .at_ c oc vs tk ((hn c fun z => ?_).trans q1) q2 q3
      obtain ⟨_, r, v, w1, w2⟩ := H.cell c z
      rw [m.keep _ _ w1 (tr2.off w1 fun z => nomatch z)] at q1
      cases q1
      rw [q2] at w2; cases w2
  · obtain ⟨o2, e2⟩ : ∃ o2, σ2 b = some o2 := by
      by_cases z : b = 466
      · obtain ⟨ps, w⟩ := H.lot.at_
        exact ⟨_, by rw [z]; exact w⟩
      · exact ⟨o, keep b o z e⟩
    obtain ⟨o3, e3⟩ := m.dom b o2 e2
    exact ⟨o3, (hn b (nx e)).trans e3⟩
end
noncomputable def c__law_deed_1 : Cd := .ld 1 <| .bld true <| .ld 5 <| .lit .none <| .call (.bi "dict.pop") 3 <| .pop <| .ld 0 <| .mld cT "get" <| .ld 6 <| .call (.ref 259) 2 <| .ld 7 <| .call (.ref 436) 2 <| .ret
noncomputable def c__law_deed_2 : Cd := .ld 7 <| .ld 1 <| .ld 5 <| .stx <| .ld 0 <| .mld cT "get" <| .ld 6 <| .call (.ref 259) 2 <| .ld 7 <| .call (.ref 436) 2 <| .ret
noncomputable def c__law_deed_3 : Cd := .ld 0 <| .mld cT "set_int" <| .ld 6 <| .ld 7 <| .lit .none <| .call (.ref 273) 4 <| .pop <| .ld 7 <| .isn true <| .br (c__law_deed_1) (c__law_deed_2)
noncomputable def c__law_deed_4 : Cd := .ld 0 <| .mld cT "set_text" <| .ld 6 <| .ld 7 <| .lit .none <| .call (.ref 280) 4 <| .pop <| .ld 7 <| .isn true <| .br (c__law_deed_1) (c__law_deed_2)
noncomputable def c__law_deed_5 : Cd := .ld 0 <| .mld cT "set" <| .ld 6 <| .ld 7 <| .lit .none <| .call (.ref 266) 4 <| .pop <| .ld 7 <| .isn true <| .br (c__law_deed_1) (c__law_deed_2)
noncomputable def c__law_deed_6 : Cd := .ld 5 <| .lit (.int (0)) <| .ix <| .lit (.str "s") <| .cmp .Eq <| .br (c__law_deed_4) (c__law_deed_5)
noncomputable def c__law_deed_7 : Cd := .ld 4 <| .lit (.int (4)) <| .cmp .Eq <| .br (c__law_deed_6) (c__law_deed_5)
noncomputable def c__law_deed_8 : Cd := .ld 5 <| .lit (.int (0)) <| .ix <| .lit (.str "n") <| .cmp .Eq <| .br (c__law_deed_3) (c__law_deed_7)
noncomputable def c__law_deed_9 : Cd := .lit .none <| .st 7 <| .ld 4 <| .lit (.int (4)) <| .cmp .Eq <| .br (c__law_deed_8) (c__law_deed_7)
noncomputable def c__law_deed_10 : Cd := .ld 8 <| .lit (.int (9)) <| .bin .FloorDiv <| .call (.ref 429) 1 <| .st 7 <| .ld 4 <| .lit (.int (4)) <| .cmp .Eq <| .br (c__law_deed_8) (c__law_deed_7)
noncomputable def c__law_deed_11 : Cd := .ld 8 <| .ld 3 <| .call (.ref 415) 2 <| .unp false [5, 6] <| .ld 4 <| .lit (.int (5)) <| .cmp .Eq <| .br (c__law_deed_9) (c__law_deed_10)
noncomputable def c__law_deed_12 : Cd := .ld 0 <| .mld cT "resize" <| .ld 8 <| .lit (.int (9)) <| .bin .Mod <| .ld 8 <| .lit (.int (9)) <| .bin .FloorDiv <| .lit (.int (9)) <| .bin .Mod <| .lit .none <| .call (.ref 330) 4 <| .pop <| .lit (.bool true) <| .ret
noncomputable def c__law_deed_13 : Cd := .ld 0 <| .ld 1 <| .ld 8 <| .lit (.int (4)) <| .bin .Mod <| .call (.ref 450) 3 <| .ret
noncomputable def c__law_deed_14 : Cd := .ld 1 <| .mld cT "set" <| .lit .none <| .ld 0 <| .call (.ref 429) 1 <| .lit .none <| .call (.ref 266) 4 <| .ret
noncomputable def c__law_deed_15 : Cd := .ld 0 <| .mld cT "get" <| .lit .none <| .call (.ref 259) 2 <| .isn true <| .ret
noncomputable def c__law_deed_16 : Cd := .lit (.bool false) <| .ret
noncomputable def c__law_deed_17 : Cd := .cll 457 466 "_law_deed.<locals>.<lambda>" [8, 0] (c__law_deed_14) <| .br (c__law_deed_15) (c__law_deed_16)
noncomputable def c__law_deed_18 : Cd := .ld 1 <| .mld cT "next" <| .ld 0 <| .call (.ref 370) 2 <| .ret
noncomputable def c__law_deed_19 : Cd := .lit (.bytes [110, 101, 118, 101, 114, 32, 116, 104, 101, 114, 101].toArray) <| .lit (.int (1)) <| .lit (.int (62)) <| .bin .LShift <| .lit (.int (977)) <| .bin .Add <| .lit (.int (0)) <| .lit (.int (1)) <| .lit (.int (62)) <| .bin .LShift <| .bin .Sub <| .lit (.int (977)) <| .bin .Sub <| .lit (.int (99)) <| .lit (.int (0)) <| .lit (.int (0)) <| .call (.ref 406) 3 <| .lit (.int (77)) <| .call (.ref 79) 1 <| .lst 5 <| .ld 8 <| .lit (.int (5)) <| .bin .Mod <| .ix <| .st 9 <| .cll 457 466 "_law_deed.<locals>.<lambda>" [9, 0] (c__law_deed_18) <| .ret
noncomputable def c__law_deed_20 : Cd := .ld 4 <| .lit (.int (8)) <| .cmp .Eq <| .br (c__law_deed_17) (c__law_deed_19)
noncomputable def c__law_deed_21 : Cd := .ld 4 <| .lit (.int (7)) <| .cmp .Eq <| .br (c__law_deed_13) (c__law_deed_20)
noncomputable def c__law_deed_22 : Cd := .ld 4 <| .lit (.int (6)) <| .cmp .Eq <| .br (c__law_deed_12) (c__law_deed_21)
noncomputable def c__law_deed : Cd := .ld 2 <| .lit (.int (10)) <| .bin .Mod <| .ld 2 <| .lit (.int (10)) <| .bin .FloorDiv <| .tup 2 <| .unp false [4, 8] <| .ld 4 <| .lit (.int (6)) <| .cmp .Lt <| .br (c__law_deed_11) (c__law_deed_22)
section
variable {ν ν' : Nu} {σ σ' : MH} {t ka : Addr} {T T' : Tb} {P : Prs} {k : V} {g : G} {x2 x3 x4 x5 x6 x7 x9 : Option V} {m : Int} {Q : V → MH → Prop}
theorem deed_8 (L : Law g) (D : DI ν σ t ka T P) (hQ : ∀ σ' T', DR ν σ t ka T ν σ' T' P → Q (.bool true) σ') :
    wp c__law_deed_17 ⟨g, 13, noX⟩ (retC Q) [] [some (.ref t), some (.ref ka), x2, x3, x4, x5, x6, x7, some (.int m), x9] σ := by
  refine deed_refused (T' := { T with flags := .int 0 }) L D (Nat.le_of_ble_eq_true rfl) (fun v hv => ?_) (fun b f => f) D.inv.flags D.kr.flags (fun σ2 tr2 kn2 K => ?_) fun σ' R => ?_
  · rcases hv with _ | ⟨_, _ | ⟨_, h⟩⟩
    · exact ⟨_, rfl, rfl⟩
    · exact ⟨_, rfl, rfl⟩
    · cases h
  · refine Meth.tab tr2 rfl (Pv.fn L law_value_ok rfl ?_)
    rintro v σ3 ⟨w, k3⟩
    exact Pv.fnX L (set_nil_ok (tr2.grow k3)) rfl (fun q_ q_ h => h.elim) fun σ4 h => ⟨h.1, (Mv.of_keep k3).trans h.2⟩
  · refine Meth.tab R.di.tr rfl (Pv.fn1 L (get_ok R.di.kn R.di.tr R.di.inv .none fun z => absurd rfl z) rfl ?_)
    show (look ν _ .nil).plain = true ∧ Q (.bool (isNone (look ν _ .nil))) σ'
    rw [look_nil R.di.inv]
    exact ⟨rfl, hQ _ _ R⟩
theorem NuX.table {b : Addr} {n : Int} (K : Knows σ ν) (hb : σ b = none) (N : NewT ν σ b n σ' T) : NuX ν σ (upd ν b ⟨0, n⟩) σ' := by
  refine ⟨⟨fun c r e => ?_⟩, fun c => ?_, N.keep⟩
  · by_cases z : c = b
    · subst z; rw [upd_same] at e; cases e
      exact ⟨Nat.zero_le _, T.fs, N.tr.t, by rw [show getF T.fs "number" = some (.int T.num) by kernel_rfl, N.num], by kernel_rfl⟩
    · rw [upd_ne _ _ z] at e
      obtain ⟨h1, fs, h2, h3⟩ := K.at_ c r e
      exact ⟨h1, fs, N.keep _ _ h2, h3⟩
  · by_cases z : c = b
    · subst z; exact .inr ⟨hb, _, upd_same .., show (0 : Nat) ≠ 2 by decide⟩
    · exact .inl (upd_ne _ _ z)
theorem Odd.plain (o : Odd ν k) : plainV k = true := by
  have := o.any
  cases this <;> rfl
theorem Odd.ref {a : Addr} {r : Rf} (h : ν a = some r) (hp : proper (.ref r.kind r.num) = true) (hn : ¬ U1 (.ref r.kind r.num)) : Odd ν (.ref a) := ⟨.ref a r h, by rw [tag_ref h]; exact hp, by rw [tag_ref h]; exact hn⟩
theorem deed_9 (L : Law g) (D : DI ν σ t ka T P) (hQ : ∀ ν' σ', DR ν σ t ka T ν' σ' T P → Q (.bool true) σ') :
    wp c__law_deed_19 ⟨g, 13, noX⟩ (retC Q) [] [some (.ref t), some (.ref ka), x2, x3, x4, x5, x6, x7, some (.int m), x9] σ := by
  obtain ⟨f1, f2⟩ := fmod_in m (m := 5) (by decide)
  have lt : (m.fmod 5).toNat < 5 := (Int.toNat_lt f1).mpr f2
  refine Pv.shl (by decide) (by decide) (by decide) (Pv.shl (by decide) (by decide) (by decide) (Pv.table (num := 99) (as := 0) (hs := 0) L rfl D.kn (by decide) (by decide) rfl fun b σ1 T1 hb N => Pv.light L rfl fun c hc d hd => Pv.mod (by decide) ?_))
  have x1 := NuX.table D.kn hb N
  have y2 := x1.trans (NuX.light (m := 77) x1.kn hc)
  have y3 := y2.trans (.of y2.kn (Grow.new (o := .list [.bytes never.toArray, .int (1 * 2 ^ (62 : Int).toNat + 977), .int (0 - 1 * 2 ^ (62 : Int).toNat - 977), .ref b, .ref c]) hd))
  have R := D.nux y3
  have nb : b ≠ c := fun z => by rw [← z, N.tr.t] at hc; cases hc
  have odd : ∀ v ∈ [V.bytes never.toArray, .int (1 * 2 ^ (62 : Int).toNat + 977), .int (0 - 1 * 2 ^ (62 : Int).toNat - 977), .ref b, .ref c], Odd (upd (upd ν b ⟨0, 99⟩) c ⟨1, 77⟩) v :=
    List.forall_mem_cons.mpr ⟨⟨.bytes _ (by decide), rfl, fun z => by cases z with | bytes l h => exact h rfl⟩,
    List.forall_mem_cons.mpr ⟨⟨.int _, rfl, fun z => by cases z with | int i h1 h2 => exact absurd h2 (by decide)⟩,
    List.forall_mem_cons.mpr ⟨⟨.int _, rfl, fun z => by cases z with | int i h1 h2 => exact absurd h1 (by decide)⟩,
    List.forall_mem_cons.mpr ⟨.ref ((upd_ne _ _ nb).trans (upd_same ..)) rfl fun z => by cases z with | tab n h1 h2 => exact absurd h2 (by decide),
    List.forall_mem_cons.mpr ⟨.ref (upd_same ..) rfl fun z => by cases z with | lig n h1 h2 => exact absurd h2 (by decide), fun q_ h => nomatch h⟩⟩⟩⟩⟩
  obtain ⟨s, hs, o⟩ : ∃ s, [V.bytes never.toArray, .int (1 * 2 ^ (62 : Int).toNat + 977), .int (0 - 1 * 2 ^ (62 : Int).toNat - 977), .ref b, .ref c][(m.fmod 5).toNat]? = some s ∧ Odd (upd (upd ν b ⟨0, 99⟩) c ⟨1, 77⟩) s := ⟨_, List.getElem?_eq_getElem lt, odd _ (List.getElem_mem lt)⟩
  refine Pg.lst (.inl (upd_same ..)) f1 (Int.lt_trans f2 (by decide)) hs ?_
  refine deed_refused (T' := T) L R.di (Nat.le_of_ble_eq_true rfl) (fun v hv => ?_) (fun b f => f) R.di.inv R.di.kr (fun σ2 tr2 kn2 K => ?_) fun σ' R' => hQ _ _ (R.trans R')
  · rcases hv with _ | ⟨_, _ | ⟨_, h⟩⟩
    · exact ⟨_, rfl, o.plain⟩
    · exact ⟨_, rfl, rfl⟩
    · cases h
  · exact Meth.tab tr2 rfl (Pv.fnX L (next_ok kn2 tr2 R.di.inv o.any) rfl (fun r σ' h => by obtain ⟨⟨j, hj, _⟩, _⟩ := h; exact (o.idx R.di hj).elim) fun σ' h => by rw [h.1]; exact ⟨tr2, Mv.refl ..⟩)
end
theorem dset_len (P : Prs) (t : Tag) (v : V) : (dset P t v).length ≤ P.length + 1 := by
  unfold dset
  split
  · rw [List.length_map]; exact Nat.le_succ _
  · rw [List.length_append]; exact Nat.le_refl _
theorem kp_n {t} (u : U1 t) (e : veq (.str (kp t).1) (.str "n") = true) : ∃ i, t = .int i := by
  have e := V.str.inj (veq_iff.mp e)
  cases u with
  | int i => exact ⟨i, rfl⟩
  | bool b => have e : ("b" : Str) = "n" := e; exact absurd e (by decide)
  | bytes l => have e : ("s" : Str) = "n" := e; exact absurd e (by decide)
  | tab n => have e : ("t" : Str) = "n" := e; exact absurd e (by decide)
  | lig n => have e : ("l" : Str) = "n" := e; exact absurd e (by decide)
theorem kp_s {t} (u : U1 t) (e : veq (.str (kp t).1) (.str "s") = true) : ∃ l, t = .bytes l := by
  have e := V.str.inj (veq_iff.mp e)
  cases u with
  | bytes l => exact ⟨l, rfl⟩
  | bool b => have e : ("b" : Str) = "s" := e; exact absurd e (by decide)
  | int l => have e : ("n" : Str) = "s" := e; exact absurd e (by decide)
  | tab n => have e : ("t" : Str) = "s" := e; exact absurd e (by decide)
  | lig n => have e : ("l" : Str) = "s" := e; exact absurd e (by decide)
theorem tag_int_inv {ν : Nu} {k i} (h : AnyV ν k) (e : tag ν k = .int i) : k = .int i := by
  cases h with
  | ref a r h => rw [tag_ref h] at e; cases e
  | int j => cases e; rfl
  | _ => cases e
theorem tag_bytes_inv {ν : Nu} {k l} (h : AnyV ν k) (e : tag ν k = .bytes l) : ∃ b, k = .bytes b ∧ b.size ≤ 2 ^ 20 := by
  cases h with
  | ref a r h => rw [tag_ref h] at e; cases e
  | bytes b h => exact ⟨b, rfl, h⟩
  | _ => cases e
section
variable {ν : Nu} {σ σ' : MH} {t ka oa : Addr} {a : Nat → Addr} {T T' : Tb} {P : Prs} {k v : V} {g : G} {x2 x3 x4 x5 x6 x7 x8 x9 : Option V} {m f : Int} {Q : V → MH → Prop}
theorem deed_tail (L : Law g) (D : DI ν σ t ka T P) (uk : UK ν k) (q : PutG ν σ t T k v σ' T') (hz : P.length ≤ 2 ^ 10) (hv : v = .none ∨ W1 v) (hQ : ∀ σ'' P', DR ν σ t ka T ν σ'' T' P' → P'.length ≤ P.length + 1 → Q (.bool true) σ'') :
    wp (.ld 7 <| .isn true <| .br (c__law_deed_1) (c__law_deed_2)) ⟨g, 13, noX⟩ (retC Q) [] [some (.ref t), some (.ref ka), x2, x3, x4, some (kv (tag ν k)), some k, some v, x8, x9] σ' := by
  have e := q.mv.keep _ _ D.dk D.ko
  have hz2 : P.length ≤ 2 ^ 20 := Nat.le_trans hz (by decide)
  have tail : ∀ P', KR ν T' P' → P'.length ≤ P.length + 1 → wp (.ld 0 <| .mld cT "get" <| .ld 6 <| .call (.ref 259) 2 <| .ld 7 <| .call (.ref 436) 2 <| .ret) ⟨g, 13, noX⟩ (retC Q) [] [some (.ref t), some (.ref ka), x2, x3, x4, some (kv (tag ν k)), some k, some v, x8, x9] (upd σ' ka (.dict P')) := fun P' R hl => by
    have X := (D.put q R).2
    have I := X.di
    refine Meth.tab I.tr rfl (Pv.fn1 L (get_ok I.kn I.tr I.inv uk.any fun q_ => uk.lt.proper) rfl ?_)
    rw [q.ins.look _ uk.lt.proper, if_pos rfl]
    exact Pv.fn1 L (law_same_ok I.kn hv) rfl (hQ _ _ X hl)
  rcases hv with rfl | w
  · exact ⟨rfl, .dict ka _ e (Pv.dPop e uk.lt.k hz2 (tail _ (D.kr.del q.ins uk.lt) (Nat.le_succ_of_le (ddel_le ..))))⟩
  · exact ⟨w.plain, brk2.bool (fun z => absurd (isNone_eq z) w.ne) fun q_ => Pu.dict e uk.lt.k hz2 (tail _ (D.kr.set q.ins uk.lt w) (dset_len ..))⟩
theorem DI.fit (D : DI ν σ t ka T P) (hz : P.length ≤ 2 ^ 10) : lives T + 1 ≤ 2 ^ 19 := by rw [D.kr.fit D.inv]; exact Nat.le_trans (Nat.succ_le_succ hz) (by decide)
theorem deed_disp (L : Law g) (D : DI ν σ t ka T P) (uk : UK ν k) (hz : P.length ≤ 2 ^ 10) (hv : v = .none ∨ W1 v) (hQ : ∀ σ' T' P', DR ν σ t ka T ν σ' T' P' → P'.length ≤ P.length + 1 → Q (.bool true) σ') :
    wp (.ld 4 <| .lit (.int 4) <| .cmp .Eq <| .br (c__law_deed_8) (c__law_deed_7)) ⟨g, 13, noX⟩ (retC Q) [] [some (.ref t), some (.ref ka), x2, x3, some (.int f), some (kv (tag ν k)), some k, some v, x8, x9] σ := by
  have hB := D.fit hz
  have vp : v.plain = true := hv.elim (fun e => e ▸ rfl) W1.plain
  have s5 : wp c__law_deed_5 ⟨g, 13, noX⟩ (retC Q) [] [some (.ref t), some (.ref ka), x2, x3, some (.int f), some (kv (tag ν k)), some k, some v, x8, x9] σ := by
    refine Meth.tab D.tr rfl (Pv.fn L (set_ok D.kn D.out D.tr D.inv uk.any uk.lt.proper vp hB) rfl ?_)
    rintro _ σ' ⟨rfl, T', q, _⟩
    exact deed_tail L D uk q hz hv fun σ'' P' => hQ σ'' T' P'
  have s7 : wp c__law_deed_7 ⟨g, 13, noX⟩ (retC Q) [] [some (.ref t), some (.ref ka), x2, x3, some (.int f), some (kv (tag ν k)), some k, some v, x8, x9] σ := by
    refine brk2.dec (fun q_ => Pg.tup (by decide) (by decide) rfl (cmp_eq (.ss _ _) (Nat.zero_le _) (brk2.bool (fun e => ?_) fun q_ => s5))) fun q_ => s5
    obtain ⟨l, hl⟩ := kp_s uk.lt e
    obtain ⟨b, rfl, hb⟩ := tag_bytes_inv uk.any hl
    refine Meth.tab D.tr rfl (Pv.fn L (set_text_ok hb D.kn D.out D.tr D.inv vp hB) rfl ?_)
    rintro _ σ' ⟨rfl, T', q⟩
    exact deed_tail L D uk q hz hv fun σ'' P' => hQ σ'' T' P'
  refine brk2.dec (fun q_ => Pg.tup (by decide) (by decide) rfl (cmp_eq (.ss _ _) (Nat.zero_le _) (brk2.bool (fun e => ?_) fun q_ => s7))) fun q_ => s7
  obtain ⟨i, hi⟩ := kp_n uk.lt e
  have ek := tag_int_inv uk.any hi
  subst ek
  refine Meth.tab D.tr rfl (Pv.fn L (set_int_ok D.kn D.out D.tr D.inv vp hB) rfl ?_)
  rintro _ σ' ⟨rfl, T', q, _⟩
  exact deed_tail L D uk q hz hv fun σ'' P' => hQ σ'' T' P'
inductive DeedR (ν : Nu) (σ : MH) (t ka : Addr) (T : Tb) (P : Prs) (r : V) (σ' : MH) : Prop
  | mk (e : r = .bool true) (ν' : Nu) (T' : Tb) (P' : Prs) (h : DR ν σ t ka T ν' σ' T' P') (len : P'.length ≤ P.length + 1)
theorem law_deed_ok {n : Int} (D : DI ν σ t ka T P) (O : Oth ν σ oa a) (hz : P.length ≤ 2 ^ 10) : Fn 14 471 [.ref t, .ref ka, .int n, .ref oa] (DeedR ν σ t ka T P) σ := by
  refine Fn.goC (ps := ["t", "kept", "n", "others"]) (rest := ["form", "tag", "key", "value", "m", "strange"]) (code := c__law_deed) (fun q_ => by kernel_rfl) (fun q_ => args4 fun q_ q_ q_ q_ => by kernel_rfl) (fun q_ => by kernel_rfl) rfl fun g L => ?_
  refine Pv.mod (by decide) (Pv.div (by decide) (by decide) ?_)
  generalize n.fdiv 10 = m
  generalize n.fmod 10 = f
  refine brk2.dec (fun q_ => ?_) fun q_ => brk2.dec (fun q_ => ?_) fun q_ => brk2.dec (fun q_ => ?_) fun q_ => brk2.dec (fun q_ => deed_8 L D fun σ' T' h => ⟨rfl, _, _, _, h, Nat.le_succ _⟩) fun q_ => deed_9 L D fun ν' σ' h => ⟨rfl, _, _, _, h, Nat.le_succ _⟩
  · refine Pv.fn L (law_key_ok D.kn O) rfl ?_
    rintro _ σ1 ⟨ν', k, x, uk, rfl⟩
    have X := D.nux x
    refine brk2.dec (fun q_ => deed_disp L X.di uk hz (.inl rfl) fun σ' T' P' Z hl => ⟨rfl, _, _, _, X.trans Z, hl⟩) fun q_ => Pv.div (by decide) (by decide) (Pv.fn L law_value_ok rfl ?_)
    rintro v σ2 ⟨w, k2⟩
    have Y := X.di.grow k2
    exact deed_disp L Y.di uk hz (.inr w) fun σ' T' P' Z hl => ⟨rfl, _, _, _, X.trans (Y.trans Z), hl⟩
  · obtain ⟨a0, a9⟩ := fmod_in m (m := 9) (by decide)
    obtain ⟨b0, b9⟩ := fmod_in (m.fdiv 9) (m := 9) (by decide)
    refine Meth.tab D.tr rfl (Pv.mod (by decide) (Pv.div (by decide) (by decide) (Pv.mod (by decide) ?_)))
    show Pv _ tcall [_, _, .int (m.fmod 9), .int ((m.fdiv 9).fmod 9), _] _ _
    rw [← Int.toNat_of_nonneg a0, ← Int.toNat_of_nonneg b0]
    refine Pv.fn L (resize_gen D.kn D.out D.tr D.inv (by lia) (by lia) (D.fit hz)).1 rfl ?_
    rintro _ σ' ⟨rfl, T', tr, mv, rs⟩
    exact ⟨rfl, _, _, _, D.mv mv tr rs.inv (D.kr.rs rs), Nat.le_succ _⟩
  · refine Pv.mod (by decide) (Pv.fn L (law_walk_right_ok D.kn D.nd D.out D.tr D.inv D.kr D.dk D.ko hz) rfl ?_)
    rintro _ σ' ⟨rfl, T1, P1, W⟩
    exact ⟨rfl, _, _, _, D.walk W, Nat.le_succ_of_le W.len⟩
end
noncomputable def c_law_1 : Cd := .lit (.int (70)) <| .ld 0 <| .bin .Add <| .lit (.int (0)) <| .lit (.int (0)) <| .call (.ref 406) 3 <| .ret
noncomputable def c_law_2 : Cd := .unp false [6, 7, 8] <| .ld 3 <| .mld cT "set" <| .ld 7 <| .ld 8 <| .lit .none <| .call (.ref 266) 4 <| .pop <| .ld 8 <| .ld 4 <| .ld 6 <| .stx <| .fin
noncomputable def c_law_3 : Cd := .lit (.bool false) <| .ret
noncomputable def c_law_4 : Cd := .ld 9 <| .lit (.int (7)) <| .bin .FloorDiv <| .ld 1 <| .call (.ref 415) 2 <| .unp false [6, 7] <| .ld 3 <| .mld cT "get" <| .ld 7 <| .call (.ref 259) 2 <| .ld 4 <| .bld true <| .ld 6 <| .lit .none <| .call (.bi "dict.get") 3 <| .call (.ref 436) 2 <| .br (.fin) (c_law_3)
noncomputable def c_law_5 : Cd := .ld 3 <| .ld 4 <| .call (.ref 443) 2 <| .br (c_law_4) (c_law_3)
noncomputable def c_law_6 : Cd := .st 9 <| .ld 3 <| .ld 4 <| .ld 9 <| .ld 1 <| .call (.ref 471) 4 <| .br (c_law_5) (c_law_3)
noncomputable def c_law_7 : Cd := .ld 3 <| .mld cT "get_text" <| .ld 6 <| .lit (.int (1)) <| .ix <| .call (.ref 252) 2 <| .ld 4 <| .ld 6 <| .ix <| .call (.ref 436) 2 <| .br (.fin) (c_law_3)
noncomputable def c_law_8 : Cd := .ld 6 <| .lit (.int (0)) <| .ix <| .lit (.str "s") <| .cmp .Eq <| .br (c_law_7) (.fin)
noncomputable def c_law_9 : Cd := .ld 3 <| .mld cT "get_int" <| .ld 6 <| .lit (.int (1)) <| .ix <| .call (.ref 245) 2 <| .ld 4 <| .ld 6 <| .ix <| .call (.ref 436) 2 <| .br (c_law_8) (c_law_3)
noncomputable def c_law_10 : Cd := .ld 6 <| .lit (.int (0)) <| .ix <| .lit (.str "n") <| .cmp .Eq <| .br (c_law_9) (c_law_8)
noncomputable def c_law_11 : Cd := .ld 1 <| .ld 6 <| .lit (.int (1)) <| .ix <| .lit (.int (70)) <| .bin .Sub <| .ix <| .st 7 <| .ld 3 <| .mld cT "get" <| .ld 7 <| .call (.ref 259) 2 <| .ld 4 <| .ld 6 <| .ix <| .call (.ref 436) 2 <| .br (c_law_10) (c_law_3)
noncomputable def c_law_12 : Cd := .ld 3 <| .mld cT "get" <| .ld 7 <| .call (.ref 259) 2 <| .ld 4 <| .ld 6 <| .ix <| .call (.ref 436) 2 <| .br (c_law_10) (c_law_3)
noncomputable def c_law_13 : Cd := .ld 6 <| .lit (.int (1)) <| .ix <| .call (.ref 79) 1 <| .st 7 <| .ld 6 <| .lit (.int (0)) <| .ix <| .lit (.str "t") <| .cmp .Eq <| .br (c_law_11) (c_law_12)
noncomputable def c_law_14 : Cd := .ld 6 <| .lit (.int (0)) <| .ix <| .lit (.str "t") <| .cmp .Eq <| .br (c_law_11) (c_law_12)
noncomputable def c_law_15 : Cd := .ld 6 <| .lit (.int (1)) <| .ix <| .lit (.int (1)) <| .cmp .Eq <| .st 7 <| .ld 6 <| .lit (.int (0)) <| .ix <| .lit (.str "l") <| .cmp .Eq <| .br (c_law_13) (c_law_14)
noncomputable def c_law_16 : Cd := .ld 6 <| .lit (.int (0)) <| .ix <| .lit (.str "l") <| .cmp .Eq <| .br (c_law_13) (c_law_14)
noncomputable def c_law_17 : Cd := .st 6 <| .ld 6 <| .lit (.int (1)) <| .ix <| .st 7 <| .ld 6 <| .lit (.int (0)) <| .ix <| .lit (.str "b") <| .cmp .Eq <| .br (c_law_15) (c_law_16)
noncomputable def c_law_18 : Cd := .ld 3 <| .mld cT "next" <| .lit .none <| .call (.ref 370) 2 <| .isn true <| .ret
noncomputable def c_law_19 : Cd := .ld 3 <| .ld 4 <| .lit (.int (1)) <| .call (.ref 450) 3 <| .br (c_law_18) (c_law_3)
noncomputable def c_law_20 : Cd := .ld 3 <| .ld 4 <| .lit (.int (0)) <| .call (.ref 450) 3 <| .br (c_law_19) (c_law_3)
noncomputable def c_law_21 : Cd := .ld 3 <| .ld 4 <| .call (.ref 443) 2 <| .br (c_law_20) (c_law_3)
noncomputable def c_law_22 : Cd := .ld 3 <| .ld 4 <| .call (.ref 464) 2 <| .br (c_law_21) (c_law_3)
noncomputable def c_law_23 : Cd := .ld 4 <| .call (.typ "list") 1 <| .forl 0 1 (c_law_17) (c_law_22)
noncomputable def c_law_24 : Cd := .ld 0 <| .lit (.int (14)) <| .slc false <| .forl 0 1 (c_law_6) (c_law_23)
noncomputable def c_law_25 : Cd := .ld 0 <| .lit (.int (0)) <| .ix <| .st 2 <| .lit (.int (7)) <| .ld 2 <| .lit (.int (3)) <| .bin .Mod <| .ld 2 <| .lit (.int (3)) <| .bin .FloorDiv <| .lit (.int (5)) <| .bin .Mod <| .call (.ref 406) 3 <| .dct <| .tup 2 <| .unp true [4, 3] <| .lit (.str "n") <| .lit (.int (1)) <| .tup 2 <| .lit (.int (1)) <| .lit (.int (5)) <| .tup 3 <| .lit (.str "s") <| .lit (.bytes [97].toArray) <| .tup 2 <| .lit (.bytes [97].toArray) <| .lit (.bytes [120].toArray) <| .tup 3 <| .lit (.str "n") <| .lit (.int (2)) <| .tup 2 <| .lit (.int (2)) <| .lit (.bool false) <| .tup 3 <| .lit (.str "b") <| .lit (.int (1)) <| .tup 2 <| .lit (.bool true) <| .lit (.int (3)) <| .tup 3 <| .lst 4 <| .st 5 <| .ld 5 <| .forl 0 1 (c_law_2) (c_law_24)
noncomputable def c_law_26 : Cd := .lit (.int (7)) <| .ld 2 <| .lit (.int (3)) <| .bin .Mod <| .ld 2 <| .lit (.int (3)) <| .bin .FloorDiv <| .lit (.int (5)) <| .bin .Mod <| .call (.ref 406) 3 <| .dct <| .tup 2 <| .unp true [4, 3] <| .lit (.str "n") <| .lit (.int (1)) <| .tup 2 <| .lit (.int (1)) <| .lit (.int (5)) <| .tup 3 <| .lit (.str "s") <| .lit (.bytes [97].toArray) <| .tup 2 <| .lit (.bytes [97].toArray) <| .lit (.bytes [120].toArray) <| .tup 3 <| .lit (.str "n") <| .lit (.int (2)) <| .tup 2 <| .lit (.int (2)) <| .lit (.bool false) <| .tup 3 <| .lit (.str "b") <| .lit (.int (1)) <| .tup 2 <| .lit (.bool true) <| .lit (.int (3)) <| .tup 3 <| .lst 4 <| .st 5 <| .ld 5 <| .forl 0 1 (c_law_2) (c_law_24)
noncomputable def c_law : Cd := .lit (.int (3)) <| .comp 1 1 [] (c_law_1) <| .st 1 <| .lit (.int (0)) <| .st 2 <| .ld 0 <| .call (.bi "len") 1 <| .lit (.int (0)) <| .cmp .Gt <| .br (c_law_25) (c_law_26)
theorem Knows.updL {σ : MH} {ν : Nu} (K : Knows σ ν) {b : Addr} {xs : List V} (e : σ b = some (.list xs)) (o : O) : Knows (Mn.upd σ b o) ν :=
  ⟨fun a r q => let ⟨h1, fs, h2, h3⟩ := K.at_ a r q; ⟨h1, fs, (upd_ne _ _ fun z => by rw [z, e] at h2; cases h2).trans h2, h3⟩⟩
section
variable {σ : MH}
set_option tactic.hygienic true in
theorem law_others {g : G} (L : Law g) {s : List V} {ls : Ls} {Q : Fw → Ls → MH → Prop} {k : Cd} (h : ∀ D σ' ν a, Oth ν σ' D a → Knows σ' ν → NoDead ν → Grow σ σ' → wp k ⟨g, 14, noX⟩ Q (.ref D :: s) ls σ') :
    wp (.lit (.int (3)) <| .comp 1 1 [] (c_law_1) k) ⟨g, 14, noX⟩ Q s ls σ := by
  refine It.range1 _ (by decide) (CmpL.mk (fun D k acc σ' => X2 fun (ν : Nu) (a : Nat → Addr) => A7 (k ≤ 3) (acc = (List.range k).map fun j => .ref (a j)) (σ' D = some (.list acc)) (Grow σ σ') (Knows σ' ν) (NoDead ν) (∀ j, j < k → ν (a j) = some ⟨0, 70 + (j : Int)⟩))
    (fun D hD => ⟨fun _ => none, fun _ => 0, Nat.zero_le _, rfl, upd_same .., Grow.new hD, ⟨fun _ _ e => nomatch e⟩, (fun _ _ e => nomatch e), fun j h => absurd h (Nat.not_lt_zero _)⟩) (fun D k acc σ2 ⟨ν, a, h⟩ => ⟨trivial, h.h3, by rw [h.h2, List.length_map, List.length_range]; exact Nat.le_trans h.h1 (by decide)⟩) ?_ ?_)
  · rintro D k v acc σ2 hD0 hv ⟨ν, a, _, rfl, hD, k2, K, nd, ha⟩
    rw [rng_get] at hv
    split at hv
    case isFalse => cases hv
    rename_i lt
    have lt : k < 3 := lt
    rw [Int.zero_add] at hv
    cases hv
    refine Pv.table (num := 70 + (k : Int)) (as := 0) (hs := 0) L rfl K (by decide) (by decide) rfl fun b σ3 T hb N => ?_
    have x := NuX.table K hb N
    have b0 := K.none hb
    obtain ⟨a', f7, aold⟩ : ∃ a' : Nat → Addr, a' k = b ∧ ∀ j, j ≠ k → a' j = a j := ⟨fun j => if j = k then b else a j, if_pos rfl, fun _ h => if_neg h⟩
    refine ⟨N.keep _ _ hD, _, a', lt, ?_, upd_same .., fun c o e => (upd_ne _ _ fun z => by rw [z, hD0] at e; cases e).trans (N.keep _ _ (k2 c o e)), x.kn.updL (N.keep _ _ hD) _, x.dead nd, fun j hj => ?_⟩
    · rw [List.range_succ, List.map_append]
      show _ = _ ++ [V.ref (a' k)]
      rw [f7]
      congr 1
      exact List.map_congr_left fun j hj => congrArg V.ref (aold j (Nat.ne_of_lt (List.mem_range.mp hj))).symm
    · by_cases z : j = k
      · rw [z, f7, upd_same]
      · have hj := ha j (by lia)
        rw [aold j z, upd_ne _ _ fun w => by rw [w, b0] at hj; cases hj]
        exact hj
  · rintro D acc σ2 hD0 ⟨ν, a, _, rfl, hD, k2, K, nd, ha⟩
    exact h D σ2 ν a ⟨hD, ha⟩ K nd k2
end
section
variable {E : En} {Q : Fw → Ls → MH → Prop} {k k' : Cd} {s : List V} {ls : Ls} {σ : MH} {x y : Str}
theorem eq_no (h : x ≠ y) (hk : wp k' E Q s ls σ) : wp (.cmp .Eq <| .br k k') E Q (.str y :: .str x :: s) ls σ :=
  cmp_eq (.ss _ _) (Nat.zero_le _) (brk2.bool (fun e => absurd (V.str.inj (veq_iff.mp e)) h) fun q_ => hk)
theorem eq_yes (hk : wp k E Q s ls σ) : wp (.cmp .Eq <| .br k k') E Q (.str x :: .str x :: s) ls σ :=
  cmp_eq (.ss _ _) (Nat.zero_le _) (brk2.bool (fun q_ => hk) fun e => by rw [veq_iff.mpr rfl] at e; cases e)
end
structure LS (ν : Nu) (σ : MH) (t ka : Addr) (T : Tb) (P : Prs) (oa : Addr) (a : Nat → Addr) : Prop where
  di : DI ν σ t ka T P
  oth : Oth ν σ oa a
  oo : ¬ foot t T oa
section
variable {ν ν' : Nu} {σ σ' : MH} {t ka oa lc sc : Addr} {a : Nat → Addr} {T T' : Tb} {P P' : Prs} {xs : List V} {k v : V} {u : Tag} {g : G} {Q : Fw → Ls → MH → Prop} {x0 x1 x2 x5 x6 x7 x8 x9 : Option V}
theorem DI.dne (D : DI ν σ t ka T P) {b o} (e : σ b = some o) (n : ∀ P, o ≠ .dict P) : b ≠ ka := fun z => by rw [z, D.dk] at e; cases e; exact n _ rfl
theorem DI.lne (D : DI ν σ t ka T P) {b o} (e : σ b = some o) (n : ∀ ps, o ≠ .lot ps) : b ≠ 466 := fun z => by
  obtain ⟨ps, w⟩ := D.lot.at_
  rw [z, w] at e; cases e; exact n _ rfl
theorem DR.held (x : DR ν σ t ka T ν' σ' T' P') (D : DI ν σ t ka T P) (h : Held σ t T lc xs) : Held σ' t T' lc xs :=
  ⟨x.keep _ _ h.at_ (D.dne h.at_ fun q_ z => nomatch z) (D.lne h.at_ fun q_ z => nomatch z) h.off, fun f => (x.ft _ f).elim h.off fun z => by rw [h.at_] at z; cases z⟩
theorem DR.rl (x : DR ν σ t ka T ν' σ' T' P') (D : DI ν σ t ka T P) (h : σ sc = some (.rlist xs)) : σ' sc = some (.rlist xs) :=
  x.keep _ _ h (D.dne h fun q_ z => nomatch z) (D.lne h fun q_ z => nomatch z) (D.tr.off h fun z => nomatch z)
theorem LS.go (S : LS ν σ t ka T P oa a) (x : DR ν σ t ka T ν' σ' T' P') : LS ν' σ' t ka T' P' oa a :=
  have h := x.held S.di ⟨S.oth.at_, S.oo⟩
  ⟨x.di, ⟨h.at_, fun j hj => x.le _ _ (S.oth.r j hj)⟩, h.off⟩
theorem KR.val (R : KR ν T P) (u : Tag) : (dfind P u).getD .none = .none ∨ W1 ((dfind P u).getD .none) := by
  cases e : dfind P u with
  | none => exact .inl rfl
  | some v => exact .inr (R.ok _ (dfind_mem e)).2
end
section
variable {E : En} {K : V → MH → Prop} {σ : MH} {x y : V}
theorem tup0 (h : K x σ) : Pg E (.tup [x, y]) (.int 0) K σ := Pg.tup (by decide) (by decide) rfl h
theorem tup1 (h : K y σ) : Pg E (.tup [x, y]) (.int 1) K σ := Pg.tup (by decide) (by decide) rfl h
end
section
variable {ν ν' : Nu} {σ σ' : MH} {t ka oa lc sc : Addr} {a : Nat → Addr} {T T' : Tb} {P P' : Prs} {xs : List V} {k v : V} {u : Tag} {g : G} {Q : Fw → Ls → MH → Prop} {x0 x1 x2 x5 x6 x7 x8 x9 : Option V}
theorem DI.short (D : DI ν σ t ka T P) {l} (h : dfind P (.bytes l) = some v) : l.toArray.size ≤ 2 ^ 20 := by
  obtain ⟨u, w⟩ := D.kr.ok _ (dfind_mem h)
  have e := D.kr.same (.bytes l) u
  rw [h] at e
  have e : v = look ν T (.bytes l) := e
  obtain ⟨p, h1, h2, h3⟩ := slot_of D.inv u.proper (e ▸ w.ne)
  obtain ⟨b, e1, hb⟩ := tag_bytes_inv (slot_any D.inv h1) h2
  rw [e1] at h2
  cases h2
  exact hb
theorem DI.look (D : DI ν σ t ka T P) (hv : dfind P u = some v) : Mn.look ν T u = v := by
  have e := D.kr.same u (D.kr.ok _ (dfind_mem hv)).1
  rw [hv] at e
  exact e.symm
theorem key_get (L : Law g) (D : DI ν σ t ka T P) (uk : UK ν k) (e : tag ν k = u) (hv : dfind P u = some v) (hQ : wp c_law_10 ⟨g, 14, noX⟩ Q [] [x0, x1, x2, some (.ref t), some (.ref ka), x5, some (kv u), some k, x8, x9] σ) :
    wp c_law_12 ⟨g, 14, noX⟩ Q [] [x0, x1, x2, some (.ref t), some (.ref ka), x5, some (kv u), some k, x8, x9] σ := by
  subst e
  refine Meth.tab D.tr rfl (Pv.fn1 L (get_ok D.kn D.tr D.inv uk.any fun q_ => uk.lt.proper) rfl (Pg.dict D.dk uk.lt.k hv ?_))
  rw [D.look hv]
  exact Pv.fn1 L (law_same_ok D.kn (.inr (D.kr.ok _ (dfind_mem hv)).2)) rfl hQ
theorem key_turn (L : Law g) (S : LS ν σ t ka T P oa a) (hv : dfind P u = some v) (hQ : ∀ σ' y6 y7, Grow σ σ' → Q .next [x0, some (.ref oa), x2, some (.ref t), some (.ref ka), x5, y6, y7, x8, x9] σ') :
    wp c_law_17 ⟨g, 14, noX⟩ Q [kv u] [x0, some (.ref oa), x2, some (.ref t), some (.ref ka), x5, x6, x7, x8, x9] σ := by
  have D := S.di
  obtain ⟨hu, w⟩ := D.kr.ok _ (dfind_mem hv)
  have lk := D.look hv
  have same : ∀ {K : V → MH → Prop}, K (.bool true) σ → Pv ⟨g, 14, noX⟩ tcall [.ref 436, v, v] K σ := fun h => Pv.fn1 L (law_same_ok D.kn (.inr w)) rfl h
  cases hu with
  | int i h1 h2 =>
    show wp c_law_17 ⟨g, 14, noX⟩ Q [.tup [.str "n", .int i]] _ σ
    refine tup1 <| tup0 <| eq_no (by decide) <| tup0 <| eq_no (by decide) <| tup0 <| eq_no (by decide) <| key_get (u := .int i) L D ⟨.int i, .int i h1 h2⟩ rfl hv <| tup0 <| eq_yes ?_
    refine Meth.tab D.tr rfl <| tup1 <| Pv.fn1 L (get_int_ok D.kn D.tr D.inv) rfl <| Pg.dict (t := .int i) D.dk (.int i) hv ?_
    rw [lk]
    exact same <| tup0 <| eq_no (x := "n") (by decide) <| hQ _ _ _ Grow.refl
  | bool b =>
    cases b with
    | true =>
      show wp c_law_17 ⟨g, 14, noX⟩ Q [.tup [.str "b", .int 1]] _ σ
      exact tup1 <| tup0 <| eq_yes <| tup1 <| tup0 <| eq_no (by decide) <| tup0 <| eq_no (by decide) <| key_get (u := .bool true) (k := .bool true) L D ⟨.bool true, .bool true⟩ rfl hv <| tup0 <| eq_no (by decide) <| tup0 <| eq_no (by decide) <| hQ _ _ _ Grow.refl
    | false =>
      show wp c_law_17 ⟨g, 14, noX⟩ Q [.tup [.str "b", .int 0]] _ σ
      exact tup1 <| tup0 <| eq_yes <| tup1 <| tup0 <| eq_no (by decide) <| tup0 <| eq_no (by decide) <| key_get (u := .bool false) (k := .bool false) L D ⟨.bool false, .bool false⟩ rfl hv <| tup0 <| eq_no (by decide) <| tup0 <| eq_no (by decide) <| hQ _ _ _ Grow.refl
  | bytes l h =>
    have hb := D.short hv
    show wp c_law_17 ⟨g, 14, noX⟩ Q [.tup [.str "s", .bytes l.toArray]] _ σ
    refine tup1 <| tup0 <| eq_no (by decide) <| tup0 <| eq_no (by decide) <| tup0 <| eq_no (by decide) <| key_get (u := .bytes l) L D ⟨.bytes _ hb, .bytes l h⟩ rfl hv <| tup0 <| eq_no (x := "s") (by decide) <| tup0 <| eq_yes ?_
    refine Meth.tab D.tr rfl <| tup1 <| Pv.fn1 L (get_text_ok hb D.kn D.tr D.inv) rfl <| Pg.dict (t := .bytes l) D.dk (.bytes l) hv ?_
    rw [show look ν T (.bytes l.toArray.toList) = v from lk]
    exact same <| hQ _ _ _ Grow.refl
  | tab n h1 h2 =>
    obtain ⟨b, e1, e2, uk⟩ := S.oth.ix (i := n - 70) (by lia) (by lia)
    rw [show (70 : Int) + (n - 70) = n by lia] at e2
    show wp c_law_17 ⟨g, 14, noX⟩ Q [.tup [.str "t", .int n]] _ σ
    exact tup1 <| tup0 <| eq_no (by decide) <| tup0 <| eq_no (by decide) <| tup0 <| eq_yes <| tup1 <| Pg.lst (.inl S.oth.at_) (by lia) (by lia) e1 <| key_get (u := .ref 0 n) L D uk (tag_ref e2) hv <| tup0 <| eq_no (x := "t") (by decide) <| tup0 <| eq_no (x := "t") (by decide) <| hQ _ _ _ Grow.refl
  | lig n h1 h2 =>
    show wp c_law_17 ⟨g, 14, noX⟩ Q [.tup [.str "l", .int n]] _ σ
    refine tup1 <| tup0 <| eq_no (by decide) <| tup0 <| eq_yes <| tup1 <| Pv.light L rfl fun b hb => tup0 <| eq_no (by decide) ?_
    have x := NuX.light (m := n) D.kn hb
    have et := tag_ref (upd_same ν b ⟨1, n⟩)
    exact key_get (u := .ref 1 n) L (D.nux x).di ⟨.ref b _ (upd_same ..), by rw [et]; exact .lig n h1 h2⟩ et hv <| tup0 <| eq_no (x := "l") (by decide) <| tup0 <| eq_no (x := "l") (by decide) <| hQ _ _ _ x.grow
end
section
variable {ν ν' : Nu} {σ σ' : MH} {t ka oa lc sc : Addr} {a : Nat → Addr} {T T' : Tb} {P P' : Prs} {xs : List V} {k v : V} {u : Tag} {g : G} {Q : Fw → Ls → MH → Prop} {x0 x1 x2 x5 x6 x7 x8 x9 : Option V} {n : Nat}
inductive LAt (sc oa t ka lc : Addr) (a : Nat → Addr) (xs : List V) (n : Nat) (ls : Ls) (σ : MH) : Prop
  | mk (ν : Nu) (T : Tb) (P : Prs) (x2 x5 x6 x7 x8 x9 : Option V) (S : LS ν σ t ka T P oa a) (hl : Held σ t T lc xs) (len : P.length ≤ n + 4) (e : ls = [some (.ref sc), some (.ref oa), x2, some (.ref t), some (.ref ka), x5, x6, x7, x8, x9])
theorem law_turn (L : Law g) (hn : n ≤ 100) {x : Int} (S : LS ν σ t ka T P oa a) (hl : Held σ t T lc xs) (len : P.length ≤ n + 4) (hQ : ∀ ls σ', LAt sc oa t ka lc a xs (n + 1) ls σ' → Q .next ls σ') :
    wp c_law_6 ⟨g, 14, noX⟩ Q [.int x] [some (.ref sc), some (.ref oa), x2, some (.ref t), some (.ref ka), x5, x6, x7, x8, x9] σ := by
  refine Pv.fn L (law_deed_ok S.di S.oth (Nat.le_trans len (Nat.le_trans (Nat.add_le_add_right hn 4) (by decide)))) rfl ?_
  rintro _ σ1 ⟨rfl, ν1, T1, P1, X, hlen⟩
  have S1 := S.go X
  have D1 := S1.di
  have h1 := X.held S.di hl
  refine Pv.fn1 L (law_border_right_ok D1.kn D1.tr D1.inv D1.kr D1.dk) rfl (Pv.div (by decide) (by decide) (Pv.fn L (law_key_ok D1.kn S1.oth) rfl ?_))
  rintro _ σ2 ⟨ν2, k, x, uk, rfl⟩
  have Y := D1.nux x
  have D2 := Y.di
  refine Meth.tab D2.tr rfl (Pv.fn1 L (get_ok D2.kn D2.tr D2.inv uk.any fun q_ => uk.lt.proper) rfl (.dict ka _ D2.dk (Pv.dGet2 D2.dk uk.lt.k ?_)))
  rw [← D2.kr.same _ uk.lt]
  exact Pv.fn1 L (law_same_ok D2.kn (D2.kr.val _)) rfl (hQ _ _ ⟨ν2, T1, P1, _, _, _, _, _, _, S1.go Y, Y.held D1 h1, by lia, rfl⟩)
theorem law_rest (L : Law g) (S : LS ν σ t ka T P oa a) (hz : P.length ≤ 2 ^ 10) :
    wp c_law_23 ⟨g, 14, noX⟩ (retC fun r σ' => r = .bool true ∧ Lot σ' 466 lamQ) [] [x0, some (.ref oa), x2, some (.ref t), some (.ref ka), x5, x6, x7, x8, x9] σ := by
  have hz20 : P.length ≤ 2 ^ 20 := Nat.le_trans hz (by decide)
  refine Pv.dKeysL S.di.dk hz20 fun b hb => It.val _ _ _ (.list b _ (.inl (upd_same ..))) (ForL.mk (fun k ls σ' => Grow (upd σ b (.list (P.map fun p => kv p.1))) σ' ∧ X2 fun y6 y7 => ls = [x0, some (.ref oa), x2, some (.ref t), some (.ref ka), x5, y6, y7, x8, x9]) ⟨Grow.refl, _, _, rfl⟩ (fun k ls σ' h => .inl (h.1 _ _ (upd_same ..))) ?_ ?_)
  · rintro k v ls σ' hx ⟨k1, y6, y7, rfl⟩
    rw [List.getElem?_map] at hx
    obtain ⟨⟨u, w⟩, hp, rfl⟩ := Option.map_eq_some_iff.mp hx
    have S1 := S.go (S.di.grow ((Grow.new hb).trans k1))
    exact key_turn L S1 (dfind_at S1.di.kr.nd hp) fun σ2 z6 z7 k2 => ⟨k1.trans k2, _, _, rfl⟩
  · rintro ls σ' ⟨k1, y6, y7, rfl⟩
    have D := (S.go (S.di.grow ((Grow.new hb).trans k1))).di
    refine Pv.fn L (law_entries_right_ok D.kn D.tr D.inv D.kr D.dk hz20) rfl ?_
    rintro _ σ2 ⟨rfl, k2⟩
    have D2 := (D.grow k2).di
    refine Pv.fn1 L (law_border_right_ok D2.kn D2.tr D2.inv D2.kr D2.dk) rfl (Pv.fn L (law_walk_right_ok D2.kn D2.nd D2.out D2.tr D2.inv D2.kr D2.dk D2.ko hz) rfl ?_)
    rintro _ σ3 ⟨rfl, T3, P3, W3⟩
    have D3 := (D2.walk W3).di
    refine Pv.fn L (law_walk_right_ok (st := 1) D3.kn D3.nd D3.out D3.tr D3.inv D3.kr D3.dk D3.ko (Nat.le_trans W3.len hz)) rfl ?_
    rintro _ σ4 ⟨rfl, T4, P4, W4⟩
    have D4 := (D3.walk W4).di
    have he : HereAt ν T4 0 .none := .start
    refine Meth.tab D4.tr rfl (Pv.fnX L (next_ok D4.kn D4.tr D4.inv .none) rfl ?_ fun q_ h => (he.notIn ⟨rfl, rfl, fun q_ q_ => rfl⟩ h.2).elim)
    rintro r σ5 ⟨⟨j, hj, hr⟩, rfl⟩
    rw [he.idx D4.nd D4.inv D4.inv ⟨rfl, rfl, fun q_ q_ => rfl⟩ hj] at hr
    cases hr with
    | fin e _ => subst e; exact ⟨rfl, rfl, D4.lot⟩
    | at_ p _ hp _ hl _ => exact absurd (W4.one rfl p hp) hl
end
noncomputable def fdL : List V := [.tup [kv (.int 1), .int 1, .int 5], .tup [kv (.bytes [97]), .bytes [97].toArray, .bytes [120].toArray], .tup [kv (.int 2), .int 2, .bool false], .tup [kv (.bool true), .bool true, .int 3]]
inductive FdAt (ν : Nu) : V → Prop
  | mk (k v : V) (uk : UK ν k) (w : W1 v) : FdAt ν (.tup [kv (tag ν k), k, v])
theorem fd_get {ν : Nu} {n : Nat} {x : V} (h : fdL[n]? = some x) : FdAt ν x := by
  match n, h with
  | 0, h => cases h; exact .mk (.int 1) (.int 5) ⟨.int 1, .int 1 (by decide) (by decide)⟩ (.int 5)
  | 1, h => cases h; exact .mk (.bytes [97].toArray) (.bytes [120].toArray) ⟨.bytes _ (by decide), .bytes [97] (by decide)⟩ (.bytes _)
  | 2, h => cases h; exact .mk (.int 2) (.bool false) ⟨.int 2, .int 2 (by decide) (by decide)⟩ (.bool false)
  | 3, h => cases h; exact .mk (.bool true) (.int 3) ⟨.bool true, .bool true⟩ (.int 3)
  | n + 4, h => cases h
section
variable {ν : Nu} {σ σ' : MH} {t ka oa lc sc fd : Addr} {a : Nat → Addr} {T T' : Tb} {P P' : Prs} {xs : List V} {g : G} {ns : List Int} {x2 x5 x6 x7 x8 x9 : Option V} {n : Nat}
inductive FAt (ν : Nu) (ns : List Int) (sc oa t ka fd : Addr) (a : Nat → Addr) (x2 : Option V) (n : Nat) (ls : Ls) (σ : MH) : Prop
  | mk (T : Tb) (P : Prs) (x6 x7 x8 x9 : Option V) (S : LS ν σ t ka T P oa a) (hl : Held σ t T fd fdL) (len : P.length ≤ n) (hs : σ sc = some (.rlist (ns.map V.int))) (e : ls = [some (.ref sc), some (.ref oa), x2, some (.ref t), some (.ref ka), some (.ref fd), x6, x7, x8, x9])
theorem law_script (L : Law g) (hz : ns.length ≤ 63) (S : LS ν σ t ka T P oa a) (len : P.length ≤ 4) (hs : σ sc = some (.rlist (ns.map V.int))) :
    wp c_law_24 ⟨g, 14, noX⟩ (retC fun r σ' => r = .bool true ∧ Lot σ' 466 lamQ) [] [some (.ref sc), some (.ref oa), x2, some (.ref t), some (.ref ka), x5, x6, x7, x8, x9] σ := by
  refine Slc.mk sc _ 14 (.inr hs) (by rw [List.length_map]; lia) fun lc hlc => ?_
  have S1 := S.go (S.di.grow (Grow.new (o := .list ((ns.map V.int).take 14)) hlc))
  have h1 : Held (upd σ lc (.list ((ns.map V.int).take 14))) t T lc ((ns.map V.int).take 14) := Held.new S.di.tr hlc (upd_same ..)
  have hx : ∀ v ∈ (ns.map V.int).take 14, ∃ x, v = V.int x := fun v hv => by
    obtain ⟨x, _, rfl⟩ := List.mem_map.mp (List.mem_of_mem_take hv); exact ⟨x, rfl⟩
  have hl : ((ns.map V.int).take 14).length ≤ 14 := List.length_take_le ..
  show wp (.forl 0 1 (c_law_6) (c_law_23)) _ _ [.ref lc] _ (upd σ lc (.list ((ns.map V.int).take 14)))
  generalize upd σ lc (.list ((ns.map V.int).take 14)) = σ1 at S1 h1
  generalize (ns.map V.int).take 14 = xs at S1 h1 hx hl
  refine It.val _ _ _ (.list lc _ (.inl h1.at_)) (ForL.mk (fun n ls σ' => LAt sc oa t ka lc a xs n ls σ') (.mk ν T P _ _ _ _ _ _ S1 h1 len rfl) (fun n ls σ' h => ?_) (fun n v ls σ' hv h => ?_) fun ls σ' h => ?_)
  · obtain ⟨_, _, _, _, _, _, _, _, _, _, hl, _, _⟩ := h; exact .inl hl.at_
  · obtain ⟨ν1, T1, P1, y2, y5, y6, y7, y8, y9, S2, h2, l2, rfl⟩ := h
    have lt := (List.getElem?_eq_some_iff.mp hv).1
    obtain ⟨x, rfl⟩ := hx v (List.mem_of_getElem? hv)
    exact law_turn L (by lia) S2 h2 l2 fun q_ q_ h => h
  · obtain ⟨ν1, T1, P1, y2, y5, y6, y7, y8, y9, S2, h2, l2, rfl⟩ := h
    exact law_rest L S2 (Nat.le_trans l2 (Nat.le_trans (Nat.add_le_add_right hl 4) (by decide)))
theorem law_go (L : Law g) (hz : ns.length ≤ 63) (hs : σ sc = some (.rlist (ns.map V.int))) (O : Oth ν σ oa a) (K : Knows σ ν) (nd : NoDead ν) (lt : Lot σ 466 lamQ) {f : Int} :
    wp c_law_26 ⟨g, 14, noX⟩ (retC fun r σ' => r = .bool true ∧ Lot σ' 466 lamQ) [] [some (.ref sc), some (.ref oa), some (.int f), none, none, none, none, none, none, none] σ := by
  obtain ⟨a0, a3⟩ := fmod_in f (m := 3) (by decide)
  obtain ⟨b0, b5⟩ := fmod_in (f.fdiv 3) (m := 5) (by decide)
  refine Pv.mod (by decide) (Pv.div (by decide) (by decide) (Pv.mod (by decide) (Pv.table (num := 7) (as := (f.fmod 3).toNat) (hs := ((f.fdiv 3).fmod 5).toNat) L rfl K (by lia) (by lia) (by rw [Int.toNat_of_nonneg a0, Int.toNat_of_nonneg b0]) fun t σ1 T h0 N => ?_)))
  intro ka hka
  have k1 : Grow σ (upd σ1 ka (.dict [])) := fun b o e => Grow.new hka _ _ (N.keep b o e)
  have D : DI ν (upd σ1 ka (.dict [])) t ka T [] := ⟨N.tr.grow (Grow.new hka), N.inv, ⟨(fun p hp => nomatch hp), .nil, fun t ht => (N.look t ht.proper).symm, fun t ht h => h.elim (fun h => absurd h (N.nokey t ht)) fun h => absurd (N.look t ht) h⟩, upd_same .., fun z => (by obtain ⟨o, e⟩ := N.tr.footD z; rw [hka] at e; cases e), K.grow k1, nd, K.none h0, lt.grow k1⟩
  have S : LS ν (upd σ1 ka (.dict [])) t ka T [] oa a := ⟨D, ⟨k1 _ _ O.at_, O.r⟩, fun z => by have := N.fresh oa z; rw [O.at_] at this; cases this⟩
  have hs1 := k1 _ _ hs
  show wp (.tup 2 <| .unp true [4, 3] <| _) _ _ [.ref ka, .ref t] _ (upd σ1 ka (.dict []))
  clear D k1 hka N
  generalize upd σ1 ka (.dict []) = σ2 at S hs1
  intro fd hfd
  have S1 := S.go (S.di.grow (Grow.new (o := .list fdL) hfd))
  have h1 : Held (upd σ2 fd (.list fdL)) t T fd fdL := Held.new S.di.tr hfd (upd_same ..)
  have hs2 := Grow.new (o := .list fdL) hfd _ _ hs1
  show wp (.st 5 <| .ld 5 <| .forl 0 1 (c_law_2) (c_law_24)) _ _ [.ref fd] _ (upd σ2 fd (.list fdL))
  generalize upd σ2 fd (.list fdL) = σ3 at S1 h1 hs2
  refine It.val _ _ _ (.list fd _ (.inl h1.at_)) (ForL.mk (fun n ls σ' => FAt ν ns sc oa t ka fd a (some (.int f)) n ls σ' ∧ n ≤ 4) ⟨.mk T [] _ _ _ _ S1 h1 (Nat.le_refl _) hs2 rfl, Nat.zero_le _⟩ (fun n ls σ' h => ?_) (fun n v ls σ' hv h => ?_) fun ls σ' h => ?_)
  · obtain ⟨⟨_, _, _, _, _, _, _, hl, _, _, _⟩, _⟩ := h; exact .inl hl.at_
  · obtain ⟨⟨T1, P1, y6, y7, y8, y9, S2, h2, l2, hs3, rfl⟩, _⟩ := h
    have lt : n < 4 := (List.getElem?_eq_some_iff.mp hv).1
    have D := S2.di
    have hz1 : P1.length ≤ 2 ^ 10 := by lia
    obtain ⟨k, v, uk, w⟩ := fd_get (ν := ν) hv
    refine Meth.tab D.tr rfl (Pv.fn L (set_ok D.kn D.out D.tr D.inv uk.any uk.lt.proper w.plain (D.fit hz1)) rfl ?_)
    rintro _ σ4 ⟨rfl, T2, q, _⟩
    obtain ⟨e, X⟩ := D.put q (D.kr.set q.ins uk.lt w)
    exact Pu.dict e uk.lt.k (Nat.le_trans hz1 (by decide)) ⟨.mk T2 _ _ _ _ _ (S2.go X) (X.held D h2) (Nat.le_trans (dset_len ..) (Nat.succ_le_succ l2)) (X.rl D hs3) rfl, lt⟩
  · obtain ⟨⟨T1, P1, y6, y7, y8, y9, S2, h2, l2, hs3, rfl⟩, l4⟩ := h
    exact law_script L hz S2 (Nat.le_trans l2 l4) hs3
theorem law_ok (hs : σ sc = some (.rlist (ns.map V.int))) (hz : ns.length ≤ 63) (lt : Lot σ 466 lamQ) : Fn 15 476 [.ref sc] (fun r σ' => r = .bool true ∧ Lot σ' 466 lamQ) σ := by
  refine Fn.goC (ps := ["script"]) (rest := ["others", "first", "t", "kept", "first_deeds", "tag", "key", "value", "n"]) (code := c_law) (fun q_ => by kernel_rfl) (fun q_ => args1 fun q_ => by kernel_rfl) (fun q_ => by kernel_rfl) rfl fun g L => ?_
  refine law_others L fun oa σ0 ν a O K nd k0 => ?_
  have hs0 := k0 _ _ hs
  have lt0 := lt.grow k0
  refine Pv.len (.inr hs0) (by rw [List.length_map]; lia) (brk2.dec (fun h => ?_) fun q_ => law_go L hz hs0 O K nd lt0)
  cases ns with
  | nil => exact absurd h (by decide)
  | cons x ns => exact Pg.lst (.inr hs0) (by decide) (by decide) rfl (law_go L hz hs0 O K nd lt0)
end
theorem ints_rel {h : Heap} {vs : List Value} {ns : List Int} (x : IntsAre vs ns) : VsRel h (ns.map V.int) vs := by
  induction x with
  | nil => exact .nil
  | cons n t _ ih => exact .cons (.int n t) ih
noncomputable def start (l : Addr) (ns : List Int) : MH := fun b => if b = l then some (O.rlist (ns.map V.int)) else if b = 466 then some (.lot #[]) else none
inductive StartAt (l : Addr) (ns : List Int) (b : Addr) (o : O) : Prop
  | list (h : b = l) (e : o = .rlist (ns.map V.int))
  | lot (h : b = 466) (e : o = .lot #[])
theorem start_at {l ns b o} (h : start l ns b = some o) : StartAt l ns b o := by
  unfold start at h
  split at h
  · cases h; exact .list ‹_› rfl
  · split at h
    · cases h; exact .lot ‹_› rfl
    · cases h
theorem finish {prog p : Program} {loose : List Str} {w : World} {s₁ : Shared} {mg mb : Str → Option Value} {c : ClaimW} {cl : Str → Option Addr} {mean mean' : ExcName → Option Value} {args : List WData} {fa l : Addr} {vs : List Value} {ns : List Int}
    (KX : (hd.heap_1 w.params).In s₁.heap) (T : Top p loose mean' mg mb s₁.heap) (hT : TabsAt [(470, 466)] s₁.heap) (hmg : mg "law" = some (.ref fa)) (hg : s₁.gens = #[]) (hL : s₁.heap.IsList l vs.toArray) (hI : IntsAre vs ns) (hz : ns.length ≤ 63)
    (hr : ∀ args cls, c.raises args cls = false) (hp : c.post args (.bool true) args = true) : codeAny (model prog w) callerA (.call (.ref fa) ⟨[.ref l], []⟩) (GoodWG c cl mean args s₁) s₁ := by
  have hf : mg "law" = some (.ref 476) := mg_of KX T.g (show nsIn (hd.heap_1 w.params) mainGlobals "law" = _ by kernel_rfl)
  have e : fa = 476 := by rw [hmg] at hf; cases hf; rfl
  subst e
  refine kn_post hT hr ?_
  have T' := ghost_top hT T
  let g : G := ⟨prog, w, hd.heap_1 w.params, ghostOf s₁.heap [(470, 466)], _, _, mg, mb, s₁.os, 38, ghost_K hT KX (by kernel_rfl), topRead_of T', T'.bmain⟩
  have h466 : s₁.heap.get? 466 = some (tabObj #[]) := (hT _ (.head _)).2
  have nl : 466 ≠ l := fun z => by
    obtain ⟨o, ho, hc, _⟩ := hL
    rw [← z, h466] at ho; cases ho; cases hc
  have S : CS g [] (start l ns) (fun q_ => none) s₁ := by
    refine ⟨⟨fun b o e => of_hideAll _ e, fun a o h => ?_, fun b q => ?_, fun d a h => nomatch h⟩, ⟨fun e h => nomatch h⟩, hg, rfl⟩
    · rcases start_at h with ⟨rfl, rfl⟩ | ⟨rfl, rfl⟩
      · obtain ⟨o, ho, hc, n, hd⟩ := hL
        exact ⟨o, _, n, ho, hc, hd, ints_rel hI⟩
      · exact h466
    · have no : ∀ {x : O}, start l ns b = some x → (∀ y, x ≠ .rlist y) → (ghostOf s₁.heap [(470, 466)]).get? b = none := fun h n => by
        rcases start_at h with ⟨_, e⟩ | ⟨rfl, _⟩
        · exact absurd e (n _)
        · exact hideAll_none _ (.head _)
      cases q with
      | inst C fs q => exact no q fun q_ z => nomatch z
      | list l q => exact no q fun q_ z => nomatch z
      | map P q => exact no q fun q_ z => nomatch z
      | lot ps q => exact no q fun q_ z => nomatch z
      | dict a q => cases q
  have lt : ∀ fn x, theTabs.lt.lookup fn = some x → CodeHd g.base x.1 x.2.1 := fun fn x e => by
    have e : (match fn == (471 : Addr) with | true => some ((470 : Addr), (466 : Addr), lamQ) | false => List.lookup fn []) = some x := e
    cases h : fn == (471 : Addr) <;> rw [h] at e <;> cases e
    exact (ghost_code hT).1
  have hl : start l ns l = some (.rlist (ns.map V.int)) := if_pos rfl
  have hq : start l ns 466 = some (.lot #[]) := (if_neg nl).trans (if_pos rfl)
  refine codeAny_mono (law_ok hl hz ⟨#[], hq, trivial, fun pos => .no⟩ g ⟨rfl, rfl, lt⟩ callerA [] s₁ (fun q_ => none) [.ref l] ⟨rfl, rfl, by decide, by decide⟩ S (.cons (.ref l) .nil)) fun r s' q => ?_
  cases r with
  | error e => exact Flies.no q
  | ok f =>
    cases f with
    | ret rv =>
      obtain ⟨v, σ', δ', hv, C, E, rfl, lot⟩ := q
      rw [hv.bool_inv]
      refine ⟨⟨.inl ⟨_, .bool true, [], rfl, hr args, .bool true, hp, fun q_ => ⟨List.nodup_nil, fun a h => nomatch h⟩⟩, fun b o h => C.sim.keep b o h, C.os, C.gens⟩, ?_, trivial⟩
      obtain ⟨ps, e⟩ := lot.at_
      exact ⟨ps, C.sim.rep _ _ e⟩
    | _ => exact q.elim
end Mn
theorem PySem.Challenge.cw_nt0644_01_holds : PySem.Challenge.rw_nt0644_01.Holds := by
  refine hd ?_
  w_strict (
    k_fill
    intro w s₀ s₁ mg mb G Y fa o pm cd doc dV kV ho hd hcd hD hmg hg args vals as hpre hlay hrd hwl hlo
    have KX := km_in_of Y
    refine Ground.open G ?_
    intro T B D TE TW
    clear hd hcd hD ho Y D B TE TW G
    wrow_args hpre hlay hrd hwl hlo
    first | refine callC_kw (enter_call ?_) | refine enter_call ?_)
  have hT : TabsAt [(470, 466)] s₁.heap := List.forall_mem_cons.mpr ⟨tab_of (x := PySem.Str.ofString "_law_deed") (c := 470) (P := 466) T KX rfl (by kernel_rfl), fun q_ h => nomatch h⟩
  refine Mn.finish KX T hT hmg hg (by assumption) (by assumption) (by omega) ?_ ?_
  · exact fun q_ q_ => rfl
  · wrow_post
