import PyProof.Rows.All
import Wide.All
import OpenK.AllK
import Wide.FinOn
import Lean
import PySem.Challenge.RW_pq0692_01
open PySem PySem.W PyProof.Rows
set_option Elab.async false
set_option maxRecDepth 100000
set_option maxHeartbeats 8000000
set_option linter.unusedVariables false
set_option maxHeartbeats 1000000
set_option tactic.hygienic false
set_option genInjectivity false
set_option genSizeOf false
set_option compiler.extract_closed false
set_option bootstrap.genMatcherCode false
namespace Mine.Internal

/- MHead1 -/

noncomputable def keepSt : List PySem.Stmt → List PySem.Stmt
  | a :: _ :: b :: c :: _ :: d :: e :: f :: g :: h :: _ :: i :: j :: k :: l :: m :: n :: o :: p :: _ :: q :: _ :: r => a :: b :: c :: d :: e :: f :: g :: h :: i :: j :: k :: l :: m :: n :: o :: p :: q :: r
  | r => r
noncomputable def viewS : { q : Program // q = { PySem.Challenge.pw_pq0692_01 with main := { PySem.Challenge.pw_pq0692_01.main with body := keepSt PySem.Challenge.pw_pq0692_01.main.body } } } := by
  refine ⟨?q, ?h⟩
  rotate_left
  · dsimp only [PySem.Challenge.pw_pq0692_01, keepSt]
    exact rfl
noncomputable def view : Program := viewS.1
noncomputable def loo : List PySem.Str := [PySem.Str.ofString "RowsError", PySem.Str.ofString "SHAPES", PySem.Str.ofString "Code"]
noncomputable abbrev pw : Program := PySem.Challenge.pw_pq0692_01
noncomputable def xt : Shared → Bool := fun s => xlAt view [] s && recOk (RowW.records PySem.Challenge.rw_pq0692_01.row.toRowW) s
noncomputable def st0 (w : World) (os : OsState) : Shared := ⟨boot_heap w.params, Array.mk [], boot_drawn, boot_toks, os⟩
theorem left_of {α : Type} {Yf : Shared → α} {Ya : World → α} (hf : ∀ (w : World) (os : OsState), (topFrom treeTable pw (w.withFollow "special-get-raises" false) 4992 (st0 w os)).map (fun s => (openSeen view loo (importedModules pw.main.body) xt true s, Yf s)) = some (openGood view loo, Ya (w.withFollow "special-get-raises" false)))
    (ht : ∀ (w : World) (os : OsState), (topFrom treeTable pw (w.withFollow "special-get-raises" true) 4992 (st0 w os)).map (fun s => (openSeen view loo (importedModules pw.main.body) xt true s, Yf s)) = some (openGood view loo, Ya (w.withFollow "special-get-raises" true))) : LeftO pw view loo xt Yf Ya 4992 := fun w => by
  have key : ∀ w : World, ∀ os, (topFrom treeTable pw w 4992 (st0 w os)).map (fun s => (openSeen view loo (importedModules pw.main.body) xt true s, Yf s)) = some (openGood view loo, Ya w) :=
    byRow2 "special-get-raises" (P := fun w => ∀ os, (topFrom treeTable pw w 4992 (st0 w os)).map (fun s => (openSeen view loo (importedModules pw.main.body) xt true s, Yf s)) = some (openGood view loo, Ya w)) hf ht
  obtain ⟨⟨h, gs, d, k, os⟩, e, e'⟩ := Option.map_eq_some_iff.mp (boot_open (p := pw) (N := 4992) (by kernel_rfl) rfl (fun s => by kernel_rfl) w)
  cases e'
  show Option.map _ (openEnds treeTable pw w 4992) = _
  unfold openEnds
  rw [e]
  exact key w os

/- MHd -/

section
local macro_rules | `(tactic| o_head $H) => `(tactic| (refine (?f : Hook → OpenRow.Holds PySem.Challenge.rw_pq0692_01.row) $H; assumption))
/- the written objects, laid by the library's own head -/
theorem step1 (f : Hook → OpenRow.Holds PySem.Challenge.rw_pq0692_01.row) : True := by
  have h : OpenRow.Holds PySem.Challenge.rw_pq0692_01.row := by k_head
  trivial
end
noncomputable abbrev KK : Params → Frag := step1.heap_1
noncomputable def asK : { l : List Addr // ∀ P, l = (KK P).map (·.1) } := by
  refine ⟨?l, ?h⟩
  rotate_left
  · intro P
    dsimp only [KK, step1.heap_1, List.map]
    exact rfl
noncomputable def hookK : Hook := kmHook KK asK.1 asK.2 [151, 120]
theorem said_ok : OpenLaw.wellSaid PySem.Challenge.rw_pq0692_01 = true := by kernel_rfl

/- MHe -/

/- the top's run over a heap kept as a tree, by the library's own quick twins -/
noncomputable def runQ (p : Program) (w : World) (n₀ : Nat) (ann : Option Value) (n : Nat) : SharedT → Thread → Option SharedT :=
  Nat.rec (motive := fun _ => SharedT → Thread → Option SharedT) (fun _ _ => none) (fun _ f s t => cond (through t) (some s) (cond (Fast.tw6613529449190102663 n₀ ann t) ((Fast.tw10156331382660048174 (Fast.tw11892475500146522536 Fast.tw14364793385576792824) p w s t).bind fun r => f r.1 r.2) none)) n
theorem runQ_of {p : Program} {w : World} {n₀ : Nat} {ann : Option Value} {s' : SharedT} (n : Nat) : ∀ (s : SharedT) (t : Thread), runQ p w n₀ ann n s t = some s' → topRun treeTable p w n₀ ann n s.abs t = some s'.abs := by
  induction n with
  | zero => exact fun _ _ h => nomatch h
  | succ n ih =>
    intro s t h
    replace h : cond (through t) (some s) (cond (Fast.tw6613529449190102663 n₀ ann t) ((Fast.tw10156331382660048174 (Fast.tw11892475500146522536 Fast.tw14364793385576792824) p w s t).bind fun r => runQ p w n₀ ann n r.1 r.2) none) = some s' := h
    rw [← Fast.te6613529449190102663, ← Fast.te10156331382660048174, ← Fast.te11892475500146522536, ← Fast.te14364793385576792824] at h
    unfold topRun
    cases he : through t with
    | true => rw [he] at h; cases h; rfl
    | false =>
      rw [he] at h
      cases hk : stepOk n₀ ann t with
      | false => rw [hk] at h; cases h
      | true =>
        rw [hk] at h
        cases hs : stepT (denote treeTable) p w s t with
        | none => rw [hs] at h; cases h
        | some r => rw [hs] at h; rw [stepT_spec hs]; exact ih _ _ h
noncomputable def bootT (P : Params) : BT := ((boot_heap P).objs.toList.foldl (fun (x : BT × Nat) o => (x.1.ins x.2 o, x.2.succ)) (.nil, 0)).1
noncomputable def sT (w : World) (os : OsState) : SharedT := ⟨bootT w.params, (boot_heap w.params).objs.size, (boot_heap w.params).life, Array.mk [], boot_drawn, boot_toks, os⟩
theorem sT_ok (w : World) (os : OsState) : (sT w os).abs = st0 w os := by kernel_rfl
theorem side_of {α : Type} {Yf : Shared → α} {y : α} {w : World} {os : OsState} (h : (runQ pw w (st0 w os).heap.objs.size ((st0 w os).heap.nsMap mainGlobals "__annotations__") 4992 (sT w os) (topStub pw)).map (fun s => (staticsOk (importedModules pw.main.body) (st0 w os).heap s.abs.heap && namesBound pw s.abs.heap && gensDone s.abs && laidKept (st0 w os).heap s.abs.heap, Fast.tw4187177175401517315 view loo (importedModules pw.main.body) xt true s.abs, Yf s.abs)) = some (true, openGood view loo, y)) :
    (topFrom treeTable pw w 4992 (st0 w os)).map (fun s => (openSeen view loo (importedModules pw.main.body) xt true s, Yf s)) = some (openGood view loo, y) := by
  obtain ⟨s, e, e'⟩ := Option.map_eq_some_iff.mp h
  rw [← Fast.te4187177175401517315] at e'
  have r := runQ_of _ _ _ e
  rw [sT_ok] at r
  unfold topFrom
  rw [show ((st0 w os).heap.isNs mainGlobals && (st0 w os).gens.size == 0) = true by kernel_rfl]
  dsimp only
  rw [r]
  dsimp only [Option.bind]
  rw [(Prod.mk.inj e').1]
  exact congrArg some (Prod.mk.inj e').2
theorem left_f (w : World) (os : OsState) : (topFrom treeTable pw (w.withFollow "special-get-raises" false) 4992 (st0 w os)).map (fun s => (openSeen view loo (importedModules pw.main.body) xt true s, hookK.obs s)) = some (openGood view loo, hookK.val (w.withFollow "special-get-raises" false)) :=
  side_of (w := w.withFollow "special-get-raises" false) (by kernel_rfl)
theorem left_t (w : World) (os : OsState) : (topFrom treeTable pw (w.withFollow "special-get-raises" true) 4992 (st0 w os)).map (fun s => (openSeen view loo (importedModules pw.main.body) xt true s, hookK.obs s)) = some (openGood view loo, hookK.val (w.withFollow "special-get-raises" true)) :=
  side_of (w := w.withFollow "special-get-raises" true) (by kernel_rfl)
theorem left_ok : LeftO pw view loo xt hookK.obs hookK.val 4992 := left_of left_f left_t

/- MBase -/


/- abstract values -/
set_option genInjectivity true in
inductive PV where
  | none
  | bool (b : Bool)
  | int (i : Int)
  | str (c : Nat)
  | tup (l : List PV)
  | lst (l : List PV)
  | inst (c : Addr) (ks : List Nat) (l : List PV)
  | val (v : Value)
  | obj (n : Nat)
  | lam (k : Nat) (cap : List PV)

inductive AO where
  | lst (l : List PV)
  | inst (c : Addr) (ks : List Nat) (l : List PV)

structure Rho where
  objs : List (Addr × Addr)
  frs : List Addr

noncomputable def ofoot (ρ : Rho) : List Addr := ρ.objs.map (·.1) ++ ρ.objs.map (·.2)
noncomputable def tabA : List Addr := [151, 120]

noncomputable def Safe (ρ : Rho) (b : Addr) : Prop := b ∉ ofoot ρ ∧ b ∉ ρ.frs ∧ b ∉ tabA

/- texts, by their number -/
noncomputable def sTab : List Str := (["const", "move", "global", "setglobal", "static", "capture", "call", "splat", "kwcall", "closure", "box", "unbox", "setbox", "clear", "goto", "unless", "return", "enter", "leave", "caught", "rethrow", "defined", "method", "invoke", "guard",
  "dx", "ds", "xs", "dsm", "dsmx", "dsxmm", "dxm", "d", "dsx", "ss", "g", "sg", "s", "x", "", "sx", "xsx", "xg", "m", "T.1", "tuple", "y", "z", "f"] : List String).map Str.ofString
noncomputable def strCode (s : Str) : Option Nat := sTab.findIdx? (· == s)
/- names of fields, by their number -/
noncomputable def fTab : List Str := (["name", "arity", "slots", "rows", "static", "captures", "marks", "code", "methods", "places", "number", "table", "sig", "names", "has_rest", "tree", "world_from", "world_to"] : List String).map Str.ofString
noncomputable def fldCode (s : Str) : Option Nat := fTab.findIdx? (· == s)

noncomputable def nsOf : List Nat → List Value → Str → Option Value
  | k :: ks, v :: vs, x => if fTab[k]? = some x then some v else nsOf ks vs x
  | _, _, _ => Option.none

noncomputable def filled (o : Obj) : Prop := ∃ v, o.data = .cell (some v)

/- the lambdas -/
structure LamT where
  tab : Addr
  hd : Addr
  qual : Str
  params : Arguments
  body : Expr
  scope : Scope
  caps : List Str
  pos : Pos

mutual
inductive VDen (Λ : List LamT) (ρ : Rho) (h : Heap) : PV → Value → Prop
  | none : VDen Λ ρ h .none .none
  | bool (b) : VDen Λ ρ h (.bool b) (.bool b)
  | int (i t) : VDen Λ ρ h (.int i) (.int i t)
  | str (c s t) : sTab[c]? = some s → VDen Λ ρ h (.str c) (.str s t)
  | val (v) : VDen Λ ρ h (.val v) v
  | tup {l a vs} : Safe ρ a → h.IsTuple a vs.toArray → VDens Λ ρ h l vs → VDen Λ ρ h (.tup l) (.ref a)
  | lst {l a vs} : Safe ρ a → h.IsList a vs.toArray → VDens Λ ρ h l vs → VDen Λ ρ h (.lst l) (.ref a)
  | inst {C ks l x dx vs} : Safe ρ x → Safe ρ dx → h.get? x = some (instObj C dx) → h.Ns dx (nsOf ks vs) → VDens Λ ρ h l vs → VDen Λ ρ h (.inst C ks l) (.ref x)
  | obj {n a d} : ρ.objs[n]? = some (a, d) → VDen Λ ρ h (.obj n) (.ref a)
  | lam {k L cap f c' oc ctv pm cs vs} : Λ[k]? = some L → Safe ρ f → Safe ρ c' → h.get? c' = some oc → (∃ fs t, oc.data = .fields fs ∧ fs[1]? = some (.str L.qual t)) →
      h.get? f = some (kla_obj "<lambda>" L.qual L.params L.body L.scope (L.caps.zip cs) pm c' ctv) →
      cs.length = L.caps.length → vs.length = cs.length →
      (∀ (i : Nat) (c : Addr) (v : Value), cs[i]? = some c → vs[i]? = some v → c ∉ ofoot ρ ∧ c ∉ tabA ∧ ∃ o, h.get? c = some o ∧ o.data = .cell (some v)) →
      VDens Λ ρ h cap vs → VDen Λ ρ h (.lam k cap) (.ref f)
inductive VDens (Λ : List LamT) (ρ : Rho) (h : Heap) : List PV → List Value → Prop
  | nil : VDens Λ ρ h [] []
  | cons {p v ps vs} : VDen Λ ρ h p v → VDens Λ ρ h ps vs → VDens Λ ρ h (p :: ps) (v :: vs)
end

/- what is kept of a heap by things that may turn the objects of ρ, the tables, and (in X) the frame's own -/
noncomputable def Kept (ρ : Rho) (X : List Addr) (h h' : Heap) : Prop :=
  ∀ b o, h.get? b = some o → b ∉ ofoot ρ → b ∉ tabA → (b ∈ X → filled o) → h'.get? b = some o

theorem mem_of_lookup' {α β : Type} [BEq α] [LawfulBEq α] {l : List (α × β)} {c : α} {d : β} (e : l.lookup c = some d) : (c, d) ∈ l := by
  obtain ⟨a, b, rfl, _⟩ := List.lookup_eq_some_iff.mp e
  exact List.mem_append_right _ (.head _)

/- what a value is, by the kind of its abstract value -/
noncomputable def VInv (Λ : List LamT) (ρ : Rho) (h : Heap) (p : PV) (v : Value) : Prop := @PV.casesOn (fun p => Prop) p (v = .none) (fun b => v = .bool b) (fun i => ∃ t, v = .int i t) (fun c => ∃ s t, v = .str s t ∧ sTab[c]? = some s)
  (fun l => ∃ a vs, v = .ref a ∧ Safe ρ a ∧ h.IsTuple a vs.toArray ∧ VDens Λ ρ h l vs) (fun l => ∃ a vs, v = .ref a ∧ Safe ρ a ∧ h.IsList a vs.toArray ∧ VDens Λ ρ h l vs)
  (fun C ks l => ∃ x dx vs, v = .ref x ∧ Safe ρ x ∧ Safe ρ dx ∧ h.get? x = some (instObj C dx) ∧ h.Ns dx (nsOf ks vs) ∧ VDens Λ ρ h l vs) (fun x => v = x) (fun n => ∃ a d, v = .ref a ∧ ρ.objs[n]? = some (a, d))
  (fun k cap => ∃ L f c' oc ctv pm cs vs, v = .ref f ∧ Λ[k]? = some L ∧ Safe ρ f ∧ Safe ρ c' ∧ h.get? c' = some oc ∧ (∃ fs t, oc.data = .fields fs ∧ fs[1]? = some (.str L.qual t)) ∧
      h.get? f = some (kla_obj "<lambda>" L.qual L.params L.body L.scope (L.caps.zip cs) pm c' ctv) ∧ cs.length = L.caps.length ∧ vs.length = cs.length ∧
      (∀ (i : Nat) (c : Addr) (v : Value), cs[i]? = some c → vs[i]? = some v → c ∉ ofoot ρ ∧ c ∉ tabA ∧ ∃ o, h.get? c = some o ∧ o.data = .cell (some v)) ∧ VDens Λ ρ h cap vs)
theorem VDen.inv {Λ : List LamT} {ρ : Rho} {h : Heap} {p : PV} {v : Value} (d : VDen Λ ρ h p v) : VInv Λ ρ h p v :=
  @VDen.casesOn Λ ρ h (fun p v _ => VInv Λ ρ h p v) p v d rfl (fun b => rfl) (fun i t => ⟨t, rfl⟩) (fun c s t e => ⟨s, t, rfl, e⟩) (fun v => rfl) (fun a b c => ⟨_, _, rfl, a, b, c⟩) (fun a b c => ⟨_, _, rfl, a, b, c⟩)
    (fun a b c d e => ⟨_, _, _, rfl, a, b, c, d, e⟩) (fun e => ⟨_, _, rfl, e⟩) (fun a b c d e f g i j k => ⟨_, _, _, _, _, _, _, _, rfl, a, b, c, d, e, f, g, i, j, k⟩)
theorem VDens.nil_inv {Λ : List LamT} {ρ : Rho} {h : Heap} {v : List Value} (d : VDens Λ ρ h [] v) : v = [] := by cases d; rfl
theorem VDens.cons_inv {Λ : List LamT} {ρ : Rho} {h : Heap} {p : PV} {ps : List PV} {v : List Value} (d : VDens Λ ρ h (p :: ps) v) : ∃ x xs, v = x :: xs ∧ VDen Λ ρ h p x ∧ VDens Λ ρ h ps xs := by
  cases d with | cons a b => exact ⟨_, _, rfl, a, b⟩
theorem VDens.head {Λ : List LamT} {ρ : Rho} {h : Heap} {p : PV} {v : Value} {ps : List PV} {vs : List Value} (d : VDens Λ ρ h (p :: ps) (v :: vs)) : VDen Λ ρ h p v :=
  Exists.elim d.cons_inv fun x q => Exists.elim q fun xs q => (List.cons.inj q.1).1 ▸ q.2.1
theorem VDens.ind {Λ : List LamT} {ρ : Rho} {h : Heap} {P : List PV → List Value → Prop} (hn : P [] []) (hc : ∀ p v ps vs, VDen Λ ρ h p v → VDens Λ ρ h ps vs → P ps vs → P (p :: ps) (v :: vs)) {l : List PV} : ∀ {vs : List Value}, VDens Λ ρ h l vs → P l vs := by
  induction l with
  | nil => intro vs d; rw [d.nil_inv]; exact hn
  | cons p ps ih => intro vs d; obtain ⟨x, xs, rfl, a, b⟩ := d.cons_inv; exact hc _ _ _ _ a b (ih b)

theorem VDens.mono {Λ : List LamT} {ρ ρ' : Rho} {h h' : Heap} (hs : ∀ b o, h.get? b = some o → Safe ρ b → Safe ρ' b ∧ h'.get? b = some o)
    (hc : ∀ b o, h.get? b = some o → b ∉ ofoot ρ → b ∉ tabA → filled o → b ∉ ofoot ρ' ∧ h'.get? b = some o)
    (ho : ∀ (n : Nat) (p : Addr × Addr), ρ.objs[n]? = some p → ρ'.objs[n]? = some p) {p : List PV} {v : List Value} (d : VDens Λ ρ h p v) : VDens Λ ρ' h' p v :=
  VDens.rec (motive_1 := fun p v _ => VDen Λ ρ' h' p v) (motive_2 := fun p v _ => VDens Λ ρ' h' p v) .none .bool .int .str .val
    (fun sa ht _ d => .tup (Exists.elim ht fun o e => (hs _ o e.1 sa).1) (Exists.elim ht fun o e => ⟨o, (hs _ o e.1 sa).2, e.2⟩) d)
    (fun sa ht _ d => .lst (Exists.elim ht fun o e => (hs _ o e.1 sa).1) (Exists.elim ht fun o e => ⟨o, (hs _ o e.1 sa).2, e.2⟩) d)
    (fun sx sd ex hn _ d => .inst (hs _ _ ex sx).1 (Exists.elim hn fun od q => Exists.elim q fun es q => Exists.elim q fun ep q => (hs _ _ q.1 sd).1) (hs _ _ ex sx).2 (Exists.elim hn fun od q => Exists.elim q fun es q => Exists.elim q fun ep q => ⟨od, es, ep, (hs _ _ q.1 sd).2, q.2⟩) d)
    (fun e => .obj (ho _ _ e))
    (fun e sf sc ec hq ef hl hl2 hcs _ d => .lam e (hs _ _ ef sf).1 (hs _ _ ec sc).1 (hs _ _ ec sc).2 hq (hs _ _ ef sf).2 hl hl2
      (fun i c v e1 e2 => have ⟨q1, q2, o, q3, q4⟩ := hcs i c v e1 e2; ⟨(hc c o q3 q1 q2 ⟨v, q4⟩).1, q2, o, (hc c o q3 q1 q2 ⟨v, q4⟩).2, q4⟩) d)
    .nil (fun _ _ a b => .cons a b) d
theorem VDen.mono {Λ : List LamT} {ρ ρ' : Rho} {h h' : Heap} (hs : ∀ b o, h.get? b = some o → Safe ρ b → Safe ρ' b ∧ h'.get? b = some o)
    (hc : ∀ b o, h.get? b = some o → b ∉ ofoot ρ → b ∉ tabA → filled o → b ∉ ofoot ρ' ∧ h'.get? b = some o)
    (ho : ∀ (n : Nat) (p : Addr × Addr), ρ.objs[n]? = some p → ρ'.objs[n]? = some p) {p : PV} {v : Value} (d : VDen Λ ρ h p v) : VDen Λ ρ' h' p v :=
  (VDens.mono hs hc ho (.cons d .nil)).head

theorem VDens.len {Λ : List LamT} {ρ : Rho} {h : Heap} {p : List PV} {v : List Value} (d : VDens Λ ρ h p v) : v.length = p.length :=
  d.ind (P := fun p v => v.length = p.length) rfl fun p v ps vs _ _ e => congrArg (· + 1) e

theorem VDens.get {Λ : List LamT} {ρ : Rho} {h : Heap} {p : List PV} {v : List Value} (d : VDens Λ ρ h p v) : ∀ {i : Nat} {x : PV}, p[i]? = some x → ∃ y, v[i]? = some y ∧ VDen Λ ρ h x y :=
  d.ind (P := fun p v => ∀ {i : Nat} {x : PV}, p[i]? = some x → ∃ y, v[i]? = some y ∧ VDen Λ ρ h x y) (fun e => by cases e) fun p v ps vs a _ ih i x e => by
    cases i with
    | zero => cases e; exact ⟨_, rfl, a⟩
    | succ i => exact ih (i := i) e

theorem VDens.append {Λ : List LamT} {ρ : Rho} {h : Heap} {p q : List PV} {v w : List Value} (d : VDens Λ ρ h p v) (e : VDens Λ ρ h q w) : VDens Λ ρ h (p ++ q) (v ++ w) :=
  d.ind (P := fun p v => VDens Λ ρ h (p ++ q) (v ++ w)) e fun _ _ _ _ a _ b => .cons a b

theorem VDens.set {Λ : List LamT} {ρ : Rho} {h : Heap} {x : PV} {y : Value} (d : VDen Λ ρ h x y) {p : List PV} {v : List Value} (e : VDens Λ ρ h p v) : ∀ (i : Nat), VDens Λ ρ h (p.set i x) (v.set i y) :=
  e.ind (P := fun p v => ∀ (i : Nat), VDens Λ ρ h (p.set i x) (v.set i y)) (fun i => .nil) fun p v ps vs a b ih i => by
    cases i with
    | zero => exact .cons d b
    | succ i => exact .cons a (ih i)

theorem VDens.drop {Λ : List LamT} {ρ : Rho} {h : Heap} {p : List PV} {v : List Value} (d : VDens Λ ρ h p v) : ∀ (i : Nat), VDens Λ ρ h (p.drop i) (v.drop i) :=
  d.ind (P := fun p v => ∀ (i : Nat), VDens Λ ρ h (p.drop i) (v.drop i)) (fun i => by rw [List.drop_nil, List.drop_nil]; exact .nil) fun p v ps vs a b ih i => by
    cases i with
    | zero => exact .cons a b
    | succ i => exact ih i

theorem VDens.take {Λ : List LamT} {ρ : Rho} {h : Heap} {p : List PV} {v : List Value} (d : VDens Λ ρ h p v) : ∀ (i : Nat), VDens Λ ρ h (p.take i) (v.take i) :=
  d.ind (P := fun p v => ∀ (i : Nat), VDens Λ ρ h (p.take i) (v.take i)) (fun i => by rw [List.take_nil, List.take_nil]; exact .nil) fun p v ps vs a b ih i => by
    cases i with
    | zero => exact .nil
    | succ i => exact .cons a (ih i)

/- steps -/
structure Steps (X : List Addr) (ρ : Rho) (s : Shared) (ρ' : Rho) (s' : Shared) : Prop where
  frs : ρ'.frs = ρ.frs
  ext : ∃ τ : List (Nat × Nat), ρ'.objs = ρ.objs ++ τ ∧ ∀ p ∈ τ, s.heap.get? p.1 = none ∧ s.heap.get? p.2 = none
  keep : Kept ρ X s.heap s'.heap
  live : ∀ b o, s.heap.get? b = some o → ∃ o', s'.heap.get? b = some o'
  os : s'.os = s.os
  gens : s'.gens = s.gens

theorem mem_ofoot {ρ : Rho} {b : Addr} : b ∈ ofoot ρ ↔ ∃ p ∈ ρ.objs, b = p.1 ∨ b = p.2 := by
  unfold ofoot
  simp only [List.mem_append, List.mem_map]
  constructor
  · rintro (⟨p, hp, rfl⟩ | ⟨p, hp, rfl⟩)
    · exact ⟨p, hp, .inl rfl⟩
    · exact ⟨p, hp, .inr rfl⟩
  · rintro ⟨p, hp, rfl | rfl⟩
    · exact .inl ⟨p, hp, rfl⟩
    · exact .inr ⟨p, hp, rfl⟩

theorem not_ofoot_ext {ρ ρ' : Rho} {h : Heap} (hx : ∃ τ : List (Nat × Nat), ρ'.objs = ρ.objs ++ τ ∧ ∀ p ∈ τ, h.get? p.1 = none ∧ h.get? p.2 = none) {b : Addr} {o : Obj} (hb : b ∉ ofoot ρ) (hn : h.get? b = some o) : b ∉ ofoot ρ' := by
  obtain ⟨τ, e, hτ⟩ := hx
  intro hm
  obtain ⟨p, hp, hq⟩ := mem_ofoot.mp hm
  rw [e] at hp
  rcases List.mem_append.mp hp with hp | hp
  · exact hb (mem_ofoot.mpr ⟨p, hp, hq⟩)
  · have := hτ p hp
    rcases hq with rfl | rfl
    · rw [this.1] at hn; cases hn
    · rw [this.2] at hn; cases hn

theorem none_back {h h' : Heap} (live : ∀ b o, h.get? b = some o → ∃ o', h'.get? b = some o') {b : Addr} (e : h'.get? b = none) : h.get? b = none := by
  cases q : h.get? b with
  | none => rfl
  | some o => obtain ⟨o', h2⟩ := live b o q; rw [e] at h2; cases h2

theorem Steps.refl (X : List Addr) (ρ : Rho) (s : Shared) : Steps X ρ s ρ s :=
  ⟨rfl, ⟨[], by simp, fun _ h => by cases h⟩, fun _ _ e _ _ _ => e, fun _ o e => ⟨o, e⟩, rfl, rfl⟩

theorem Steps.trans {X : List Addr} {ρ ρ₁ ρ₂ : Rho} {s s₁ s₂ : Shared} (a : Steps X ρ s ρ₁ s₁) (b : Steps X ρ₁ s₁ ρ₂ s₂) : Steps X ρ s ρ₂ s₂ where
  frs := b.frs.trans a.frs
  ext := by
    obtain ⟨τ, e, h⟩ := a.ext
    obtain ⟨τ', e', h'⟩ := b.ext
    refine ⟨τ ++ τ', by rw [e', e, List.append_assoc], fun p hp => ?_⟩
    rcases List.mem_append.mp hp with hp | hp
    · exact h p hp
    · exact ⟨none_back a.live (h' p hp).1, none_back a.live (h' p hp).2⟩
  keep := fun c o e h1 h2 h3 => b.keep c o (a.keep c o e h1 h2 h3) (not_ofoot_ext a.ext h1 e) h2 h3
  live := fun c o e => let ⟨o', e'⟩ := a.live c o e; b.live c o' e'
  os := b.os.trans a.os
  gens := b.gens.trans a.gens

theorem Steps.wider {X : List Addr} {ρ ρ' : Rho} {s s' : Shared} (a : Steps [] ρ s ρ' s') : Steps X ρ s ρ' s' :=
  ⟨a.frs, a.ext, fun c o e h1 h2 _ => a.keep c o e h1 h2 (fun h => by cases h), a.live, a.os, a.gens⟩

theorem Steps.get {X : List Addr} {ρ ρ' : Rho} {s s' : Shared} (a : Steps X ρ s ρ' s') {n : Nat} {p : Addr × Addr} (h : ρ.objs[n]? = some p) : ρ'.objs[n]? = some p := by
  obtain ⟨τ, e, _⟩ := a.ext
  rw [e, List.getElem?_append_left (List.getElem?_eq_some_iff.mp h).1]; exact h

theorem VDens.steps {Λ : List LamT} {X : List Addr} {ρ ρ' : Rho} {s s' : Shared} (a : Steps X ρ s ρ' s') (hX : ∀ b ∈ X, b ∈ ρ.frs) {p : List PV} {v : List Value} (d : VDens Λ ρ s.heap p v) : VDens Λ ρ' s'.heap p v :=
  d.mono (fun b o e sf => ⟨⟨not_ofoot_ext a.ext sf.1 e, by rw [a.frs]; exact sf.2.1, sf.2.2⟩, a.keep b o e sf.1 sf.2.2 fun h => absurd (hX b h) sf.2.1⟩)
    (fun b o e h1 h2 h3 => ⟨not_ofoot_ext a.ext h1 e, a.keep b o e h1 h2 fun _ => h3⟩) fun n p h => a.get h
theorem VDen.steps {Λ : List LamT} {X : List Addr} {ρ ρ' : Rho} {s s' : Shared} (a : Steps X ρ s ρ' s') (hX : ∀ b ∈ X, b ∈ ρ.frs) {p : PV} {v : Value} (d : VDen Λ ρ s.heap p v) : VDen Λ ρ' s'.heap p v :=
  d.mono (fun b o e sf => ⟨⟨not_ofoot_ext a.ext sf.1 e, by rw [a.frs]; exact sf.2.1, sf.2.2⟩, a.keep b o e sf.1 sf.2.2 fun h => absurd (hX b h) sf.2.1⟩)
    (fun b o e h1 h2 h3 => ⟨not_ofoot_ext a.ext h1 e, a.keep b o e h1 h2 fun _ => h3⟩) fun n p h => a.get h
theorem VDen.step0 {Λ : List LamT} {ρ ρ' : Rho} {s s' : Shared} (a : Steps [] ρ s ρ' s') {p : PV} {v : Value} (d : VDen Λ ρ s.heap p v) : VDen Λ ρ' s'.heap p v := d.steps a (fun _ h => by cases h)
theorem VDens.step0 {Λ : List LamT} {ρ ρ' : Rho} {s s' : Shared} (a : Steps [] ρ s ρ' s') {p : List PV} {v : List Value} (d : VDens Λ ρ s.heap p v) : VDens Λ ρ' s'.heap p v := d.steps a (fun _ h => by cases h)

/- the state -/
/- a dict of names, of at most k entries -/
noncomputable def NsB (h : Heap) (d : Addr) (m : Str → Option Value) (k : Nat) : Prop :=
  ∃ o es ep, h.get? d = some o ∧ o.data = .dict es ep ∧ StrKeys es ∧ (∀ name, nsFind es name = m name) ∧ es.size ≤ k
theorem NsB.ns {h : Heap} {d : Addr} {m : Str → Option Value} {k : Nat} (x : NsB h d m k) : h.Ns d m := let ⟨o, es, ep, a, b, c, e, _⟩ := x; ⟨o, es, ep, a, b, c, e⟩
theorem NsB.at' {h h' : Heap} {d : Addr} {m : Str → Option Value} {k : Nat} (x : NsB h d m k) (e : ∀ o, h.get? d = some o → h'.get? d = some o) : NsB h' d m k := let ⟨o, es, ep, a, r⟩ := x; ⟨o, es, ep, e _ a, r⟩
noncomputable def ODen (Λ : List LamT) (ρ : Rho) (h : Heap) (p : Addr × Addr) : AO → Prop
  | .lst l => p.2 = p.1 ∧ ∃ vs, h.PlainList p.1 vs.toArray ∧ VDens Λ ρ h l vs
  | .inst C ks l => p.1 ≠ p.2 ∧ h.get? p.1 = some (instObj C p.2) ∧ ∃ vs, NsB h p.2 (nsOf ks vs) ks.length ∧ VDens Λ ρ h l vs

noncomputable def TabsOk (Λ : List LamT) (ρ : Rho) (h : Heap) : Prop :=
  ∀ P ∈ tabA, ∃ ps, h.get? P = some (tabObj ps) ∧ TriplesOk ps.toList ∧ ∀ L ∈ Λ, L.tab = P → codeAmong L.pos ps.toList = none ∨
    ∃ c' oc, codeAmong L.pos ps.toList = some (.ref c') ∧ Safe ρ c' ∧ h.get? c' = some oc ∧ ∃ fs t, oc.data = .fields fs ∧ fs[1]? = some (.str L.qual t)

structure Sees (g : Heap) (Λ : List LamT) (ρ : Rho) (μ : List AO) (s : Shared) : Prop where
  base : ∀ b o, g.get? b = some o → s.heap.get? b = some o
  apart : ∀ b, b ∈ ofoot ρ ∨ b ∈ ρ.frs ∨ b ∈ tabA → g.get? b = none
  frlt : ∀ b ∈ ρ.frs, ∃ o, s.heap.get? b = some o
  frof : ∀ b ∈ ρ.frs, b ∉ ofoot ρ
  tabof : ∀ b ∈ tabA, b ∉ ofoot ρ ∧ b ∉ ρ.frs
  len : ρ.objs.length = μ.length
  objs : ∀ (n : Nat) (p : Addr × Addr) (o : AO), ρ.objs[n]? = some p → μ[n]? = some o → ODen Λ ρ s.heap p o
  dist : ∀ (n m : Nat) (p q : Addr × Addr), ρ.objs[n]? = some p → ρ.objs[m]? = some q → n ≠ m → p.1 ≠ q.1 ∧ p.1 ≠ q.2 ∧ p.2 ≠ q.2
  tabs : TabsOk Λ ρ s.heap
  gens : s.gens = #[]

theorem ODen.lt {Λ : List LamT} {ρ : Rho} {h : Heap} {p : Addr × Addr} {o : AO} (d : ODen Λ ρ h p o) : (∃ o, h.get? p.1 = some o) ∧ ∃ o, h.get? p.2 = some o := by
  cases o with
  | lst l =>
    obtain ⟨e, vs, ⟨n, ho⟩, _⟩ := d
    exact ⟨⟨_, ho⟩, ⟨_, by rw [e]; exact ho⟩⟩
  | inst C ks l =>
    obtain ⟨_, e, vs, ⟨o, _, _, ho, _⟩, _⟩ := d
    exact ⟨⟨_, e⟩, ⟨o, ho⟩⟩

section
variable {g : Heap} {Λ : List LamT} {ρ : Rho} {μ : List AO} {s : Shared}
theorem Sees.pair (S : Sees g Λ ρ μ s) {n : Nat} {o : AO} (h : μ[n]? = some o) : ∃ p, ρ.objs[n]? = some p ∧ ODen Λ ρ s.heap p o := by
  have hn := (List.getElem?_eq_some_iff.mp h).1
  have : n < ρ.objs.length := by rw [S.len]; exact hn
  exact ⟨ρ.objs[n], by simp [this], S.objs n _ o (by simp [this]) h⟩
theorem Sees.oflt (S : Sees g Λ ρ μ s) : ∀ b ∈ ofoot ρ, ∃ o, s.heap.get? b = some o := fun b hb => by
  obtain ⟨p, hp, hq⟩ := mem_ofoot.mp hb
  obtain ⟨n, hn, rfl⟩ := List.mem_iff_getElem.mp hp
  have hm : n < μ.length := by rw [← S.len]; exact hn
  have := (S.objs n _ _ (List.getElem?_eq_getElem hn) (List.getElem?_eq_getElem hm)).lt
  rcases hq with rfl | rfl
  · exact this.1
  · exact this.2
theorem Sees.tablt (S : Sees g Λ ρ μ s) : ∀ b ∈ tabA, ∃ o, s.heap.get? b = some o := fun b hb => let ⟨_, e, _⟩ := S.tabs b hb; ⟨_, e⟩
theorem Sees.safeNone (S : Sees g Λ ρ μ s) {a : Addr} (ha : s.heap.get? a = none) : Safe ρ a := by
  refine ⟨fun h => ?_, fun h => ?_, fun h => ?_⟩
  · obtain ⟨o, e⟩ := S.oflt a h; rw [ha] at e; cases e
  · obtain ⟨o, e⟩ := S.frlt a h; rw [ha] at e; cases e
  · obtain ⟨o, e⟩ := S.tablt a h; rw [ha] at e; cases e
theorem Sees.safeNew (S : Sees g Λ ρ μ s) {a : Nat} (ha : s.heap.objs.size ≤ a) : Safe ρ a := S.safeNone (Heap.get?_none_of_le ha)

/- a heap in which all objects stand as they stood, and more -/
theorem Sees.grown {s' : Shared} (S : Sees g Λ ρ μ s) (hk : ∀ b o, s.heap.get? b = some o → s'.heap.get? b = some o) (hg : s'.gens = s.gens) : Sees g Λ ρ μ s' where
  base := fun b o e => hk b o (S.base b o e)
  apart := S.apart
  frlt := fun b hb => let ⟨o, e⟩ := S.frlt b hb; ⟨o, hk _ _ e⟩
  frof := S.frof
  tabof := S.tabof
  len := S.len
  objs := fun n p o h1 h2 => by
    have d := S.objs n p o h1 h2
    cases o with
    | lst l =>
      obtain ⟨e, vs, ⟨n, ho⟩, dv⟩ := d
      exact ⟨e, vs, ⟨n, hk _ _ ho⟩, dv.mono (fun b o e sf => ⟨sf, hk _ _ e⟩) (fun b o e h1 _ _ => ⟨h1, hk _ _ e⟩) fun _ _ h => h⟩
    | inst C ks l =>
      obtain ⟨e, e1, vs, hn, dv⟩ := d
      exact ⟨e, hk _ _ e1, vs, hn.at' (hk _), dv.mono (fun b o e sf => ⟨sf, hk _ _ e⟩) (fun b o e h1 _ _ => ⟨h1, hk _ _ e⟩) fun _ _ h => h⟩
  dist := S.dist
  tabs := fun P hP => by
    obtain ⟨ps, e, t, q⟩ := S.tabs P hP
    refine ⟨ps, hk _ _ e, t, fun L hL hp => (q L hL hp).imp id ?_⟩
    rintro ⟨c', oc, e1, e2, e3, e4⟩
    exact ⟨c', oc, e1, e2, hk _ _ e3, e4⟩
  gens := hg.trans S.gens

theorem Steps.grown {X : List Addr} {s' : Shared} (hk : ∀ b o, s.heap.get? b = some o → s'.heap.get? b = some o) (hos : s'.os = s.os) (hg : s'.gens = s.gens) : Steps X ρ s ρ s' :=
  ⟨rfl, ⟨[], by simp, fun _ h => by cases h⟩, fun b o e _ _ _ => hk b o e, fun b o e => ⟨o, hk b o e⟩, hos, hg⟩
end


/- MWp -/


/- the little language -/
mutual
inductive CE where
  | cint (i : Int)
  | cstr (c : Nat)
  | cnone
  | cbool (b : Bool)
  | loc (i : Nat)
  | glo (n : Nat)
  | bin (op : Operator) (a b : CE)
  | neg (a : CE)
  | not (a : CE)
  | cmp (op : CmpOp) (a b : CE)
  | cmp2 (op1 op2 : CmpOp) (a b c : CE)
  | bop (isAnd : Bool) (xs : CEs)
  | ite (t a b : CE)
  | tup (xs : CEs)
  | fl (c : CL)
  | ml (c : CL)
  | attr (e : CE) (f : Nat)
  | sub (e i : CE)
  | sli (e lo hi : CE)
  | call (f : CE) (xs : CEs)
  | meth (o : CE) (m : Nat) (xs : CEs)
  | lam (k : Nat) (caps : List Nat)
inductive CEs where
  | nil
  | cons (e : CE) (es : CEs)
inductive CL where
  | disp (xs : CEs)
  | comp (elt : CE) (cond : CO) (tg : List Nat) (src : CI) (ns : List Str) (fr : List (Nat × Nat))
  | add (a b : CE)
inductive CO where
  | none
  | some (e : CE)
inductive CI where
  | items (e : CE)
  | range1 (b : CE)
  | range2 (a b : CE)
  | enum (e : CE)
  | zip (a b : CE)
end

mutual
inductive CS where
  | expr (e : CE)
  | ret (e : CE)
  | asg (c : Bool) (i : Nat) (e : CE)
  | asg2 (c d : Bool) (i j : Nat) (a b : CE)
  | setA (o : CE) (f : Nat) (e : CE)
  | setI (o i e : CE)
  | ite (t : CE) (a b : CSs)
  | whil (t : CE) (b : CSs)
  | forr (tg : List Nat) (src : CI) (b : CSs)
  | bad
inductive CSs where
  | nil
  | cons (s : CS) (ss : CSs)
end

noncomputable abbrev Lc := List (Option PV)
noncomputable abbrev Post := PV → List AO → Prop

noncomputable def setTg : Lc → List Nat → List PV → Lc
  | l, t :: ts, v :: vs => setTg (l.set t (some v)) ts vs
  | l, _, _ => l

noncomputable def listOf (v : PV) (μ : List AO) : Option (List PV) := match v with
  | .lst l => some l
  | .obj n => match μ[n]? with
    | some (.lst l) => some l
    | _ => Option.none
  | _ => Option.none

/- plain data: what may be compared deeply -/
noncomputable def isData : Nat → PV → Bool
  | _, .none => true
  | _, .int _ => true
  | _, .str c => decide (c < sTab.length)
  | n + 1, .tup l => l.all (isData n)
  | n + 1, .lst l => l.all (isData n)
  | _, _ => false

noncomputable def truthy (v : PV) (μ : List AO) : Option Bool := match v with
  | .none => some false
  | .bool b => some b
  | .int i => some (i != 0)
  | _ => Option.none

noncomputable def two (x y : PV) (P : Int → Int → Prop) : Prop := ∃ i j, x = .int i ∧ y = .int j ∧ P i j
theorem two_i {i j : Int} {P : Int → Int → Prop} (h : P i j) : two (.int i) (.int j) P := ⟨i, j, rfl, rfl, h⟩
noncomputable def binP (op : Operator) (x y : PV) (μ : List AO) (Q : Post) : Prop := match op with
  | .Add => two x y (fun i j => Q (.int (i + j)) μ) ∨ ∃ l m, listOf x μ = some l ∧ listOf y μ = some m ∧ l.length + m.length ≤ 1000000 ∧ Q (.lst (l ++ m)) μ
  | .Sub => two x y fun i j => Q (.int (i - j)) μ
  | .Mult => two x y (fun i j => j.natAbs < 2 ^ 63 ∧ Q (.int (i * j)) μ) ∨ ∃ a j, x = .lst [a] ∧ y = .int j ∧ 0 ≤ j ∧ j ≤ 1000 ∧ Q (.lst (List.replicate j.toNat a)) μ
  | .FloorDiv => two x y fun i j => 0 < j ∧ j < 2 ^ 62 ∧ Q (.int (i.fdiv j)) μ
  | .Mod => two x y fun i j => 0 < j ∧ Q (.int (i.fmod j)) μ
  | .Pow => two x y fun i j => 0 ≤ j ∧ j ≤ 1000 ∧ i.natAbs < 2 ^ 60 ∧ Q (.int (i ^ j.toNat)) μ
  | _ => False


noncomputable def inStr (c d : Nat) : Bool := !(Builtin.Str.occurrences (sTab.getD d Str.empty) (sTab.getD c Str.empty) 0 (sTab.getD d Str.empty).length 1).isEmpty

noncomputable def seqOf (v : PV) : Option (List PV) := match v with
  | .lst l => some l
  | .tup l => some l
  | _ => Option.none

noncomputable def cmpP (op : CmpOp) (x y : PV) (Q : Bool → Prop) : Prop := match op with
  | .Eq => isData 6 x = true ∧ isData 6 y = true ∧ ∀ b : Bool, (b = true ↔ x = y) → Q b
  | .NotEq => isData 6 x = true ∧ isData 6 y = true ∧ ∀ b : Bool, (b = true ↔ x ≠ y) → Q b
  | .Lt => ∃ i j, x = .int i ∧ y = .int j ∧ Q (decide (i < j))
  | .LtE => ∃ i j, x = .int i ∧ y = .int j ∧ Q (decide (i ≤ j))
  | .Gt => ∃ i j, x = .int i ∧ y = .int j ∧ Q (decide (i > j))
  | .GtE => ∃ i j, x = .int i ∧ y = .int j ∧ Q (decide (i ≥ j))
  | .Is => y = .none ∧ (match x with | .none => Q true | .inst .. | .str _ | .int _ | .tup _ | .lst _ => Q false | _ => False)
  | .IsNot => False
  | .In => match x, y with
    | .str c, .str d => c < sTab.length ∧ d < sTab.length ∧ Q (inStr c d)
    | x, y => ∃ l, seqOf y = some l ∧ isData 6 x = true ∧ (∀ z ∈ l, isData 6 z = true) ∧ ∀ b : Bool, (b = true ↔ x ∈ l) → Q b
  | .NotIn => match x, y with
    | .str c, .str d => False
    | x, y => ∃ l, seqOf y = some l ∧ isData 6 x = true ∧ (∀ z ∈ l, isData 6 z = true) ∧ ∀ b : Bool, (b = true ↔ x ∉ l) → Q b

/- names of methods, by their number -/
noncomputable def mTab : List Str := (["append", "extend", "get", "with_rows", "write", "run", "led"] : List String).map Str.ofString

/- names of the module's top and of the builtins, by their number -/
noncomputable def gTab : List (Str × PV) := [
  (Str.ofString "SHAPES", .val (.ref 55)),
  (Str.ofString "Code", .val (.ref 84)),
  (Str.ofString "shape_of", .val (.ref 95)),
  (Str.ofString "goals_of", .val (.ref 100)),
  (Str.ofString "turned_row", .val (.ref 105)),
  (Str.ofString "MOST_BODY", .int 12),
  (Str.ofString "MOST_ROWS", .int 600),
  (Str.ofString "STRAIGHT", .tup [.str 0, .str 1, .str 2, .str 6, .str 8, .str 7, .str 9, .str 23]),
  (Str.ofString "is_straight", .val (.ref 111)),
  (Str.ofString "body_of", .val (.ref 118)),
  (Str.ofString "put_in", .val (.ref 123)),
  (Str.ofString "Inliner", .val (.ref 159)),
  (Str.ofString "inlined", .val (.ref 170)),
  (Str.ofString "Method", .val (.ref 209)),
  (Str.ofString "_law_source", .val (.ref 220)),
  (Str.ofString "_law_digit", .val (.ref 227)),
  (Str.ofString "_law_quiet", .val (.ref 232)),
  (Str.ofString "_law_method", .val (.ref 237)),
  (Str.ofString "_law_main", .val (.ref 242)),
  (Str.ofString "_law_run", .val (.ref 247)),
  (Str.ofString "_law_body", .val (.ref 254)),
  (Str.ofString "_law_is_kept", .val (.ref 259)),
  (Str.ofString "_law_tops", .val (.ref 266)),
  (Str.ofString "_law_registers", .val (.ref 273)),
  (Str.ofString "law", .val (.ref 278)),
  (Str.ofString "len", .val (.builtin "len")),
  (Str.ofString "max", .val (.builtin "max")),
  (Str.ofString "sum", .val (.builtin "sum")),
  (Str.ofString "list", .val (.type "list")),
  (Str.ofString "tuple", .val (.type "tuple")),
  (Str.ofString "int", .val (.type "int")),
  (Str.ofString "range", .val (.type "range")),
  (Str.ofString "zip", .val (.type "zip")),
  (Str.ofString "enumerate", .val (.type "enumerate"))]

noncomputable def charsOf (c : Nat) : Option (List Nat) := ((sTab.getD c Str.empty).cps.toList.mapM fun ch => strCode ⟨#[ch]⟩)

noncomputable def intsOf : List PV → Option (List Int)
  | [] => some []
  | .int i :: r => (intsOf r).map (i :: ·)
  | _ :: _ => Option.none

noncomputable abbrev Phi := Addr → List PV → List AO → Post → Prop

noncomputable def itemsOf (v : PV) (μ : List AO) : Option (List PV) := match v with
  | .tup l => some l
  | v => listOf v μ

/- a field of an object -/
noncomputable def fieldOf : List Nat → List PV → Nat → Option PV
  | k :: ks, v :: vs, f => if k = f then some v else fieldOf ks vs f
  | _, _, _ => Option.none

noncomputable def plainV : PV → Bool
  | .val _ => false
  | _ => true

noncomputable def clsA : List Addr := [84, 159, 209]

noncomputable def attrP (o : PV) (f : Nat) (μ : List AO) (Q : Post) : Prop := f < fTab.length ∧ match o with
  | .inst C ks l => C ∈ clsA ∧ ∃ v, fieldOf ks l f = some v ∧ plainV v = true ∧ Q v μ
  | .obj n => ∃ C ks l v, μ[n]? = some (.inst C ks l) ∧ C ∈ clsA ∧ fieldOf ks l f = some v ∧ plainV v = true ∧ Q v μ
  | _ => False

/- the class's methods: class, number of the name, the def -/
noncomputable def methTab : List ((Addr × Nat) × Addr) := [((84, 3), 81), ((159, 4), 144), ((159, 5), 149), ((159, 6), 156)]

/- the table of shapes: what stands under a word -/
noncomputable def shapesTab : List (Nat × Nat) := [(0, 25), (1, 26), (2, 25), (3, 27), (4, 25), (5, 25), (6, 28), (7, 29), (8, 30), (9, 31), (10, 32), (11, 33), (12, 34), (13, 32), (14, 35), (15, 36), (16, 37), (17, 35), (18, 38), (19, 32), (20, 39), (21, 40), (22, 41), (23, 31), (24, 42)]

noncomputable def classOf (o : PV) (μ : List AO) : Option Addr := match o with
  | .inst C _ _ => some C
  | .obj n => match μ[n]? with
    | some (.inst C _ _) => some C
    | _ => Option.none
  | _ => Option.none

inductive MT where
  | app
  | ext
  | get
  | fn (a : Addr)

noncomputable def isLst (o : PV) (μ : List AO) : Bool := match o with
  | .obj n => match μ[n]? with
    | some (.lst _) => true
    | _ => false
  | _ => false

noncomputable def methOf (o : PV) (m : Nat) (μ : List AO) : Option MT :=
  if m = 0 then (if isLst o μ = true then some .app else Option.none)
  else if m = 1 then (if isLst o μ = true then some .ext else Option.none)
  else if m = 2 then (match o with
    | .val (.ref 55) => some .get
    | _ => Option.none)
  else match classOf o μ with
    | some C => (methTab.lookup (C, m)).map .fn
    | Option.none => Option.none

noncomputable def methP (Φ : Phi) (t : MT) (o : PV) (xs : List PV) (μ : List AO) (Q : Post) : Prop := match t with
  | .app => ∃ n l x, o = .obj n ∧ xs = [x] ∧ μ[n]? = some (.lst l) ∧ l.length ≤ 1000000 ∧ Q .none (μ.set n (.lst (l ++ [x])))
  | .ext => ∃ n l k, o = .obj n ∧ xs = [.lst k] ∧ μ[n]? = some (.lst l) ∧ l.length + k.length ≤ 1000000 ∧ Q .none (μ.set n (.lst (l ++ k)))
  | .get => ∃ c d, xs = [.str c] ∧ shapesTab.lookup c = some d ∧ Q (.str d) μ
  | .fn a => Φ a (o :: xs) μ Q

noncomputable def subP (o i : PV) (μ : List AO) (Q : Post) : Prop := ∃ l k, itemsOf o μ = some l ∧ i = .int k ∧ l.length ≤ 1000000 ∧
  ((0 ≤ k ∧ ∃ v, l[k.toNat]? = some v ∧ Q v μ) ∨ (k < 0 ∧ -(l.length : Int) ≤ k ∧ ∃ v, l[(k + l.length).toNat]? = some v ∧ Q v μ))

/- where a cut begins and ends -/
noncomputable def cutAt (n : Nat) (k : Int) : Nat := if k < 0 then (k + n).toNat else min k.toNat n
noncomputable def partOf (v : PV) : Option (Option Int) := match v with
  | .none => some Option.none
  | .int k => some (some k)
  | _ => Option.none
noncomputable def sliP (o lo hi : PV) (μ : List AO) (Q : Post) : Prop :=
  ∃ a b : Option Int, partOf lo = some a ∧ partOf hi = some b ∧
    (match o with
      | .tup l => l.length ≤ 1000000 ∧ Q (.tup ((l.take ((b.map (cutAt l.length)).getD l.length)).drop ((a.map (cutAt l.length)).getD 0))) μ
      | .lst l => l.length ≤ 1000000 ∧ Q (.lst ((l.take ((b.map (cutAt l.length)).getD l.length)).drop ((a.map (cutAt l.length)).getD 0))) μ
      | _ => False)

noncomputable def lamP (k : Nat) (cap xs : List PV) (μ : List AO) (Q : Post) : Prop := match k with
  | 0 => ∃ i j, cap = [.int i] ∧ xs = [.int j] ∧ Q (.int (i + j)) μ
  | 1 => cap = [] ∧ ∃ x, xs = [x] ∧ Q x μ
  | 2 => cap = [] ∧ ∃ x, xs = [x] ∧ Q x μ
  | 3 => ∃ n i, cap = [.obj n] ∧ xs = [.int i] ∧ attrP (.obj n) 9 μ fun p μ₁ => subP p (.int i) μ₁ Q
  | _ => False
noncomputable def callP (Φ : Phi) (f : PV) (xs : List PV) (μ : List AO) (Q : Post) : Prop := match f with
  | .val (.ref a) => Φ a xs μ Q
  | .val (.builtin id) =>
    if id = "len" then (∃ x, xs = [x] ∧ ((∃ l, itemsOf x μ = some l ∧ l.length ≤ 1000000 ∧ Q (.int l.length) μ) ∨ ∃ c, x = .str c ∧ c < sTab.length ∧ Q (.int (sTab.getD c Str.empty).cps.size) μ))
    else if id = "max" then ((∃ i j, xs = [.int i, .int j] ∧ Q (.int (max i j)) μ) ∨ ∃ l is, xs = [.lst l] ∧ intsOf l = some is ∧ is ≠ [] ∧ ∀ M, M ∈ is → (∀ a ∈ is, a ≤ M) → Q (.int M) μ)
    else if id = "sum" then ∃ l is, xs = [.lst l] ∧ intsOf l = some is ∧ Q (.int is.sum) μ
    else False
  | .val (.type id) =>
    if id = "list" then ∃ x l, xs = [x] ∧ itemsOf x μ = some l ∧ l.length ≤ 1000000 ∧ Q (.lst l) μ
    else if id = "tuple" then ∃ x l, xs = [x] ∧ itemsOf x μ = some l ∧ l.length ≤ 1000000 ∧ Q (.tup l) μ
    else if id = "int" then ∃ i, xs = [.int i] ∧ Q (.int i) μ
    else False
  | .lam k cap => lamP k cap xs μ Q
  | _ => False

noncomputable def compGo (cond : Lc → List AO → (Bool → List AO → Prop) → Prop) (elt : Lc → List AO → Post → Prop) (tg : List Nat) (l : Lc) (G : List AO → Prop) :
    List (List PV) → List PV → List AO → (List PV → List AO → Prop) → Prop
  | [], acc, μ, Q => Q acc μ
  | it :: its, acc, μ, Q => cond (setTg l tg it) μ fun c μ₁ => if c = true then elt (setTg l tg it) μ₁ fun v μ₂ => G μ₂ ∧ compGo cond elt tg l G its (acc ++ [v]) μ₂ Q
      else G μ₁ ∧ compGo cond elt tg l G its acc μ₁ Q

noncomputable def inner (n : Nat) (fr : List (Nat × Nat)) (l : Lc) : Lc :=
  fr.foldl (fun l' p => l'.set p.1 ((l[p.2]?).getD Option.none)) (List.replicate n Option.none)

/- a source of items: the items, and what must stand while they are taken -/
noncomputable abbrev SrcQ := List (List PV) → (List AO → Prop) → List AO → Prop

noncomputable def itemsP (v : PV) (μ : List AO) (Q : SrcQ) : Prop := match v with
  | .tup l => l.length ≤ 1000000 ∧ Q (l.map fun x => [x]) (fun _ => True) μ
  | .lst l => l.length ≤ 1000000 ∧ Q (l.map fun x => [x]) (fun _ => True) μ
  | .obj n => ∃ l, μ[n]? = some (.lst l) ∧ l.length ≤ 1000000 ∧ Q (l.map fun x => [x]) (fun μ' => μ'[n]? = some (.lst l)) μ
  | _ => False

noncomputable def upto (a : Int) : Nat → List Int
  | 0 => []
  | n + 1 => a :: upto (a + 1) n

noncomputable def rangeP (x y : PV) (μ : List AO) (Q : SrcQ) : Prop := ∃ a b, x = .int a ∧ y = .int b ∧ a.natAbs ≤ 1000000 ∧ b.natAbs ≤ 1000000 ∧
  Q ((upto a (b - a).toNat).map fun i => [.int i]) (fun _ => True) μ

noncomputable def numbered (k : Nat) : List PV → List (List PV)
  | [] => []
  | x :: xs => [.int k, x] :: numbered (k + 1) xs

noncomputable def enumP (v : PV) (μ : List AO) (Q : SrcQ) : Prop := ∃ l, v = .tup l ∧ l.length ≤ 1000000 ∧ Q (numbered 0 l) (fun _ => True) μ
noncomputable def zipP (x y : PV) (μ : List AO) (Q : SrcQ) : Prop := ∃ c cs l, x = .str c ∧ y = .tup l ∧ c < sTab.length ∧ charsOf c = some cs ∧ cs.length = l.length ∧
  Q ((cs.zip l).map fun p => [.str p.1, p.2]) (fun _ => True) μ

mutual
@[reducible] noncomputable def wpE (Φ : Phi) : CE → Lc → List AO → Post → Prop
  | .cint i, _, μ, Q => Q (.int i) μ
  | .cstr c, _, μ, Q => Q (.str c) μ
  | .cnone, _, μ, Q => Q .none μ
  | .cbool b, _, μ, Q => Q (.bool b) μ
  | .loc i, l, μ, Q => ∃ v, l[i]? = some (some v) ∧ Q v μ
  | .glo n, _, μ, Q => ∃ p, gTab[n]? = some p ∧ Q p.2 μ
  | .bin op a b, l, μ, Q => wpE Φ a l μ fun x μ₁ => wpE Φ b l μ₁ fun y μ₂ => binP op x y μ₂ Q
  | .neg a, l, μ, Q => wpE Φ a l μ fun x μ₁ => ∃ i, x = .int i ∧ Q (.int (-i)) μ₁
  | .not a, l, μ, Q => wpE Φ a l μ fun x μ₁ => ∃ b, truthy x μ₁ = some b ∧ Q (.bool (!b)) μ₁
  | .cmp op a b, l, μ, Q => wpE Φ a l μ fun x μ₁ => wpE Φ b l μ₁ fun y μ₂ => cmpP op x y fun c => Q (.bool c) μ₂
  | .cmp2 op₁ op₂ a b c, l, μ, Q => wpE Φ a l μ fun x μ₁ => wpE Φ b l μ₁ fun y μ₂ => cmpP op₁ x y fun t =>
      if t = true then wpE Φ c l μ₂ fun z μ₃ => cmpP op₂ y z fun u => Q (.bool u) μ₃ else Q (.bool false) μ₂
  | .bop isAnd xs, l, μ, Q => wpB Φ isAnd xs l μ Q
  | .ite t a b, l, μ, Q => wpT Φ t l μ fun c μ₁ => if c = true then wpE Φ a l μ₁ Q else wpE Φ b l μ₁ Q
  | .tup xs, l, μ, Q => wpEs Φ xs l μ fun vs μ₁ => vs.length ≤ 1000 ∧ Q (.tup vs) μ₁
  | .fl c, l, μ, Q => wpL Φ c l μ fun vs μ₁ => Q (.lst vs) μ₁
  | .ml c, l, μ, Q => wpL Φ c l μ fun vs μ₁ => Q (.obj μ₁.length) (μ₁ ++ [.lst vs])
  | .attr e f, l, μ, Q => wpE Φ e l μ fun o μ₁ => attrP o f μ₁ Q
  | .sub e i, l, μ, Q => wpE Φ e l μ fun o μ₁ => wpE Φ i l μ₁ fun k μ₂ => subP o k μ₂ Q
  | .sli e lo hi, l, μ, Q => wpE Φ e l μ fun o μ₁ => wpE Φ lo l μ₁ fun a μ₂ => wpE Φ hi l μ₂ fun b μ₃ => sliP o a b μ₃ Q
  | .call f xs, l, μ, Q => wpE Φ f l μ fun g μ₁ => wpEs Φ xs l μ₁ fun vs μ₂ => callP Φ g vs μ₂ Q
  | .meth o m xs, l, μ, Q => wpE Φ o l μ fun x μ₁ => ∃ t, methOf x m μ₁ = some t ∧ wpEs Φ xs l μ₁ fun vs μ₂ => methP Φ t x vs μ₂ Q
  | .lam k caps, l, μ, Q => ∃ vs, caps.mapM (fun i => (l[i]?).join) = some vs ∧ Q (.lam k vs) μ
@[reducible] noncomputable def wpT (Φ : Phi) : CE → Lc → List AO → (Bool → List AO → Prop) → Prop
  | .not a, l, μ, Q => wpT Φ a l μ fun b μ₁ => Q (!b) μ₁
  | .bop isAnd xs, l, μ, Q => wpA Φ isAnd xs l μ Q
  | .cmp op a b, l, μ, Q => wpE Φ a l μ fun x μ₁ => wpE Φ b l μ₁ fun y μ₂ => cmpP op x y fun c => Q c μ₂
  | .cmp2 op₁ op₂ a b c, l, μ, Q => wpE Φ a l μ fun x μ₁ => wpE Φ b l μ₁ fun y μ₂ => cmpP op₁ x y fun t =>
      if t = true then wpE Φ c l μ₂ fun z μ₃ => cmpP op₂ y z fun u => Q u μ₃ else Q false μ₂
  | .attr e f, l, μ, Q => wpE Φ e l μ fun o μ₁ => attrP o f μ₁ fun x μ₂ => ∃ b, truthy x μ₂ = some b ∧ Q b μ₂
  | .loc i, l, μ, Q => ∃ v, l[i]? = some (some v) ∧ ∃ b, truthy v μ = some b ∧ Q b μ
  | .call f xs, l, μ, Q => wpE Φ f l μ fun g μ₁ => wpEs Φ xs l μ₁ fun vs μ₂ => callP Φ g vs μ₂ fun x μ₃ => ∃ b, truthy x μ₃ = some b ∧ Q b μ₃
  | _, _, _, _ => False
@[reducible] noncomputable def wpB (Φ : Phi) (isAnd : Bool) : CEs → Lc → List AO → Post → Prop
  | .nil, _, _, _ => False
  | .cons e .nil, l, μ, Q => wpE Φ e l μ Q
  | .cons e es, l, μ, Q => wpE Φ e l μ fun x μ₁ => ∃ b, truthy x μ₁ = some b ∧ if b = isAnd then wpB Φ isAnd es l μ₁ Q else Q x μ₁
@[reducible] noncomputable def wpA (Φ : Phi) (isAnd : Bool) : CEs → Lc → List AO → (Bool → List AO → Prop) → Prop
  | .nil, _, μ, Q => Q isAnd μ
  | .cons e es, l, μ, Q => wpT Φ e l μ fun b μ₁ => if b = isAnd then wpA Φ isAnd es l μ₁ Q else Q (!isAnd) μ₁
@[reducible] noncomputable def wpEs (Φ : Phi) : CEs → Lc → List AO → (List PV → List AO → Prop) → Prop
  | .nil, _, μ, Q => Q [] μ
  | .cons e es, l, μ, Q => wpE Φ e l μ fun v μ₁ => wpEs Φ es l μ₁ fun vs μ₂ => Q (v :: vs) μ₂
@[reducible] noncomputable def wpL (Φ : Phi) : CL → Lc → List AO → (List PV → List AO → Prop) → Prop
  | .disp xs, l, μ, Q => wpEs Φ xs l μ fun vs μ₁ => vs.length ≤ 1000 ∧ Q vs μ₁
  | .comp elt cond tg src ns fr, l, μ, Q => (∀ p ∈ fr, ∃ v, l[p.2]? = some (some v)) ∧ wpI Φ src l μ fun its G μ₁ => G μ₁ ∧ compGo (fun l μ Q => wpO Φ cond l μ Q) (fun l μ Q => wpE Φ elt l μ Q) tg (inner ns.length fr l) G its [] μ₁ Q
  | .add a b, l, μ, Q => wpE Φ a l μ fun x μ₁ => wpE Φ b l μ₁ fun y μ₂ => ∃ k m, listOf x μ₂ = some k ∧ listOf y μ₂ = some m ∧ k.length + m.length ≤ 1000000 ∧ Q (k ++ m) μ₂
@[reducible] noncomputable def wpO (Φ : Phi) : CO → Lc → List AO → (Bool → List AO → Prop) → Prop
  | .none, _, μ, Q => Q true μ
  | .some e, l, μ, Q => wpT Φ e l μ Q
@[reducible] noncomputable def wpI (Φ : Phi) : CI → Lc → List AO → SrcQ → Prop
  | .items e, l, μ, Q => wpE Φ e l μ fun v μ₁ => itemsP v μ₁ Q
  | .range1 b, l, μ, Q => wpE Φ b l μ fun y μ₁ => rangeP (.int 0) y μ₁ Q
  | .range2 a b, l, μ, Q => wpE Φ a l μ fun x μ₁ => wpE Φ b l μ₁ fun y μ₂ => rangeP x y μ₂ Q
  | .enum e, l, μ, Q => wpE Φ e l μ fun v μ₁ => enumP v μ₁ Q
  | .zip a b, l, μ, Q => wpE Φ a l μ fun x μ₁ => wpE Φ b l μ₁ fun y μ₂ => zipP x y μ₂ Q
end

inductive Fl where
  | next
  | ret (v : PV)

noncomputable abbrev SPost := Fl → Lc → List AO → Prop

noncomputable def forGo (body : Lc → List AO → SPost → Prop) (tg : List Nat) (G : List AO → Prop) : List (List PV) → Lc → List AO → SPost → Prop
  | [], l, μ, Q => Q .next l μ
  | it :: its, l, μ, Q => body (setTg l tg it) μ fun f l₁ μ₁ => match f with
    | .next => G μ₁ ∧ forGo body tg G its l₁ μ₁ Q
    | .ret v => Q (.ret v) l₁ μ₁

noncomputable def whilGo (test : Lc → List AO → (Bool → List AO → Prop) → Prop) (body : Lc → List AO → SPost → Prop) : Nat → Lc → List AO → SPost → Prop
  | 0, _, _, _ => False
  | n + 1, l, μ, Q => test l μ fun c μ₁ => if c = true then body l μ₁ fun f l₁ μ₂ => match f with
      | .next => whilGo test body n l₁ μ₂ Q
      | .ret v => Q (.ret v) l₁ μ₂
    else Q .next l μ₁

noncomputable def setAP (o : PV) (f : Nat) (v : PV) (μ : List AO) (Q : List AO → Prop) : Prop := f < fTab.length ∧ ∃ n C ks l, o = .obj n ∧ μ[n]? = some (.inst C ks l) ∧ C ∈ clsA ∧ ks.length = l.length ∧ ks.length ≤ 1000 ∧
  ((f ∉ ks ∧ Q (μ.set n (.inst C (ks ++ [f]) (l ++ [v])))) ∨ (f ∈ ks ∧ Q (μ.set n (.inst C ks (l.set (ks.idxOf f) v)))))
noncomputable def setIP (o i v : PV) (μ : List AO) (Q : List AO → Prop) : Prop := ∃ n l k, o = .obj n ∧ i = .int k ∧ μ[n]? = some (.lst l) ∧ 0 ≤ k ∧ k < l.length ∧ l.length ≤ 1000000 ∧ Q (μ.set n (.lst (l.set k.toNat v)))

mutual
@[reducible] noncomputable def wpS (Φ : Phi) : CS → Lc → List AO → SPost → Prop
  | .expr e, l, μ, Q => wpE Φ e l μ fun v μ₁ => v = .none ∧ Q .next l μ₁
  | .ret e, l, μ, Q => wpE Φ e l μ fun v μ₁ => Q (.ret v) l μ₁
  | .asg c i e, l, μ, Q => wpE Φ e l μ fun v μ₁ => (c = true → l[i]? = some none) ∧ Q .next (l.set i (some v)) μ₁
  | .asg2 c d i j a b, l, μ, Q => wpE Φ a l μ fun x μ₁ => wpE Φ b l μ₁ fun y μ₂ => (c = true → l[i]? = some none) ∧ (d = true → l[j]? = some none) ∧ Q .next ((l.set i (some x)).set j (some y)) μ₂
  | .setA o f e, l, μ, Q => wpE Φ e l μ fun v μ₁ => wpE Φ o l μ₁ fun x μ₂ => setAP x f v μ₂ fun μ₃ => Q .next l μ₃
  | .setI o i e, l, μ, Q => wpE Φ e l μ fun v μ₁ => wpE Φ o l μ₁ fun x μ₂ => wpE Φ i l μ₂ fun k μ₃ => setIP x k v μ₃ fun μ₄ => Q .next l μ₄
  | .ite t a b, l, μ, Q => wpT Φ t l μ fun c μ₁ => if c = true then wpSs Φ a l μ₁ Q else wpSs Φ b l μ₁ Q
  | .whil t b, l, μ, Q => ∃ n, whilGo (fun l μ Q => wpT Φ t l μ Q) (fun l μ Q => wpSs Φ b l μ Q) n l μ Q
  | .forr tg src b, l, μ, Q => wpI Φ src l μ fun its G μ₁ => G μ₁ ∧ forGo (fun l μ Q => wpSs Φ b l μ Q) tg G its l μ₁ Q
  | .bad, _, _, _ => False
@[reducible] noncomputable def wpSs (Φ : Phi) : CSs → Lc → List AO → SPost → Prop
  | .nil, l, μ, Q => Q .next l μ
  | .cons s ss, l, μ, Q => wpS Φ s l μ fun f l₁ μ₁ => match f with
    | .next => wpSs Φ ss l₁ μ₁ Q
    | .ret v => Q (.ret v) l₁ μ₁
end


/- MOps -/


noncomputable abbrev NoE : Value → Shared → Prop := fun _ _ => False

/- there is room for n more calls, one within the other -/
structure Room (n : Nat) (A : Around) : Prop where
  hand : A.handled = none
  deep : A.depth + 8 * n + 8 < 900
  units : A.units + 40 * n + 80 < 9000

theorem Room.cLine {n : Nat} {A : Around} (h : Room n A) : A.units + 65 < cLine := by
  have := h.units; unfold PySem.cLine; lia
theorem Room.depth {n : Nat} {A : Around} (h : Room n A) : A.depth < recursionLimit := by
  have := h.deep; unfold recursionLimit; lia

inductive Out (g : Heap) (Λ : List LamT) (ρ : Rho) (s : Shared) (Q : Post) (val : Value) (s' : Shared) : Prop
  | mk (ρ' : Rho) (v : PV) (μ' : List AO) : Steps [] ρ s ρ' s' → Sees g Λ ρ' μ' s' → VDen Λ ρ' s'.heap v val → Q v μ' → Out g Λ ρ s Q val s'

section
variable {g : Heap} {Λ : List LamT} {ρ : Rho} {μ : List AO} {s s' : Shared} {Q : Post} {v : PV} {val : Value}

theorem VDen.grown {h h' : Heap} (hk : ∀ b o, h.get? b = some o → h'.get? b = some o) (d : VDen Λ ρ h v val) : VDen Λ ρ h' v val :=
  d.mono (fun b o e sf => ⟨sf, hk _ _ e⟩) (fun b o e h1 _ _ => ⟨h1, hk _ _ e⟩) fun _ _ h => h
theorem VDens.grown {h h' : Heap} (hk : ∀ b o, h.get? b = some o → h'.get? b = some o) {l : List PV} {vs : List Value} (d : VDens Λ ρ h l vs) : VDens Λ ρ h' l vs :=
  d.mono (fun b o e sf => ⟨sf, hk _ _ e⟩) (fun b o e h1 _ _ => ⟨h1, hk _ _ e⟩) fun _ _ h => h

theorem Out.grown (S : Sees g Λ ρ μ s) (hk : ∀ b o, s.heap.get? b = some o → s'.heap.get? b = some o) (hos : s'.os = s.os) (hg : s'.gens = s.gens)
    (d : VDen Λ ρ s'.heap v val) (q : Q v μ) : Out g Λ ρ s Q val s' :=
  ⟨ρ, v, μ, Steps.grown hk hos hg, S.grown hk hg, d, q⟩
theorem Out.tk (S : Sees g Λ ρ μ s) {tk : Tok} (d : VDen Λ ρ s.heap v val) (q : Q v μ) : Out g Λ ρ s Q val { s with toks := tk } :=
  Out.grown S (fun _ _ e => e) rfl rfl d q
theorem Out.here (S : Sees g Λ ρ μ s) (d : VDen Λ ρ s.heap v val) (q : Q v μ) : Out g Λ ρ s Q val s :=
  Out.grown S (fun _ _ e => e) rfl rfl d q

theorem push_keeps (o : Obj) : ∀ b o', s.heap.get? b = some o' → (s.heap.push o).get? b = some o' := fun b o' e => Heap.get?_push_of_some o e
theorem push_size (o : Obj) : s.heap.objs.size ≤ (s.heap.push o).objs.size := by rw [Heap.size_push]; (exact Nat.le_add_right _ _)

theorem Out.newList (S : Sees g Λ ρ μ s) {l : List PV} {vs : List Value} {arr : Array Value} (ha : arr = vs.toArray) (d : VDens Λ ρ s.heap l vs) {tk : Tok} (q : Q (.lst l) μ) :
    Out g Λ ρ s Q (.ref s.heap.objs.size) { s with heap := s.heap.push { cls := .type "list", data := .seq arr }, toks := tk } := by
  subst ha
  exact Out.grown S (push_keeps _) rfl rfl (.lst (S.safeNew (Nat.le_refl _)) ⟨_, Heap.get?_push_size _ rfl, rfl, _, rfl⟩ (d.grown (push_keeps _))) q
theorem Out.newTup (S : Sees g Λ ρ μ s) {l : List PV} {vs : List Value} {arr : Array Value} (ha : arr = vs.toArray) (d : VDens Λ ρ s.heap l vs) {tk : Tok} (q : Q (.tup l) μ) :
    Out g Λ ρ s Q (.ref s.heap.objs.size) { s with heap := s.heap.push { cls := .type "tuple", data := .seq arr }, toks := tk } := by
  subst ha
  exact Out.grown S (push_keeps _) rfl rfl (.tup (S.safeNew (Nat.le_refl _)) ⟨_, Heap.get?_push_size _ rfl, rfl, _, rfl⟩ (d.grown (push_keeps _))) q

set_option tactic.hygienic true in
/- an abstract list, frozen or not, is a list -/
theorem listOf_den (S : Sees g Λ ρ μ s) {l : List PV} (d : VDen Λ ρ s.heap v val) (e : listOf v μ = some l) : ∃ a vs, val = .ref a ∧ s.heap.IsList a vs.toArray ∧ VDens Λ ρ s.heap l vs := by
  cases d with
  | lst sa hl dv => simp only [listOf, Option.some.injEq] at e; subst e; exact ⟨_, _, rfl, hl, dv⟩
  | obj e1 =>
    rename_i n a dd
    simp only [listOf] at e
    split at e
    · rename_i l' hm
      cases e
      obtain ⟨p, hp, od⟩ := S.pair hm
      rw [e1] at hp; cases hp
      obtain ⟨_, vs, hl, dv⟩ := od
      exact ⟨a, vs, rfl, hl.isList, dv⟩
    · cases e
  | _ => simp [listOf] at e

theorem bits_small {j : Int} (h : j.natAbs < 2 ^ 63) : Builtin.Int.intBits j ≤ 64 := PySem.intBits_le_64 (by omega) (by omega)
end

section
variable {prog : Program} {w : World} {A : Around} {n : Nat} {g : Heap} {Λ : List LamT} {ρ : Rho} {μ : List AO} {s s' : Shared} {Q : Post} {x y : PV} {vx vy : Value}

theorem add_lists_ok {a b : Addr} {vs ws : List Value} {Q : Value → Shared → Prop} {E : Value → Shared → Prop} (hl : s.heap.IsList a vs.toArray) (hb : s.heap.IsList b ws.toArray) (hsz : vs.length + ws.length ≤ sizeLine)
    (h : Q (.ref s.heap.objs.size) { s with heap := s.heap.push { cls := .type "list", data := .seq (vs ++ ws).toArray } }) : wpAny (model prog w) A (binaryOp .Add (.ref a) (.ref b)) Q E s := by
  obtain ⟨⟨cls, dd, data, sl⟩, ho, hc, n, hd⟩ := id hl
  obtain ⟨⟨cls2, dd2, data2, sl2⟩, ho2, hc2, n2, hd2⟩ := id hb
  simp only at hc hd hc2 hd2
  subst hc hd hc2 hd2
  have e : vs.toArray ++ ws.toArray = (vs ++ ws).toArray := by simp
  refine concat_meets ⟨_, ho, rfl⟩ ⟨_, ho2, rfl⟩ noFill_list_add seq_list_add PySem.F.slot_list_add PySem.F.entry_list_add (PySem.F.args_list_add_2 _ _) (list_addW a b vs.toArray ws.toArray n n2 dd dd2 sl sl2 (by simpa using hsz)) ⟨ho, ho2, ?_⟩
  rw [e]; exact h

theorem addL_ok (S : Sees g Λ ρ μ s) (dx : VDen Λ ρ s.heap x vx) (dy : VDen Λ ρ s.heap y vy) {l m : List PV} (e1 : listOf x μ = some l) (e2 : listOf y μ = some m) (hz : l.length + m.length ≤ 1000000) (q : Q (.lst (l ++ m)) μ) :
    wpAny (model prog w) A (binaryOp .Add vx vy) (Out g Λ ρ s Q) NoE s := by
  obtain ⟨a, vs, rfl, hl, dv⟩ := listOf_den S dx e1
  obtain ⟨b, ws, rfl, hm, dw⟩ := listOf_den S dy e2
  exact add_lists_ok hl hm (by rw [dv.len, dw.len, sizeLine_eq]; (exact Nat.le_trans ‹_› (by decide))) (Out.newList S rfl (dv.append dw) q)

theorem mulW (l : Addr) (items : Array Value) (n : Nat) (dd : Option Addr) (sl : Array (Option Value)) (x : Int) (u : Tok) (hc0 : ¬(!Builtin.List.listFitsIndex x) = true) (hc1 : ¬items.size * x.toNat > (2 ^ 63 - 1) / 8) (hc2 : ¬Builtin.List.listTooLong (items.size * x.toNat) = true) :
    Meets (Builtin.«list.__mul__» ⟨[.ref l, .int x u], []⟩) (fun _ R s => s.heap.get? l = some { cls := .type "list", dict := dd, data := .seq items n, slots := sl } ∧ R (.ok (.ret (Value.ref s.heap.objs.size))) { s with heap := s.heap.push { cls := Value.type "list", data := Data.seq (List.foldl (fun x1 x2 => x1 ++ x2) #[] (List.replicate (if items.isEmpty = true then 0 else x.toNat) items)) }, toks := s.toks }) :=
  .of_wp fun prog w A R s h => by
    obtain ⟨hp, g, d, tk, os⟩ := s; obtain ⟨hl, h⟩ := h
    have hsz := AutoListH.joined_fits hc2
    wp_walk using AutoSeq1.wpAny_loadPart' hl; refine wpAny_ite_false (decide_eq_false (Nat.not_lt.mpr hsz)) ?_; wp_walk; exact ⟨_, rfl, h⟩
theorem rmulW (a : Int) (t : Tok) (l : Addr) (items : Array Value) (n : Nat) (dd : Option Addr) (sl : Array (Option Value)) :
    Meets (Builtin.«int.__rmul__» ⟨[.int a t, .ref l], []⟩) (fun _ R s => s.heap.get? l = some { cls := .type "list", dict := dd, data := .seq items n, slots := sl } ∧ R (.ok (.ret Value.notImplemented)) s) :=
  .of_wp fun prog w A R s h => by obtain ⟨hp, g, d, tk, os⟩ := s; obtain ⟨hl, h⟩ := h; wp_walk using AutoSeq1.wpAny_loadPart' hl; exact ⟨_, rfl, h⟩

theorem foldl_one (v : Value) : ∀ (k : Nat) (acc : Array Value), List.foldl (fun x1 x2 => x1 ++ x2) acc (List.replicate k #[v]) = acc ++ (List.replicate k v).toArray
  | 0, acc => by simp
  | k + 1, acc => by rw [List.replicate_succ, List.foldl_cons, foldl_one v k, List.replicate_succ]; apply Array.ext'; simp

theorem VDens.rep {h : Heap} {v : PV} {val : Value} (d : VDen Λ ρ h v val) : ∀ k, VDens Λ ρ h (List.replicate k v) (List.replicate k val)
  | 0 => .nil
  | k + 1 => .cons d (VDens.rep d k)

theorem mulL_ok (S : Sees g Λ ρ μ s) {v : PV} {val : Value} {a : Addr} (hl : s.heap.IsList a #[val]) (dv : VDen Λ ρ s.heap v val) {j : Int} {u : Tok} (h0 : 0 ≤ j) (h1 : j ≤ 1000) (q : Q (.lst (List.replicate j.toNat v)) μ) :
    wpAny (model prog w) A (binaryOp .Mult (.ref a) (.int j u)) (Out g Λ ρ s Q) NoE s := by
  obtain ⟨⟨cls, dd, data, sl⟩, ho, hc, k, hd⟩ := id hl
  simp only at hc hd
  subst hc hd
  have e : List.foldl (fun x1 x2 => x1 ++ x2) #[] (List.replicate (if (#[val] : Array Value).isEmpty = true then 0 else j.toNat) #[val]) = (List.replicate j.toNat val).toArray := by
    rw [if_neg (by simp), foldl_one]; simp
  refine wpAny_binaryOp_repeat_ref (T := "list") (U := "int") (by decide) ⟨_, ho, rfl⟩ (fun s' => typeIs_int s' j u) noFill_list_mul PySem.F.fills_int_mul PySem.F.slot_int_rmul repeat_list PySem.F.slot_int_index.lookup
    (call_meets PySem.F.slot_int_rmul (typeIs_int s j u) PySem.F.entry_int_rmul (PySem.F.args_int_rmul_2 _ _) (rmulW j u a #[val] k dd sl)
      ⟨ho, rfl, ⟨_, ho, rfl⟩, call_meets PySem.F.slot_list_mul ⟨_, ho, rfl⟩ PySem.F.entry_list_mul (PySem.F.args_list_mul_2 _ _)
        (mulW a #[val] k dd sl j u (by simp [Builtin.List.listFitsIndex]; lia) (by simp; lia) (by simp [Builtin.List.listTooLong, sizeLine]; lia))
        ⟨ho, ?_⟩⟩)
  rw [e]
  exact Out.newList S rfl (VDens.rep dv _) q

theorem bin_ok (hA : Room n A) (S : Sees g Λ ρ μ s) (dx : VDen Λ ρ s.heap x vx) (dy : VDen Λ ρ s.heap y vy) {op : Operator} (h : binP op x y μ Q) :
    wpAny (model prog w) A (binaryOp op vx vy) (Out g Λ ρ s Q) NoE s := by
  cases op with
  | Add =>
    rcases h with ⟨i, j, rfl, rfl, h⟩ | ⟨l, m, e1, e2, hz, q⟩
    · obtain ⟨_, rfl⟩ := dx.inv; obtain ⟨_, rfl⟩ := dy.inv; exact add_int (Out.tk S (.int _ _) h)
    · exact addL_ok S dx dy e1 e2 hz q
  | Sub =>
    obtain ⟨i, j, rfl, rfl, h⟩ := h
    obtain ⟨_, rfl⟩ := dx.inv; obtain ⟨_, rfl⟩ := dy.inv; exact sub_int (Out.tk S (.int _ _) h)
  | Mult =>
    rcases h with ⟨i, j, rfl, rfl, h⟩ | ⟨a, j, rfl, rfl, h⟩
    · obtain ⟨_, rfl⟩ := dx.inv; obtain ⟨_, rfl⟩ := dy.inv; exact mul_int (Out.tk S (.int _ _) h.2) (IntMulOk.of_right (bits_small h.1))
    · obtain ⟨_, _, rfl, sa, hl, dv⟩ := dx.inv
      obtain ⟨x, xs, rfl, d1, d2⟩ := dv.cons_inv
      obtain rfl := d2.nil_inv
      obtain ⟨_, rfl⟩ := dy.inv
      exact mulL_ok S hl d1 h.1 h.2.1 h.2.2
  | FloorDiv =>
    obtain ⟨i, j, rfl, rfl, h⟩ := h
    obtain ⟨_, rfl⟩ := dx.inv; obtain ⟨_, rfl⟩ := dy.inv
    refine floordiv_int (by lia) (Out.tk S (.int _ _) h.2.2) (.inl (PyProof.noPylong_of_log2 ?_))
    have h1 := h.1; have h2 := h.2.1
    have : j.natAbs.log2 < 64 := by
      rw [Nat.log2_lt (by omega)]; omega
    (exact Nat.lt_of_lt_of_le ‹_› (by decide))
  | Mod =>
    obtain ⟨i, j, rfl, rfl, h⟩ := h
    obtain ⟨_, rfl⟩ := dx.inv; obtain ⟨_, rfl⟩ := dy.inv; exact mod_int' (by lia) (Out.tk S (.int _ _) h.2)
  | Pow =>
    obtain ⟨i, j, rfl, rfl, h⟩ := h
    obtain ⟨_, rfl⟩ := dx.inv; obtain ⟨_, rfl⟩ := dy.inv
    exact pow_int_small h.1 (by omega) (by lia) (Out.tk S (.int _ _) h.2.2.2)
  | _ => exact h.elim
end


/- MCmp -/


mutual
noncomputable def datP : PV → Dat
  | .int i => .int i
  | .str c => .str (sTab.getD c Str.empty)
  | .tup l => .tuple (datPs l)
  | .lst l => .list (datPs l)
  | _ => .none
noncomputable def datPs : List PV → List Dat
  | [] => []
  | v :: vs => datP v :: datPs vs
end

theorem sTab_ok : ∀ c, c < sTab.length → PyData.strOk (sTab.getD c Str.empty) = true := by decide +kernel
theorem datPs_eq (l : List PV) : datPs l = l.map datP := by
  induction l with
  | nil => rfl
  | cons a l ih => simp [datPs, ih]

theorem isData_ind {P : Nat → PV → Prop} (h0 : ∀ n, P n .none) (h1 : ∀ n i, P n (.int i)) (h2 : ∀ n c, c < sTab.length → P n (.str c)) (h3 : ∀ n l, (∀ x ∈ l, P n x) → P (n + 1) (.tup l)) (h4 : ∀ n l, (∀ x ∈ l, P n x) → P (n + 1) (.lst l)) (n : Nat) : ∀ x, isData n x = true → P n x := by
  induction n with
  | zero =>
    intro x h
    cases x <;> first | exact h0 _ | exact h1 _ _ | exact h2 _ _ (of_decide_eq_true h) | cases h
  | succ n ih =>
    intro x h
    cases x <;> first | exact h0 _ | exact h1 _ _ | exact h2 _ _ (of_decide_eq_true h) | exact h3 _ _ fun x hx => ih x (List.all_eq_true.mp h x hx) | exact h4 _ _ fun x hx => ih x (List.all_eq_true.mp h x hx) | cases h
theorem datPs_all {n : Nat} {l : List PV} (h : ∀ x ∈ l, kqdOk n (datP x) = true) : (datPs l).all (kqdOk n) = true := by
  rw [datPs_eq, List.all_eq_true]
  intro d hd
  obtain ⟨x, hx, rfl⟩ := List.mem_map.mp hd
  exact h x hx
theorem isData_ok : ∀ (n : Nat) (v : PV), isData n v = true → kqdOk n (datP v) = true :=
  isData_ind (fun n => by cases n <;> rfl) (fun n i => by cases n <;> rfl) (fun n c h => by cases n <;> exact sTab_ok c h) (fun n l h => datPs_all h) (fun n l h => datPs_all h)

/- back from the data -/
noncomputable def sIdx (x : Str) : Nat := sTab.findIdx (· == x)
theorem sIdx_ok : ∀ c, c < sTab.length → sIdx (sTab.getD c Str.empty) = c := by decide +kernel
noncomputable def unD (d : Dat) : PV := @Dat.rec (fun d => PV) (fun l => List PV) .none (fun b => .none) (fun i => .int i) (fun x => .str (sIdx x)) (fun b => .none) (fun l r => .tup r) (fun l r => .lst r) [] (fun d l p r => p :: r) d
noncomputable def unDs (l : List Dat) : List PV := @Dat.rec_1 (fun d => PV) (fun l => List PV) .none (fun b => .none) (fun i => .int i) (fun x => .str (sIdx x)) (fun b => .none) (fun l r => .tup r) (fun l r => .lst r) [] (fun d l p r => p :: r) l
theorem unDs_ok {l : List PV} (h : ∀ x ∈ l, unD (datP x) = x) : unDs (datPs l) = l := by
  induction l with
  | nil => rfl
  | cons a l ih =>
    show unD (datP a) :: unDs (datPs l) = a :: l
    rw [h a (.head _), ih fun x hx => h x (.tail _ hx)]
theorem unD_ok : ∀ (n : Nat) (v : PV), isData n v = true → unD (datP v) = v :=
  isData_ind (fun n => rfl) (fun n i => rfl) (fun n c h => congrArg PV.str (sIdx_ok c h)) (fun n l h => congrArg PV.tup (unDs_ok h)) (fun n l h => congrArg PV.lst (unDs_ok h))
theorem isData_inj (n k : Nat) (x y : PV) (hx : isData n x = true) (hy : isData k y = true) (e : datP x = datP y) : x = y :=
  (unD_ok n x hx).symm.trans ((congrArg unD e).trans (unD_ok k y hy))

section
variable {g : Heap} {Λ : List LamT} {ρ : Rho} {μ : List AO} {h : Heap}
theorem isData_S {n : Nat} {l : List PV} (k : isData n (.tup l) = true ∨ isData n (.lst l) = true) : ∀ x ∈ l, ∃ m, isData m x = true := by
  cases n with
  | zero => rcases k with k | k <;> cases k
  | succ n => rcases k with k | k <;> exact fun x hx => ⟨n, List.all_eq_true.mp k x hx⟩
theorem isData_K {n : Nat} {x : PV} (k : isData n x = true) : @PV.casesOn (fun x => Prop) x True (fun b => False) (fun i => True) (fun c => True) (fun l => True) (fun l => True) (fun c ks l => False) (fun v => False) (fun n => False) (fun k l => False) :=
  isData_ind (P := fun n x => @PV.casesOn (fun x => Prop) x True (fun b => False) (fun i => True) (fun c => True) (fun l => True) (fun l => True) (fun c ks l => False) (fun v => False) (fun n => False) (fun k l => False)) (fun n => trivial) (fun n i => trivial) (fun n c h => trivial) (fun n l h => trivial) (fun n l h => trivial) n x k
theorem rd_str {c : Nat} {s : Str} {t} (e : sTab[c]? = some s) : ∃ as, Reads h (.str s t) (kqdP (datP (.str c))) as := by
  have : sTab.getD c Str.empty = s := by rw [List.getD_eq_getElem?_getD, e]; rfl
  show ∃ as, Reads h (.str s t) (.str (sTab.getD c Str.empty)) as
  rw [this]
  exact ⟨_, Reads.str s t⟩
theorem rd_all {l : List PV} {vs : List Value} (d : VDens Λ ρ h l vs) : (∀ v ∈ l, ∃ n, isData n v = true) → ∃ as, ReadsAll h vs (kqdPs (datPs l)) as :=
  VDens.rec (motive_1 := fun v val _ => (∃ n, isData n v = true) → ∃ as, Reads h val (kqdP (datP v)) as) (motive_2 := fun l vs _ => (∀ v ∈ l, ∃ n, isData n v = true) → ∃ as, ReadsAll h vs (kqdPs (datPs l)) as)
    (fun _ => ⟨_, Reads.none⟩) (fun b k => k.elim fun n k => (isData_K k).elim) (fun i t _ => ⟨_, Reads.int i t⟩) (fun c s t e _ => rd_str e) (fun v k => k.elim fun n k => (isData_K k).elim)
    (fun _ ht _ ih k => by
      obtain ⟨o, ho, hc, m, hd⟩ := ht
      obtain ⟨as, q⟩ := ih (k.elim fun n k => isData_S (.inl k))
      exact ⟨as, reads_tuple_at ho hc hd q⟩)
    (fun _ ht _ ih k => by
      obtain ⟨o, ho, hc, m, hd⟩ := ht
      obtain ⟨as, q⟩ := ih (k.elim fun n k => isData_S (.inr k))
      exact ⟨_, reads_list_at ho hc hd q⟩)
    (fun _ _ _ _ _ _ k => k.elim fun n k => (isData_K k).elim) (fun _ k => k.elim fun n k => (isData_K k).elim) (fun _ _ _ _ _ _ _ _ _ _ _ k => k.elim fun n k => (isData_K k).elim)
    (fun _ => ⟨_, ReadsAll.nil⟩)
    (fun _ _ a b k => by
      obtain ⟨as, q⟩ := a (k _ (.head _))
      obtain ⟨bs, p⟩ := b fun v hv => k v (.tail _ hv)
      exact ⟨_, ReadsAll.cons q p⟩) d
theorem rd_one (n : Nat) {v : PV} {val : Value} (d : VDen Λ ρ h v val) (k : isData n v = true) : ∃ as, Reads h val (kqdP (datP v)) as := by
  obtain ⟨as, q⟩ := rd_all (.cons d .nil) fun x hx => (List.mem_singleton.mp hx).symm ▸ ⟨n, k⟩
  cases q with | cons a b => exact ⟨_, a⟩
end

theorem data_eqv {x y : PV} (hx : isData 6 x = true) (hy : isData 6 y = true) : PyData.eqv (kqdP (datP x)) (kqdP (datP y)) = true ↔ x = y := by
  rw [kqd_eqv 6 _ _ 6 (isData_ok 6 x hx) (isData_ok 6 y hy)]
  exact ⟨fun e => isData_inj 6 6 x y hx hy e, fun e => by rw [e]⟩
theorem data_shaped {x : PV} (hx : isData 6 x = true) : SeqAt.shaped (kqdP (datP x)) = true := by
  have l := kqd_lay 6 _ (isData_ok 6 x hx)
  unfold SeqAt.shaped
  rw [l.1, Bool.true_and]
  exact decide_eq_true (Nat.le_trans l.2 (by decide))

section
variable {prog : Program} {w : World} {A : Around} {n : Nat} {g : Heap} {Λ : List LamT} {ρ : Rho} {μ : List AO} {s s' : Shared} {x y : PV} {vx vy : Value}
open Classical in
/- a comparison -/
theorem cmp_ok (hA : Room n A) (S : Sees g Λ ρ μ s) (dx : VDen Λ ρ s.heap x vx) (dy : VDen Λ ρ s.heap y vy) {op : CmpOp} {Q : Bool → Prop} (h : cmpP op x y Q) {R : Value → Shared → Prop} (hR : ∀ b tk, Q b → R (.bool b) { s with toks := tk }) :
    wpAny (model prog w) A (compareOp op vx vy) R NoE s := by
  have hu := hA.cLine
  have hR0 : ∀ b, Q b → R (.bool b) s := fun b q => hR b s.toks q
  unfold cmpP at h
  split at h
  · obtain ⟨hx, hy, hq⟩ := h
    obtain ⟨as, ra⟩ := rd_one 6 dx hx
    obtain ⟨bs, rb⟩ := rd_one 6 dy hy
    exact eq_dataH ra rb (data_shaped hx) (data_shaped hy) (by (exact Nat.le_of_lt ‹_›)) (hR0 _ (hq _ (data_eqv hx hy)))
  · obtain ⟨hx, hy, hq⟩ := h
    obtain ⟨as, ra⟩ := rd_one 6 dx hx
    obtain ⟨bs, rb⟩ := rd_one 6 dy hy
    refine ne_dataH ra rb (data_shaped hx) (data_shaped hy) (by (exact Nat.le_of_lt ‹_›)) (hR0 _ (hq _ ?_))
    have := data_eqv hx hy
    rw [Bool.not_eq_true', ← Bool.not_eq_true, this]
  · obtain ⟨i, j, rfl, rfl, q⟩ := h; obtain ⟨_, rfl⟩ := dx.inv; obtain ⟨_, rfl⟩ := dy.inv; exact lt_int (hR0 _ q)
  · obtain ⟨i, j, rfl, rfl, q⟩ := h; obtain ⟨_, rfl⟩ := dx.inv; obtain ⟨_, rfl⟩ := dy.inv; exact le_int (hR0 _ q)
  · obtain ⟨i, j, rfl, rfl, q⟩ := h; obtain ⟨_, rfl⟩ := dx.inv; obtain ⟨_, rfl⟩ := dy.inv; exact gt_int (hR0 _ q)
  · obtain ⟨i, j, rfl, rfl, q⟩ := h; obtain ⟨_, rfl⟩ := dx.inv; obtain ⟨_, rfl⟩ := dy.inv; exact ge_int (hR0 _ q)
  · obtain ⟨rfl, q⟩ := h
    obtain rfl := dy.inv
    refine is_none ?_
    cases dx <;> first | exact hR0 _ q | exact q.elim
  · exact h.elim
  · split at h
    · obtain ⟨hc, hd, q⟩ := h
      obtain ⟨_, _, rfl, e1⟩ := dx.inv
      obtain ⟨_, _, rfl, e2⟩ := dy.inv
      refine in_str (hR0 _ ?_)
      unfold inStr at q
      rw [List.getD_eq_getElem?_getD, List.getD_eq_getElem?_getD, e1, e2] at q
      exact q
    · obtain ⟨l, el, hx, hl, hq⟩ := h
      obtain ⟨bs, rx⟩ := rd_one 6 dx hx
      have ld := kqd_lay 6 _ (isData_ok 6 x hx)
      have lall : PyData.canLayAll0 (kqdPs (datPs l)) = true := by
        have := kqd_lay 7 (.list (datPs l)) (by simp only [kqdOk, List.all_eq_true, datPs_eq, List.mem_map]; rintro d ⟨z, hz, rfl⟩; exact isData_ok 6 z (hl z hz))
        simp only [kqdP, PyData.canLay0] at this
        exact this.1
      have key : ((kqdPs (datPs l)).any fun z => PyData.eqv z (kqdP (datP x))) = true ↔ x ∈ l := by
        clear el hq lall
        induction l with
        | nil => simp [datPs, kqdPs]
        | cons z l ih =>
          simp only [datPs, kqdPs, List.any_cons, Bool.or_eq_true, List.mem_cons]
          rw [data_eqv (hl z (.head _)) hx, ih fun y hy => hl y (.tail _ hy)]
          exact ⟨fun h => h.imp Eq.symm id, fun h => h.imp Eq.symm id⟩
      have room : A.units + 1 + min (PyData.depthAll (kqdPs (datPs l))) (kqdP (datP x)).depth < cLine := by
        have := Nat.min_le_right (PyData.depthAll (kqdPs (datPs l))) (kqdP (datP x)).depth
        have := ld.2
        omega
      cases dy with
      | tup sa ht dv =>
        simp only [seqOf, Option.some.injEq] at el
        subst el
        obtain ⟨o, ho, hc, m, hd⟩ := ht
        obtain ⟨as, q⟩ := rd_all dv fun v hv => ⟨6, hl v hv⟩
        exact SeqAt.in_tuple_reads (reads_tuple_at ho hc hd (by simpa using q)) rx lall ld.1 room (hR0 _ (hq _ key))
      | lst sa ht dv =>
        simp only [seqOf, Option.some.injEq] at el
        subst el
        obtain ⟨o, ho, hc, m, hd⟩ := ht
        obtain ⟨as, q⟩ := rd_all dv fun v hv => ⟨6, hl v hv⟩
        exact SeqAt.in_list_reads (reads_list_at ho hc hd (by simpa using q)) rx lall ld.1 room (hR0 _ (hq _ key))
      | _ => simp [seqOf] at el
  · split at h
    · exact h.elim
    · obtain ⟨l, el, hx, hl, hq⟩ := h
      obtain ⟨bs, rx⟩ := rd_one 6 dx hx
      have ld := kqd_lay 6 _ (isData_ok 6 x hx)
      have lall : PyData.canLayAll0 (kqdPs (datPs l)) = true := by
        have := kqd_lay 7 (.list (datPs l)) (by simp only [kqdOk, List.all_eq_true, datPs_eq, List.mem_map]; rintro d ⟨z, hz, rfl⟩; exact isData_ok 6 z (hl z hz))
        simp only [kqdP, PyData.canLay0] at this
        exact this.1
      have key : (!(kqdPs (datPs l)).any fun z => PyData.eqv z (kqdP (datP x))) = true ↔ x ∉ l := by
        rw [Bool.not_eq_true', ← Bool.not_eq_true]
        refine not_congr ?_
        clear el hq lall
        induction l with
        | nil => simp [datPs, kqdPs]
        | cons z l ih =>
          simp only [datPs, kqdPs, List.any_cons, Bool.or_eq_true, List.mem_cons]
          rw [data_eqv (hl z (.head _)) hx, ih fun y hy => hl y (.tail _ hy)]
          exact ⟨fun h => h.imp Eq.symm id, fun h => h.imp Eq.symm id⟩
      have room : A.units + 1 + min (PyData.depthAll (kqdPs (datPs l))) (kqdP (datP x)).depth < cLine := by
        have := Nat.min_le_right (PyData.depthAll (kqdPs (datPs l))) (kqdP (datP x)).depth
        have := ld.2
        omega
      cases dy with
      | tup sa ht dv =>
        simp only [seqOf, Option.some.injEq] at el
        subst el
        obtain ⟨o, ho, hc, m, hd⟩ := ht
        obtain ⟨as, q⟩ := rd_all dv fun v hv => ⟨6, hl v hv⟩
        exact SeqAt.notIn_tuple_reads (reads_tuple_at ho hc hd (by simpa using q)) rx lall ld.1 room (hR0 _ (hq _ key))
      | lst sa ht dv =>
        simp only [seqOf, Option.some.injEq] at el
        subst el
        obtain ⟨o, ho, hc, m, hd⟩ := ht
        obtain ⟨as, q⟩ := rd_all dv fun v hv => ⟨6, hl v hv⟩
        exact SeqAt.notIn_list_reads (reads_list_at ho hc hd (by simpa using q)) rx lall ld.1 room (hR0 _ (hq _ key))
      | _ => simp [seqOf] at el
end

/- MSub -/


/- items and cuts -/
theorem cut_clip (n : Nat) (k : Int) : (if k < 0 then max (k + n) 0 else min k n : Int) = (cutAt n k : Nat) := by
  unfold cutAt
  split <;> (first | (simp; done) | lia)
theorem cutAt_le (n : Nat) (k : Int) (h : k ≤ n ∨ 0 ≤ k) : cutAt n k ≤ n := by
  unfold cutAt
  split <;> omega

noncomputable def cutLo (n : Nat) (a : Option Int) : Nat := (a.map (cutAt n)).getD 0
noncomputable def cutHi (n : Nat) (b : Option Int) : Nat := (b.map (cutAt n)).getD n
theorem cutHi_le (n : Nat) (b : Option Int) : cutHi n b ≤ n := by
  cases b with
  | none => exact Nat.le_refl _
  | some k => show cutAt n k ≤ n; unfold cutAt; split <;> omega

theorem adjust_cut (n : Nat) (a b : Option Int) : Builtin.Slice.sliceAdjust a b 1 n = (((cutLo n a : Nat) : Int), ((cutHi n b : Nat) : Int)) := by
  unfold Builtin.Slice.sliceAdjust
  have h1 : ¬ ((1 : Int) < 0) := by decide
  simp only [h1, if_false]
  cases a <;> cases b <;> simp only [cutLo, cutHi, Option.map_none, Option.map_some, Option.getD_none, Option.getD_some, cut_clip] <;> rfl
theorem places_cut (a b : Nat) : Builtin.Slice.slicePlaces a b 1 = b - a := by
  unfold Builtin.Slice.slicePlaces
  have h1 : (1 : Int) > 0 := by (exact Int.natCast_nonneg _)
  simp only [h1, if_true, Int.ediv_one]
  split <;> (first | (simp; done) | lia)

theorem pick_cut (vs : List Value) (a b : Nat) (hb : b ≤ vs.length) : ((List.range (b - a)).filterMap fun (k : Nat) => vs.toArray[((a : Int) + (k : Int) * 1).toNat]?) = (vs.take b).drop a := by
  have e : (fun (k : Nat) => vs.toArray[((a : Int) + (k : Int) * 1).toNat]?) = fun k => vs.toArray[a + k]? := by
    funext k
    have : ((a : Int) + (k : Int) * 1).toNat = a + k := by (exact (Nat.add_assoc ..).symm)
    rw [this]
  rw [e]
  have := pick_run vs.toArray a (b - a)
  rw [List.filterMap_map] at this
  have e2 : ((fun x => vs.toArray[x]?) ∘ fun x => a + x) = fun k => vs.toArray[a + k]? := rfl
  rw [e2] at this
  have h3 := congrArg List.toArray this
  have h4 : (List.range (b - a)).filterMap (fun k => vs.toArray[a + k]?) = List.take (b - a) (List.drop a vs) := by simpa using this
  rw [h4, List.drop_take]

theorem slice_cut (vs : List Value) (a b : Option Int) : slicePick vs.toArray a b none = ((vs.take (cutHi vs.length b)).drop (cutLo vs.length a)).toArray := by
  unfold slicePick
  have e : sliceBounds a b none vs.toArray.size = (((cutLo vs.length a : Nat) : Int), ((cutHi vs.length b : Nat) : Int), (1 : Int)) := by
    have cl : ∀ k : Int, max 0 (min (if k < 0 then k + (vs.length : Int) else k) (vs.length : Int)) = ((cutAt vs.length k : Nat) : Int) := by
      intro k; unfold cutAt; split <;> lia
    refine Prod.ext ?_ (Prod.ext ?_ rfl)
    · cases a with
      | none => rfl
      | some k => exact cl k
    · cases b with
      | none => rfl
      | some k => exact cl k
  rw [e]
  dsimp only
  rw [sliceRange_one]
  congr 1
  have := pick_run vs.toArray (cutLo vs.length a) (cutHi vs.length b - cutLo vs.length a)
  rw [← List.drop_take] at this
  simpa using this

section
variable {prog : Program} {w : World} {A : Around} {n : Nat} {g : Heap} {Λ : List LamT} {ρ : Rho} {μ : List AO} {s s' : Shared} {Q : Post} {x y : PV} {vx vy : Value}

theorem sliceApplied_cut {sl : Addr} {va vb : Value} {a b : Option Int} {n : Nat} {Q : Int × Int × Nat → Shared → Prop} {E : Value → Shared → Prop} (hs : s.heap.IsSliceOf sl va vb .none) (pa : IsPart va a) (pb : IsPart vb b)
    (h : Q ((cutLo n a : Nat), 1, cutHi n b - cutLo n a) s) : wpAny (model prog w) A (Builtin.Slice.sliceApplied (.ref sl) (pure (n : Int))) Q E s := by
  obtain ⟨os, hos, hcs, hds⟩ := id hs
  unfold Builtin.Slice.sliceApplied Builtin.Slice.sliceFields
  refine wpAny_bind (wpAny_bind (wpAny_field hos hds (x := va) rfl (wpAny_bind (wpAny_field hos hds (x := vb) rfl (wpAny_bind (wpAny_field hos hds (x := .none) rfl (wpAny_pure ?_)))))))
  refine wpAny_bind (slicePart_none ?_)
  show wpAny _ _ (if ((1 : Int) == 0) = true then _ else _) _ _ s
  rw [if_neg (by decide)]
  have part : ∀ {v : Value} {k : Option Int} {R : Option Int → Shared → Prop}, IsPart v k → R k s → wpAny (model prog w) A (Builtin.Slice.slicePartIndex v) R E s := by
    intro v k R p q
    cases p with
    | none => exact slicePart_none q
    | int i t => exact slicePart_int q
  refine wpAny_bind (part pa (wpAny_bind (part pb (wpAny_bind (wpAny_pure ?_)))))
  show wpAny _ _ (match Builtin.Slice.sliceAdjust a b 1 (n : Int) with | (lo, hi) => pure (lo, (1 : Int), Builtin.Slice.slicePlaces lo hi 1)) _ _ s
  rw [adjust_cut]
  show wpAny _ _ (pure (((cutLo n a : Nat) : Int), (1 : Int), Builtin.Slice.slicePlaces ((cutLo n a : Nat) : Int) ((cutHi n b : Nat) : Int) 1)) _ _ s
  rw [places_cut]
  exact wpAny_pure h

theorem getItem_tuple_cut {t sl : Addr} {vs : List Value} {va vb : Value} {a b : Option Int} {Q : Value → Shared → Prop} {E : Value → Shared → Prop} (ht : IsTup s.heap t vs.toArray) (hs : s.heap.IsSliceOf sl va vb .none) (pa : IsPart va a) (pb : IsPart vb b)
    (h1 : (vs.take (cutHi vs.length b)).drop (cutLo vs.length a) = vs → Q (.ref t) s)
    (h2 : Q (.ref s.heap.objs.size) { s with heap := s.heap.push { cls := .type "tuple", data := .seq ((vs.take (cutHi vs.length b)).drop (cutLo vs.length a)).toArray } })
    (hsz : vs.length ≤ sizeLine) : wpAny (model prog w) A (getItem (.ref t) (.ref sl)) Q E s := by
  have hcut : sizeOk (.seq ((vs.take (cutHi vs.length b)).drop (cutLo vs.length a)).toArray) := by
    show ((vs.take (cutHi vs.length b)).drop (cutLo vs.length a)).toArray.size ≤ sizeLine
    rw [List.size_toArray, List.length_drop, List.length_take]
    omega
  obtain ⟨os, hos, hcs, hds⟩ := id hs
  have hTs : s.TypeIs (.ref sl) "slice" := ⟨os, hos, hcs⟩
  unfold getItem
  try with_reducible refine wpAny_holding ?_
  first | refine wpAny_bind (wpAny_pure ?_) | skip
  refine wpAny_bind (wpAny_sequenceKey ht.typeIs (by decide) ?_)
  refine wpAny_bind (wpAny_callSpecial?_slot (name := Str.ofString "__getitem__") ht.typeIs slot_tuple_getitem
    (wpAny_call_entry slot_tuple_getitem ht.typeIs entry_tuple_getitem ?_ (args_tuple_getitem _ _)))
  show wpAny _ _ (Builtin.Tuple.tupleItemsOf (.ref t) >>= _) _ _ s
  refine wpAny_bind (tupleItemsOf_ ht ?_)
  refine wpAny_bind (wpAny_typeOf hTs ?_)
  rw [if_pos (by decide)]
  refine wpAny_bind (m := Builtin.Slice.sliceApplied (.ref sl) (pure ((vs.toArray.size : Nat) : Int))) (sliceApplied_cut hs pa pb ?_)
  show wpAny _ _ (if (((cutLo vs.toArray.size a : Nat) : Int) == 0 && (1 : Int) == 1 && (cutHi vs.toArray.size b - cutLo vs.toArray.size a) == vs.toArray.size) = true then _ else _) _ _ s
  rw [List.size_toArray]
  split
  · rename_i hw
    simp only [Bool.and_eq_true, beq_iff_eq] at hw
    have hle := cutHi_le vs.length b
    have e : (vs.take (cutHi vs.length b)).drop (cutLo vs.length a) = vs := by
      have e1 : cutLo vs.length a = 0 := by lia
      have e2 : cutHi vs.length b = vs.length := by lia
      rw [e1, e2, List.drop_zero, List.take_length]
    obtain ⟨o, ho, hc, m, hd⟩ := ht
    unfold Builtin.Tuple.tupleIsExact
    have hT : s.TypeIs (.ref t) "tuple" := ⟨o, ho, hc⟩
    first
      | exact wpAny_bind (wpAny_bind (wpAny_typeOf hT (wpAny_pure (wpAny_bind (wpAny_rule (wpAny_bind (wpAny_pure (wpAny_pure ⟨_, rfl, wpAny_pure (h1 e)⟩))))))))
      | exact wpAny_bind (wpAny_bind (wpAny_typeOf hT (wpAny_pure (wpAny_bind (wpAny_rule (wpAny_pure ⟨_, rfl, wpAny_pure (h1 e)⟩))))))
  · rw [pick_cut vs _ _ (cutHi_le _ _)]
    first
      | exact wpAny_bind (m := Builtin.Tuple.tupleExact _) (wpAny_newObj_type (wpAny_pure ⟨_, rfl, wpAny_pure h2⟩) hcut)
      | exact wpAny_bind (m := Builtin.Tuple.tupleExact _) (wpAny_newObj_type (wpAny_bind (wpAny_pure (wpAny_pure ⟨_, rfl, wpAny_pure h2⟩))) hcut)
      | exact wpAny_bind (wpAny_bind (m := Builtin.Tuple.tupleExact _) (wpAny_newObj_type (wpAny_pure (wpAny_pure ⟨_, rfl, wpAny_pure h2⟩)) hcut))
      | exact wpAny_bind (wpAny_bind (m := Builtin.Tuple.tupleExact _) (wpAny_newObj_type (wpAny_pure ⟨_, rfl, wpAny_pure h2⟩) hcut))

theorem itemsOf_den (S : Sees g Λ ρ μ s) {l : List PV} (d : VDen Λ ρ s.heap x vx) (e : itemsOf x μ = some l) : ∃ a vs, vx = .ref a ∧ (IsTup s.heap a vs.toArray ∨ s.heap.IsList a vs.toArray) ∧ VDens Λ ρ s.heap l vs := by
  cases d with
  | tup sa ht dv => simp only [itemsOf, Option.some.injEq] at e; subst e; exact ⟨_, _, rfl, .inl ht, dv⟩
  | lst sa hl dv => simp only [itemsOf, listOf, Option.some.injEq] at e; subst e; exact ⟨_, _, rfl, .inr hl, dv⟩
  | obj e1 =>
    obtain ⟨a, vs, e2, hl, dv⟩ := listOf_den S (.obj e1) e
    exact ⟨a, vs, e2, .inr hl, dv⟩
  | _ => simp [itemsOf, listOf] at e

theorem sub_ok (S : Sees g Λ ρ μ s) (dx : VDen Λ ρ s.heap x vx) (dy : VDen Λ ρ s.heap y vy) (h : subP x y μ Q) {value slice : Expr} (hs : ∀ o i, subscripted slice false o i = operate [o, i] (getItem o i)) :
    wpAny (model prog w) A (subscriptTail value slice vx vy) (Out g Λ ρ s Q) NoE s := by
  obtain ⟨l, k, el, rfl, hz, hk⟩ := h
  obtain ⟨a, vs, rfl, ht, dv⟩ := itemsOf_den S dx el
  obtain ⟨_, rfl⟩ := dy.inv
  have hlen := dv.len
  have hsz : vs.toArray.size = l.length := by simpa using hlen
  rcases hk with ⟨h0, v, hv, q⟩ | ⟨h0, h1, v, hv, q⟩
  · obtain ⟨y, hy, d⟩ := dv.get hv
    have hlt : k.toNat < vs.length := (List.getElem?_eq_some_iff.mp hy).1
    have hx : vs.toArray[k.toNat]? = some y := by simpa using hy
    rcases ht with ht | hl
    · refine tail_any ht.typeIs slot_tuple_getitem.lookup (getItem_tuple ht (by lia) (by lia) (j := k.toNat) ?_ hx (Out.here S d q)) (hs _ _)
      unfold seqIndex?
      simp [Int.not_lt.mpr h0, h0]; lia
    · exact tail_any hl.typeIs slot_list_getitem.lookup (wpAny_getItem_list hl h0 (by lia) hx (Out.here S d q)) (hs _ _)
  · obtain ⟨y, hy, d⟩ := dv.get hv
    have hx : vs.toArray[(k + l.length).toNat]? = some y := by simpa using hy
    rcases ht with ht | hl
    · refine tail_any ht.typeIs slot_tuple_getitem.lookup (getItem_tuple ht (by lia) (by lia) (j := (k + l.length).toNat) ?_ hx (Out.here S d q)) (hs _ _)
      unfold seqIndex?
      rw [hsz]
      simp [h0]; lia
    · exact tail_any hl.typeIs slot_list_getitem.lookup (wpAny_getItem_list_neg hl h0 (by rw [hsz]; assumption) (by lia) (by rw [hsz]; exact hx) (Out.here S d q)) (hs _ _)

theorem part_den {lo : PV} {a : Option Int} {v : Value} {h : Heap} (d : VDen Λ ρ h lo v) (e : partOf lo = some a) : IsPart v a := by
  cases d <;> first | (simp only [partOf, reduceCtorEq] at e; done) | (simp only [partOf, Option.some.injEq] at e; subst e; constructor)

set_option tactic.hygienic true in
theorem sli_ok (S : Sees g Λ ρ μ s) {lo hi : PV} {vl vh : Value} (dx : VDen Λ ρ s.heap x vx) (d1 : VDen Λ ρ s.heap lo vl) (d2 : VDen Λ ρ s.heap hi vh) (h : sliP x lo hi μ Q) {value slice : Expr} (hs : ∀ o i, subscripted slice false o i = operate [i, o] (getItem o i)) :
    wpAny (model prog w) A (subscriptTail value slice vx (.ref s.heap.objs.size)) (Out g Λ ρ s Q) NoE { s with heap := s.heap.push { cls := .type "slice", data := .fields #[vl, vh, .none] } } := by
  obtain ⟨a, b, ea, eb, h⟩ := h
  have pa := part_den d1 ea
  have pb := part_den d2 eb
  have hk : ∀ b o', s.heap.get? b = some o' → (s.heap.push { cls := .type "slice", data := .fields #[vl, vh, .none] }).get? b = some o' := push_keeps _
  have S' : Sees g Λ ρ μ { s with heap := s.heap.push { cls := .type "slice", data := .fields #[vl, vh, .none] } } := S.grown hk rfl
  have lift : ∀ {val s2}, Out g Λ ρ { s with heap := s.heap.push { cls := .type "slice", data := .fields #[vl, vh, .none] } } Q val s2 → Out g Λ ρ s Q val s2 := by
    rintro val s2 ⟨ρ', v, μ', st, r1, r2, r3⟩
    have st0 : Steps [] ρ s ρ { s with heap := s.heap.push { cls := .type "slice", data := .fields #[vl, vh, .none] } } := Steps.grown hk rfl rfl
    exact ⟨ρ', v, μ', st0.trans st, r1, r2, r3⟩
  cases dx with
  | tup sa ht dv =>
    rename_i l t vs
    obtain ⟨hz, q⟩ := h
    have hlen := dv.len
    have ht' : IsTup (s.heap.push { cls := .type "slice", data := .fields #[vl, vh, .none] }) t vs.toArray := let ⟨o, ho, r⟩ := ht; ⟨o, hk _ _ ho, r⟩
    have hd := ((dv.grown hk).take (cutHi l.length b)).drop (cutLo l.length a)
    refine tail_any ht'.typeIs slot_tuple_getitem.lookup (getItem_tuple_cut ht' (Heap.IsSliceOf.new ..) pa pb (fun e => ?_) ?_ (by rw [hlen, sizeLine_eq]; (exact Nat.le_trans ‹_› (by decide)))) (hs _ _)
    · refine lift (Out.here S' (.tup sa ht' (l := (l.take (cutHi l.length b)).drop (cutLo l.length a)) ?_) q)
      rw [hlen] at e
      rw [e] at hd
      exact hd
    · rw [hlen]
      exact lift (Out.newTup (s := { s with heap := s.heap.push { cls := .type "slice", data := .fields #[vl, vh, .none] } }) S' rfl hd q)
  | lst sa hl dv =>
    rename_i l t vs
    obtain ⟨hz, q⟩ := h
    have hlen := dv.len
    have hl' : (s.heap.push { cls := .type "slice", data := .fields #[vl, vh, .none] }).IsList t vs.toArray := hl.push _
    have hd := ((dv.grown hk).take (cutHi l.length b)).drop (cutLo l.length a)
    refine tail_any hl'.typeIs slot_list_getitem.lookup (wpAny_getItem_list_slice hl' (Heap.IsSliceOf.new ..) pa pb .none (by simp) ?_ (by rw [List.size_toArray, hlen, sizeLine_eq]; (exact Nat.le_trans ‹_› (by decide)))) (hs _ _)
    rw [slice_cut, hlen]
    exact lift (Out.newList (s := { s with heap := s.heap.push { cls := .type "slice", data := .fields #[vl, vh, .none] } }) S' rfl hd q)
  | _ => exact h.elim
end

/- MAttr -/



structure ClsOk (K : Frag) (C : Addr) : Prop where
  ga : findIn K (.ref C) "__getattribute__" = some (some (.builtin "object.__getattribute__"))
  gm : findIn K (.ref C) "__getattr__" = some none
  sa : findIn K (.ref C) "__setattr__" = some (some (.builtin "object.__setattr__"))
  cd : ∃ cd, clsIn K C = some cd ∧ cd.hasDict = true
  po : plainOver K C = true
  fl : ∀ f, f < fTab.length → findIn K (.ref C) (fTab.getD f Str.empty) = some none

theorem clsOk_all (P : Params) : ∀ C ∈ clsA, ClsOk (KK P) C := by
  have fl : ∀ C ∈ clsA, ∀ f, f < fTab.length → findIn (KK P) (.ref C) (fTab.getD f Str.empty) = some none := by
    have : (clsA.all fun C => (List.range fTab.length).all fun f => findIn (KK P) (.ref C) (fTab.getD f Str.empty) == some none) = true := by kernel_rfl
    intro C hC f hf
    have h1 := List.all_eq_true.mp this C hC
    have h2 := List.all_eq_true.mp h1 f (List.mem_range.mpr hf)
    simpa using h2
  intro C hC
  have fl' := fl C hC
  simp only [clsA, List.mem_cons, List.not_mem_nil, or_false] at hC
  rcases hC with rfl | rfl | rfl
  · exact ⟨by kernel_rfl, by kernel_rfl, by kernel_rfl, ⟨_, rfl, rfl⟩, by kernel_rfl, fl'⟩
  · exact ⟨by kernel_rfl, by kernel_rfl, by kernel_rfl, ⟨_, rfl, rfl⟩, by kernel_rfl, fl'⟩
  · exact ⟨by kernel_rfl, by kernel_rfl, by kernel_rfl, ⟨_, rfl, rfl⟩, by kernel_rfl, fl'⟩


theorem fTab_inj0 : ∀ c, c < fTab.length → ∀ d, d < fTab.length → fTab.getD c Str.empty = fTab.getD d Str.empty → c = d := by decide +kernel
theorem fTab_get {f : Nat} (h : f < fTab.length) : fTab[f]? = some (fTab.getD f Str.empty) := by
  rw [List.getD_eq_getElem?_getD, List.getElem?_eq_getElem h]; rfl
theorem fTab_ne {k f : Nat} (hf : f < fTab.length) (e : fTab[k]? = some (fTab.getD f Str.empty)) : k = f := by
  have hk : k < fTab.length := (List.getElem?_eq_some_iff.mp e).1
  refine fTab_inj0 k hk f hf ?_
  rw [fTab_get hk] at e
  exact Option.some.inj e

theorem lookIn_ns {o : Obj} {es : Array DictEntry} {ep : Nat} {name : Str} (hd : o.data = .dict es ep) (hk : StrKeys es) : lookIn name o = some (nsFind es name) := by
  unfold lookIn
  rw [hd]
  dsimp only
  have e : es.toList.find? (fun x => x.key.isStr name) = es.find? (fun x => x.key.isStr name) := Array.find?_toList ..
  unfold nsFind findBy
  cases hf : es.find? (fun x => x.key.isStr name) with
  | some en => rw [e, hf]; rfl
  | none =>
    rw [e, hf]
    have : es.toList.any (·.refKey) = false := by
      rw [List.any_eq_false]; intro en he
      obtain ⟨n, t, h⟩ := hk en (Array.mem_toList_iff.mp he); simp [DictEntry.refKey, h]
    simp only [this, Bool.false_eq_true, if_false, Option.map_none]

theorem findObj_ns {K : Frag} {C : Addr} (H : ClsOk K C) {o : Obj} {es : Array DictEntry} {ep : Nat} {f : Nat} {v : Value} (hf : f < fTab.length) (hd : o.data = .dict es ep) (hk : StrKeys es) (e : nsFind es (fTab.getD f Str.empty) = some v) :
    findObj K C (some o) (fTab.getD f Str.empty) = some (.value v) := by
  obtain ⟨cd, h1, h2⟩ := H.cd
  unfold findObj
  rw [h1, H.fl f hf]
  simp only [Option.bind_some]
  unfold PySem.W.ownOf
  simp only [h2, if_true, lookIn_ns hd hk, e, Option.bind_some]

section
variable {prog : Program} {w : World} {A : Around} {n : Nat} {g : Heap} {Λ : List LamT} {ρ : Rho} {μ : List AO} {s s' : Shared} {Q : Post} {x y : PV} {vx vy : Value}

theorem fieldOf_den {h : Heap} : ∀ {ks : List Nat} {l : List PV} {vs : List Value} {f : Nat} {v : PV}, f < fTab.length → VDens Λ ρ h l vs → fieldOf ks l f = some v → ∃ val, nsOf ks vs (fTab.getD f Str.empty) = some val ∧ VDen Λ ρ h v val
  | [], _, _, _, _, _, _, e => by simp [fieldOf] at e
  | k :: ks, [], _, _, _, _, _, e => by simp [fieldOf] at e
  | k :: ks, p :: l, _, f, v, hf, .cons d ds, e => by
    simp only [fieldOf] at e
    simp only [nsOf]
    by_cases hkf : k = f
    · subst hkf
      simp only [if_true, Option.some.injEq] at e
      subst e
      exact ⟨_, by rw [if_pos (fTab_get hf)], d⟩
    · rw [if_neg hkf] at e
      obtain ⟨val, h1, h2⟩ := fieldOf_den hf ds e
      exact ⟨val, by rw [if_neg fun q => hkf (fTab_ne hf q)]; exact h1, h2⟩

theorem handed_of {h : Heap} {v : PV} {val : Value} (d : VDen Λ ρ h v val) (e : plainV v = true) : handedIn val = true := by
  cases d <;> first | rfl | (simp [plainV] at e)

/- reading a field -/
theorem get_inst (X : (KK w.params).In s.heap) {C a d : Addr} {ks : List Nat} {l : List PV} {vs : List Value} {f : Nat} {v : PV} (hC : C ∈ clsA) (hf : f < fTab.length) (e1 : s.heap.get? a = some (instObj C d)) (hn : s.heap.Ns d (nsOf ks vs)) (dv : VDens Λ ρ s.heap l vs)
    (e2 : fieldOf ks l f = some v) (hp : plainV v = true) {R : Value → Shared → Prop} {E : Value → Shared → Prop} {b : Bool} (h : ∀ val, VDen Λ ρ s.heap v val → R val { s with toks := s.toks + 1 }) : wpAny (model prog w) A (getAttr (.ref a) (fTab.getD f Str.empty) b) R E s := by
  obtain ⟨val, h1, h2⟩ := fieldOf_den hf dv e2
  obtain ⟨o, es, ep, ho, hd, hk, hm⟩ := hn
  have H := clsOk_all w.params C hC
  exact get_value X (ox := instObj C d) (od := some o) ⟨e1, rfl, rfl, ho⟩ H.ga (findObj_ns H hf hd hk ((hm _).trans h1)) (handed_of h2 hp) (h val h2)

theorem attr_ok (X : (KK w.params).In s.heap) (S : Sees g Λ ρ μ s) (dx : VDen Λ ρ s.heap x vx) {f : Nat} (h : attrP x f μ Q) {b : Bool} : wpAny (model prog w) A (getAttr vx (fTab.getD f Str.empty) b) (Out g Λ ρ s Q) NoE s := by
  obtain ⟨hf, h⟩ := h
  cases dx with
  | inst sx sd e1 hn dv =>
    obtain ⟨hC, v, e2, hp, q⟩ := h
    exact get_inst X hC hf e1 hn dv e2 hp fun val d => Out.tk S d q
  | obj e0 =>
    obtain ⟨C, ks, l, v, hm, hC, e2, hp, q⟩ := h
    obtain ⟨p, hp', od⟩ := S.pair hm
    rw [e0] at hp'; cases hp'
    obtain ⟨_, e1, vs, hn, dv⟩ := od
    exact get_inst X hC hf e1 hn.ns dv e2 hp fun val d => Out.tk S d q
  | _ => exact h.elim

/- one object turned -/
theorem VDens.turned {n : Nat} {p : Addr × Addr} {h h' : Heap} (hp : ρ.objs[n]? = some p) (hs : ∀ b, b ≠ p.1 → b ≠ p.2 → h'.get? b = h.get? b) {l : List PV} {vs : List Value} (d : VDens Λ ρ h l vs) : VDens Λ ρ h' l vs := by
  have nof : ∀ b, b ∉ ofoot ρ → b ≠ p.1 ∧ b ≠ p.2 := fun b hb => ⟨fun e => hb (mem_ofoot.mpr ⟨p, List.mem_of_getElem? hp, .inl e⟩), fun e => hb (mem_ofoot.mpr ⟨p, List.mem_of_getElem? hp, .inr e⟩)⟩
  exact d.mono (fun b o e sf => ⟨sf, (hs b (nof b sf.1).1 (nof b sf.1).2).trans e⟩) (fun b o e h1 _ _ => ⟨h1, (hs b (nof b h1).1 (nof b h1).2).trans e⟩) fun _ _ h => h

theorem Sees.turned (S : Sees g Λ ρ μ s) {n : Nat} {p : Addr × Addr} {o : AO} (hp : ρ.objs[n]? = some p) (hs : ∀ b, b ≠ p.1 → b ≠ p.2 → s'.heap.get? b = s.heap.get? b) (hg : s'.gens = s.gens)
    (od : ODen Λ ρ s'.heap p o) : Sees g Λ ρ (μ.set n o) s' where
  base := fun b x e => by
    have hb := S.base b x e
    refine (hs b ?_ ?_).trans hb
    · rintro rfl; have := S.apart p.1 (.inl (mem_ofoot.mpr ⟨p, List.mem_of_getElem? hp, .inl rfl⟩)); rw [e] at this; cases this
    · rintro rfl; have := S.apart p.2 (.inl (mem_ofoot.mpr ⟨p, List.mem_of_getElem? hp, .inr rfl⟩)); rw [e] at this; cases this
  apart := S.apart
  frlt := fun b hb => by
    obtain ⟨o', e⟩ := S.frlt b hb
    have nof : b ≠ p.1 ∧ b ≠ p.2 := ⟨fun e => S.frof b hb (mem_ofoot.mpr ⟨p, List.mem_of_getElem? hp, .inl e⟩), fun e => S.frof b hb (mem_ofoot.mpr ⟨p, List.mem_of_getElem? hp, .inr e⟩)⟩
    exact ⟨o', (hs b nof.1 nof.2).trans e⟩
  frof := S.frof
  tabof := S.tabof
  len := by rw [List.length_set]; exact S.len
  objs := fun m q r h1 h2 => by
    by_cases hmn : m = n
    · subst hmn
      rw [hp] at h1; cases h1
      have hm : m < μ.length := by rw [← S.len]; exact (List.getElem?_eq_some_iff.mp hp).1
      rw [List.getElem?_set_self hm] at h2
      cases h2; exact od
    · rw [List.getElem?_set_ne (Ne.symm hmn)] at h2
      have dd := S.objs m q r h1 h2
      have ne := S.dist m n q p h1 hp hmn
      have ne2 := S.dist n m p q hp h1 (Ne.symm hmn)
      cases r with
      | lst l =>
        obtain ⟨e, vs, ⟨n', ho⟩, dv⟩ := dd
        exact ⟨e, vs, ⟨n', (hs _ ne.1 ne.2.1).trans ho⟩, dv.turned hp hs⟩
      | inst C ks l =>
        obtain ⟨e, e1, vs, hn, dv⟩ := dd
        exact ⟨e, (hs _ ne.1 ne.2.1).trans e1, vs, hn.at' fun o' ho => (hs _ (Ne.symm ne2.2.1) ne.2.2).trans ho, dv.turned hp hs⟩
  dist := S.dist
  tabs := fun P hP => by
    have nof : ∀ b, b ∉ ofoot ρ → b ≠ p.1 ∧ b ≠ p.2 := fun b hb => ⟨fun e => hb (mem_ofoot.mpr ⟨p, List.mem_of_getElem? hp, .inl e⟩), fun e => hb (mem_ofoot.mpr ⟨p, List.mem_of_getElem? hp, .inr e⟩)⟩
    obtain ⟨ps, e, t, q⟩ := S.tabs P hP
    have k : ∀ b o, b ∉ ofoot ρ → s.heap.get? b = some o → s'.heap.get? b = some o := fun b o hb e => (hs b (nof b hb).1 (nof b hb).2).trans e
    refine ⟨ps, k _ _ (S.tabof P hP).1 e, t, fun L hL hp => (q L hL hp).imp id ?_⟩
    rintro ⟨c', oc, e1, e2, e3, e4⟩
    exact ⟨c', oc, e1, e2, k _ _ e2.1 e3, e4⟩
  gens := hg.trans S.gens

theorem Steps.turned {X : List Addr} {n : Nat} {p : Addr × Addr} (hp : ρ.objs[n]? = some p) (hs : ∀ b, b ≠ p.1 → b ≠ p.2 → s'.heap.get? b = s.heap.get? b) (hl1 : ∃ o, s'.heap.get? p.1 = some o) (hl2 : ∃ o, s'.heap.get? p.2 = some o) (hos : s'.os = s.os) (hg : s'.gens = s.gens) : Steps X ρ s ρ s' :=
  ⟨rfl, ⟨[], by simp, fun _ h => by cases h⟩, fun b o e h1 _ _ => (hs b (fun e => h1 (mem_ofoot.mpr ⟨p, List.mem_of_getElem? hp, .inl e⟩)) (fun e => h1 (mem_ofoot.mpr ⟨p, List.mem_of_getElem? hp, .inr e⟩))).trans e, fun b o e => by
    by_cases h1 : b = p.1
    · subst h1; exact hl1
    · by_cases h2 : b = p.2
      · subst h2; exact hl2
      · exact ⟨o, (hs b h1 h2).trans e⟩, hos, hg⟩

theorem nsSet_ok {M : Model} {A : Around} {E : Value → Shared → Prop} {s : Shared} {a : Addr} {m : Str → Option Value} {k : Nat} {name : Str} {v : Value} {Q : Unit → Shared → Prop} (hn : NsB s.heap a m k)
    (h : ∀ h', NsB h' a (fun x => if x = name then some v else m x) (if m name = none then k + 1 else k) → Heap.SameBut a s.heap h' → Q () { s with heap := h', toks := s.toks + 1 }) : wpAny M A (nsSet a name v) Q E s := by
  obtain ⟨o, es, ep, ho, hd, hk, hm, hz⟩ := hn
  unfold nsSet
  refine wpAny_bind (wpAny_bind (wpAny_askSetting (wpAny_pure (wpAny_bind (wpAny_mkText (wpAny_bind (wpAny_loadPart ho ?_)))))))
  rw [hd]
  dsimp only
  have hany : es.any (·.refKey) = false := by
    rw [Array.any_eq_false']; intro e he; obtain ⟨n, t, h⟩ := hk e he; simp [DictEntry.refKey, h]
  have c : aRefKeyMayBeTheName name es = false := by
    rw [aRefKeyMayBeTheName_eq]
    unfold aRefKeyMayBeTheNameByArray
    rw [hany, Bool.and_false]
  rw [c]
  simp only [Bool.false_eq_true, if_false]
  refine wpAny_updatePart ho (h _ ?_ (Heap.SameBut.update ..))
  obtain ⟨cc, d, dt, sl⟩ := o
  subst hd
  have hsome : (∃ i, es.findIdx? (·.key.isStr name) = some i) → m name ≠ none := by
    rintro ⟨i, hi⟩ hnone
    rw [← hm name] at hnone
    unfold nsFind at hnone
    rw [findBy_of_findIdx?, hi] at hnone
    have := (Array.findIdx?_eq_some_iff_getElem.mp hi).1
    simp [this] at hnone
  cases hi : es.findIdx? (·.key.isStr name) with
  | some i =>
    refine ⟨_, es.modify i _, ep, Heap.get?_update_self _ ho (by simp only [Obj.putName_eq, Obj.putNameByArray, hi]; rfl), by simp only [Obj.putName_eq, Obj.putNameByArray, hi]; rfl, hk.modify _ _, fun x => ?_, ?_⟩
    · show _ = if x = name then some v else m x
      rw [← hm]; exact findBy_modify (fun n v => v.isStr n) Value.isStr_inj es name x v i hi
    · rw [if_neg (hsome ⟨i, hi⟩), Array.size_modify]; exact hz
  | none =>
    refine ⟨_, es.push _, ep + 1, Heap.get?_update_self _ ho (by simp only [Obj.putName_eq, Obj.putNameByArray, hi]; rfl), by simp only [Obj.putName_eq, Obj.putNameByArray, hi]; rfl, hk.push _ _ _ _, fun x => ?_, ?_⟩
    · show _ = if x = name then some v else m x
      rw [← hm]
      exact findBy_push (fun n v => v.isStr n) es name x _ _ v (fun y => by
        show (name == y) = decide (y = name)
        by_cases h : y = name
        · subst h; simp
        · have : ¬ name = y := fun e => h e.symm
          simp [h, this]) hi
    · have : m name = none := by
        rw [← hm name]; unfold nsFind; rw [findBy_of_findIdx?, hi]
      rw [if_pos this, Array.size_push]; (exact Nat.lt_succ_of_le ‹_›)

theorem nsOf_new {f : Nat} {v : Value} (hf : f < fTab.length) : ∀ {ks : List Nat} {vs : List Value}, ks.length = vs.length → f ∉ ks → ∀ x, nsOf (ks ++ [f]) (vs ++ [v]) x = if x = fTab.getD f Str.empty then some v else nsOf ks vs x
  | [], [], _, _, x => by
    simp only [List.nil_append, nsOf, fTab_get hf, Option.some.injEq]
    by_cases h : x = fTab.getD f Str.empty
    · rw [if_pos h.symm, if_pos h]
    · rw [if_neg fun q => h q.symm, if_neg h]
  | k :: ks, a :: vs, hl, hn, x => by
    simp only [List.cons_append, nsOf]
    rw [nsOf_new hf (by simpa using hl) (fun h => hn (.tail _ h)) x]
    by_cases hx : x = fTab.getD f Str.empty
    · subst hx
      rw [if_neg fun q => hn (by rw [fTab_ne hf q]; exact .head _), if_pos rfl]
      rw [if_pos rfl]
    · rw [if_neg hx, if_neg hx]
  | [], _ :: _, hl, _, _ => by simp at hl
  | _ :: _, [], hl, _, _ => by simp at hl

theorem nsOf_set {f : Nat} {v : Value} (hf : f < fTab.length) : ∀ {ks : List Nat} {vs : List Value}, ks.length = vs.length → f ∈ ks → ∀ x, nsOf ks (vs.set (ks.idxOf f) v) x = if x = fTab.getD f Str.empty then some v else nsOf ks vs x
  | [], _, _, hm, _ => by cases hm
  | k :: ks, [], hl, _, _ => by simp at hl
  | k :: ks, a :: vs, hl, hm, x => by
    by_cases hk : k = f
    · subst hk
      simp only [List.idxOf_cons_self, List.set_cons_zero, nsOf, fTab_get hf, Option.some.injEq]
      by_cases h : x = fTab.getD k Str.empty
      · rw [if_pos h.symm, if_pos h]
      · rw [if_neg fun q => h q.symm, if_neg h, if_neg fun q => h q.symm]
    · have hm' : f ∈ ks := by rcases List.mem_cons.mp hm with e | e; exact absurd e.symm hk; exact e
      have hi : (k :: ks).idxOf f = ks.idxOf f + 1 := by
        have : (k == f) = false := by simpa using hk
        rw [List.idxOf_cons, this]; rfl
      rw [hi, List.set_cons_succ]
      simp only [nsOf]
      rw [nsOf_set hf (by simpa using hl) hm' x]
      by_cases hx : x = fTab.getD f Str.empty
      · subst hx
        rw [if_neg fun q => hk (fTab_ne hf q), if_pos rfl, if_pos rfl]
      · rw [if_neg hx, if_neg hx]

set_option tactic.hygienic true in
theorem setA_ok (X : (KK w.params).In s.heap) (S : Sees g Λ ρ μ s) (dx : VDen Λ ρ s.heap x vx) (dy : VDen Λ ρ s.heap y vy) {f : Nat} {R : List AO → Prop} (h : setAP x f y μ R) :
    wpAny (model prog w) A (setAttr vx (fTab.getD f Str.empty) vy) (fun _ s' => ∃ μ', Steps [] ρ s ρ s' ∧ Sees g Λ ρ μ' s' ∧ R μ') NoE s := by
  obtain ⟨hf, n, C, ks, l, rfl, hm, hC, hkl, hsz, h⟩ := h
  obtain ⟨a, d, rfl, e0⟩ := dx.inv
  obtain ⟨p, hp', od⟩ := S.pair hm
  rw [e0] at hp'; cases hp'
  obtain ⟨hne, e1, vs, hn, dv⟩ := od
  dsimp only at hne e1 hn
  have H := clsOk_all w.params C hC
  obtain ⟨o, es, ep, ho, hd, hk, hm'⟩ := id hn.ns
  have I : InstAt s.heap a (instObj C d) C (some o) := ⟨e1, rfl, rfl, ho⟩
  refine set_plain X I H.sa ?_
  refine osa_open (s := { s with toks := s.toks + 1 }) X I H.po (r := none) (by unfold takerIn; rw [H.fl f hf]; rfl) fun b => ?_
  obtain ⟨cd, hc, hd'⟩ := H.cd
  refine wpAny_bind (wpAny_pure (wpAny_bind (wpAny_bind (wpAny_loadPart (s := { s with toks := s.toks + 1 }) e1 (wpAny_bind (looks_clsIn (M := model prog w) X hc _ _ _ _ (fun _ _ e => e) ?_))))))
  rw [hd']
  refine wpAny_pure (a := some d) (wpAny_bind (wpAny_pure (wpAny_bind ?_)))
  refine nsSet_ok (s := { s with toks := s.toks + 1 }) hn fun h' hn' hs' => ?_
  have hlen : ks.length = vs.length := by rw [dv.len]; exact hkl
  have hs2 : ∀ b, b ≠ a → b ≠ d → h'.get? b = s.heap.get? b := fun b _ h2 => hs'.2 b h2
  have dv' : VDens Λ ρ h' l vs := VDens.turned (h := s.heap) e0 hs2 dv
  have dy' : VDens Λ ρ h' [y] [vy] := VDens.turned (h := s.heap) e0 hs2 (.cons dy .nil)
  have fin : ∀ {ks' : List Nat} {l' : List PV} {vs' : List Value}, (∀ x, nsOf ks' vs' x = if x = fTab.getD f Str.empty then some vy else nsOf ks vs x) → (if nsOf ks vs (fTab.getD f Str.empty) = none then ks.length + 1 else ks.length) ≤ ks'.length → VDens Λ ρ h' l' vs' → R (μ.set n (.inst C ks' l')) →
      ∃ μ', Steps [] ρ s ρ { s with heap := h', toks := s.toks + 1 + 1 } ∧ Sees g Λ ρ μ' { s with heap := h', toks := s.toks + 1 + 1 } ∧ R μ' := by
    intro ks' l' vs' hns hle dl q
    refine ⟨_, Steps.turned e0 hs2 ⟨_, (hs'.2 a hne).trans e1⟩ (let ⟨o2, _, _, a1, _⟩ := hn'; ⟨o2, a1⟩) rfl rfl, S.turned (o := .inst C ks' l') e0 hs2 rfl ⟨hne, (hs'.2 a hne).trans e1, vs', ?_, dl⟩, q⟩
    have : nsOf ks' vs' = fun x => if x = fTab.getD f Str.empty then some vy else nsOf ks vs x := funext hns
    rw [this]
    obtain ⟨o2, es2, ep2, a1, a2, a3, a4, a5⟩ := hn'
    exact ⟨o2, es2, ep2, a1, a2, a3, a4, Nat.le_trans a5 hle⟩
  obtain ⟨on, esn, epn, hon, hdn, _, _, hzn⟩ := id hn'
  have hle : esn.size ≤ sizeLine + 1 := by
    rw [sizeLine_eq]
    split at hzn <;> lia
  refine wpAny_bind (wpAny_lookBehind hon (by rw [hdn]; exact pastItsLine_dict hle) (wpAny_pure ?_))
  have none_of : ∀ {ks : List Nat} {vs : List Value}, f ∉ ks → nsOf ks vs (fTab.getD f Str.empty) = none := by
    intro ks
    induction ks with
    | nil => intro vs _; simp [nsOf]
    | cons k ks ih =>
      intro vs hk
      cases vs with
      | nil => simp [nsOf]
      | cons v vs =>
        simp only [nsOf]
        rw [if_neg fun q => hk (by rw [fTab_ne hf q]; exact .head _)]
        exact ih fun h => hk (.tail _ h)
  have some_of : ∀ {ks : List Nat} {vs : List Value}, ks.length = vs.length → f ∈ ks → nsOf ks vs (fTab.getD f Str.empty) ≠ none := by
    intro ks
    induction ks with
    | nil => intro vs _ h; cases h
    | cons k ks ih =>
      intro vs hl hk
      cases vs with
      | nil => simp at hl
      | cons v vs =>
        simp only [nsOf]
        by_cases hkf : k = f
        · subst hkf; rw [if_pos (fTab_get hf)]; simp
        · rw [if_neg fun q => hkf (fTab_ne hf q)]
          refine ih (by simpa using hl) ?_
          rcases List.mem_cons.mp hk with e | e
          · exact absurd e.symm hkf
          · exact e
  rcases h with ⟨hk', q⟩ | ⟨hk', q⟩
  · refine fin (nsOf_new hf hlen hk') ?_ (dv'.append dy') q
    rw [if_pos (none_of hk'), List.length_append]; exact Nat.le_refl _
  · refine fin (nsOf_set hf hlen hk') ?_ (dv'.set dy'.head _) q
    rw [if_neg (some_of hlen hk')]; exact Nat.le_refl _
end

/- MEnv -/


/- a block's names: its slots, and the kinds of all its names -/
structure Sc where
  ns : List Str
  ks : List (Str × NameKind)
  code : Option Value := none
  qual : Option Str := none

structure EnvOk (sc : Sc) (env : Env) : Prop where
  kind : env.scope.kind = .function
  glob : env.globals = mainGlobals
  blt : env.builtins = builtinsNs
  kl : ∀ x, sc.ks.lookup x = some .local → env.kindOf x = some .local
  kg : ∀ x, sc.ks.lookup x = some .globalImplicit → env.kindOf x = some .globalImplicit
  kc : ∀ x, sc.ks.lookup x = some .cell ∨ sc.ks.lookup x = some .free → env.kindOf x = some .cell ∨ env.kindOf x = some .free
  ke : ∀ x, sc.ks.lookup x = some .cell → env.kindOf x = some .cell
  nd : sc.ns.Nodup
  inj : ∀ x y c, sc.ks.lookup x = some .cell → env.cells.lookup x = some c → env.cells.lookup y = some c → x = y
  code : ∀ v, sc.code = some v → env.code = v
  qual : ∀ q, sc.qual = some q → env.qual = q

structure LocOk (Λ : List LamT) (ρ : Rho) (sc : Sc) (env : Env) (l : Lc) (h : Heap) : Prop where
  fr : env.locals ∈ ρ.frs
  ns : ∃ m, h.Ns env.locals m ∧ ∀ (i : Nat) (x : Str) (p : PV), sc.ns[i]? = some x → l[i]? = some (some p) → sc.ks.lookup x = some .local → ∃ v, m x = some v ∧ VDen Λ ρ h p v
  cells : ∀ (i : Nat) (x : Str) (p : PV), sc.ns[i]? = some x → l[i]? = some (some p) → sc.ks.lookup x = some .cell ∨ sc.ks.lookup x = some .free →
    ∃ c v, env.cells.lookup x = some c ∧ c ∉ ofoot ρ ∧ c ∉ tabA ∧ h.IsCell c (some v) ∧ VDen Λ ρ h p v
  own : ∀ (i : Nat) (x : Str), sc.ns[i]? = some x → l[i]? = some none → sc.ks.lookup x = some .cell → ∃ c, env.cells.lookup x = some c ∧ h.IsCell c none ∧ c ∈ ρ.frs

structure Gd (w : World) (g : Heap) : Prop where
  K : (KK w.params).In g
  top : ∃ mg mb p loose mean, Top p loose mean mg mb g
  c1 : CodeHd g 155 151
  c2 : CodeHd g 122 120

section
variable {prog : Program} {w : World} {A : Around} {n : Nat} {g : Heap} {Λ : List LamT} {ρ ρ' : Rho} {μ : List AO} {s s' : Shared} {sc : Sc} {env : Env} {l : Lc}

theorem LocOk.step {μ : List AO} (S : Sees g Λ ρ μ s) (x : LocOk Λ ρ sc env l s.heap) (st : Steps [] ρ s ρ' s') : LocOk Λ ρ' sc env l s'.heap where
  fr := by rw [st.frs]; exact x.fr
  ns := by
    obtain ⟨m, hn, hv⟩ := x.ns
    refine ⟨m, hn.at' fun o e => st.keep _ o e (S.frof _ x.fr) (fun h => (S.tabof _ h).2 x.fr) (fun h => by cases h), fun i y p h1 h2 h3 => ?_⟩
    obtain ⟨v, e, d⟩ := hv i y p h1 h2 h3
    exact ⟨v, e, d.step0 st⟩
  cells := fun i y p h1 h2 h3 => by
    obtain ⟨c, v, e, c1, c2, ⟨o, ho, hd⟩, d⟩ := x.cells i y p h1 h2 h3
    exact ⟨c, v, e, not_ofoot_ext st.ext c1 ho, c2, ⟨o, st.keep _ _ ho c1 c2 (fun h => by cases h), hd⟩, d.step0 st⟩
  own := fun i y h1 h2 h3 => by
    obtain ⟨c, e, ⟨o, ho, hd⟩, hf⟩ := x.own i y h1 h2 h3
    exact ⟨c, e, ⟨o, st.keep _ _ ho (S.frof _ hf) (fun h => (S.tabof _ h).2 hf) (fun h => by cases h), hd⟩, by rw [st.frs]; exact hf⟩

theorem Sees.K (S : Sees g Λ ρ μ s) (G : Gd w g) : (KK w.params).In s.heap := G.K.keeps S.base
theorem Sees.safeOld (S : Sees g Λ ρ μ s) {b : Addr} {o : Obj} (e : g.get? b = some o) : Safe ρ b := by
  refine ⟨fun h => ?_, fun h => ?_, fun h => ?_⟩
  · have := S.apart b (.inl h); rw [e] at this; cases this
  · have := S.apart b (.inr (.inl h)); rw [e] at this; cases this
  · have := S.apart b (.inr (.inr h)); rw [e] at this; cases this

/- a global name -/
noncomputable def gloIs (P : Params) (x : Str) : PV → Bool
  | .val (.ref a) => nsIn (KK P) mainGlobals x == some (some (.ref a))
  | .val v => nsIn (KK P) mainGlobals x == some none && bootBuiltins x == some v && x != "__name__"
  | .int i => match nsIn (KK P) mainGlobals x with | some (some (.int j _)) => i == j | _ => false
  | .tup l => match nsIn (KK P) mainGlobals x with
    | some (some (.ref a)) => match (KK P).lookup a with
      | some ⟨.type "tuple", _, .seq vs _, _⟩ => vs.toList.length == l.length && (l.zip vs.toList).all fun p => match p with
        | (.str c, .str y _) => sTab[c]? == some y
        | _ => false
      | _ => false
    | _ => false
  | _ => false

theorem gTab_ok (P : Params) : (gTab.all fun p => gloIs P p.1 p.2) = true := by kernel_rfl

set_option tactic.hygienic true in
theorem strs_den {h : Heap} : ∀ {l : List PV} {vs : List Value}, vs.length = l.length → ((l.zip vs).all fun p => match p with | (.str c, .str y _) => sTab[c]? == some y | _ => false) = true → VDens Λ ρ h l vs
  | [], [], _, _ => .nil
  | [], _ :: _, e, _ => by simp at e
  | _ :: _, [], e, _ => by simp at e
  | p :: l, v :: vs, e, k => by
    simp only [List.zip_cons_cons, List.all_cons, Bool.and_eq_true] at k
    refine .cons ?_ (strs_den (by simpa using e) k.2)
    have k1 := k.1
    split at k1
    · rename_i c y t heq
      cases heq
      exact .str c y t (beq_iff_eq.mp k1)
    · cases k1

set_option tactic.hygienic true in
theorem glo_ok (G : Gd w g) (S : Sees g Λ ρ μ s) (H : EnvOk sc env) {x : Str} {p : PV} (hm : (x, p) ∈ gTab) (hk : sc.ks.lookup x = some .globalImplicit) (hdbg : (x == ("__debug__" : Str)) = false) {pos : Pos} {R : Value → Shared → Prop} {E : Value → Shared → Prop}
    (h : ∀ v, VDen Λ ρ s.heap p v → R v s) : wpAny (model prog w) A (eval (.Name x pos) env) R E s := by
  obtain ⟨mg, mb, pp, loose, mean, T⟩ := G.top
  have X := G.K
  have hg : s.heap.Ns env.globals mg := by rw [H.glob]; exact T.g.keeps S.base
  have hb : s.heap.Ns env.builtins mb := by rw [H.blt]; exact T.b.keeps S.base
  have q := List.all_eq_true.mp (gTab_ok w.params) (x, p) hm
  dsimp only at q
  have glob : ∀ v, nsIn (KK w.params) mainGlobals x = some (some v) → VDen Λ ρ s.heap p v → wpAny (model prog w) A (eval (.Name x pos) env) R E s := fun v e d =>
    Calls.Name_function_global H.kind (H.kg x hk) (Calls.loadGlobal_global hg (mg_of X T.g e) (h v d)) hdbg
  unfold gloIs at q
  split at q
  · exact glob _ (beq_iff_eq.mp q) (.val _)
  · simp only [Bool.and_eq_true, beq_iff_eq, bne_iff_ne] at q
    exact Calls.Name_function_global H.kind (H.kg x hk) (Calls.loadGlobal_builtin hg (mg_none_of X T.g q.1.1) hb ((T.builtins x q.2).trans q.1.2) (h _ (.val _))) hdbg
  · split at q
    · rename_i i j t e
      rw [beq_iff_eq] at q; subst q
      exact glob _ e (.int _ _)
    · cases q
  · split at q
    · rename_i a e
      split at q
      · rename_i dd vs k sl hl
        simp only [Bool.and_eq_true, beq_iff_eq] at q
        refine glob _ e (.tup (vs := vs.toList) (S.safeOld (X _ _ hl)) ⟨_, S.base _ _ (X _ _ hl), rfl, k, by simp⟩ (strs_den q.1 q.2))
      · cases q
    · cases q
  · cases q

/- a name of the block's own -/
theorem loc_ok (H : EnvOk sc env) (x : LocOk Λ ρ sc env l s.heap) {i : Nat} {y : Str} {p : PV} (e1 : sc.ns[i]? = some y) (e2 : l[i]? = some (some p)) (hk : sc.ks.lookup y = some .local ∨ sc.ks.lookup y = some .cell ∨ sc.ks.lookup y = some .free)
    (hdbg : (y == ("__debug__" : Str)) = false) (hcd : (y == ("__classdict__" : Str)) = false) {pos : Pos} {R : Value → Shared → Prop} {E : Value → Shared → Prop} (h : ∀ v, VDen Λ ρ s.heap p v → R v s) : wpAny (model prog w) A (eval (.Name y pos) env) R E s := by
  rcases hk with hk | hk
  · obtain ⟨m, hn, hv⟩ := x.ns
    obtain ⟨v, ev, d⟩ := hv i y p e1 e2 hk
    exact wpAny_Name (wpAny_loadName_local H.kind (H.kl y hk) hn ev (h v d)) hdbg
  · obtain ⟨c, v, ec, _, _, hc, d⟩ := x.cells i y p e1 e2 hk
    rcases H.kc y hk with k | k
    · exact wpAny_Name (wpAny_loadName_cell H.kind k ec hc (h v d)) hdbg
    · exact wpAny_Name (wpAny_loadName_free H.kind k ec hc (h v d) hcd) hdbg
end

/- MBuilt -/


section
variable {prog : Program} {w : World} {A : Around} {n : Nat} {g : Heap} {Λ : List LamT} {ρ ρ' : Rho} {μ : List AO} {s s' : Shared} {Q : Post} {x : PV} {vx : Value}

theorem ints_den {h : Heap} {l : List PV} : ∀ {vs : List Value} {is : List Int}, VDens Λ ρ h l vs → intsOf l = some is → IntsAre vs is := by
  induction l with
  | nil =>
    intro vs is d e
    obtain rfl := d.nil_inv
    simp only [intsOf, Option.some.injEq] at e
    subst e; exact .nil
  | cons p l ih =>
    intro vs is d e
    have key : ∃ i, p = .int i := by cases p <;> first | exact ⟨_, rfl⟩ | (simp [intsOf] at e)
    obtain ⟨i, rfl⟩ := key
    simp only [intsOf, Option.map_eq_some_iff] at e
    obtain ⟨is, e1, rfl⟩ := e
    obtain ⟨_, _, rfl, d1, ds⟩ := d.cons_inv
    obtain ⟨_, rfl⟩ := d1.inv
    exact .cons i _ (ih ds e1)

theorem len_ok (S : Sees g Λ ρ μ s) (dx : VDen Λ ρ s.heap x vx) (h : (∃ l, itemsOf x μ = some l ∧ l.length ≤ 1000000 ∧ Q (.int l.length) μ) ∨ ∃ c, x = .str c ∧ c < sTab.length ∧ Q (.int (sTab.getD c Str.empty).cps.size) μ) :
    wpAny (model prog w) A (call (.builtin "len") [vx]) (Out g Λ ρ s Q) NoE s := by
  rcases h with ⟨l, el, hz, q⟩ | ⟨c, rfl, hc, q⟩
  · obtain ⟨a, vs, rfl, ht, dv⟩ := itemsOf_den S dx el
    have hs : vs.toArray.size = l.length := by simpa using dv.len
    have q' : Q (.int ((vs.toArray.size : Nat) : Int)) μ := by rw [hs]; exact q
    rcases ht with ht | hl
    · exact len_tuple ht (by rw [hs]; omega) (Out.tk S (.int _ _) q')
    · exact Calls.call_len_list hl (by rw [hs]; omega) (Out.tk S (.int _ _) q')
  · obtain ⟨y, _, rfl, e⟩ := dx.inv
    have hy : sTab.getD c Str.empty = y := by rw [List.getD_eq_getElem?_getD, e]; rfl
    rw [hy] at q
    have hsmall : y.cps.size ≤ 100 := by
      have : ∀ c, c < sTab.length → (sTab.getD c Str.empty).cps.size ≤ 100 := by decide +kernel
      rw [← hy]; exact this c hc
    exact len_str (by show ¬ ((y.cps.size : Int) ≥ 2 ^ 63); omega) (Out.tk S (.int _ _) q)

theorem list_ok (S : Sees g Λ ρ μ s) (dx : VDen Λ ρ s.heap x vx) {l : List PV} (el : itemsOf x μ = some l) (hz : l.length ≤ 1000000) (q : Q (.lst l) μ) :
    wpAny (model prog w) A (call (.type "list") [vx]) (Out g Λ ρ s Q) NoE s := by
  obtain ⟨a, vs, rfl, ht, dv⟩ := itemsOf_den S dx el
  have hs : vs.toArray.size = l.length := by simpa using dv.len
  have fin : ∀ h' c', (∀ b o', s.heap.get? b = some o' → h'.get? b = some o') → h'.get? s.heap.objs.size = some { cls := .type "list", dict := none, data := .seq vs.toArray c', slots := #[] } → Out g Λ ρ s Q (.ref s.heap.objs.size) { s with heap := h' } := by
    intro h' c' hk hD
    exact Out.grown S hk rfl rfl (.lst (S.safeNew (Nat.le_refl _)) ⟨_, hD, rfl, _, rfl⟩ (dv.grown hk)) q
  rcases ht with ⟨o, ho, hc, m, hd⟩ | ⟨o, ho, hc, m, hd⟩
  · exact call_list_seq a (.inr rfl) ho hc hd fin (by rw [hs, sizeLine_eq]; (exact Nat.le_trans ‹_› (by decide)))
  · exact call_list_seq a (.inl rfl) ho hc hd fin (by rw [hs, sizeLine_eq]; (exact Nat.le_trans ‹_› (by decide)))

theorem tuple_ok (S : Sees g Λ ρ μ s) (dx : VDen Λ ρ s.heap x vx) {l : List PV} (el : itemsOf x μ = some l) (hz : l.length ≤ 1000000) (q : Q (.tup l) μ) :
    wpAny (model prog w) A (call (.type "tuple") [vx]) (Out g Λ ρ s Q) NoE s := by
  have fin : ∀ {a : Addr} {vs : List Value}, s.heap.IsList a vs.toArray → VDens Λ ρ s.heap l vs → wpAny (model prog w) A (call (.type "tuple") [.ref a]) (Out g Λ ρ s Q) NoE s := by
    intro a vs hl dv
    have hs : vs.toArray.size = l.length := by simpa using dv.len
    refine call_tuple_list hl (fun h' hk => ?_) (by rw [hs, sizeLine_eq]; (exact Nat.le_trans ‹_› (by decide)))
    have hk2 : ∀ b o', s.heap.get? b = some o' → (h'.push { cls := .type "tuple", data := .seq vs.toArray }).get? b = some o' := fun b o' e => Heap.get?_push_of_some _ (hk b o' e)
    have hn : s.heap.get? h'.objs.size = none := none_back (fun b o e => ⟨o, hk b o e⟩) (Heap.get?_none_of_le (Nat.le_refl _))
    exact Out.grown S hk2 rfl rfl (.tup (S.safeNone hn) ⟨_, Heap.get?_push_size _ rfl, rfl, _, rfl⟩ (dv.grown hk2)) q
  cases x with
  | tup l' =>
    obtain ⟨_, _, rfl, sa, ht, dv⟩ := dx.inv
    simp only [itemsOf, Option.some.injEq] at el
    subst el
    exact call_tuple_tup ht (Out.here S (.tup sa ht dv) q)
  | lst l' =>
    obtain ⟨a, vs, rfl, hl, dv⟩ := listOf_den S dx (by simpa [itemsOf] using el)
    exact fin hl dv
  | obj k =>
    obtain ⟨a, vs, rfl, hl, dv⟩ := listOf_den S dx (by simpa [itemsOf] using el)
    exact fin hl dv
  | _ => simp [itemsOf, listOf] at el

theorem sum_ok (hA : A.handled = none) (S : Sees g Λ ρ μ s) {l : List PV} (dx : VDen Λ ρ s.heap (.lst l) vx) {is : List Int} (e : intsOf l = some is) (q : Q (.int is.sum) μ) :
    wpAny (model prog w) A (call (.builtin "sum") [vx]) (Out g Λ ρ s Q) NoE s := by
  obtain ⟨_, _, rfl, sa, hl, dv⟩ := dx.inv
  have hi := ints_den dv e
  obtain ⟨xs, hx⟩ := hi.allInts.items
  have hn : numsOf (intItems xs).toList = is := by rw [← hx]; exact hi.numsOf
  rw [hx] at hl
  refine sum_intListG hA hl fun h' tk t' hk => ?_
  have e2 : preSum (numAt xs) xs.size = is.sum := by
    rw [← hn, nums_intItems, preSum_eq, List.take_of_length_le (by simp)]
  rw [e2]
  exact Out.grown S hk rfl rfl (.int _ _) q

theorem max_ok (hA : A.handled = none) (S : Sees g Λ ρ μ s) {l : List PV} (dx : VDen Λ ρ s.heap (.lst l) vx) {is : List Int} (e : intsOf l = some is) (hne : is ≠ []) (q : ∀ M, M ∈ is → (∀ a ∈ is, a ≤ M) → Q (.int M) μ) :
    wpAny (model prog w) A (call (.builtin "max") [vx]) (Out g Λ ρ s Q) NoE s := by
  obtain ⟨_, _, rfl, sa, hl, dv⟩ := dx.inv
  have hi := ints_den dv e
  obtain ⟨xs, hx⟩ := hi.allInts.items
  have hn : numsOf (intItems xs).toList = is := by rw [← hx]; exact hi.numsOf
  rw [nums_intItems] at hn
  rw [hx] at hl
  have hsz : 0 < xs.size := by
    have : is.length = xs.size := by rw [← hn]; simp
    rw [← this]; exact List.length_pos_iff.mpr hne
  refine max_intList hA hl hsz fun v h' tk hv hk => ?_
  obtain ⟨t, rfl⟩ := intItems_at hv
  obtain ⟨h1, h2⟩ := argBest_gt (numAt xs) (xs.size - 1)
  refine Out.grown S hk rfl rfl (.int _ _) (q _ ?_ fun a ha => ?_)
  · rw [← hn, numAt_eq]; exact getD_mem (by rw [List.length_map, Array.length_toList]; omega)
  · rw [← hn] at ha
    obtain ⟨j, hj, rfl⟩ := mem_getD ha
    rw [List.length_map, Array.length_toList] at hj
    rw [← numAt_eq]; exact h2 j (by lia)

theorem max2_ok (hA : A.handled = none) (S : Sees g Λ ρ μ s) {i j : Int} {t u : Tok} (q : Q (.int (max i j)) μ) :
    wpAny (model prog w) A (call (.builtin "max") [.int i t, .int j u]) (Out g Λ ρ s Q) NoE s := by
  refine max_two_ints hA fun h' tk hk => ?_
  by_cases c : j > i
  · rw [if_pos c]
    have : max i j = j := by lia
    rw [this] at q
    exact Out.grown S hk rfl rfl (.int _ _) q
  · rw [if_neg c]
    have : max i j = i := by lia
    rw [this] at q
    exact Out.grown S hk rfl rfl (.int _ _) q

theorem append_ok (S : Sees g Λ ρ μ s) {k : Nat} {l : List PV} {a d : Addr} (e0 : ρ.objs[k]? = some (a, d)) (hm : μ[k]? = some (.lst l)) (hz : l.length ≤ 1000000) (dx : VDen Λ ρ s.heap x vx) (q : Q .none (μ.set k (.lst (l ++ [x])))) :
    wpAny (model prog w) A (call (.builtin "list.append") [.ref a, vx]) (Out g Λ ρ s Q) NoE s := by
  obtain ⟨p, hp, od⟩ := S.pair hm
  rw [e0] at hp; cases hp
  obtain ⟨hd, vs, hl, dv⟩ := od
  dsimp only at hd hl; subst hd
  have hs : vs.toArray.size = l.length := by simpa using dv.len
  refine wpAny_list_append_plain hl (fun h' hl' hs' => ?_) (by rw [hs, sizeLine_eq]; (exact Nat.le_trans ‹_› (by decide)))
  have hs2 : ∀ b, b ≠ d → b ≠ d → h'.get? b = s.heap.get? b := fun b h _ => hs'.2 b h
  have dv' : VDens Λ ρ h' (l ++ [x]) (vs ++ [vx]) := VDens.turned (h := s.heap) e0 hs2 (dv.append (.cons dx .nil))
  have hl2 : h'.PlainList d (vs ++ [vx]).toArray := by simpa using hl'
  have hlive : ∃ o, h'.get? d = some o := let ⟨n, ho⟩ := hl'; ⟨_, ho⟩
  exact ⟨ρ, .none, _, Steps.turned e0 hs2 hlive hlive rfl rfl, S.turned (o := .lst (l ++ [x])) e0 hs2 rfl ⟨rfl, _, hl2, dv'⟩, .none, q⟩

theorem setItem_plain {l : Addr} {items : Array Value} {k : Int} {t : Tok} {v : Value} {Q : Unit → Shared → Prop} {E : Value → Shared → Prop} (hl : s.heap.PlainList l items)
    (h0 : 0 ≤ k) (hfit : k < 2 ^ 63) (hn : k < items.size)
    (hQ : ∀ h', h'.PlainList l (items.setIfInBounds k.toNat v) → Heap.SameBut l s.heap h' → Q () { s with heap := h' }) :
    wpAny (model prog w) A (setItem (.ref l) (.int k t) v) Q E s := by
  obtain ⟨ne, ho⟩ := id hl
  have hl' := hl.isList
  unfold setItem
  try with_reducible refine wpAny_holding ?_
  first | refine wpAny_bind (wpAny_pure ?_) | skip
  refine wpAny_bind (wpAny_sequenceKey hl'.typeIs (by decide) ?_)
  refine wpAny_bind (wpAny_callSpecial?_slot (name := Str.ofString "__setitem__") hl'.typeIs slot_list_setitem
    (wpAny_call_entry slot_list_setitem hl'.typeIs entry_list_setitem ?_ (args_list_setitem _ _ _)))
  show wpAny _ _ (Builtin.List.listSubscript? (.int k t) >>= _) _ _ s
  refine wpAny_bind (wpAny_listSubscript_int (fitsIndex_of h0 hfit) ?_)
  clear hfit
  obtain ⟨j, rfl⟩ := Int.eq_ofNat_of_zero_le h0
  have hj : j < items.size := by lia
  have hx' : items[j]? = some items[j] := Array.getElem?_eq_getElem hj
  show wpAny _ _ ((seqItemAt l j >>= fun r => pure (r.map (j, ·))) >>= _) _ _ s
  refine wpAny_bind (wpAny_bind (wpAny_seqItemAt ho rfl (wpAny_pure ?_)))
  rw [hx']
  show wpAny _ _ (setSeqItemAt l j v >>= _) _ _ s
  have hfin : (s.heap.update l (Obj.mapSeq (·.setIfInBounds j v))).PlainList l (items.setIfInBounds j v) :=
    ⟨_, (Heap.get?_update_self _ ho rfl)⟩
  refine wpAny_bind (wpAny_setSeqItemAt ho rfl ?_)
  first
    | exact wpAny_bind (wpAny_pure (wpAny_pure ⟨.none, rfl, wpAny_pure (hQ _ hfin (Heap.SameBut.update ..))⟩))
    | exact wpAny_pure ⟨.none, rfl, wpAny_pure (hQ _ hfin (Heap.SameBut.update ..))⟩

set_option tactic.hygienic true in
theorem setI_ok (S : Sees g Λ ρ μ s) {o i v : PV} {vo vi vv : Value} (d1 : VDen Λ ρ s.heap o vo) (d2 : VDen Λ ρ s.heap i vi) (d3 : VDen Λ ρ s.heap v vv) {R : List AO → Prop} (h : setIP o i v μ R) :
    wpAny (model prog w) A (setItem vo vi vv) (fun _ s' => ∃ μ', Steps [] ρ s ρ s' ∧ Sees g Λ ρ μ' s' ∧ R μ') NoE s := by
  obtain ⟨k, l, j, rfl, rfl, hm, h0, h1, hz, q⟩ := h
  obtain ⟨_, rfl⟩ := d2.inv
  obtain ⟨a, d, rfl, e0⟩ := d1.inv
  obtain ⟨p, hp, od⟩ := S.pair hm
  rw [e0] at hp; cases hp
  obtain ⟨hd, vs, hl, dv⟩ := od
  dsimp only at hd hl; subst hd
  have hs : vs.toArray.size = l.length := by simpa using dv.len
  refine setItem_plain hl h0 (by lia) (by rw [hs]; exact h1) fun h' hl' hs' => ?_
  have hs2 : ∀ b, b ≠ d → b ≠ d → h'.get? b = s.heap.get? b := fun b h _ => hs'.2 b h
  have dv' : VDens Λ ρ h' (l.set j.toNat v) (vs.set j.toNat vv) := VDens.turned (h := s.heap) e0 hs2 (dv.set d3 _)
  have hl2 : h'.PlainList d (vs.set j.toNat vv).toArray := by simpa using hl'
  have hlive : ∃ o, h'.get? d = some o := let ⟨n, ho⟩ := hl'; ⟨_, ho⟩
  exact ⟨_, Steps.turned e0 hs2 hlive hlive rfl rfl, S.turned (o := .lst (l.set j.toNat v)) e0 hs2 rfl ⟨rfl, _, hl2, dv'⟩, q⟩

theorem extendW (l : Addr) (items : Array Value) (n : Nat) (b : Addr) (items2 : Array Value) (n2 : Nat) (dd2 : Option Addr) (sl2 : Array (Option Value)) (hc0 : ¬(!items.isEmpty && Builtin.List.listTooLong (items.size + items2.size)) = true) (hc1 : items.size ≤ sizeLine) (hs2 : items.size + items2.size ≤ sizeLine + 1) :
    Meets (Builtin.«list.extend» ⟨[.ref l, .ref b], []⟩) (fun _ R s => s.heap.get? l = some { cls := .type "list", dict := none, data := .seq items n, slots := #[] } ∧ s.heap.get? b = some { cls := .type "list", dict := dd2, data := .seq items2 n2, slots := sl2 } ∧ R (.ok (.ret Value.none)) { s with heap := s.heap.update l (Obj.mapSeq fun x => x ++ items2), toks := s.toks }) :=
  .of_wp fun prog w A R s h => by
    obtain ⟨hp, g, d, tk, os⟩ := s; obtain ⟨hl, hb, h⟩ := h; have f1 := AutoSeq1.idx_int; have f2 := AutoSeq1.sub_tuple_tuple; have f3 := AutoSeq1.sub_list_list; have f4 := AutoSeq1.sub_tuple_list; have f5 := AutoSeq1.sub_list_tuple
    have hz' : (items ++ items2).size ≤ sizeLine + 1 := by rw [Array.size_append]; exact hs2
    wp_walk using (wpAny_updateSeq hl rfl (hz := hc1) (_hz' := hz')), AutoSeq1.wpAny_loadPart' hl, AutoSeq1.wpAny_loadPart' hb; exact ⟨_, rfl, h⟩

set_option tactic.hygienic true in
theorem extend_ok (S : Sees g Λ ρ μ s) {k : Nat} {l m : List PV} {a d : Addr} (e0 : ρ.objs[k]? = some (a, d)) (hm : μ[k]? = some (.lst l)) (dx : VDen Λ ρ s.heap (.lst m) vx) (hz : l.length + m.length ≤ 1000000) (q : Q .none (μ.set k (.lst (l ++ m)))) :
    wpAny (model prog w) A (call (.builtin "list.extend") [.ref a, vx]) (Out g Λ ρ s Q) NoE s := by
  obtain ⟨p, hp, od⟩ := S.pair hm
  rw [e0] at hp; cases hp
  obtain ⟨hd, vs, ⟨n1, hl⟩, dv⟩ := od
  dsimp only at hd hl; subst hd
  obtain ⟨b, ws, rfl, sa, hb, dw⟩ := dx.inv
  obtain ⟨⟨cls2, dd2, data2, sl2⟩, ho2, hc2, n2, hd2⟩ := id hb
  simp only at hc2 hd2
  subst hc2 hd2
  have h1 : vs.toArray.size = l.length := by simpa using dv.len
  have h2 : ws.toArray.size = m.length := by simpa using dw.len
  have hT : s.TypeIs (.ref d) "list" := ⟨_, hl, rfl⟩
  refine call_meets PySem.F.slot_list_extend hT PySem.F.entry_list_extend (PySem.F.args_list_extend_2 _ _) (extendW d vs.toArray n1 b ws.toArray n2 dd2 sl2 ?_ (by rw [h1, sizeLine_eq]; lia) (by rw [h1, h2, sizeLine_eq]; (exact Nat.le_trans ‹_› (by decide)))) ⟨hl, ho2, ?_⟩
  · have : Builtin.List.listTooLong (vs.toArray.size + ws.toArray.size) = false := by
      simp only [Builtin.List.listTooLong, decide_eq_false_iff_not, h1, h2, sizeLine_eq]; lia
    rw [this, Bool.and_false]; exact Bool.false_ne_true
  · have hs' : Heap.SameBut d s.heap (s.heap.update d (Obj.mapSeq fun x => x ++ ws.toArray)) := Heap.SameBut.update ..
    have hs2 : ∀ b, b ≠ d → b ≠ d → (s.heap.update d (Obj.mapSeq fun x => x ++ ws.toArray)).get? b = s.heap.get? b := fun b h _ => hs'.2 b h
    have dv' : VDens Λ ρ (s.heap.update d (Obj.mapSeq fun x => x ++ ws.toArray)) (l ++ m) (vs ++ ws) := VDens.turned (h := s.heap) e0 hs2 (dv.append dw)
    have hl2 : (s.heap.update d (Obj.mapSeq fun x => x ++ ws.toArray)).PlainList d (vs ++ ws).toArray := by
      have := Heap.get?_update_self (Obj.mapSeq fun x => x ++ ws.toArray) hl rfl
      exact ⟨_, by rw [this]; simp only [Obj.mapSeq]; congr 2; simp; rfl⟩
    have hlive : ∃ o, (s.heap.update d (Obj.mapSeq fun x => x ++ ws.toArray)).get? d = some o := let ⟨n, ho⟩ := hl2; ⟨_, ho⟩
    exact ⟨ρ, .none, _, Steps.turned e0 hs2 hlive hlive rfl rfl, S.turned (o := .lst (l ++ m)) e0 hs2 rfl ⟨rfl, _, hl2, dv'⟩, .none, q⟩
end

/- MShape -/


theorem shapes_K (P : Params) : ∃ es n, (KK P).lookup 55 = some ⟨.type "dict", none, .dict es n, #[]⟩ ∧ KeysLit P es.toList :=
  ⟨_, _, rfl, by repeat (first | exact trivial | refine ⟨⟨_, _, rfl, rfl⟩, ?_⟩)⟩

noncomputable def shapesOk (P : Params) : Bool := shapesTab.all fun p => match nsIn (KK P) 55 (sTab.getD p.1 Str.empty) with
  | some (some (.str y _)) => sTab[p.2]? == some y
  | _ => false
theorem shapes_ok (P : Params) : shapesOk P = true := by kernel_rfl


section
variable {prog : Program} {w : World} {A : Around} {n : Nat} {g : Heap} {Λ : List LamT} {ρ ρ' : Rho} {μ : List AO} {s s' : Shared} {Q : Post} {x : PV} {vx : Value}

set_option tactic.hygienic true in
theorem shapes_get (G : Gd w g) (S : Sees g Λ ρ μ s) {c d : Nat} (dx : VDen Λ ρ s.heap (.str c) vx) (e : shapesTab.lookup c = some d) (q : Q (.str d) μ) :
    wpAny (model prog w) A (call (.builtin "dict.get") [.ref 55, vx]) (Out g Λ ρ s Q) NoE s := by
  obtain ⟨es, m, hl, hk⟩ := shapes_K w.params
  obtain ⟨y, t, rfl, ey⟩ := dx.inv
  have hy : sTab.getD c Str.empty = y := by rw [List.getD_eq_getElem?_getD, ey]; rfl
  have ok := List.all_eq_true.mp (shapes_ok w.params) (c, d) (mem_of_lookup' e)
  dsimp only at ok
  rw [hy] at ok
  have hm := mapOf_K (prog := prog) (w := w) (S.K G) hl hk
  split at ok
  · rename_i z tz hz
    rw [beq_iff_eq] at ok
    have hf := find_K hl hz
    refine call_meetsIn PySem.F.slot_dict_get hm.typeIs PySem.F.entry_dict_get (PySem.F.args_dict_get_2 _ _) (meets_dict_get (strKind prog w) 55 (strKind_is prog w y t) rfl) ⟨_, hm, ?_⟩
    rw [hf]
    exact Out.tk S (.str d z tz ok) q
  · cases ok

theorem shapes_meth (G : Gd w g) (S : Sees g Λ ρ μ s) {R : Value × List Value → Shared → Prop} {E : Value → Shared → Prop} {pl : Sem Bool} (h : R (.builtin "dict.get", [.ref 55]) s) :
    wpAny (model prog w) A (getMethod (.ref 55) (Str.ofString "get") pl) R E s := by
  obtain ⟨es, m, hl, hk⟩ := shapes_K w.params
  have hm := mapOf_K (prog := prog) (w := w) (S.K G) hl hk
  exact getMethod_builtin hm.typeIs PySem.F.plainAttrs_dict PySem.F.slot_dict_get (by show builtinType _ = _; rw [builtinType_eq_fast]; kernel_rfl) hm.noDict h

theorem list_meth (S : Sees g Λ ρ μ s) {k : Nat} {l : List PV} {a d : Addr} (e0 : ρ.objs[k]? = some (a, d)) (hm : μ[k]? = some (.lst l)) {R : Value × List Value → Shared → Prop} {E : Value → Shared → Prop} {pl : Sem Bool} {nm : Str} {id : String}
    (slot : Slot "list" nm id) (hty : typeOf (.builtin id) = pure (.type "method_descriptor")) (h : R (.builtin id, [.ref a]) s) : wpAny (model prog w) A (getMethod (.ref a) nm pl) R E s := by
  obtain ⟨p, hp, od⟩ := S.pair hm
  rw [e0] at hp; cases hp
  obtain ⟨hd, vs, ⟨n1, hl⟩, dv⟩ := od
  dsimp only at hd hl; subst hd
  exact getMethod_builtin ⟨_, hl, rfl⟩ PySem.F.plainAttrs_list slot hty (fun b e => by cases e; exact ⟨_, hl, rfl⟩) h
end

/- MFrame -/


section
variable {prog : Program} {w : World} {A : Around} {n : Nat} {g : Heap} {Λ : List LamT} {ρ ρ' : Rho} {μ : List AO} {s s' : Shared} {Q : Post} {x : PV} {vx : Value} {T : List Addr}

/- all stands but what lies at T -/
noncomputable def KeptBut (T : List Addr) (h h' : Heap) : Prop := ∀ b o, b ∉ T → h.get? b = some o → h'.get? b = some o

theorem KeptBut.trans {T : List Addr} {h h₁ h₂ : Heap} (a : KeptBut T h h₁) (b : KeptBut T h₁ h₂) : KeptBut T h h₂ := fun c o n e => b c o n (a c o n e)
theorem KeptBut.wider {T U : List Addr} {h h₁ : Heap} (a : KeptBut T h h₁) (hs : ∀ b ∈ T, b ∈ U) : KeptBut U h h₁ := fun c o n e => a c o (fun m => n (hs c m)) e

theorem VDens.turnFrs {h h' : Heap} (hT : ∀ b ∈ T, b ∈ ρ.frs) (hnf : ∀ b ∈ T, ∀ o, h.get? b = some o → ¬ filled o) (hk : KeptBut T h h') {l : List PV} {vs : List Value} (d : VDens Λ ρ h l vs) : VDens Λ ρ h' l vs :=
  d.mono (fun b o e sf => ⟨sf, hk b o (fun m => sf.2.1 (hT b m)) e⟩) (fun b o e h1 _ h3 => ⟨h1, hk b o (fun m => hnf b m o e h3) e⟩) fun _ _ h => h
theorem VDen.turnFrs {h h' : Heap} (hT : ∀ b ∈ T, b ∈ ρ.frs) (hnf : ∀ b ∈ T, ∀ o, h.get? b = some o → ¬ filled o) (hk : KeptBut T h h') {l : PV} {vs : Value} (d : VDen Λ ρ h l vs) : VDen Λ ρ h' l vs :=
  d.mono (fun b o e sf => ⟨sf, hk b o (fun m => sf.2.1 (hT b m)) e⟩) (fun b o e h1 _ h3 => ⟨h1, hk b o (fun m => hnf b m o e h3) e⟩) fun _ _ h => h

theorem Sees.turnFrs (S : Sees g Λ ρ μ s) (hT : ∀ b ∈ T, b ∈ ρ.frs) (hnf : ∀ b ∈ T, ∀ o, s.heap.get? b = some o → ¬ filled o) (hk : KeptBut T s.heap s'.heap) (hl : ∀ b ∈ T, ∃ o, s'.heap.get? b = some o) (hg : s'.gens = s.gens) : Sees g Λ ρ μ s' where
  base := fun b o e => hk b o (fun m => by rw [S.apart b (.inr (.inl (hT b m)))] at e; cases e) (S.base b o e)
  apart := S.apart
  frlt := fun b hb => by
    by_cases m : b ∈ T
    · exact hl b m
    · obtain ⟨o, e⟩ := S.frlt b hb; exact ⟨o, hk b o m e⟩
  frof := S.frof
  tabof := S.tabof
  len := S.len
  objs := fun i p o h1 h2 => by
    have hp : p.1 ∈ ofoot ρ := mem_ofoot.mpr ⟨p, List.mem_of_getElem? h1, .inl rfl⟩
    have hp2 : p.2 ∈ ofoot ρ := mem_ofoot.mpr ⟨p, List.mem_of_getElem? h1, .inr rfl⟩
    have k : ∀ b, b ∈ ofoot ρ → ∀ o, s.heap.get? b = some o → s'.heap.get? b = some o := fun b hb o e => hk b o (fun m => S.frof b (hT b m) hb) e
    have d := S.objs i p o h1 h2
    cases o with
    | lst l =>
      obtain ⟨e, vs, ⟨n', ho⟩, dv⟩ := d
      exact ⟨e, vs, ⟨n', k _ hp _ ho⟩, dv.turnFrs hT hnf hk⟩
    | inst C ks l =>
      obtain ⟨e, e1, vs, hn, dv⟩ := d
      exact ⟨e, k _ hp _ e1, vs, hn.at' (k _ hp2), dv.turnFrs hT hnf hk⟩
  dist := S.dist
  tabs := fun P hP => by
    have k : ∀ b, b ∉ ρ.frs → ∀ o, s.heap.get? b = some o → s'.heap.get? b = some o := fun b hb o e => hk b o (fun m => hb (hT b m)) e
    obtain ⟨ps, e, t, q⟩ := S.tabs P hP
    refine ⟨ps, k _ (S.tabof P hP).2 _ e, t, fun L hL hp => (q L hL hp).imp id ?_⟩
    rintro ⟨c', oc, e1, e2, e3, e4⟩
    exact ⟨c', oc, e1, e2, k _ e2.2.1 _ e3, e4⟩
  gens := hg.trans S.gens

/- own addresses taken into the frames' list -/
theorem Sees.pushFrs (S : Sees g Λ ρ μ s) (hT : ∀ b ∈ T, (∃ o, s.heap.get? b = some o ∧ ¬ filled o) ∧ b ∉ ofoot ρ ∧ b ∉ tabA ∧ g.get? b = none)
    (hd : ∀ (i : Nat) (o : AO), μ[i]? = some o → ∀ p, ρ.objs[i]? = some p → ODen Λ { ρ with frs := T ++ ρ.frs } s.heap p o)
    (ht : TabsOk Λ { ρ with frs := T ++ ρ.frs } s.heap) : Sees g Λ { ρ with frs := T ++ ρ.frs } μ s where
  base := S.base
  apart := fun b hb => by
    rcases hb with hb | hb | hb
    · exact S.apart b (.inl hb)
    · rcases List.mem_append.mp hb with hb | hb
      · exact (hT b hb).2.2.2
      · exact S.apart b (.inr (.inl hb))
    · exact S.apart b (.inr (.inr hb))
  frlt := fun b hb => by
    rcases List.mem_append.mp hb with hb | hb
    · obtain ⟨o, e, _⟩ := (hT b hb).1; exact ⟨o, e⟩
    · exact S.frlt b hb
  frof := fun b hb => by
    rcases List.mem_append.mp hb with hb | hb
    · exact (hT b hb).2.1
    · exact S.frof b hb
  tabof := fun b hb => ⟨(S.tabof b hb).1, fun m => by
    rcases List.mem_append.mp m with m | m
    · exact (hT b m).2.2.1 hb
    · exact (S.tabof b hb).2 m⟩
  len := S.len
  objs := fun i p o h1 h2 => hd i o h2 p h1
  dist := S.dist
  tabs := ht
  gens := S.gens

/- from a state to one with new addresses, taken into the frames' list -/
theorem VDens.fresh {h h' : Heap} (hk : ∀ b o, h.get? b = some o → h'.get? b = some o) (hf : ∀ b ∈ T, h.get? b = Option.none) {l : List PV} {vs : List Value} (d : VDens Λ ρ h l vs) : VDens Λ { ρ with frs := T ++ ρ.frs } h' l vs :=
  VDens.mono (ρ := ρ) (ρ' := { ρ with frs := T ++ ρ.frs }) (h' := h') (fun b o e sf => ⟨⟨sf.1, fun m => by
    rcases List.mem_append.mp m with m | m
    · rw [hf b m] at e; cases e
    · exact sf.2.1 m, sf.2.2⟩, hk b o e⟩) (fun b o e h1 _ _ => ⟨h1, hk b o e⟩) (fun _ _ h => h) d
theorem VDen.fresh {h h' : Heap} (hk : ∀ b o, h.get? b = some o → h'.get? b = some o) (hf : ∀ b ∈ T, h.get? b = Option.none) {l : PV} {vs : Value} (d : VDen Λ ρ h l vs) : VDen Λ { ρ with frs := T ++ ρ.frs } h' l vs :=
  VDen.mono (ρ := ρ) (ρ' := { ρ with frs := T ++ ρ.frs }) (h' := h') (fun b o e sf => ⟨⟨sf.1, fun m => by
    rcases List.mem_append.mp m with m | m
    · rw [hf b m] at e; cases e
    · exact sf.2.1 m, sf.2.2⟩, hk b o e⟩) (fun b o e h1 _ _ => ⟨h1, hk b o e⟩) (fun _ _ h => h) d

theorem Sees.fresh (S : Sees g Λ ρ μ s) (hk : ∀ b o, s.heap.get? b = some o → s'.heap.get? b = some o) (hg : s'.gens = s.gens) (hf : ∀ b ∈ T, s.heap.get? b = none) (hl : ∀ b ∈ T, ∃ o, s'.heap.get? b = some o) :
    Sees g Λ { ρ with frs := T ++ ρ.frs } μ s' where
  base := fun b o e => hk b o (S.base b o e)
  apart := fun b hb => by
    rcases hb with hb | hb | hb
    · exact S.apart b (.inl hb)
    · rcases List.mem_append.mp hb with hb | hb
      · exact none_back (fun b o e => ⟨o, S.base b o e⟩) (hf b hb)
      · exact S.apart b (.inr (.inl hb))
    · exact S.apart b (.inr (.inr hb))
  frlt := fun b hb => by
    rcases List.mem_append.mp hb with hb | hb
    · exact hl b hb
    · obtain ⟨o, e⟩ := S.frlt b hb; exact ⟨o, hk b o e⟩
  frof := fun b hb => by
    rcases List.mem_append.mp hb with hb | hb
    · intro m; obtain ⟨o, e⟩ := S.oflt b m; rw [hf b hb] at e; cases e
    · exact S.frof b hb
  tabof := fun b hb => ⟨(S.tabof b hb).1, fun m => by
    rcases List.mem_append.mp m with m | m
    · obtain ⟨o, e⟩ := S.tablt b hb; rw [hf b m] at e; cases e
    · exact (S.tabof b hb).2 m⟩
  len := S.len
  objs := fun i p o h1 h2 => by
    have d := S.objs i p o h1 h2
    cases o with
    | lst l =>
      obtain ⟨e, vs, ⟨n', ho⟩, dv⟩ := d
      exact ⟨e, vs, ⟨n', hk _ _ ho⟩, dv.fresh hk hf⟩
    | inst C ks l =>
      obtain ⟨e, e1, vs, hn, dv⟩ := d
      exact ⟨e, hk _ _ e1, vs, hn.at' (hk _), dv.fresh hk hf⟩
  dist := S.dist
  tabs := fun P hP => by
    obtain ⟨ps, e, t, q⟩ := S.tabs P hP
    refine ⟨ps, hk _ _ e, t, fun L hL hp => (q L hL hp).imp id ?_⟩
    rintro ⟨c', oc, e1, e2, e3, e4⟩
    refine ⟨c', oc, e1, ⟨e2.1, fun m => ?_, e2.2.2⟩, hk _ _ e3, e4⟩
    rcases List.mem_append.mp m with m | m
    · rw [hf c' m] at e3; cases e3
    · exact e2.2.1 m
  gens := hg.trans S.gens

theorem Steps.fresh {X : List Addr} (hk : ∀ b o, s.heap.get? b = some o → s'.heap.get? b = some o) (hos : s'.os = s.os) (hg : s'.gens = s.gens) : Steps X ρ s ρ s' := Steps.grown hk hos hg

/- own addresses given back -/
theorem VDens.pop {ρ : Rho} {fr : List Addr} (hT : ∀ b ∈ fr, b ∈ ρ.frs) {h : Heap} {l : List PV} {vs : List Value} (d : VDens Λ ρ h l vs) : VDens Λ { ρ with frs := fr } h l vs :=
  VDens.mono (ρ := ρ) (ρ' := { ρ with frs := fr }) (fun b o e sf => ⟨⟨sf.1, fun m => sf.2.1 (hT b m), sf.2.2⟩, e⟩) (fun b o e h1 _ _ => ⟨h1, e⟩) (fun _ _ h => h) d
theorem VDen.pop {ρ : Rho} {fr : List Addr} (hT : ∀ b ∈ fr, b ∈ ρ.frs) {h : Heap} {l : PV} {vs : Value} (d : VDen Λ ρ h l vs) : VDen Λ { ρ with frs := fr } h l vs :=
  VDen.mono (ρ := ρ) (ρ' := { ρ with frs := fr }) (fun b o e sf => ⟨⟨sf.1, fun m => sf.2.1 (hT b m), sf.2.2⟩, e⟩) (fun b o e h1 _ _ => ⟨h1, e⟩) (fun _ _ h => h) d
theorem Sees.pop (S : Sees g Λ ρ μ s) {fr : List Addr} (hT : ∀ b ∈ fr, b ∈ ρ.frs) : Sees g Λ { ρ with frs := fr } μ s where
  base := S.base
  apart := fun b hb => S.apart b (hb.imp id (Or.imp (hT b) id))
  frlt := fun b hb => S.frlt b (hT b hb)
  frof := fun b hb => S.frof b (hT b hb)
  tabof := fun b hb => ⟨(S.tabof b hb).1, fun m => (S.tabof b hb).2 (hT b m)⟩
  len := S.len
  objs := fun i p o h1 h2 => by
    have d := S.objs i p o h1 h2
    cases o with
    | lst l =>
      obtain ⟨e, vs, ho, dv⟩ := d
      exact ⟨e, vs, ho, dv.pop hT⟩
    | inst C ks l =>
      obtain ⟨e, e1, vs, hn, dv⟩ := d
      exact ⟨e, e1, vs, hn, dv.pop hT⟩
  dist := S.dist
  tabs := fun P hP => by
    obtain ⟨ps, e, t, q⟩ := S.tabs P hP
    refine ⟨ps, e, t, fun L hL hp => (q L hL hp).imp id ?_⟩
    rintro ⟨c', oc, e1, e2, e3, e4⟩
    exact ⟨c', oc, e1, ⟨e2.1, fun m => e2.2.1 (hT _ m), e2.2.2⟩, e3, e4⟩
  gens := S.gens

/- own addresses given back, whatever has become of them -/
theorem Sees.popTurn (S : Sees g Λ ρ μ s) {fr : List Addr} (hfr : ∀ b ∈ ρ.frs, b ∈ T ∨ b ∈ fr) (hT : ∀ b ∈ fr, b ∈ ρ.frs) (hTf : ∀ b ∈ fr, b ∉ T) (hTT : ∀ b ∈ T, b ∈ ρ.frs)
    (hnf : ∀ b ∈ T, ∀ o, s.heap.get? b = some o → ¬ filled o) (hk : KeptBut T s.heap s'.heap) (hg : s'.gens = s.gens) : Sees g Λ { ρ with frs := fr } μ s' := by
  have S2 := S.pop hT
  have vd : ∀ {l : List PV} {vs : List Value}, VDens Λ ρ s.heap l vs → VDens Λ { ρ with frs := fr } s'.heap l vs := fun d => (d.turnFrs hTT hnf hk).pop hT
  exact {
    base := fun b o e => hk b o (fun m => by rw [S.apart b (.inr (.inl (hTT b m)))] at e; cases e) (S.base b o e)
    apart := S2.apart
    frlt := fun b hb => by obtain ⟨o, e⟩ := S2.frlt b hb; exact ⟨o, hk b o (hTf b hb) e⟩
    frof := S2.frof
    tabof := S2.tabof
    len := S.len
    objs := fun i p o h1 h2 => by
      have hp : p.1 ∈ ofoot ρ := mem_ofoot.mpr ⟨p, List.mem_of_getElem? h1, .inl rfl⟩
      have hp2 : p.2 ∈ ofoot ρ := mem_ofoot.mpr ⟨p, List.mem_of_getElem? h1, .inr rfl⟩
      have k : ∀ b, b ∈ ofoot ρ → ∀ o, s.heap.get? b = some o → s'.heap.get? b = some o := fun b hb o e => hk b o (fun m => S.frof b (hTT b m) hb) e
      have d := S.objs i p o h1 h2
      cases o with
      | lst l =>
        obtain ⟨e, vs, ⟨n', ho⟩, dv⟩ := d
        exact ⟨e, vs, ⟨n', k _ hp _ ho⟩, vd dv⟩
      | inst C ks l =>
        obtain ⟨e, e1, vs, hn, dv⟩ := d
        exact ⟨e, k _ hp _ e1, vs, hn.at' (k _ hp2), vd dv⟩
    dist := S.dist
    tabs := fun P hP => by
      have k : ∀ b, b ∉ ρ.frs → ∀ o, s.heap.get? b = some o → s'.heap.get? b = some o := fun b hb o e => hk b o (fun m => hb (hTT b m)) e
      obtain ⟨ps, e, t, q⟩ := S.tabs P hP
      refine ⟨ps, k _ (S.tabof P hP).2 _ e, t, fun L hL hp => (q L hL hp).imp id ?_⟩
      rintro ⟨c', oc, e1, e2, e3, e4⟩
      exact ⟨c', oc, e1, ⟨e2.1, fun m => e2.2.1 (hT _ m), e2.2.2⟩, k _ e2.2.1 _ e3, e4⟩
    gens := hg.trans S.gens }
end

/- MStore -/


section
variable {prog : Program} {w : World} {A : Around} {n : Nat} {g : Heap} {Λ : List LamT} {ρ ρ' : Rho} {μ : List AO} {s s' : Shared} {sc : Sc} {env : Env} {l : Lc} {T : List Addr}

theorem nodup_get {α : Type} : ∀ {l : List α}, l.Nodup → ∀ {i j : Nat} {x : α}, l[i]? = some x → l[j]? = some x → i = j
  | [], _, _, _, _, h1, _ => by simp at h1
  | a :: l, hn, 0, 0, _, _, _ => rfl
  | a :: l, hn, 0, j + 1, x, h1, h2 => by
    simp only [List.getElem?_cons_zero, Option.some.injEq, List.getElem?_cons_succ] at h1 h2
    subst h1
    exact absurd (List.mem_of_getElem? h2) (List.nodup_cons.mp hn).1
  | a :: l, hn, i + 1, 0, x, h1, h2 => by
    simp only [List.getElem?_cons_zero, Option.some.injEq, List.getElem?_cons_succ] at h1 h2
    subst h2
    exact absurd (List.mem_of_getElem? h1) (List.nodup_cons.mp hn).1
  | a :: l, hn, i + 1, j + 1, x, h1, h2 => by
    simp only [List.getElem?_cons_succ] at h1 h2
    rw [nodup_get (List.nodup_cons.mp hn).2 h1 h2]

/- the names' places, when a thing of the frames' list has turned -/
theorem LocOk.turn {h h' : Heap} (x : LocOk Λ ρ sc env l h) (hT : ∀ b ∈ T, b ∈ ρ.frs) (hnf : ∀ b ∈ T, ∀ o, h.get? b = some o → ¬ filled o) (hk : KeptBut T h h') (hL : env.locals ∉ T)
    (hc : ∀ y c, sc.ks.lookup y = some .cell → env.cells.lookup y = some c → c ∉ T) : LocOk Λ ρ sc env l h' where
  fr := x.fr
  ns := by
    obtain ⟨m, hn, hv⟩ := x.ns
    refine ⟨m, hn.at' fun o e => hk _ o hL e, fun i y p h1 h2 h3 => ?_⟩
    obtain ⟨v, e, d⟩ := hv i y p h1 h2 h3
    exact ⟨v, e, d.turnFrs hT hnf hk⟩
  cells := fun i y p h1 h2 h3 => by
    obtain ⟨c, v, e, c1, c2, ⟨o, ho, hd⟩, d⟩ := x.cells i y p h1 h2 h3
    exact ⟨c, v, e, c1, c2, ⟨o, hk _ o (fun m => hnf c m o ho ⟨v, hd⟩) ho, hd⟩, d.turnFrs hT hnf hk⟩
  own := fun i y h1 h2 h3 => by
    obtain ⟨c, e, ⟨o, ho, hd⟩, hf⟩ := x.own i y h1 h2 h3
    exact ⟨c, e, ⟨o, hk _ o (hc y c h3 e) ho, hd⟩, hf⟩

theorem store_local (H : EnvOk sc env) (S : Sees g Λ ρ μ s) (x : LocOk Λ ρ sc env l s.heap) {i : Nat} {y : Str} {p : PV} {v : Value} (e1 : sc.ns[i]? = some y) (hk : sc.ks.lookup y = some .local) (hcl : ∀ y c, sc.ks.lookup y = some .cell → env.cells.lookup y = some c → c ≠ env.locals)
    (d : VDen Λ ρ s.heap p v) {R : Unit → Shared → Prop} {E : Value → Shared → Prop}
    (h : ∀ h', KeptBut [env.locals] s.heap h' → Sees g Λ ρ μ { s with heap := h', toks := s.toks + 1 } → LocOk Λ ρ sc env (l.set i (some p)) h' → (∃ o, h'.get? env.locals = some o ∧ ¬ filled o) → R () { s with heap := h', toks := s.toks + 1 }) :
    wpAny (model prog w) A (storeName env y v) R E s := by
  obtain ⟨m, hn, hv⟩ := x.ns
  refine wpAny_storeName_local (H.kl y hk) hn (fun h' hn' hs' => ?_) (by rw [H.kind]; rfl)
  have hkb : KeptBut [env.locals] s.heap h' := fun b o hb e => (hs'.2 b (fun q => hb (by rw [q]; exact .head _))).trans e
  have hT : ∀ b ∈ [env.locals], b ∈ ρ.frs := fun b hb => by rw [List.mem_singleton.mp hb]; exact x.fr
  have hnf : ∀ b ∈ [env.locals], ∀ o, s.heap.get? b = some o → ¬ filled o := fun b hb o e hf => by
    rw [List.mem_singleton.mp hb] at e
    obtain ⟨o', es, ep, ho, hd, _⟩ := hn
    rw [e] at ho; cases ho
    obtain ⟨u, hu⟩ := hf
    rw [hd] at hu; cases hu
  have hal : ∃ o, h'.get? env.locals = some o ∧ ¬ filled o := by
    obtain ⟨o', es, ep, ho, hd, _⟩ := hn'
    exact ⟨o', ho, fun ⟨u, hu⟩ => by rw [hd] at hu; cases hu⟩
  have S' : Sees g Λ ρ μ { s with heap := h', toks := s.toks + 1 } := S.turnFrs hT hnf hkb (fun b hb => by rw [List.mem_singleton.mp hb]; obtain ⟨o, e, _⟩ := hal; exact ⟨o, e⟩) rfl
  refine h h' hkb S' ⟨x.fr, ⟨_, hn', fun j z q h1 h2 h3 => ?_⟩, fun j z q h1 h2 h3 => ?_, fun j z h1 h2 h3 => ?_⟩ hal
  · by_cases hji : j = i
    · subst hji
      rw [e1] at h1; cases h1
      have hj : j < l.length := by
        have := (List.getElem?_eq_some_iff.mp h2).1; simpa using this
      rw [List.getElem?_set_self hj] at h2
      cases h2
      exact ⟨v, if_pos rfl, d.turnFrs hT hnf hkb⟩
    · rw [List.getElem?_set_ne (Ne.symm hji)] at h2
      obtain ⟨u, eu, du⟩ := hv j z q h1 h2 h3
      exact ⟨u, by rw [if_neg (fun (e : z = y) => hji (nodup_get H.nd (by rw [← e]; exact h1) e1))]; exact eu, du.turnFrs hT hnf hkb⟩
  · have hji : j ≠ i := by
      rintro rfl
      rw [e1] at h1; cases h1
      rw [hk] at h3; simp at h3
    rw [List.getElem?_set_ne (Ne.symm hji)] at h2
    obtain ⟨c, u, e, c1, c2, ⟨o, ho, hd⟩, du⟩ := x.cells j z q h1 h2 h3
    exact ⟨c, u, e, c1, c2, ⟨o, hkb _ o (fun m => hnf c m o ho ⟨u, hd⟩) ho, hd⟩, du.turnFrs hT hnf hkb⟩
  · have hji : j ≠ i := by
      rintro rfl
      rw [e1] at h1; cases h1
      rw [hk] at h3; simp at h3
    rw [List.getElem?_set_ne (Ne.symm hji)] at h2
    obtain ⟨c, e, ⟨o, ho, hd⟩, hf⟩ := x.own j z h1 h2 h3
    exact ⟨c, e, ⟨o, hkb _ o (fun m => hcl z c h3 e (List.mem_singleton.mp m)) ho, hd⟩, hf⟩

theorem store_cell (H : EnvOk sc env) (S : Sees g Λ ρ μ s) (x : LocOk Λ ρ sc env l s.heap) {i : Nat} {y : Str} {p : PV} {v : Value} (e1 : sc.ns[i]? = some y) (hk : sc.ks.lookup y = some .cell) (e2 : l[i]? = some none) (hcl : ∀ y c, sc.ks.lookup y = some .cell → env.cells.lookup y = some c → c ≠ env.locals)
    (d : VDen Λ ρ s.heap p v) {R : Unit → Shared → Prop} {E : Value → Shared → Prop}
    (h : ∀ h' c, env.cells.lookup y = some c → (∀ o, s.heap.get? c = some o → ¬ filled o) → KeptBut [c] s.heap h' → Sees g Λ ρ μ { s with heap := h' } → LocOk Λ ρ sc env (l.set i (some p)) h' → (∃ o, h'.get? c = some o) → R () { s with heap := h' }) :
    wpAny (model prog w) A (storeName env y v) R E s := by
  obtain ⟨c, ec, hcell, hf⟩ := x.own i y e1 e2 hk
  refine wpAny_storeName_cell H.kind (H.ke y hk) ec hcell fun h' hc' hs' => ?_
  have hkb : KeptBut [c] s.heap h' := fun b o hb e => (hs'.2 b (fun q => hb (by rw [q]; exact .head _))).trans e
  have hT : ∀ b ∈ [c], b ∈ ρ.frs := fun b hb => by rw [List.mem_singleton.mp hb]; exact hf
  have hnf0 : ∀ o, s.heap.get? c = some o → ¬ filled o := fun o e hfl => by
    obtain ⟨o', ho, hd⟩ := hcell
    rw [e] at ho; cases ho
    obtain ⟨u, hu⟩ := hfl
    rw [hd] at hu; cases hu
  have hnf : ∀ b ∈ [c], ∀ o, s.heap.get? b = some o → ¬ filled o := fun b hb o e => by rw [List.mem_singleton.mp hb] at e; exact hnf0 o e
  have hal : ∃ o, h'.get? c = some o := let ⟨o', ho, _⟩ := hc'; ⟨o', ho⟩
  have S' : Sees g Λ ρ μ { s with heap := h' } := S.turnFrs hT hnf hkb (fun b hb => by rw [List.mem_singleton.mp hb]; exact hal) rfl
  have hL : env.locals ∉ [c] := fun m => hcl y c hk ec (List.mem_singleton.mp m).symm
  obtain ⟨m, hn, hv⟩ := x.ns
  refine h h' c ec hnf0 hkb S' ⟨x.fr, ⟨m, hn.at' fun o e => hkb _ o hL e, fun j z q h1 h2 h3 => ?_⟩, fun j z q h1 h2 h3 => ?_, fun j z h1 h2 h3 => ?_⟩ hal
  · have hji : j ≠ i := by
      rintro rfl
      rw [e1] at h1; cases h1
      rw [hk] at h3; simp at h3
    rw [List.getElem?_set_ne (Ne.symm hji)] at h2
    obtain ⟨u, eu, du⟩ := hv j z q h1 h2 h3
    exact ⟨u, eu, du.turnFrs hT hnf hkb⟩
  · by_cases hji : j = i
    · subst hji
      rw [e1] at h1; cases h1
      have hj : j < l.length := (List.getElem?_eq_some_iff.mp e2).1
      rw [List.getElem?_set_self hj] at h2
      cases h2
      exact ⟨c, v, ec, S.frof c hf, fun m => (S.tabof c m).2 hf, hc', d.turnFrs hT hnf hkb⟩
    · rw [List.getElem?_set_ne (Ne.symm hji)] at h2
      obtain ⟨c2, u, e, c3, c4, ⟨o, ho, hd⟩, du⟩ := x.cells j z q h1 h2 h3
      exact ⟨c2, u, e, c3, c4, ⟨o, hkb _ o (fun m => hnf c2 m o ho ⟨u, hd⟩) ho, hd⟩, du.turnFrs hT hnf hkb⟩
  · have hji : j ≠ i := by
      rintro rfl
      have hj : j < l.length := (List.getElem?_eq_some_iff.mp e2).1
      rw [List.getElem?_set_self hj] at h2; cases h2
    rw [List.getElem?_set_ne (Ne.symm hji)] at h2
    obtain ⟨c2, e, ⟨o, ho, hd⟩, hf2⟩ := x.own j z h1 h2 h3
    refine ⟨c2, e, ⟨o, hkb _ o (fun m => ?_) ho, hd⟩, hf2⟩
    have := List.mem_singleton.mp m
    subst this
    have : y = z := H.inj y z c2 hk ec e
    subst this
    exact hji (nodup_get H.nd h1 e1)
end

/- MSrc -/


noncomputable def ItDen (tup : Bool) (Λ : List LamT) (ρ : Rho) (h : Heap) (it : List PV) (v : Value) : Prop :=
  if tup = true then ∃ T vs, v = .ref T ∧ T ∉ ρ.frs ∧ h.IsTuple T vs.toArray ∧ VDens Λ ρ h it vs else ∃ p, it = [p] ∧ VDen Λ ρ h p v

/- a source of items: an iterator, with the addresses that are its own -/
structure Src (prog : Program) (w : World) (A : Around) (g : Heap) (Λ : List LamT) (tup : Bool) (I : Addr) (own : List Addr) (its : List (List PV)) (G : List AO → Prop)
    (St : Nat → Rho → Heap → Prop) (Mid : Nat → Rho → Value → Heap → Prop) : Prop where
  keep : ∀ {i ρ ρ' h h'}, St i ρ h → (∀ b ∈ own, ∀ o, h.get? b = some o → h'.get? b = some o) → (∀ p v, VDen Λ ρ h p v → VDen Λ ρ' h' p v) → St i ρ' h'
  live : ∀ {i ρ h}, St i ρ h → ∀ b ∈ own, ∃ o, h.get? b = some o ∧ ¬ filled o
  midLive : ∀ {i ρ v h}, Mid i ρ v h → ∀ b ∈ own, ∃ o, h.get? b = some o ∧ ¬ filled o
  pull : ∀ {i : Nat} {it : List PV} {ρ : Rho} {μ : List AO} {s : Shared} {Q : Option Value → Shared → Prop} {E : Value → Shared → Prop}, Sees g Λ ρ μ s → G μ → St i ρ s.heap → its[i]? = some it → (∀ b ∈ own, b ∈ ρ.frs) →
    (∀ v h' tk, KeptBut own s.heap h' → Mid i ρ v h' → ItDen tup Λ ρ h' it v → Q (some v) { s with heap := h', toks := tk }) → wpAny (model prog w) A (pyNext (.ref I)) Q E s
  mid : tup = false → ∀ {i ρ v h}, Mid i ρ v h → St (i + 1) ρ h
  go : tup = true → ∀ {elts : List Expr} {k : Nat} {pos : Pos} {i : Nat} {ρ : Rho} {v : Value} {s : Shared} {Q : Unit → Shared → Prop} {E : Value → Shared → Prop}, Mid i ρ v s.heap → (∀ b ∈ own, b ∈ ρ.frs) →
    (∀ h', KeptBut own s.heap h' → St (i + 1) ρ h' → Q () { s with heap := h' }) → wpAny (model prog w) A (letOwnedTupleGo (.Tuple elts k pos) (.ref I) v) Q E s
  done : ∀ {ρ : Rho} {μ : List AO} {s : Shared} {Q : Option Value → Shared → Prop} {E : Value → Shared → Prop}, Sees g Λ ρ μ s → G μ → St its.length ρ s.heap →
    (∀ h', KeptBut own s.heap h' → Q none { s with heap := h' }) → wpAny (model prog w) A (pyNext (.ref I)) Q E s
  self : ∀ {i : Nat} {ρ : Rho} {s : Shared} {Q : Value → Shared → Prop} {E : Value → Shared → Prop}, St i ρ s.heap → Q (.ref I) s → wpAny (model prog w) A (pyIter (.ref I)) Q E s

section
variable {prog : Program} {w : World} {A : Around} {n : Nat} {g : Heap} {Λ : List LamT} {ρ ρ' : Rho} {μ : List AO} {s s' : Shared} {Q : Post} {x : PV} {vx : Value} {T : List Addr}

theorem KeptBut.same {a : Addr} {h h' : Heap} (x : Heap.SameBut a h h') : KeptBut [a] h h' := fun b o hb e => x.extBut b o (fun q => hb (by rw [q]; exact .head _)) e
theorem KeptBut.ext {a : Addr} {h h' : Heap} (x : Heap.ExtBut a h h') : KeptBut [a] h h' := fun b o hb e => x b o (fun q => hb (by rw [q]; exact .head _)) e

theorem not_filled_fields {o : Obj} {fs : Array Value} (e : o.data = .fields fs) : ¬ filled o := fun ⟨u, hu⟩ => by rw [e] at hu; cases hu
theorem not_filled_seq {o : Obj} {fs : Array Value} {n : Nat} (e : o.data = .seq fs n) : ¬ filled o := fun ⟨u, hu⟩ => by rw [e] at hu; cases hu

theorem vs_get {h : Heap} {l : List PV} {vs : List Value} (d : VDens Λ ρ h l vs) {i : Nat} {p : PV} (e : l[i]? = some p) : ∃ v, vs.toArray[i]? = some v ∧ VDen Λ ρ h p v := by
  obtain ⟨v, ev, dv⟩ := d.get e
  exact ⟨v, by simpa using ev, dv⟩
theorem vs_end {h : Heap} {l : List PV} {vs : List Value} (d : VDens Λ ρ h l vs) : vs.toArray[l.length]? = none := by
  have := d.len
  simp [this]

theorem Src.list (hh : A.handled = none) {it a : Addr} {pv : PV} {l : List PV} {G : List AO → Prop} (hG : ∀ μ, G μ → listOf pv μ = some l) :
    Src prog w A g Λ false it [it] (l.map fun x => [x]) G (fun i ρ h => VDen Λ ρ h pv (.ref a) ∧ h.IsListIter it a i) (fun i ρ _ h => VDen Λ ρ h pv (.ref a) ∧ h.IsListIter it a (i + 1)) where
  keep := fun st hk hd => ⟨hd _ _ st.1, st.2.at (hk _ (.head _))⟩
  live := fun st b hb => by
    rw [List.mem_singleton.mp hb]
    obtain ⟨o, ho, _, hd⟩ := st.2
    exact ⟨o, ho, not_filled_fields hd⟩
  midLive := fun st b hb => by
    rw [List.mem_singleton.mp hb]
    obtain ⟨o, ho, _, hd⟩ := st.2
    exact ⟨o, ho, not_filled_fields hd⟩
  pull := @fun i it' ρ μ s Q E S hg st hi hown hQ => by
    obtain ⟨d, hit⟩ := st
    obtain ⟨a', vs, ea, hl, dv⟩ := listOf_den S d (hG _ hg)
    cases ea
    rw [List.getElem?_map, Option.map_eq_some_iff] at hi
    obtain ⟨p, hp, rfl⟩ := hi
    obtain ⟨v, ev, dp⟩ := vs_get dv hp
    have hnf : ∀ b ∈ [it], ∀ o, s.heap.get? b = some o → ¬ filled o := fun b hb o ho => by
      rw [List.mem_singleton.mp hb] at ho
      obtain ⟨o', ho', _, hd⟩ := hit
      rw [ho] at ho'; cases ho'
      exact not_filled_fields hd
    refine wpAny_pyNext_list_item hit hl ev fun h' hit' hs' => ?_
    exact hQ v h' _ (KeptBut.same hs') ⟨d.turnFrs hown hnf (KeptBut.same hs'), hit'⟩ ⟨p, rfl, dp.turnFrs hown hnf (KeptBut.same hs')⟩
  mid := fun _ _ _ _ _ st => st
  go := fun h => by cases h
  done := fun S hg st hQ => by
    obtain ⟨d, hit⟩ := st
    obtain ⟨a', vs, ea, hl, dv⟩ := listOf_den S d (hG _ hg)
    cases ea
    rw [List.length_map] at hit
    exact wpAny_pyNext_list_end hh hit hl (vs_end dv) fun h' he' => hQ h' (KeptBut.ext he')
  self := fun st hQ => wpAny_pyIter_listiter st.2 hQ

theorem tup_den {h : Heap} {l : List PV} {a : Addr} (d : VDen Λ ρ h (.tup l) (.ref a)) : ∃ vs, h.IsTuple a vs.toArray ∧ VDens Λ ρ h l vs := by
  obtain ⟨_, _, e, sa, ht, dv⟩ := d.inv
  cases e
  exact ⟨_, ht, dv⟩
theorem tup_safe {ρ : Rho} {h : Heap} {l : List PV} {a : Addr} (d : VDen Λ ρ h (.tup l) (.ref a)) : Safe ρ a := by
  obtain ⟨_, _, e, sa, _⟩ := d.inv
  cases e
  exact sa

theorem tupIter_at {h h' : Heap} {a l : Addr} {i : Nat} (x : h.IsTupleIter a l i) (e : ∀ o, h.get? a = some o → h'.get? a = some o) : h'.IsTupleIter a l i := let ⟨o, ho, r⟩ := x; ⟨o, e _ ho, r⟩
theorem strIter_at {h h' : Heap} {a : Addr} {ty : String} {y : Str} {t : Tok} {i : Nat} (x : h.IsStrIter a ty y t i) (e : ∀ o, h.get? a = some o → h'.get? a = some o) : h'.IsStrIter a ty y t i := let ⟨o, ho, r⟩ := x; ⟨o, e _ ho, r⟩

theorem Src.tuple (hh : A.handled = none) {it a : Addr} {l : List PV} {G : List AO → Prop} :
    Src prog w A g Λ false it [it] (l.map fun x => [x]) G (fun i ρ h => VDen Λ ρ h (.tup l) (.ref a) ∧ h.IsTupleIter it a i) (fun i ρ _ h => VDen Λ ρ h (.tup l) (.ref a) ∧ h.IsTupleIter it a (i + 1)) where
  keep := fun st hk hd => ⟨hd _ _ st.1, tupIter_at st.2 (hk _ (.head _))⟩
  live := fun st b hb => by
    rw [List.mem_singleton.mp hb]
    obtain ⟨o, ho, _, hd⟩ := st.2
    exact ⟨o, ho, not_filled_fields hd⟩
  midLive := fun st b hb => by
    rw [List.mem_singleton.mp hb]
    obtain ⟨o, ho, _, hd⟩ := st.2
    exact ⟨o, ho, not_filled_fields hd⟩
  pull := @fun i it' ρ μ s Q E S hg st hi hown hQ => by
    obtain ⟨d, hit⟩ := st
    obtain ⟨vs, hl, dv⟩ := tup_den d
    rw [List.getElem?_map, Option.map_eq_some_iff] at hi
    obtain ⟨p, hp, rfl⟩ := hi
    obtain ⟨v, ev, dp⟩ := vs_get dv hp
    have hnf : ∀ b ∈ [it], ∀ o, s.heap.get? b = some o → ¬ filled o := fun b hb o ho => by
      rw [List.mem_singleton.mp hb] at ho
      obtain ⟨o', ho', _, hd⟩ := hit
      rw [ho] at ho'; cases ho'
      exact not_filled_fields hd
    refine wpAny_pyNext_tuple_item hit hl ev fun h' hit' hs' => ?_
    exact hQ v h' _ (KeptBut.same hs') ⟨d.turnFrs hown hnf (KeptBut.same hs'), hit'⟩ ⟨p, rfl, dp.turnFrs hown hnf (KeptBut.same hs')⟩
  mid := fun _ _ _ _ _ st => st
  go := fun h => by cases h
  done := fun S hg st hQ => by
    obtain ⟨d, hit⟩ := st
    obtain ⟨vs, hl, dv⟩ := tup_den d
    rw [List.length_map] at hit
    exact wpAny_pyNext_tuple_end hh hit hl (vs_end dv) fun h' he' => hQ h' (KeptBut.ext he')
  self := fun st hQ => wpAny_pyIter_tupleiter st.2 hQ

theorem upto_get : ∀ (n : Nat) (a : Int) (i : Nat), i < n → (upto a n)[i]? = some (a + i)
  | 0, _, i, h => by lia
  | n + 1, a, 0, _ => by simp [upto]
  | n + 1, a, i + 1, h => by
    simp only [upto, List.getElem?_cons_succ]
    rw [upto_get n (a + 1) i (by (exact Nat.le_of_lt_succ ‹_›))]
    congr 1; (simp +arith)
theorem upto_len : ∀ (n : Nat) (a : Int), (upto a n).length = n
  | 0, _ => rfl
  | n + 1, a => by simp [upto, upto_len n]

theorem Src.range (hh : A.handled = none) {it : Addr} {a : Int} {k : Nat} {G : List AO → Prop} :
    Src prog w A g Λ false it [it] ((upto a k).map fun i => [.int i]) G (fun i ρ h => IsRangeIter h it (a + i) ((k : Int) - i) 1) (fun i ρ _ h => IsRangeIter h it (a + (i + 1 : Nat)) ((k : Int) - (i + 1 : Nat)) 1) where
  keep := fun st hk hd => hk _ (.head _) _ st
  live := fun st b hb => by
    rw [List.mem_singleton.mp hb]
    exact ⟨_, st, not_filled_fields rfl⟩
  midLive := fun st b hb => by
    rw [List.mem_singleton.mp hb]
    exact ⟨_, st, not_filled_fields rfl⟩
  pull := @fun i it' ρ μ s Q E S hg st hi hown hQ => by
    have hlt : i < k := by
      have := (List.getElem?_eq_some_iff.mp hi).1
      simpa [upto_len] using this
    rw [List.getElem?_map, upto_get k a i hlt] at hi
    simp only [Option.map_some, Option.some.injEq] at hi
    subst hi
    refine wpAny_pyNext_range_item st (by (simp [*])) fun h' hit' hs' => ?_
    refine hQ _ h' _ (KeptBut.same hs') ?_ ⟨_, rfl, .int _ _⟩
    have e1 : a + ((i + 1 : Nat) : Int) = a + i + 1 := by (simp +arith)
    have e2 : (k : Int) - ((i + 1 : Nat) : Int) = (k : Int) - i - 1 := by (simp +arith)
    rw [e1, e2]; exact hit'
  mid := fun _ _ _ _ _ st => st
  go := fun h => by cases h
  done := fun S hg st hQ => by
    rw [List.length_map, upto_len] at st
    exact wpAny_pyNext_range_end hh st (by simp) fun h' he' => hQ h' (KeptBut.ext he')
  self := fun st hQ => by
    have hT : Shared.TypeIs _ (.ref it) "range_iterator" := ⟨_, st, rfl⟩
    refine wpAny_pyIter_slot hT F.slot_range_iterator_iter (wpAny_call_entry F.slot_range_iterator_iter hT F.entry_range_iterator_iter ?_ (F.args_range_iterator_iter_1 _))
    show wpAny _ _ (ret (.ref it)) _ _ _
    exact wpAny_pure ⟨_, rfl, "range_iterator", _, hT, F.slot_range_iterator_next.lookup, hQ⟩
end

/- MSrc2 -/

section
open Sem
open AutoSeq1 (wpAny_loadPart')

section
variable {prog : Program} {w : World} {A : Around} {E : Value → Shared → Prop} {s : Shared}

theorem nextOf_tuple_item {it l : Addr} {i : Nat} {items : Array Value} {x : Value} {Q : Value → Shared → Prop} (hit : s.heap.IsTupleIter it l i)
    (hl : s.heap.IsTuple l items) (hx : items[i]? = some x)
    (hQ : ∀ h', h'.IsTupleIter it l (i + 1) → Heap.SameBut it s.heap h' → Q x { s with heap := h' }) :
    wpAny (model prog w) A (Builtin.SmallTypes.nextOf (.ref it)) Q E s := by
  obtain ⟨o, ho, hc, hd⟩ := id hit
  obtain ⟨ol, hol, _, nl, hdl⟩ := hl
  unfold Builtin.SmallTypes.nextOf
  refine wpAny_bind (wpAny_callSpecial?_slot (name := Str.ofString "__next__") hit.typeIs F.slot_tuple_iterator_next
    (wpAny_call_entry F.slot_tuple_iterator_next hit.typeIs F.entry_tuple_iterator_next ?_ (F.args_tuple_iterator_next_1 _)))
  show wpAny _ _ (field (.ref it) 0 >>= _) _ _ s
  refine wpAny_bind (wpAny_field ho hd (x := .ref l) rfl ?_)
  show wpAny _ _ (if (Value.ref l == Value.none) = true then _ else _) _ _ s
  rw [if_neg (show ¬ ((Value.ref l == Value.none) = true) from Bool.false_ne_true)]
  show wpAny _ _ (field (.ref it) 1 >>= _) _ _ s
  refine wpAny_bind (wpAny_field ho hd (x := .int i 0) rfl ?_)
  show wpAny _ _ (seqItems? (.ref l) >>= _) _ _ s
  refine wpAny_bind (wpAny_seqItems hol hdl ?_)
  simp only [Int.toNat_natCast, hx]
  refine wpAny_bind (wpAny_setField ho hd (by simp) (wpAny_pure ⟨x, rfl, wpAny_pure (hQ _ ?_ (Heap.SameBut.update ..))⟩))
  exact ⟨_, Heap.get?_update_self _ ho (Obj.isFreed_of_fields (Obj.data_mapFields hd _)), (Obj.cls_mapFields ..).trans hc, by
    rw [Obj.data_mapFields hd]; simp [rawInt]⟩

theorem nextOf_tuple_end {it l : Addr} {i : Nat} {items : Array Value} {Q : Value → Shared → Prop} (hh : A.handled = none)
    (hit : s.heap.IsTupleIter it l i) (hl : s.heap.IsTuple l items) (hx : items[i]? = none)
    (hE : ∀ h' e, Heap.ExtBut it s.heap h' → (∃ o, h'.get? e = some o ∧ o.cls = .type "StopIteration") → E (.ref e) { s with heap := h' }) :
    wpAny (model prog w) A (Builtin.SmallTypes.nextOf (.ref it)) Q E s := by
  obtain ⟨o, ho, hc, hd⟩ := id hit
  obtain ⟨ol, hol, _, nl, hdl⟩ := hl
  unfold Builtin.SmallTypes.nextOf
  refine wpAny_bind (wpAny_callSpecial?_slot (name := Str.ofString "__next__") hit.typeIs F.slot_tuple_iterator_next
    (wpAny_call_entry F.slot_tuple_iterator_next hit.typeIs F.entry_tuple_iterator_next ?_ (F.args_tuple_iterator_next_1 _)))
  show wpAny _ _ (field (.ref it) 0 >>= _) _ _ s
  refine wpAny_bind (wpAny_field ho hd (x := .ref l) rfl ?_)
  show wpAny _ _ (if (Value.ref l == Value.none) = true then _ else _) _ _ s
  rw [if_neg (show ¬ ((Value.ref l == Value.none) = true) from Bool.false_ne_true)]
  show wpAny _ _ (field (.ref it) 1 >>= _) _ _ s
  refine wpAny_bind (wpAny_field ho hd (x := .int i 0) rfl ?_)
  show wpAny _ _ (seqItems? (.ref l) >>= _) _ _ s
  refine wpAny_bind (wpAny_seqItems hol hdl ?_)
  simp only [Int.toNat_natCast, hx]
  refine wpAny_bind (wpAny_rule (wpAny_bind (wpAny_setField ho hd (by simp) ?_)))
  show wpAny _ _ (newExc (.type "StopIteration") [] >>= _) _ _ _
  refine wpAny_bind ?_
  simp only [newExc, newTuple]
  refine wpAny_bind (wpAny_newObj_type ?_ (by size_fits))
  refine wpAny_bind (m := firstArgMember _ _) (wpAny_of_eq (a := Value.none) (by first | rfl | (simp only [firstArgMember]; rfl)) ?_)
  refine wpAny_newObj_type ?_ (by size_fits)
  simp only [raiseNew]
  refine wpAny_bind (wpAny_handled ?_)
  first | rw [show A.in1.handled = none from hh] | rw [hh]
  refine wpAny_bind (wpAny_pure (wpAny_throw ?_))
  exact hE _ _ (((Heap.SameBut.update ..).extBut.push _).push _) ⟨_, Heap.get?_push_size _ rfl, rfl⟩

theorem isTuple_at {h h' : Heap} {a : Addr} {items : Array Value} (x : h.IsTuple a items) (e : ∀ o, h.get? a = some o → h'.get? a = some o) : h'.IsTuple a items := let ⟨o, ho, r⟩ := x; ⟨o, e _ ho, r⟩

theorem drawsTuple (hh : A.handled = none) (it l : Addr) (hne : l ≠ it) (items : Array Value) :
    Draws prog w A it [it, l] items.size (fun i v => items[i]? = some v) (fun i h => h.IsTupleIter it l i ∧ h.IsTuple l items) where
  live := fun _ _ st => let ⟨o, ho, _⟩ := st.1; ⟨o, ho⟩
  frame := fun _ _ _ st hk => ⟨tupIter_at st.1 fun o e => hk it (by simp) o e, isTuple_at st.2 fun o e => hk l (by simp) o e⟩
  item := fun i s Q E hi st hQ => by
    refine nextOf_tuple_item st.1 st.2 (x := items[i]) (by simp [hi]) fun h' hit' hs' => ?_
    exact hQ _ h' s.toks (by simp [hi]) ⟨hit', st.2.extBut hs'.extBut hne⟩ hs'
  done := fun s Q E st hE => nextOf_tuple_end hh st.1 st.2 (by simp) hE

set_option tactic.hygienic true in
theorem meets_enumerate_newT (l : Addr) (items : Array Value) :
    Meets (Builtin.«enumerate.__new__» ⟨[.type "enumerate", .ref l], []⟩) (fun _ R s => s.heap.IsTuple l items ∧
      R (.ok (.ret (.ref (s.heap.push { cls := .type "tuple_iterator", data := .fields #[.ref l, .int 0 0] }).objs.size)))
        { s with heap := (s.heap.push { cls := .type "tuple_iterator", data := .fields #[.ref l, .int 0 0] }).push { cls := .type "enumerate", data := .fields #[.none, .bool false, .ref s.heap.objs.size, rawInt 0, .none, .none] } }) :=
  .of_wp fun prog w A R s h => by
    obtain ⟨hp, g, d, tk, os⟩ := s; obtain ⟨hl, h⟩ := h
    have hsub := sub_enumerate
    have hL : Heap.IsTuple (Shared.heap ⟨hp, g, d, tk, os⟩) l items := hl
    wp_walk
    refine wpAny_stack_any fun st => wpAny_pure ?_
    split
    · rename_i c _ _ _ _ _
      cases (c == Value.type "enumerate")
      · wp_walk using wpAny_pyIter_tuple hL
        exact ⟨_, rfl, h⟩
      · wp_walk using wpAny_pyIter_tuple hL
        exact ⟨_, rfl, h⟩
    · wp_walk using wpAny_pyIter_tuple hL
      exact ⟨_, rfl, h⟩

theorem call_enumerate_tuple {l : Addr} {items : Array Value} {Q : Value → Shared → Prop} (hL : s.heap.IsTuple l items)
    (h : ∀ h', IsEnum h' (s.heap.objs.size + 1) s.heap.objs.size 0 .none → h'.IsTupleIter s.heap.objs.size l 0 → h'.objs.size = s.heap.objs.size + 2 →
      (∀ b o, s.heap.get? b = some o → h'.get? b = some o) → Q (.ref (s.heap.objs.size + 1)) { s with heap := h' }) :
    wpAny (model prog w) A (call (.type "enumerate") [.ref l]) Q E s := by
  refine callType_new F.called_enumerate (by decide) (F.typeCall_enumerate_1 _) (F.newCall_enumerate_1 _) (fun obj => F.args_object_init_2 obj _) F.entry_enumerate_new
    (meets_enumerate_newT l items) ⟨hL, ?_⟩
  have hz : (s.heap.push { cls := .type "tuple_iterator", data := .fields #[.ref l, .int 0 0] }).objs.size = s.heap.objs.size + 1 := Heap.size_push ..
  show _ ∧ _
  rw [hz]
  have he : IsEnum ((s.heap.push { cls := .type "tuple_iterator", data := .fields #[.ref l, .int 0 0] }).push
      { cls := .type "enumerate", data := .fields #[.none, .bool false, .ref s.heap.objs.size, rawInt 0, .none, .none] }) (s.heap.objs.size + 1) s.heap.objs.size 0 .none := by
    have := Heap.get?_push_size (s.heap.push { cls := .type "tuple_iterator", data := .fields #[.ref l, .int 0 0] })
      (o := { cls := .type "enumerate", data := .fields #[.none, .bool false, .ref s.heap.objs.size, rawInt 0, .none, .none] }) rfl
    rw [hz] at this; exact this
  refine ⟨⟨_, he, rfl⟩, h _ he ⟨_, Heap.get?_push_of_some _ (Heap.get?_push_size _ rfl), rfl, rfl⟩ (by rw [Heap.size_push, hz]) fun b o x => Heap.get?_push_of_some _ (Heap.get?_push_of_some _ x)⟩
end

section
variable {prog : Program} {w : World} {A : Around} {n : Nat} {g : Heap} {Λ : List LamT} {ρ ρ' : Rho} {μ : List AO} {s s' : Shared} {Q : Post} {x : PV} {vx : Value} {T : List Addr}

theorem numbered_get : ∀ {l : List PV} {k i : Nat} {it : List PV}, (numbered k l)[i]? = some it → ∃ p, l[i]? = some p ∧ it = [.int ((k + i : Nat) : Int), p]
  | [], _, _, _, h => by simp [numbered] at h
  | p :: l, k, 0, it, h => by
    simp only [numbered, List.getElem?_cons_zero, Option.some.injEq] at h
    exact ⟨p, rfl, by rw [← h]; rfl⟩
  | p :: l, k, i + 1, it, h => by
    simp only [numbered, List.getElem?_cons_succ] at h
    obtain ⟨q, e1, e2⟩ := numbered_get h
    refine ⟨q, e1, e2.trans ?_⟩
    rw [show k + 1 + i = k + (i + 1) by (exact Nat.add_right_comm ..)]
theorem numbered_len : ∀ {l : List PV} {k : Nat}, (numbered k l).length = l.length
  | [], _ => rfl
  | p :: l, k => by simp [numbered, numbered_len]

theorem Src.enum (hh : A.handled = none) {e it a : Addr} (hei : e ≠ it) {l : List PV} {G : List AO → Prop} :
    Src prog w A g Λ true e [e, it] (numbered 0 l) G (fun i ρ h => VDen Λ ρ h (.tup l) (.ref a) ∧ h.IsTupleIter it a i ∧ (∃ old, IsEnum h e it i old))
      (fun i ρ v h => VDen Λ ρ h (.tup l) (.ref a) ∧ h.IsTupleIter it a (i + 1) ∧ ∃ x T, v = .ref T ∧ IsEnumOut h e it ((i : Int) + 1) x T) where
  keep := fun st hk hd => ⟨hd _ _ st.1, tupIter_at st.2.1 (hk _ (by simp)), let ⟨old, he⟩ := st.2.2; ⟨old, hk _ (by simp) _ he⟩⟩
  live := fun st b hb => by
    obtain ⟨_, ⟨o, ho, _, hd⟩, old, he⟩ := st
    simp only [List.mem_cons, List.not_mem_nil, or_false] at hb
    rcases hb with rfl | rfl
    · exact ⟨_, he, not_filled_fields rfl⟩
    · exact ⟨o, ho, not_filled_fields hd⟩
  midLive := fun st b hb => by
    obtain ⟨_, ⟨o, ho, _, hd⟩, x, T, _, he⟩ := st
    simp only [List.mem_cons, List.not_mem_nil, or_false] at hb
    rcases hb with rfl | rfl
    · exact ⟨_, he, not_filled_fields rfl⟩
    · exact ⟨o, ho, not_filled_fields hd⟩
  pull := @fun i it' ρ μ s Q E S hg st hi hown hQ => by
    obtain ⟨d, hit, old, he⟩ := st
    obtain ⟨vs, hl, dv⟩ := tup_den d
    obtain ⟨p, hp, rfl⟩ := numbered_get hi
    obtain ⟨v, ev, dp⟩ := vs_get dv hp
    have hlt : i < vs.toArray.size := (Array.getElem?_eq_some_iff.mp ev).1
    have hsafe : Safe ρ a := tup_safe d
    have hai : a ≠ it := fun q => hsafe.2.1 (q ▸ hown it (by simp))
    have hae : a ≠ e := fun q => hsafe.2.1 (q ▸ hown e (by simp))
    have hnf : ∀ b ∈ [e, it], ∀ o, s.heap.get? b = some o → ¬ filled o := fun b hb o ho => by
      simp only [List.mem_cons, List.not_mem_nil, or_false] at hb
      rcases hb with rfl | rfl
      · rw [he] at ho; cases ho; exact not_filled_fields rfl
      · obtain ⟨o', ho', _, hd⟩ := hit
        rw [ho] at ho'; cases ho'
        exact not_filled_fields hd
    refine wpAny_pyNext_enum_itemD (drawsTuple (A := A.in1) hh it a hai vs.toArray) he ⟨hit, hl⟩ hlt hei (by simp [hei, Ne.symm hae]) fun x h' tk hP ho hs' hT hsz hk => ?_
    have hkb : KeptBut [e, it] s.heap h' := fun b o hb q => hk b o (fun z => hb (by simp [z])) (fun z => hb (by simp [z])) q
    rw [ev] at hP; cases hP
    refine hQ _ h' _ hkb ⟨d.turnFrs hown hnf hkb, hs'.1, _, _, rfl, ho⟩ ?_
    refine ⟨_, [.int i tk, v], rfl, fun m => ?_, ⟨_, hT, rfl, _, rfl⟩, ?_⟩
    · obtain ⟨o', eo⟩ := S.frlt _ m
      exact Nat.lt_irrefl _ (Heap.lt_size eo)
    · rw [Nat.zero_add]
      exact .cons (.int _ _) (.cons (dp.turnFrs hown hnf hkb) .nil)
  mid := fun h => by cases h
  go := @fun _ elts k pos i ρ v s Q E hm hown hQ => by
    obtain ⟨d, hit, x, T, rfl, ho⟩ := hm
    have hnf : ∀ b ∈ [e], ∀ o, s.heap.get? b = some o → ¬ filled o := fun b hb o ho' => by
      rw [List.mem_singleton.mp hb] at ho'; rw [ho] at ho'; cases ho'; exact not_filled_fields rfl
    refine wpAny_letOwnedTupleGo_enum ho fun h' he' hs' => hQ h' ((KeptBut.same hs').wider (by simp)) ⟨d.turnFrs (fun b hb => hown b (by simp at hb; simp [hb])) hnf (KeptBut.same hs'), ?_, x, ?_⟩
    · exact tupIter_at hit fun o q => hs'.extBut _ o (Ne.symm hei) q
    · simpa using he'
  done := @fun ρ μ s Q E S hg st hQ => by
    obtain ⟨d, hit, old, he⟩ := st
    rw [numbered_len] at hit he
    obtain ⟨vs, hl, dv⟩ := tup_den d
    have hai : a ≠ it := fun q => by
      obtain ⟨o, ho, hc, _⟩ := hl
      obtain ⟨o', ho', hc', _⟩ := hit
      rw [q, ho'] at ho; cases ho
      rw [hc] at hc'; injection hc' with q2; exact absurd q2 (by decide)
    have hsz : vs.toArray.size = l.length := by simpa using dv.len
    refine wpAny_pyNext_enum_endD (drawsTuple (A := A.in1) hh it a hai vs.toArray) (n := vs.toArray.size) he ⟨by rw [hsz]; exact hit, hl⟩ fun h' hx => hQ h' fun b o hb y => hx b o (fun q => hb (by simp [q])) y
  self := fun st hQ => by
    obtain ⟨_, _, old, he⟩ := st
    exact wpAny_pyIter_enum he hQ
end

end
/- MSrc3 -/

section
open Sem
open AutoSeq1 (wpAny_loadPart')

section
variable {prog : Program} {w : World} {A : Around} {E : Value → Shared → Prop} {s : Shared}

structure ZA (z TI TO i1 i2 l2 : Addr) : Prop where
  TIz : TI ≠ z
  TOz : TO ≠ z
  i1z : i1 ≠ z
  i2z : i2 ≠ z
  TITO : TI ≠ TO
  TIi1 : TI ≠ i1
  TIi2 : TI ≠ i2
  TOi1 : TO ≠ i1
  TOi2 : TO ≠ i2
  i12 : i1 ≠ i2
  l2z : l2 ≠ z
  l2TO : l2 ≠ TO
  l2i1 : l2 ≠ i1
  l2i2 : l2 ≠ i2

noncomputable abbrev asciiTy : String := "str_ascii_iterator"
theorem strIter_ext {h h' : Heap} {a b : Addr} {y : Str} {t : Tok} {i : Nat} (x : h.IsStrIter a asciiTy y t i) (hs : Heap.ExtBut b h h') (hab : a ≠ b) : h'.IsStrIter a asciiTy y t i :=
  let ⟨o, ho, r⟩ := x; ⟨o, hs a o hab ho, r⟩

theorem zipS_next_item {z TI TO i1 i2 l2 : Addr} {k1 k2 : Nat} {y0 : Str} {t0 : Tok} {ys : Array Value} {c : Nat} {y a b : Value} {Q : Value → Shared → Prop} (D : ZA z TI TO i1 i2 l2)
    (hz : IsZip s.heap z TI TO .none) (hTI : IsPair s.heap TI (.ref i1) (.ref i2)) (hTO : IsPair s.heap TO a b)
    (h1 : s.heap.IsStrIter i1 asciiTy y0 t0 k1) (h2 : s.heap.IsTupleIter i2 l2 k2) (hl2 : s.heap.IsTuple l2 ys) (hx : y0.cps[k1]? = some c) (hy : ys[k2]? = some y)
    (hQ : ∀ h', IsZip h' z TI TO (rawInt s.heap.objs.size) → IsPair h' TO (.str ⟨#[c]⟩ s.toks) y → h'.IsStrIter i1 asciiTy y0 t0 (k1 + 1) → h'.IsTupleIter i2 l2 (k2 + 1) → IsPair h' s.heap.objs.size (.str ⟨#[c]⟩ s.toks) y → h'.objs.size = s.heap.objs.size + 1 →
      (∀ c o, c ≠ z → c ≠ TO → c ≠ i1 → c ≠ i2 → s.heap.get? c = some o → h'.get? c = some o) → Q (.ref s.heap.objs.size) { s with heap := h', toks := s.toks + 1 }) :
    wpAny (model prog w) A (Builtin.«zip.__next__» ⟨[.ref z], []⟩) (fun fin s' => ∃ v, fin = .done (.ret v) ∧ Q v s') E s := by
  show wpAny _ _ (field (.ref z) 2 >>= _) _ _ _
  refine wpAny_bind (wpAny_field hz rfl (x := .bool false) rfl ?_)
  show wpAny _ _ (field (.ref z) 3 >>= _) _ _ _
  refine wpAny_bind (wpAny_field hz rfl (x := .ref TI) rfl ?_)
  refine wpAny_bind (wpAny_seqItems hTI rfl ?_)
  show wpAny _ _ (Builtin.SmallTypes.ownedTupleIsFree (.ref z) >>= _) _ _ _
  refine wpAny_bind ?_
  unfold Builtin.SmallTypes.ownedTupleIsFree
  refine wpAny_bind (wpAny_field hz rfl (x := .none) rfl (wpAny_pure ?_))
  simp only [if_true]
  refine wpAny_bind (wpAny_rule ?_)
  refine wpAny_bind (wpAny_field hz rfl (x := .ref TO) rfl ?_)
  refine wpAny_bind (wpAny_setField_rec hz (by simp) fun h₁ hz₁ hs₁ => ?_)
  replace hz₁ : IsZip h₁ z TI TO .ellipsis := hz₁
  refine wpAny_bind ?_
  simp only [List.zipIdx_cons, List.zipIdx_nil, List.forIn_cons, List.forIn_nil]
  refine wpAny_bind (wpAny_bind (wpAny_onRaise ?_))
  show wpAny _ _ (Builtin.SmallTypes.nextOf (.ref i1) >>= _) _ _ _
  refine wpAny_bind (wpAny_nextOf_ascii_item (strIter_ext h1 hs₁.extBut D.i1z) hx fun h₂ h1₂ hs₂ => wpAny_pure ?_)
  have hTO₂ : IsPair h₂ TO a b := hs₂.extBut _ _ D.TOi1 (hs₁.extBut _ _ D.TOz hTO)
  refine wpAny_bind (wpAny_seqItems hTO₂ rfl ?_)
  refine wpAny_bind (wpAny_updateSeq_pair hTO₂ fun h₃ hTO₃ hs₃ => ?_)
  replace hTO₃ : IsPair h₃ TO (.str ⟨#[c]⟩ s.toks) b := hTO₃
  refine wpAny_bind (wpAny_letGo (wpAny_pure ?_))
  refine wpAny_bind (wpAny_bind (wpAny_onRaise ?_))
  show wpAny _ _ (Builtin.SmallTypes.nextOf (.ref i2) >>= _) _ _ _
  refine wpAny_bind (nextOf_tuple_item (((h2.extBut hs₁.extBut D.i2z).extBut hs₂.extBut D.i12.symm).extBut hs₃.extBut D.TOi2.symm)
    (((hl2.extBut hs₁.extBut D.l2z).extBut hs₂.extBut D.l2i1).extBut hs₃.extBut D.l2TO) hy fun h₄ h2₄ hs₄ => wpAny_pure ?_)
  have hTO₄ : IsPair h₄ TO (.str ⟨#[c]⟩ s.toks) b := hs₄.extBut _ _ D.TOi2 hTO₃
  refine wpAny_bind (wpAny_seqItems hTO₄ rfl ?_)
  refine wpAny_bind (wpAny_updateSeq_pair hTO₄ fun h₅ hTO₅ hs₅ => ?_)
  replace hTO₅ : IsPair h₅ TO (.str ⟨#[c]⟩ s.toks) y := hTO₅
  refine wpAny_bind (wpAny_letGo (wpAny_pure (wpAny_pure ?_)))
  refine wpAny_bind (wpAny_seqItems hTO₅ rfl ?_)
  refine wpAny_bind (wpAny_newTuple ?_)
  have hsz : h₅.objs.size = s.heap.objs.size := by rw [hs₅.1, hs₄.1, hs₃.1, hs₂.1, hs₁.1]
  have hz₅ : IsZip h₅ z TI TO .ellipsis := hs₅.extBut _ _ D.TOz.symm (hs₄.extBut _ _ D.i2z.symm (hs₃.extBut _ _ D.TOz.symm (hs₂.extBut _ _ D.i1z.symm hz₁)))
  have hk₅ : ∀ c o, c ≠ z → c ≠ TO → c ≠ i1 → c ≠ i2 → s.heap.get? c = some o → h₅.get? c = some o := fun c o c1 c2 c3 c4 e =>
    hs₅.extBut _ _ c2 (hs₄.extBut _ _ c4 (hs₃.extBut _ _ c2 (hs₂.extBut _ _ c3 (hs₁.extBut _ _ c1 e))))
  have h1₅ : h₅.IsStrIter i1 asciiTy y0 t0 (k1 + 1) := strIter_ext (strIter_ext (strIter_ext h1₂ hs₃.extBut D.TOi1.symm) hs₄.extBut D.i12) hs₅.extBut D.TOi1.symm
  have h2₅ : h₅.IsTupleIter i2 l2 (k2 + 1) := h2₄.extBut hs₅.extBut D.TOi2.symm
  have hzlt : z < h₅.objs.size := Heap.lt_size hz₅
  show wpAny _ _ (Builtin.SmallTypes.ownedTupleHandOut (.ref z) (.ref h₅.objs.size) >>= _) _ _ _
  refine wpAny_bind ?_
  unfold Builtin.SmallTypes.ownedTupleHandOut
  have hz₆ : IsZip (h₅.push { cls := .type "tuple", data := .seq #[.str ⟨#[c]⟩ s.toks, y] }) z TI TO .ellipsis := Heap.get?_push_of_some _ hz₅
  refine wpAny_bind (wpAny_setField_rec hz₆ (by simp) fun h₇ hz₇ hs₇ => ?_)
  replace hz₇ : IsZip h₇ z TI TO (rawInt h₅.objs.size) := hz₇
  refine wpAny_setField_rec hz₇ (by simp) fun h₈ hz₈ hs₈ => ?_
  replace hz₈ : IsZip h₈ z TI TO (rawInt h₅.objs.size) := hz₈
  have up : ∀ c o, c ≠ z → h₅.get? c = some o → h₈.get? c = some o := fun c o c1 e => hs₈.extBut _ _ c1 (hs₇.extBut _ _ c1 (Heap.get?_push_of_some _ e))
  have hT₈ : IsPair h₈ h₅.objs.size (.str ⟨#[c]⟩ s.toks) y := hs₈.extBut _ _ (Nat.ne_of_gt hzlt) (hs₇.extBut _ _ (Nat.ne_of_gt hzlt) (Heap.get?_push_size _ rfl))
  have hz8 : h₈.objs.size = h₅.objs.size + 1 := by rw [hs₈.1, hs₇.1, Heap.size_push]
  rw [hsz] at hz₈ hT₈ hz8
  refine wpAny_pure ⟨_, rfl, ?_⟩
  show Q (.ref h₅.objs.size) _
  rw [hsz]
  exact hQ h₈ hz₈ (up _ _ D.TOz hTO₅) (strIter_at h1₅ fun o e => up _ o D.i1z e) (tupIter_at h2₅ fun o e => up _ o D.i2z e) hT₈ hz8 fun c o c1 c2 c3 c4 e => up c o c1 (hk₅ c o c1 c2 c3 c4 e)

theorem zipS_next_end {z TI TO i1 i2 l2 : Addr} {k1 k2 : Nat} {y0 : Str} {t0 : Tok} {a b : Value} {Q : Fin → Shared → Prop} (hh : A.handled = none) (D : ZA z TI TO i1 i2 l2)
    (hz : IsZip s.heap z TI TO .none) (hTI : IsPair s.heap TI (.ref i1) (.ref i2)) (hTO : IsPair s.heap TO a b)
    (h1 : s.heap.IsStrIter i1 asciiTy y0 t0 k1) (hx : y0.cps[k1]? = none)
    (hE : ∀ h' e, (∀ c o, c ≠ z → c ≠ TO → c ≠ i1 → c ≠ i2 → s.heap.get? c = some o → h'.get? c = some o) → (∃ o, h'.get? e = some o ∧ o.cls = .type "StopIteration") → E (.ref e) { s with heap := h' }) :
    wpAny (model prog w) A (Builtin.«zip.__next__» ⟨[.ref z], []⟩) Q E s := by
  show wpAny _ _ (field (.ref z) 2 >>= _) _ _ _
  refine wpAny_bind (wpAny_field hz rfl (x := .bool false) rfl ?_)
  show wpAny _ _ (field (.ref z) 3 >>= _) _ _ _
  refine wpAny_bind (wpAny_field hz rfl (x := .ref TI) rfl ?_)
  refine wpAny_bind (wpAny_seqItems hTI rfl ?_)
  show wpAny _ _ (Builtin.SmallTypes.ownedTupleIsFree (.ref z) >>= _) _ _ _
  refine wpAny_bind ?_
  unfold Builtin.SmallTypes.ownedTupleIsFree
  refine wpAny_bind (wpAny_field hz rfl (x := .none) rfl (wpAny_pure ?_))
  simp only [if_true]
  refine wpAny_bind (wpAny_rule ?_)
  refine wpAny_bind (wpAny_field hz rfl (x := .ref TO) rfl ?_)
  refine wpAny_bind (wpAny_setField_rec hz (by simp) fun h₁ hz₁ hs₁ => ?_)
  replace hz₁ : IsZip h₁ z TI TO .ellipsis := hz₁
  refine wpAny_bind ?_
  simp only [List.zipIdx_cons, List.zipIdx_nil, List.forIn_cons, List.forIn_nil]
  refine wpAny_bind (wpAny_bind (wpAny_onRaise ?_))
  show wpAny _ _ (Builtin.SmallTypes.nextOf (.ref i1) >>= _) _ _ _
  refine wpAny_bind (wpAny_nextOf_ascii_end hh (strIter_ext h1 hs₁.extBut D.i1z) hx fun h₂ e hs₂ he => ?_)
  obtain ⟨oe, hoe, hce⟩ := he
  have hz₂ : IsZip h₂ z TI TO .ellipsis := hs₂ _ _ D.i1z.symm hz₁
  have hez : e ≠ z := fun x => by subst x; rw [hz₂] at hoe; cases hoe; simp at hce
  refine wpAny_setField_rec hz₂ (by simp) fun h₃ _ hs₃ => hE h₃ e (fun c o c1 _ c3 _ x => hs₃.extBut _ _ c1 (hs₂ _ _ c3 (hs₁.extBut _ _ c1 x))) ⟨oe, hs₃.extBut _ _ hez hoe, hce⟩

theorem pyNext_zipS_item {z TI TO i1 i2 l2 : Addr} {k1 k2 : Nat} {y0 : Str} {t0 : Tok} {ys : Array Value} {c : Nat} {y a b : Value} {Q : Option Value → Shared → Prop} (D : ZA z TI TO i1 i2 l2)
    (hz : IsZip s.heap z TI TO .none) (hTI : IsPair s.heap TI (.ref i1) (.ref i2)) (hTO : IsPair s.heap TO a b)
    (h1 : s.heap.IsStrIter i1 asciiTy y0 t0 k1) (h2 : s.heap.IsTupleIter i2 l2 k2) (hl2 : s.heap.IsTuple l2 ys) (hx : y0.cps[k1]? = some c) (hy : ys[k2]? = some y)
    (hQ : ∀ h', IsZip h' z TI TO (rawInt s.heap.objs.size) → IsPair h' TO (.str ⟨#[c]⟩ s.toks) y → h'.IsStrIter i1 asciiTy y0 t0 (k1 + 1) → h'.IsTupleIter i2 l2 (k2 + 1) → IsPair h' s.heap.objs.size (.str ⟨#[c]⟩ s.toks) y → h'.objs.size = s.heap.objs.size + 1 →
      (∀ c o, c ≠ z → c ≠ TO → c ≠ i1 → c ≠ i2 → s.heap.get? c = some o → h'.get? c = some o) → Q (some (.ref s.heap.objs.size)) { s with heap := h', toks := s.toks + 1 }) :
    wpAny (model prog w) A (pyNext (.ref z)) Q E s := by
  have hT : s.TypeIs (.ref z) "zip" := ⟨_, hz, rfl⟩
  unfold pyNext
  exact wpAny_bind (wpAny_attempt (wpAny_callSpecial?_slot (name := Str.ofString "__next__") hT F.slot_zip_next
    (wpAny_call_entry F.slot_zip_next hT F.entry_zip_next
      (zipS_next_item D hz hTI hTO h1 h2 hl2 hx hy fun h' a1 a2 a3 a4 a5 a6 a7 => wpAny_pure (hQ h' a1 a2 a3 a4 a5 a6 a7)) (F.args_zip_next_1 _))))

theorem pyNext_zipS_end {z TI TO i1 i2 l2 : Addr} {k1 : Nat} {y0 : Str} {t0 : Tok} {a b : Value} {Q : Option Value → Shared → Prop} (hh : A.handled = none) (D : ZA z TI TO i1 i2 l2)
    (hz : IsZip s.heap z TI TO .none) (hTI : IsPair s.heap TI (.ref i1) (.ref i2)) (hTO : IsPair s.heap TO a b)
    (h1 : s.heap.IsStrIter i1 asciiTy y0 t0 k1) (hx : y0.cps[k1]? = none)
    (hQ : ∀ h', (∀ c o, c ≠ z → c ≠ TO → c ≠ i1 → c ≠ i2 → s.heap.get? c = some o → h'.get? c = some o) → Q none { s with heap := h' }) : wpAny (model prog w) A (pyNext (.ref z)) Q E s := by
  have hT : s.TypeIs (.ref z) "zip" := ⟨_, hz, rfl⟩
  unfold pyNext
  refine wpAny_bind (wpAny_attempt (wpAny_callSpecial?_slot (name := Str.ofString "__next__") hT F.slot_zip_next
    (wpAny_call_entry F.slot_zip_next hT F.entry_zip_next (zipS_next_end (k2 := 0) hh D hz hTI hTO h1 hx fun h' e hk he => ?_) (F.args_zip_next_1 _))))
  obtain ⟨o, ho, hc⟩ := he
  refine wpAny_bind (wpAny_isInstance (T := "StopIteration") (b := true) ⟨o, ho, hc⟩ isSubtype_stop ?_)
  exact wpAny_pure (hQ _ hk)

noncomputable abbrev zsH1 (h : Heap) (y : Str) (t : Tok) : Heap := h.push { cls := .type asciiTy, data := .fields #[.str y t, .int 0 0] }
noncomputable abbrev zsH2 (h : Heap) (y : Str) (t : Tok) (l2 : Addr) : Heap := (zsH1 h y t).push { cls := .type "tuple_iterator", data := .fields #[.ref l2, .int 0 0] }
noncomputable abbrev zsH3 (h : Heap) (y : Str) (t : Tok) (l2 : Addr) : Heap := (zsH2 h y t l2).push { cls := .type "tuple", data := .seq #[.ref h.objs.size, .ref (zsH1 h y t).objs.size] }
noncomputable abbrev zsH4 (h : Heap) (y : Str) (t : Tok) (l2 : Addr) : Heap := (zsH3 h y t l2).push { cls := .type "tuple", data := .seq #[.none, .none] }
noncomputable abbrev zsH5 (h : Heap) (y : Str) (t : Tok) (l2 : Addr) : Heap := (zsH4 h y t l2).push { cls := .type "zip", data := .fields #[.none, .bool false, .bool false, .ref (zsH2 h y t l2).objs.size, .ref (zsH3 h y t l2).objs.size] }

set_option maxHeartbeats 2000000 in
theorem meets_zipS_new (y : Str) (t : Tok) (l2 : Addr) (ys : Array Value) (ha : y.cps.all (· < 128) = true) :
    Meets (Builtin.«zip.__new__» ⟨[.type "zip", .str y t, .ref l2], []⟩) (fun _ R s => s.heap.IsTuple l2 ys ∧
      R (.ok (.ret (.ref (zsH4 s.heap y t l2).objs.size))) { s with heap := zsH5 s.heap y t l2 }) :=
  .of_wp fun prog w A R s h => by
    obtain ⟨hp, g, d, tk, os⟩ := s; obtain ⟨hl2, h⟩ := h
    have hsub := sub_zip
    have hL2 : Heap.IsTuple (Shared.heap ⟨hp.push { cls := .type asciiTy, data := .fields #[.str y t, .int 0 0] }, g, d, tk, os⟩) l2 ys := Heap.IsTuple.push hl2 _
    wp_walk using wpAny_pyIter_ascii ha, wpAny_pyIter_tuple hL2
    exact ⟨_, rfl, h⟩

theorem call_zipS {y : Str} {t : Tok} {l2 : Addr} {ys : Array Value} {Q : Value → Shared → Prop} (ha : y.cps.all (· < 128) = true) (hl2 : s.heap.IsTuple l2 ys)
    (h : ∀ h', IsZip h' (s.heap.objs.size + 4) (s.heap.objs.size + 2) (s.heap.objs.size + 3) .none → IsPair h' (s.heap.objs.size + 2) (.ref s.heap.objs.size) (.ref (s.heap.objs.size + 1)) →
      IsPair h' (s.heap.objs.size + 3) .none .none → h'.IsStrIter s.heap.objs.size asciiTy y t 0 → h'.IsTupleIter (s.heap.objs.size + 1) l2 0 → h'.objs.size = s.heap.objs.size + 5 →
      (∀ c o, s.heap.get? c = some o → h'.get? c = some o) → Q (.ref (s.heap.objs.size + 4)) { s with heap := h' }) :
    wpAny (model prog w) A (call (.type "zip") [.str y t, .ref l2]) Q E s := by
  refine callType_new F.called_zip (by decide) (F.typeCall_zip_2 _ _) (F.newCall_zip_2 _ _) (fun obj => F.args_object_init_3 obj _ _) F.entry_zip_new
    (meets_zipS_new y t l2 ys ha) ⟨hl2, ?_⟩
  have z1 : (zsH1 s.heap y t).objs.size = s.heap.objs.size + 1 := Heap.size_push ..
  have z2 : (zsH2 s.heap y t l2).objs.size = s.heap.objs.size + 2 := by rw [Heap.size_push, z1]
  have z3 : (zsH3 s.heap y t l2).objs.size = s.heap.objs.size + 3 := by rw [Heap.size_push, z2]
  have z4 : (zsH4 s.heap y t l2).objs.size = s.heap.objs.size + 4 := by rw [Heap.size_push, z3]
  have z5 : (zsH5 s.heap y t l2).objs.size = s.heap.objs.size + 5 := by rw [Heap.size_push, z4]
  have g5 : (zsH5 s.heap y t l2).get? (zsH4 s.heap y t l2).objs.size = some _ := Heap.get?_push_size _ rfl
  have g4 : (zsH5 s.heap y t l2).get? (zsH3 s.heap y t l2).objs.size = some _ := Heap.get?_push_of_some _ (Heap.get?_push_size _ rfl)
  have g3 : (zsH5 s.heap y t l2).get? (zsH2 s.heap y t l2).objs.size = some _ := Heap.get?_push_of_some _ (Heap.get?_push_of_some _ (Heap.get?_push_size _ rfl))
  have g2 : (zsH5 s.heap y t l2).get? (zsH1 s.heap y t).objs.size = some _ := Heap.get?_push_of_some _ (Heap.get?_push_of_some _ (Heap.get?_push_of_some _ (Heap.get?_push_size _ rfl)))
  have g1 : (zsH5 s.heap y t l2).get? s.heap.objs.size = some _ := Heap.get?_push_of_some _ (Heap.get?_push_of_some _ (Heap.get?_push_of_some _ (Heap.get?_push_of_some _ (Heap.get?_push_size _ rfl))))
  show _ ∧ _
  rw [z2, z3, z4] at g5
  rw [z1, z2] at g3
  rw [z3] at g4
  rw [z1] at g2
  rw [z4]
  exact ⟨⟨_, g5, rfl⟩, h _ g5 g3 g4 ⟨_, g1, rfl, rfl⟩ ⟨_, g2, rfl, rfl⟩ z5 fun c o x => Heap.get?_push_of_some _ (Heap.get?_push_of_some _ (Heap.get?_push_of_some _ (Heap.get?_push_of_some _ (Heap.get?_push_of_some _ x))))⟩
end

end
/- MSrc4 -/

section
open Sem

section
variable {prog : Program} {w : World} {A : Around} {n : Nat} {g : Heap} {Λ : List LamT} {ρ ρ' : Rho} {μ : List AO} {s s' : Shared} {x y : PV} {vx vy : Value} {T : List Addr}

theorem strCode_get {t : Str} {c : Nat} (h : strCode t = some c) : sTab[c]? = some t := by
  unfold strCode at h
  rw [List.findIdx?_eq_some_iff_getElem] at h
  obtain ⟨hc, h1, _⟩ := h
  rw [beq_iff_eq] at h1
  rw [List.getElem?_eq_getElem hc, h1]

theorem mapM_get {α β : Type} {f : α → Option β} : ∀ {l : List α} {r : List β}, l.mapM f = some r → l.length = r.length ∧ ∀ (i : Nat) (b : β), r[i]? = some b → ∃ a, l[i]? = some a ∧ f a = some b
  | [], r, h => by simp at h; subst h; exact ⟨rfl, fun i b e => by simp at e⟩
  | a :: l, r, h => by
    simp only [List.mapM_cons, Option.pure_def, Option.bind_eq_bind, Option.bind_eq_some_iff, Option.some.injEq] at h
    obtain ⟨b, e1, r', e2, rfl⟩ := h
    obtain ⟨h1, h2⟩ := mapM_get e2
    refine ⟨by simp [h1], fun i c e => ?_⟩
    cases i with
    | zero => simp at e; subst e; exact ⟨a, rfl, e1⟩
    | succ i => simp at e; simpa using h2 i c e

theorem zip_get {cs : List Nat} {l : List PV} {i : Nat} {it : List PV} (h : ((cs.zip l).map fun p => [PV.str p.1, p.2])[i]? = some it) : ∃ c p, cs[i]? = some c ∧ l[i]? = some p ∧ it = [.str c, p] := by
  rw [List.getElem?_map, Option.map_eq_some_iff] at h
  obtain ⟨q, h1, rfl⟩ := h
  rw [List.getElem?_zip_eq_some] at h1
  exact ⟨q.1, q.2, h1.1, h1.2, rfl⟩

theorem big_nat (a b c d : Nat) : ∃ q : Nat, q ≠ a ∧ q ≠ b ∧ q ≠ c ∧ q ≠ d := ⟨a + b + c + d + 1, by lia, by (simp +arith), by (simp +arith), by omega⟩

theorem Src.zip (hh : A.handled = none) {z TI TO i1 i2 a : Addr} {y0 : Str} {t0 : Tok} (hne : z ≠ TI ∧ z ≠ TO ∧ z ≠ i1 ∧ z ≠ i2 ∧ TI ≠ TO ∧ TI ≠ i1 ∧ TI ≠ i2 ∧ TO ≠ i1 ∧ TO ≠ i2 ∧ i1 ≠ i2) {l : List PV} {cs : List Nat} {G : List AO → Prop}
    (hcs : y0.cps.toList.mapM (fun ch => strCode ⟨#[ch]⟩) = some cs) (hlen : cs.length = l.length) :
    Src prog w A g Λ true z [z, TI, TO, i1, i2] ((cs.zip l).map fun p => [.str p.1, p.2]) G
      (fun i ρ h => VDen Λ ρ h (.tup l) (.ref a) ∧ h.IsStrIter i1 asciiTy y0 t0 i ∧ h.IsTupleIter i2 a i ∧ IsZip h z TI TO .none ∧ IsPair h TI (.ref i1) (.ref i2) ∧ ∃ u v, IsPair h TO u v)
      (fun i ρ v h => VDen Λ ρ h (.tup l) (.ref a) ∧ h.IsStrIter i1 asciiTy y0 t0 (i + 1) ∧ h.IsTupleIter i2 a (i + 1) ∧ IsPair h TI (.ref i1) (.ref i2) ∧ (∃ u v, IsPair h TO u v) ∧ ∃ T, v = .ref T ∧ IsZip h z TI TO (rawInt T)) := by
  obtain ⟨n1, n2, n3, n4, n5, n6, n7, n8, n9, n10⟩ := hne
  have nf : ∀ {h : Heap} {f0 : Value} {i j : Nat}, h.IsStrIter i1 asciiTy y0 t0 i → h.IsTupleIter i2 a j → IsZip h z TI TO f0 → IsPair h TI (.ref i1) (.ref i2) → (∃ u v, IsPair h TO u v) → ∀ b ∈ [z, TI, TO, i1, i2], ∃ o, h.get? b = some o ∧ ¬ filled o := by
    intro h f0 i j ⟨o1, ho1, _, hd1⟩ ⟨o2, ho2, _, hd2⟩ hz h3 ⟨u, v, h4⟩ b hb
    simp only [List.mem_cons, List.not_mem_nil, or_false] at hb
    rcases hb with rfl | rfl | rfl | rfl | rfl
    · exact ⟨_, hz, not_filled_fields rfl⟩
    · exact ⟨_, h3, not_filled_seq rfl⟩
    · exact ⟨_, h4, not_filled_seq rfl⟩
    · exact ⟨_, ho1, not_filled_fields hd1⟩
    · exact ⟨_, ho2, not_filled_fields hd2⟩
  have hmap := mapM_get hcs
  exact {
    keep := fun st hk hd => ⟨hd _ _ st.1, strIter_at st.2.1 (hk _ (by simp)), tupIter_at st.2.2.1 (hk _ (by simp)), hk _ (by simp) _ st.2.2.2.1, hk _ (by simp) _ st.2.2.2.2.1, let ⟨u, v, q⟩ := st.2.2.2.2.2; ⟨u, v, hk _ (by simp) _ q⟩⟩
    live := fun ⟨_, a1, a2, a3, a4, a5⟩ => nf a1 a2 a3 a4 a5
    midLive := fun ⟨_, a1, a2, a4, a5, T, _, a3⟩ => nf a1 a2 a3 a4 a5
    pull := @fun i it' ρ μ s Q E S hg st hi hown hQ => by
      obtain ⟨d, h1, h2, hz, hTI, u0, v0, hTO⟩ := st
      obtain ⟨vs, hl, dv⟩ := tup_den d
      obtain ⟨c, p, hc, hp, rfl⟩ := zip_get hi
      obtain ⟨v, ev, dp⟩ := vs_get dv hp
      obtain ⟨ch, hch, hcode⟩ := hmap.2 i c hc
      have hsafe : Safe ρ a := tup_safe d
      have ne : ∀ b ∈ [z, TI, TO, i1, i2], a ≠ b := fun b hb q => hsafe.2.1 (q ▸ hown b hb)
      have D : ZA z TI TO i1 i2 a := ⟨n1.symm, n2.symm, n3.symm, n4.symm, n5, n6, n7, n8, n9, n10, ne _ (by simp), ne _ (by simp), ne _ (by simp), ne _ (by simp)⟩
      have hnf : ∀ b ∈ [z, TI, TO, i1, i2], ∀ o, s.heap.get? b = some o → ¬ filled o := fun b hb o ho => by
        obtain ⟨o', ho', hf⟩ := nf h1 h2 hz hTI ⟨_, _, hTO⟩ b hb
        rw [ho] at ho'; cases ho'; exact hf
      refine pyNext_zipS_item D hz hTI hTO h1 h2 hl (c := ch) (by simpa using hch) ev fun h' a1 a2 a3 a4 a5 a6 hk => ?_
      have hkb : KeptBut [z, TI, TO, i1, i2] s.heap h' := fun b o hb q => hk b o (fun e => hb (by simp [e])) (fun e => hb (by simp [e])) (fun e => hb (by simp [e])) (fun e => hb (by simp [e])) q
      refine hQ _ h' _ hkb ⟨d.turnFrs hown hnf hkb, a3, a4, hk _ _ n1.symm n5 n6 n7 hTI, ⟨_, _, a2⟩, _, rfl, a1⟩ ?_
      refine ⟨_, [.str ⟨#[ch]⟩ s.toks, v], rfl, fun m => ?_, ⟨_, a5, rfl, _, rfl⟩, ?_⟩
      · obtain ⟨o', eo⟩ := S.frlt _ m
        exact Nat.lt_irrefl _ (Heap.lt_size eo)
      · exact .cons (.str _ _ _ (strCode_get hcode)) (.cons (dp.turnFrs hown hnf hkb) .nil)
    mid := fun h => by cases h
    go := @fun _ elts k pos i ρ v s Q E hm hown hQ => by
      obtain ⟨d, h1, h2, hTI, ⟨u0, v0, hTO⟩, T, rfl, hz⟩ := hm
      have hnf : ∀ b ∈ [z], ∀ o, s.heap.get? b = some o → ¬ filled o := fun b hb o ho' => by
        rw [List.mem_singleton.mp hb] at ho'; rw [hz] at ho'; cases ho'; exact not_filled_fields rfl
      refine wpAny_letOwnedTupleGo_zip hz fun h' hz' hs' => hQ h' ((KeptBut.same hs').wider (by simp)) ⟨d.turnFrs (fun b hb => hown b (by simp at hb; simp [hb])) hnf (KeptBut.same hs'), ?_, ?_, hz', hs'.extBut _ _ n1.symm hTI, u0, v0, hs'.extBut _ _ n2.symm hTO⟩
      · exact strIter_at h1 fun o q => hs'.extBut _ o n3.symm q
      · exact tupIter_at h2 fun o q => hs'.extBut _ o n4.symm q
    done := @fun ρ μ s Q E S hg st hQ => by
      obtain ⟨d, h1, h2, hz, hTI, u0, v0, hTO⟩ := st
      have hL : ((cs.zip l).map fun p => [PV.str p.1, p.2]).length = cs.length := by simp [hlen]
      rw [hL] at h1 h2
      have hx : y0.cps[cs.length]? = none := by
        have := hmap.1
        rw [← this]; simp
      obtain ⟨vs, hl, dv⟩ := tup_den d
      have D : ∀ (q : Nat), q ≠ z → q ≠ TO → q ≠ i1 → q ≠ i2 → ZA z TI TO i1 i2 q := fun q q1 q2 q3 q4 => ⟨n1.symm, n2.symm, n3.symm, n4.symm, n5, n6, n7, n8, n9, n10, q1, q2, q3, q4⟩
      have hbig := big_nat z TO i1 i2
      obtain ⟨q, q1, q2, q3, q4⟩ := hbig
      exact pyNext_zipS_end hh (D q q1 q2 q3 q4) hz hTI hTO h1 hx fun h' hk => hQ h' fun b o hb q => hk b o (fun e => hb (by simp [e])) (fun e => hb (by simp [e])) (fun e => hb (by simp [e])) (fun e => hb (by simp [e])) q
    self := fun st hQ => wpAny_pyIter_zip st.2.2.2.1 hQ }

/- making the iterators -/
inductive SrcOut (prog : Program) (w : World) (A : Around) (g : Heap) (Λ : List LamT) (ρ : Rho) (s : Shared) (tup : Bool) (Q : SrcQ) (itv : Value) (s' : Shared) : Prop
  | mk (ρ₁ : Rho) (s₁ : Shared) (μ₁ : List AO) (I : Addr) (own : List Addr) (its : List (List PV)) (G : List AO → Prop) (St : Nat → Rho → Heap → Prop) (Mid : Nat → Rho → Value → Heap → Prop) : itv = .ref I → Src prog w A g Λ tup I own its G St Mid → Steps [] ρ s ρ₁ s₁ → Sees g Λ ρ₁ μ₁ s₁ → (∀ b o, s₁.heap.get? b = some o → s'.heap.get? b = some o) → s'.os = s₁.os → s'.gens = s₁.gens →
    (∀ b ∈ own, s₁.heap.get? b = none) → St 0 { ρ₁ with frs := own ++ ρ₁.frs } s'.heap → (∀ it ∈ its, it.length = if tup = true then 2 else 1) → its.length ≤ 3000000 → Q its G μ₁ → SrcOut prog w A g Λ ρ s tup Q itv s'

theorem new_own {h : Heap} (k : Nat) (hk : h.objs.size ≤ k) : h.get? k = none := Heap.get?_none_of_le hk

set_option tactic.hygienic true in
theorem iter_items (hh : A.handled = none) (S : Sees g Λ ρ μ s) (d : VDen Λ ρ s.heap x vx) {Q : SrcQ} (h : itemsP x μ Q) : wpAny (model prog w) A (pyIter vx) (SrcOut prog w A g Λ ρ s false Q) NoE s := by
  have fin : ∀ {a : Addr} {vs : List Value} {pv : PV} {l : List PV} {G : List AO → Prop}, VDen Λ ρ s.heap pv (.ref a) → s.heap.IsList a vs.toArray → (∀ μ, G μ → listOf pv μ = some l) → l.length ≤ 1000000 → Q (l.map fun x => [x]) G μ →
      wpAny (model prog w) A (pyIter (.ref a)) (SrcOut prog w A g Λ ρ s false Q) NoE s := by
    intro a vs pv l G d hl hG hz q
    refine wpAny_pyIter_list hl ?_
    refine ⟨ρ, s, μ, s.heap.objs.size, [s.heap.objs.size], _, G, _, _, rfl, Src.list hh (a := a) hG, Steps.refl _ _ _, S, push_keeps _, rfl, rfl, fun b hb => by rw [List.mem_singleton.mp hb]; exact new_own _ (Nat.le_refl _), ⟨?_, ?_⟩, by simp, by simp; (exact Nat.le_trans ‹_› (by decide)), q⟩
    · exact d.fresh (push_keeps _) (fun b hb => by rw [List.mem_singleton.mp hb]; exact new_own _ (Nat.le_refl _))
    · exact ⟨_, Heap.get?_push_size _ rfl, rfl, rfl⟩
  unfold itemsP at h
  split at h
  · rename_i l
    obtain ⟨a, vs, rfl, sa, ht, dv⟩ := d.inv
    refine wpAny_pyIter_tuple ht ?_
    refine ⟨ρ, s, μ, s.heap.objs.size, [s.heap.objs.size], _, _, _, _, rfl, Src.tuple hh (a := a), Steps.refl _ _ _, S, push_keeps _, rfl, rfl, fun b hb => by rw [List.mem_singleton.mp hb]; exact new_own _ (Nat.le_refl _), ⟨?_, ?_⟩, by simp, by have := h.1; simp; (exact Nat.le_trans ‹_› (by decide)), h.2⟩
    · exact d.fresh (push_keeps _) (fun b hb => by rw [List.mem_singleton.mp hb]; exact new_own _ (Nat.le_refl _))
    · exact ⟨_, Heap.get?_push_size _ rfl, rfl, rfl⟩
  · rename_i l
    obtain ⟨a, vs, rfl, hl, dv⟩ := listOf_den (l := l) S d rfl
    exact fin d hl (fun _ _ => rfl) h.1 h.2
  · rename_i k
    obtain ⟨l, hm, hz, q⟩ := h
    obtain ⟨a, vs, rfl, hl, dv⟩ := listOf_den (l := l) S d (by simp [listOf, hm])
    exact fin d hl (fun μ' e => by simp [listOf, e]) hz q
  · exact h.elim

theorem iter_range_of (hh : A.handled = none) (S : Sees g Λ ρ μ s) {a b : Int} {Q : SrcQ} (ha : a.natAbs ≤ 1000000) (hb : b.natAbs ≤ 1000000) (q : Q ((upto a (b - a).toNat).map fun i => [.int i]) (fun _ => True) μ)
    {r : Addr} {t u v : Tok} {s₂ : Shared} (hr : IsRange s₂.heap r a b 1 t u v) (hk : ∀ b o, s.heap.get? b = some o → s₂.heap.get? b = some o) (hos : s₂.os = s.os) (hg : s₂.gens = s.gens) :
    wpAny (model prog w) A (pyIter (.ref r)) (SrcOut prog w A g Λ ρ s false Q) NoE s₂ := by
  refine wpAny_pyIter_range hr (small_one (by lia) (by omega) (by lia) (by omega)) ?_
  have e : Builtin.Range.rangeSize a b 1 = ((b - a).toNat : Int) := by rw [rangeSize_one]; split <;> lia
  have hk2 : ∀ b' o, s.heap.get? b' = some o → (s₂.heap.push { cls := .type "range_iterator", data := .fields #[rawInt a, rawInt (Builtin.Range.rangeSize a b 1), rawInt 1] }).get? b' = some o := fun b' o e => Heap.get?_push_of_some _ (hk b' o e)
  refine ⟨ρ, s, μ, s₂.heap.objs.size, [s₂.heap.objs.size], _, _, _, _, rfl, Src.range hh (a := a) (k := (b - a).toNat), Steps.refl _ _ _, S, hk2, hos, hg, fun b hb => ?_, ?_, by simp, by rw [List.length_map, upto_len]; omega, q⟩
  · rw [List.mem_singleton.mp hb]
    exact none_back (fun b o e => ⟨o, hk b o e⟩) (new_own _ (Nat.le_refl _))
  · have := Heap.get?_push_size s₂.heap (o := { cls := .type "range_iterator", data := .fields #[rawInt a, rawInt (Builtin.Range.rangeSize a b 1), rawInt 1] }) rfl
    rw [e] at this
    simpa [e] using this

theorem iter_range1 (hh : A.handled = none) (S : Sees g Λ ρ μ s) (d : VDen Λ ρ s.heap y vy) {Q : SrcQ} (h : rangeP (.int 0) y μ Q) :
    wpAny (model prog w) A (call (.type "range") [vy]) (fun x s₂ => wpAny (model prog w) A (pyIter x) (SrcOut prog w A g Λ ρ s false Q) NoE s₂) NoE s := by
  obtain ⟨a, b, ea, rfl, ha, hb, q⟩ := h
  cases ea
  obtain ⟨_, rfl⟩ := d.inv
  exact call_range_1 (iter_range_of hh S ha hb q (IsRange.new ..) (push_keeps _) rfl rfl)
theorem iter_range2 (hh : A.handled = none) (S : Sees g Λ ρ μ s) (d1 : VDen Λ ρ s.heap x vx) (d : VDen Λ ρ s.heap y vy) {Q : SrcQ} (h : rangeP x y μ Q) :
    wpAny (model prog w) A (call (.type "range") [vx, vy]) (fun x s₂ => wpAny (model prog w) A (pyIter x) (SrcOut prog w A g Λ ρ s false Q) NoE s₂) NoE s := by
  obtain ⟨a, b, rfl, rfl, ha, hb, q⟩ := h
  obtain ⟨_, rfl⟩ := d1.inv
  obtain ⟨_, rfl⟩ := d.inv
  exact call_range_2 (iter_range_of hh S ha hb q (IsRange.new ..) (push_keeps _) rfl rfl)

theorem iter_enum (hh : A.handled = none) (S : Sees g Λ ρ μ s) (d : VDen Λ ρ s.heap x vx) {Q : SrcQ} (h : enumP x μ Q) :
    wpAny (model prog w) A (call (.type "enumerate") [vx]) (fun x s₂ => wpAny (model prog w) A (pyIter x) (SrcOut prog w A g Λ ρ s true Q) NoE s₂) NoE s := by
  obtain ⟨l, rfl, hz, q⟩ := h
  obtain ⟨a, vs, rfl, sa, ht, dv⟩ := d.inv
  refine call_enumerate_tuple ht fun h' he hit hsz hk => ?_
  refine wpAny_pyIter_enum he ?_
  have hfr : ∀ b ∈ [s.heap.objs.size + 1, s.heap.objs.size], s.heap.get? b = none := fun b hb => by
    simp only [List.mem_cons, List.not_mem_nil, or_false] at hb
    rcases hb with rfl | rfl
    · exact new_own _ (Nat.le_succ _)
    · exact new_own _ (Nat.le_refl _)
  refine ⟨ρ, s, μ, s.heap.objs.size + 1, [s.heap.objs.size + 1, s.heap.objs.size], _, _, _, _, rfl, Src.enum hh (a := a) (it := s.heap.objs.size) (Nat.ne_of_gt (Nat.lt_succ_self _)), Steps.refl _ _ _, S, hk, rfl, rfl, hfr, ⟨d.fresh hk hfr, hit, _, he⟩, fun it hit => (let ⟨i, hi⟩ := List.mem_iff_getElem?.mp hit; let ⟨p, _, e⟩ := numbered_get hi; by rw [e]; rfl), by rw [numbered_len]; (exact Nat.le_trans ‹_› (by decide)), q⟩

theorem str_small : ∀ c, c < sTab.length → (sTab.getD c Str.empty).cps.size ≤ 100 := by decide +kernel
theorem ascii_all : ∀ c, c < sTab.length → ((sTab.getD c Str.empty).cps.all (· < 128)) = true := by decide +kernel

theorem iter_zip (hh : A.handled = none) (S : Sees g Λ ρ μ s) (d1 : VDen Λ ρ s.heap x vx) (d : VDen Λ ρ s.heap y vy) {Q : SrcQ} (h : zipP x y μ Q) :
    wpAny (model prog w) A (call (.type "zip") [vx, vy]) (fun x s₂ => wpAny (model prog w) A (pyIter x) (SrcOut prog w A g Λ ρ s true Q) NoE s₂) NoE s := by
  obtain ⟨c, cs, l, rfl, rfl, hc, hcs, hlen, q⟩ := h
  obtain ⟨a, vs, rfl, sa, ht, dv⟩ := d.inv
  obtain ⟨y0, t0, rfl, ey⟩ := d1.inv
  have hy : sTab.getD c Str.empty = y0 := by rw [List.getD_eq_getElem?_getD, ey]; rfl
  have ha := ascii_all c hc
  rw [hy] at ha
  unfold charsOf at hcs
  rw [hy] at hcs
  refine call_zipS ha ht fun h' hz hTI hTO h1 h2 hsz hk => ?_
  refine wpAny_pyIter_zip hz ?_
  have hfr : ∀ b ∈ [s.heap.objs.size + 4, s.heap.objs.size + 2, s.heap.objs.size + 3, s.heap.objs.size, s.heap.objs.size + 1], s.heap.get? b = none := fun b hb => by
    simp only [List.mem_cons, List.not_mem_nil, or_false] at hb
    rcases hb with rfl | rfl | rfl | rfl | rfl <;> first | exact new_own _ (Nat.le_add_right _ _) | exact new_own _ (Nat.le_refl _)
  have nat : ∀ {i j : Nat}, i ≠ j → (s.heap.objs.size + i : Nat) ≠ s.heap.objs.size + j := fun h => by (simp [*])
  refine ⟨ρ, s, μ, s.heap.objs.size + 4, [s.heap.objs.size + 4, s.heap.objs.size + 2, s.heap.objs.size + 3, s.heap.objs.size, s.heap.objs.size + 1], _, _, _, _, rfl,
    Src.zip hh (a := a) ⟨nat (by decide), nat (by decide), nat (j := 0) (by decide), nat (by decide), nat (by decide), nat (j := 0) (by decide), nat (by decide), nat (j := 0) (by decide), nat (by decide), nat (i := 0) (by decide)⟩ hcs hlen,
    Steps.refl _ _ _, S, hk, rfl, rfl, hfr, ⟨d.fresh hk hfr, h1, h2, hz, hTI, _, _, hTO⟩, fun it hit => (let ⟨i, hi⟩ := List.mem_iff_getElem?.mp hit; let ⟨c', p, _, _, e⟩ := zip_get hi; by rw [e]; rfl), by
      have h1 := (mapM_get hcs).1
      have h2 := str_small c hc
      rw [hy] at h2
      simp only [List.length_map, List.length_zip, Array.length_toList] at h1 ⊢
      lia, q⟩
end

end
/- MFor -/

section
open Sem

theorem noE {α : Type} {M : Model} {A : Around} {m : Sem α} {Q : α → Shared → Prop} {E : Value → Shared → Prop} {s : Shared} (h : wpAny M A m Q NoE s) : wpAny M A m Q E s :=
  wpAny_mono h (fun _ _ q => q) fun _ _ e => e.elim

/- a frame: a block's names and the addresses that are its own -/
structure FrOk (sc : Sc) (env : Env) (X : List Addr) : Prop where
  H : EnvOk sc env
  loc : env.locals ∈ X
  cel : ∀ y c, sc.ks.lookup y = some .cell → env.cells.lookup y = some c → c ∈ X
  cne : ∀ y c, sc.ks.lookup y = some .cell → env.cells.lookup y = some c → c ≠ env.locals

/- the state of a frame -/
structure FS (g : Heap) (Λ : List LamT) (sc : Sc) (env : Env) (X : List Addr) (ρ : Rho) (μ : List AO) (l : Lc) (s : Shared) : Prop where
  S : Sees g Λ ρ μ s
  L : LocOk Λ ρ sc env l s.heap
  X : ∀ b ∈ X, b ∈ ρ.frs

/- after a step of a frame -/
inductive FOut (g : Heap) (Λ : List LamT) (sc : Sc) (env : Env) (X : List Addr) (ρ : Rho) (s : Shared) (P : Lc → List AO → Prop) (s' : Shared) : Prop
  | mk (ρ' : Rho) (μ' : List AO) (l' : Lc) : Steps X ρ s ρ' s' → FS g Λ sc env X ρ' μ' l' s' → P l' μ' → FOut g Λ sc env X ρ s P s'

section
variable {prog : Program} {w : World} {A : Around} {n : Nat} {g : Heap} {Λ : List LamT} {ρ ρ' : Rho} {μ μ' : List AO} {s s' : Shared} {sc : Sc} {env : Env} {l : Lc} {X T : List Addr}

theorem FS.steps {ρ' : Rho} (F : FS g Λ sc env X ρ μ l s) (st : Steps [] ρ s ρ' s') (S' : Sees g Λ ρ' μ' s') : FS g Λ sc env X ρ' μ' l s' :=
  ⟨S', F.L.step F.S st, fun b hb => by rw [st.frs]; exact F.X b hb⟩

theorem Steps.turnX (hTX : ∀ b ∈ T, b ∈ X) (hk : KeptBut T s.heap s'.heap) (hnf : ∀ b ∈ T, ∀ o, s.heap.get? b = some o → ¬ filled o) (hl : ∀ b ∈ T, ∃ o, s'.heap.get? b = some o) (hos : s'.os = s.os) (hg : s'.gens = s.gens) : Steps X ρ s ρ s' :=
  ⟨rfl, ⟨[], by simp, fun _ h => by cases h⟩, fun b o e _ _ hx => hk b o (fun m => hnf b m o e (hx (hTX b m))) e,
    fun b o e => by
      by_cases m : b ∈ T
      · exact hl b m
      · exact ⟨o, hk b o m e⟩, hos, hg⟩

theorem bindLoc_ok (Fr : FrOk sc env X) (F : FS g Λ sc env X ρ μ l s) {i : Nat} {y : Str} {p : PV} {v : Value} (e1 : sc.ns[i]? = some y) (hk : sc.ks.lookup y = some .local) (d : VDen Λ ρ s.heap p v)
    {R : Unit → Shared → Prop} {E : Value → Shared → Prop} (h : ∀ h' tk, KeptBut [env.locals] s.heap h' → Steps X ρ s ρ { s with heap := h', toks := tk } → FS g Λ sc env X ρ μ (l.set i (some p)) { s with heap := h', toks := tk } → R () { s with heap := h', toks := tk }) :
    wpAny (model prog w) A (storeName env y v) R E s := by
  refine store_local Fr.H F.S F.L e1 hk Fr.cne d fun h' hkb S' L' hal => h h' _ hkb ?_ ⟨S', L', F.X⟩
  obtain ⟨o, ho, _⟩ := hal
  refine Steps.turnX (T := [env.locals]) (fun b hb => by rw [List.mem_singleton.mp hb]; exact Fr.loc) hkb (fun b hb o' e => ?_) (fun b hb => by rw [List.mem_singleton.mp hb]; exact ⟨o, ho⟩) rfl rfl
  rw [List.mem_singleton.mp hb] at e
  obtain ⟨m, ⟨o2, es, ep, ho2, hd, _⟩, _⟩ := F.L.ns
  rw [e] at ho2; cases ho2
  exact fun ⟨u, hu⟩ => by rw [hd] at hu; cases hu

theorem bindCell_ok (Fr : FrOk sc env X) (F : FS g Λ sc env X ρ μ l s) {i : Nat} {y : Str} {p : PV} {v : Value} (e1 : sc.ns[i]? = some y) (hk : sc.ks.lookup y = some .cell) (e2 : l[i]? = some none) (d : VDen Λ ρ s.heap p v)
    {R : Unit → Shared → Prop} {E : Value → Shared → Prop} (h : ∀ h' c, c ∈ X → KeptBut [c] s.heap h' → (∀ b ∈ [c], ∀ o, s.heap.get? b = some o → ¬ filled o) → Steps X ρ s ρ { s with heap := h' } → FS g Λ sc env X ρ μ (l.set i (some p)) { s with heap := h' } → R () { s with heap := h' }) :
    wpAny (model prog w) A (storeName env y v) R E s := by
  refine store_cell Fr.H F.S F.L e1 hk e2 Fr.cne d fun h' c ec hnf hkb S' L' hal => h h' c (Fr.cel y c hk ec) hkb (fun b hb o e => by rw [List.mem_singleton.mp hb] at e; exact hnf o e) ?_ ⟨S', L', F.X⟩
  exact Steps.turnX (T := [c]) (fun b hb => by rw [List.mem_singleton.mp hb]; exact Fr.cel y c hk ec) hkb (fun b hb o e => by rw [List.mem_singleton.mp hb] at e; exact hnf o e) (fun b hb => by rw [List.mem_singleton.mp hb]; exact hal) rfl rfl

/- targets of loops -/
inductive TgNames (sc : Sc) : List Expr → List Nat → Prop
  | nil : TgNames sc [] []
  | cons {x p t es ts} : sc.ns[t]? = some x → sc.ks.lookup x = some .local → TgNames sc es ts → TgNames sc (.Name x p :: es) (t :: ts)

inductive TgOk (sc : Sc) : Bool → Expr → List Nat → Prop
  | one {x p t} : sc.ns[t]? = some x → sc.ks.lookup x = some .local → TgOk sc false (.Name x p) [t]
  | many {es k p ts} : TgNames sc es ts → TgOk sc true (.Tuple es k p) ts

theorem locals_nf (F : FS g Λ sc env X ρ μ l s) : ∀ b ∈ [env.locals], ∀ o, s.heap.get? b = some o → ¬ filled o := fun b hb o e => by
  rw [List.mem_singleton.mp hb] at e
  obtain ⟨m, ⟨o2, es, ep, ho2, hd, _⟩, _⟩ := F.L.ns
  rw [e] at ho2; cases ho2
  exact fun ⟨u, hu⟩ => by rw [hd] at hu; cases hu

theorem assignAll_ok (Fr : FrOk sc env X) : ∀ {es : List Expr} {ts : List Nat}, TgNames sc es ts → ∀ {it : List PV} {vs : List Value} {l : Lc} {s : Shared}, FS g Λ sc env X ρ μ l s → VDens Λ ρ s.heap it vs → es.length = vs.length →
    ∀ {R : Unit → Shared → Prop} {E : Value → Shared → Prop}, (∀ h' tk, KeptBut [env.locals] s.heap h' → Steps X ρ s ρ { s with heap := h', toks := tk } → FS g Λ sc env X ρ μ (setTg l ts it) { s with heap := h', toks := tk } → R () { s with heap := h', toks := tk }) →
    wpAny (model prog w) A (assignInOrder ((assignEach es env).map (·.2)) vs) R E s := by
  intro es ts hT
  induction hT with
  | nil =>
    intro it vs l s F d hl R E h
    have : vs = [] := by simpa using hl.symm
    subst this
    cases d
    exact assignInOrder_nil (h s.heap s.toks (fun _ _ _ e => e) (Steps.refl _ _ _) F)
  | @cons x p t es ts e1 e2 hn ih =>
    intro it vs l s F d hl R E h
    cases d with
    | nil => simp at hl
    | cons d1 d2 =>
      show wpAny _ _ (assignInOrder (_ :: ((assignEach es env).map (·.2))) _) _ _ s
      refine assignInOrder_cons (wpAny_assign_Name (bindLoc_ok Fr F e1 e2 d1 fun h' tk hkb st F' => ?_))
      have d2' := d2.turnFrs (T := [env.locals]) (fun b hb => by rw [List.mem_singleton.mp hb]; exact F.X _ Fr.loc) (locals_nf F) hkb
      refine ih F' d2' (by simpa using hl) fun h'' tk' hkb' st' F'' => ?_
      exact h h'' tk' (hkb.trans hkb') (st.trans st') F''

theorem TgNames.len {es : List Expr} {ts : List Nat} (h : TgNames sc es ts) : (assignEach es env).length = es.length ∧ (assignEach es env).findIdx? (·.1) = none := by
  induction h with
  | nil => exact ⟨rfl, rfl⟩
  | @cons x p t es ts e1 e2 hn ih =>
    show ((false, assign (.Name x p) env) :: assignEach es env).length = _ ∧ ((false, assign (.Name x p) env) :: assignEach es env).findIdx? (·.1) = none
    refine ⟨by simp [ih.1], ?_⟩
    simp only [List.findIdx?_cons, ih.2]
    rfl
theorem TgNames.len2 {es : List Expr} {ts : List Nat} (h : TgNames sc es ts) : es.length = ts.length := by
  induction h with
  | nil => rfl
  | cons _ _ _ ih => simp [ih]

/- an item taken and bound -/
theorem take_ok (hh : A.handled = none) (Fr : FrOk sc env X) {tup : Bool} {I : Addr} {own : List Addr} {its : List (List PV)} {G : List AO → Prop} {St : Nat → Rho → Heap → Prop} {Mid : Nat → Rho → Value → Heap → Prop}
    (C : Src prog w A g Λ tup I own its G St Mid) (F : FS g Λ sc env X ρ μ l s) (hG : G μ) {i : Nat} (st : St i ρ s.heap) (hown : ∀ b ∈ own, b ∈ ρ.frs ∧ b ∉ X) {it : List PV} (hi : its[i]? = some it) {target : Expr} {tg : List Nat} (hT : TgOk sc tup target tg) (hlen : it.length = tg.length)
    {R : Option Value → Shared → Prop} {E : Value → Shared → Prop}
    (h : ∀ v s₁, wpAny (model prog w) A (letOwnedTupleGo target (.ref I) v) (fun _ s₂ => wpAny (model prog w) A (assign target env v) (fun _ s₃ => Steps (own ++ X) ρ s ρ s₃ ∧ FS g Λ sc env X ρ μ (setTg l tg it) s₃ ∧ St (i + 1) ρ s₃.heap) NoE s₂) NoE s₁ → R (some v) s₁) :
    wpAny (model prog w) A (pyNext (.ref I)) R E s := by
  have ownf : ∀ b ∈ own, b ∈ ρ.frs := fun b hb => (hown b hb).1
  have hnf : ∀ {i : Nat} {s : Shared}, St i ρ s.heap → ∀ b ∈ own, ∀ o, s.heap.get? b = some o → ¬ filled o := fun st b hb o e => by
    obtain ⟨o', ho, hf⟩ := C.live st b hb
    rw [e] at ho; cases ho; exact hf
  have cw : ∀ {h : Heap} {o : Obj} {c : Addr}, o.data = .cell none → ¬ filled o := fun e ⟨u, hu⟩ => by rw [e] at hu; cases hu
  have locT : ∀ {s : Shared} {l : Lc} {h' : Heap} {tk : Tok}, FS g Λ sc env X ρ μ l s → (∀ b ∈ own, ∀ o, s.heap.get? b = some o → ¬ filled o) → KeptBut own s.heap h' → (∀ b ∈ own, ∃ o, h'.get? b = some o) → Steps (own ++ X) ρ s ρ { s with heap := h', toks := tk } ∧ FS g Λ sc env X ρ μ l { s with heap := h', toks := tk } := by
    intro s l h' tk F hnf hkb hal
    refine ⟨Steps.turnX (T := own) (fun b hb => List.mem_append_left _ hb) hkb hnf hal rfl rfl, F.S.turnFrs ownf hnf hkb hal rfl, F.L.turn ownf hnf hkb (fun m => (hown _ m).2 Fr.loc) (fun y c hc e m => (hown _ m).2 (Fr.cel y c hc e)), F.X⟩
  have stepW : ∀ {s s' : Shared}, Steps X ρ s ρ s' → Steps (own ++ X) ρ s ρ s' := fun a => ⟨a.frs, a.ext, fun b o e h1 h2 h3 => a.keep b o e h1 h2 fun m => h3 (List.mem_append_right _ m), a.live, a.os, a.gens⟩
  have ownL : ∀ {h h' : Heap}, KeptBut [env.locals] h h' → ∀ b ∈ own, ∀ o, h.get? b = some o → h'.get? b = some o := fun hkb b hb o e => hkb b o (fun m => (hown b hb).2 (by rw [List.mem_singleton.mp m]; exact Fr.loc)) e
  have vdL : ∀ {s : Shared} {l : Lc} {h' : Heap}, FS g Λ sc env X ρ μ l s → KeptBut [env.locals] s.heap h' → ∀ p v, VDen Λ ρ s.heap p v → VDen Λ ρ h' p v := fun F hkb p v d => d.turnFrs (T := [env.locals]) (fun b hb => by rw [List.mem_singleton.mp hb]; exact F.X _ Fr.loc) (locals_nf F) hkb
  refine C.pull F.S hG st hi ownf fun v h₁ tk₁ hkb₁ hm hd => h v _ ?_
  have hal₁ : ∀ b ∈ own, ∃ o, h₁.get? b = some o := fun b hb => let ⟨o, e, _⟩ := C.midLive hm b hb; ⟨o, e⟩
  obtain ⟨s1, F1⟩ := locT (tk := tk₁) F (hnf st) hkb₁ hal₁
  cases hT with
  | @one x p t e1 e2 =>
    obtain ⟨q, rfl, dq⟩ := hd
    refine wpAny_pure ?_
    refine wpAny_assign_Name (bindLoc_ok Fr F1 e1 e2 dq fun h₂ tk₂ hkb₂ s2 F2 => ⟨s1.trans (stepW s2), F2, ?_⟩)
    exact C.keep (C.mid rfl hm) (ownL hkb₂) (vdL F1 hkb₂)
  | @many es k p ts hN =>
    obtain ⟨T, vs, rfl, hTf, hTt, dvs⟩ := hd
    have hnfm : ∀ b ∈ own, ∀ o, h₁.get? b = some o → ¬ filled o := fun b hb o e => by
      obtain ⟨o', ho, hf⟩ := C.midLive hm b hb
      rw [e] at ho; cases ho; exact hf
    refine C.go rfl hm ownf fun h₂ hkb₂ st₂ => ?_
    have hal₂ : ∀ b ∈ own, ∃ o, h₂.get? b = some o := fun b hb => let ⟨o, e, _⟩ := C.live st₂ b hb; ⟨o, e⟩
    obtain ⟨s2, F2⟩ := locT (tk := tk₁) F1 hnfm hkb₂ hal₂
    have hT2 : h₂.IsTuple T vs.toArray := isTuple_at hTt fun o e => hkb₂ T o (fun m => hTf (ownf T m)) e
    have dv2 : VDens Λ ρ h₂ it vs := dvs.turnFrs ownf hnfm hkb₂
    have hl2 : es.length = vs.length := by rw [dvs.len, hlen, hN.len2]
    refine wpAny_assign_Tuple hh hT2 (by rw [hN.len.1]; simpa using hl2) hN.len.2 fun h₃ hx => ?_
    have hk3 : ∀ b o, h₂.get? b = some o → h₃.get? b = some o := fun b o e => hx b o (fun q => Nat.lt_irrefl h₂.objs.size (by have := Heap.lt_size e; rw [q] at this; exact this)) e
    have s3 : Steps (own ++ X) ρ { s with heap := h₂, toks := tk₁ } ρ { s with heap := h₃, toks := tk₁ } := Steps.grown hk3 rfl rfl
    have s3' : Steps [] ρ { s with heap := h₂, toks := tk₁ } ρ { s with heap := h₃, toks := tk₁ } := Steps.grown hk3 rfl rfl
    have F3 : FS g Λ sc env X ρ μ l { s with heap := h₃, toks := tk₁ } := F2.steps s3' (F2.S.grown hk3 rfl)
    refine assignAll_ok Fr hN F3 (dv2.grown hk3) (by simpa using hl2) fun h₄ tk₄ hkb₄ s4 F4 => ⟨((s1.trans s2).trans s3).trans (stepW s4), F4, ?_⟩
    exact C.keep (C.keep st₂ (fun b _ o e => hk3 b o e) fun p v d => d.grown hk3) (ownL hkb₄) (vdL F3 hkb₄)
end

end
/- MLoop -/

section
open Sem

noncomputable def PhiOk (prog : Program) (w : World) (g : Heap) (Λ : List LamT) (Φ : Phi) (n : Nat) : Prop :=
  ∀ {A : Around} {ρ : Rho} {μ : List AO} {s : Shared} {a : Addr} {xs : List PV} {vals : List Value} {Q : Post}, Room n A → Sees g Λ ρ μ s → VDens Λ ρ s.heap xs vals → Φ a xs μ Q →
    wpAny (model prog w) A (call (.ref a) vals) (Out g Λ ρ s Q) NoE s

structure Cx where
  prog : Program
  w : World
  g : Heap
  Λ : List LamT
  Φ : Phi
  n : Nat
  gd : Gd w g
  phi : PhiOk prog w g Λ Φ n
  phiK : ∀ {a : Addr} {xs : List PV} {μ : List AO} {Q : Post}, Φ a xs μ Q → keepIn (KK w.params) (.ref a) = true

inductive FlDen (Λ : List LamT) (ρ : Rho) (h : Heap) : Fl → Flow → Prop
  | next : FlDen Λ ρ h .next .next
  | ret {v val} : VDen Λ ρ h v val → FlDen Λ ρ h (.ret v) (.ret val)

inductive FOutF (g : Heap) (Λ : List LamT) (sc : Sc) (env : Env) (X : List Addr) (ρ : Rho) (s : Shared) (Q : SPost) (f : Flow) (s' : Shared) : Prop
  | mk (ρ' : Rho) (μ' : List AO) (l' : Lc) (fl : Fl) : Steps X ρ s ρ' s' → FS g Λ sc env X ρ' μ' l' s' → FlDen Λ ρ' s'.heap fl f → Q fl l' μ' → FOutF g Λ sc env X ρ s Q f s'

inductive TOut (g : Heap) (Λ : List LamT) (ρ : Rho) (s : Shared) (Q : Bool → List AO → Prop) (b : Bool) (s' : Shared) : Prop
  | mk (ρ' : Rho) (μ' : List AO) : Steps [] ρ s ρ' s' → Sees g Λ ρ' μ' s' → Q b μ' → TOut g Λ ρ s Q b s'

inductive EsOut (g : Heap) (Λ : List LamT) (ρ : Rho) (s : Shared) (Q : List PV → List AO → Prop) (vals : List Value) (s' : Shared) : Prop
  | mk (ρ' : Rho) (vs : List PV) (μ' : List AO) : Steps [] ρ s ρ' s' → Sees g Λ ρ' μ' s' → VDens Λ ρ' s'.heap vs vals → Q vs μ' → EsOut g Λ ρ s Q vals s'

noncomputable def SndE (K : Cx) (sc : Sc) (x : Expr) (e : CE) : Prop :=
  ∀ {A : Around} {env : Env} {X : List Addr} {ρ : Rho} {μ : List AO} {l : Lc} {s : Shared} {Q : Post}, Room K.n A → FrOk sc env X → FS K.g K.Λ sc env X ρ μ l s → wpE K.Φ e l μ Q →
    wpAny (model K.prog K.w) A (eval x env) (Out K.g K.Λ ρ s Q) NoE s
noncomputable def SndT (K : Cx) (sc : Sc) (x : Expr) (e : CE) : Prop :=
  ∀ {A : Around} {env : Env} {X : List Addr} {ρ : Rho} {μ : List AO} {l : Lc} {s : Shared} {Q : Bool → List AO → Prop}, Room K.n A → FrOk sc env X → FS K.g K.Λ sc env X ρ μ l s → wpT K.Φ e l μ Q →
    wpAny (model K.prog K.w) A (isTrue x env (eval x env)) (TOut K.g K.Λ ρ s Q) NoE s
noncomputable def SndI (K : Cx) (sc : Sc) (x : Expr) (ci : CI) (tup : Bool) : Prop :=
  ∀ {A : Around} {env : Env} {X : List Addr} {ρ : Rho} {μ : List AO} {l : Lc} {s : Shared} {Q : SrcQ}, Room K.n A → FrOk sc env X → FS K.g K.Λ sc env X ρ μ l s → wpI K.Φ ci l μ Q →
    wpAny (model K.prog K.w) A (eval x env) (fun x s₁ => wpAny (model K.prog K.w) A (pyIter x) (SrcOut K.prog K.w A K.g K.Λ ρ s tup Q) NoE s₁) NoE s
noncomputable def SndS (K : Cx) (sc : Sc) (x : Stmt) (c : CS) : Prop :=
  ∀ {A : Around} {env : Env} {X : List Addr} {ρ : Rho} {μ : List AO} {l : Lc} {s : Shared} {Q : SPost}, Room K.n A → FrOk sc env X → FS K.g K.Λ sc env X ρ μ l s → wpS K.Φ c l μ Q →
    wpAny (model K.prog K.w) A (exec x env) (FOutF K.g K.Λ sc env X ρ s Q) NoE s
noncomputable def SndSs (K : Cx) (sc : Sc) (x : List Stmt) (c : CSs) : Prop :=
  ∀ {A : Around} {env : Env} {X : List Addr} {ρ : Rho} {μ : List AO} {l : Lc} {s : Shared} {Q : SPost}, Room K.n A → FrOk sc env X → FS K.g K.Λ sc env X ρ μ l s → wpSs K.Φ c l μ Q →
    wpAny (model K.prog K.w) A (execs x env) (FOutF K.g K.Λ sc env X ρ s Q) NoE s

section
variable {prog : Program} {w : World} {A : Around} {n : Nat} {g : Heap} {Λ : List LamT} {ρ ρ' : Rho} {μ μ' : List AO} {s s' : Shared} {sc : Sc} {env : Env} {l : Lc} {X T own : List Addr}

theorem LocOk.fresh {h h' : Heap} (x : LocOk Λ ρ sc env l h) (hk : ∀ b o, h.get? b = some o → h'.get? b = some o) (hf : ∀ b ∈ T, h.get? b = none) : LocOk Λ { ρ with frs := T ++ ρ.frs } sc env l h' where
  fr := List.mem_append_right _ x.fr
  ns := by
    obtain ⟨m, hn, hv⟩ := x.ns
    refine ⟨m, hn.at' (hk _), fun i y p h1 h2 h3 => ?_⟩
    obtain ⟨v, e, d⟩ := hv i y p h1 h2 h3
    exact ⟨v, e, d.fresh hk hf⟩
  cells := fun i y p h1 h2 h3 => by
    obtain ⟨c, v, e, c1, c2, ⟨o, ho, hd⟩, d⟩ := x.cells i y p h1 h2 h3
    exact ⟨c, v, e, c1, c2, ⟨o, hk _ _ ho, hd⟩, d.fresh hk hf⟩
  own := fun i y h1 h2 h3 => by
    obtain ⟨c, e, ⟨o, ho, hd⟩, hf⟩ := x.own i y h1 h2 h3
    exact ⟨c, e, ⟨o, hk _ _ ho, hd⟩, List.mem_append_right _ hf⟩

theorem FS.fresh (F : FS g Λ sc env X ρ μ l s) (hk : ∀ b o, s.heap.get? b = some o → s'.heap.get? b = some o) (hg : s'.gens = s.gens) (hf : ∀ b ∈ T, s.heap.get? b = none) (hl : ∀ b ∈ T, ∃ o, s'.heap.get? b = some o) :
    FS g Λ sc env X { ρ with frs := T ++ ρ.frs } μ l s' :=
  ⟨F.S.fresh hk hg hf hl, F.L.fresh hk hf, fun b hb => List.mem_append_right _ (F.X b hb)⟩

/- the end of a stretch with own addresses -/
theorem FS.close {ρ₁ ρ₃ : Rho} {s₁ s₂ s₃ s₄ : Shared} (Fr : FrOk sc env X) (hX : ∀ b ∈ X, b ∈ ρ.frs) (a : Steps [] ρ s ρ₁ s₁) (hlive : ∀ b ∈ ρ₁.frs, ∃ o, s₁.heap.get? b = some o) (hk : ∀ b o, s₁.heap.get? b = some o → s₂.heap.get? b = some o) (hos : s₂.os = s₁.os) (hg : s₂.gens = s₁.gens)
    (hf : ∀ b ∈ own, s₁.heap.get? b = none) (st : Steps (own ++ X) { ρ₁ with frs := own ++ ρ₁.frs } s₂ ρ₃ s₃) (F : FS g Λ sc env X ρ₃ μ l s₃) (hnf : ∀ b ∈ own, ∀ o, s₃.heap.get? b = some o → ¬ filled o)
    (hk4 : KeptBut own s₃.heap s₄.heap) (hos4 : s₄.os = s₃.os) (hg4 : s₄.gens = s₃.gens) :
    Steps X ρ s { ρ₃ with frs := ρ₁.frs } s₄ ∧ FS g Λ sc env X { ρ₃ with frs := ρ₁.frs } μ l s₄ ∧ ∀ p v, VDen Λ ρ₃ s₃.heap p v → VDen Λ { ρ₃ with frs := ρ₁.frs } s₄.heap p v := by
  have frs3 : ρ₃.frs = own ++ ρ₁.frs := st.frs
  have hT : ∀ b ∈ ρ₁.frs, b ∈ ρ₃.frs := fun b hb => by rw [frs3]; exact List.mem_append_right _ hb
  have hTT : ∀ b ∈ own, b ∈ ρ₃.frs := fun b hb => by rw [frs3]; exact List.mem_append_left _ hb
  have hTf : ∀ b ∈ ρ₁.frs, b ∉ own := fun b hb m => by
    obtain ⟨o, e⟩ := hlive b hb
    rw [hf b m] at e; cases e
  have hX1 : ∀ b ∈ X, b ∈ ρ₁.frs := fun b hb => by rw [a.frs]; exact hX b hb
  have notOwn : ∀ b o, s.heap.get? b = some o → b ∉ own := fun b o e m => by
    obtain ⟨o', e'⟩ := a.live b o e
    rw [hf b m] at e'; cases e'
  have vd : ∀ p v, VDen Λ ρ₃ s₃.heap p v → VDen Λ { ρ₃ with frs := ρ₁.frs } s₄.heap p v := fun p v d => (d.turnFrs hTT hnf hk4).pop hT
  refine ⟨⟨a.frs, ?_, ?_, ?_, ?_, ?_⟩, ⟨F.S.popTurn (fun b hb => by rw [frs3] at hb; exact List.mem_append.mp hb) hT hTf hTT hnf hk4 hg4, ⟨hX1 _ Fr.loc, ?_, ?_, ?_⟩, hX1⟩, vd⟩
  · obtain ⟨τ, e, h⟩ := a.ext
    obtain ⟨τ', e', h'⟩ := st.ext
    refine ⟨τ ++ τ', ?_, fun p hp => ?_⟩
    · show ρ₃.objs = _
      rw [e']; show ρ₁.objs ++ τ' = _; rw [e, List.append_assoc]
    · rcases List.mem_append.mp hp with hp | hp
      · exact h p hp
      · exact ⟨none_back a.live (none_back (fun b o e => ⟨o, hk b o e⟩) (h' p hp).1), none_back a.live (none_back (fun b o e => ⟨o, hk b o e⟩) (h' p hp).2)⟩
  · intro b o e h1 h2 h3
    have e1 := a.keep b o e h1 h2 (fun m => by cases m)
    have hof : b ∉ ofoot { ρ₁ with frs := own ++ ρ₁.frs } := not_ofoot_ext a.ext h1 e
    have e3 := st.keep b o (hk b o e1) hof h2 fun m => by
      rcases List.mem_append.mp m with m | m
      · exact absurd m (notOwn b o e)
      · exact h3 m
    exact hk4 b o (notOwn b o e) e3
  · intro b o e
    obtain ⟨o1, e1⟩ := a.live b o e
    obtain ⟨o3, e3⟩ := st.live b o1 (hk b o1 e1)
    exact ⟨o3, hk4 b o3 (notOwn b o e) e3⟩
  · rw [hos4, st.os, hos, a.os]
  · rw [hg4, st.gens, hg, a.gens]
  · obtain ⟨m, hn, hv⟩ := F.L.ns
    refine ⟨m, hn.at' fun o e => hk4 _ o (hTf _ (hX1 _ Fr.loc)) e, fun i y p h1 h2 h3 => ?_⟩
    obtain ⟨v, e, d⟩ := hv i y p h1 h2 h3
    exact ⟨v, e, vd _ _ d⟩
  · intro i y p h1 h2 h3
    obtain ⟨c, v, e, c1, c2, ⟨o, ho, hd⟩, d⟩ := F.L.cells i y p h1 h2 h3
    exact ⟨c, v, e, c1, c2, ⟨o, hk4 _ o (fun m => hnf c m o ho ⟨v, hd⟩) ho, hd⟩, vd _ _ d⟩
  · intro i y h1 h2 h3
    obtain ⟨c, e, ⟨o, ho, hd⟩, hf'⟩ := F.L.own i y h1 h2 h3
    have hc : c ∈ ρ₁.frs := hX1 _ (Fr.cel y c h3 e)
    exact ⟨c, e, ⟨o, hk4 _ o (hTf _ hc) ho, hd⟩, hc⟩

theorem FlDen.imp {ρ' : Rho} {h h' : Heap} {fl : Fl} {f : Flow} (d : FlDen Λ ρ h fl f) (k : ∀ p v, VDen Λ ρ h p v → VDen Λ ρ' h' p v) : FlDen Λ ρ' h' fl f := by
  cases d with
  | next => exact .next
  | ret d => exact .ret (k _ _ d)
end

section
variable {K : Cx} {sc : Sc}

theorem steps_left {own X : List Addr} {ρ ρ' : Rho} {s s' : Shared} (a : Steps X ρ s ρ' s') : Steps (own ++ X) ρ s ρ' s' :=
  ⟨a.frs, a.ext, fun b o e h1 h2 h3 => a.keep b o e h1 h2 fun m => h3 (List.mem_append_right _ m), a.live, a.os, a.gens⟩

/- the for statement -/
theorem sndS_for {target iter : Expr} {body : List Stmt} {pos : Pos} {tg : List Nat} {src : CI} {b : CSs} {tup : Bool} (hT : TgOk sc tup target tg) (hlen : tg.length = if tup = true then 2 else 1) (hI : SndI K sc iter src tup) (hb : SndSs K sc body b)
    (hs : ∀ (env : Env) (x : Value), foldedSetIterable iter env x = pure x) : SndS K sc (.For target iter body [] pos) (.forr tg src b) := by
  intro A env X ρ μ l s Q hA Fr F h
  refine wpAny_For (wpAny_mono (hI hA Fr F h) (fun x s₁ h₁ => noE (wpAny_mono h₁ (fun itv s₂ h₂ => ?_) fun _ _ e => e)) fun _ _ e => e) (hs env)
  obtain ⟨ρ₁, s₁', μ₁, I, own, its, G, St, Mid, rfl, C, a, S₁, hk, hos, hg, hf, st0, hlens, _, hG, hq⟩ := h₂
  have F1 := F.steps a S₁
  have own_X : ∀ b ∈ own, b ∉ X := fun b hb m => by
    obtain ⟨o, e⟩ := S₁.frlt b (F1.X b m)
    rw [hf b hb] at e; cases e
  have F2 : FS K.g K.Λ sc env X { ρ₁ with frs := own ++ ρ₁.frs } μ₁ l s₂ := F1.fresh hk hg hf fun b hb => let ⟨o, e, _⟩ := C.live st0 b hb; ⟨o, e⟩
  refine codeAny_forLoop_any (fun k s' => ∃ i ρ' μ' l', k = its.length + 1 - i ∧ i ≤ its.length ∧ Steps (own ++ X) { ρ₁ with frs := own ++ ρ₁.frs } s₂ ρ' s' ∧ FS K.g K.Λ sc env X ρ' μ' l' s' ∧ G μ' ∧ St i ρ' s'.heap ∧
    forGo (fun l μ Q => wpSs K.Φ b l μ Q) tg G (its.drop i) l' μ' Q) ?_ (its.length + 1) ⟨0, _, μ₁, l, rfl, Nat.zero_le _, Steps.refl _ _ _, F2, hG, st0, hq⟩
  rintro k s' ⟨i, ρ', μ', l', rfl, hi, st, F', hG', sti, hgo⟩
  have hown : ∀ b ∈ own, b ∈ ρ'.frs ∧ b ∉ X := fun b hb => ⟨by rw [st.frs]; exact List.mem_append_left _ hb, own_X b hb⟩
  have hnf : ∀ {i : Nat} {ρ : Rho} {h : Heap}, St i ρ h → ∀ b ∈ own, ∀ o, h.get? b = some o → ¬ filled o := fun st b hb o e => by
    obtain ⟨o', ho, hf⟩ := C.live st b hb
    rw [e] at ho; cases ho; exact hf
  cases hc : its[i]? with
  | none =>
    have hl : its.length ≤ i := by simpa using hc
    have : i = its.length := by (exact Nat.le_antisymm ‹_› ‹_›)
    subst this
    rw [List.drop_eq_nil_of_le (Nat.le_refl _)] at hgo
    refine C.done F'.S hG' sti fun h' hkb => ?_
    refine wpAny_execs_nil ?_
    obtain ⟨q1, q2, _⟩ := FS.close (s₄ := { s' with heap := h' }) Fr F.X a S₁.frlt hk hos hg hf st F' (hnf sti) hkb rfl rfl
    exact ⟨_, _, _, .next, q1, q2, .next, hgo⟩
  | some it =>
    have hlt : i < its.length := (List.getElem?_eq_some_iff.mp hc).1
    have hd : its.drop i = it :: its.drop (i + 1) := by
      have := (List.getElem?_eq_some_iff.mp hc).2
      rw [← this]; exact List.drop_eq_getElem_cons hlt
    rw [hd] at hgo
    have hil : it.length = tg.length := by rw [hlens it (List.mem_of_getElem? hc), hlen]
    refine take_ok hA.hand Fr C F' hG' sti hown hc hT hil fun v s₅ h₅ => ?_
    refine noE (wpAny_mono h₅ (fun _ s₆ h₆ => noE (wpAny_mono h₆ (fun _ s₇ h₇ => ?_) fun _ _ e => e)) fun _ _ e => e)
    obtain ⟨t1, F7, st7⟩ := h₇
    refine noE (wpAny_mono (hb hA Fr F7 hgo) (fun f s₈ h₈ => ?_) fun _ _ e => e)
    obtain ⟨ρ₈, μ₈, l₈, fl, t2, F8, dfl, q⟩ := h₈
    have keep8 : St (i + 1) ρ₈ s₈.heap := C.keep st7 (fun b hb o e => t2.keep b o e (F7.S.frof b (hown b hb).1) (fun m => (F7.S.tabof b m).2 (hown b hb).1) fun m => absurd m (own_X b hb)) fun p v d => d.steps t2 F7.X
    have t3 := (st.trans t1).trans (steps_left (own := own) t2)
    cases dfl with
    | next =>
      exact ⟨its.length + 1 - (i + 1), by lia, i + 1, ρ₈, μ₈, l₈, rfl, hlt, t3, F8, q.1, keep8, q.2⟩
    | ret dv =>
      obtain ⟨q1, q2, q3⟩ := FS.close (s₄ := s₈) Fr F.X a S₁.frlt hk hos hg hf t3 F8 (hnf keep8) (fun _ _ _ e => e) rfl rfl
      exact ⟨_, _, _, .ret _, q1, q2, .ret (q3 _ _ dv), q⟩
end

end
/- MTake -/

section
open Sem

section
variable {prog : Program} {w : World} {A : Around} {n : Nat} {g : Heap} {Λ : List LamT} {ρ ρ' : Rho} {μ μ' : List AO} {s s' : Shared} {sc : Sc} {env : Env} {l : Lc} {X T own : List Addr}

/- own address D made an object -/
noncomputable abbrev tk (ρ : Rho) (D : Addr) (fr : List Addr) : Rho := { objs := ρ.objs ++ [(D, D)], frs := fr }

theorem ofoot_tk {D : Addr} {fr : List Addr} {b : Addr} : b ∈ ofoot (tk ρ D fr) ↔ b ∈ ofoot ρ ∨ b = D := by
  rw [mem_ofoot, mem_ofoot]
  constructor
  · rintro ⟨p, hp, hq⟩
    rcases List.mem_append.mp hp with hp | hp
    · exact .inl ⟨p, hp, hq⟩
    · rw [List.mem_singleton.mp hp] at hq
      exact .inr (hq.elim id id)
  · rintro (⟨p, hp, hq⟩ | rfl)
    · exact ⟨p, List.mem_append_left _ hp, hq⟩
    · exact ⟨(b, b), List.mem_append_right _ (.head _), .inl rfl⟩

theorem VDens.take' {D : Addr} {fr : List Addr} (hfr : ∀ b ∈ fr, b ∈ ρ.frs) (hD : D ∈ ρ.frs) {h : Heap} (hnf : ∀ o, h.get? D = some o → ¬ filled o) {vs : List PV} {vals : List Value} (d : VDens Λ ρ h vs vals) : VDens Λ (tk ρ D fr) h vs vals :=
  VDens.mono (ρ := ρ) (ρ' := tk ρ D fr) (fun b o e sf => ⟨⟨fun m => (ofoot_tk.mp m).elim sf.1 (fun q => sf.2.1 (q ▸ hD)), fun m => sf.2.1 (hfr b m), sf.2.2⟩, e⟩)
    (fun b o e h1 _ hf => ⟨fun m => (ofoot_tk.mp m).elim h1 (fun q => hnf o (q ▸ e) hf), e⟩)
    (fun n p e => by
      show (ρ.objs ++ [(D, D)])[n]? = some p
      rw [List.getElem?_append_left (List.getElem?_eq_some_iff.mp e).1]; exact e) d
theorem VDen.take' {D : Addr} {fr : List Addr} (hfr : ∀ b ∈ fr, b ∈ ρ.frs) (hD : D ∈ ρ.frs) {h : Heap} (hnf : ∀ o, h.get? D = some o → ¬ filled o) {vs : PV} {vals : Value} (d : VDen Λ ρ h vs vals) : VDen Λ (tk ρ D fr) h vs vals := by
  have := VDens.take' hfr hD hnf (.cons d .nil)
  cases this with
  | cons d _ => exact d

theorem Sees.take (S : Sees g Λ ρ μ s) {D : Addr} {fr : List Addr} (hfr : ∀ b ∈ fr, b ∈ ρ.frs) (hD : D ∈ ρ.frs) (hDf : D ∉ fr) {vs : List PV} {vals : List Value} (hl : s.heap.PlainList D vals.toArray) (dv : VDens Λ ρ s.heap vs vals) :
    Sees g Λ (tk ρ D fr) (μ ++ [.lst vs]) s := by
  have hnf : ∀ o, s.heap.get? D = some o → ¬ filled o := fun o e => by
    obtain ⟨k, ho⟩ := hl
    rw [e] at ho; cases ho; exact not_filled_seq rfl
  have vd : ∀ {l : List PV} {vs : List Value}, VDens Λ ρ s.heap l vs → VDens Λ (tk ρ D fr) s.heap l vs := fun d => d.take' hfr hD hnf
  exact {
    base := S.base
    apart := fun b hb => by
      rcases hb with hb | hb | hb
      · rcases ofoot_tk.mp hb with hb | rfl
        · exact S.apart b (.inl hb)
        · exact S.apart b (.inr (.inl hD))
      · exact S.apart b (.inr (.inl (hfr b hb)))
      · exact S.apart b (.inr (.inr hb))
    frlt := fun b hb => S.frlt b (hfr b hb)
    frof := fun b hb m => by
      rcases ofoot_tk.mp m with m | rfl
      · exact S.frof b (hfr b hb) m
      · exact hDf hb
    tabof := fun b hb => ⟨fun m => by
      rcases ofoot_tk.mp m with m | rfl
      · exact (S.tabof b hb).1 m
      · exact (S.tabof b hb).2 hD, fun m => (S.tabof b hb).2 (hfr b m)⟩
    len := by simp [S.len]
    objs := fun i p o h1 h2 => by
      by_cases hi : i < ρ.objs.length
      · have h1' : ρ.objs[i]? = some p := by
          have : (ρ.objs ++ [(D, D)])[i]? = some p := h1
          rwa [List.getElem?_append_left hi] at this
        have h2' : μ[i]? = some o := by
          rwa [List.getElem?_append_left (by rw [← S.len]; exact hi)] at h2
        have d := S.objs i p o h1' h2'
        cases o with
        | lst l =>
          obtain ⟨e, us, ho, du⟩ := d
          exact ⟨e, us, ho, vd du⟩
        | inst C ks l =>
          obtain ⟨e, e1, us, hn, du⟩ := d
          exact ⟨e, e1, us, hn, vd du⟩
      · have hlt : i < (ρ.objs ++ [(D, D)]).length := (List.getElem?_eq_some_iff.mp h1).1
        have hi2 : i = ρ.objs.length := by simp at hlt; lia
        subst hi2
        have h1' : (ρ.objs ++ [(D, D)])[ρ.objs.length]? = some p := h1
        rw [List.getElem?_concat_length] at h1'
        cases h1'
        rw [S.len, List.getElem?_concat_length] at h2
        cases h2
        exact ⟨rfl, vals, hl, vd dv⟩
    dist := fun n m p q h1 h2 hnm => by
      have h1' : (ρ.objs ++ [(D, D)])[n]? = some p := h1
      have h2' : (ρ.objs ++ [(D, D)])[m]? = some q := h2
      have hDo : D ∉ ofoot ρ := S.frof D hD
      have old : ∀ {k : Nat} {r : Addr × Addr}, (ρ.objs ++ [(D, D)])[k]? = some r → ρ.objs[k]? = some r ∨ (k = ρ.objs.length ∧ r = (D, D)) := by
        intro k r h
        by_cases hk : k < ρ.objs.length
        · rw [List.getElem?_append_left hk] at h; exact .inl h
        · have hlt : k < (ρ.objs ++ [(D, D)]).length := (List.getElem?_eq_some_iff.mp h).1
          have hk2 : k = ρ.objs.length := by simp at hlt; lia
          subst hk2
          rw [List.getElem?_concat_length] at h
          exact .inr ⟨rfl, by cases h; rfl⟩
      rcases old h1' with a | ⟨a, rfl⟩ <;> rcases old h2' with b | ⟨b, rfl⟩
      · exact S.dist n m p q a b hnm
      · have e1 : p.1 ≠ D := fun e => hDo (mem_ofoot.mpr ⟨p, List.mem_of_getElem? a, .inl e.symm⟩)
        have e2 : p.2 ≠ D := fun e => hDo (mem_ofoot.mpr ⟨p, List.mem_of_getElem? a, .inr e.symm⟩)
        exact ⟨e1, e1, e2⟩
      · have e1 : q.1 ≠ D := fun e => hDo (mem_ofoot.mpr ⟨q, List.mem_of_getElem? b, .inl e.symm⟩)
        have e2 : q.2 ≠ D := fun e => hDo (mem_ofoot.mpr ⟨q, List.mem_of_getElem? b, .inr e.symm⟩)
        exact ⟨e1.symm, e2.symm, e2.symm⟩
      · lia
    tabs := fun P hP => by
      obtain ⟨ps, e, t, q⟩ := S.tabs P hP
      refine ⟨ps, e, t, fun L hL hp => (q L hL hp).imp id ?_⟩
      rintro ⟨c', oc, e1, e2, e3, e4⟩
      refine ⟨c', oc, e1, ⟨fun m => (ofoot_tk.mp m).elim e2.1 (fun q => e2.2.1 (q ▸ hD)), fun m => e2.2.1 (hfr _ m), e2.2.2⟩, e3, e4⟩
    gens := S.gens }

/- a new list, not yet given to any one: LOut -/
inductive LOut (g : Heap) (Λ : List LamT) (ρ : Rho) (s : Shared) (Q : List PV → List AO → Prop) (val : Value) (s' : Shared) : Prop
  | mk (ρ' : Rho) (D : Addr) (vs : List PV) (vals : List Value) (μ' : List AO) : val = .ref D → s.heap.get? D = none → Steps [] ρ s ρ' s' → Sees g Λ { ρ' with frs := D :: ρ'.frs } μ' s' → s'.heap.PlainList D vals.toArray → VDens Λ { ρ' with frs := D :: ρ'.frs } s'.heap vs vals → Q vs μ' → LOut g Λ ρ s Q val s'

theorem plain_nf {h : Heap} {D : Addr} {a : Array Value} (hl : h.PlainList D a) : ∀ b ∈ [D], ∀ o, h.get? b = some o → ¬ filled o := fun b hb o e => by
  obtain ⟨k, ho⟩ := hl
  rw [List.mem_singleton.mp hb, ho] at e; cases e; exact not_filled_seq rfl

theorem LOut.frozen (S0 : Sees g Λ ρ μ s) {Q : List PV → List AO → Prop} {val : Value} (h : LOut g Λ ρ s Q val s') : Out g Λ ρ s (fun v μ' => ∃ vs, v = .lst vs ∧ Q vs μ') val s' := by
  obtain ⟨ρ', D, vs, vals, μ', rfl, hD, st, S, hl, dv, q⟩ := h
  have hT : ∀ b ∈ ρ'.frs, b ∈ D :: ρ'.frs := fun b hb => .tail _ hb
  refine ⟨ρ', .lst vs, μ', st, S.pop (ρ := { ρ' with frs := D :: ρ'.frs }) hT, .lst ⟨S.frof D (.head _), fun m => ?_, fun m => (S.tabof D m).2 (.head _)⟩ hl.isList (dv.pop (ρ := { ρ' with frs := D :: ρ'.frs }) hT), vs, rfl, q⟩
  rw [st.frs] at m
  obtain ⟨o, e⟩ := S0.frlt D m
  rw [hD] at e; cases e

theorem LOut.object (S0 : Sees g Λ ρ μ s) {Q : List PV → List AO → Prop} {val : Value} (h : LOut g Λ ρ s Q val s') : Out g Λ ρ s (fun v μ' => ∃ vs μ₁, v = .obj μ₁.length ∧ μ' = μ₁ ++ [.lst vs] ∧ Q vs μ₁) val s' := by
  obtain ⟨ρ', D, vs, vals, μ', rfl, hD, st, S, hl, dv, q⟩ := h
  have hT : ∀ b ∈ ρ'.frs, b ∈ D :: ρ'.frs := fun b hb => .tail _ hb
  have hDf : D ∉ ρ'.frs := fun m => by
    rw [st.frs] at m
    obtain ⟨o, e⟩ := S0.frlt D m
    rw [hD] at e; cases e
  have S2 := S.take (ρ := { ρ' with frs := D :: ρ'.frs }) (fr := ρ'.frs) hT (.head _) hDf hl dv
  refine ⟨tk { ρ' with frs := D :: ρ'.frs } D ρ'.frs, .obj μ'.length, _, ⟨st.frs, ?_, ?_, st.live, st.os, st.gens⟩, S2, .obj (a := D) (d := D) ?_, vs, μ', rfl, rfl, q⟩
  · obtain ⟨τ, e, h⟩ := st.ext
    refine ⟨τ ++ [(D, D)], ?_, fun p hp => ?_⟩
    · show ρ'.objs ++ [(D, D)] = _
      rw [e, List.append_assoc]
    · rcases List.mem_append.mp hp with hp | hp
      · exact h p hp
      · rw [List.mem_singleton.mp hp]; exact ⟨hD, hD⟩
  · exact fun b o e h1 h2 h3 => st.keep b o e h1 h2 h3
  · show (ρ'.objs ++ [(D, D)])[μ'.length]? = _
    have : ρ'.objs.length = μ'.length := S.len
    rw [← this, List.getElem?_concat_length]

/- a list display -/
theorem LOut.new (S : Sees g Λ ρ μ s) {vs : List PV} {vals : List Value} (d : VDens Λ ρ s.heap vs vals) {Q : List PV → List AO → Prop} (q : Q vs μ) {t : Tok} :
    LOut g Λ ρ s Q (.ref s.heap.objs.size) { s with heap := s.heap.push { cls := .type "list", data := .seq vals.toArray }, toks := t } := by
  have hf : ∀ b ∈ [s.heap.objs.size], s.heap.get? b = none := fun b hb => by rw [List.mem_singleton.mp hb]; exact new_own _ (Nat.le_refl _)
  have hpl : (s.heap.push { cls := .type "list", data := .seq vals.toArray }).PlainList s.heap.objs.size vals.toArray := ⟨_, Heap.get?_push_size _ rfl⟩
  refine ⟨ρ, _, vs, vals, μ, rfl, hf _ (.head _), Steps.grown (push_keeps _) rfl rfl, ?_, hpl, ?_, q⟩
  · exact S.fresh (T := [s.heap.objs.size]) (push_keeps _) rfl hf fun b hb => by
      rw [List.mem_singleton.mp hb]
      obtain ⟨k, ho⟩ := hpl
      exact ⟨_, ho⟩
  · exact d.fresh (T := [s.heap.objs.size]) (push_keeps _) hf

/- names' places, after a step, with Y pushed -/
theorem LocOk.stepY {Y : List Addr} (S : Sees g Λ ρ μ s) (x : LocOk Λ ρ sc env l s.heap) (st : Steps [] ρ s ρ' s') (hY : ∀ b ∈ Y, s.heap.get? b = none) : LocOk Λ { ρ' with frs := Y ++ ρ'.frs } sc env l s'.heap := by
  have vd : ∀ p v, VDen Λ ρ s.heap p v → VDen Λ { ρ' with frs := Y ++ ρ'.frs } s'.heap p v := fun p v d =>
    VDen.mono (ρ := ρ) (ρ' := { ρ' with frs := Y ++ ρ'.frs }) (fun b o e sf => ⟨⟨not_ofoot_ext (ρ' := ρ') st.ext sf.1 e, fun m => by
        rcases List.mem_append.mp m with m | m
        · rw [hY b m] at e; cases e
        · rw [st.frs] at m; exact sf.2.1 m, sf.2.2⟩, st.keep b o e sf.1 sf.2.2 (fun h => by cases h)⟩)
      (fun b o e h1 h2 h3 => ⟨not_ofoot_ext (ρ' := ρ') st.ext h1 e, st.keep b o e h1 h2 fun h => by cases h⟩) (fun n p h => st.get h) d
  refine ⟨List.mem_append_right _ (by rw [st.frs]; exact x.fr), ?_, ?_, ?_⟩
  · obtain ⟨m, hn, hv⟩ := x.ns
    refine ⟨m, hn.at' fun o e => st.keep _ o e (S.frof _ x.fr) (fun h => (S.tabof _ h).2 x.fr) (fun h => by cases h), fun i y p h1 h2 h3 => ?_⟩
    obtain ⟨v, e, d⟩ := hv i y p h1 h2 h3
    exact ⟨v, e, vd _ _ d⟩
  · intro i y p h1 h2 h3
    obtain ⟨c, v, e, c1, c2, ⟨o, ho, hd⟩, d⟩ := x.cells i y p h1 h2 h3
    exact ⟨c, v, e, not_ofoot_ext (ρ' := ρ') st.ext c1 ho, c2, ⟨o, st.keep _ _ ho c1 c2 (fun h => by cases h), hd⟩, vd _ _ d⟩
  · intro i y h1 h2 h3
    obtain ⟨c, e, ⟨o, ho, hd⟩, hf⟩ := x.own i y h1 h2 h3
    exact ⟨c, e, ⟨o, st.keep _ _ ho (S.frof _ hf) (fun h => (S.tabof _ h).2 hf) (fun h => by cases h), hd⟩, List.mem_append_right _ (by rw [st.frs]; exact hf)⟩
end

end
/- MComp -/


section
variable {prog : Program} {w : World} {A : Around} {R : Result → Shared → Prop} {s : Shared}

theorem compLoop_any {elt target iter : Expr} {ifs : List Expr} {scope : Scope} {pos : Pos} {it acc : Value} {env : Env} (I : Nat → Shared → Prop)
    (turn : ∀ n s, I n s → wpAny (model prog w) A (pyNext it) (fun r s₁ => match r with
      | none => R (.ok .next) s₁
      | some v => wpAny (model prog w) A (letOwnedTupleGo target it v) (fun _ s₁' => wpAny (model prog w) A (assign target env v) (fun _ s₂ =>
          wpAny (model prog w) A (forIn ifs true fun c r => if r = true then do let ok ← isTrue c env (eval c env); pure (ForInStep.yield ok) else pure (ForInStep.yield r)) (fun ok s₃ =>
            if ok = true then wpAny (model prog w) A (eval elt env) (fun x s₄ =>
              wpAny (model prog w) A (call (.builtin "list.append") [acc, x]) (fun _ s₅ => ∃ m, m < n ∧ I m s₅) NoE s₄) NoE s₃
            else ∃ m, m < n ∧ I m s₃) NoE s₂) NoE s₁') NoE s₁) NoE s)
    (n : Nat) (h : I n s) :
    codeAny (model prog w) A (.compLoop (.ListComp elt [⟨target, iter, ifs, 0⟩] scope pos) 0 it acc env) R s := by
  refine codeAny_loop rfl I (fun n s hI => ?_) n h
  show wpAny _ A ((compTurn (.ListComp elt [⟨target, iter, ifs, 0⟩] scope pos) 0 it acc env).onRaise (fun x => do noteFrame x env; theTreesLotGoes x)) _ _ s
  refine wpAny_noted ?_
  rw [compTurn_list]
  refine noE (wpAny_bind (wpAny_standAt (wpAny_bind (wpAny_mono (turn n s hI) (fun r s₁ h₁ => ?_) fun _ _ h' => h'))))
  cases r with
  | none => exact wpAny_pure h₁
  | some v =>
    refine wpAny_bind (wpAny_mono h₁ (fun _ s₁' h₁' => ?_) fun _ _ h' => h')
    refine wpAny_bind (wpAny_mono h₁' (fun _ s₂ h₂ => wpAny_bind (wpAny_mono h₂ (fun ok s₃ h₃ => ?_) fun _ _ h' => h')) fun _ _ h' => h')
    cases ok with
    | false => exact wpAny_pure ⟨rfl, h₃⟩
    | true =>
      exact wpAny_bind (wpAny_bind (wpAny_mono h₃ (fun x s₄ h₄ => wpAny_bind (wpAny_mono h₄ (fun _ s₅ h₅ => wpAny_pure (wpAny_pure ⟨rfl, h₅⟩)) fun _ _ h' => h')) fun _ _ h' => h'))
end

theorem lookup_relabel (f : Str → NameKind → Bool) {names : List (Str × NameKind)} {x : Str} : (names.map fun (n, k) => if f n k = true then (n, NameKind.cell) else (n, k)).lookup x = (names.lookup x).map fun k => if f x k = true then .cell else k := by
  induction names with
  | nil => rfl
  | cons a r ih =>
    obtain ⟨n, k⟩ := a
    have e : (if f n k = true then (n, NameKind.cell) else (n, k)) = (n, if f n k = true then .cell else k) := by
      by_cases h : f n k = true
      · rw [if_pos h, if_pos h]
      · rw [if_neg h, if_neg h]
    show List.lookup x ((if f n k = true then (n, NameKind.cell) else (n, k)) :: _) = _
    rw [e, List.lookup_cons, List.lookup_cons]
    cases hx : x == n with
    | true => rw [beq_iff_eq.mp hx]; rfl
    | false => exact ih
theorem lookup_relabel_other {env : Env} {k : NameKind} (hk : k ≠ .free) {names : List (Str × NameKind)} {x : Str} (h : names.lookup x = some k) :
    (names.map fun (n, k) => if (k == NameKind.free && env.scope.kind == .function && env.kindOf n == some .cell) then (n, NameKind.cell) else (n, k)).lookup x = some k := by
  refine (lookup_relabel fun n k => k == NameKind.free && env.scope.kind == .function && env.kindOf n == some .cell).trans ?_
  rw [h]
  cases k <;> first | exact absurd rfl hk | rfl
theorem lookup_relabel_free {env : Env} {names : List (Str × NameKind)} {x : Str} (h : names.lookup x = some .free) :
    let r := (names.map fun (n, k) => if (k == NameKind.free && env.scope.kind == .function && env.kindOf n == some .cell) then (n, NameKind.cell) else (n, k)).lookup x
    r = some .cell ∨ r = some .free := by
  have e := (lookup_relabel (names := names) (x := x) fun n k => k == NameKind.free && env.scope.kind == .function && env.kindOf n == some .cell).trans (congrArg _ h)
  show List.lookup x _ = _ ∨ List.lookup x _ = _
  rw [e]
  show some (if _ then _ else _) = _ ∨ some (if _ then _ else _) = _
  split
  · exact .inl rfl
  · exact .inr rfl

/- a comprehension's own block, inside a block -/
structure CompSc (scope : Scope) (sc sc' : Sc) (fr : List (Nat × Nat)) (tg : List Nat) : Prop where
  ks : sc'.ks = scope.names
  kind : scope.kind = .function
  noCell : ∀ x ∈ scope.names, x.2 ≠ .cell
  locs : ∀ x ∈ scope.names, x.2 = .local → scope.names.lookup x.1 = some .local
  nd : sc'.ns.Nodup
  code : sc'.code = none
  qual : sc'.qual = none
  frees : ∀ x ∈ scope.names, x.2 = .free → ∃ p ∈ fr, sc.ns[p.2]? = some x.1 ∧ (sc.ks.lookup x.1 = some .cell ∨ sc.ks.lookup x.1 = some .free)
  from' : ∀ p ∈ fr, ∃ x, sc'.ns[p.1]? = some x ∧ sc.ns[p.2]? = some x ∧ (x, NameKind.free) ∈ scope.names ∧ scope.names.lookup x = some .free ∧ (sc.ks.lookup x = some .cell ∨ sc.ks.lookup x = some .free)
  apart : ∀ t ∈ tg, ∀ p ∈ fr, t ≠ p.1

theorem closure_go {env : Env} (names : List (Str × NameKind)) : ∀ (cs : List (Str × Addr)), (∀ x ∈ names, x.2 = .free → ∃ c, env.cells.lookup x.1 = some c) →
    ∃ cl, (forIn names cs fun (x : Str × NameKind) (cs : List (Str × Addr)) => if (x.2 == NameKind.free) = true then do let a ← cellOf env x.1; pure (ForInStep.yield ((x.1, a) :: cs)) else pure (ForInStep.yield cs) : Sem (List (Str × Addr))) = pure cl ∧
      (∀ x, (∀ c, cs.lookup x = some c → env.cells.lookup x = some c) → ((∃ c, cs.lookup x = some c) ∨ (x, NameKind.free) ∈ names) → cl.lookup x = env.cells.lookup x) := by
  induction names with
  | nil => exact fun cs h => ⟨cs, rfl, fun x h1 h2 => h2.elim (fun ⟨c, hc⟩ => hc.trans (h1 c hc).symm) fun h => absurd h List.not_mem_nil⟩
  | cons a r ih =>
    obtain ⟨n, k⟩ := a
    intro cs h
    rw [List.forIn_cons]
    by_cases hk : k = .free
    · subst hk
      obtain ⟨c, hc⟩ := h (n, .free) (.head _) rfl
      obtain ⟨cl, e, q⟩ := ih ((n, c) :: cs) (fun x hx => h x (.tail _ hx))
      refine ⟨cl, ?_, fun x h1 h2 => q x (fun d hd => ?_) ?_⟩
      · show (do let a ← cellOf env n; pure (ForInStep.yield ((n, a) :: cs)) : Sem _) >>= _ = _
        rw [cellOf, hc]
        exact e
      · rw [List.lookup_cons] at hd
        cases hx : x == n with
        | true => rw [hx] at hd; rw [beq_iff_eq.mp hx]; exact hc.trans hd
        | false => rw [hx] at hd; exact h1 d hd
      · rw [List.lookup_cons]
        cases hx : x == n with
        | true => exact .inl ⟨c, rfl⟩
        | false => exact h2.imp id fun m => (List.mem_cons.mp m).elim (fun e => by rw [(Prod.mk.inj e).1, beq_self_eq_true] at hx; cases hx) id
    · obtain ⟨cl, e, q⟩ := ih cs (fun x hx => h x (.tail _ hx))
      refine ⟨cl, ?_, fun x h1 h2 => q x h1 (h2.imp id fun m => (List.mem_cons.mp m).elim (fun e => absurd (Prod.mk.inj e).2.symm hk) id)⟩
      rw [show (k == NameKind.free) = false from by simpa using hk]
      exact e

theorem closure_ex {env : Env} {scope : Scope} (h : ∀ x ∈ scope.names, x.2 = .free → ∃ c, env.cells.lookup x.1 = some c) :
    ∃ cl, closureFor scope env = pure cl ∧ ∀ x, (x, NameKind.free) ∈ scope.names → cl.lookup x = env.cells.lookup x := by
  obtain ⟨cl, e, q⟩ := closure_go (env := env) scope.names [] h
  refine ⟨cl, ?_, fun x hx => q x (fun c hc => by cases hc) (.inr hx)⟩
  unfold closureFor
  show (forIn scope.names [] _ >>= pure : Sem _) = _
  rw [show (forIn scope.names ([] : List (Str × Addr)) fun x (cs : List (Str × Addr)) => _ : Sem (List (Str × Addr))) = pure cl from e]
  rfl

theorem inner_get : ∀ (fr : List (Nat × Nat)) (l l0 : Lc) (k : Nat) (p : PV), (fr.foldl (fun l' q => l'.set q.1 ((l[q.2]?).getD Option.none)) l0)[k]? = some (some p) → (∃ i, (k, i) ∈ fr ∧ l[i]? = some (some p)) ∨ l0[k]? = some (some p)
  | [], l, l0, k, p, h => .inr h
  | q :: fr, l, l0, k, p, h => by
    rcases inner_get fr l _ k p h with ⟨i, hi, e⟩ | h2
    · exact .inl ⟨i, .tail _ hi, e⟩
    · by_cases hk : q.1 = k
      · subst hk
        by_cases hlt : q.1 < l0.length
        · rw [List.getElem?_set_self hlt] at h2
          left
          refine ⟨q.2, .head _, ?_⟩
          cases hq : l[q.2]? with
          | none => rw [hq] at h2; simp at h2
          | some v => rw [hq] at h2; simpa using h2
        · have : (l0.set q.1 ((l[q.2]?).getD Option.none))[q.1]? = none := by
            rw [List.getElem?_eq_none]; simp; (exact Nat.not_lt.mp ‹_›)
          rw [this] at h2; cases h2
      · rw [List.getElem?_set_ne hk] at h2; exact .inr h2

theorem inner_some {n : Nat} {fr : List (Nat × Nat)} {l : Lc} {k : Nat} {p : PV} (h : (inner n fr l)[k]? = some (some p)) : ∃ i, (k, i) ∈ fr ∧ l[i]? = some (some p) := by
  rcases inner_get fr l _ k p h with h | h
  · exact h
  · rw [List.getElem?_replicate] at h
    split at h <;> simp at h

theorem setTg_other : ∀ (tg : List Nat) (it : List PV) (l : Lc) {k : Nat}, (∀ t ∈ tg, k ≠ t) → (setTg l tg it)[k]? = l[k]?
  | [], _, _, _, _ => rfl
  | _ :: _, [], _, _, _ => rfl
  | t :: ts, v :: vs, l, k, h => by
    show (setTg (l.set t (some v)) ts vs)[k]? = _
    rw [setTg_other ts vs _ fun u hu => h u (.tail _ hu), List.getElem?_set_ne (Ne.symm (h t (.head _)))]

/- MComp2 -/


noncomputable def tests (ifs : List Expr) (env : Env) : Sem Bool := forIn ifs true fun c r => if r = true then do let ok ← isTrue c env (eval c env); pure (ForInStep.yield ok) else pure (ForInStep.yield r)

noncomputable def SndC (K : Cx) (sc : Sc) (ifs : List Expr) (c : CO) : Prop :=
  ∀ {A : Around} {env : Env} {X : List Addr} {ρ : Rho} {μ : List AO} {l : Lc} {s : Shared} {Q : Bool → List AO → Prop}, Room K.n A → FrOk sc env X → FS K.g K.Λ sc env X ρ μ l s → wpO K.Φ c l μ Q →
    wpAny (model K.prog K.w) A (tests ifs env) (TOut K.g K.Λ ρ s Q) NoE s

theorem sndC_nil {K : Cx} {sc : Sc} : SndC K sc [] .none := fun hA Fr F h => wpAny_tests_nil ⟨_, _, Steps.refl _ _ _, F.S, h⟩
theorem sndC_one {K : Cx} {sc : Sc} {x : Expr} {e : CE} (hx : SndT K sc x e) : SndC K sc [x] (.some e) := fun hA Fr F h => wpAny_tests_one (hx hA Fr F h)

section
variable {K : Cx} {sc sc' : Sc}

theorem FrOk.comp {scope : Scope} {fr : List (Nat × Nat)} {tg : List Nat} (hs : CompSc scope sc sc' fr tg) {env : Env} {X : List Addr} (Fr : FrOk sc env X) {cl : List (Str × Addr)} {C : Addr} :
    FrOk sc' (compEnvC scope cl C env) [C] where
  H := {
    kind := hs.kind
    glob := Fr.H.glob
    blt := Fr.H.blt
    kl := fun x h => by rw [hs.ks] at h; exact lookup_relabel_other (by decide) h
    kg := fun x h => by rw [hs.ks] at h; exact lookup_relabel_other (by decide) h
    kc := fun x h => by
      rw [hs.ks] at h
      rcases h with h | h
      · exact absurd rfl (hs.noCell _ (mem_of_lookup' h))
      · exact lookup_relabel_free h
    ke := fun x h => by rw [hs.ks] at h; exact absurd rfl (hs.noCell _ (mem_of_lookup' h))
    nd := hs.nd
    inj := fun x y c h => by rw [hs.ks] at h; exact absurd rfl (hs.noCell _ (mem_of_lookup' h))
    code := fun v h => by rw [hs.code] at h; cases h
    qual := fun v h => by rw [hs.qual] at h; cases h }
  loc := .head _
  cel := fun y c h => by rw [hs.ks] at h; exact absurd rfl (hs.noCell _ (mem_of_lookup' h))
  cne := fun y c h => by rw [hs.ks] at h; exact absurd rfl (hs.noCell _ (mem_of_lookup' h))

theorem LocOk.forget {Λ : List LamT} {ρ : Rho} {env : Env} {h : Heap} {l l' : Lc} (x : LocOk Λ ρ sc env l' h) (h1 : ∀ (i : Nat) (p : PV), l[i]? = some (some p) → l'[i]? = some (some p)) (h2 : ∀ y, sc.ks.lookup y ≠ some .cell) : LocOk Λ ρ sc env l h where
  fr := x.fr
  ns := let ⟨m, hn, hv⟩ := x.ns; ⟨m, hn, fun i y p e1 e2 e3 => hv i y p e1 (h1 i p e2) e3⟩
  cells := fun i y p e1 e2 e3 => x.cells i y p e1 (h1 i p e2) e3
  own := fun i y _ _ h3 => absurd h3 (h2 y)

inductive CInv (K : Cx) (sc' : Sc) (cenv : Env) (C D : Addr) (W : List Addr) (ρ₀ : Rho) (s₀ : Shared) (its : List (List PV)) (G : List AO → Prop) (St : Nat → Rho → Heap → Prop) (cond : CO) (ce : CE) (tg : List Nat) (li : Lc) (Q : List PV → List AO → Prop) (k : Nat) (s' : Shared) : Prop
  | mk (i : Nat) (ρ' : Rho) (μ' : List AO) (acc : List PV) (vals : List Value) : k = its.length + 1 - i → i ≤ its.length → acc.length ≤ i → Steps W ρ₀ s₀ ρ' s' → FS K.g K.Λ sc' cenv [C] ρ' μ' li s' → G μ' → St i ρ' s'.heap →
      s'.heap.PlainList D (List.toArray vals) → VDens K.Λ ρ' s'.heap acc vals → compGo (fun l μ Q => wpO K.Φ cond l μ Q) (fun l μ Q => wpE K.Φ ce l μ Q) tg li G (its.drop i) acc μ' Q → CInv K sc' cenv C D W ρ₀ s₀ its G St cond ce tg li Q k s'

theorem comp_core {elt target iter : Expr} {ifs : List Expr} {scope : Scope} {pos : Pos} {ce : CE} {cond : CO} {tg : List Nat} {src : CI} {fr : List (Nat × Nat)} {tup : Bool}
    (hs : CompSc scope sc sc' fr tg) (hT : TgOk sc' tup target tg) (hlen : tg.length = if tup = true then 2 else 1) (hI : SndI K sc iter src tup) (helt : SndE K sc' elt ce) (hcond : SndC K sc' ifs cond)
    {A : Around} {env : Env} {X : List Addr} {ρ : Rho} {μ : List AO} {l : Lc} {s : Shared} {Q : List PV → List AO → Prop} (hA : Room K.n A) (Fr : FrOk sc env X) (F : FS K.g K.Λ sc env X ρ μ l s) (h : wpL K.Φ (.comp ce cond tg src sc'.ns fr) l μ Q)
    {RR : Value → Addr → Result → Shared → Prop} {cl : List (Str × Addr)} (hcl : ∀ x, (x, NameKind.free) ∈ scope.names → cl.lookup x = env.cells.lookup x)
    (hRR : ∀ D C ρ' μ' vs vals s', s.heap.get? D = none → s.heap.get? C = none → C ≠ D → Steps [] ρ s ρ' s' → Sees K.g K.Λ { ρ' with frs := D :: C :: ρ'.frs } μ' s' → LocOk K.Λ { ρ' with frs := [D, C] ++ ρ'.frs } sc env l s'.heap → (∃ m, s'.heap.Ns C m) →
      s'.heap.PlainList D vals.toArray → VDens K.Λ { ρ' with frs := D :: C :: ρ'.frs } s'.heap vs vals → Q vs μ' → RR (.ref D) C (.ok .next) s') :
    wpAny (model K.prog K.w) A (eval iter env) (fun x s₁ => wpAny (model K.prog K.w) A (pyIter x) (fun it s₂ => wpAny (model K.prog K.w) A (newList []) (fun acc s₃ =>
      wpAny (model K.prog K.w) A (newFunctionEnv scope env.globals cl [] env.qual none .none (some env)) (fun cenv s₄ =>
        codeAny (model K.prog K.w) A (.compStart (.ListComp elt [⟨target, iter, ifs, 0⟩] scope pos) 0 it acc { cenv with scope := relabel scope env }) (RR acc cenv.locals) s₄) NoE s₃) NoE s₂) NoE s₁) NoE s := by
  obtain ⟨hfrs, hwp⟩ := h
  refine wpAny_mono (hI hA Fr F hwp) (fun x s₁ h₁ => wpAny_mono h₁ (fun itv s₂ h₂ => ?_) fun _ _ e => e) fun _ _ e => e
  obtain ⟨ρ₁, s₁', μ₁, I, own, its, G, St, Mid, hI0, Cs, a, S₁, hk, hos, hg, hf, st0, hlens, hmax, hG, hq⟩ := h₂
  have F1 := F.steps a S₁
  refine wpAny_newObj_type (wpAny_newFunctionEnv hs.noCell (by intro y hy; simp at hy) (fun h₁ hns₁ hsb₁ => ?_) hs.kind)
  dsimp only at hns₁ hsb₁ ⊢
  generalize hH2 : s₂.heap.push { cls := .type "list", dict := none, data := .seq ([] : List Value).toArray } = H2 at hns₁ hsb₁ ⊢
  have hC : H2.objs.size = s₂.heap.objs.size + 1 := by rw [← hH2, Heap.size_push]
  generalize hDd : s₂.heap.objs.size = D at hC ⊢
  generalize hCd : H2.objs.size = C at hC hns₁ hsb₁ ⊢
  have hCD : C ≠ D := by rw [hC]; exact Nat.ne_of_gt (Nat.lt_succ_self _)
  have hk12 : ∀ b o, s₁'.heap.get? b = some o → h₁.get? b = some o := fun b o e => hsb₁.extBut b o (fun q => by
    have := Heap.lt_size (hk b o e); rw [q, hDd, hC] at this; exact Nat.not_lt.mpr (Nat.le_succ _) this) (Heap.get?_push_of_some _ (hH2 ▸ Heap.get?_push_of_some _ (hk b o e)))
  have hk2 : ∀ b o, s₂.heap.get? b = some o → h₁.get? b = some o := fun b o e => hsb₁.extBut b o (fun q => by
    have := Heap.lt_size e; rw [q, hDd, hC] at this; exact Nat.not_lt.mpr (Nat.le_succ _) this) (Heap.get?_push_of_some _ (hH2 ▸ Heap.get?_push_of_some _ e))
  have hDn : s₂.heap.get? D = none := by rw [← hDd]; exact new_own _ (Nat.le_refl _)
  have hCn : s₂.heap.get? C = none := new_own _ (by rw [hDd, hC]; exact Nat.le_succ _)
  have hDn1 : s₁'.heap.get? D = none := none_back (fun b o e => ⟨o, hk b o e⟩) hDn
  have hCn1 : s₁'.heap.get? C = none := none_back (fun b o e => ⟨o, hk b o e⟩) hCn
  have hacc : h₁.PlainList D #[] := ⟨_, hsb₁.extBut _ _ (Ne.symm hCD) (Heap.get?_push_of_some _ (hH2 ▸ hDd ▸ Heap.get?_push_size _ rfl))⟩
  let W : List Addr := D :: C :: own
  have hWf : ∀ b ∈ W, s₁'.heap.get? b = none := fun b hb => by
    rcases List.mem_cons.mp hb with rfl | hb
    · exact hDn1
    · rcases List.mem_cons.mp hb with rfl | hb
      · exact hCn1
      · exact hf b hb
  have ownlive : ∀ b ∈ own, ∃ o, s₂.heap.get? b = some o ∧ ¬ filled o := fun b hb => Cs.live st0 b hb
  have hDown : D ∉ own := fun m => by obtain ⟨o, e, _⟩ := ownlive D m; rw [hDn] at e; cases e
  have hCown : C ∉ own := fun m => by obtain ⟨o, e, _⟩ := ownlive C m; rw [hCn] at e; cases e
  have hCns : ∃ o, h₁.get? C = some o ∧ ¬ filled o := by
    obtain ⟨o, es, ep, ho, hd, _⟩ := hns₁
    exact ⟨o, ho, fun ⟨u, hu⟩ => by rw [hd] at hu; cases hu⟩
  have hWl : ∀ b ∈ W, ∃ o, h₁.get? b = some o := fun b hb => by
    rcases List.mem_cons.mp hb with rfl | hb
    · obtain ⟨k, e⟩ := hacc; exact ⟨_, e⟩
    · rcases List.mem_cons.mp hb with rfl | hb
      · exact ⟨_, hCns.choose_spec.1⟩
      · obtain ⟨o, e, _⟩ := ownlive b hb; exact ⟨o, hk2 b o e⟩
  generalize hs4 : ({ s₂ with heap := h₁, toks := s₂.toks + ([] : List (Str × Value)).length } : Shared) = s₄
  have h4h : s₄.heap = h₁ := by rw [← hs4]
  have h4os : s₄.os = s₁'.os := by rw [← hs4]; exact hos
  have h4g : s₄.gens = s₁'.gens := by rw [← hs4]; exact hg
  rw [← h4h] at hk12 hk2 hacc hns₁ hCns hWl
  have S4 : Sees K.g K.Λ { ρ₁ with frs := W ++ ρ₁.frs } μ₁ s₄ := S₁.fresh (T := W) hk12 h4g hWf hWl
  let cenv := compEnvC scope cl C env
  have Frc : FrOk sc' cenv [C] := FrOk.comp hs Fr
  have noC : ∀ y, sc'.ks.lookup y ≠ some .cell := fun y h => by rw [hs.ks] at h; exact absurd rfl (hs.noCell _ (mem_of_lookup' h))
  let li : Lc := inner sc'.ns.length fr l
  have L4 : LocOk K.Λ { ρ₁ with frs := W ++ ρ₁.frs } sc' cenv li s₄.heap := by
    refine ⟨by show C ∈ W ++ _; simp [W], ⟨_, hns₁, fun i y p e1 e2 e3 => ?_⟩, fun i y p e1 e2 e3 => ?_, fun i y _ _ h3 => absurd h3 (noC y)⟩
    · obtain ⟨j, hj, _⟩ := inner_some e2
      obtain ⟨z, z1, _, _, z4, _⟩ := hs.from' _ hj
      rw [e1] at z1; cases z1
      rw [hs.ks, z4] at e3; cases e3
    · obtain ⟨j, hj, ej⟩ := inner_some e2
      obtain ⟨z, z1, z2, z3, z4, z5⟩ := hs.from' _ hj
      rw [e1] at z1; cases z1
      obtain ⟨c, v, ec, c1, c2, ⟨o, ho, hd⟩, d⟩ := F1.L.cells j y p z2 ej z5
      exact ⟨c, v, (hcl y z3).trans ec, c1, c2, ⟨o, hk12 _ _ ho, hd⟩, d.fresh (T := W) hk12 hWf⟩
  have F4 : FS K.g K.Λ sc' cenv [C] { ρ₁ with frs := W ++ ρ₁.frs } μ₁ li s₄ := ⟨S4, L4, fun b hb => by rw [List.mem_singleton.mp hb]; show C ∈ W ++ _; simp [W]⟩
  have st4 : St 0 { ρ₁ with frs := W ++ ρ₁.frs } s₄.heap := by
    have hc2 : ∀ b ∈ [D, C], s₂.heap.get? b = none := fun b hb => by
      simp only [List.mem_cons, List.not_mem_nil, or_false] at hb
      rcases hb with rfl | rfl
      · exact hDn
      · exact hCn
    exact Cs.keep st0 (fun b hb o e => hk2 b o e) fun p v d => VDen.fresh (T := [D, C]) (ρ := { ρ₁ with frs := own ++ ρ₁.frs }) hk2 hc2 d
  have loop : codeAny (model K.prog K.w) A (.compLoop (.ListComp elt [⟨target, iter, ifs, 0⟩] scope pos) 0 (.ref I) (.ref D) cenv) (RR (.ref D) C) s₄ := by
    refine compLoop_any (CInv K sc' cenv C D W { ρ₁ with frs := W ++ ρ₁.frs } s₄ its G St cond ce tg li Q) ?_ (its.length + 1)
      ⟨0, _, μ₁, [], [], rfl, Nat.zero_le _, Nat.le_refl _, Steps.refl _ _ _, F4, hG, st4, hacc, .nil, hq⟩
    rintro k s' ⟨i, ρ', μ', acc, vals, hkk, hi, hal, st, F', hG', sti, hD', dacc, hgo⟩
    have frs' : ρ'.frs = W ++ ρ₁.frs := st.frs
    have hown : ∀ b ∈ own, b ∈ ρ'.frs ∧ b ∉ [C] := fun b hb => ⟨by rw [frs']; exact List.mem_append_left _ (.tail _ (.tail _ hb)), fun m => hCown (by rw [← List.mem_singleton.mp m]; exact hb)⟩
    have hDfr : D ∈ ρ'.frs := by rw [frs']; exact List.mem_append_left _ (.head _)
    cases hc : its[i]? with
    | none =>
      have hl : its.length ≤ i := by simpa using hc
      rw [List.drop_eq_nil_of_le hl] at hgo
      rw [Nat.le_antisymm hi hl] at sti
      refine Cs.done F'.S hG' sti fun h' hkb => ?_
      have hnf : ∀ b ∈ own, ∀ o, s'.heap.get? b = some o → ¬ filled o := fun b hb o e => by
        obtain ⟨o', ho, hf⟩ := Cs.live sti b hb
        rw [e] at ho; cases ho; exact hf
      have ownfr : ∀ b ∈ own, b ∈ ρ'.frs := fun b hb => (hown b hb).1
      let ρe : Rho := { ρ' with frs := ρ₁.frs }
      let se : Shared := { s' with heap := h' }
      have notW : ∀ b o, s₁'.heap.get? b = some o → b ∉ W := fun b o e m => by rw [hWf b m] at e; cases e
      have stE : Steps [] ρ₁ s₁' ρe se := by
        refine ⟨rfl, ?_, fun b o e h1 h2 _ => ?_, fun b o e => ?_, ?_, ?_⟩
        · obtain ⟨τ, e, hh⟩ := st.ext
          exact ⟨τ, e, fun p hp => ⟨none_back (fun b o e => ⟨o, hk12 b o e⟩) (hh p hp).1, none_back (fun b o e => ⟨o, hk12 b o e⟩) (hh p hp).2⟩⟩
        · exact hkb b o (fun m => notW b o e (.tail _ (.tail _ m))) (st.keep b o (hk12 b o e) h1 h2 fun m => absurd m (notW b o e))
        · obtain ⟨o', e'⟩ := st.live b o (hk12 b o e)
          exact ⟨o', hkb b o' (fun m => notW b o e (.tail _ (.tail _ m))) e'⟩
        · show s'.os = _; rw [st.os, h4os]
        · show s'.gens = _; rw [st.gens, h4g]
      have fromS : ∀ b, s₁'.heap.get? b = none → s.heap.get? b = none := fun b e => none_back a.live e
      have SE : Sees K.g K.Λ { ρ' with frs := D :: C :: ρ₁.frs } μ' se := by
        refine F'.S.popTurn (T := own) (fun b hb => ?_) (fun b hb => ?_) (fun b hb => ?_) ownfr hnf hkb rfl
        · rw [frs'] at hb
          rcases List.mem_append.mp hb with hb | hb
          · rcases List.mem_cons.mp hb with rfl | hb
            · exact .inr (.head _)
            · rcases List.mem_cons.mp hb with rfl | hb
              · exact .inr (.tail _ (.head _))
              · exact .inl hb
          · exact .inr (.tail _ (.tail _ hb))
        · rw [frs']
          rcases List.mem_cons.mp hb with rfl | hb
          · exact List.mem_append_left _ (.head _)
          · rcases List.mem_cons.mp hb with rfl | hb
            · exact List.mem_append_left _ (.tail _ (.head _))
            · exact List.mem_append_right _ hb
        · rcases List.mem_cons.mp hb with rfl | hb
          · exact hDown
          · rcases List.mem_cons.mp hb with rfl | hb
            · exact hCown
            · exact fun m => by
                obtain ⟨o, e⟩ := S₁.frlt b hb
                rw [hf b m] at e; cases e
      have hpl : se.heap.PlainList D (List.toArray vals) := by
        obtain ⟨kk, e⟩ := hD'
        exact ⟨kk, hkb D _ hDown e⟩
      have dE : VDens K.Λ { ρ' with frs := D :: C :: ρ₁.frs } se.heap acc vals := by
        refine (dacc.turnFrs ownfr hnf hkb).pop fun b hb => ?_
        rw [frs']
        rcases List.mem_cons.mp hb with rfl | hb
        · exact List.mem_append_left _ (.head _)
        · rcases List.mem_cons.mp hb with rfl | hb
          · exact List.mem_append_left _ (.tail _ (.head _))
          · exact List.mem_append_right _ hb
      have hCe : ∃ m, se.heap.Ns C m := by
        obtain ⟨m, hn, _⟩ := F'.L.ns
        exact ⟨m, hn.at' fun o e => hkb C o hCown e⟩
      have LE : LocOk K.Λ { ρe with frs := [D, C] ++ ρe.frs } sc env l se.heap := F1.L.stepY (Y := [D, C]) S₁ stE fun b hb => by
        simp only [List.mem_cons, List.not_mem_nil, or_false] at hb
        rcases hb with rfl | rfl
        · exact hDn1
        · exact hCn1
      exact hRR D C ρe μ' acc vals se (fromS _ hDn1) (fromS _ hCn1) hCD (a.trans stE) SE LE hCe hpl dE hgo
    | some it =>
      have hlt : i < its.length := (List.getElem?_eq_some_iff.mp hc).1
      have hd : its.drop i = it :: its.drop (i + 1) := by
        have := (List.getElem?_eq_some_iff.mp hc).2
        rw [← this]; exact List.drop_eq_getElem_cons hlt
      rw [hd] at hgo
      have hil : it.length = tg.length := by rw [hlens it (List.mem_of_getElem? hc), hlen]
      refine take_ok hA.hand Frc Cs F' hG' sti hown hc hT hil fun v s₅ h₅ => ?_
      refine wpAny_mono h₅ (fun _ s₆ h₆ => wpAny_mono h₆ (fun _ s₇ h₇ => ?_) fun _ _ e => e) fun _ _ e => e
      obtain ⟨t1, F7, st7⟩ := h₇
      have sub1 : ∀ b ∈ own ++ [C], b ∈ W := fun b hb => by
        rcases List.mem_append.mp hb with hb | hb
        · exact .tail _ (.tail _ hb)
        · rw [List.mem_singleton.mp hb]; exact .tail _ (.head _)
      have wid : ∀ {Y : List Addr} {ρ ρ' : Rho} {s s' : Shared}, (∀ b ∈ Y, b ∈ W) → Steps Y ρ s ρ' s' → Steps W ρ s ρ' s' := fun hY x => ⟨x.frs, x.ext, fun b o e h1 h2 h3 => x.keep b o e h1 h2 fun m => h3 (hY b m), x.live, x.os, x.gens⟩
      have hDC : D ∉ own ++ [C] := fun m => by
        rcases List.mem_append.mp m with m | m
        · exact hDown m
        · exact hCD (List.mem_singleton.mp m).symm
      have ownC_fr : ∀ b ∈ own ++ [C], b ∈ ρ'.frs := fun b hb => by rw [frs']; exact List.mem_append_left _ (sub1 b hb)
      have D7 : s₇.heap.PlainList D (List.toArray vals) := by
        obtain ⟨kk, e⟩ := hD'
        exact ⟨kk, t1.keep D _ e (F'.S.frof D hDfr) (fun m => (F'.S.tabof D m).2 hDfr) fun m => absurd m hDC⟩
      have d7 : VDens K.Λ ρ' s₇.heap acc vals := dacc.steps t1 ownC_fr
      refine wpAny_mono (hcond hA Frc F7 hgo) (fun ok s₈ h₈ => ?_) fun _ _ e => e
      obtain ⟨ρ₈, μ₈, t2, S8, hq8⟩ := h₈
      have F8 : FS K.g K.Λ sc' cenv [C] ρ₈ μ₈ (setTg li tg it) s₈ := F7.steps t2 S8
      have own7 : ∀ b ∈ own, ∀ o, s₇.heap.get? b = some o → s₈.heap.get? b = some o := fun b hb o e => t2.keep b o e (F7.S.frof b (hown b hb).1) (fun m => (F7.S.tabof b m).2 (hown b hb).1) fun m => by cases m
      have st8 : St (i + 1) ρ₈ s₈.heap := Cs.keep st7 own7 fun p v d => d.step0 t2
      have D8 : s₈.heap.PlainList D (List.toArray vals) := by
        obtain ⟨kk, e⟩ := D7
        exact ⟨kk, t2.keep D _ e (F7.S.frof D hDfr) (fun m => (F7.S.tabof D m).2 hDfr) fun m => by cases m⟩
      have d8 : VDens K.Λ ρ₈ s₈.heap acc vals := d7.step0 t2
      have forget : ∀ {ρ : Rho} {h : Heap}, LocOk K.Λ ρ sc' cenv (setTg li tg it) h → LocOk K.Λ ρ sc' cenv li h := fun x => x.forget (fun j p e => by
        rw [setTg_other tg it li fun t ht q => ?_]
        · exact e
        · obtain ⟨j', hj, _⟩ := inner_some e
          exact hs.apart t ht _ hj q.symm) noC
      have t12 := (st.trans (wid sub1 t1)).trans (wid (Y := []) (fun b hb => by cases hb) t2)
      cases ok with
      | false =>
        simp only [Bool.false_eq_true, if_false] at hq8 ⊢
        exact ⟨its.length + 1 - (i + 1), by lia, i + 1, ρ₈, μ₈, acc, vals, rfl, hlt, by (exact Nat.le_succ_of_le ‹_›), t12, ⟨F8.S, forget F8.L, F8.X⟩, hq8.1, st8, D8, d8, hq8.2⟩
      | true =>
        simp only [if_true] at hq8 ⊢
        refine wpAny_mono (helt hA Frc F8 hq8) (fun v s₉ h₉ => ?_) fun _ _ e => e
        obtain ⟨ρ₉, pv, μ₉, t3, S9, dv, hG9, hq9⟩ := h₉
        have F9 : FS K.g K.Λ sc' cenv [C] ρ₉ μ₉ (setTg li tg it) s₉ := F8.steps t3 S9
        have hDfr8 : D ∈ ρ₈.frs := by rw [t2.frs]; exact hDfr
        have hDfr9 : D ∈ ρ₉.frs := by rw [t3.frs]; exact hDfr8
        have own8 : ∀ b ∈ own, ∀ o, s₈.heap.get? b = some o → s₉.heap.get? b = some o := fun b hb o e =>
          have hb8 : b ∈ ρ₈.frs := by rw [t2.frs]; exact (hown b hb).1
          t3.keep b o e (F8.S.frof b hb8) (fun m => (F8.S.tabof b m).2 hb8) fun m => by cases m
        have st9 : St (i + 1) ρ₉ s₉.heap := Cs.keep st8 own8 fun p v d => d.step0 t3
        have D9 : s₉.heap.PlainList D (List.toArray vals) := by
          obtain ⟨kk, e⟩ := D8
          exact ⟨kk, t3.keep D _ e (F8.S.frof D hDfr8) (fun m => (F8.S.tabof D m).2 hDfr8) fun m => by cases m⟩
        have d9 : VDens K.Λ ρ₉ s₉.heap acc vals := d8.step0 t3
        have hsz : (List.toArray vals).size ≤ sizeLine := by
          have := d9.len
          rw [sizeLine_eq]; simp; lia
        refine wpAny_list_append_plain D9 (fun h' hl' hsb => ?_) hsz
        have hkb : KeptBut [D] s₉.heap h' := KeptBut.same hsb
        have hfr1 : ∀ b ∈ [D], b ∈ ρ₉.frs := fun b hb => by rw [List.mem_singleton.mp hb]; exact hDfr9
        have hnfD := plain_nf D9
        have hlv : ∀ b ∈ [D], ∃ o, h'.get? b = some o := fun b hb => by rw [List.mem_singleton.mp hb]; obtain ⟨kk, e⟩ := hl'; exact ⟨_, e⟩
        have S10 : Sees K.g K.Λ ρ₉ μ₉ { s₉ with heap := h' } := F9.S.turnFrs hfr1 hnfD hkb hlv rfl
        have L10 : LocOk K.Λ ρ₉ sc' cenv (setTg li tg it) h' := F9.L.turn hfr1 hnfD hkb (fun m => hCD (List.mem_singleton.mp m)) fun y c hc => absurd hc (noC y)
        have t4 : Steps W ρ₉ s₉ ρ₉ { s₉ with heap := h' } := Steps.turnX (T := [D]) (fun b hb => by rw [List.mem_singleton.mp hb]; exact .head _) hkb hnfD hlv rfl rfl
        have st10 : St (i + 1) ρ₉ h' := Cs.keep st9 (fun b hb o e => hkb b o (fun m => hDown (by rw [← List.mem_singleton.mp m]; exact hb)) e) fun p v d => d.turnFrs hfr1 hnfD hkb
        have hpl : h'.PlainList D (List.toArray (vals ++ [v])) := by simpa using hl'
        have d10 : VDens K.Λ ρ₉ h' (acc ++ [pv]) (vals ++ [v]) := VDens.append (d9.turnFrs hfr1 hnfD hkb) (.cons (dv.turnFrs hfr1 hnfD hkb) .nil)
        exact ⟨its.length + 1 - (i + 1), by lia, i + 1, ρ₉, μ₉, acc ++ [pv], vals ++ [v], rfl, hlt, by simp; assumption, (t12.trans (wid (Y := []) (fun b hb => by cases hb) t3)).trans t4, ⟨S10, forget L10, F9.X⟩, hG9, st10, hpl, d10, hq9⟩
  rw [hI0]
  exact codeAny_compStart_list loop (noE (Cs.self st4 loop))
end

/- MComp3 -/


noncomputable def SndL (K : Cx) (sc : Sc) (x : Expr) (e : CL) : Prop :=
  ∀ {A : Around} {env : Env} {X : List Addr} {ρ : Rho} {μ : List AO} {l : Lc} {s : Shared} {Q : List PV → List AO → Prop}, Room K.n A → FrOk sc env X → FS K.g K.Λ sc env X ρ μ l s → wpL K.Φ e l μ Q →
    wpAny (model K.prog K.w) A (eval x env) (LOut K.g K.Λ ρ s Q) NoE s

section
variable {prog : Program} {w : World} {A : Around} {n : Nat} {g : Heap} {Λ : List LamT} {ρ ρ' : Rho} {μ μ' : List AO} {s s' : Shared} {sc : Sc} {env : Env} {l : Lc} {X T own : List Addr}

theorem Out.mono {Q Q' : Post} {v : Value} (h : Out g Λ ρ s Q v s') (k : ∀ v μ, Q v μ → Q' v μ) : Out g Λ ρ s Q' v s' :=
  let ⟨ρ', v, μ', a, b, c, d⟩ := h; ⟨ρ', v, μ', a, b, c, k _ _ d⟩

theorem LocOk.popL (Fr : FrOk sc env X) {fr : List Addr} (hT : ∀ b ∈ fr, b ∈ ρ.frs) (hX : ∀ b ∈ X, b ∈ fr) {h : Heap} (x : LocOk Λ ρ sc env l h) : LocOk Λ { ρ with frs := fr } sc env l h where
  fr := hX _ Fr.loc
  ns := let ⟨m, hn, hv⟩ := x.ns; ⟨m, hn, fun i y p h1 h2 h3 => let ⟨v, e, d⟩ := hv i y p h1 h2 h3; ⟨v, e, d.pop hT⟩⟩
  cells := fun i y p h1 h2 h3 => let ⟨c, v, e, c1, c2, hc, d⟩ := x.cells i y p h1 h2 h3; ⟨c, v, e, c1, c2, hc, d.pop hT⟩
  own := fun i y h1 h2 h3 => let ⟨c, e, hc, hf⟩ := x.own i y h1 h2 h3; ⟨c, e, hc, hX _ (Fr.cel y c h3 e)⟩

theorem LocOk.takeL (Fr : FrOk sc env X) {fr : List Addr} (hT : ∀ b ∈ fr, b ∈ ρ.frs) (hX : ∀ b ∈ X, b ∈ fr) {D : Addr} (hD : D ∈ ρ.frs) {h : Heap} (hnf : ∀ o, h.get? D = some o → ¬ filled o) (x : LocOk Λ ρ sc env l h) : LocOk Λ (tk ρ D fr) sc env l h where
  fr := hX _ Fr.loc
  ns := let ⟨m, hn, hv⟩ := x.ns; ⟨m, hn, fun i y p h1 h2 h3 => let ⟨v, e, d⟩ := hv i y p h1 h2 h3; ⟨v, e, d.take' hT hD hnf⟩⟩
  cells := fun i y p h1 h2 h3 => by
    obtain ⟨c, v, e, c1, c2, ⟨o, ho, hd⟩, d⟩ := x.cells i y p h1 h2 h3
    exact ⟨c, v, e, fun m => (ofoot_tk.mp m).elim c1 (fun q => hnf o (q ▸ ho) ⟨v, hd⟩), c2, ⟨o, ho, hd⟩, d.take' hT hD hnf⟩
  own := fun i y h1 h2 h3 => let ⟨c, e, hc, hf⟩ := x.own i y h1 h2 h3; ⟨c, e, hc, hX _ (Fr.cel y c h3 e)⟩

theorem FS.closeC {ρ₃ : Rho} {s₃ s₄ : Shared} (Fr : FrOk sc env X) (S0 : Sees g Λ ρ μ' s) (hX : ∀ b ∈ X, b ∈ ρ.frs) (hT : ∀ b ∈ T, s.heap.get? b = none) (st : Steps X ρ s { ρ₃ with frs := ρ.frs } s₃) (hfr : ρ₃.frs = T ++ ρ.frs)
    (F : FS g Λ sc env X ρ₃ μ l s₃) (hnf : ∀ b ∈ T, ∀ o, s₃.heap.get? b = some o → ¬ filled o) (hk4 : KeptBut T s₃.heap s₄.heap) (hos4 : s₄.os = s₃.os) (hg4 : s₄.gens = s₃.gens) :
    Steps X ρ s { ρ₃ with frs := ρ.frs } s₄ ∧ FS g Λ sc env X { ρ₃ with frs := ρ.frs } μ l s₄ ∧ ∀ p v, VDen Λ ρ₃ s₃.heap p v → VDen Λ { ρ₃ with frs := ρ.frs } s₄.heap p v := by
  have hTT : ∀ b ∈ T, b ∈ ρ₃.frs := fun b hb => by rw [hfr]; exact List.mem_append_left _ hb
  have hTr : ∀ b ∈ ρ.frs, b ∈ ρ₃.frs := fun b hb => by rw [hfr]; exact List.mem_append_right _ hb
  have hTf : ∀ b ∈ ρ.frs, b ∉ T := fun b hb m => by
    obtain ⟨o, e⟩ := S0.frlt b hb
    rw [hT b m] at e; cases e
  have notT : ∀ b o, s.heap.get? b = some o → b ∉ T := fun b o e m => by rw [hT b m] at e; cases e
  have vd : ∀ p v, VDen Λ ρ₃ s₃.heap p v → VDen Λ { ρ₃ with frs := ρ.frs } s₄.heap p v := fun p v d => (d.turnFrs hTT hnf hk4).pop hTr
  refine ⟨⟨rfl, st.ext, fun b o e h1 h2 h3 => hk4 b o (notT b o e) (st.keep b o e h1 h2 h3), fun b o e => ?_, by rw [hos4, st.os], by rw [hg4, st.gens]⟩, ⟨?_, ⟨hX _ Fr.loc, ?_, ?_, ?_⟩, hX⟩, vd⟩
  · obtain ⟨o3, e3⟩ := st.live b o e
    exact ⟨o3, hk4 b o3 (notT b o e) e3⟩
  · exact F.S.popTurn (fun b hb => by rw [hfr] at hb; exact List.mem_append.mp hb) hTr hTf hTT hnf hk4 hg4
  · obtain ⟨m, hn, hv⟩ := F.L.ns
    refine ⟨m, hn.at' fun o e => hk4 _ o (hTf _ (hX _ Fr.loc)) e, fun i y p h1 h2 h3 => ?_⟩
    obtain ⟨v, e, d⟩ := hv i y p h1 h2 h3
    exact ⟨v, e, vd _ _ d⟩
  · intro i y p h1 h2 h3
    obtain ⟨c, v, e, c1, c2, ⟨o, ho, hd⟩, d⟩ := F.L.cells i y p h1 h2 h3
    exact ⟨c, v, e, c1, c2, ⟨o, hk4 _ o (fun m => hnf c m o ho ⟨v, hd⟩) ho, hd⟩, vd _ _ d⟩
  · intro i y h1 h2 h3
    obtain ⟨c, e, ⟨o, ho, hd⟩, hf'⟩ := F.L.own i y h1 h2 h3
    have hc : c ∈ ρ.frs := hX _ (Fr.cel y c h3 e)
    exact ⟨c, e, ⟨o, hk4 _ o (hTf _ hc) ho, hd⟩, hc⟩
theorem ns_nf {h : Heap} {C : Addr} {m : Str → Option Value} (hn : h.Ns C m) : ∀ b ∈ [C], ∀ o, h.get? b = some o → ¬ filled o := fun b hb o e => by
  obtain ⟨o2, es, ep, ho2, hd, _⟩ := hn
  rw [List.mem_singleton.mp hb, ho2] at e; cases e
  exact fun ⟨u, hu⟩ => by rw [hd] at hu; cases hu
end

section
variable {K : Cx} {sc sc' : Sc}

theorem sndE_fl {x : Expr} {c : CL} (h : SndL K sc x c) : SndE K sc x (.fl c) := fun hA Fr F hw =>
  wpAny_mono (h hA Fr F hw) (fun v s' h' => (h'.frozen F.S).mono fun v μ ⟨vs, e, q⟩ => by rw [e]; exact q) fun _ _ e => e
theorem sndE_ml {x : Expr} {c : CL} (h : SndL K sc x c) : SndE K sc x (.ml c) := fun hA Fr F hw =>
  wpAny_mono (h hA Fr F hw) (fun v s' h' => (h'.object F.S).mono fun v μ ⟨vs, μ₁, e, e2, q⟩ => by rw [e, e2]; exact q) fun _ _ e => e

theorem free_cells {scope : Scope} {fr : List (Nat × Nat)} {tg : List Nat} (hs : CompSc scope sc sc' fr tg) {g : Heap} {Λ : List LamT} {env : Env} {X : List Addr} {ρ : Rho} {μ : List AO} {l : Lc} {s : Shared} (F : FS g Λ sc env X ρ μ l s)
    (hf : ∀ p ∈ fr, ∃ v, l[p.2]? = some (some v)) : ∀ x ∈ scope.names, x.2 = .free → ∃ c, env.cells.lookup x.1 = some c := fun x hx hk => by
  obtain ⟨p, hp, h1, h2⟩ := hs.frees x hx hk
  obtain ⟨v, hv⟩ := hf p hp
  obtain ⟨c, _, e, _⟩ := F.L.cells p.2 x.1 v h1 hv h2
  exact ⟨c, e⟩

theorem sndL_comp {elt target iter : Expr} {ifs : List Expr} {scope : Scope} {pos : Pos} {ce : CE} {cond : CO} {tg : List Nat} {src : CI} {ns : List Str} {fr : List (Nat × Nat)} {tup : Bool} (hns : sc'.ns = ns)
    (hs : CompSc scope sc sc' fr tg) (hT : TgOk sc' tup target tg) (hlen : tg.length = if tup = true then 2 else 1) (hI : SndI K sc iter src tup) (helt : SndE K sc' elt ce) (hcond : SndC K sc' ifs cond)
    (hf : ∀ (env : Env) (x : Value), foldedSetIterable iter env x = pure x) :
    SndL K sc (.ListComp elt [⟨target, iter, ifs, 0⟩] scope pos) (.comp ce cond tg src ns fr) := by
  subst hns
  intro A env X ρ μ l s Q hA Fr F hw
  obtain ⟨cl, hcl, hcl2⟩ := closure_ex (free_cells hs F hw.1)
  rw [eval_ListComp]
  refine wpAny_comprehension_free (use := none) rfl (hf env) hcl hs.kind hs.locs (comp_core (RR := fun acc C r s' => compPost (model K.prog K.w) A NoE none (LOut K.g K.Λ ρ s Q) acc C r s') hs hT hlen hI helt hcond hA Fr F hw hcl2 ?_)
  intro D C ρ' μ' vs vals s' hD hC hCD st S L hn hl dv q
  obtain ⟨m, hn⟩ := hn
  refine ⟨m, hn, fun h' hs' => ?_⟩
  have hkb : KeptBut [C] s'.heap h' := KeptBut.same hs'
  have hnf := ns_nf hn
  have hTT : ∀ b ∈ [C], b ∈ ({ ρ' with frs := D :: C :: ρ'.frs } : Rho).frs := fun b hb => by rw [List.mem_singleton.mp hb]; exact .tail _ (.head _)
  have hCf : C ∉ ρ'.frs := fun m => by
    rw [st.frs] at m
    obtain ⟨o, e⟩ := F.S.frlt C m
    rw [hC] at e; cases e
  have hsub : ∀ b ∈ D :: ρ'.frs, b ∈ D :: C :: ρ'.frs := fun b hb => by
    rcases List.mem_cons.mp hb with rfl | hb
    · exact .head _
    · exact .tail _ (.tail _ hb)
  have S2 : Sees K.g K.Λ { ρ' with frs := D :: ρ'.frs } μ' { s' with heap := h' } := by
    refine S.popTurn (T := [C]) (fun b hb => ?_) hsub (fun b hb m => ?_) hTT hnf hkb rfl
    · rcases List.mem_cons.mp hb with rfl | hb
      · exact .inr (.head _)
      · rcases List.mem_cons.mp hb with rfl | hb
        · exact .inl (.head _)
        · exact .inr (.tail _ hb)
    · rw [List.mem_singleton.mp m] at hb
      rcases List.mem_cons.mp hb with hb | hb
      · exact hCD hb
      · exact hCf hb
  have notC : ∀ b o, s.heap.get? b = some o → b ∉ [C] := fun b o e m => by rw [List.mem_singleton.mp m, hC] at e; cases e
  refine ⟨ρ', D, vs, vals, μ', rfl, hD, ⟨st.frs, st.ext, fun b o e h1 h2 h3 => hkb b o (notC b o e) (st.keep b o e h1 h2 h3), fun b o e => ?_, st.os, st.gens⟩, S2, ?_, (dv.turnFrs hTT hnf hkb).pop (ρ := { ρ' with frs := D :: C :: ρ'.frs }) hsub, q⟩
  · obtain ⟨o', e'⟩ := st.live b o e
    exact ⟨o', hkb b o' (notC b o e) e'⟩
  · obtain ⟨kk, e⟩ := hl
    exact ⟨kk, hkb D _ (fun m => hCD (List.mem_singleton.mp m).symm) e⟩

theorem swaps_true {elt : Expr} {gens : List Comprehension} {scope : Scope} {pos py : Pos} {y : Str} {line : Nat} {env : Env} (hk : env.scope.kind = .function) (hy : env.kindOf y = some .local) (hl : (py.line == pos.line) = true)
    (hn : (scope.names.any fun x => x.1 == y && (x.2 == .local || x.2 == .cell)) = false) : swapsWith (.ListComp elt gens scope pos) (some (.Name y py)) line env = pure true := by
  have hb : env.blockKind = .function := by unfold Env.blockKind; rw [hk]; rfl
  unfold swapsWith
  show (pure (env.blockKind == .function && env.kindOf y == some .local && py.line == pos.line && !(scope.names.any fun x => x.1 == y && (x.2 == .local || x.2 == .cell))) : Sem Bool) = pure true
  rw [hb, hy, hl, hn]; rfl

/- `x = [..]` where the store comes before the comprehension's names go -/
theorem sndS_asgComp {elt target iter : Expr} {ifs : List Expr} {scope : Scope} {pos spos py : Pos} {y : Str} {i : Nat} {ce : CE} {cond : CO} {tg : List Nat} {src : CI} {ns : List Str} {fr : List (Nat × Nat)} {tup : Bool} (hns : sc'.ns = ns)
    (hs : CompSc scope sc sc' fr tg) (hT : TgOk sc' tup target tg) (hlen : tg.length = if tup = true then 2 else 1) (hI : SndI K sc iter src tup) (helt : SndE K sc' elt ce) (hcond : SndC K sc' ifs cond)
    (hf : ∀ (env : Env) (x : Value), foldedSetIterable iter env x = pure x)
    (e1 : sc.ns[i]? = some y) (hy : sc.ks.lookup y = some .local) (hl : (py.line == pos.line) = true) (hn : (scope.names.any fun x => x.1 == y && (x.2 == .local || x.2 == .cell)) = false) (mt : Bool) :
    SndS K sc (.Assign [.Name y py] (.ListComp elt [⟨target, iter, ifs, 0⟩] scope pos) spos) (.asg false i (if mt = true then .ml (.comp ce cond tg src ns fr) else .fl (.comp ce cond tg src ns fr))) := by
  subst hns
  intro A env X ρ μ l s Q hA Fr F hw
  have hw' : wpL K.Φ (.comp ce cond tg src sc'.ns fr) l μ (fun vs μ₁ => if mt = true then Q .next (l.set i (some (.obj μ₁.length))) (μ₁ ++ [.lst vs]) else Q .next (l.set i (some (.lst vs))) μ₁) := by
    cases mt with
    | true =>
      have : wpL K.Φ (.comp ce cond tg src sc'.ns fr) l μ (fun vs μ₁ => (false = true → l[i]? = some none) ∧ Q .next (l.set i (some (.obj μ₁.length))) (μ₁ ++ [.lst vs])) := hw
      simpa using this
    | false =>
      have : wpL K.Φ (.comp ce cond tg src sc'.ns fr) l μ (fun vs μ₁ => (false = true → l[i]? = some none) ∧ Q .next (l.set i (some (.lst vs))) μ₁) := hw
      simpa using this
  obtain ⟨cl, hcl, hcl2⟩ := closure_ex (free_cells hs F hw'.1)
  rw [exec_Assign_Name_used _ _ _ _ (swaps_true Fr.H.kind (Fr.H.kl y hy) hl hn)]
  refine wpAny_bind (wpAny_standAt (wpAny_bind ?_))
  show wpAny _ A (do let _ ← comprehension (.ListComp elt [⟨target, iter, ifs, 0⟩] scope pos) scope env _ (newList []) false (eval iter env) (some (assign (.Name y py) env))) _ _ s
  refine wpAny_bind (wpAny_mono (wpAny_comprehension_free (use := some (assign (.Name y py) env)) (Q := fun _ s' => FOutF K.g K.Λ sc env X ρ s Q .next s') rfl (hf env) hcl hs.kind hs.locs
    (comp_core (RR := fun acc C r s' => compPost (model K.prog K.w) A NoE (some (assign (.Name y py) env)) (fun _ s' => FOutF K.g K.Λ sc env X ρ s Q .next s') acc C r s') hs hT hlen hI helt hcond hA Fr F hw' hcl2 ?_)) (fun _ s' hq => wpAny_pure (wpAny_pure hq)) fun _ _ e => e)
  intro D C ρ' μ' vs vals s' hD hC hCD st S L hn hl dv q
  obtain ⟨m, hn⟩ := hn
  have frs' : ρ'.frs = ρ.frs := st.frs
  have hCf : C ∉ ρ'.frs := fun m => by
    rw [frs'] at m
    obtain ⟨o, e⟩ := F.S.frlt C m
    rw [hC] at e; cases e
  have hDf : D ∉ ρ'.frs := fun m => by
    rw [frs'] at m
    obtain ⟨o, e⟩ := F.S.frlt D m
    rw [hD] at e; cases e
  have hDC : D ∉ C :: ρ'.frs := fun m => by
    rcases List.mem_cons.mp m with m | m
    · exact hCD m.symm
    · exact hDf m
  have hsub : ∀ b ∈ C :: ρ'.frs, b ∈ D :: C :: ρ'.frs := fun b hb => .tail _ hb
  have hXf : ∀ b ∈ X, b ∈ C :: ρ'.frs := fun b hb => .tail _ (by rw [frs']; exact F.X b hb)
  have hnfC := ns_nf hn
  have fin : ∀ {ρ'' : Rho} {μ'' : List AO} {pv : PV}, ρ''.frs = C :: ρ.frs → FS K.g K.Λ sc env X ρ'' μ'' l s' → VDen K.Λ ρ'' s'.heap pv (.ref D) → Steps [] ρ s { ρ'' with frs := ρ.frs } s' → Q .next (l.set i (some pv)) μ'' →
      wpAny (model K.prog K.w) A (assign (.Name y py) env (.ref D)) (fun _ s'' => ∃ m, s''.heap.Ns C m ∧ ∀ h', Heap.SameBut C s''.heap h' → FOutF K.g K.Λ sc env X ρ s Q .next { s'' with heap := h' }) NoE s' := by
    intro ρ'' μ'' pv hfr F2 d2 st2 q2
    refine wpAny_assign_Name (bindLoc_ok Fr F2 e1 hy d2 fun h' tk hkb st3 F3 => ?_)
    have hCL : C ∉ [env.locals] := fun m => by
      have := List.mem_singleton.mp m
      rw [this] at hCf
      exact hCf (by rw [frs']; exact F.X _ Fr.loc)
    refine ⟨m, hn.at' fun o e => hkb C o hCL e, fun h'' hs'' => ?_⟩
    have st4 : Steps X ρ s { ρ'' with frs := ρ.frs } { s' with heap := h', toks := tk } := by
      refine ⟨rfl, st2.ext, fun b o e h1 h2 h3 => ?_, fun b o e => ?_, ?_, ?_⟩
      · exact st3.keep b o (st2.keep b o e h1 h2 fun m => by cases m) (not_ofoot_ext st2.ext h1 e) h2 h3
      · obtain ⟨o', e'⟩ := st2.live b o e
        exact st3.live b o' e'
      · rw [st3.os, st2.os]
      · rw [st3.gens, st2.gens]
    have hnf3 : ∀ b ∈ [C], ∀ o, h'.get? b = some o → ¬ filled o := ns_nf (hn.at' fun o e => hkb C o hCL e)
    obtain ⟨q1, q3, _⟩ := FS.closeC (T := [C]) (s₄ := { s' with heap := h'', toks := tk }) Fr F.S F.X (fun b hb => by rw [List.mem_singleton.mp hb]; exact hC) st4 hfr F3 hnf3 (KeptBut.same hs'') rfl rfl
    exact ⟨_, _, _, .next, q1, q3, .next, q2⟩
  show wpAny _ A (assign (.Name y py) env (.ref D)) _ _ s'
  cases mt with
  | false =>
    simp only [Bool.false_eq_true, if_false] at q
    refine fin (ρ'' := { ρ' with frs := C :: ρ'.frs }) (pv := .lst vs) (by rw [frs']) ⟨S.pop (ρ := { ρ' with frs := D :: C :: ρ'.frs }) hsub, LocOk.popL Fr (ρ := { ρ' with frs := D :: C :: ρ'.frs }) hsub hXf L, hXf⟩
      (.lst ⟨S.frof D (.head _), hDC, fun m => (S.tabof D m).2 (.head _)⟩ hl.isList (dv.pop (ρ := { ρ' with frs := D :: C :: ρ'.frs }) hsub)) ?_ q
    exact ⟨rfl, st.ext, st.keep, st.live, st.os, st.gens⟩
  | true =>
    simp only [if_true] at q
    have hlen' : ρ'.objs.length = μ'.length := S.len
    refine fin (ρ'' := tk { ρ' with frs := D :: C :: ρ'.frs } D (C :: ρ'.frs)) (μ'' := μ' ++ [.lst vs]) (pv := .obj μ'.length) (by show C :: ρ'.frs = _; rw [frs']) ⟨S.take (ρ := { ρ' with frs := D :: C :: ρ'.frs }) hsub (.head _) hDC hl dv,
      LocOk.takeL Fr (ρ := { ρ' with frs := D :: C :: ρ'.frs }) hsub hXf (.head _) (plain_nf hl D (.head _)) L, hXf⟩ (.obj (a := D) (d := D) ?_) ?_ q
    · show (ρ'.objs ++ [(D, D)])[μ'.length]? = _
      rw [← hlen', List.getElem?_concat_length]
    · refine ⟨rfl, ?_, fun b o e h1 h2 h3 => st.keep b o e h1 h2 h3, st.live, st.os, st.gens⟩
      obtain ⟨τ, e, h⟩ := st.ext
      refine ⟨τ ++ [(D, D)], ?_, fun p hp => ?_⟩
      · show ρ'.objs ++ [(D, D)] = _
        rw [e, List.append_assoc]
      · rcases List.mem_append.mp hp with hp | hp
        · exact h p hp
        · rw [List.mem_singleton.mp hp]; exact ⟨hD, hD⟩
end

/- MExp -/


noncomputable def SndEs (K : Cx) (sc : Sc) (xs : List Expr) (es : CEs) : Prop :=
  ∀ {A : Around} {env : Env} {X : List Addr} {ρ : Rho} {μ : List AO} {l : Lc} {s : Shared} {Q : List PV → List AO → Prop} (pos : Pos), Room K.n A → FrOk sc env X → FS K.g K.Λ sc env X ρ μ l s → wpEs K.Φ es l μ Q →
    wpAny (model K.prog K.w) A (spliced (backTo pos (starEach xs env))) (EsOut K.g K.Λ ρ s Q) NoE s
noncomputable def SndP (K : Cx) (sc : Sc) (x : Option Expr) (e : CE) : Prop :=
  ∀ {A : Around} {env : Env} {X : List Addr} {ρ : Rho} {μ : List AO} {l : Lc} {s : Shared} {Q : Post}, Room K.n A → FrOk sc env X → FS K.g K.Λ sc env X ρ μ l s → wpE K.Φ e l μ Q →
    wpAny (model K.prog K.w) A (evalPart x env) (Out K.g K.Λ ρ s Q) NoE s
noncomputable def opOf (isAnd : Bool) : BoolOp := if isAnd = true then .And else .Or
noncomputable def SndB (K : Cx) (sc : Sc) (isAnd : Bool) (xs : List Expr) (es : CEs) : Prop :=
  ∀ {A : Around} {env : Env} {X : List Addr} {ρ : Rho} {μ : List AO} {l : Lc} {s : Shared} {Q : Post} (pos : Pos), Room K.n A → FrOk sc env X → FS K.g K.Λ sc env X ρ μ l s → wpB K.Φ isAnd es l μ Q →
    wpAny (model K.prog K.w) A (boolOp pos (opOf isAnd) (evalEach xs env)) (Out K.g K.Λ ρ s Q) NoE s
noncomputable def SndA (K : Cx) (sc : Sc) (isAnd : Bool) (xs : List Expr) (es : CEs) : Prop :=
  ∀ {A : Around} {env : Env} {X : List Addr} {ρ : Rho} {μ : List AO} {l : Lc} {s : Shared} {Q : Bool → List AO → Prop}, Room K.n A → FrOk sc env X → FS K.g K.Λ sc env X ρ μ l s → wpA K.Φ isAnd es l μ Q →
    wpAny (model K.prog K.w) A (allTrue (opOf isAnd) xs env) (TOut K.g K.Λ ρ s Q) NoE s

section
variable {prog : Program} {w : World} {A : Around} {n : Nat} {g : Heap} {Λ : List LamT} {ρ ρ₁ ρ' : Rho} {μ μ' : List AO} {s s₁ s₂ s' : Shared} {sc : Sc} {env : Env} {l : Lc} {X T own : List Addr}

theorem Out.after {Q : Post} {v : Value} (h : Out g Λ ρ₁ s₁ Q v s') (a : Steps [] ρ s ρ₁ s₁) : Out g Λ ρ s Q v s' := let ⟨ρ', v, μ', b, r1, r2, r3⟩ := h; ⟨ρ', v, μ', a.trans b, r1, r2, r3⟩
theorem TOut.after {Q : Bool → List AO → Prop} {v : Bool} (h : TOut g Λ ρ₁ s₁ Q v s') (a : Steps [] ρ s ρ₁ s₁) : TOut g Λ ρ s Q v s' := let ⟨ρ', μ', b, r1, r2⟩ := h; ⟨ρ', μ', a.trans b, r1, r2⟩
theorem EsOut.after {Q : List PV → List AO → Prop} {v : List Value} (h : EsOut g Λ ρ₁ s₁ Q v s') (a : Steps [] ρ s ρ₁ s₁) : EsOut g Λ ρ s Q v s' := let ⟨ρ', vs, μ', b, r1, r2, r3⟩ := h; ⟨ρ', vs, μ', a.trans b, r1, r2, r3⟩
theorem LOut.after {Q : List PV → List AO → Prop} {v : Value} (h : LOut g Λ ρ₁ s₁ Q v s') (a : Steps [] ρ s ρ₁ s₁) : LOut g Λ ρ s Q v s' := by
  obtain ⟨ρ', D, vs, vals, μ', e, hD, st, r1, r2, r3, r4⟩ := h
  exact ⟨ρ', D, vs, vals, μ', e, none_back a.live hD, a.trans st, r1, r2, r3, r4⟩
theorem SrcOut.after {tup : Bool} {Q : SrcQ} {v : Value} (h : SrcOut prog w A g Λ ρ₁ s₁ tup Q v s') (a : Steps [] ρ s ρ₁ s₁) : SrcOut prog w A g Λ ρ s tup Q v s' := by
  obtain ⟨ρ', s'', μ', I, own, its, G, St, Mid, e, C, st, r1, r2, r3, r4, r5, r6, r7, r8, r9⟩ := h
  exact ⟨ρ', s'', μ', I, own, its, G, St, Mid, e, C, a.trans st, r1, r2, r3, r4, r5, r6, r7, r8, r9⟩
theorem aft {Q : Post} {m : Sem Value} (h : wpAny (model prog w) A m (Out g Λ ρ₁ s₁ Q) NoE s₂) (a : Steps [] ρ s ρ₁ s₁) : wpAny (model prog w) A m (Out g Λ ρ s Q) NoE s₂ := wpAny_mono h (fun _ _ q => q.after a) fun _ _ e => e
theorem aftT {Q : Bool → List AO → Prop} {m : Sem Bool} (h : wpAny (model prog w) A m (TOut g Λ ρ₁ s₁ Q) NoE s₂) (a : Steps [] ρ s ρ₁ s₁) : wpAny (model prog w) A m (TOut g Λ ρ s Q) NoE s₂ := wpAny_mono h (fun _ _ q => q.after a) fun _ _ e => e

theorem truthy_ok {x : PV} {v : Value} {h : Heap} (d : VDen Λ ρ h x v) {b : Bool} (e : truthy x μ = some b) {Q : Bool → Shared → Prop} {E : Value → Shared → Prop} (q : Q b s) : wpAny (model prog w) A (PySem.truthy v) Q E s := by
  cases d <;> first | (simp only [truthy, reduceCtorEq] at e; done) | skip
  · simp only [truthy, Option.some.injEq] at e; subst e
    exact wpAny_pure q
  · simp only [truthy, Option.some.injEq] at e; subst e
    exact wpAny_truthy_bool q
  · simp only [truthy, Option.some.injEq] at e; subst e
    exact PyProof.Rows.truthy_int q
end

section
variable {K : Cx} {sc : Sc}

theorem sndE_int {i : Int} {k pos} : SndE K sc (.Constant (.int i) k pos) (.cint i) := fun hA Fr F h => wpAny_Constant_int (Out.tk F.S (.int _ _) h)
theorem sndE_none {k pos} : SndE K sc (.Constant .none k pos) .cnone := fun hA Fr F h => wpAny_Constant_none (Out.here F.S .none h)
theorem sndE_bool {b : Bool} {k pos} : SndE K sc (.Constant (.bool b) k pos) (.cbool b) := fun hA Fr F h => wpAny_Constant_bool (Out.here F.S (.bool b) h)
theorem sndE_str {x : Str} {c : Nat} {k pos} (e : sTab[c]? = some x) : SndE K sc (.Constant (.str x) k pos) (.cstr c) := fun hA Fr F h => wpAny_Constant_str (Out.tk F.S (.str c x _ e) h)

theorem sndE_loc {y : Str} {i : Nat} {pos} (e1 : sc.ns[i]? = some y) (hk : sc.ks.lookup y = some .local ∨ sc.ks.lookup y = some .cell ∨ sc.ks.lookup y = some .free)
    (hdbg : (y == ("__debug__" : Str)) = false) (hcd : (y == ("__classdict__" : Str)) = false) : SndE K sc (.Name y pos) (.loc i) := fun hA Fr F h => by
  obtain ⟨v, e2, q⟩ := h
  exact loc_ok Fr.H F.L e1 e2 hk hdbg hcd fun val d => Out.here F.S d q
theorem sndE_glo {x : Str} {n : Nat} {p : PV} {pos} (e : gTab[n]? = some (x, p)) (hk : sc.ks.lookup x = some .globalImplicit) (hdbg : (x == ("__debug__" : Str)) = false) : SndE K sc (.Name x pos) (.glo n) := fun hA Fr F h => by
  obtain ⟨q, e2, hq⟩ := h
  rw [e] at e2; cases e2
  exact glo_ok K.gd F.S Fr.H (List.mem_of_getElem? e) hk hdbg fun v d => Out.here F.S d hq

theorem sndE_bin {a b : Expr} {op : Operator} {ca cb : CE} {pos} (ha : SndE K sc a ca) (hb : SndE K sc b cb) : SndE K sc (.BinOp a op b pos) (.bin op ca cb) := fun hA Fr F h => by
  refine wpAny_BinOp (wpAny_mono (ha hA Fr F h) (fun va s₁ h₁ => ?_) fun _ _ e => e)
  obtain ⟨ρ₁, x, μ₁, st1, S1, d1, h1⟩ := h₁
  refine wpAny_mono (hb hA Fr (F.steps st1 S1) h1) (fun vb s₂ h₂ => ?_) fun _ _ e => e
  obtain ⟨ρ₂, y, μ₂, st2, S2, d2, h2⟩ := h₂
  exact aft (bin_ok hA S2 (d1.step0 st2) d2 h2) (st1.trans st2)

theorem sndL_add {a b : Expr} {ca cb : CE} {pos} (ha : SndE K sc a ca) (hb : SndE K sc b cb) : SndL K sc (.BinOp a .Add b pos) (.add ca cb) := fun hA Fr F h => by
  refine wpAny_BinOp (wpAny_mono (ha hA Fr F h) (fun va s₁ h₁ => ?_) fun _ _ e => e)
  obtain ⟨ρ₁, x, μ₁, st1, S1, d1, h1⟩ := h₁
  refine wpAny_mono (hb hA Fr (F.steps st1 S1) h1) (fun vb s₂ h₂ => ?_) fun _ _ e => e
  obtain ⟨ρ₂, y, μ₂, st2, S2, d2, k, m, e1, e2, hz, q⟩ := h₂
  obtain ⟨a, vs, rfl, hl, dv⟩ := listOf_den S2 (d1.step0 st2) e1
  obtain ⟨b, ws, rfl, hm, dw⟩ := listOf_den S2 d2 e2
  exact add_lists_ok hl hm (by rw [dv.len, dw.len, sizeLine_eq]; (exact Nat.le_trans ‹_› (by decide))) ((LOut.new S2 (dv.append dw) q).after (st1.trans st2))

theorem sndE_neg {a : Expr} {ca : CE} {pos} (ha : SndE K sc a ca) : SndE K sc (.UnaryOp .USub a pos) (.neg ca) := fun hA Fr F h => by
  refine wpAny_UnaryOp (wpAny_mono (ha hA Fr F h) (fun va s₁ h₁ => ?_) fun _ _ e => e)
  obtain ⟨ρ₁, x, μ₁, st1, S1, d1, i, rfl, q⟩ := h₁
  obtain ⟨_, rfl⟩ := d1.inv
  exact PyProof.Rows.neg_int ((Out.tk S1 (.int _ _) q).after st1)

theorem sndE_not {a : Expr} {ca : CE} {pos} (ha : SndE K sc a ca) : SndE K sc (.UnaryOp .Not a pos) (.not ca) := fun hA Fr F h => by
  refine wpAny_UnaryOp (wpAny_mono (ha hA Fr F h) (fun va s₁ h₁ => ?_) fun _ _ e => e)
  obtain ⟨ρ₁, x, μ₁, st1, S1, d1, b, e, q⟩ := h₁
  exact not_value (truthy_ok d1 e ((Out.here S1 (.bool _) q).after st1))

theorem sndE_cmp {a b : Expr} {op : CmpOp} {ca cb : CE} {pos} (ha : SndE K sc a ca) (hb : SndE K sc b cb) (hm : behindInMarks op b = false) : SndE K sc (.Compare a [op] [b] pos) (.cmp op ca cb) := fun hA Fr F h => by
  refine wpAny_Compare1 (wpAny_mono (ha hA Fr F h) (fun va s₁ h₁ => ?_) fun _ _ e => e) hm
  obtain ⟨ρ₁, x, μ₁, st1, S1, d1, h1⟩ := h₁
  refine wpAny_mono (hb hA Fr (F.steps st1 S1) h1) (fun vb s₂ h₂ => ?_) fun _ _ e => e
  obtain ⟨ρ₂, y, μ₂, st2, S2, d2, h2⟩ := h₂
  exact cmp_ok hA S2 (d1.step0 st2) d2 h2 fun b tk q => (Out.tk S2 (.bool b) q).after (st1.trans st2)

theorem sndT_cmp {a b : Expr} {op : CmpOp} {ca cb : CE} {pos} (ha : SndE K sc a ca) (hb : SndE K sc b cb) (hm : behindInMarks op b = false) : SndT K sc (.Compare a [op] [b] pos) (.cmp op ca cb) := fun hA Fr F h => by
  refine wpAny_isTrue_Compare1 (wpAny_mono (ha hA Fr F h) (fun va s₁ h₁ => ?_) fun _ _ e => e) hm
  obtain ⟨ρ₁, x, μ₁, st1, S1, d1, h1⟩ := h₁
  refine wpAny_mono (hb hA Fr (F.steps st1 S1) h1) (fun vb s₂ h₂ => ?_) fun _ _ e => e
  obtain ⟨ρ₂, y, μ₂, st2, S2, d2, h2⟩ := h₂
  refine cmp_ok hA S2 (d1.step0 st2) d2 h2 fun b tk q => wpAny_truthy_bool ?_
  exact ⟨ρ₂, μ₂, (st1.trans st2).trans (Steps.grown (fun _ _ e => e) rfl rfl), S2.grown (fun _ _ e => e) rfl, q⟩

theorem sndT_cmp2 {a b c : Expr} {op₁ op₂ : CmpOp} {ca cb cc : CE} {pos} (ha : SndE K sc a ca) (hb : SndE K sc b cb) (hc : SndE K sc c cc) (hm2 : behindInMarks op₂ c = false) :
    SndT K sc (.Compare a [op₁, op₂] [b, c] pos) (.cmp2 op₁ op₂ ca cb cc) := fun {A env X ρ μ l s Q} hA Fr F h => by
  rw [arm_isTrue_Compare]
  refine wpAny_bind (wpAny_mono (ha hA Fr F h) (fun va s₁ h₁ => ?_) fun _ _ e => e)
  obtain ⟨ρ₁, x, μ₁, st1, S1, d1, h1⟩ := h₁
  show wpAny _ _ (testChain pos va [op₁, op₂] [eval b env, markedBehindIn op₂ c (eval c env)]) _ _ s₁
  rw [markedBehindIn_of_false hm2]
  have F1 := F.steps st1 S1
  unfold testChain
  refine wpAny_bind (wpAny_holding (wpAny_mono (hb hA Fr F1 h1) (fun vb s₂ h₂ => ?_) fun _ _ e => e))
  obtain ⟨ρ₂, y, μ₂, st2, S2, d2, h2⟩ := h₂
  have F2 := F1.steps st2 S2
  refine wpAny_bind (wpAny_standAt (wpAny_bind (wpAny_holding (cmp_ok hA S2 (d1.step0 st2) d2 h2 fun t tk q => ?_))))
  have rel : ∀ {vs keep : List Value} {s : Shared} {Q : Unit → Shared → Prop}, Q () s → wpAny (model K.prog K.w) A (release vs keep) Q NoE s := fun h Γ p hΓ => by simpa using h
  refine wpAny_bind (rel (wpAny_bind (wpAny_holding (wpAny_truthy_bool ?_))))
  have st3 : Steps [] ρ₂ s₂ ρ₂ { s₂ with toks := tk } := Steps.grown (fun _ _ e => e) rfl rfl
  have S3 : Sees K.g K.Λ ρ₂ μ₂ { s₂ with toks := tk } := S2.grown (fun _ _ e => e) rfl
  cases t with
  | false =>
    simp only [Bool.false_eq_true, if_false] at q ⊢
    exact wpAny_pure ⟨ρ₂, μ₂, (st1.trans st2).trans st3, S3, q⟩
  | true =>
    simp only [if_true] at q ⊢
    unfold testChain
    refine wpAny_bind (wpAny_holding (wpAny_mono (hc hA Fr (F2.steps st3 S3) q) (fun vc s₄ h₄ => ?_) fun _ _ e => e))
    obtain ⟨ρ₄, z, μ₄, st4, S4, d4, h4⟩ := h₄
    refine wpAny_bind (wpAny_standAt (wpAny_bind (wpAny_operating (cmp_ok hA S4 ((d2.step0 st3).step0 st4) d4 h4 fun u tk' q' => wpAny_holding (wpAny_truthy_bool ?_)))))
    exact ⟨ρ₄, μ₄, (((st1.trans st2).trans st3).trans st4).trans (Steps.grown (fun _ _ e => e) rfl rfl), S4.grown (fun _ _ e => e) rfl, q'⟩

theorem sndEs_nil : SndEs K sc [] .nil := fun pos hA Fr F h => wpAny_items_nil ⟨_, [], _, Steps.refl _ _ _, F.S, .nil, h⟩
theorem sndEs_cons {x : Expr} {xs : List Expr} {e : CE} {es : CEs} (hx : SndE K sc x e) (hxs : SndEs K sc xs es) (he : ∀ env, starEach (x :: xs) env = (false, eval x env) :: starEach xs env) : SndEs K sc (x :: xs) (.cons e es) := fun pos hA Fr F h => by
  refine wpAny_items_cons (wpAny_mono (hx hA Fr F h) (fun v s₁ h₁ => ?_) fun _ _ e => e) (he _)
  obtain ⟨ρ₁, p, μ₁, st1, S1, d1, h1⟩ := h₁
  refine wpAny_mono (hxs pos hA Fr (F.steps st1 S1) h1) (fun vs s₂ h₂ => ?_) fun _ _ e => e
  obtain ⟨ρ₂, ps, μ₂, st2, S2, d2, h2⟩ := h₂
  exact ⟨ρ₂, p :: ps, μ₂, st1.trans st2, S2, .cons (d1.step0 st2) d2, h2⟩

theorem sndE_tup {xs : List Expr} {es : CEs} {k pos} (h : SndEs K sc xs es) : SndE K sc (.Tuple xs k pos) (.tup es) := fun hA Fr F hw => by
  refine wpAny_Tuple (wpAny_mono (h pos hA Fr F hw) (fun vs s₁ h₁ => ?_) fun _ _ e => e)
  obtain ⟨ρ₁, ps, μ₁, st, S, d, hl, q⟩ := h₁
  exact ⟨by rw [d.len, sizeLine_eq]; (exact Nat.le_trans ‹_› (by decide)), (Out.newTup S rfl d q).after st⟩
theorem sndL_disp {xs : List Expr} {es : CEs} {pos} (h : SndEs K sc xs es) : SndL K sc (.List xs pos) (.disp es) := fun hA Fr F hw => by
  refine wpAny_List (wpAny_mono (h pos hA Fr F hw) (fun vs s₁ h₁ => ?_) fun _ _ e => e)
  obtain ⟨ρ₁, ps, μ₁, st, S, d, hl, q⟩ := h₁
  exact ⟨by rw [d.len, sizeLine_eq]; (exact Nat.le_trans ‹_› (by decide)), (LOut.new S d q).after st⟩

theorem sndE_attr {x : Expr} {e : CE} {f : Nat} {nm : Str} {pos} (hx : SndE K sc x e) (hn : nm = fTab.getD f Str.empty) (hb : ∀ env, attributeBase x nm env (eval x env) = eval x env) : SndE K sc (.Attribute x nm pos) (.attr e f) := fun hA Fr F hw => by
  rw [arm_eval_Attribute, hb]
  refine wpAny_bind (wpAny_mono (hx hA Fr F hw) (fun v s₁ h₁ => ?_) fun _ _ e => e)
  obtain ⟨ρ₁, p, μ₁, st1, S1, d1, h1⟩ := h₁
  subst hn
  refine wpAny_bind (wpAny_standAt (wpAny_bind (wpAny_holding (wpAny_mono (attr_ok (S1.K K.gd) S1 d1 h1) (fun r s₂ h₂ => ?_) fun _ _ e => e))))
  exact wpAny_bind (wpAny_letTemporaryGo (wpAny_pure (h₂.after st1)))

theorem sndE_sub {x i : Expr} {e ei : CE} {pos} (hx : SndE K sc x e) (hi : SndE K sc i ei) (hs : ∀ o v, subscripted i false o v = operate [o, v] (getItem o v)) : SndE K sc (.Subscript x i pos) (.sub e ei) := fun hA Fr F hw => by
  refine Subscript_ (wpAny_mono (hx hA Fr F hw) (fun v s₁ h₁ => ?_) fun _ _ e => e)
  obtain ⟨ρ₁, p, μ₁, st1, S1, d1, h1⟩ := h₁
  refine wpAny_mono (hi hA Fr (F.steps st1 S1) h1) (fun k s₂ h₂ => ?_) fun _ _ e => e
  obtain ⟨ρ₂, q, μ₂, st2, S2, d2, h2⟩ := h₂
  exact aft (sub_ok S2 (d1.step0 st2) d2 h2 hs) (st1.trans st2)

theorem sndP_none : SndP K sc none .cnone := fun hA Fr F h => wpAny_evalPart_none (Out.here F.S .none h)
theorem sndP_some {x : Expr} {e : CE} (h : SndE K sc x e) : SndP K sc (some x) e := fun hA Fr F hw => wpAny_evalPart_some (h hA Fr F hw)

theorem sndE_sli {x : Expr} {lo hi : Option Expr} {e el eh : CE} {pos sp} (hx : SndE K sc x e) (hl : SndP K sc lo el) (hh : SndP K sc hi eh) : SndE K sc (.Subscript x (.Slice lo hi none sp) pos) (.sli e el eh) := fun hA Fr F hw => by
  refine Subscript_ (wpAny_mono (hx hA Fr F hw) (fun v s₁ h₁ => ?_) fun _ _ e => e)
  obtain ⟨ρ₁, p, μ₁, st1, S1, d1, h1⟩ := h₁
  have F1 := F.steps st1 S1
  refine wpAny_Slice (wpAny_mono (hl hA Fr F1 h1) (fun vl s₂ h₂ => ?_) fun _ _ e => e)
  obtain ⟨ρ₂, a, μ₂, st2, S2, d2, h2⟩ := h₂
  have F2 := F1.steps st2 S2
  refine wpAny_mono (hh hA Fr F2 h2) (fun vh s₃ h₃ => ?_) fun _ _ e => e
  obtain ⟨ρ₃, b, μ₃, st3, S3, d3, h3⟩ := h₃
  refine wpAny_evalPart_none ?_
  exact aft (sli_ok S3 ((d1.step0 st2).step0 st3) (d2.step0 st3) d3 h3 fun o i => rfl) ((st1.trans st2).trans st3)

theorem sndE_ite {t a b : Expr} {ct ca cb : CE} {pos} (ht : SndT K sc t ct) (ha : SndE K sc a ca) (hb : SndE K sc b cb) : SndE K sc (.IfExp t a b pos) (.ite ct ca cb) := fun hA Fr F hw => by
  refine wpAny_IfExp (wpAny_mono (ht hA Fr F hw) (fun c s₁ h₁ => ?_) fun _ _ e => e)
  obtain ⟨ρ₁, μ₁, st1, S1, h1⟩ := h₁
  have F1 := F.steps st1 S1
  cases c with
  | true => simp only [if_true] at h1 ⊢; exact aft (ha hA Fr F1 h1) st1
  | false => simp only [Bool.false_eq_true, if_false] at h1 ⊢; exact aft (hb hA Fr F1 h1) st1

theorem sndT_not {a : Expr} {ca : CE} {pos} (ha : SndT K sc a ca) : SndT K sc (.UnaryOp .Not a pos) (.not ca) := fun hA Fr F hw => by
  refine wpAny_isTrue_Not (wpAny_mono (ha hA Fr F hw) (fun c s₁ h₁ => ?_) fun _ _ e => e)
  obtain ⟨ρ₁, μ₁, st1, S1, h1⟩ := h₁
  exact ⟨ρ₁, μ₁, st1, S1, h1⟩

theorem sndA_nil {isAnd : Bool} : SndA K sc isAnd [] .nil := fun hA Fr F hw => by
  cases isAnd
  · exact wpAny_allTrue_Or_nil ⟨_, _, Steps.refl _ _ _, F.S, hw⟩
  · exact wpAny_allTrue_And_nil ⟨_, _, Steps.refl _ _ _, F.S, hw⟩
theorem sndA_cons {isAnd : Bool} {x : Expr} {xs : List Expr} {e : CE} {es : CEs} (hx : SndT K sc x e) (hxs : SndA K sc isAnd xs es) : SndA K sc isAnd (x :: xs) (.cons e es) := fun {A env X ρ μ l s Q} hA Fr F hw => by
  show wpAny _ _ (allTrue (opOf isAnd) (x :: xs) env) _ _ _
  rw [arm_allTrue_cons]
  refine wpAny_bind (wpAny_mono (hx hA Fr F hw) (fun c s₁ h₁ => ?_) fun _ _ e => e)
  obtain ⟨ρ₁, μ₁, st1, S1, h1⟩ := h₁
  have F1 := F.steps st1 S1
  cases isAnd <;> cases c
  · simp only [opOf, Bool.false_eq_true, if_false, if_true] at h1 ⊢
    exact aftT (hxs hA Fr F1 h1) st1
  · simp only [opOf, Bool.false_eq_true, Bool.true_eq_false, if_false] at h1 ⊢
    exact wpAny_pure ⟨ρ₁, μ₁, st1, S1, h1⟩
  · simp only [opOf, Bool.false_eq_true, if_false, if_true] at h1 ⊢
    exact wpAny_pure ⟨ρ₁, μ₁, st1, S1, h1⟩
  · simp only [opOf, if_true] at h1 ⊢
    exact aftT (hxs hA Fr F1 h1) st1
theorem sndT_bop {isAnd : Bool} {op : BoolOp} {xs : List Expr} {es : CEs} {pos} (ho : op = opOf isAnd) (h : SndA K sc isAnd xs es) : SndT K sc (.BoolOp op xs pos) (.bop isAnd es) := fun hA Fr F hw => by
  subst ho
  exact wpAny_isTrue_BoolOp (h hA Fr F hw)

theorem sndB_one {isAnd : Bool} {x : Expr} {e : CE} (hx : SndE K sc x e) : SndB K sc isAnd [x] (.cons e .nil) := fun pos hA Fr F hw => by
  show wpAny _ _ (boolOp pos (opOf isAnd) [eval x _]) _ _ _
  exact hx hA Fr F hw
theorem sndB_cons {isAnd : Bool} {x y : Expr} {xs : List Expr} {e e' : CE} {es : CEs} (hx : SndE K sc x e) (hxs : SndB K sc isAnd (y :: xs) (.cons e' es)) : SndB K sc isAnd (x :: y :: xs) (.cons e (.cons e' es)) := fun {A env X ρ μ l s Q} pos hA Fr F hw => by
  show wpAny _ _ (boolOp pos (opOf isAnd) (eval x env :: eval y env :: evalEach xs env)) _ _ _
  unfold boolOp
  have hw' : wpE K.Φ e l μ fun x μ₁ => ∃ b, truthy x μ₁ = some b ∧ if b = isAnd then wpB K.Φ isAnd (.cons e' es) l μ₁ Q else Q x μ₁ := hw
  refine wpAny_bind (wpAny_mono (hx hA Fr F hw') (fun v s₁ h₁ => ?_) fun _ _ e => e)
  obtain ⟨ρ₁, p, μ₁, st1, S1, d1, b, eb, h1⟩ := h₁
  have F1 := F.steps st1 S1
  refine wpAny_bind (wpAny_standAt (wpAny_bind (wpAny_holding (truthy_ok d1 eb ?_))))
  cases isAnd <;> cases b
  · simp only [opOf, Bool.false_eq_true, if_false, if_true] at h1 ⊢
    exact aft (hxs pos hA Fr F1 h1) st1
  · simp only [opOf, Bool.false_eq_true, Bool.true_eq_false, if_false] at h1 ⊢
    exact wpAny_pure ((Out.here S1 d1 h1).after st1)
  · simp only [opOf, Bool.false_eq_true, if_false, if_true] at h1 ⊢
    exact wpAny_pure ((Out.here S1 d1 h1).after st1)
  · simp only [opOf, if_true] at h1 ⊢
    exact aft (hxs pos hA Fr F1 h1) st1
theorem sndE_bop {isAnd : Bool} {op : BoolOp} {xs : List Expr} {es : CEs} {pos} (ho : op = opOf isAnd) (h : SndB K sc isAnd xs es) : SndE K sc (.BoolOp op xs pos) (.bop isAnd es) := fun hA Fr F hw => by
  subst ho
  rw [arm_eval_BoolOp]
  exact h pos hA Fr F hw

theorem sndT_val {x : Expr} {e : CE} (hx : SndE K sc x e) (hw : ∀ l μ Q, wpT K.Φ e l μ Q → wpE K.Φ e l μ fun x μ₁ => ∃ b, truthy x μ₁ = some b ∧ Q b μ₁)
    (he : ∀ env whole, isTrue x env whole = (do let v ← whole; standAt x.pos; holding [v] (PySem.truthy v))) : SndT K sc x e := fun hA Fr F h => by
  refine wpAny_isTrue_value (wpAny_mono (hx hA Fr F (hw _ _ _ h)) (fun v s₁ h₁ => ?_) fun _ _ e => e) (he _ _)
  obtain ⟨ρ₁, p, μ₁, st1, S1, d1, b, eb, q⟩ := h₁
  exact truthy_ok d1 eb ⟨ρ₁, μ₁, st1, S1, q⟩

theorem wpT_attr {Φ : Phi} {e : CE} {f : Nat} : ∀ l μ Q, wpT Φ (.attr e f) l μ Q → wpE Φ (.attr e f) l μ fun x μ₁ => ∃ b, truthy x μ₁ = some b ∧ Q b μ₁ := fun _ _ _ h => h
theorem wpT_loc {Φ : Phi} {i : Nat} : ∀ l μ Q, wpT Φ (.loc i) l μ Q → wpE Φ (.loc i) l μ fun x μ₁ => ∃ b, truthy x μ₁ = some b ∧ Q b μ₁ := fun _ _ _ h => h
theorem wpT_call {Φ : Phi} {f : CE} {xs : CEs} : ∀ l μ Q, wpT Φ (.call f xs) l μ Q → wpE Φ (.call f xs) l μ fun x μ₁ => ∃ b, truthy x μ₁ = some b ∧ Q b μ₁ := fun _ _ _ h => h
end

/- MExit -/


mutual
inductive Frz (k : Nat) (μ : List AO) : PV → PV → Prop
  | none : Frz k μ .none .none
  | bool (b) : Frz k μ (.bool b) (.bool b)
  | int (i) : Frz k μ (.int i) (.int i)
  | str (c) : Frz k μ (.str c) (.str c)
  | val (v) : Frz k μ (.val v) (.val v)
  | tup {l l'} : Frzs k μ l l' → Frz k μ (.tup l) (.tup l')
  | lst {l l'} : Frzs k μ l l' → Frz k μ (.lst l) (.lst l')
  | inst {C ks l l'} : Frzs k μ l l' → Frz k μ (.inst C ks l) (.inst C ks l')
  | lam {n l l'} : Frzs k μ l l' → Frz k μ (.lam n l) (.lam n l')
  | keep {n} : n < k → Frz k μ (.obj n) (.obj n)
  | olst {n l l'} : k ≤ n → μ[n]? = some (.lst l) → Frzs k μ l l' → Frz k μ (.obj n) (.lst l')
  | oinst {n C ks l l'} : k ≤ n → μ[n]? = some (.inst C ks l) → Frzs k μ l l' → Frz k μ (.obj n) (.inst C ks l')
inductive Frzs (k : Nat) (μ : List AO) : List PV → List PV → Prop
  | nil : Frzs k μ [] []
  | cons {p q ps qs} : Frz k μ p q → Frzs k μ ps qs → Frzs k μ (p :: ps) (q :: qs)
end

inductive FrzO (k : Nat) (μ : List AO) : AO → AO → Prop
  | lst {l l'} : Frzs k μ l l' → FrzO k μ (.lst l) (.lst l')
  | inst {C ks l l'} : Frzs k μ l l' → FrzO k μ (.inst C ks l) (.inst C ks l')

/- what becomes of the first k objects -/
noncomputable def FrzM (k : Nat) (μ₀ μ μ' : List AO) : Prop := μ'.length = k ∧ k ≤ μ.length ∧ ∀ j, j < k → (j < μ₀.length ∧ μ[j]? = μ₀[j]? ∧ μ'[j]? = μ₀[j]?) ∨ ∃ o o', μ[j]? = some o ∧ μ'[j]? = some o' ∧ FrzO k μ o o'

/- an end of a block: objects above k are let go or frozen -/
noncomputable def EndQ (μ₀ : List AO) (Q : Post) (v : PV) (μ : List AO) : Prop := ∃ k v' μ', μ₀.length ≤ k ∧ Frz k μ v v' ∧ FrzM k μ₀ μ μ' ∧ Q v' μ'

noncomputable def exitQ (μ₀ : List AO) (Q : Post) : SPost := fun f _ μ => EndQ μ₀ Q (match f with | .next => .none | .ret v => v) μ

noncomputable abbrev tkn (ρ : Rho) (k : Nat) : Rho := { ρ with objs := ρ.objs.take k }

section
variable {g : Heap} {Λ : List LamT} {ρ : Rho} {μ : List AO} {s s' : Shared}

theorem ofoot_tkn {k : Nat} {b : Addr} (h : b ∈ ofoot (tkn ρ k)) : b ∈ ofoot ρ := by
  obtain ⟨p, hp, hq⟩ := mem_ofoot.mp h
  exact mem_ofoot.mpr ⟨p, List.mem_of_mem_take hp, hq⟩

theorem Safe.tkn {k : Nat} {b : Addr} (h : Safe ρ b) : Safe (tkn ρ k) b := ⟨fun m => h.1 (ofoot_tkn m), h.2⟩

theorem Sees.apartO (S : Sees g Λ ρ μ s) {k n : Nat} {p : Addr × Addr} (hn : k ≤ n) (e : ρ.objs[n]? = some p) : Safe (tkn ρ k) p.1 ∧ Safe (tkn ρ k) p.2 := by
  have m1 : p.1 ∈ ofoot ρ := mem_ofoot.mpr ⟨p, List.mem_of_getElem? e, .inl rfl⟩
  have m2 : p.2 ∈ ofoot ρ := mem_ofoot.mpr ⟨p, List.mem_of_getElem? e, .inr rfl⟩
  have key : ∀ q ∈ ρ.objs.take k, ∃ j, j ≠ n ∧ ρ.objs[j]? = some q := fun q hq => by
    obtain ⟨j, hj⟩ := List.mem_iff_getElem?.mp hq
    rw [List.getElem?_take] at hj
    split at hj
    · exact ⟨j, by lia, hj⟩
    · cases hj
  refine ⟨⟨fun m => ?_, fun m => S.frof _ m m1, fun m => (S.tabof _ m).1 m1⟩, ⟨fun m => ?_, fun m => S.frof _ m m2, fun m => (S.tabof _ m).1 m2⟩⟩
  · obtain ⟨q, hq, he⟩ := mem_ofoot.mp m
    obtain ⟨j, hj, ej⟩ := key q hq
    have d := S.dist n j p q e ej hj.symm
    rcases he with he | he
    · exact d.1 he
    · exact d.2.1 he
  · obtain ⟨q, hq, he⟩ := mem_ofoot.mp m
    obtain ⟨j, hj, ej⟩ := key q hq
    have d := S.dist j n q p ej e hj
    rcases he with he | he
    · exact d.2.1 he.symm
    · exact d.2.2 he.symm

noncomputable def atomP : PV → Bool
  | .none | .bool _ | .int _ | .str _ | .val _ => true
  | _ => false
theorem VDen.atom {ρ' : Rho} {h h' : Heap} {p : PV} {v : Value} (d : VDen Λ ρ h p v) (e : atomP p = true) : VDen Λ ρ' h' p v := by
  cases d <;> first | (simp [atomP] at e; done) | exact .none | exact .bool _ | exact .int _ _ | exact .str _ _ _ (by assumption) | exact .val _
theorem Frzs.head {k : Nat} {p p' : PV} {l l' : List PV} (h : Frzs k μ (p :: l) (p' :: l')) : Frz k μ p p' := by
  cases h with | cons a b => exact a
theorem frzs_den (S : Sees g Λ ρ μ s) {k : Nat} {p p' : List PV} (f : Frzs k μ p p') : ∀ {v : List Value}, VDens Λ ρ s.heap p v → VDens Λ (tkn ρ k) s.heap p' v := by
  refine Frzs.rec (motive_1 := fun p p' _ => ∀ {v : Value}, VDen Λ ρ s.heap p v → VDen Λ (tkn ρ k) s.heap p' v) (motive_2 := fun p p' _ => ∀ {v : List Value}, VDens Λ ρ s.heap p v → VDens Λ (tkn ρ k) s.heap p' v)
    (fun d => d.atom rfl) (fun b v d => d.atom rfl) (fun i v d => d.atom rfl) (fun c v d => d.atom rfl) (fun x v d => d.atom rfl) ?_ ?_ ?_ ?_ ?_ ?_ ?_ ?_ ?_ f
  · intro l l' _ ih v d
    obtain ⟨a, vs, rfl, sa, ht, d⟩ := d.inv
    exact .tup sa.tkn ht (ih d)
  · intro l l' _ ih v d
    obtain ⟨a, vs, rfl, sa, ht, d⟩ := d.inv
    exact .lst sa.tkn ht (ih d)
  · intro C ks l l' _ ih v d
    obtain ⟨_, _, _, rfl, sa, sd, e, hn, d⟩ := d.inv
    exact .inst sa.tkn sd.tkn e hn (ih d)
  · intro n l l' _ ih v d
    obtain ⟨_, _, _, _, _, _, _, _, rfl, e, sf, sc, ec, hq, ef, hl, hl2, hcs, d⟩ := d.inv
    exact .lam e sf.tkn sc.tkn ec hq ef hl hl2 (fun i c v e1 e2 => have ⟨a, b⟩ := hcs i c v e1 e2; ⟨fun m => a (ofoot_tkn m), b⟩) (ih d)
  · intro n hn v d
    obtain ⟨a, dd, rfl, e⟩ := d.inv
    exact .obj (a := a) (d := dd) (by rw [List.getElem?_take, if_pos hn]; exact e)
  · intro n l l' hk hm _ ih v d
    obtain ⟨a, dd, rfl, e⟩ := d.inv
    obtain ⟨hd, vs, hl, dv⟩ := S.objs n (a, dd) _ e hm
    exact .lst (S.apartO hk e).1 hl.isList (ih dv)
  · intro n C ks l l' hk hm _ ih v d
    obtain ⟨a, dd, rfl, e⟩ := d.inv
    obtain ⟨hd, e1, vs, hn, dv⟩ := S.objs n (a, dd) _ e hm
    exact .inst (S.apartO hk e).1 (S.apartO hk e).2 e1 hn.ns (ih dv)
  · intro v d
    rw [d.nil_inv]; exact .nil
  · intro p q ps qs _ _ ih1 ih2 v d
    obtain ⟨x, xs, rfl, d1, d2⟩ := d.cons_inv
    exact .cons (ih1 d1) (ih2 d2)
theorem frz_den (S : Sees g Λ ρ μ s) {k : Nat} {p p' : PV} (f : Frz k μ p p') {v : Value} (d : VDen Λ ρ s.heap p v) : VDen Λ (tkn ρ k) s.heap p' v :=
  (frzs_den S (.cons f .nil) (.cons d .nil)).head

theorem frzs_self {h : Heap} {k : Nat} (hk : ρ.objs.length ≤ k) (μ' : List AO) {p : List PV} {v : List Value} (d : VDens Λ ρ h p v) : Frzs k μ' p p :=
  VDens.rec (motive_1 := fun p _ _ => Frz k μ' p p) (motive_2 := fun p _ _ => Frzs k μ' p p) .none .bool (fun i _ => .int i) (fun c _ _ _ => .str c) .val (fun _ _ _ d => .tup d) (fun _ _ _ d => .lst d) (fun _ _ _ _ _ d => .inst d)
    (fun e => .keep (Nat.lt_of_lt_of_le (List.getElem?_eq_some_iff.mp e).1 hk)) (fun _ _ _ _ _ _ _ _ _ _ d => .lam d) .nil (fun _ _ a b => .cons a b) d
theorem frz_self {h : Heap} {k : Nat} (hk : ρ.objs.length ≤ k) (μ' : List AO) {p : PV} {v : Value} (d : VDen Λ ρ h p v) : Frz k μ' p p :=
  (frzs_self hk μ' (.cons d .nil)).head

theorem Sees.drop {ρ₀ : Rho} {μ₀ μ' : List AO} {s₀ : Shared} {k : Nat} (S0 : Sees g Λ ρ₀ μ₀ s₀) (S : Sees g Λ ρ μ s) (hext : ∃ τ, ρ.objs = ρ₀.objs ++ τ) (hk : μ₀.length ≤ k) (h : FrzM k μ₀ μ μ') : Sees g Λ (tkn ρ k) μ' s where
  base := S.base
  apart := fun b hb => S.apart b (hb.imp ofoot_tkn id)
  frlt := S.frlt
  frof := fun b hb m => S.frof b hb (ofoot_tkn m)
  tabof := fun b hb => ⟨fun m => (S.tabof b hb).1 (ofoot_tkn m), (S.tabof b hb).2⟩
  len := by
    have h1 := S.len
    have h2 := h.1
    have h3 := h.2.1
    show (ρ.objs.take _).length = _
    rw [List.length_take, h1, h2]; (simp [*])
  objs := fun n p o h1 h2 => by
    have h1' : (ρ.objs.take k)[n]? = some p := h1
    rw [List.getElem?_take] at h1'
    split at h1'
    · rename_i hn
      rcases h.2.2 n hn with ⟨hn0, a, b⟩ | ⟨o1, o2, a, b, f⟩
      · rw [b] at h2
        have e2 : μ[n]? = some o := a.trans h2
        obtain ⟨τ, hτ⟩ := hext
        have hp0 : ρ₀.objs[n]? = some p := by
          rw [hτ, List.getElem?_append_left (by rw [S0.len]; exact hn0)] at h1'; exact h1'
        have d0 := S0.objs n p o hp0 h2
        have d := S.objs n p o h1' e2
        have hk0 : ρ₀.objs.length ≤ k := by rw [S0.len]; exact hk
        cases o with
        | lst l =>
          obtain ⟨_, _, _, dv0⟩ := d0
          obtain ⟨q1, vs, q2, dv⟩ := d
          exact ⟨q1, vs, q2, frzs_den S (frzs_self hk0 μ dv0) dv⟩
        | inst C ks l =>
          obtain ⟨_, _, _, _, dv0⟩ := d0
          obtain ⟨q1, q2, vs, q3, dv⟩ := d
          exact ⟨q1, q2, vs, q3, frzs_den S (frzs_self hk0 μ dv0) dv⟩
      · rw [b] at h2; cases h2
        have d := S.objs n p o1 h1' a
        cases f with
        | lst f =>
          obtain ⟨q1, vs, q2, dv⟩ := d
          exact ⟨q1, vs, q2, frzs_den S f dv⟩
        | inst f =>
          obtain ⟨q1, q2, vs, q3, dv⟩ := d
          exact ⟨q1, q2, vs, q3, frzs_den S f dv⟩
    · cases h1'
  dist := fun n m p q h1 h2 hnm => by
    have h1' : (ρ.objs.take k)[n]? = some p := h1
    have h2' : (ρ.objs.take k)[m]? = some q := h2
    rw [List.getElem?_take] at h1' h2'
    split at h1'
    · split at h2'
      · exact S.dist n m p q h1' h2' hnm
      · cases h2'
    · cases h1'
  tabs := fun P hP => by
    obtain ⟨ps, e, t, q⟩ := S.tabs P hP
    refine ⟨ps, e, t, fun L hL hp => (q L hL hp).imp id ?_⟩
    rintro ⟨c', oc, e1, e2, r⟩
    exact ⟨c', oc, e1, e2.tkn, r⟩
  gens := S.gens

theorem exit_out {ρ₀ : Rho} {μ₀ : List AO} {s₀ : Shared} (S0 : Sees g Λ ρ₀ μ₀ s₀) (st : Steps [] ρ₀ s₀ ρ s) (S : Sees g Λ ρ μ s) {p : PV} {v : Value} (d : VDen Λ ρ s.heap p v) {Q : Post} (h : EndQ μ₀ Q p μ) :
    Out g Λ ρ₀ s₀ Q v s := by
  obtain ⟨k, p', μ', hk, f, h, q⟩ := h
  obtain ⟨τ, e, hτ⟩ := st.ext
  refine ⟨tkn ρ k, p', μ', ⟨st.frs, ⟨τ.take (k - ρ₀.objs.length), ?_, fun p hp => hτ p (List.mem_of_mem_take hp)⟩, st.keep, st.live, st.os, st.gens⟩, S0.drop S ⟨τ, e⟩ hk h, frz_den S f d, q⟩
  show ρ.objs.take k = _
  rw [e, List.take_append]
  have : ρ₀.objs.length ≤ k := by rw [S0.len]; exact hk
  rw [List.take_of_length_le this]
end

/- MFun -/


theorem bindL_skip {k : Str → Option NameKind} : ∀ {r : List (Str × Value)} {m : Str → Option Value} {y : Str}, (∀ p ∈ r, p.1 ≠ y) → bindL k r m y = m y
  | [], _, _, _ => rfl
  | (n, v) :: r, m, y, h => by
    unfold bindL
    rw [bindL_skip fun p hp => h p (.tail _ hp)]
    split
    · exact if_neg (fun (e : y = n) => h (n, v) (.head _) e.symm)
    · rfl
theorem bindC_skip {k : Str → Option NameKind} : ∀ {r : List (Str × Value)} {m : Str → Option Value} {y : Str}, (∀ p ∈ r, p.1 ≠ y) → bindC k r m y = m y
  | [], _, _, _ => rfl
  | (n, v) :: r, m, y, h => by
    unfold bindC
    rw [bindC_skip fun p hp => h p (.tail _ hp)]
    split
    · rfl
    · exact if_neg (fun (e : y = n) => h (n, v) (.head _) e.symm)
theorem zip_ne {ps : List Str} {vals : List Value} {y : Str} (h : y ∉ ps) : ∀ p ∈ ps.zip vals, p.1 ≠ y := fun p hp e => h (by
  have := (List.of_mem_zip hp).1
  rwa [e] at this)
theorem bindL_get {k : Str → Option NameKind} : ∀ {ps : List Str} {vals : List Value} {m : Str → Option Value} {i : Nat} {y : Str} {v : Value}, ps.Nodup → ps[i]? = some y → vals[i]? = some v → k y = some .local → bindL k (ps.zip vals) m y = some v
  | [], _, _, _, _, _, _, e, _, _ => by simp at e
  | _ :: _, [], _, _, _, _, _, _, e, _ => by simp at e
  | p :: ps, u :: us, m, 0, y, v, hn, e1, e2, hk => by
    simp at e1 e2; subst e1 e2
    show bindL k ((p, u) :: ps.zip us) m p = _
    unfold bindL
    rw [bindL_skip (zip_ne (List.nodup_cons.mp hn).1), if_pos hk, if_pos rfl]
  | p :: ps, u :: us, m, i + 1, y, v, hn, e1, e2, hk => by
    simp at e1 e2
    show bindL k ((p, u) :: ps.zip us) m y = _
    unfold bindL
    exact bindL_get (List.nodup_cons.mp hn).2 e1 e2 hk
theorem bindC_get {k : Str → Option NameKind} : ∀ {ps : List Str} {vals : List Value} {m : Str → Option Value} {i : Nat} {y : Str} {v : Value}, ps.Nodup → ps[i]? = some y → vals[i]? = some v → k y ≠ some .local → bindC k (ps.zip vals) m y = some v
  | [], _, _, _, _, _, _, e, _, _ => by simp at e
  | _ :: _, [], _, _, _, _, _, _, e, _ => by simp at e
  | p :: ps, u :: us, m, 0, y, v, hn, e1, e2, hk => by
    simp at e1 e2; subst e1 e2
    show bindC k ((p, u) :: ps.zip us) m p = _
    unfold bindC
    rw [bindC_skip (zip_ne (List.nodup_cons.mp hn).1), if_neg hk, if_pos rfl]
  | p :: ps, u :: us, m, i + 1, y, v, hn, e1, e2, hk => by
    simp at e1 e2
    show bindC k ((p, u) :: ps.zip us) m y = _
    unfold bindC
    exact bindC_get (List.nodup_cons.mp hn).2 e1 e2 hk

theorem cellsFrom_some : ∀ {names : List (Str × NameKind)} {n : Nat} {acc : List (Str × Addr)} {x : Str}, (x, NameKind.cell) ∈ names ∨ (∃ c, acc.lookup x = some c) → ∃ c, (cellsFrom n names acc).lookup x = some c
  | [], n, acc, x, h => h.elim (fun m => by cases m) id
  | (name, kind) :: r, n, acc, x, h => by
    unfold cellsFrom
    by_cases hk : (kind == NameKind.cell) = true
    · rw [if_pos hk]
      refine cellsFrom_some ?_
      by_cases hx : (x == name) = true
      · exact .inr ⟨n, by rw [List.lookup_cons, hx]⟩
      · have hx' : (x == name) = false := by simpa using hx
        rcases h with m | ⟨c, hc⟩
        · cases m with
          | head => simp at hx'
          | tail _ m => exact .inl m
        · exact .inr ⟨c, by rw [List.lookup_cons, hx']; exact hc⟩
    · rw [if_neg hk]
      refine cellsFrom_some (h.imp (fun m => ?_) id)
      cases m with
      | head => exact absurd rfl hk
      | tail _ m => exact m

/- a def's block -/
structure FnSc (scope : Scope) (sc : Sc) (ps : List Str) : Prop where
  ks : sc.ks = scope.names
  kind : scope.kind = .function
  noFree : ∀ x ∈ scope.names, x.2 ≠ .free
  nd : sc.ns.Nodup
  pre : ∃ r, sc.ns = ps ++ r
  kinds : ∀ x ∈ ps, scope.names.lookup x = some .local ∨ scope.names.lookup x = some .cell

theorem Room.deeper {n : Nat} {A : Around} (h : Room (n + 1) A) (env : Env) : Room n (A.deeper env) := ⟨h.hand, by have := h.deep; show A.depth + 1 + _ + _ < _; omega, by have := h.units; show A.units + 3 + _ + _ < _; lia⟩

noncomputable def argL (xs : List PV) (n : Nat) : Lc := xs.map some ++ List.replicate (n - xs.length) none

theorem argL_some {xs : List PV} {n i : Nat} {p : PV} (h : (argL xs n)[i]? = some (some p)) : xs[i]? = some p := by
  unfold argL at h
  by_cases hi : i < xs.length
  · rw [List.getElem?_append_left (by simpa using hi)] at h
    rw [List.getElem?_map] at h
    cases e : xs[i]? with
    | none => rw [e] at h; simp at h
    | some q => rw [e] at h; simpa using h
  · rw [List.getElem?_append_right (by simp; (exact Nat.not_lt.mp ‹_›)), List.getElem?_replicate] at h
    split at h <;> simp at h
theorem argL_none {xs : List PV} {n i : Nat} (h : (argL xs n)[i]? = some none) : xs.length ≤ i := by
  unfold argL at h
  by_cases hi : i < xs.length
  · rw [List.getElem?_append_left (by simpa using hi), List.getElem?_map] at h
    rw [List.getElem?_eq_getElem hi] at h; simp at h
  · (exact Nat.not_lt.mp ‹_›)

theorem fn_enter {K : Cx} {sc : Sc} {ps : List Str} {f : Addr} {name qual : Str} {params : Arguments} {body : List Stmt} {scope : Scope} {dV kV doc pm cdv ct oc : Value} {an od : Option Addr} {osl : Array (Option Value)} {ce : CSs}
    (ho : (KK K.w.params).lookup f = some ⟨oc, od, .func (fnOf name qual params body scope dV kV doc pm an cdv ct), osl⟩) (hcd : codeIn (KK K.w.params) cdv qual = true) (hs : FnSc scope sc ps)
    (hco : scope.isCoroutine = false) (hgen : scope.isGenerator = false) (hb : SndSs K sc body ce) (hcode : ∀ v, sc.code = some v → cdv = v) (hqual : ∀ q, sc.qual = some q → qual ++ ".<locals>." = q)
    {A : Around} {ρ : Rho} {μ : List AO} {s : Shared} {xs : List PV} {vals : List Value} {args : Args} {Q : Post} (hA : Room (K.n + 1) A) (S : Sees K.g K.Λ ρ μ s) (d : VDens K.Λ ρ s.heap xs vals) (hlen : xs.length = ps.length)
    (hbind : BindsTo s (fnOf name qual params body scope dV kV doc pm an cdv ct) args (ps.zip vals)) (hw : wpSs K.Φ ce (argL xs sc.ns.length) μ (exitQ μ Q)) :
    codeAny (model K.prog K.w) A (.call (.ref f) args) (fun r s' => match r with | .ok (.ret v) => Out K.g K.Λ ρ s Q v s' | .ok _ => False | .error e => NoE e s') s := by
  have hX := S.K K.gd
  obtain ⟨mg, mb, pp, loose, mean, T⟩ := K.gd.top
  have hlim : s.heap.NoLimit := T.nolimit.keeps S.base
  have hn0 : ps.Nodup := by
    obtain ⟨r, hr⟩ := hs.pre
    have := hs.nd
    rw [hr] at this
    exact (List.nodup_append.mp this).1
  have vlen : vals.length = ps.length := by rw [d.len, hlen]
  refine codeAny_call_function (fd := fnOf name qual params body scope dV kV doc pm an cdv ct) (body := body) hA.depth (hX _ _ ho) rfl hco hgen rfl (codeRec_of hX hcd) (hbind _ _ _ _ ?_)
  refine wpAny_newFunctionEnv_cells hs.kind (fun x hx => ?_) fun env he s₁ IC => ?_
  · have hm : x.1 ∈ ps := (List.of_mem_zip hx).1
    rcases hs.kinds x.1 hm with h | h
    · exact .inl h
    · obtain ⟨c, hc⟩ := cellsFrom_some (n := s.heap.objs.size + 1) (acc := []) (.inl (mem_of_lookup' h))
      exact .inr ⟨h, by rw [hc]; rfl⟩
  · refine ⟨hlim.keeps IC.toInCall.keep, codeAny_func ?_⟩
    have hko : ∀ y, env.kindOf y = scope.names.lookup y := fun y => by rw [he]; rfl
    have hcells : env.cells = cellsFrom (s.heap.objs.size + 1) scope.names [] := by rw [he]; rfl
    have hloc : env.locals = s.heap.objs.size := by rw [he]; rfl
    let X : List Addr := env.locals :: scope.names.filterMap fun x => env.cells.lookup x.1
    have cne : ∀ y c, env.cells.lookup y = some c → c ≠ env.locals := fun y c e => Nat.ne_of_gt (IC.above y c (mem_of_lookup' e))
    have celX : ∀ y c, sc.ks.lookup y = some .cell → env.cells.lookup y = some c → c ∈ X := fun y c h e => .tail _ (List.mem_filterMap.mpr ⟨(y, .cell), by rw [hs.ks] at h; exact mem_of_lookup' h, e⟩)
    have Xc : ∀ b ∈ X, b = env.locals ∨ ∃ y, env.cells.lookup y = some b := fun b hb => by
      rcases List.mem_cons.mp hb with rfl | hb
      · exact .inl rfl
      · obtain ⟨p, _, e⟩ := List.mem_filterMap.mp hb
        exact .inr ⟨_, e⟩
    have hXf : ∀ b ∈ X, s.heap.get? b = none := fun b hb => by
      rcases Xc b hb with rfl | ⟨y, e⟩
      · rw [hloc]; exact new_own _ (Nat.le_refl _)
      · have := IC.above y b (mem_of_lookup' e)
        rw [hloc] at this
        exact new_own _ (Nat.le_of_lt this)
    have hXl : ∀ b ∈ X, ∃ o, s₁.heap.get? b = some o := fun b hb => by
      rcases Xc b hb with rfl | ⟨y, e⟩
      · obtain ⟨o, _, _, h, _⟩ := IC.toInCall.ns; exact ⟨o, h⟩
      · obtain ⟨o, h, _⟩ := IC.cell y b e; exact ⟨o, h⟩
    have hk : ∀ b o, s.heap.get? b = some o → s₁.heap.get? b = some o := IC.toInCall.keep
    obtain ⟨h₁, tk₁, hs1⟩ := IC.toInCall.same
    have hos : s₁.os = s.os := by rw [hs1]
    have hg : s₁.gens = s.gens := by rw [hs1]
    have S1 : Sees K.g K.Λ { ρ with frs := X ++ ρ.frs } μ s₁ := S.fresh hk hg hXf hXl
    have d1 : VDens K.Λ { ρ with frs := X ++ ρ.frs } s₁.heap xs vals := d.fresh hk hXf
    obtain ⟨r, hr⟩ := hs.pre
    have nsI : ∀ i y, sc.ns[i]? = some y → i < ps.length → ps[i]? = some y := fun i y e hi => by
      rw [hr, List.getElem?_append_left hi] at e; exact e
    have notP : ∀ i y, sc.ns[i]? = some y → ps.length ≤ i → y ∉ ps := fun i y e hi m => by
      obtain ⟨j, hj⟩ := List.mem_iff_getElem?.mp m
      have hjl : j < ps.length := (List.getElem?_eq_some_iff.mp hj).1
      have : sc.ns[j]? = some y := by rw [hr, List.getElem?_append_left hjl]; exact hj
      have := nodup_get hs.nd e this
      lia
    have Fr : FrOk sc env X := {
      H := {
        kind := by rw [he]; exact hs.kind
        glob := by rw [he]; rfl
        blt := by rw [he]; rfl
        kl := fun y h => by rw [hko, ← hs.ks]; exact h
        kg := fun y h => by rw [hko, ← hs.ks]; exact h
        kc := fun y h => by rw [hko, ← hs.ks]; exact h
        ke := fun y h => by rw [hko, ← hs.ks]; exact h
        nd := hs.nd
        inj := fun x y c _ e1 e2 => name_of_addr IC.apart (mem_of_lookup' e1) (mem_of_lookup' e2)
        code := fun v h => by rw [he]; exact hcode v h
        qual := fun v h => by rw [he]; exact hqual v h }
      loc := .head _
      cel := celX
      cne := fun y c _ e => cne y c e }
    have cellOf : ∀ y, sc.ks.lookup y = some .cell → ∃ c, env.cells.lookup y = some c := fun y h => by
      rw [hs.ks] at h
      rw [hcells]; exact cellsFrom_some (.inl (mem_of_lookup' h))
    have L1 : LocOk K.Λ { ρ with frs := X ++ ρ.frs } sc env (argL xs sc.ns.length) s₁.heap := by
      refine ⟨List.mem_append_left _ (.head _), ⟨_, IC.toInCall.ns, fun i y p e1 e2 e3 => ?_⟩, fun i y p e1 e2 e3 => ?_, fun i y e1 e2 e3 => ?_⟩
      · have hx := argL_some e2
        obtain ⟨v, ev, dv⟩ := d1.get hx
        have hi : i < ps.length := by rw [← hlen]; exact (List.getElem?_eq_some_iff.mp hx).1
        exact ⟨v, bindL_get hn0 (nsI i y e1 hi) ev (by rw [hko, ← hs.ks]; exact e3), dv⟩
      · have hx := argL_some e2
        obtain ⟨v, ev, dv⟩ := d1.get hx
        have hi : i < ps.length := by rw [← hlen]; exact (List.getElem?_eq_some_iff.mp hx).1
        have e3' : sc.ks.lookup y = some .cell := e3.elim id fun h => by rw [hs.ks] at h; exact absurd rfl (hs.noFree _ (mem_of_lookup' h))
        obtain ⟨c, hc⟩ := cellOf y e3'
        have hcX := celX y c e3' hc
        have hcell := IC.cell y c hc
        rw [bindC_get hn0 (nsI i y e1 hi) ev (by rw [hko, ← hs.ks, e3']; decide)] at hcell
        exact ⟨c, v, hc, S1.frof c (List.mem_append_left _ hcX), fun m => (S1.tabof c m).2 (List.mem_append_left _ hcX), hcell, dv⟩
      · have hi := argL_none e2
        obtain ⟨c, hc⟩ := cellOf y e3
        have hcell := IC.cell y c hc
        rw [bindC_skip (zip_ne (notP i y e1 (by rw [← hlen]; exact hi)))] at hcell
        exact ⟨c, hc, hcell, List.mem_append_left _ (celX y c e3 hc)⟩
    have F1 : FS K.g K.Λ sc env X { ρ with frs := X ++ ρ.frs } μ (argL xs sc.ns.length) s₁ := ⟨S1, L1, fun b hb => List.mem_append_left _ hb⟩
    refine noE (wpAny_mono (hb (hA.deeper env) Fr F1 hw) (fun fl s₂ h₂ => ?_) fun _ _ e => e)
    obtain ⟨ρ₂, μ₂, l₂, f₂, st, F2, dfl, hend⟩ := h₂
    have hT : ∀ b ∈ ρ.frs, b ∈ ρ₂.frs := fun b hb => by rw [st.frs]; exact List.mem_append_right _ hb
    have S3 : Sees K.g K.Λ { ρ₂ with frs := ρ.frs } μ₂ s₂ := F2.S.pop hT
    have notX : ∀ b o, s.heap.get? b = some o → b ∉ X := fun b o e m => by rw [hXf b m] at e; cases e
    have st3 : Steps [] ρ s { ρ₂ with frs := ρ.frs } s₂ := by
      refine ⟨rfl, ?_, fun b o e h1 h2 _ => ?_, fun b o e => ?_, by rw [st.os, hos], by rw [st.gens, hg]⟩
      · obtain ⟨τ, e, h⟩ := st.ext
        exact ⟨τ, e, fun p hp => ⟨none_back (fun b o e => ⟨o, hk b o e⟩) (h p hp).1, none_back (fun b o e => ⟨o, hk b o e⟩) (h p hp).2⟩⟩
      · exact st.keep b o (hk b o e) h1 h2 fun m => absurd m (notX b o e)
      · exact st.live b o (hk b o e)
    cases dfl with
    | next => exact exit_out S st3 S3 .none hend
    | ret dv => exact exit_out S st3 S3 (dv.pop hT) hend

/- MStm -/


section
variable {prog : Program} {w : World} {A : Around} {n : Nat} {g : Heap} {Λ : List LamT} {ρ ρ₁ ρ' : Rho} {μ μ' : List AO} {s s₁ s₂ s' : Shared} {sc : Sc} {env : Env} {l : Lc} {X T own : List Addr}

theorem FOutF.after {Q : SPost} {f : Flow} (h : FOutF g Λ sc env X ρ₁ s₁ Q f s') (a : Steps X ρ s ρ₁ s₁) : FOutF g Λ sc env X ρ s Q f s' := let ⟨ρ', μ', l', fl, b, r1, r2, r3⟩ := h; ⟨ρ', μ', l', fl, a.trans b, r1, r2, r3⟩
theorem aftF {Q : SPost} {m : Sem Flow} (h : wpAny (model prog w) A m (FOutF g Λ sc env X ρ₁ s₁ Q) NoE s₂) (a : Steps X ρ s ρ₁ s₁) : wpAny (model prog w) A m (FOutF g Λ sc env X ρ s Q) NoE s₂ := wpAny_mono h (fun _ _ q => q.after a) fun _ _ e => e

theorem bind_ok (Fr : FrOk sc env X) (F : FS g Λ sc env X ρ μ l s) (c : Bool) {i : Nat} {y : Str} {p : PV} {v : Value} (e1 : sc.ns[i]? = some y) (hk : sc.ks.lookup y = some (if c = true then .cell else .local)) (hn : c = true → l[i]? = some none) (d : VDen Λ ρ s.heap p v)
    {R : Unit → Shared → Prop} {E : Value → Shared → Prop} (h : ∀ s', Steps X ρ s ρ s' → FS g Λ sc env X ρ μ (l.set i (some p)) s' → (∀ p v, VDen Λ ρ s.heap p v → VDen Λ ρ s'.heap p v) → R () s') :
    wpAny (model prog w) A (storeName env y v) R E s := by
  cases c with
  | false =>
    simp only [Bool.false_eq_true, if_false] at hk
    refine bindLoc_ok Fr F e1 hk d fun h' tk hkb st F' => h _ st F' fun p v d => d.turnFrs (T := [env.locals]) (fun b hb => by rw [List.mem_singleton.mp hb]; exact F.X _ Fr.loc) (locals_nf F) hkb
  | true =>
    simp only [if_true] at hk
    refine bindCell_ok Fr F e1 hk (hn rfl) d fun h' c hc hkb hnf st F' => h _ st F' fun p v d => d.turnFrs (T := [c]) (fun b hb => by rw [List.mem_singleton.mp hb]; exact F.X _ hc) hnf hkb

theorem FS.grow (F : FS g Λ sc env X ρ μ l s) (hk : ∀ b o, s.heap.get? b = some o → s'.heap.get? b = some o) (hos : s'.os = s.os) (hg : s'.gens = s.gens) : FS g Λ sc env X ρ μ l s' :=
  F.steps (Steps.grown hk hos hg) (F.S.grown hk hg)
end

theorem rel_ok {M : Model} {A : Around} {E : Value → Shared → Prop} {vs keep : List Value} {s : Shared} {Q : Unit → Shared → Prop} (h : Q () s) : wpAny M A (release vs keep) Q E s := fun Γ p hΓ => by simpa using h

section
variable {K : Cx} {sc : Sc}

theorem sndSs_nil : SndSs K sc [] .nil := fun hA Fr F h => wpAny_execs_nil ⟨_, _, _, .next, Steps.refl _ _ _, F, .next, h⟩
theorem sndSs_cons {x : Stmt} {xs : List Stmt} {c : CS} {cs : CSs} (hx : SndS K sc x c) (hxs : SndSs K sc xs cs) : SndSs K sc (x :: xs) (.cons c cs) := fun hA Fr F h => by
  refine wpAny_execs_cons (wpAny_mono (hx hA Fr F h) (fun f s₁ h₁ => ?_) fun _ _ e => e)
  obtain ⟨ρ₁, μ₁, l₁, fl, st, F1, dfl, q⟩ := h₁
  cases dfl with
  | next => exact aftF (hxs hA Fr F1 q) st
  | ret d => exact ⟨ρ₁, μ₁, l₁, .ret _, st, F1, .ret d, q⟩

theorem sndS_ret {x : Expr} {e : CE} {pos} (hx : SndE K sc x e) : SndS K sc (.Return (some x) pos) (.ret e) := fun hA Fr F h => by
  refine wpAny_Return_some (wpAny_mono (hx hA Fr F h) (fun v s₁ h₁ => ?_) fun _ _ e => e)
  obtain ⟨ρ₁, p, μ₁, st, S1, d, q⟩ := h₁
  exact ⟨ρ₁, μ₁, _, .ret p, st.wider, F.steps st S1, .ret d, q⟩

theorem sndS_expr {x : Expr} {e : CE} {pos} (hx : SndE K sc x e) (hs : ∀ env, swapsWith x none pos.line env = pure false) : SndS K sc (.Expr x pos) (.expr e) := fun {A env X ρ μ l s Q} hA Fr F h => by
  have hi : interactive env = false := by unfold interactive; rw [Fr.H.kind]; rfl
  refine wpAny_Expr (wpAny_mono (hx hA Fr F h) (fun v s₁ h₁ => ?_) fun _ _ e => e) hi (hs _)
  obtain ⟨ρ₁, p, μ₁, st, S1, d, rfl, q⟩ := h₁
  obtain rfl := d.inv
  exact ⟨ρ₁, μ₁, _, .next, st.wider, F.steps st S1, .next, q⟩

theorem sndS_ite {t : Expr} {a b : List Stmt} {ct : CE} {ca cb : CSs} {pos} (ht : SndT K sc t ct) (ha : SndSs K sc a ca) (hb : SndSs K sc b cb) : SndS K sc (.If t a b pos) (.ite ct ca cb) := fun hA Fr F h => by
  refine wpAny_If (wpAny_mono (ht hA Fr F h) (fun c s₁ h₁ => ?_) fun _ _ e => e)
  obtain ⟨ρ₁, μ₁, st, S1, q⟩ := h₁
  have F1 := F.steps st S1
  cases c with
  | true => simp only [if_true] at q ⊢; exact aftF (ha hA Fr F1 q) st.wider
  | false => simp only [Bool.false_eq_true, if_false] at q ⊢; exact aftF (hb hA Fr F1 q) st.wider

theorem sndS_asg {x : Expr} {y : Str} {i : Nat} {e : CE} {py pos} (c : Bool) (hx : SndE K sc x e) (e1 : sc.ns[i]? = some y) (hk : sc.ks.lookup y = some (if c = true then .cell else .local))
    (hs : ∀ env, EnvOk sc env → swapsWith x (some (.Name y py)) pos.line env = pure false) : SndS K sc (.Assign [.Name y py] x pos) (.asg c i e) := fun hA Fr F h => by
  refine wpAny_Assign_Name (wpAny_mono (hx hA Fr F h) (fun v s₁ h₁ => ?_) fun _ _ e => e) (hs _ Fr.H)
  obtain ⟨ρ₁, p, μ₁, st, S1, d, hc, q⟩ := h₁
  exact bind_ok Fr (F.steps st S1) c e1 hk hc d fun s' st' F' _ => ⟨ρ₁, μ₁, _, .next, st.wider.trans st', F', .next, q⟩

theorem sndS_whil {t : Expr} {body : List Stmt} {ct : CE} {cb : CSs} {pos} (ht : SndT K sc t ct) (hb : SndSs K sc body cb) : SndS K sc (.While t body [] pos) (.whil ct cb) := fun {A env X ρ μ l s Q} hA Fr F h => by
  obtain ⟨n, h⟩ := h
  refine wpAny_While (codeAny_whileLoop (fun k s' => ∃ ρ' μ' l', Steps X ρ s ρ' s' ∧ FS K.g K.Λ sc env X ρ' μ' l' s' ∧ whilGo (fun l μ Q => wpT K.Φ ct l μ Q) (fun l μ Q => wpSs K.Φ cb l μ Q) k l' μ' Q) ?_ n ⟨ρ, μ, l, Steps.refl _ _ _, F, h⟩)
  rintro k s' ⟨ρ', μ', l', st, F', hgo⟩
  cases k with
  | zero => exact hgo.elim
  | succ k =>
    refine noE (wpAny_mono (ht hA Fr F' hgo) (fun c s₁ h₁ => ?_) fun _ _ e => e)
    obtain ⟨ρ₁, μ₁, st1, S1, q⟩ := h₁
    have F1 := F'.steps st1 S1
    cases c with
    | false =>
      simp only [Bool.false_eq_true, if_false] at q ⊢
      exact wpAny_execs_nil ⟨ρ₁, μ₁, l', .next, st.trans st1.wider, F1, .next, q⟩
    | true =>
      simp only [if_true] at q ⊢
      refine noE (wpAny_mono (hb hA Fr F1 q) (fun f s₂ h₂ => ?_) fun _ _ e => e)
      obtain ⟨ρ₂, μ₂, l₂, fl, st2, F2, dfl, q2⟩ := h₂
      have st3 := (st.trans st1.wider).trans st2
      cases dfl with
      | next => exact ⟨k, Nat.lt_succ_self _, ρ₂, μ₂, l₂, st3, F2, q2⟩
      | ret d => exact ⟨ρ₂, μ₂, l₂, .ret _, st3, F2, .ret d, q2⟩

theorem sndS_setA {o x : Expr} {f : Nat} {nm : Str} {eo e : CE} {pa pos} (ho : SndE K sc o eo) (hx : SndE K sc x e) (hn : nm = fTab.getD f Str.empty) (hs : ∀ env, swapsWith x (some (.Attribute o nm pa)) pos.line env = pure false) :
    SndS K sc (.Assign [.Attribute o nm pa] x pos) (.setA eo f e) := fun hA Fr F h => by
  subst hn
  rw [plainObj_exec_Assign_Attribute _ _ _ _ _ (hs _)]
  refine wpAny_bind (wpAny_standAt (wpAny_bind (wpAny_mono (hx hA Fr F h) (fun v s₁ h₁ => ?_) fun _ _ e => e)))
  obtain ⟨ρ₁, p, μ₁, st1, S1, d1, h1⟩ := h₁
  have F1 := F.steps st1 S1
  rw [arm_assign_Attribute]
  refine wpAny_bind (wpAny_bind (wpAny_holding (wpAny_mono (ho hA Fr F1 h1) (fun ov s₂ h₂ => ?_) fun _ _ e => e)))
  obtain ⟨ρ₂, q, μ₂, st2, S2, d2, h2⟩ := h₂
  refine wpAny_bind (wpAny_standAt (wpAny_bind (wpAny_holding (wpAny_mono (setA_ok (S2.K K.gd) S2 d2 (d1.step0 st2) h2) (fun _ s₃ h₃ => ?_) fun _ _ e => e))))
  obtain ⟨μ₃, st3, S3, q3⟩ := h₃
  have st := (st1.trans st2).trans st3
  exact rel_ok (wpAny_pure ⟨ρ₂, μ₃, _, .next, st.wider, F.steps st S3, .next, q3⟩)

theorem sndS_setI {o i x : Expr} {eo ei e : CE} {pa pos} (ho : SndE K sc o eo) (hi : SndE K sc i ei) (hx : SndE K sc x e) (hs : ∀ env, swapsWith x (some (.Subscript o i pa)) pos.line env = pure false) :
    SndS K sc (.Assign [.Subscript o i pa] x pos) (.setI eo ei e) := fun hA Fr F h => by
  refine wpAny_Assign_Subscript (wpAny_mono (hx hA Fr F h) (fun v s₁ h₁ => ?_) fun _ _ e => e) (hs _)
  obtain ⟨ρ₁, p, μ₁, st1, S1, d1, h1⟩ := h₁
  have F1 := F.steps st1 S1
  refine wpAny_mono (ho hA Fr F1 h1) (fun ov s₂ h₂ => ?_) fun _ _ e => e
  obtain ⟨ρ₂, q, μ₂, st2, S2, d2, h2⟩ := h₂
  have F2 := F1.steps st2 S2
  refine wpAny_mono (hi hA Fr F2 h2) (fun iv s₃ h₃ => ?_) fun _ _ e => e
  obtain ⟨ρ₃, r, μ₃, st3, S3, d3, h3⟩ := h₃
  refine wpAny_mono (setI_ok S3 (d2.step0 st3) d3 ((d1.step0 st2).step0 st3) h3) (fun _ s₄ h₄ => ?_) fun _ _ e => e
  obtain ⟨μ₄, st4, S4, q4⟩ := h₄
  have st := ((st1.trans st2).trans st3).trans st4
  exact ⟨ρ₃, μ₄, _, .next, st.wider, F.steps st S4, .next, q4⟩

theorem blockKind_fn {env : Env} (H : EnvOk sc env) : env.blockKind = .function := by unfold Env.blockKind; rw [H.kind]; rfl

noncomputable def isStar (x : Expr) : Bool := PySem.swappedStores.match_5 (fun x => Bool) x (fun v p => true) fun x => false
theorem swapped_two {env : Env} (H : EnvOk sc env) {a b : Str} {pa pb tp vp : Pos} {k1 k2 : Nat} {x y : Expr} (ha : sc.ks.lookup a = some .local) (hb : sc.ks.lookup b = some .local) (hline : (pb.line == pa.line) = true) (hab : (a == b) = false)
    (hst : ([x, y].any isStar) = false) (hf : [x, y].all (foldedForSure 8) = false) (hc : [x, y].all (constantsAlone 8) = false) :
    swappedStores [.Tuple [.Name a pa, .Name b pb] k1 tp] (.Tuple [x, y] k2 vp) env = pure (some [a, b]) := by
  have h1 := H.kl a ha
  have h2 := H.kl b hb
  have hp : (Expr.Name a pa).pos = pa := rfl
  unfold swappedStores
  have hab' : ¬ a = b := by simpa using hab
  have hba : (b == a) = false := by simpa using fun e => hab' e.symm
  have hed : ([a, b] : List Str).eraseDups = [a, b] := by simp [List.eraseDups_cons, hba]
  simp only [blockKind_fn H, hf, hc, List.head?_cons, Option.map_some, Option.getD_some, hp, List.filterMap_cons, List.filterMap_nil, h1, h2, hline, hed, beq_self_eq_true, Bool.and_self, if_true, List.length_cons, List.length_nil]
  refine (if_neg (by decide)).trans ?_
  refine (if_neg (fun q => Bool.noConfusion (hst.symm.trans q))).trans ?_
  refine (if_neg (by decide)).trans ?_
  refine (if_neg (by decide)).trans ?_
  exact if_neg (by decide)

theorem swapped_none {env : Env} (H : EnvOk sc env) {a b : Str} {pa pb tp vp : Pos} {k1 k2 : Nat} {x y : Expr} (ha : sc.ks.lookup a = some .cell ∨ sc.ks.lookup b = some .cell) :
    swappedStores [.Tuple [.Name a pa, .Name b pb] k1 tp] (.Tuple [x, y] k2 vp) env = pure none := by
  unfold swappedStores
  have hlen : (([Expr.Name a pa, Expr.Name b pb].filterMap fun
    | .Name id pos => if (env.kindOf id == some .local && pos.line == (([Expr.Name a pa, Expr.Name b pb].head?.map (·.pos.line)).getD 0)) = true then some id else none
    | _ => none).length != 2) = true := by
    simp only [List.filterMap_cons, List.filterMap_nil]
    rcases ha with h | h
    · have := H.ke a h
      simp only [this]
      split <;> rename_i q
      · split <;> simp
      · simp at q
    · have := H.ke b h
      simp only [this]
      split <;> simp
  simp only [blockKind_fn H]
  split
  · rfl
  · split
    · rfl
    · simp only [List.length_cons, List.length_nil, Nat.zero_add, Nat.reduceAdd] at hlen ⊢
      exact if_pos (by rw [Bool.or_eq_true]; exact .inl hlen)
end

/- MStm2 -/


section
variable {K : Cx} {sc : Sc}

theorem tup2_eval {xa xb : Expr} {ca cb : CE} {k2 : Nat} {vp : Pos} (ha : SndE K sc xa ca) (hb : SndE K sc xb cb) (he1 : ∀ env, starEach [xa, xb] env = (false, eval xa env) :: starEach [xb] env) (he2 : ∀ env, starEach [xb] env = (false, eval xb env) :: starEach [] env)
    {A : Around} {env : Env} {X : List Addr} {ρ : Rho} {μ : List AO} {l : Lc} {s : Shared} {P : PV → PV → List AO → Prop} (hA : Room K.n A) (Fr : FrOk sc env X) (F : FS K.g K.Λ sc env X ρ μ l s) (h : wpE K.Φ ca l μ fun x μ₁ => wpE K.Φ cb l μ₁ fun y μ₂ => P x y μ₂) :
    wpAny (model K.prog K.w) A (eval (.Tuple [xa, xb] k2 vp) env) (fun v s₁ => ∃ ρ₁ x y μ₁ T vx vy, v = .ref T ∧ Steps [] ρ s ρ₁ s₁ ∧ Sees K.g K.Λ ρ₁ μ₁ s₁ ∧ s₁.heap.IsTuple T #[vx, vy] ∧ VDen K.Λ ρ₁ s₁.heap x vx ∧ VDen K.Λ ρ₁ s₁.heap y vy ∧ P x y μ₁) NoE s := by
  refine wpAny_Tuple (wpAny_items_cons (wpAny_mono (ha hA Fr F h) (fun va s₁ h₁ => ?_) fun _ _ e => e) (he1 _))
  obtain ⟨ρ₁, x, μ₁, st1, S1, d1, h1⟩ := h₁
  refine wpAny_items_cons (wpAny_mono (hb hA Fr (F.steps st1 S1) h1) (fun vb s₂ h₂ => ?_) fun _ _ e => e) (he2 _)
  obtain ⟨ρ₂, y, μ₂, st2, S2, d2, h2⟩ := h₂
  refine wpAny_items_nil ⟨by rw [sizeLine_eq]; simp, ?_⟩
  have hk := push_keeps (s := s₂) { cls := .type "tuple", data := .seq (List.toArray [va, vb]) }
  exact ⟨ρ₂, x, y, μ₂, _, va, vb, rfl, (st1.trans st2).trans (Steps.grown hk rfl rfl), S2.grown hk rfl, ⟨_, Heap.get?_push_size _ rfl, rfl, _, rfl⟩, (d1.step0 st2).grown hk, d2.grown hk, h2⟩

theorem sndS_asg2s {xa xb : Expr} {a b : Str} {pa pb tp vp pos : Pos} {k1 k2 i j : Nat} {ca cb : CE} (hxa : SndE K sc xa ca) (hxb : SndE K sc xb cb) (he1 : ∀ env, starEach [xa, xb] env = (false, eval xa env) :: starEach [xb] env) (he2 : ∀ env, starEach [xb] env = (false, eval xb env) :: starEach [] env)
    (e1 : sc.ns[i]? = some a) (e2 : sc.ns[j]? = some b) (ha : sc.ks.lookup a = some .local) (hb : sc.ks.lookup b = some .local) (hline : (pb.line == pa.line) = true) (hab : (a == b) = false)
    (hst : ([xa, xb].any isStar) = false) (hf : [xa, xb].all (foldedForSure 8) = false) (hc : [xa, xb].all (constantsAlone 8) = false) :
    SndS K sc (.Assign [.Tuple [.Name a pa, .Name b pb] k1 tp] (.Tuple [xa, xb] k2 vp) pos) (.asg2 false false i j ca cb) := fun {A env X ρ μ l s Q} hA Fr F h => by
  refine Assign_Tuple_swapped (names := [a, b]) (wpAny_mono (tup2_eval hxa hxb he1 he2 hA Fr F h) (fun v s₁ h₁ => ?_) fun _ _ e => e) rfl (swapped_two Fr.H ha hb hline hab hst hf hc)
  obtain ⟨ρ₁, x, y, μ₁, T, vx, vy, rfl, st1, S1, ht, dx, dy, _, _, q⟩ := h₁
  have F1 := F.steps st1 S1
  refine wpAny_unpackItems_tuple (items := #[vx, vy]) hA.hand ht fun h' hx => ?_
  have hk : ∀ b o, s₁.heap.get? b = some o → h'.get? b = some o := fun b o e => hx b o (fun q => Nat.lt_irrefl s₁.heap.objs.size (by have := Heap.lt_size e; rw [q] at this; exact this)) e
  have st2 : Steps [] ρ₁ s₁ ρ₁ { s₁ with heap := h' } := Steps.grown hk rfl rfl
  have F2 : FS K.g K.Λ sc env X ρ₁ μ₁ l { s₁ with heap := h' } := F1.grow hk rfl rfl
  have hij : i ≠ j := fun e => by
    subst e; rw [e1] at e2; cases e2; simp at hab
  show wpAny _ _ (assignInOrder [bindName env b, bindName env a] [vy, vx]) _ _ _
  refine assignInOrder_cons (wpAny_bindName (bind_ok Fr F2 false e2 hb (by simp) (dy.grown hk) fun s₃ st3 F3 m3 => ?_))
  refine assignInOrder_cons (wpAny_bindName (bind_ok Fr F3 false e1 ha (by simp) (m3 _ _ (dx.grown hk)) fun s₄ st4 F4 m4 => assignInOrder_nil ?_))
  refine ⟨ρ₁, μ₁, _, .next, ((st1.wider.trans st2.wider).trans st3).trans st4, F4, .next, ?_⟩
  rw [List.set_comm _ _ hij.symm]; exact q

theorem sndS_asg2 {xa xb : Expr} {a b : Str} {pa pb tp vp pos : Pos} {k1 k2 i j : Nat} {ca cb : CE} (c d : Bool) (hxa : SndE K sc xa ca) (hxb : SndE K sc xb cb) (he1 : ∀ env, starEach [xa, xb] env = (false, eval xa env) :: starEach [xb] env) (he2 : ∀ env, starEach [xb] env = (false, eval xb env) :: starEach [] env)
    (e1 : sc.ns[i]? = some a) (e2 : sc.ns[j]? = some b) (ha : sc.ks.lookup a = some (if c = true then .cell else .local)) (hb : sc.ks.lookup b = some (if d = true then .cell else .local)) (hcd : c = true ∨ d = true) (hab : (a == b) = false) :
    SndS K sc (.Assign [.Tuple [.Name a pa, .Name b pb] k1 tp] (.Tuple [xa, xb] k2 vp) pos) (.asg2 c d i j ca cb) := fun {A env X ρ μ l s Q} hA Fr F h => by
  refine Assign_Tuple (wpAny_mono (tup2_eval hxa hxb he1 he2 hA Fr F h) (fun v s₁ h₁ => ?_) fun _ _ e => e) rfl (swapped_none Fr.H (hcd.imp (fun e => by rw [ha, e]; rfl) fun e => by rw [hb, e]; rfl))
  obtain ⟨ρ₁, x, y, μ₁, T, vx, vy, rfl, st1, S1, ht, dx, dy, hn1, hn2, q⟩ := h₁
  have F1 := F.steps st1 S1
  refine wpAny_assign_Tuple (items := #[vx, vy]) hA.hand ht rfl rfl fun h' hx => ?_
  have hk : ∀ b o, s₁.heap.get? b = some o → h'.get? b = some o := fun b o e => hx b o (fun q => Nat.lt_irrefl s₁.heap.objs.size (by have := Heap.lt_size e; rw [q] at this; exact this)) e
  have st2 : Steps [] ρ₁ s₁ ρ₁ { s₁ with heap := h' } := Steps.grown hk rfl rfl
  have F2 : FS K.g K.Λ sc env X ρ₁ μ₁ l { s₁ with heap := h' } := F1.grow hk rfl rfl
  have hij : i ≠ j := fun e => by
    subst e; rw [e1] at e2; cases e2; simp at hab
  show wpAny _ _ (assignInOrder [assign (.Name a pa) env, assign (.Name b pb) env] [vx, vy]) _ _ _
  refine assignInOrder_cons (wpAny_assign_Name (bind_ok Fr F2 c e1 ha hn1 (dx.grown hk) fun s₃ st3 F3 m3 => ?_))
  refine assignInOrder_cons (wpAny_assign_Name (bind_ok Fr F3 d e2 hb (fun e => by rw [List.getElem?_set_ne hij]; exact hn2 e) (m3 _ _ (dy.grown hk)) fun s₄ st4 F4 m4 => assignInOrder_nil ?_))
  exact ⟨ρ₁, μ₁, _, .next, ((st1.wider.trans st2.wider).trans st3).trans st4, F4, .next, q⟩
end

/- MCall -/


/- plain arguments -/
structure ArgsOk (xs : List Expr) (es : CEs) : Prop where
  plain : ∀ pos env, ((backTo pos (starEach xs env)).any (·.1)) = false
  shape : (xs = [] ∧ es = .nil) ∨ ∀ pos env, ∃ y r, backTo pos (starEach xs env) = (false, y) :: r

theorem mTab_apart : ∀ m, m < mTab.length → ∀ f, f < fTab.length → mTab.getD m Str.empty ≠ fTab.getD f Str.empty := by decide +kernel
theorem nsOf_mTab {m : Nat} (hm : m < mTab.length) : ∀ (ks : List Nat) (vs : List Value), nsOf ks vs (mTab.getD m Str.empty) = none
  | [], _ => rfl
  | _ :: _, [] => rfl
  | k :: ks, v :: vs => by
    unfold nsOf
    rw [if_neg, nsOf_mTab hm ks vs]
    intro e
    have hk : k < fTab.length := (List.getElem?_eq_some_iff.mp e).1
    rw [fTab_get hk] at e
    exact mTab_apart m hm k hk (Option.some.inj e).symm

noncomputable def methOk (P : Params) : Bool := methTab.all fun p => findIn (KK P) (.ref p.1.1) (mTab.getD p.1.2 Str.empty) == some (some (.ref p.2)) && typeIn (KK P) (.ref p.2) == some (.type "function") &&
  findIn (KK P) (.ref p.1.1) "__getattribute__" == some (some (.builtin "object.__getattribute__")) && findIn (KK P) (.ref p.1.1) "__getattr__" == some none && decide (p.1.2 < mTab.length)
theorem meth_ok (P : Params) : methOk P = true := by kernel_rfl

section
variable {K : Cx} {sc : Sc}

theorem evalArgs_ok {xs : List Expr} {es : CEs} (h : SndEs K sc xs es) (hx : ArgsOk xs es) {A : Around} {env : Env} {X : List Addr} {ρ : Rho} {μ : List AO} {l : Lc} {s : Shared} {Q : List PV → List AO → Prop} {f : Value} (pos : Pos)
    (hA : Room K.n A) (Fr : FrOk sc env X) (F : FS K.g K.Λ sc env X ρ μ l s) (hw : wpEs K.Φ es l μ Q) : wpAny (model K.prog K.w) A (evalArgs f true (backTo pos (starEach xs env)) []) (fun a s₁ => a.kw = [] ∧ EsOut K.g K.Λ ρ s Q a.pos s₁) NoE s := by
  rcases hx.shape with ⟨rfl, rfl⟩ | hsh
  · exact evalArgs_nil3 ⟨rfl, ρ, [], μ, Steps.refl _ _ _, F.S, .nil, hw⟩
  · have h1 := h pos hA Fr F hw
    obtain ⟨y, r, e⟩ := hsh pos env
    rw [e] at h1 ⊢
    exact Calls.evalArgs_plain (wpAny_mono h1 (fun vs s' q => ⟨rfl, q⟩) fun _ _ e => e)

/- a call of a value, its arguments evaluated -/
theorem callWith_ok {xs : List Expr} {es : CEs} (h : SndEs K sc xs es) (hx : ArgsOk xs es) {A : Around} {env : Env} {X : List Addr} {ρ : Rho} {μ : List AO} {l : Lc} {s : Shared} {Q : List PV → List AO → Prop} {R : Value → Shared → Prop} {f : Value} {first : List Value} {pos : Pos} {P : Heap → Prop}
    (hA : Room K.n A) (Fr : FrOk sc env X) (F : FS K.g K.Λ sc env X ρ μ l s) (hw : wpEs K.Φ es l μ Q)
    (hk : ∀ h, P h → ∃ k, (k = Keeper.frame ∨ k = Keeper.machine ∨ k = Keeper.boundFrame) ∧ Looks (model K.prog K.w) h (keeperOf f) k)
    (hc : ∀ ρ' vs μ' vals s', Steps [] ρ s ρ' s' → Sees K.g K.Λ ρ' μ' s' → VDens K.Λ ρ' s'.heap vs vals → Q vs μ' → P s'.heap ∧ wpAny (model K.prog K.w) A (call f (first ++ vals)) R NoE s') :
    wpAny (model K.prog K.w) A (callWith pos f first (backTo pos (starEach xs env)) []) R NoE s := by
  refine callWith_of (P := P) (by rw [hx.plain]; rfl) hk (wpAny_mono (evalArgs_ok h hx pos hA Fr F hw) (fun a s₁ h₁ => ?_) fun _ _ e => e)
  obtain ⟨e, ρ', vs, μ', st, S, d, q⟩ := h₁
  obtain ⟨h1, h2⟩ := hc ρ' vs μ' a.pos s₁ st S d q
  rw [e]
  exact ⟨h1, h2⟩

theorem keep_machine {f : Value} (hf : keeperOf f = pure .machine) : ∀ h, True → ∃ k, (k = Keeper.frame ∨ k = Keeper.machine ∨ k = Keeper.boundFrame) ∧ Looks (model K.prog K.w) h (keeperOf f) k := fun h _ => ⟨.machine, .inr (.inl rfl), Looks.of_pure hf⟩

theorem keep_lam {h : Heap} {Λ : List LamT} {ρ : Rho} {k : Nat} {cap : List PV} {v : Value} (d : VDen Λ ρ h (.lam k cap) v) : ∀ h', (∀ b o, h.get? b = some o → Safe ρ b → h'.get? b = some o) → ∃ k, (k = Keeper.frame ∨ k = Keeper.machine ∨ k = Keeper.boundFrame) ∧ Looks (model K.prog K.w) h' (keeperOf v) k := by
  intro h' hk
  obtain ⟨_, _, _, _, _, _, _, _, rfl, e, sf, sc, ec, hq, ef, hl, hl2, hcs, d⟩ := d.inv
  refine ⟨.frame, .inl rfl, (Looks.ld (part := none) (hk _ _ ef sf)).andThen ?_⟩
  unfold kla_obj
  exact .now

/- calls of lambdas: what is to be shown for the lambdas in use -/
noncomputable def LamOk (K : Cx) : Prop := ∀ {A : Around} {ρ : Rho} {μ : List AO} {s : Shared} {k : Nat} {cap xs : List PV} {f : Value} {vals : List Value} {Q : Post}, Room K.n A → Sees K.g K.Λ ρ μ s → VDen K.Λ ρ s.heap (.lam k cap) f → VDens K.Λ ρ s.heap xs vals → callP K.Φ (.lam k cap) xs μ Q →
  wpAny (model K.prog K.w) A (call f vals) (Out K.g K.Λ ρ s Q) NoE s

theorem call1 {Λ : List LamT} {ρ : Rho} {h : Heap} {x : PV} {vals : List Value} (d : VDens Λ ρ h [x] vals) : ∃ v, vals = [v] ∧ VDen Λ ρ h x v := by
  obtain ⟨_, _, rfl, d1, d2⟩ := d.cons_inv
  obtain rfl := d2.nil_inv
  exact ⟨_, rfl, d1⟩
theorem call2 {Λ : List LamT} {ρ : Rho} {h : Heap} {x y : PV} {vals : List Value} (d : VDens Λ ρ h [x, y] vals) : ∃ v u, vals = [v, u] ∧ VDen Λ ρ h x v ∧ VDen Λ ρ h y u := by
  obtain ⟨_, _, rfl, d1, d2⟩ := d.cons_inv
  obtain ⟨u, rfl, d3⟩ := call1 d2
  exact ⟨_, u, rfl, d1, d3⟩

theorem builtin_ok (hL : LamOk K) {A : Around} {ρ : Rho} {μ : List AO} {s : Shared} {p : PV} {f : Value} {xs : List PV} {vals : List Value} {Q : Post} (hA : Room K.n A) (S : Sees K.g K.Λ ρ μ s) (df : VDen K.Λ ρ s.heap p f) (d : VDens K.Λ ρ s.heap xs vals) (h : callP K.Φ p xs μ Q) :
    wpAny (model K.prog K.w) A (call f vals) (Out K.g K.Λ ρ s Q) NoE s := by
  cases p with
  | val v =>
    obtain rfl := df.inv
    cases f with
    | ref a => exact K.phi hA S d h
    | builtin id =>
      unfold callP at h
      dsimp only at h
      split at h
      · rename_i e; subst e
        obtain ⟨x, rfl, h⟩ := h
        obtain ⟨v, rfl, dv⟩ := call1 d
        exact len_ok S dv h
      · split at h
        · rename_i e; subst e
          rcases h with ⟨i, j, rfl, q⟩ | ⟨l, is, rfl, e1, e2, q⟩
          · obtain ⟨v, u, rfl, d1, d2⟩ := call2 d
            obtain ⟨_, rfl⟩ := d1.inv; obtain ⟨_, rfl⟩ := d2.inv
            exact max2_ok hA.hand S q
          · obtain ⟨v, rfl, dv⟩ := call1 d
            exact max_ok hA.hand S dv e1 e2 q
        · split at h
          · rename_i e; subst e
            obtain ⟨l, is, rfl, e1, q⟩ := h
            obtain ⟨v, rfl, dv⟩ := call1 d
            exact sum_ok hA.hand S dv e1 q
          · exact h.elim
    | type id =>
      unfold callP at h
      dsimp only at h
      split at h
      · rename_i e; subst e
        obtain ⟨x, l, rfl, e1, hz, q⟩ := h
        obtain ⟨v, rfl, dv⟩ := call1 d
        exact list_ok S dv e1 hz q
      · split at h
        · rename_i e; subst e
          obtain ⟨x, l, rfl, e1, hz, q⟩ := h
          obtain ⟨v, rfl, dv⟩ := call1 d
          exact tuple_ok S dv e1 hz q
        · split at h
          · rename_i e; subst e
            obtain ⟨i, rfl, q⟩ := h
            obtain ⟨v, rfl, dv⟩ := call1 d
            obtain ⟨_, rfl⟩ := dv.inv
            exact call_int_int (Out.here S (.int _ _) q)
          · exact h.elim
    | _ => exact h.elim
  | lam k cap => exact hL hA S df d h
  | _ => exact h.elim

noncomputable def KeepP (M : Model) (f : Value) (h : Heap) : Prop := ∃ k, (k = Keeper.frame ∨ k = Keeper.machine ∨ k = Keeper.boundFrame) ∧ Looks M h (keeperOf f) k

theorem keep_ok {ρ : Rho} {μ : List AO} {s : Shared} {p : PV} {f : Value} {xs : List PV} {Q : Post} (S : Sees K.g K.Λ ρ μ s) (df : VDen K.Λ ρ s.heap p f) (h : callP K.Φ p xs μ Q) : KeepP (model K.prog K.w) f s.heap := by
  cases p with
  | val v =>
    obtain rfl := df.inv
    cases f with
    | ref a => exact keeps_K (K.phiK h) _ (S.K K.gd)
    | builtin id => exact keep_machine rfl _ trivial
    | type id => exact keep_machine rfl _ trivial
    | _ => exact h.elim
  | lam k cap => exact keep_lam df _ fun _ _ e _ => e
  | _ => exact h.elim

theorem sndE_call (hL : LamOk K) {id : Str} {p pos : Pos} {args : List Expr} {cf : CE} {es : CEs} (hf : SndE K sc (.Name id p) cf) (ha : SndEs K sc args es) (hx : ArgsOk args es) : SndE K sc (.Call (.Name id p) args [] pos) (.call cf es) := fun hA Fr F h => by
  refine wpAny_Call_NameR (wpAny_mono (hf hA Fr F h) (fun fv s₁ h₁ => ?_) fun _ _ e => e)
  obtain ⟨ρ₁, g, μ₁, st1, S1, d1, h1⟩ := h₁
  refine callWith_ok (P := KeepP (model K.prog K.w) fv) ha hx hA Fr (F.steps st1 S1) h1 (fun _ q => q) fun ρ₂ vs μ₂ vals s₂ st2 S2 d2 h2 => ⟨keep_ok S2 (d1.step0 st2) h2, ?_⟩
  exact aft (builtin_ok hL hA S2 (d1.step0 st2) d2 h2) (st1.trans st2)

set_option tactic.hygienic true in
theorem inst_at {ρ : Rho} {μ : List AO} {s : Shared} {p : PV} {v : Value} {C : Addr} (S : Sees K.g K.Λ ρ μ s) (d : VDen K.Λ ρ s.heap p v) (e : classOf p μ = some C) {m : Nat} (hm : m < mTab.length) :
    ∃ x ox od, v = .ref x ∧ InstAt s.heap x ox C od ∧ shadowIn od (mTab.getD m Str.empty) = some false := by
  have fin : ∀ {x dx : Addr} {ks : List Nat} {vs : List Value}, s.heap.get? x = some (instObj C dx) → s.heap.Ns dx (nsOf ks vs) → ∃ y ox od, Value.ref x = .ref y ∧ InstAt s.heap y ox C od ∧ shadowIn od (mTab.getD m Str.empty) = some false := by
    intro x dx ks vs e1 hn
    obtain ⟨o, es, ep, ho, hd, hk, hf⟩ := hn
    refine ⟨x, instObj C dx, some o, rfl, ⟨e1, rfl, rfl, ho⟩, ?_⟩
    show (lookIn _ o).map (·.isSome) = _
    rw [lookIn_ns hd hk, hf, nsOf_mTab hm]; rfl
  cases d with
  | inst sx sd e1 hn dv => simp only [classOf, Option.some.injEq] at e; subst e; exact fin e1 hn
  | obj e0 =>
    rename_i n a dd
    simp only [classOf] at e
    split at e
    · rename_i C' ks l hm'
      cases e
      obtain ⟨q, hq, od⟩ := S.pair hm'
      rw [e0] at hq; cases hq
      obtain ⟨_, e1, vs, hn, dv⟩ := od
      exact fin e1 hn.ns
    · cases e
  | _ => simp [classOf] at e

set_option tactic.hygienic true in
theorem lst_at {ρ : Rho} {μ : List AO} {s : Shared} {p : PV} {v : Value} (d : VDen K.Λ ρ s.heap p v) (e : isLst p μ = true) : ∃ n l a dd, p = .obj n ∧ μ[n]? = some (.lst l) ∧ v = .ref a ∧ ρ.objs[n]? = some (a, dd) := by
  cases p with
  | obj n =>
    simp only [isLst] at e
    split at e
    · rename_i l hm
      obtain ⟨_, _, rfl, e0⟩ := d.inv
      exact ⟨n, l, _, _, rfl, hm, rfl, e0⟩
    · cases e
  | _ => simp [isLst] at e

theorem sndE_meth {o : Expr} {name : Str} {m : Nat} {apos pos : Pos} {args : List Expr} {co : CE} {es : CEs} (ho : SndE K sc o co) (ha : SndEs K sc args es) (hx : ArgsOk args es) (hm : m < mTab.length) (hn : name = mTab.getD m Str.empty)
    (he : ∀ env, ∃ pl, eval (.Call (.Attribute o name apos) args [] pos) env = (do
      let ov ← eval o env
      standAt apos.atName
      let (f, first) ← holding [ov] (getMethod ov name pl)
      callWith pos f first (backTo pos (starEach args env)) (backToKw pos (keywordEach [] env)))) : SndE K sc (.Call (.Attribute o name apos) args [] pos) (.meth co m es) := fun {A env X ρ μ l s Q} hA Fr F h => by
  subst hn
  obtain ⟨pl, he⟩ := he env
  refine methodCall_KW (pl := pl) (wpAny_mono (ho hA Fr F h) (fun ov s₁ h₁ => ?_) fun _ _ e => e) he
  obtain ⟨ρ₁, x, μ₁, st1, S1, d1, t, ht, h1⟩ := h₁
  have F1 := F.steps st1 S1
  show wpAny _ _ (getMethod ov _ pl) (fun fx s₂ => wpAny _ _ (callWith pos fx.1 fx.2 (backTo pos (starEach args env)) []) _ _ s₂) _ s₁
  unfold methOf at ht
  split at ht
  · rename_i em; subst em
    split at ht
    · rename_i hl
      cases ht
      obtain ⟨n, l', a, dd, rfl, hm1, rfl, e0⟩ := lst_at d1 hl
      refine list_meth (pl := pl) S1 e0 hm1 (nm := mTab.getD 0 Str.empty) (id := "list.append") slot_list_append (by rfl) ?_
      refine callWith_ok (P := fun _ => True) ha hx hA Fr F1 h1 (keep_machine rfl) fun ρ₂ vs μ₂ vals s₂ st2 S2 d2 h2 => ⟨trivial, ?_⟩
      obtain ⟨n', l2, y, en, rfl, hm2, hz, q⟩ := h2
      cases en
      obtain ⟨v, rfl, dv⟩ := call1 d2
      exact aft (append_ok S2 (st2.get e0) hm2 hz dv q) (st1.trans st2)
    · cases ht
  · split at ht
    · rename_i em; subst em
      split at ht
      · rename_i hl
        cases ht
        obtain ⟨n, l', a, dd, rfl, hm1, rfl, e0⟩ := lst_at d1 hl
        refine list_meth (pl := pl) S1 e0 hm1 (nm := mTab.getD 1 Str.empty) (id := "list.extend") PySem.F.slot_list_extend (by rfl) ?_
        refine callWith_ok (P := fun _ => True) ha hx hA Fr F1 h1 (keep_machine rfl) fun ρ₂ vs μ₂ vals s₂ st2 S2 d2 h2 => ⟨trivial, ?_⟩
        obtain ⟨n', l2, y, en, rfl, hm2, hz, q⟩ := h2
        cases en
        obtain ⟨v, rfl, dv⟩ := call1 d2
        exact aft (extend_ok S2 (st2.get e0) hm2 dv hz q) (st1.trans st2)
      · cases ht
    · split at ht
      · rename_i em; subst em
        split at ht
        · cases ht
          obtain rfl := d1.inv
          refine shapes_meth (pl := pl) K.gd S1 ?_
          refine callWith_ok (P := fun _ => True) ha hx hA Fr F1 h1 (keep_machine rfl) fun ρ₂ vs μ₂ vals s₂ st2 S2 d2 h2 => ⟨trivial, ?_⟩
          obtain ⟨c, d, rfl, e, q⟩ := h2
          obtain ⟨v, rfl, dv⟩ := call1 d2
          exact aft (shapes_get K.gd S2 dv e q) (st1.trans st2)
        · cases ht
      · split at ht
        · rename_i C hC
          obtain ⟨a, ea, rfl⟩ := Option.map_eq_some_iff.mp ht
          have ok := List.all_eq_true.mp (meth_ok K.w.params) ((C, m), a) (mem_of_lookup' ea)
          simp only [Bool.and_eq_true, beq_iff_eq, decide_eq_true_eq] at ok
          obtain ⟨⟨⟨⟨k1, k2⟩, k3⟩, k4⟩, k5⟩ := ok
          obtain ⟨y, ox, od, rfl, I, sh⟩ := inst_at S1 d1 hC hm
          refine method_fn (S1.K K.gd) I k3 k4 k1 k2 sh ?_
          refine callWith_ok (P := KeepP (model K.prog K.w) (.ref a)) ha hx hA Fr F1 h1 (fun _ q => q) fun ρ₂ vs μ₂ vals s₂ st2 S2 d2 h2 => ⟨keeps_K (K.phiK h2) _ (S2.K K.gd), ?_⟩
          exact aft (K.phi hA S2 (.cons (d1.step0 st2) d2) h2) (st1.trans st2)
        · cases ht

/- sources -/
theorem sndI_items {x : Expr} {e : CE} (h : SndE K sc x e) : SndI K sc x (.items e) false := fun hA Fr F hw => by
  refine wpAny_mono (h hA Fr F hw) (fun v s₁ h₁ => ?_) fun _ _ e => e
  obtain ⟨ρ₁, p, μ₁, st, S, d, q⟩ := h₁
  exact wpAny_mono (iter_items hA.hand S d q) (fun _ _ z => z.after st) fun _ _ e => e

theorem sndI_of {id : Str} {p pos : Pos} {args : List Expr} {es : CEs} {n : Nat} {T : String} {ci : CI} {tup : Bool} (hf : SndE K sc (.Name id p) (.glo n)) (hg : gTab[n]? = some (id, .val (.type T))) (ha : SndEs K sc args es) (hx : ArgsOk args es)
    {P : List PV → List AO → SrcQ → Prop} (hw : ∀ l μ Q, wpI K.Φ ci l μ Q → wpEs K.Φ es l μ fun vs μ₁ => P vs μ₁ Q)
    (hc : ∀ {A : Around} {ρ : Rho} {μ : List AO} {s : Shared} {vs : List PV} {vals : List Value} {Q : SrcQ}, A.handled = none → Sees K.g K.Λ ρ μ s → VDens K.Λ ρ s.heap vs vals → P vs μ Q →
      wpAny (model K.prog K.w) A (call (.type T) vals) (fun x s₂ => wpAny (model K.prog K.w) A (pyIter x) (SrcOut K.prog K.w A K.g K.Λ ρ s tup Q) NoE s₂) NoE s) :
    SndI K sc (.Call (.Name id p) args [] pos) ci tup := fun {A env X ρ μ l s Q} hA Fr F h => by
  have h0 : wpE K.Φ (.glo n) l μ fun g μ₁ => g = .val (.type T) ∧ wpEs K.Φ es l μ₁ fun vs μ₂ => P vs μ₂ Q := ⟨_, hg, rfl, hw _ _ _ h⟩
  refine wpAny_Call_NameR (wpAny_mono (hf hA Fr F h0) (fun fv s₁ h₁ => ?_) fun _ _ e => e)
  obtain ⟨ρ₁, g, μ₁, st1, S1, d1, rfl, h1⟩ := h₁
  obtain rfl := d1.inv
  refine callWith_ok (P := fun _ => True) ha hx hA Fr (F.steps st1 S1) h1 (keep_machine rfl) fun ρ₂ vs μ₂ vals s₂ st2 S2 d2 h2 => ⟨trivial, ?_⟩
  refine wpAny_mono (hc hA.hand S2 d2 h2) (fun v s₃ h₃ => wpAny_mono h₃ (fun _ _ z => z.after (st1.trans st2)) fun _ _ e => e) fun _ _ e => e

noncomputable def P1 (R : PV → List AO → SrcQ → Prop) : List PV → List AO → SrcQ → Prop := fun vs μ Q => match vs with
  | [y] => R y μ Q
  | _ => False
noncomputable def P2 (R : PV → PV → List AO → SrcQ → Prop) : List PV → List AO → SrcQ → Prop := fun vs μ Q => match vs with
  | [x, y] => R x y μ Q
  | _ => False
theorem p1 {R : PV → List AO → SrcQ → Prop} {vs : List PV} {μ : List AO} {Q : SrcQ} (h : P1 R vs μ Q) : ∃ y, vs = [y] ∧ R y μ Q := by
  unfold P1 at h; split at h
  · exact ⟨_, rfl, h⟩
  · exact h.elim
theorem p2 {R : PV → PV → List AO → SrcQ → Prop} {vs : List PV} {μ : List AO} {Q : SrcQ} (h : P2 R vs μ Q) : ∃ x y, vs = [x, y] ∧ R x y μ Q := by
  unfold P2 at h; split at h
  · exact ⟨_, _, rfl, h⟩
  · exact h.elim

theorem sndI_range1 {id : Str} {p pos : Pos} {x : Expr} {e : CE} {n : Nat} (hf : SndE K sc (.Name id p) (.glo n)) (hg : gTab[n]? = some (id, .val (.type "range"))) (ha : SndEs K sc [x] (.cons e .nil)) (hx : ArgsOk [x] (.cons e .nil)) :
    SndI K sc (.Call (.Name id p) [x] [] pos) (.range1 e) false :=
  sndI_of (ci := .range1 e) hf hg ha hx (P := P1 fun y μ Q => rangeP (.int 0) y μ Q) (fun l μ Q h => h) fun hh S d h => by
    obtain ⟨y, e, q⟩ := p1 h
    subst e
    obtain ⟨v, rfl, dv⟩ := call1 d
    exact iter_range1 hh S dv q
theorem sndI_enum {id : Str} {p pos : Pos} {x : Expr} {e : CE} {n : Nat} (hf : SndE K sc (.Name id p) (.glo n)) (hg : gTab[n]? = some (id, .val (.type "enumerate"))) (ha : SndEs K sc [x] (.cons e .nil)) (hx : ArgsOk [x] (.cons e .nil)) :
    SndI K sc (.Call (.Name id p) [x] [] pos) (.enum e) true :=
  sndI_of (ci := .enum e) hf hg ha hx (P := P1 enumP) (fun l μ Q h => h) fun hh S d h => by
    obtain ⟨y, e, q⟩ := p1 h
    subst e
    obtain ⟨v, rfl, dv⟩ := call1 d
    exact iter_enum hh S dv q
theorem sndI_range2 {id : Str} {p pos : Pos} {x y : Expr} {e e' : CE} {n : Nat} (hf : SndE K sc (.Name id p) (.glo n)) (hg : gTab[n]? = some (id, .val (.type "range"))) (ha : SndEs K sc [x, y] (.cons e (.cons e' .nil))) (hx : ArgsOk [x, y] (.cons e (.cons e' .nil))) :
    SndI K sc (.Call (.Name id p) [x, y] [] pos) (.range2 e e') false :=
  sndI_of (ci := .range2 e e') hf hg ha hx (P := P2 rangeP) (fun l μ Q h => h) fun hh S d h => by
    obtain ⟨x, y, e, q⟩ := p2 h
    subst e
    obtain ⟨v, u, rfl, d1, d2⟩ := call2 d
    exact iter_range2 hh S d1 d2 q
theorem sndI_zip {id : Str} {p pos : Pos} {x y : Expr} {e e' : CE} {n : Nat} (hf : SndE K sc (.Name id p) (.glo n)) (hg : gTab[n]? = some (id, .val (.type "zip"))) (ha : SndEs K sc [x, y] (.cons e (.cons e' .nil))) (hx : ArgsOk [x, y] (.cons e (.cons e' .nil))) :
    SndI K sc (.Call (.Name id p) [x, y] [] pos) (.zip e e') true :=
  sndI_of (ci := .zip e e') hf hg ha hx (P := P2 zipP) (fun l μ Q h => h) fun hh S d h => by
    obtain ⟨x, y, e, q⟩ := p2 h
    subst e
    obtain ⟨v, u, rfl, d1, d2⟩ := call2 d
    exact iter_zip hh S d1 d2 q
end

/- MMake -/


section
variable {prog : Program} {w : World} {A : Around} {n : Nat} {g : Heap} {Λ : List LamT} {ρ ρ' : Rho} {μ μ' : List AO} {s s' : Shared} {sc : Sc} {env : Env} {l : Lc} {X T own : List Addr}

/- a new object at p, both addresses fresh -/
noncomputable abbrev nw (ρ : Rho) (p : Addr × Addr) : Rho := { ρ with objs := ρ.objs ++ [p] }

theorem ofoot_nw {p : Addr × Addr} {b : Addr} : b ∈ ofoot (nw ρ p) ↔ b ∈ ofoot ρ ∨ b = p.1 ∨ b = p.2 := by
  rw [mem_ofoot, mem_ofoot]
  constructor
  · rintro ⟨q, hp, hq⟩
    rcases List.mem_append.mp hp with hp | hp
    · exact .inl ⟨q, hp, hq⟩
    · rw [List.mem_singleton.mp hp] at hq; exact .inr hq
  · rintro (⟨q, hp, hq⟩ | h)
    · exact ⟨q, List.mem_append_left _ hp, hq⟩
    · exact ⟨p, List.mem_append_right _ (.head _), h⟩

theorem VDens.nw' {p : Addr × Addr} {h h' : Heap} (h1 : h.get? p.1 = none) (h2 : h.get? p.2 = none) (hk : ∀ b o, h.get? b = some o → h'.get? b = some o) {vs : List PV} {vals : List Value} (d : VDens Λ ρ h vs vals) : VDens Λ (nw ρ p) h' vs vals := by
  have ne : ∀ b o, h.get? b = some o → b ≠ p.1 ∧ b ≠ p.2 := fun b o e => ⟨fun q => (by rw [q, h1] at e; cases e), fun q => (by rw [q, h2] at e; cases e)⟩
  exact VDens.mono (ρ := ρ) (ρ' := nw ρ p) (fun b o e sf => ⟨⟨fun m => (ofoot_nw.mp m).elim sf.1 (fun q => q.elim (ne b o e).1 (ne b o e).2), sf.2⟩, hk b o e⟩)
    (fun b o e h1 _ _ => ⟨fun m => (ofoot_nw.mp m).elim h1 (fun q => q.elim (ne b o e).1 (ne b o e).2), hk b o e⟩)
    (fun n q e => by
      show (ρ.objs ++ [p])[n]? = some q
      rw [List.getElem?_append_left (List.getElem?_eq_some_iff.mp e).1]; exact e) d

theorem Sees.new (S : Sees g Λ ρ μ s) {p : Addr × Addr} {o : AO} (h1 : s.heap.get? p.1 = none) (h2 : s.heap.get? p.2 = none) (hk : ∀ b o, s.heap.get? b = some o → s'.heap.get? b = some o) (hg : s'.gens = s.gens) (od : ODen Λ (nw ρ p) s'.heap p o) :
    Sees g Λ (nw ρ p) (μ ++ [o]) s' := by
  have ne : ∀ b o, s.heap.get? b = some o → b ≠ p.1 ∧ b ≠ p.2 := fun b o e => ⟨fun q => (by rw [q, h1] at e; cases e), fun q => (by rw [q, h2] at e; cases e)⟩
  have nof : ∀ {b}, b ∈ ofoot ρ → b ≠ p.1 ∧ b ≠ p.2 := fun hb => by obtain ⟨o, e⟩ := S.oflt _ hb; exact ne _ _ e
  have vd : ∀ {l : List PV} {vs : List Value}, VDens Λ ρ s.heap l vs → VDens Λ (nw ρ p) s'.heap l vs := fun d => d.nw' h1 h2 hk
  have old : ∀ {k : Nat} {r : Addr × Addr}, (ρ.objs ++ [p])[k]? = some r → ρ.objs[k]? = some r ∨ (k = ρ.objs.length ∧ r = p) := by
    intro k r h
    by_cases hk : k < ρ.objs.length
    · rw [List.getElem?_append_left hk] at h; exact .inl h
    · have hlt : k < (ρ.objs ++ [p]).length := (List.getElem?_eq_some_iff.mp h).1
      have hk2 : k = ρ.objs.length := by simp at hlt; lia
      subst hk2
      rw [List.getElem?_concat_length] at h
      exact .inr ⟨rfl, by cases h; rfl⟩
  have m1 : ∀ {k : Nat} {r : Addr × Addr}, ρ.objs[k]? = some r → r.1 ∈ ofoot ρ ∧ r.2 ∈ ofoot ρ := fun e => ⟨mem_ofoot.mpr ⟨_, List.mem_of_getElem? e, .inl rfl⟩, mem_ofoot.mpr ⟨_, List.mem_of_getElem? e, .inr rfl⟩⟩
  exact {
    base := fun b o e => hk b o (S.base b o e)
    apart := fun b hb => by
      rcases hb with hb | hb | hb
      · rcases ofoot_nw.mp hb with hb | rfl | rfl
        · exact S.apart b (.inl hb)
        · exact none_back (fun b o e => ⟨o, S.base b o e⟩) h1
        · exact none_back (fun b o e => ⟨o, S.base b o e⟩) h2
      · exact S.apart b (.inr (.inl hb))
      · exact S.apart b (.inr (.inr hb))
    frlt := fun b hb => by obtain ⟨o, e⟩ := S.frlt b hb; exact ⟨o, hk b o e⟩
    frof := fun b hb m => by
      obtain ⟨o, e⟩ := S.frlt b hb
      rcases ofoot_nw.mp m with m | q | q
      · exact S.frof b hb m
      · exact (ne b o e).1 q
      · exact (ne b o e).2 q
    tabof := fun b hb => ⟨fun m => by
      obtain ⟨o, e⟩ := S.tablt b hb
      rcases ofoot_nw.mp m with m | q | q
      · exact (S.tabof b hb).1 m
      · exact (ne b o e).1 q
      · exact (ne b o e).2 q, (S.tabof b hb).2⟩
    len := by simp [S.len]
    objs := fun i q o' e1 e2 => by
      rcases old e1 with e1 | ⟨rfl, rfl⟩
      · have hi : i < μ.length := by rw [← S.len]; exact (List.getElem?_eq_some_iff.mp e1).1
        rw [List.getElem?_append_left hi] at e2
        have d := S.objs i q o' e1 e2
        cases o' with
        | lst l =>
          obtain ⟨e, us, ⟨k, ho⟩, du⟩ := d
          exact ⟨e, us, ⟨k, hk _ _ ho⟩, vd du⟩
        | inst C ks l =>
          obtain ⟨e, e1, us, hn, du⟩ := d
          exact ⟨e, hk _ _ e1, us, hn.at' (hk _), vd du⟩
      · rw [S.len, List.getElem?_concat_length] at e2
        cases e2
        exact od
    dist := fun a b q r e1 e2 hab => by
      rcases old e1 with x | ⟨x, rfl⟩ <;> rcases old e2 with y | ⟨y, rfl⟩
      · exact S.dist a b q r x y hab
      · have := nof (m1 x).1; have t := nof (m1 x).2
        exact ⟨this.1, this.2, t.2⟩
      · have := nof (m1 y).1; have t := nof (m1 y).2
        exact ⟨this.1.symm, t.1.symm, t.2.symm⟩
      · omega
    tabs := fun P hP => by
      obtain ⟨ps, e, t, q⟩ := S.tabs P hP
      refine ⟨ps, hk _ _ e, t, fun L hL hp => (q L hL hp).imp id ?_⟩
      rintro ⟨c', oc, e1, e2, e3, e4⟩
      refine ⟨c', oc, e1, ⟨fun m => (ofoot_nw.mp m).elim e2.1 (fun q => q.elim (ne _ _ e3).1 (ne _ _ e3).2), e2.2⟩, hk _ _ e3, e4⟩
    gens := hg.trans S.gens }

theorem nsb_empty (h : Heap) : NsB (h.push emptyDict) h.objs.size (nsOf [] []) 0 :=
  ⟨_, #[], _, Heap.get?_push_size _ rfl, rfl, fun e he => by simp at he, fun _ => rfl, Nat.le_refl _⟩
end

theorem Room.under {n : Nat} {A : Around} (h : Room (n + 1) A) (C : Addr) (vals : List Value) : Room n (A.under (.builtin "type.__call__" ⟨.ref C :: vals, []⟩)) :=
  ⟨h.hand, by have := h.deep; show A.depth + 1 + _ + _ < _; lia, by have := h.units; show A.units + 1 + _ + _ < _; lia⟩

section
variable {K : Cx} {sc : Sc}

/- making an object of a class of the program -/
theorem cls_make {C fI : Addr} (hm : makesIn (KK K.w.params) C = true) (hi : findIn (KK K.w.params) (.ref C) "__init__" = some (some (.ref fI))) (hf : typeIn (KK K.w.params) (.ref fI) = some (.type "function"))
    {A : Around} {ρ : Rho} {μ : List AO} {s : Shared} {xs : List PV} {vals : List Value} {Q : Post} {N : Nat} (hA : Room (N + 1) A) (S : Sees K.g K.Λ ρ μ s) (d : VDens K.Λ ρ s.heap xs vals)
    (hinit : ∀ {A : Around} {ρ₁ : Rho} {s₁ : Shared} {vself : Value}, Room N A → Sees K.g K.Λ ρ₁ (μ ++ [.inst C [] []]) s₁ → VDens K.Λ ρ₁ s₁.heap (.obj μ.length :: xs) (vself :: vals) →
      codeAny (model K.prog K.w) A (.call (.ref fI) ⟨vself :: vals, []⟩) (fun r s' => match r with | .ok (.ret v) => Out K.g K.Λ ρ₁ s₁ (fun v μ₁ => v = .none ∧ EndQ μ Q (.obj μ.length) μ₁) v s' | .ok _ => False | .error e => NoE e s') s₁) :
    wpAny (model K.prog K.w) A (call (.ref C) vals) (Out K.g K.Λ ρ s Q) NoE s := by
  obtain ⟨hh, gg, dd, t, os⟩ := s
  have X := S.K K.gd
  refine wpAny_call (make_core (makes_of X hm) (looks_findIn X hi) (fun self => bind_fn X self hf) (.inl rfl) ?_)
  let s₁ : Shared := ⟨(hh.push emptyDict).push (instObj C hh.objs.size), gg, dd, t, os⟩
  have hsz : (hh.push emptyDict).objs.size = hh.objs.size + 1 := Heap.size_push ..
  have h1 : hh.get? (hh.objs.size + 1) = none := new_own _ (Nat.le_succ _)
  have h2 : hh.get? hh.objs.size = none := new_own _ (Nat.le_refl _)
  have hk : ∀ b o, hh.get? b = some o → s₁.heap.get? b = some o := fun b o e => Heap.get?_push_of_some _ (Heap.get?_push_of_some _ e)
  have hx : s₁.heap.get? (hh.objs.size + 1) = some (instObj C hh.objs.size) := by
    have := Heap.get?_push_size (hh.push emptyDict) (o := instObj C hh.objs.size) rfl
    rw [hsz] at this; exact this
  have S1 : Sees K.g K.Λ (nw ρ (hh.objs.size + 1, hh.objs.size)) (μ ++ [.inst C [] []]) s₁ := S.new (p := (hh.objs.size + 1, hh.objs.size)) h1 h2 hk rfl
    ⟨Nat.ne_of_gt (Nat.lt_succ_self _), hx, [], (nsb_empty hh).at' fun o e => Heap.get?_push_of_some _ e, .nil⟩
  have hlen : ρ.objs.length = μ.length := S.len
  have dself : VDen K.Λ (nw ρ (hh.objs.size + 1, hh.objs.size)) s₁.heap (.obj μ.length) (.ref (hh.objs.size + 1)) := .obj (a := hh.objs.size + 1) (d := hh.objs.size) (by
    show (ρ.objs ++ [_])[μ.length]? = _
    rw [← hlen, List.getElem?_concat_length])
  have d1 : VDens K.Λ (nw ρ (hh.objs.size + 1, hh.objs.size)) s₁.heap xs vals := d.nw' (p := (hh.objs.size + 1, hh.objs.size)) h1 h2 hk
  refine codeAny_mono (hinit (hA.under C vals) S1 (.cons dself d1)) fun r s' hr => ?_
  rcases r with e | (v | _ | _ | _)
  · exact hr.elim
  all_goals first | exact hr.elim | skip
  obtain ⟨ρ₂, p, μ₂, st, S2, dp, rfl, hend⟩ := hr
  obtain rfl := dp.inv
  refine ⟨rfl, ?_⟩
  have st0 : Steps [] ρ ⟨hh, gg, dd, t, os⟩ ρ₂ s' := by
    refine ⟨st.frs, ?_, fun b o e n1 n2 _ => ?_, fun b o e => st.live b o (hk b o e), st.os, st.gens⟩
    · obtain ⟨τ, e, h⟩ := st.ext
      refine ⟨(hh.objs.size + 1, hh.objs.size) :: τ, by rw [e]; simp, fun q hq => ?_⟩
      rcases List.mem_cons.mp hq with rfl | hq
      · exact ⟨h1, h2⟩
      · exact ⟨none_back (fun b o e => ⟨o, hk b o e⟩) (h q hq).1, none_back (fun b o e => ⟨o, hk b o e⟩) (h q hq).2⟩
    · refine st.keep b o (hk b o e) (fun m => ?_) n2 (fun m => by cases m)
      rcases ofoot_nw.mp m with m | q | q
      · exact n1 m
      · rw [q] at e; rw [show (⟨hh, gg, dd, t, os⟩ : Shared).heap.get? (hh.objs.size + 1) = none from h1] at e; cases e
      · rw [q] at e; rw [show (⟨hh, gg, dd, t, os⟩ : Shared).heap.get? hh.objs.size = none from h2] at e; cases e
  have dself2 : VDen K.Λ ρ₂ s'.heap (.obj μ.length) (.ref (hh.objs.size + 1)) := dself.step0 st
  exact exit_out S st0 S2 dself2 hend
end

/- MLam -/


theorem among_snoc {pos : Pos} {a b : Int} {c : Value} : ∀ {l : List Value}, TriplesOk l → codeAmong pos (l ++ [rawInt a, rawInt b, c]) = match codeAmong pos l with | some v => some v | none => if (a == (pos.line : Int) && b == (pos.col : Int)) = true then some c else none := by
  intro l h
  fun_induction TriplesOk l with
  | case1 => simp [codeAmong, rawInt]
  | case2 x t y u z rest ih =>
    simp only [List.cons_append, codeAmong]
    split
    · rfl
    · exact ih h
  | case3 => exact h.elim

section
variable {prog : Program} {w : World} {A : Around} {n : Nat} {g : Heap} {Λ : List LamT} {ρ ρ' : Rho} {μ μ' : List AO} {s s' : Shared} {sc : Sc} {env : Env} {l : Lc} {X T own : List Addr}

theorem VDens.turnTab {P : Addr} (hP : P ∈ tabA) {h h' : Heap} (hk : ∀ b o, b ≠ P → h.get? b = some o → h'.get? b = some o) {vs : List PV} {vals : List Value} (d : VDens Λ ρ h vs vals) : VDens Λ ρ h' vs vals :=
  d.mono (fun b o e sf => ⟨sf, hk b o (fun q => sf.2.2 (q ▸ hP)) e⟩) (fun b o e h1 h2 _ => ⟨h1, hk b o (fun q => h2 (q ▸ hP)) e⟩) fun _ _ h => h

theorem Sees.turnTab (S : Sees g Λ ρ μ s) {P : Addr} (hP : P ∈ tabA) (hk : ∀ b o, b ≠ P → s.heap.get? b = some o → s'.heap.get? b = some o) (hg : s'.gens = s.gens)
    (ht : ∃ ps, s'.heap.get? P = some (tabObj ps) ∧ TriplesOk ps.toList ∧ ∀ L ∈ Λ, L.tab = P → codeAmong L.pos ps.toList = none ∨ ∃ c' oc, codeAmong L.pos ps.toList = some (.ref c') ∧ Safe ρ c' ∧ s'.heap.get? c' = some oc ∧ ∃ fs t, oc.data = .fields fs ∧ fs[1]? = some (.str L.qual t)) : Sees g Λ ρ μ s' where
  base := fun b o e => hk b o (fun q => by rw [q, S.apart P (.inr (.inr hP))] at e; cases e) (S.base b o e)
  apart := S.apart
  frlt := fun b hb => by obtain ⟨o, e⟩ := S.frlt b hb; exact ⟨o, hk b o (fun q => (S.tabof P hP).2 (q ▸ hb)) e⟩
  frof := S.frof
  tabof := S.tabof
  len := S.len
  objs := fun i p o h1 h2 => by
    have n1 : p.1 ≠ P := fun q => (S.tabof P hP).1 (q ▸ mem_ofoot.mpr ⟨p, List.mem_of_getElem? h1, .inl rfl⟩)
    have n2 : p.2 ≠ P := fun q => (S.tabof P hP).1 (q ▸ mem_ofoot.mpr ⟨p, List.mem_of_getElem? h1, .inr rfl⟩)
    have d := S.objs i p o h1 h2
    cases o with
    | lst l =>
      obtain ⟨e, vs, ⟨k, ho⟩, dv⟩ := d
      exact ⟨e, vs, ⟨k, hk _ _ n1 ho⟩, dv.turnTab hP hk⟩
    | inst C ks l =>
      obtain ⟨e, e1, vs, hn, dv⟩ := d
      exact ⟨e, hk _ _ n1 e1, vs, hn.at' fun o e => hk _ o n2 e, dv.turnTab hP hk⟩
  dist := S.dist
  tabs := fun R hR => by
    by_cases q : R = P
    · subst q; exact ht
    · obtain ⟨ps, e, t, k⟩ := S.tabs R hR
      refine ⟨ps, hk _ _ q e, t, fun L hL hp => (k L hL hp).imp id ?_⟩
      rintro ⟨c', oc, e1, e2, e3, e4⟩
      exact ⟨c', oc, e1, e2, hk _ _ (fun q => e2.2.2 (q ▸ hP)) e3, e4⟩
  gens := hg.trans S.gens
end

/- lambdas at one place have one name -/
noncomputable def LamSame (Λ : List LamT) : Prop := ∀ L ∈ Λ, ∀ M ∈ Λ, L.tab = M.tab → L.pos.line = M.pos.line → L.pos.col = M.pos.col → L.qual = M.qual

section
variable {K : Cx} {sc : Sc}

theorem lam_make (hΛ : LamSame K.Λ) {L : LamT} {k : Nat} (hL : K.Λ[k]? = some L) (hP : L.tab ∈ tabA) (hC : CodeHd K.g L.hd L.tab) (hdef : ∀ env, defaultsOf L.params env = ([], [])) (hcode : sc.code = some (.ref L.hd)) {q0 : Str} (hq0 : sc.qual = some q0) (hqual : L.qual = q0 ++ "<lambda>")
    {A : Around} {env : Env} {X : List Addr} {ρ : Rho} {μ : List AO} {l : Lc} {s : Shared} {Q : Post} (Fr : FrOk sc env X) (F : FS K.g K.Λ sc env X ρ μ l s) {cs : List Addr} {vs : List Value} {cap : List PV}
    (hclos : closureFor L.scope env = pure (L.caps.zip cs)) (hl1 : cs.length = L.caps.length) (hl2 : vs.length = cs.length)
    (hcs : ∀ (i : Nat) (c : Addr) (v : Value), cs[i]? = some c → vs[i]? = some v → c ∉ ofoot ρ ∧ c ∉ tabA ∧ ∃ o, s.heap.get? c = some o ∧ o.data = .cell (some v)) (dcap : VDens K.Λ ρ s.heap cap vs) (q : Q (.lam k cap) μ) :
    wpAny (model K.prog K.w) A (eval (.Lambda L.params L.body L.scope L.pos) env) (Out K.g K.Λ ρ s Q) NoE s := by
  have hmem : L ∈ K.Λ := List.mem_of_getElem? hL
  obtain ⟨mg, mb, pp, loose, mean, T⟩ := K.gd.top
  have S := F.S
  obtain ⟨ps, hPs, htr, hamong⟩ := S.tabs L.tab hP
  have hgs : s.heap.Ns mainGlobals mg := T.g.keeps S.base
  obtain ⟨bm, ob, b1, b2, b3, b4, b5, b6⟩ := T.bmain
  have gP : K.g.get? L.tab = none := S.apart _ (.inr (.inr hP))
  have hgP : mainGlobals ≠ L.tab := fun q => by
    obtain ⟨o, es, ep, e, hd, _⟩ := T.g
    rw [q, gP] at e; cases e
  have hbP : bm ≠ L.tab := fun q => by rw [q, gP] at b3; cases b3
  have hbG : bm ≠ mainGlobals := fun q => by
    obtain ⟨o, es, ep, e, hd, _⟩ := T.g
    rw [q, e] at b3; cases b3; rw [hd] at b6; cases b6
  have hB : s.heap.BuiltinsAt mg L.tab := ⟨bm, ob, b1, b2, hbG, hbP, S.base _ _ b3, b4, b5, b6⟩
  have hq : env.qual ++ "<lambda>" = L.qual := by rw [Fr.H.qual _ hq0, hqual]
  have fin : ∀ {h' : Heap} {tk : Tok} {c' : Addr} {oc : Obj} {fs : Array Value} {t : Tok} {ctv : Value} (s₂ : Shared), s₂ = { s with heap := h'.push (kla_obj "<lambda>" L.qual L.params L.body L.scope (L.caps.zip cs) ((mg "__name__").getD .none) c' ctv), toks := tk } →
      Sees K.g K.Λ ρ μ s₂ → (∀ b o, b ≠ L.tab → s.heap.get? b = some o → s₂.heap.get? b = some o) → (∃ o, s₂.heap.get? L.tab = some o) → s.heap.objs.size ≤ h'.objs.size → Safe ρ c' → s₂.heap.get? c' = some oc → oc.data = .fields fs → fs[1]? = some (.str L.qual t) →
      Out K.g K.Λ ρ s Q (.ref h'.objs.size) s₂ := by
    intro h' tk c' oc fs t ctv s₂ e S2 hk hPl hsz sc' hc' hfd hf1
    refine ⟨ρ, .lam k cap, μ, ⟨rfl, ⟨[], by simp, fun _ h => by cases h⟩, fun b o e _ h2 _ => hk b o (fun q => h2 (q ▸ hP)) e, fun b o e => ?_, by rw [e], by rw [e]⟩, S2, ?_, q⟩
    · by_cases q : b = L.tab
      · rw [q]; exact hPl
      · exact ⟨o, hk b o q e⟩
    · refine .lam (L := L) (c' := c') (pm := (mg "__name__").getD .none) (ctv := ctv) (cs := cs) (vs := vs) hL ?_ sc' hc' ⟨fs, t, hfd, hf1⟩ ?_ hl1 hl2 (fun i c v e1 e2 => ?_) (dcap.turnTab hP hk)
      · exact S.safeNone (new_own _ hsz)
      · rw [e]; exact Heap.get?_push_size _ rfl
      · obtain ⟨h1, h2, o, h3, h4⟩ := hcs i c v e1 e2
        exact ⟨h1, h2, o, hk c o (fun q => h2 (q ▸ hP)) h3, h4⟩
  refine kla_eval (hdef env) ?_
  rw [hq]
  rcases hamong L hmem rfl with hnf | ⟨c', oc, hf, sc', hoc, fs, t, hfd, hf1⟩
  · refine kla_makeFunction (mg := mg) hclos Fr.H.glob hgs (Fr.H.code _ hcode) (hC.keeps S.base) hPs htr hnf hgP hB fun c' ctv h' tk hx hge hlt hrec htb => ?_
    obtain ⟨c₂, oc, fs, t, e2, hoc, hfd, hf1⟩ := hrec
    cases e2
    have sc' : Safe ρ c' := S.safeNew hge
    have hsz : s.heap.objs.size ≤ h'.objs.size := Nat.le_trans hge (Nat.le_of_lt hlt)
    have hk : ∀ b o, b ≠ L.tab → s.heap.get? b = some o → (h'.push (kla_obj "<lambda>" L.qual L.params L.body L.scope (L.caps.zip cs) ((mg "__name__").getD .none) c' ctv)).get? b = some o := fun b o hb e => Heap.get?_push_of_some _ (hx b o hb e)
    refine fin _ rfl (S.turnTab hP hk rfl ⟨_, Heap.get?_push_of_some _ htb, ?_, fun M hM hp => ?_⟩) hk ⟨_, Heap.get?_push_of_some _ htb⟩ hsz sc' (Heap.get?_push_of_some _ hoc) hfd hf1
    · have := TriplesOk_snoc L.pos.line L.pos.col (.ref c') ps.toList htr
      simpa using this
    · have e : (ps ++ #[rawInt L.pos.line, rawInt L.pos.col, .ref c']).toList = ps.toList ++ [rawInt L.pos.line, rawInt L.pos.col, .ref c'] := by simp
      rw [e, among_snoc htr]
      rcases hamong M hM hp with h | ⟨c2, oc2, h1, h2, h3, h4⟩
      · rw [h]
        dsimp only
        split
        · rename_i hh
          simp only [Bool.and_eq_true, beq_iff_eq] at hh
          right
          refine ⟨c', oc, rfl, sc', Heap.get?_push_of_some _ hoc, fs, t, hfd, ?_⟩
          have hl : L.pos.line = M.pos.line := by have := hh.1; lia
          have hcol : L.pos.col = M.pos.col := by have := hh.2; lia
          rw [← hΛ L hmem M hM hp.symm hl hcol]; exact hf1
        · exact .inl rfl
      · rw [h1]
        exact .inr ⟨c2, oc2, rfl, h2, hk _ _ (fun q => h2.2.2 (q ▸ hP)) h3, h4⟩
  · refine kla_makeFunctionHit (mg := mg) hclos Fr.H.glob hgs (Fr.H.code _ hcode) (hC.keeps S.base) hPs htr hf hB fun ctv h' tk hk hsz => ?_
    have hk2 : ∀ b o, s.heap.get? b = some o → (h'.push (kla_obj "<lambda>" L.qual L.params L.body L.scope (L.caps.zip cs) ((mg "__name__").getD .none) c' ctv)).get? b = some o := fun b o e => Heap.get?_push_of_some _ (hk b o e)
    exact fin _ rfl (S.grown hk2 rfl) (fun b o _ e => hk2 b o e) ⟨_, hk2 _ _ hPs⟩ hsz sc' (hk2 _ _ hoc) hfd hf1

theorem sndE_lam0 (hΛ : LamSame K.Λ) {L : LamT} {k : Nat} (hL : K.Λ[k]? = some L) (hP : L.tab ∈ tabA) (hC : CodeHd K.g L.hd L.tab) (hdef : ∀ env, defaultsOf L.params env = ([], [])) (hcode : sc.code = some (.ref L.hd)) {q0 : Str} (hq0 : sc.qual = some q0) (hqual : L.qual = q0 ++ "<lambda>")
    {params : Arguments} {body : Expr} {scope : Scope} {pos : Pos} (e1 : L.params = params) (e2 : L.body = body) (e3 : L.scope = scope) (e4 : L.pos = pos) (hcaps : L.caps = []) (hfree : ∀ x ∈ L.scope.names, x.2 ≠ .free) :
    SndE K sc (.Lambda params body scope pos) (.lam k []) := fun hA Fr F h => by
  subst e1 e2 e3 e4
  obtain ⟨vs, e, q⟩ := h
  simp at e; subst e
  refine lam_make hΛ hL hP hC hdef hcode hq0 hqual Fr F (cs := []) (vs := []) (cap := []) ?_ (by rw [hcaps]; rfl) rfl (fun i c v h => by simp at h) .nil q
  rw [closureFor_none hfree]; simp

theorem sndE_lam1 (hΛ : LamSame K.Λ) {L : LamT} {k : Nat} (hL : K.Λ[k]? = some L) (hP : L.tab ∈ tabA) (hC : CodeHd K.g L.hd L.tab) (hdef : ∀ env, defaultsOf L.params env = ([], [])) (hcode : sc.code = some (.ref L.hd)) {q0 : Str} (hq0 : sc.qual = some q0) (hqual : L.qual = q0 ++ "<lambda>")
    {params : Arguments} {body : Expr} {scope : Scope} {pos : Pos} (e1 : L.params = params) (e2 : L.body = body) (e3 : L.scope = scope) (e4 : L.pos = pos) {x : Str} {i : Nat} (hcaps : L.caps = [x]) (hx : sc.ns[i]? = some x) (hk : sc.ks.lookup x = some .cell ∨ sc.ks.lookup x = some .free)
    (hcl : ∀ (env : Env) (c : Addr), env.cells.lookup x = some c → closureFor L.scope env = pure [(x, c)]) :
    SndE K sc (.Lambda params body scope pos) (.lam k [i]) := fun {A env X ρ μ l s Q} hA Fr F h => by
  subst e1 e2 e3 e4
  obtain ⟨vs, e, q⟩ := h
  obtain ⟨v, e5, rfl⟩ : ∃ v, l[i]? = some (some v) ∧ vs = [v] := by
    simp only [List.mapM_cons, List.mapM_nil, Option.pure_def, Option.bind_eq_bind, Option.bind_eq_some_iff, Option.some.injEq] at e
    obtain ⟨v, hv, r, hr, rfl⟩ := e
    subst hr
    refine ⟨v, ?_, rfl⟩
    cases hq : l[i]? with
    | none => rw [hq] at hv; simp at hv
    | some o => rw [hq] at hv; simp at hv; rw [hv]
  obtain ⟨c, val, ec, c1, c2, ⟨o, ho, hd⟩, d⟩ := F.L.cells i x v hx e5 hk
  refine lam_make hΛ hL hP hC hdef hcode hq0 hqual Fr F (cs := [c]) (vs := [val]) (cap := [v]) ?_ (by rw [hcaps]; rfl) rfl (fun j c' v' h1 h2 => ?_) (.cons d .nil) q
  · rw [hcl env c ec, hcaps]; rfl
  · cases j with
    | zero => simp at h1 h2; subst h1 h2; exact ⟨c1, c2, o, ho, hd⟩
    | succ j => simp at h1
end

/- MTac -/


noncomputable def compOkB (scope : Scope) (sc : Sc) (ns : List Str) (fr : List (Nat × Nat)) (tg : List Nat) : Bool :=
  scope.kind == .function && scope.names.all (fun x => x.2 != .cell) && scope.names.all (fun x => x.2 != .local || scope.names.lookup x.1 == some .local) && decide ns.Nodup &&
  scope.names.all (fun x => x.2 != .free || fr.any fun p => sc.ns[p.2]? == some x.1 && (sc.ks.lookup x.1 == some .cell || sc.ks.lookup x.1 == some .free)) &&
  fr.all (fun p => match ns[p.1]? with
    | some x => sc.ns[p.2]? == some x && scope.names.lookup x == some .free && (sc.ks.lookup x == some .cell || sc.ks.lookup x == some .free)
    | none => false) && tg.all fun t => fr.all fun p => t != p.1

theorem compSc_of {scope : Scope} {sc : Sc} {ns : List Str} {fr : List (Nat × Nat)} {tg : List Nat} (h : compOkB scope sc ns fr tg = true) : CompSc scope sc ⟨ns, scope.names, none, none⟩ fr tg := by
  unfold compOkB at h
  simp only [Bool.and_eq_true, List.all_eq_true, decide_eq_true_eq, beq_iff_eq, bne_iff_ne, Bool.or_eq_true, List.any_eq_true] at h
  obtain ⟨⟨⟨⟨⟨⟨h1, h2⟩, h3⟩, h4⟩, h5⟩, h6⟩, h7⟩ := h
  refine ⟨rfl, h1, h2, fun x hx hl => (h3 x hx).elim (fun n => absurd hl n) id, h4, rfl, rfl, fun x hx hl => ?_, fun p hp => ?_, h7⟩
  · obtain ⟨p, hp, a, b⟩ := (h5 x hx).resolve_left (fun n => n hl)
    exact ⟨p, hp, a, b⟩
  · have := h6 p hp
    cases hq : ns[p.1]? with
    | none => rw [hq] at this; cases this
    | some x =>
      rw [hq] at this
      simp only [Bool.and_eq_true, beq_iff_eq, Bool.or_eq_true] at this
      exact ⟨x, by first | rfl | exact hq, this.1.1, mem_of_lookup' this.1.2, this.1.2, this.2⟩

noncomputable def fnOkB (scope : Scope) (ns : List Str) (n : Nat) : Bool :=
  scope.kind == .function && scope.names.all (fun x => x.2 != .free) && decide ns.Nodup && decide (n ≤ ns.length) && (ns.take n).all fun x => scope.names.lookup x == some .local || scope.names.lookup x == some .cell

theorem fnSc_of {scope : Scope} {sc : Sc} {n : Nat} (hk : sc.ks = scope.names) (h : fnOkB scope sc.ns n = true) : FnSc scope sc (sc.ns.take n) := by
  unfold fnOkB at h
  simp only [Bool.and_eq_true, List.all_eq_true, decide_eq_true_eq, beq_iff_eq, bne_iff_ne, Bool.or_eq_true] at h
  obtain ⟨⟨⟨⟨h1, h2⟩, h3⟩, h4⟩, h5⟩ := h
  exact ⟨hk, h1, h2, h3, ⟨sc.ns.drop n, (List.take_append_drop n sc.ns).symm⟩, h5⟩

section
variable {K : Cx} {sc : Sc}

theorem rL_comp {elt target iter : Expr} {ifs : List Expr} {scope : Scope} {pos : Pos} {ce : CE} {cond : CO} {tg : List Nat} {src : CI} {ns : List Str} {fr : List (Nat × Nat)} (tup : Bool)
    (hs : compOkB scope sc ns fr tg = true) (hT : TgOk ⟨ns, scope.names, none, none⟩ tup target tg) (hlen : tg.length = if tup = true then 2 else 1) (hI : SndI K sc iter src tup) (helt : SndE K ⟨ns, scope.names, none, none⟩ elt ce) (hcond : SndC K ⟨ns, scope.names, none, none⟩ ifs cond)
    (hf : ∀ (env : Env) (x : Value), foldedSetIterable iter env x = pure x) : SndL K sc (.ListComp elt [⟨target, iter, ifs, 0⟩] scope pos) (.comp ce cond tg src ns fr) :=
  sndL_comp (sc' := ⟨ns, scope.names, none, none⟩) rfl (compSc_of hs) hT hlen hI helt hcond hf

theorem rS_compF {elt target iter : Expr} {ifs : List Expr} {scope : Scope} {pos spos py : Pos} {y : Str} {i : Nat} {ce : CE} {cond : CO} {tg : List Nat} {src : CI} {ns : List Str} {fr : List (Nat × Nat)} (tup : Bool)
    (hs : compOkB scope sc ns fr tg = true) (hT : TgOk ⟨ns, scope.names, none, none⟩ tup target tg) (hlen : tg.length = if tup = true then 2 else 1) (hI : SndI K sc iter src tup) (helt : SndE K ⟨ns, scope.names, none, none⟩ elt ce) (hcond : SndC K ⟨ns, scope.names, none, none⟩ ifs cond)
    (hf : ∀ (env : Env) (x : Value), foldedSetIterable iter env x = pure x)
    (e1 : sc.ns[i]? = some y) (hy : sc.ks.lookup y = some .local) (hl : (py.line == pos.line) = true) (hn : (scope.names.any fun x => x.1 == y && (x.2 == .local || x.2 == .cell)) = false) :
    SndS K sc (.Assign [.Name y py] (.ListComp elt [⟨target, iter, ifs, 0⟩] scope pos) spos) (.asg false i (.fl (.comp ce cond tg src ns fr))) :=
  sndS_asgComp (sc' := ⟨ns, scope.names, none, none⟩) rfl (compSc_of hs) hT hlen hI helt hcond hf e1 hy hl hn false
theorem rS_compM {elt target iter : Expr} {ifs : List Expr} {scope : Scope} {pos spos py : Pos} {y : Str} {i : Nat} {ce : CE} {cond : CO} {tg : List Nat} {src : CI} {ns : List Str} {fr : List (Nat × Nat)} (tup : Bool)
    (hs : compOkB scope sc ns fr tg = true) (hT : TgOk ⟨ns, scope.names, none, none⟩ tup target tg) (hlen : tg.length = if tup = true then 2 else 1) (hI : SndI K sc iter src tup) (helt : SndE K ⟨ns, scope.names, none, none⟩ elt ce) (hcond : SndC K ⟨ns, scope.names, none, none⟩ ifs cond)
    (hf : ∀ (env : Env) (x : Value), foldedSetIterable iter env x = pure x)
    (e1 : sc.ns[i]? = some y) (hy : sc.ks.lookup y = some .local) (hl : (py.line == pos.line) = true) (hn : (scope.names.any fun x => x.1 == y && (x.2 == .local || x.2 == .cell)) = false) :
    SndS K sc (.Assign [.Name y py] (.ListComp elt [⟨target, iter, ifs, 0⟩] scope pos) spos) (.asg false i (.ml (.comp ce cond tg src ns fr))) :=
  sndS_asgComp (sc' := ⟨ns, scope.names, none, none⟩) rfl (compSc_of hs) hT hlen hI helt hcond hf e1 hy hl hn true

theorem swaps_cell {elt : Expr} {gens : List Comprehension} {scope : Scope} {pos py : Pos} {y : Str} {line : Nat} (hy : sc.ks.lookup y = some .cell) : ∀ env, EnvOk sc env → swapsWith (.ListComp elt gens scope pos) (some (.Name y py)) line env = pure false := fun env H => by
  unfold swapsWith
  show (pure (env.blockKind == .function && env.kindOf y == some .local && py.line == pos.line && !(scope.names.any fun x => x.1 == y && (x.2 == .local || x.2 == .cell))) : Sem Bool) = pure false
  rw [H.ke y hy]
  cases env.blockKind == ScopeKind.function <;> rfl
end

/- MCe -/


/- Code.__init__ -/
noncomputable def ns74 : List Str := [Str.ofString "self", Str.ofString "name", Str.ofString "arity", Str.ofString "slots", Str.ofString "rows", Str.ofString "static", Str.ofString "captures", Str.ofString "marks"]
noncomputable def ce74 : CSs :=
  (.cons (.setA (.loc 0) 0 (.loc 1))
  (.cons (.setA (.loc 0) 1 (.loc 2))
  (.cons (.setA (.loc 0) 2 (.loc 3))
  (.cons (.setA (.loc 0) 3 (.call (.glo 29) (.cons (.loc 4) .nil)))
  (.cons (.setA (.loc 0) 4 (.call (.glo 29) (.cons (.loc 5) .nil)))
  (.cons (.setA (.loc 0) 5 (.call (.glo 29) (.cons (.loc 6) .nil)))
  (.cons (.setA (.loc 0) 6 (.call (.glo 29) (.cons (.loc 7) .nil)))
  .nil)))))))

/- Code.with_rows -/
noncomputable def ns81 : List Str := [Str.ofString "self", Str.ofString "rows", Str.ofString "slots"]
noncomputable def ce81 : CSs :=
  (.cons (.ret (.call (.glo 1) (.cons (.attr (.loc 0) 0) (.cons (.attr (.loc 0) 1) (.cons (.loc 2) (.cons (.loc 1) (.cons (.attr (.loc 0) 4) (.cons (.attr (.loc 0) 5) (.cons (.attr (.loc 0) 6) .nil)))))))))
  .nil)

/- shape_of -/
noncomputable def ns95 : List Str := [Str.ofString "row", Str.ofString "found"]
noncomputable def ce95 : CSs :=
  (.cons (.asg false 1 (.meth (.glo 0) 2 (.cons (.sub (.loc 0) (.cint 0)) .nil)))
  (.cons (.ite (.bop false (.cons (.cmp .Is (.loc 1) .cnone) (.cons (.cmp .NotEq (.call (.glo 25) (.cons (.loc 1) .nil)) (.bin .Sub (.call (.glo 25) (.cons (.loc 0) .nil)) (.cint 1))) .nil))) (.cons .bad
  .nil) .nil)
  (.cons (.ret (.loc 1))
  .nil)))

/- goals_of -/
noncomputable def ns100 : List Str := [Str.ofString "row"]
noncomputable def ce100 : CSs :=
  (.cons (.ret (.fl (.comp (.loc 1) (.some (.cmp .Eq (.loc 0) (.cstr 35))) [0, 1] (.zip (.call (.glo 2) (.cons (.loc 0) .nil)) (.sli (.loc 0) (.cint 1) .cnone)) [Str.ofString "letter", Str.ofString "part"] [])))
  .nil)

/- turned_row -/
noncomputable def ns105 : List Str := [Str.ofString "row", Str.ofString "register", Str.ofString "goal", Str.ofString "found", Str.ofString "letter", Str.ofString "part"]
noncomputable def ce105 : CSs :=
  (.cons (.asg false 3 (.ml (.disp (.cons (.sub (.loc 0) (.cint 0)) .nil))))
  (.cons (.forr [4, 5] (.zip (.call (.glo 2) (.cons (.loc 0) .nil)) (.sli (.loc 0) (.cint 1) .cnone)) (.cons (.ite (.cmp .In (.loc 4) (.cstr 26)) (.cons (.expr (.meth (.loc 3) 0 (.cons (.call (.loc 1) (.cons (.loc 5) .nil)) .nil)))
  .nil) (.cons (.ite (.cmp .Eq (.loc 4) (.cstr 43)) (.cons (.expr (.meth (.loc 3) 0 (.cons (.call (.glo 29) (.cons (.fl (.comp (.call (.loc 1) (.cons (.loc 0) .nil)) .none [0] (.items (.loc 5)) [Str.ofString "one", Str.ofString "register"] [(1, 1)])) .nil)) .nil)))
  .nil) (.cons (.expr (.meth (.loc 3) 0 (.cons (.ite (.cmp .Eq (.loc 4) (.cstr 35)) (.call (.loc 2) (.cons (.loc 5) .nil)) (.loc 5)) .nil)))
  .nil))
  .nil))
  .nil))
  (.cons (.ret (.call (.glo 29) (.cons (.loc 3) .nil)))
  .nil)))

/- is_straight -/
noncomputable def ns111 : List Str := [Str.ofString "code", Str.ofString "rows"]
noncomputable def ce111 : CSs :=
  (.cons (.asg false 1 (.attr (.loc 0) 3))
  (.cons (.ite (.bop false (.cons (.not (.cmp2 .Lt .LtE (.cint 0) (.call (.glo 25) (.cons (.loc 1) .nil)) (.glo 5))) (.cons (.cmp .NotEq (.sub (.sub (.loc 1) (.neg (.cint 1))) (.cint 0)) (.cstr 16)) .nil))) (.cons (.ret (.cbool false))
  .nil) .nil)
  (.cons (.ret (.cmp .Eq (.fl (.comp (.loc 0) (.some (.cmp .NotIn (.sub (.loc 0) (.cint 0)) (.glo 7))) [0] (.items (.sli (.loc 1) .cnone (.neg (.cint 1)))) [Str.ofString "row"] [])) (.fl (.disp .nil))))
  .nil)))

/- body_of -/
noncomputable def ns118 : List Str := [Str.ofString "row", Str.ofString "methods", Str.ofString "method"]
noncomputable def ce118 : CSs :=
  (.cons (.ite (.bop false (.cons (.cmp .NotEq (.sub (.loc 0) (.cint 0)) (.cstr 23)) (.cons (.not (.cmp2 .LtE .Lt (.cint 0) (.sub (.loc 0) (.cint 2)) (.call (.glo 25) (.cons (.loc 1) .nil)))) .nil))) (.cons (.ret .cnone)
  .nil) .nil)
  (.cons (.asg false 2 (.sub (.loc 1) (.sub (.loc 0) (.cint 2))))
  (.cons (.ite (.bop false (.cons (.cmp .Is (.attr (.loc 2) 7) .cnone) (.cons (.attr (.loc 2) 14) (.cons (.cmp .NotEq (.call (.glo 25) (.cons (.sub (.loc 0) (.cint 3)) .nil)) (.bin .Add (.call (.glo 25) (.cons (.attr (.loc 2) 13) .nil)) (.cint 1))) .nil)))) (.cons (.ret .cnone)
  .nil) .nil)
  (.cons (.ret (.ite (.call (.glo 8) (.cons (.attr (.loc 2) 7) .nil)) (.attr (.loc 2) 7) .cnone))
  .nil))))

/- put_in -/
noncomputable def ns123 : List Str := [Str.ofString "row", Str.ofString "body", Str.ofString "first", Str.ofString "found", Str.ofString "inner"]
noncomputable def ce123 : CSs :=
  (.cons (.asg false 3 (.ml (.comp (.tup (.cons (.cstr 1) (.cons (.bin .Add (.loc 2) (.loc 0)) (.cons (.loc 1) .nil)))) .none [0, 1] (.enum (.sub (.loc 0) (.cint 3))) [Str.ofString "at", Str.ofString "register", Str.ofString "first"] [(2, 2)])))
  (.cons (.forr [4] (.items (.sli (.attr (.loc 1) 3) .cnone (.neg (.cint 1)))) (.cons (.expr (.meth (.loc 3) 0 (.cons (.call (.glo 4) (.cons (.loc 4) (.cons (.lam 0 [2]) (.cons (.lam 1 []) .nil)))) .nil)))
  .nil))
  (.cons (.ret (.bin .Add (.loc 3) (.fl (.disp (.cons (.tup (.cons (.cstr 1) (.cons (.sub (.loc 0) (.cint 1)) (.cons (.bin .Add (.loc 2) (.sub (.sub (.attr (.loc 1) 3) (.neg (.cint 1))) (.cint 1))) .nil)))) .nil)))))
  .nil)))

/- Inliner.__init__ -/
noncomputable def ns137 : List Str := [Str.ofString "self", Str.ofString "code", Str.ofString "methods"]
noncomputable def ce137 : CSs :=
  (.cons (.setA (.loc 0) 7 (.loc 1))
  (.cons (.setA (.loc 0) 8 (.loc 2))
  (.cons (.setA (.loc 0) 3 (.ml (.disp .nil)))
  (.cons (.setA (.loc 0) 9 (.ml (.disp .nil)))
  (.cons (.setA (.loc 0) 2 (.attr (.loc 1) 2))
  .nil)))))

/- Inliner.write -/
noncomputable def ns144 : List Str := [Str.ofString "self", Str.ofString "row", Str.ofString "body"]
noncomputable def ce144 : CSs :=
  (.cons (.expr (.meth (.attr (.loc 0) 9) 0 (.cons (.call (.glo 25) (.cons (.attr (.loc 0) 3) .nil)) .nil)))
  (.cons (.asg false 2 (.call (.glo 9) (.cons (.loc 1) (.cons (.attr (.loc 0) 8) .nil))))
  (.cons (.ite (.bop false (.cons (.cmp .Is (.loc 2) .cnone) (.cons (.cmp .Gt (.bin .Add (.call (.glo 25) (.cons (.attr (.loc 0) 3) .nil)) (.call (.glo 25) (.cons (.attr (.loc 2) 3) .nil))) (.glo 6)) .nil))) (.cons (.expr (.meth (.attr (.loc 0) 3) 0 (.cons (.loc 1) .nil)))
  .nil) (.cons (.expr (.meth (.attr (.loc 0) 3) 1 (.cons (.call (.glo 10) (.cons (.loc 1) (.cons (.loc 2) (.cons (.attr (.loc 0) 2) .nil)))) .nil)))
  (.cons (.setA (.loc 0) 2 (.bin .Add (.attr (.loc 0) 2) (.call (.glo 26) (.cons (.attr (.loc 2) 2) (.cons (.call (.glo 25) (.cons (.sub (.loc 1) (.cint 3)) .nil)) .nil)))))
  .nil)))
  .nil)))

/- Inliner.run -/
noncomputable def ns149 : List Str := [Str.ofString "self", Str.ofString "row", Str.ofString "rows"]
noncomputable def ce149 : CSs :=
  (.cons (.forr [1] (.items (.attr (.attr (.loc 0) 7) 3)) (.cons (.expr (.meth (.loc 0) 4 (.cons (.loc 1) .nil)))
  .nil))
  (.cons (.asg false 2 (.fl (.comp (.meth (.loc 1) 6 (.cons (.loc 0) .nil)) .none [0] (.items (.attr (.loc 0) 3)) [Str.ofString "row", Str.ofString "self"] [(1, 0)])))
  (.cons (.ret (.meth (.attr (.loc 0) 7) 3 (.cons (.call (.glo 29) (.cons (.loc 2) .nil)) (.cons (.attr (.loc 0) 2) .nil))))
  .nil)))

/- Inliner.led -/
noncomputable def ns156 : List Str := [Str.ofString "self", Str.ofString "row"]
noncomputable def ce156 : CSs :=
  (.cons (.ite (.cmp .Eq (.call (.glo 3) (.cons (.loc 1) .nil)) (.fl (.disp .nil))) (.cons (.ret (.loc 1))
  .nil) .nil)
  (.cons (.ret (.call (.glo 4) (.cons (.loc 1) (.cons (.lam 2 []) (.cons (.lam 3 [0]) .nil)))))
  .nil))

/- inlined -/
noncomputable def ns170 : List Str := [Str.ofString "code", Str.ofString "methods"]
noncomputable def ce170 : CSs :=
  (.cons (.ret (.meth (.call (.glo 11) (.cons (.loc 0) (.cons (.loc 1) .nil))) 5 .nil))
  .nil)

/- Method.__init__ -/
noncomputable def ns185 : List Str := [Str.ofString "self", Str.ofString "number", Str.ofString "table", Str.ofString "sig", Str.ofString "names", Str.ofString "has_rest", Str.ofString "code", Str.ofString "tree", Str.ofString "world_from", Str.ofString "world_to"]
noncomputable def ce185 : CSs :=
  (.cons (.setA (.loc 0) 10 (.loc 1))
  (.cons (.setA (.loc 0) 11 (.loc 2))
  (.cons (.setA (.loc 0) 12 (.loc 3))
  (.cons (.setA (.loc 0) 13 (.loc 4))
  (.cons (.setA (.loc 0) 14 (.loc 5))
  (.cons (.setA (.loc 0) 7 (.loc 6))
  (.cons (.setA (.loc 0) 15 (.loc 7))
  (.cons (.setA (.loc 0) 16 (.loc 8))
  (.cons (.setA (.loc 0) 17 (.loc 9))
  .nil)))))))))

/- _law_source -/
noncomputable def ns220 : List Str := [Str.ofString "script", Str.ofString "cell", Str.ofString "great"]
noncomputable def ce220 : CSs :=
  (.cons (.asg false 1 (.ite (.cmp .Gt (.call (.glo 25) (.cons (.loc 0) .nil)) (.cint 0)) (.call (.glo 30) (.cons (.sub (.loc 0) (.cint 0)) .nil)) (.cint 0)))
  (.cons (.asg false 2 (.ite (.cmp .GtE (.loc 1) (.cint 0)) (.loc 1) (.bin .Sub (.neg (.cint 1)) (.loc 1))))
  (.cons (.ret (.ml (.disp (.cons (.ite (.cmp .GtE (.loc 2) (.bin .Pow (.cint 10) (.cint 18))) (.loc 2) (.cint 0)) (.cons (.bin .Add (.bin .Mod (.bin .Mult (.bin .Mod (.loc 2) (.cint 2147483587)) (.cint 39373)) (.cint 2147483647)) (.cint 3)) .nil)))))
  .nil)))

/- _law_digit -/
noncomputable def ns227 : List Str := [Str.ofString "source", Str.ofString "many", Str.ofString "told"]
noncomputable def ce227 : CSs :=
  (.cons (.ite (.cmp .Gt (.sub (.loc 0) (.cint 0)) (.cint 0)) (.cons (.asg false 2 (.bin .Mod (.sub (.loc 0) (.cint 0)) (.loc 1)))
  (.cons (.setI (.loc 0) (.cint 0) (.bin .FloorDiv (.sub (.loc 0) (.cint 0)) (.loc 1)))
  (.cons (.ret (.loc 2))
  .nil))) .nil)
  (.cons (.setI (.loc 0) (.cint 1) (.bin .Mod (.bin .Add (.bin .Mult (.sub (.loc 0) (.cint 1)) (.cint 39373)) (.cint 11)) (.cint 2147483647)))
  (.cons (.ret (.bin .Mod (.bin .FloorDiv (.sub (.loc 0) (.cint 1)) (.cint 16)) (.loc 1)))
  .nil)))

/- _law_quiet -/
noncomputable def ns232 : List Str := [Str.ofString "source", Str.ofString "slots", Str.ofString "goal", Str.ofString "some", Str.ofString "way"]
noncomputable def ce232 : CSs :=
  (.cons (.asg2 false false 2 3 (.call (.glo 15) (.cons (.loc 0) (.cons (.loc 1) .nil))) (.fl (.comp (.call (.glo 15) (.cons (.loc 1) (.cons (.cint 4) .nil))) .none [0] (.range1 (.cint 2)) [Str.ofString "turn", Str.ofString "source"] [(1, 0)])))
  (.cons (.asg false 4 (.call (.glo 15) (.cons (.loc 0) (.cons (.cint 4) .nil))))
  (.cons (.ite (.cmp .Eq (.loc 4) (.cint 0)) (.cons (.ret (.tup (.cons (.cstr 0) (.cons (.loc 2) (.cons (.call (.glo 15) (.cons (.loc 0) (.cons (.cint 90) .nil))) .nil)))))
  .nil) .nil)
  (.cons (.ite (.cmp .Eq (.loc 4) (.cint 1)) (.cons (.ret (.tup (.cons (.cstr 1) (.cons (.loc 2) (.cons (.sub (.loc 3) (.cint 0)) .nil)))))
  .nil) .nil)
  (.cons (.ret (.tup (.cons (.cstr 6) (.cons (.loc 2) (.cons (.sub (.loc 3) (.cint 0)) (.cons (.call (.glo 29) (.cons (.sli (.loc 3) .cnone (.bin .Add (.cint 1) (.bin .Mod (.loc 4) (.cint 2)))) .nil)) .nil))))))
  .nil)))))

/- _law_method -/
noncomputable def ns237 : List Str := [Str.ofString "source", Str.ofString "number", Str.ofString "many", Str.ofString "ahead", Str.ofString "rows", Str.ofString "odd", Str.ofString "code"]
noncomputable def ce237 : CSs :=
  (.cons (.asg false 2 (.call (.glo 15) (.cons (.loc 0) (.cons (.cint 4) .nil))))
  (.cons (.asg false 3 (.fl (.comp (.tup (.cons (.cstr 0) (.cons (.loc 0) (.cons (.bin .Mult (.cint 7) (.loc 0)) .nil)))) .none [0] (.range2 (.bin .Add (.loc 2) (.cint 1)) (.cint 5)) [Str.ofString "at"] [])))
  (.cons (.asg false 4 (.ml (.comp (.call (.glo 16) (.cons (.loc 1) (.cons (.cint 5) .nil))) .none [0] (.range1 (.bin .Add (.cint 1) (.call (.glo 15) (.cons (.loc 0) (.cons (.cint 3) .nil))))) [Str.ofString "turn", Str.ofString "source"] [(1, 0)])))
  (.cons (.asg false 5 (.call (.glo 15) (.cons (.loc 0) (.cons (.cint 8) .nil))))
  (.cons (.ite (.cmp .Eq (.loc 5) (.cint 0)) (.cons (.expr (.meth (.loc 4) 0 (.cons (.tup (.cons (.cstr 14) (.cons (.bin .Add (.bin .Add (.call (.glo 25) (.cons (.loc 3) .nil)) (.call (.glo 25) (.cons (.loc 4) .nil))) (.cint 1)) .nil))) .nil)))
  .nil) .nil)
  (.cons (.ite (.cmp .Eq (.loc 5) (.cint 1)) (.cons (.expr (.meth (.loc 4) 0 (.cons (.tup (.cons (.cstr 4) (.cons (.cint 4) (.cons (.cstr 44) .nil)))) .nil)))
  .nil) .nil)
  (.cons (.asg false 6 (.call (.glo 1) (.cons (.cstr 43) (.cons (.bin .Add (.loc 2) (.cint 1)) (.cons (.cint 5) (.cons (.call (.glo 29) (.cons (.bin .Add (.bin .Add (.loc 3) (.loc 4)) (.fl (.disp (.cons (.tup (.cons (.cstr 16) (.cons (.call (.glo 15) (.cons (.loc 0) (.cons (.cint 5) .nil))) .nil))) .nil)))) .nil)) (.cons (.tup (.cons (.cstr 44) .nil)) .nil)))))))
  (.cons (.ret (.call (.glo 13) (.cons (.loc 1) (.cons (.cstr 43) (.cons (.tup (.cons (.cstr 45) (.cons (.tup .nil) (.cons .cnone .nil)))) (.cons (.sli (.tup (.cons (.cstr 38) (.cons (.cstr 46) (.cons (.cstr 47) .nil)))) .cnone (.loc 2)) (.cons (.bop true (.cons (.cmp .Eq (.loc 5) (.cint 2)) (.cons (.cmp .Gt (.loc 2) (.cint 0)) .nil))) (.cons (.loc 6) (.cons .cnone .nil)))))))))
  .nil))))))))

/- _law_main -/
noncomputable def ns242 : List Str := [Str.ofString "source", Str.ofString "rows", Str.ofString "many", Str.ofString "turn", Str.ofString "way"]
noncomputable def ce242 : CSs :=
  (.cons (.asg2 false false 1 2 (.ml (.comp (.tup (.cons (.cstr 0) (.cons (.loc 0) (.cons (.bin .Mult (.cint 3) (.loc 0)) .nil)))) .none [0] (.range1 (.cint 6)) [Str.ofString "at"] [])) (.bin .Add (.cint 1) (.call (.glo 15) (.cons (.loc 0) (.cons (.cint 3) .nil)))))
  (.cons (.forr [3] (.range1 (.loc 2)) (.cons (.asg false 4 (.call (.glo 15) (.cons (.loc 0) (.cons (.cint 6) .nil))))
  (.cons (.ite (.cmp .Lt (.loc 4) (.cint 3)) (.cons (.expr (.meth (.loc 1) 0 (.cons (.tup (.cons (.cstr 23) (.cons (.call (.glo 15) (.cons (.loc 0) (.cons (.cint 6) .nil))) (.cons (.call (.glo 15) (.cons (.loc 0) (.cons (.cint 3) .nil))) (.cons (.call (.glo 29) (.cons (.fl (.comp (.call (.glo 15) (.cons (.loc 1) (.cons (.cint 4) .nil))) .none [0] (.range1 (.bin .Add (.cint 1) (.call (.glo 15) (.cons (.loc 0) (.cons (.cint 4) .nil))))) [Str.ofString "one", Str.ofString "source"] [(1, 0)])) .nil)) .nil))))) .nil)))
  .nil) (.cons (.ite (.cmp .Eq (.loc 4) (.cint 3)) (.cons (.expr (.meth (.loc 1) 0 (.cons (.tup (.cons (.cstr 15) (.cons (.call (.glo 15) (.cons (.loc 0) (.cons (.cint 4) .nil))) (.cons (.bin .Add (.bin .Add (.call (.glo 25) (.cons (.loc 1) .nil)) (.cint 1)) (.call (.glo 15) (.cons (.loc 0) (.cons (.bin .Sub (.loc 2) (.loc 3)) .nil)))) .nil)))) .nil)))
  .nil) (.cons (.ite (.cmp .Eq (.loc 4) (.cint 4)) (.cons (.expr (.meth (.loc 1) 0 (.cons (.tup (.cons (.cstr 14) (.cons (.bin .Add (.bin .Add (.call (.glo 25) (.cons (.loc 1) .nil)) (.cint 1)) (.call (.glo 15) (.cons (.loc 0) (.cons (.bin .Sub (.loc 2) (.loc 3)) .nil)))) .nil))) .nil)))
  .nil) (.cons (.expr (.meth (.loc 1) 0 (.cons (.call (.glo 16) (.cons (.loc 0) (.cons (.cint 6) .nil))) .nil)))
  .nil))
  .nil))
  .nil))
  .nil)))
  (.cons (.ret (.bin .Add (.loc 1) (.fl (.disp (.cons (.tup (.cons (.cstr 16) (.cons (.call (.glo 15) (.cons (.loc 0) (.cons (.cint 6) .nil))) .nil))) .nil)))))
  .nil)))

/- _law_run -/
noncomputable def ns247 : List Str := [Str.ofString "code", Str.ofString "values", Str.ofString "methods", Str.ofString "calls", Str.ofString "registers", Str.ofString "at", Str.ofString "row", Str.ofString "told", Str.ofString "handed"]
noncomputable def ce247 : CSs :=
  (.cons (.asg2 true false 4 5 (.ml (.add (.call (.glo 28) (.cons (.loc 1) .nil)) (.bin .Mult (.fl (.disp (.cons .cnone .nil))) (.bin .Sub (.attr (.loc 0) 2) (.call (.glo 25) (.cons (.loc 1) .nil)))))) (.cint 0))
  (.cons (.whil (.cmp .NotEq (.sub (.sub (.attr (.loc 0) 3) (.loc 5)) (.cint 0)) (.cstr 16)) (.cons (.asg false 6 (.sub (.attr (.loc 0) 3) (.loc 5)))
  (.cons (.asg false 5 (.bin .Add (.loc 5) (.cint 1)))
  (.cons (.ite (.cmp .Eq (.sub (.loc 6) (.cint 0)) (.cstr 0)) (.cons (.setI (.loc 4) (.sub (.loc 6) (.cint 1)) (.sub (.loc 6) (.cint 2)))
  .nil) (.cons (.ite (.cmp .Eq (.sub (.loc 6) (.cint 0)) (.cstr 1)) (.cons (.setI (.loc 4) (.sub (.loc 6) (.cint 1)) (.sub (.loc 4) (.sub (.loc 6) (.cint 2))))
  .nil) (.cons (.ite (.cmp .Eq (.sub (.loc 6) (.cint 0)) (.cstr 14)) (.cons (.asg false 5 (.sub (.loc 6) (.cint 1)))
  .nil) (.cons (.ite (.cmp .Eq (.sub (.loc 6) (.cint 0)) (.cstr 15)) (.cons (.asg false 5 (.ite (.cmp .Eq (.bin .Mod (.sub (.loc 4) (.sub (.loc 6) (.cint 1))) (.cint 2)) (.cint 1)) (.sub (.loc 6) (.cint 2)) (.loc 5)))
  .nil) (.cons (.ite (.cmp .Eq (.sub (.loc 6) (.cint 0)) (.cstr 6)) (.cons (.asg false 7 (.bin .Add (.fl (.disp (.cons (.sub (.loc 4) (.sub (.loc 6) (.cint 2))) .nil))) (.fl (.comp (.sub (.loc 1) (.loc 0)) .none [0] (.items (.sub (.loc 6) (.cint 3))) [Str.ofString "one", Str.ofString "registers"] [(1, 4)]))))
  (.cons (.expr (.meth (.loc 3) 0 (.cons (.loc 7) .nil)))
  (.cons (.setI (.loc 4) (.sub (.loc 6) (.cint 1)) (.bin .Mod (.call (.glo 27) (.cons (.fl (.comp (.bin .Add (.bin .Mult (.loc 0) (.cint 31)) (.cint 17)) .none [0] (.items (.loc 7)) [Str.ofString "one"] [])) .nil)) (.cint 9973)))
  .nil))) (.cons (.ite (.cmp .Eq (.sub (.loc 6) (.cint 0)) (.cstr 4)) (.cons (.setI (.loc 4) (.sub (.loc 6) (.cint 1)) (.cint 5))
  .nil) (.cons (.asg false 8 (.fl (.comp (.sub (.loc 1) (.loc 0)) .none [0] (.items (.sub (.loc 6) (.cint 3))) [Str.ofString "one", Str.ofString "registers"] [(1, 4)])))
  (.cons (.expr (.meth (.loc 3) 0 (.cons (.ite (.call (.glo 21) (.cons (.loc 6) (.cons (.loc 2) .nil))) (.fl (.disp (.cons (.cstr 22) (.cons (.sub (.loc 6) (.cint 2)) (.cons (.call (.glo 25) (.cons (.loc 8) .nil)) .nil))))) (.fl (.disp .nil))) .nil)))
  (.cons (.setI (.loc 4) (.sub (.loc 6) (.cint 1)) (.call (.glo 20) (.cons (.sub (.loc 2) (.sub (.loc 6) (.cint 2))) (.cons (.loc 8) (.cons (.loc 2) (.cons (.loc 3) .nil))))))
  .nil))))
  .nil))
  .nil))
  .nil))
  .nil))
  .nil))
  .nil))))
  (.cons (.ret (.sub (.loc 4) (.sub (.sub (.attr (.loc 0) 3) (.loc 5)) (.cint 1))))
  .nil)))

/- _law_body -/
noncomputable def ns254 : List Str := [Str.ofString "method", Str.ofString "handed", Str.ofString "methods", Str.ofString "calls", Str.ofString "many"]
noncomputable def ce254 : CSs :=
  (.cons (.asg false 4 (.bin .Add (.call (.glo 25) (.cons (.attr (.loc 0) 13) .nil)) (.cint 1)))
  (.cons (.ite (.bop true (.cons (.cmp .NotEq (.call (.glo 25) (.cons (.loc 1) .nil)) (.loc 4)) (.cons (.not (.bop true (.cons (.attr (.loc 0) 14) (.cons (.cmp .GtE (.call (.glo 25) (.cons (.loc 1) .nil)) (.bin .Sub (.loc 4) (.cint 1))) .nil)))) .nil))) (.cons (.ret (.bin .Add (.cint 1000) (.call (.glo 25) (.cons (.loc 1) .nil))))
  .nil) .nil)
  (.cons (.ite (.attr (.loc 0) 14) (.cons (.asg false 1 (.bin .Add (.sli (.loc 1) .cnone (.bin .Sub (.loc 4) (.cint 1))) (.fl (.disp (.cons (.call (.glo 27) (.cons (.sli (.loc 1) (.bin .Sub (.loc 4) (.cint 1)) .cnone) .nil)) .nil)))))
  .nil) .nil)
  (.cons (.ret (.call (.glo 19) (.cons (.attr (.loc 0) 7) (.cons (.loc 1) (.cons (.loc 2) (.cons (.loc 3) .nil))))))
  .nil))))

/- _law_is_kept -/
noncomputable def ns259 : List Str := [Str.ofString "row", Str.ofString "methods", Str.ofString "method", Str.ofString "words"]
noncomputable def ce259 : CSs :=
  (.cons (.asg false 2 (.sub (.loc 1) (.sub (.loc 0) (.cint 2))))
  (.cons (.asg false 3 (.fl (.comp (.sub (.loc 0) (.cint 0)) .none [0] (.items (.attr (.attr (.loc 2) 7) 3)) [Str.ofString "one"] [])))
  (.cons (.ret (.bop false (.cons (.cmp .In (.cstr 14) (.loc 3)) (.cons (.cmp .In (.cstr 4) (.loc 3)) (.cons (.attr (.loc 2) 14) (.cons (.cmp .NotEq (.call (.glo 25) (.cons (.sub (.loc 0) (.cint 3)) .nil)) (.bin .Add (.call (.glo 25) (.cons (.attr (.loc 2) 13) .nil)) (.cint 1))) .nil))))))
  .nil)))

/- _law_tops -/
noncomputable def ns266 : List Str := [Str.ofString "rows", Str.ofString "methods", Str.ofString "found", Str.ofString "at", Str.ofString "row", Str.ofString "is_put"]
noncomputable def ce266 : CSs :=
  (.cons (.asg2 false false 2 3 (.ml (.disp .nil)) (.cint 0))
  (.cons (.forr [4] (.items (.loc 0)) (.cons (.expr (.meth (.loc 2) 0 (.cons (.loc 3) .nil)))
  (.cons (.asg false 5 (.bop true (.cons (.cmp .Eq (.sub (.loc 4) (.cint 0)) (.cstr 23)) (.cons (.not (.call (.glo 21) (.cons (.loc 4) (.cons (.loc 1) .nil)))) .nil))))
  (.cons (.asg false 3 (.bin .Add (.loc 3) (.ite (.loc 5) (.bin .Add (.call (.glo 25) (.cons (.sub (.loc 4) (.cint 3)) .nil)) (.call (.glo 25) (.cons (.attr (.attr (.sub (.loc 1) (.sub (.loc 4) (.cint 2))) 7) 3) .nil))) (.cint 1))))
  .nil))))
  (.cons (.ret (.bin .Add (.loc 2) (.fl (.disp (.cons (.loc 3) .nil)))))
  .nil)))

/- _law_registers -/
noncomputable def ns273 : List Str := [Str.ofString "row"]
noncomputable def ce273 : CSs :=
  (.cons (.ite (.cmp .In (.sub (.loc 0) (.cint 0)) (.tup (.cons (.cstr 0) (.cons (.cstr 4) (.cons (.cstr 15) (.cons (.cstr 16) .nil)))))) (.cons (.ret (.fl (.disp (.cons (.sub (.loc 0) (.cint 1)) .nil))))
  .nil) .nil)
  (.cons (.ite (.cmp .Eq (.sub (.loc 0) (.cint 0)) (.cstr 14)) (.cons (.ret (.fl (.disp .nil)))
  .nil) .nil)
  (.cons (.ret (.ite (.cmp .Eq (.sub (.loc 0) (.cint 0)) (.cstr 1)) (.fl (.disp (.cons (.sub (.loc 0) (.cint 1)) (.cons (.sub (.loc 0) (.cint 2)) .nil)))) (.bin .Add (.bin .Add (.fl (.disp (.cons (.sub (.loc 0) (.cint 1)) .nil))) (.ite (.cmp .Eq (.sub (.loc 0) (.cint 0)) (.cstr 6)) (.fl (.disp (.cons (.sub (.loc 0) (.cint 2)) .nil))) (.fl (.disp .nil)))) (.call (.glo 28) (.cons (.sub (.loc 0) (.cint 3)) .nil)))))
  .nil)))

/- law -/
noncomputable def ns278 : List Str := [Str.ofString "script", Str.ofString "source", Str.ofString "methods", Str.ofString "code", Str.ofString "told", Str.ofString "tops", Str.ofString "at", Str.ofString "row", Str.ofString "one", Str.ofString "other"]
noncomputable def ce278 : CSs :=
  (.cons (.asg true 1 (.call (.glo 14) (.cons (.loc 0) .nil)))
  (.cons (.asg true 2 (.fl (.comp (.call (.glo 17) (.cons (.loc 1) (.cons (.loc 0) .nil))) .none [0] (.range1 (.cint 3)) [Str.ofString "number", Str.ofString "source"] [(1, 1)])))
  (.cons (.asg false 3 (.call (.glo 1) (.cons (.cstr 48) (.cons (.cint 1) (.cons (.cint 6) (.cons (.call (.glo 29) (.cons (.call (.glo 18) (.cons (.loc 1) .nil)) .nil)) .nil))))))
  (.cons (.asg2 true false 4 5 (.call (.glo 12) (.cons (.loc 3) (.cons (.loc 2) .nil))) (.call (.glo 22) (.cons (.call (.glo 28) (.cons (.attr (.loc 3) 3) .nil)) (.cons (.loc 2) .nil))))
  (.cons (.ite (.bop false (.cons (.cmp .NotEq (.call (.glo 25) (.cons (.attr (.loc 4) 3) .nil)) (.sub (.loc 5) (.neg (.cint 1)))) (.cons (.cmp .NotEq (.tup (.cons (.attr (.loc 4) 0) (.cons (.attr (.loc 4) 1) .nil))) (.tup (.cons (.cstr 48) (.cons (.cint 1) .nil)))) .nil))) (.cons (.ret (.cbool false))
  .nil) .nil)
  (.cons (.forr [6, 7] (.enum (.attr (.loc 3) 3)) (.cons (.ite (.bop true (.cons (.cmp .Eq (.sub (.loc 7) (.cint 0)) (.cstr 14)) (.cons (.cmp .NotEq (.sub (.attr (.loc 4) 3) (.sub (.loc 5) (.loc 6))) (.tup (.cons (.cstr 14) (.cons (.sub (.loc 5) (.sub (.loc 7) (.cint 1))) .nil)))) .nil))) (.cons (.ret (.cbool false))
  .nil) .nil)
  (.cons (.ite (.bop true (.cons (.cmp .Eq (.sub (.loc 7) (.cint 0)) (.cstr 15)) (.cons (.cmp .NotEq (.sub (.attr (.loc 4) 3) (.sub (.loc 5) (.loc 6))) (.tup (.cons (.cstr 15) (.cons (.sub (.loc 7) (.cint 1)) (.cons (.sub (.loc 5) (.sub (.loc 7) (.cint 2))) .nil))))) .nil))) (.cons (.ret (.cbool false))
  .nil) .nil)
  .nil)))
  (.cons (.ite (.cmp .NotEq (.fl (.comp (.loc 0) (.some (.bop true (.cons (.cmp .Eq (.sub (.loc 0) (.cint 0)) (.cstr 23)) (.cons (.not (.call (.glo 21) (.cons (.loc 0) (.cons (.loc 1) .nil)))) .nil)))) [0] (.items (.attr (.loc 4) 3)) [Str.ofString "row", Str.ofString "methods"] [(1, 2)])) (.fl (.disp .nil))) (.cons (.ret (.cbool false))
  .nil) .nil)
  (.cons (.ite (.cmp .NotEq (.fl (.comp (.loc 0) (.some (.cmp .GtE (.call (.glo 26) (.cons (.bin .Add (.call (.glo 23) (.cons (.loc 0) .nil)) (.fl (.disp (.cons (.cint 0) .nil)))) .nil)) (.attr (.loc 1) 2))) [0] (.items (.attr (.loc 4) 3)) [Str.ofString "row", Str.ofString "told"] [(1, 4)])) (.fl (.disp .nil))) (.cons (.ret (.cbool false))
  .nil) .nil)
  (.cons (.asg2 false false 8 9 (.ml (.disp .nil)) (.ml (.disp .nil)))
  (.cons (.ite (.cmp .NotEq (.call (.glo 19) (.cons (.loc 3) (.cons (.fl (.disp (.cons (.cint 1) .nil))) (.cons (.loc 2) (.cons (.loc 8) .nil))))) (.call (.glo 19) (.cons (.loc 4) (.cons (.fl (.disp (.cons (.cint 1) .nil))) (.cons (.loc 2) (.cons (.loc 9) .nil)))))) (.cons (.ret (.cbool false))
  .nil) .nil)
  (.cons (.ret (.cmp .Eq (.fl (.comp (.loc 0) (.some (.cmp .NotEq (.loc 0) (.fl (.disp .nil)))) [0] (.items (.loc 8)) [Str.ofString "call"] [])) (.fl (.comp (.loc 0) (.some (.cmp .NotEq (.loc 0) (.fl (.disp .nil)))) [0] (.items (.loc 9)) [Str.ofString "call"] []))))
  .nil)))))))))))


/- MLam2 -/


theorem Room.mono {m n : Nat} {A : Around} (h : Room n A) (hm : m ≤ n) : Room m A := ⟨h.hand, by have := h.deep; lia, by have := h.units; lia⟩

/- a context in which nothing is called -/
noncomputable def K0 (K : Cx) : Cx := { K with Φ := fun _ _ _ _ => False, n := 0, phi := fun _ _ _ h => h.elim, phiK := fun h => h.elim }

theorem zip_lookup : ∀ {ys : List Str} {cs : List Addr} {i : Nat} {y : Str} {c : Addr}, ys.Nodup → ys[i]? = some y → cs[i]? = some c → (ys.zip cs).lookup y = some c
  | [], _, _, _, _, _, e, _ => by simp at e
  | _ :: _, [], _, _, _, _, _, e => by simp at e
  | a :: ys, b :: cs, 0, y, c, hn, e1, e2 => by simp at e1 e2; subst e1 e2; simp
  | a :: ys, b :: cs, i + 1, y, c, hn, e1, e2 => by
    simp at e1 e2
    have hne : (y == a) = false := by
      have := (List.nodup_cons.mp hn).1
      simp only [beq_eq_false_iff_ne]
      intro e; subst e; exact this (List.mem_of_getElem? e1)
    rw [List.zip_cons_cons, List.lookup_cons, hne]
    exact zip_lookup (List.nodup_cons.mp hn).2 e1 e2

theorem lam_call {K : Cx} {L : LamT} {k : Nat} (hL : K.Λ[k]? = some L) (hn : 1 ≤ K.n) {x : Str}
    (hbind : ∀ (clos : List (Str × Addr)) (pm ctv v : Value) (c' : Addr), bindArgs (kla_fn "<lambda>" L.qual L.params L.body L.scope clos pm (.ref c') ctv) ⟨[v], []⟩ = pure [(x, v)])
    (hx : L.scope.names.lookup x = some .local) (hkind : L.scope.kind = .function) (hco : L.scope.isCoroutine = false) (hgen : L.scope.isGenerator = false) (hcell : ∀ y ∈ L.scope.names, y.2 ≠ .cell) (hcaps : ∀ y ∈ L.caps, L.scope.names.lookup y = some .free) (hnd : (x :: L.caps).Nodup)
    {ce : CE} (hb : SndE (K0 K) ⟨x :: L.caps, L.scope.names, none, none⟩ L.body ce)
    {A : Around} {ρ : Rho} {μ : List AO} {s : Shared} {cap : List PV} {p : PV} {f val : Value} {Q : Post} (hA : Room K.n A) (S : Sees K.g K.Λ ρ μ s) (d : VDen K.Λ ρ s.heap (.lam k cap) f) (dv : VDen K.Λ ρ s.heap p val)
    (hw : wpE (fun _ _ _ _ => False) ce (some p :: cap.map some) μ Q) : wpAny (model K.prog K.w) A (call f [val]) (Out K.g K.Λ ρ s Q) NoE s := by
  obtain ⟨L', f, c', oc, ctv, pm, cs, vs, rfl, e, sf, sc', hoc, hq, hf, hl, hl2, hcs, dcap⟩ := d.inv
  rw [hL] at e; cases e
  obtain ⟨fs, t, hfd, hf1⟩ := hq
  obtain ⟨mg, mb, pp, loose, mean, T⟩ := K.gd.top
  have hlim : s.heap.NoLimit := T.nolimit.keeps S.base
  refine wpAny_call (kla_callFunE hA.depth hf rfl hco hgen rfl ⟨c', oc, fs, t, rfl, hoc, hfd, hf1⟩ ?_)
  rw [hbind]
  refine wpAny_pure (wpAny_newFunctionEnv hcell (by intro y hy; simp at hy; subst hy; exact hx) (fun h₁ hns hsb => ⟨hlim.fresh _ hsb, ?_⟩) hkind)
  have hk : ∀ b o, s.heap.get? b = some o → h₁.get? b = some o := fun b o e => hsb.extBut b o (Nat.ne_of_lt (Heap.lt_size e)) (Heap.get?_push_of_some _ e)
  generalize hen : newEnv (kla_fn "<lambda>" L.qual L.params L.body L.scope (L.caps.zip cs) pm (.ref c') ctv).scope s.heap.objs.size (kla_fn "<lambda>" L.qual L.params L.body L.scope (L.caps.zip cs) pm (.ref c') ctv).globals
    (kla_fn "<lambda>" L.qual L.params L.body L.scope (L.caps.zip cs) pm (.ref c') ctv).closure ((kla_fn "<lambda>" L.qual L.params L.body L.scope (L.caps.zip cs) pm (.ref c') ctv).qualname ++ ".<locals>.") (some f)
    (kla_fn "<lambda>" L.qual L.params L.body L.scope (L.caps.zip cs) pm (.ref c') ctv).code none (kla_fn "<lambda>" L.qual L.params L.body L.scope (L.caps.zip cs) pm (.ref c') ctv).builtins = env
  have hko : ∀ y, env.kindOf y = L.scope.names.lookup y := fun y => by rw [← hen]; rfl
  have hlo : env.locals = s.heap.objs.size := by rw [← hen]; rfl
  have hce : env.cells = L.caps.zip cs := by rw [← hen]; rfl
  have hf1' : ∀ b ∈ [env.locals], s.heap.get? b = none := fun b hb => by rw [List.mem_singleton.mp hb, hlo]; exact new_own _ (Nat.le_refl _)
  have hl1 : ∀ b ∈ [env.locals], ∃ o, h₁.get? b = some o := fun b hb => by rw [List.mem_singleton.mp hb, hlo]; obtain ⟨o, _, _, h, _⟩ := hns; exact ⟨o, h⟩
  generalize hs1 : ({ s with heap := h₁, toks := s.toks + [(x, val)].length } : Shared) = s₁
  have e1 : s₁.heap = h₁ := by rw [← hs1]
  have S1 : Sees K.g K.Λ { ρ with frs := [env.locals] ++ ρ.frs } μ s₁ := S.fresh (T := [env.locals]) (by rw [e1]; exact hk) (by rw [← hs1]) hf1' (by rw [e1]; exact hl1)
  have noc : ∀ y, L.scope.names.lookup y ≠ some .cell := fun y h => absurd rfl (hcell _ (mem_of_lookup' h))
  have Fr : FrOk ⟨x :: L.caps, L.scope.names, none, none⟩ env [env.locals] := {
    H := {
      kind := by rw [← hen]; exact hkind
      glob := by rw [← hen]; rfl
      blt := by rw [← hen]; rfl
      kl := fun y h => by rw [hko]; exact h
      kg := fun y h => by rw [hko]; exact h
      kc := fun y h => by rw [hko]; exact h
      ke := fun y h => by rw [hko]; exact h
      nd := hnd
      inj := fun y z c h => absurd h (noc y)
      code := fun v h => by cases h
      qual := fun v h => by cases h }
    loc := .head _
    cel := fun y c h => absurd h (noc y)
    cne := fun y c h => absurd h (noc y) }
  have L1 : LocOk K.Λ { ρ with frs := [env.locals] ++ ρ.frs } ⟨x :: L.caps, L.scope.names, none, none⟩ env (some p :: cap.map some) s₁.heap := by
    rw [e1]
    refine ⟨by simp, ⟨_, by rw [hlo]; exact hns, fun i y q a1 a2 a3 => ?_⟩, fun i y q a1 a2 a3 => ?_, fun i y _ _ h => absurd h (noc y)⟩
    · cases i with
      | zero =>
        simp at a1 a2; subst a1 a2
        exact ⟨val, by simp, dv.fresh (T := [env.locals]) hk hf1'⟩
      | succ i =>
        have a1' : L.caps[i]? = some y := by simpa using a1
        have := hcaps y (List.mem_of_getElem? a1')
        rw [this] at a3; cases a3
    · cases i with
      | zero =>
        simp at a1; subst a1
        rcases a3 with a3 | a3
        · exact absurd a3 (noc _)
        · have a3' : L.scope.names.lookup x = some .free := a3
          rw [hx] at a3'; cases a3'
      | succ i =>
        have a1' : L.caps[i]? = some y := by simpa using a1
        have a2' : cap[i]? = some q := by
          have : (cap.map some)[i]? = some (some q) := by simpa using a2
          rw [List.getElem?_map] at this
          cases hq : cap[i]? with
          | none => rw [hq] at this; simp at this
          | some r => rw [hq] at this; simp at this; rw [this]
        obtain ⟨v, ev, dq⟩ := dcap.get a2'
        have hic : i < cs.length := by rw [← hl2]; exact (List.getElem?_eq_some_iff.mp ev).1
        have ec : cs[i]? = some cs[i] := List.getElem?_eq_getElem hic
        obtain ⟨h1, h2, o, h3, h4⟩ := hcs i _ v ec ev
        exact ⟨cs[i], v, by rw [hce]; exact zip_lookup (List.nodup_cons.mp hnd).2 a1' ec, h1, h2, ⟨o, hk _ _ h3, h4⟩, dq.fresh (T := [env.locals]) hk hf1'⟩
  have F1 : FS K.g K.Λ ⟨x :: L.caps, L.scope.names, none, none⟩ env [env.locals] { ρ with frs := [env.locals] ++ ρ.frs } μ (some p :: cap.map some) s₁ := ⟨S1, L1, fun b hb => List.mem_append_left _ hb⟩
  have hA0 : Room 0 (A.deeper env) := Room.deeper (hA.mono hn) env
  refine kla_codeExpr (noE (wpAny_mono (hb hA0 Fr F1 hw) (fun v s₂ h₂ => ?_) fun _ _ e => e))
  obtain ⟨ρ₂, r, μ₂, st, S2, dr, q⟩ := h₂
  have hT : ∀ b ∈ ρ.frs, b ∈ ρ₂.frs := fun b hb => by rw [st.frs]; exact List.mem_append_right _ hb
  refine ⟨{ ρ₂ with frs := ρ.frs }, r, μ₂, ⟨rfl, ?_, fun b o e h1 h2 h3 => st.keep b o (by rw [e1]; exact hk b o e) h1 h2 h3, fun b o e => st.live b o (by rw [e1]; exact hk b o e), by rw [st.os, ← hs1], by rw [st.gens, ← hs1]⟩, S2.pop hT, dr.pop hT, q⟩
  obtain ⟨τ, e, h⟩ := st.ext
  exact ⟨τ, e, fun p hp => ⟨none_back (fun b o e => ⟨o, by rw [e1]; exact hk b o e⟩) (h p hp).1, none_back (fun b o e => ⟨o, by rw [e1]; exact hk b o e⟩) (h p hp).2⟩⟩

/- MHas -/


noncomputable def lamArgs (x : String) (p : Pos) : Arguments := { posonlyargs := [], args := [{ arg := Str.ofString x, annotation := none, pos := p }], vararg := none, kwonlyargs := [], kw_defaults := [], kwarg := none, defaults := [] }
noncomputable def nm (x : String) (l a b c : Nat) : Expr := .Name (Str.ofString x) { line := l, col := a, endLine := b, endCol := c }

noncomputable def lam0 : LamT where
  tab := 120
  hd := 122
  qual := Str.ofString "put_in.<locals>.<lambda>"
  params := lamArgs "register" { line := 64, col := 46, endLine := 64, endCol := 54 }
  body := .BinOp (nm "first" 64 56 64 61) .Add (nm "register" 64 64 64 72) { line := 64, col := 56, endLine := 64, endCol := 72 }
  scope := { kind := .function, names := [(Str.ofString "register", .local), (Str.ofString "first", .free)], isGenerator := false, isCoroutine := false }
  caps := [Str.ofString "first"]
  pos := { line := 64, col := 39, endLine := 64, endCol := 72 }
noncomputable def lam1 : LamT where
  tab := 120
  hd := 122
  qual := Str.ofString "put_in.<locals>.<lambda>"
  params := lamArgs "goal" { line := 64, col := 81, endLine := 64, endCol := 85 }
  body := nm "goal" 64 87 64 91
  scope := { kind := .function, names := [(Str.ofString "goal", .local)], isGenerator := false, isCoroutine := false }
  caps := []
  pos := { line := 64, col := 74, endLine := 64, endCol := 91 }
noncomputable def lam2 : LamT where
  tab := 151
  hd := 155
  qual := Str.ofString "Inliner.led.<locals>.<lambda>"
  params := lamArgs "register" { line := 93, col := 38, endLine := 93, endCol := 46 }
  body := nm "register" 93 48 93 56
  scope := { kind := .function, names := [(Str.ofString "register", .local)], isGenerator := false, isCoroutine := false }
  caps := []
  pos := { line := 93, col := 31, endLine := 93, endCol := 56 }
noncomputable def lam3 : LamT where
  tab := 151
  hd := 155
  qual := Str.ofString "Inliner.led.<locals>.<lambda>"
  params := lamArgs "goal" { line := 93, col := 65, endLine := 93, endCol := 69 }
  body := .Subscript (.Attribute (nm "self" 93 71 93 75) (Str.ofString "places") { line := 93, col := 71, endLine := 93, endCol := 82 }) (nm "goal" 93 83 93 87) { line := 93, col := 71, endLine := 93, endCol := 88 }
  scope := { kind := .function, names := [(Str.ofString "goal", .local), (Str.ofString "self", .free)], isGenerator := false, isCoroutine := false }
  caps := [Str.ofString "self"]
  pos := { line := 93, col := 58, endLine := 93, endCol := 88 }
noncomputable def LAM : List LamT := [lam0, lam1, lam2, lam3]

theorem LAM_same : LamSame LAM := by
  intro L hL M hM
  simp only [LAM, List.mem_cons, List.not_mem_nil, or_false] at hL hM
  rcases hL with rfl | rfl | rfl | rfl <;> rcases hM with rfl | rfl | rfl | rfl <;> intro h1 h2 h3 <;> first | rfl | (exact absurd h1 (by decide)) | (exact absurd h2 (by decide)) | (exact absurd h3 (by decide))

/- a context of this program -/
structure OkCx (K : Cx) : Prop where
  Λ : K.Λ = LAM
  n : 1 ≤ K.n

theorem sndS_bad {K : Cx} {sc : Sc} {x : Stmt} : SndS K sc x .bad := fun _ _ _ h => h.elim

theorem lamE0 {K : Cx} {sc : Sc} (ok : OkCx K) {i : Nat} (h1 : sc.code = some (.ref 122)) (h2 : sc.qual = some (Str.ofString "put_in.<locals>.")) (hx : sc.ns[i]? = some (Str.ofString "first")) (hk : sc.ks.lookup (Str.ofString "first") = some .cell ∨ sc.ks.lookup (Str.ofString "first") = some .free) :
    SndE K sc (.Lambda lam0.params lam0.body lam0.scope lam0.pos) (.lam 0 [i]) :=
  sndE_lam1 (L := lam0) (by rw [ok.Λ]; exact LAM_same) (by rw [ok.Λ]; rfl) (by decide) K.gd.c2 (fun _ => rfl) h1 h2 (by decide +kernel) rfl rfl rfl rfl rfl hx hk (fun env c e => by
    simp [closureFor, lam0, cellOf, e])
theorem lamE1 {K : Cx} {sc : Sc} (ok : OkCx K) (h1 : sc.code = some (.ref 122)) (h2 : sc.qual = some (Str.ofString "put_in.<locals>.")) : SndE K sc (.Lambda lam1.params lam1.body lam1.scope lam1.pos) (.lam 1 []) :=
  sndE_lam0 (L := lam1) (by rw [ok.Λ]; exact LAM_same) (by rw [ok.Λ]; rfl) (by decide) K.gd.c2 (fun _ => rfl) h1 h2 (by decide +kernel) rfl rfl rfl rfl rfl (by decide)
theorem lamE2 {K : Cx} {sc : Sc} (ok : OkCx K) (h1 : sc.code = some (.ref 155)) (h2 : sc.qual = some (Str.ofString "Inliner.led.<locals>.")) : SndE K sc (.Lambda lam2.params lam2.body lam2.scope lam2.pos) (.lam 2 []) :=
  sndE_lam0 (L := lam2) (by rw [ok.Λ]; exact LAM_same) (by rw [ok.Λ]; rfl) (by decide) K.gd.c1 (fun _ => rfl) h1 h2 (by decide +kernel) rfl rfl rfl rfl rfl (by decide)
theorem lamE3 {K : Cx} {sc : Sc} (ok : OkCx K) {i : Nat} (h1 : sc.code = some (.ref 155)) (h2 : sc.qual = some (Str.ofString "Inliner.led.<locals>.")) (hx : sc.ns[i]? = some (Str.ofString "self")) (hk : sc.ks.lookup (Str.ofString "self") = some .cell ∨ sc.ks.lookup (Str.ofString "self") = some .free) :
    SndE K sc (.Lambda lam3.params lam3.body lam3.scope lam3.pos) (.lam 3 [i]) :=
  sndE_lam1 (L := lam3) (by rw [ok.Λ]; exact LAM_same) (by rw [ok.Λ]; rfl) (by decide) K.gd.c1 (fun _ => rfl) h1 h2 (by decide +kernel) rfl rfl rfl rfl rfl hx hk (fun env c e => by
    simp [closureFor, lam3, cellOf, e])

theorem lam_ok {K : Cx} (ok : OkCx K) : LamOk K := by
  intro A ρ μ s k cap xs f vals Q hA S df d h
  have e0 : K.Λ[0]? = some lam0 := by rw [ok.Λ]; rfl
  have e1 : K.Λ[1]? = some lam1 := by rw [ok.Λ]; rfl
  have e2 : K.Λ[2]? = some lam2 := by rw [ok.Λ]; rfl
  have e3 : K.Λ[3]? = some lam3 := by rw [ok.Λ]; rfl
  rcases k with _ | _ | _ | _ | k
  · obtain ⟨i, j, rfl, rfl, h⟩ := h
    obtain ⟨v, rfl, dv⟩ := call1 d
    refine lam_call e0 ok.n (x := Str.ofString "register") (fun _ _ _ _ _ => rfl) rfl rfl rfl rfl (by decide) (by decide) (by decide) (ce := .bin .Add (.loc 1) (.loc 0)) ?_ hA S df dv ⟨_, rfl, _, rfl, .inl (two_i h)⟩
    exact sndE_bin (sndE_loc rfl (.inr (.inr (by decide +kernel))) (by decide +kernel) (by decide +kernel)) (sndE_loc rfl (.inl (by decide +kernel)) (by decide +kernel) (by decide +kernel))
  · obtain ⟨rfl, x, rfl, h⟩ := h
    obtain ⟨v, rfl, dv⟩ := call1 d
    refine lam_call e1 ok.n (x := Str.ofString "goal") (fun _ _ _ _ _ => rfl) rfl rfl rfl rfl (by decide) (by decide) (by decide) (ce := .loc 0) ?_ hA S df dv ⟨_, rfl, h⟩
    exact sndE_loc rfl (.inl (by decide +kernel)) (by decide +kernel) (by decide +kernel)
  · obtain ⟨rfl, x, rfl, h⟩ := h
    obtain ⟨v, rfl, dv⟩ := call1 d
    refine lam_call e2 ok.n (x := Str.ofString "register") (fun _ _ _ _ _ => rfl) rfl rfl rfl rfl (by decide) (by decide) (by decide) (ce := .loc 0) ?_ hA S df dv ⟨_, rfl, h⟩
    exact sndE_loc rfl (.inl (by decide +kernel)) (by decide +kernel) (by decide +kernel)
  · obtain ⟨n, i, rfl, rfl, h⟩ := h
    obtain ⟨v, rfl, dv⟩ := call1 d
    refine lam_call e3 ok.n (x := Str.ofString "goal") (fun _ _ _ _ _ => rfl) rfl rfl rfl rfl (by decide) (by decide) (by decide) (ce := .sub (.attr (.loc 1) 9) (.loc 0)) ?_ hA S df dv ⟨_, rfl, ⟨h.1, ?_⟩⟩
    · refine sndE_sub ?_ ?_ (fun _ _ => rfl)
      · refine sndE_attr ?_ ?_ (fun _ => rfl)
        · exact sndE_loc rfl (.inr (.inr (by decide +kernel))) (by decide +kernel) (by decide +kernel)
        · decide +kernel
      · exact sndE_loc rfl (.inl (by decide +kernel)) (by decide +kernel) (by decide +kernel)
    · obtain ⟨_, C, ks, l, v, a, b, c, d, q⟩ := h
      exact ⟨C, ks, l, v, a, b, c, d, _, rfl, q⟩
  · exact h.elim

/- MPa -/


structure FnE where
  ns : List Str
  np : Nat
  d : Nat
  ce : CSs

noncomputable def dfl (d : Nat) : List PV := @Nat.casesOn (fun d => List PV) d [] fun d => @Nat.casesOn (fun d => List PV) d [.tup [], .tup [], .tup []] fun d => [.int 0, .none]
noncomputable abbrev FnE.dflt (e : FnE) : List PV := dfl e.d

noncomputable def fnTab : List (Nat × FnE) := [(74, ⟨ns74, 8, 1, ce74⟩), (81, ⟨ns81, 3, 0, ce81⟩), (95, ⟨ns95, 1, 0, ce95⟩), (100, ⟨ns100, 1, 0, ce100⟩), (105, ⟨ns105, 3, 0, ce105⟩), (111, ⟨ns111, 1, 0, ce111⟩),
  (118, ⟨ns118, 2, 0, ce118⟩), (123, ⟨ns123, 3, 0, ce123⟩), (137, ⟨ns137, 3, 0, ce137⟩), (144, ⟨ns144, 2, 0, ce144⟩), (149, ⟨ns149, 1, 0, ce149⟩), (156, ⟨ns156, 2, 0, ce156⟩), (170, ⟨ns170, 2, 0, ce170⟩),
  (185, ⟨ns185, 10, 2, ce185⟩), (220, ⟨ns220, 1, 0, ce220⟩), (227, ⟨ns227, 2, 0, ce227⟩), (232, ⟨ns232, 2, 0, ce232⟩), (237, ⟨ns237, 2, 0, ce237⟩), (242, ⟨ns242, 1, 0, ce242⟩),
  (247, ⟨ns247, 4, 0, ce247⟩), (254, ⟨ns254, 4, 0, ce254⟩), (259, ⟨ns259, 2, 0, ce259⟩), (266, ⟨ns266, 2, 0, ce266⟩), (273, ⟨ns273, 1, 0, ce273⟩), (278, ⟨ns278, 1, 0, ce278⟩)]
noncomputable def clsTab : List (Nat × Nat) := [(84, 74), (159, 137), (209, 185)]

noncomputable def PhiN : Nat → Phi
  | 0, _, _, _, _ => False
  | n + 1, a, xs, μ, Q =>
    (∃ e, fnTab.lookup a = some e ∧ xs.length ≤ e.np ∧ e.np ≤ xs.length + e.dflt.length ∧
      wpSs (PhiN n) e.ce (argL (xs ++ e.dflt.drop (xs.length + e.dflt.length - e.np)) e.ns.length) μ (exitQ μ Q)) ∨
    (∃ fI, clsTab.lookup a = some fI ∧ PhiN n fI (.obj μ.length :: xs) (μ ++ [.inst a [] []]) fun v μ₁ => v = .none ∧ EndQ μ Q (.obj μ.length) μ₁)

theorem phi_fn {n : Nat} {a : Addr} {e : FnE} {xs : List PV} {μ : List AO} {Q : Post} (l : Lc) (h : fnTab.lookup a = some e) (h1 : Nat.ble xs.length e.np = true) (h2 : Nat.ble e.np (xs.length + e.dflt.length) = true)
    (hl : argL (xs ++ e.dflt.drop (xs.length + e.dflt.length - e.np)) e.ns.length = l) (h3 : wpSs (PhiN n) e.ce l μ (exitQ μ Q)) : PhiN (n + 1) a xs μ Q := .inl ⟨e, h, Nat.le_of_ble_eq_true h1, Nat.le_of_ble_eq_true h2, hl ▸ h3⟩
theorem phi_cls {n : Nat} {a : Addr} {fI : Nat} {xs : List PV} {μ : List AO} {Q : Post} (h : clsTab.lookup a = some fI)
    (h3 : PhiN n fI (.obj μ.length :: xs) (μ ++ [.inst a [] []]) fun v μ₁ => v = .none ∧ EndQ μ Q (.obj μ.length) μ₁) : PhiN (n + 1) a xs μ Q := .inr ⟨fI, h, h3⟩

mutual
noncomputable def below (k : Nat) : PV → Bool
  | .obj n => decide (n < k)
  | .tup l => belows k l
  | .lst l => belows k l
  | .inst _ _ l => belows k l
  | .lam _ l => belows k l
  | _ => true
noncomputable def belows (k : Nat) : List PV → Bool
  | [] => true
  | p :: ps => below k p && belows k ps
end
noncomputable def belowO (k : Nat) : AO → Bool
  | .lst l => belows k l
  | .inst _ _ l => belows k l

theorem frzs_below {k : Nat} {μ : List AO} {p : List PV} : belows k p = true → Frzs k μ p p :=
  PV.rec_1 (motive_1 := fun p => below k p = true → Frz k μ p p) (motive_2 := fun p => belows k p = true → Frzs k μ p p)
    (fun _ => .none) (fun b _ => .bool b) (fun i _ => .int i) (fun c _ => .str c) (fun l ih h => .tup (ih h)) (fun l ih h => .lst (ih h)) (fun c ks l ih h => .inst (ih h))
    (fun v _ => .val v) (fun n h => .keep (of_decide_eq_true h)) (fun n l ih h => .lam (ih h)) (fun _ => .nil)
    (fun p ps a b h => by
      have h : (below k p && belows k ps) = true := h
      rw [Bool.and_eq_true] at h
      exact .cons (a h.1) (b h.2)) p
theorem frz_below {k : Nat} {μ : List AO} {p : PV} (h : below k p = true) : Frz k μ p p := (frzs_below (p := [p]) (by show (below k p && true) = true; rw [h]; rfl)).head
theorem frzO_below {k : Nat} {μ : List AO} {o : AO} (h : belowO k o = true) : FrzO k μ o o := by
  cases o with
  | lst l => exact .lst (frzs_below h)
  | inst c ks l => exact .inst (frzs_below h)

theorem belows_append {k : Nat} {l m : List PV} (h1 : belows k l = true) (h2 : belows k m = true) : belows k (l ++ m) = true := by
  induction l with
  | nil => exact h2
  | cons p l ih =>
    have h1 : (below k p && belows k l) = true := h1
    rw [Bool.and_eq_true] at h1
    show (below k p && belows k (l ++ m)) = true
    rw [h1.1, ih h1.2]; rfl
theorem belows_map {α : Type} {k : Nat} {f : α → PV} (h : ∀ a, below k (f a) = true) (l : List α) : belows k (l.map f) = true := by
  induction l with
  | nil => rfl
  | cons a l ih =>
    show (below k (f a) && belows k (l.map f)) = true
    rw [h a, ih]; rfl
theorem belows_all {k : Nat} {l : List PV} (h : ∀ p ∈ l, below k p = true) : belows k l = true := by
  induction l with
  | nil => rfl
  | cons a l ih =>
    show (below k a && belows k l) = true
    rw [h a (.head _), ih fun p hp => h p (.tail _ hp)]; rfl

/- what a call may do to the objects that stood -/
inductive Ch (k : Nat) : List AO → List AO → Prop
  | nil (τ) : Ch k [] τ
  | same {o μ₀ μ} : Ch k μ₀ μ → Ch k (o :: μ₀) (o :: μ)
  | chg {o o' μ₀ μ} : belowO k o' = true → Ch k μ₀ μ → Ch k (o :: μ₀) (o' :: μ)
theorem Ch.refl {k : Nat} {τ : List AO} (μ : List AO) : Ch k μ (μ ++ τ) := by
  induction μ with
  | nil => exact .nil τ
  | cons o μ ih => exact .same ih
theorem Ch.len {k : Nat} {μ₀ μ : List AO} (h : Ch k μ₀ μ) : μ₀.length ≤ μ.length := by
  induction h with
  | nil τ => exact Nat.zero_le _
  | same _ ih => exact Nat.succ_le_succ ih
  | chg _ _ ih => exact Nat.succ_le_succ ih
theorem Ch.at {k : Nat} {μ₀ μ : List AO} (h : Ch k μ₀ μ) : ∀ j, j < μ₀.length → μ[j]? = μ₀[j]? ∨ ∃ o, μ[j]? = some o ∧ belowO k o = true := by
  induction h with
  | nil τ => exact fun j h => absurd h (Nat.not_lt_zero _)
  | same _ ih => exact fun j => Nat.casesOn j (fun _ => .inl rfl) fun j hj => ih j (Nat.lt_of_succ_lt_succ hj)
  | chg h _ ih => exact fun j => Nat.casesOn j (fun _ => .inr ⟨_, rfl, h⟩) fun j hj => ih j (Nat.lt_of_succ_lt_succ hj)
theorem Ch.set {k : Nat} {o : AO} (ho : belowO k o = true) {μ₀ μ : List AO} (h : Ch k μ₀ μ) : ∀ i, Ch k μ₀ (μ.set i o) := by
  induction h with
  | nil τ => exact fun i => .nil _
  | same h ih => exact fun i => Nat.casesOn i (.chg ho h) fun i => .same (ih i)
  | chg a h ih => exact fun i => Nat.casesOn i (.chg ho h) fun i => .chg a (ih i)
theorem Ch.app {k : Nat} {τ : List AO} {μ₀ μ : List AO} (h : Ch k μ₀ μ) : Ch k μ₀ (μ ++ τ) := by
  induction h with
  | nil τ => exact .nil _
  | same _ ih => exact .same ih
  | chg a _ ih => exact .chg a ih

/- an end at which objects above k are let go -/
theorem end_k {μ₀ μ : List AO} {v v' : PV} {Q : Post} (k : Nat) (hk : μ₀.length ≤ k) (hkl : k ≤ μ.length) (hv : Frz k μ v v') (hm : Ch k μ₀ μ) (hn : ∀ j, μ₀.length ≤ j → j < k → ∃ o, μ[j]? = some o ∧ belowO k o = true) (q : Q v' (μ.take k)) : EndQ μ₀ Q v μ := by
  refine ⟨k, v', μ.take k, hk, hv, ⟨by rw [List.length_take]; (simp [*]), hkl, fun j hj => ?_⟩, q⟩
  rw [List.getElem?_take, if_pos hj]
  by_cases h : j < μ₀.length
  · rcases hm.at j h with e | ⟨o, e, b⟩
    · exact .inl ⟨h, e, e⟩
    · exact .inr ⟨o, o, e, e, frzO_below b⟩
  · obtain ⟨o, e, b⟩ := hn j (Nat.le_of_not_lt h) hj
    exact .inr ⟨o, o, e, e, frzO_below b⟩
theorem end_frz {μ₀ μ : List AO} {v v' : PV} {Q : Post} (hv : Frz μ₀.length μ v v') (hm : Ch μ₀.length μ₀ μ) (q : Q v' (μ.take μ₀.length)) : EndQ μ₀ Q v μ :=
  end_k μ₀.length (Nat.le_refl _) hm.len hv hm (fun j h1 h2 => by lia) q
theorem end_ch {μ₀ μ : List AO} {v : PV} {Q : Post} (hv : below μ₀.length v = true) (hm : Ch μ₀.length μ₀ μ) (q : Q v (μ.take μ₀.length)) : EndQ μ₀ Q v μ := end_frz (frz_below hv) hm q
theorem end_app {μ₀ τ : List AO} {v : PV} {Q : Post} (hv : below μ₀.length v = true) (q : Q v μ₀) : EndQ μ₀ Q v (μ₀ ++ τ) := end_ch hv (.refl _) (by rw [List.take_left]; exact q)
theorem end_same {μ₀ : List AO} {v : PV} {Q : Post} (hv : below μ₀.length v = true) (q : Q v μ₀) : EndQ μ₀ Q v μ₀ := by
  have := end_app (τ := []) hv q
  rwa [List.append_nil] at this

/- the source of digits -/
structure Sr where
  a : Nat
  b : Nat
noncomputable def sv (s : Sr) : AO := .lst [.int s.a, .int s.b]

theorem end_src {s s' : Sr} {τ : List AO} {v : PV} {Q : Post} (hv : below (τ.length + 1) v = true) (q : Q v (sv s' :: τ)) : EndQ (sv s :: τ) Q v (sv s' :: τ) :=
  end_ch hv (.chg rfl (by have := Ch.refl (k := (sv s :: τ).length) (τ := []) τ; rwa [List.append_nil] at this)) (by simpa using q)


/- MRd -/


/- an expression's parts: a number for its kind, its place, its number, its scope, its children -/
noncomputable abbrev Pt := Nat × Pos × Nat × Scope × List Expr
noncomputable def p0 : Pos := ⟨0, 0, 0, 0⟩
noncomputable def s0 : Scope := ⟨.function, [], false, false, []⟩
noncomputable def n0 : Expr := .Constant .none 0 p0
noncomputable def z0 : Pt := (0, p0, 0, s0, [])
noncomputable def pt (x : Expr) : Pt := @Expr.casesOn (fun x => Pt) x
  (fun a vs p => (0, p, 0, s0, vs))
  (fun a b c => z0)
  (fun l o r p => (0, p, 0, s0, [l, r]))
  (fun o a p => (0, p, 0, s0, [a]))
  (fun a b c d => z0)
  (fun t a b p => (0, p, 0, s0, [t, a, b]))
  (fun a b c => z0)
  (fun a b c => z0)
  (fun e gs s p => (2, p, 0, s, e :: @List.casesOn Comprehension (fun gs => List Expr) gs [] fun g r => g.target :: g.iter :: g.ifs))
  (fun a b c d => z0)
  (fun a b c d e => z0)
  (fun a b c d => z0)
  (fun a b => z0)
  (fun a b => z0)
  (fun a b => z0)
  (fun l o cs p => (0, p, 0, s0, l :: cs))
  (fun f xs k p => (@List.casesOn Expr (fun xs => Nat) xs 1 fun x r => 0, p, 0, s0, f :: xs))
  (fun a b c d => z0)
  (fun a b => z0)
  (fun v k p => (@Const.casesOn (fun v => Nat) v 3 (fun b => 0) (fun b => 0) (fun b => 0) (fun b c => 0) (fun b => 0) (fun b => 0) 0, p, k, s0, []))
  (fun v a p => (0, p, 0, s0, [v]))
  (fun v s p => (0, p, 0, s0, [v, s]))
  (fun a b => z0)
  (fun a p => (0, p, 0, s0, []))
  (fun es p => (0, p, 0, s0, es))
  (fun es k p => (0, p, k, s0, es))
  (fun lo hi st p => (0, p, 0, s0, [lo.getD n0, hi.getD n0]))
noncomputable def kd (x : Expr) : Nat := (pt x).1
noncomputable def ps (x : Expr) : Pos := (pt x).2.1
noncomputable def kt (x : Expr) : Nat := (pt x).2.2.1
noncomputable def sp (x : Expr) : Scope := (pt x).2.2.2.1
noncomputable def kid (x : Expr) (i : Nat) : Expr := (pt x).2.2.2.2.getD i n0
noncomputable def pn (y : Expr) : Option Expr := bif kd y == 3 then none else some y

noncomputable def shL (y : Expr) (xs : List Expr) (env : Env) (o v : Value) (op : CmpOp) (nm : Str) (w : Sem Value) (t : Option Expr) (l : Nat) := (starEach (y :: xs) env, subscripted y false o v, behindInMarks op y, foldedSetIterable y env v, attributeBase y nm env w, swapsWith y t l env, evalPart (pn y) env, fun py => swapsWith y (some (.Name nm py)) l env)
noncomputable def shR (y : Expr) (xs : List Expr) (env : Env) (o v : Value) (op : CmpOp) (nm : Str) (w : Sem Value) (t : Option Expr) (l : Nat) := ((false, eval y env) :: starEach xs env, operate [o, v] (getItem o v), false, (pure v : Sem Value), bif kd y == 1 then attributeBase y nm env w else w, bif kd y == 2 then swapsWith y t l env else (pure false : Sem Bool), eval y env, fun (py : Pos) => bif kd y == 2 then (pure (env.blockKind == .function && env.kindOf nm == some .local && py.line == (ps y).line && !((sp y).names.any fun x => x.1 == nm && (x.2 == .local || x.2 == .cell))) : Sem Bool) else pure false)
noncomputable def Sh (y : Expr) : Prop := shL y = shR y

section
variable {K : Cx} {sc : Sc} {t : Bool} {e : CE} {y : Expr}
noncomputable def SndX (K : Cx) (sc : Sc) (t : Bool) (y : Expr) (e : CE) : Prop := @Bool.rec (fun t => Prop) (SndE K sc y e) (SndT K sc y e) t
noncomputable def asgB (nm : Str) (py : Pos) (y : Expr) : Bool := (py.line == (ps y).line) && !((sp y).names.any fun x => x.1 == nm && (x.2 == .local || x.2 == .cell))
noncomputable def Asg (K : Cx) (sc : Sc) (y : Expr) (e : CE) : Prop := kd y = 2 → ∀ (py spos : Pos) (nm : Str) (i : Nat), sc.ns[i]? = some nm → sc.ks.lookup nm = some .local → asgB nm py y = true → SndS K sc (.Assign [.Name nm py] y spos) (.asg false i e)
noncomputable def Res (K : Cx) (sc : Sc) (t : Bool) (e : CE) := {y : Expr // SndX K sc t y e ∧ Sh y ∧ Asg K sc y e}
theorem Res.snd (p : Res K sc t e) : SndX K sc t p.1 e := p.2.1
theorem Res.sh (p : Res K sc t e) : Sh p.1 := p.2.2.1
noncomputable abbrev Rd (K : Cx) (e : CE) := ∀ (t : Bool) (sc : Sc) (x : Expr), Option (Res K sc t e)
noncomputable def EsX (K : Cx) (sc : Sc) (t : Bool) (ys : List Expr) (es : CEs) : Prop := @Bool.rec (fun t => Prop) (SndEs K sc ys es ∧ ArgsOk ys es ∧ (∀ isAnd, SndB K sc isAnd ys es) ∧ ∀ (isAnd : Bool) (x : Expr) (e : CE), SndE K sc x e → SndB K sc isAnd (x :: ys) (.cons e es)) (∀ isAnd, SndA K sc isAnd ys es) t
noncomputable def ResEs (K : Cx) (sc : Sc) (t : Bool) (es : CEs) := {y : List Expr // EsX K sc t y es}
noncomputable abbrev RdEs (K : Cx) (es : CEs) := ∀ (t : Bool) (sc : Sc) (x : Expr) (i : Nat), Option (ResEs K sc t es)
noncomputable def ResL (K : Cx) (sc : Sc) (c : CL) := {y : Expr // SndL K sc y c ∧ Sh y ∧ Asg K sc y (.fl c) ∧ Asg K sc y (.ml c)}
noncomputable abbrev RdL (K : Cx) (c : CL) := ∀ (sc : Sc) (x : Expr), Option (ResL K sc c)
noncomputable def ResO (K : Cx) (sc : Sc) (c : CO) := {y : List Expr // SndC K sc y c}
noncomputable abbrev RdO (K : Cx) (c : CO) := ∀ (sc : Sc) (x : Expr), Option (ResO K sc c)
noncomputable def tupOf (c : CI) : Bool := @CI.casesOn (fun c => Bool) c (fun e => false) (fun e => false) (fun a b => false) (fun e => true) (fun a b => true)
noncomputable def ResI (K : Cx) (sc : Sc) (c : CI) := {y : Expr // SndI K sc y c (tupOf c) ∧ ∀ (env : Env) (v : Value), foldedSetIterable y env v = pure v}
noncomputable abbrev RdI (K : Cx) (c : CI) := ∀ (sc : Sc) (x : Expr), Option (ResI K sc c)

theorem shN {a : Str} {p q : Pos} {ys : List Expr} : Sh (.Call (.Name a p) ys [] q) ∧ (kd (.Call (.Name a p) ys [] q) == 2) = false := by cases ys <;> exact ⟨rfl, rfl⟩
theorem shM {o : Expr} {a : Str} {p q : Pos} {ys : List Expr} : Sh (.Call (.Attribute o a p) ys [] q) ∧ (kd (.Call (.Attribute o a p) ys [] q) == 2) = false := by cases ys <;> exact ⟨rfl, rfl⟩
noncomputable def when {α : Type} (b : Bool) (k : b = true → Option α) : Option α := @Bool.casesOn (fun b => (b = true → Option α) → Option α) b (fun k => none) (fun k => k rfl) k

theorem Sh.all (h : Sh y) (xs : List Expr) (env : Env) (o v : Value) (op : CmpOp) (nm : Str) (w : Sem Value) (t : Option Expr) (l : Nat) : shL y xs env o v op nm w t l = shR y xs env o v op nm w t l := by rw [show shL y = shR y from h]
theorem Sh.star (h : Sh y) (xs : List Expr) (env : Env) : starEach (y :: xs) env = (false, eval y env) :: starEach xs env := congrArg (·.1) (h.all xs env .none .none .Eq Str.empty (pure .none) none 0)
theorem Sh.sub (h : Sh y) (o v : Value) : subscripted y false o v = operate [o, v] (getItem o v) := congrArg (·.2.1) (h.all [] default o v .Eq Str.empty (pure .none) none 0)
theorem Sh.marks (h : Sh y) (op : CmpOp) : behindInMarks op y = false := congrArg (·.2.2.1) (h.all [] default .none .none op Str.empty (pure .none) none 0)
theorem Sh.fold (h : Sh y) (env : Env) (v : Value) : foldedSetIterable y env v = pure v := congrArg (·.2.2.2.1) (h.all [] env .none v .Eq Str.empty (pure .none) none 0)
theorem Sh.base (h : Sh y) (k : (kd y == 1) = false) (nm : Str) (env : Env) (w : Sem Value) : attributeBase y nm env w = w := (congrArg (·.2.2.2.2.1) (h.all [] env .none .none .Eq nm w none 0)).trans (by show (bif kd y == 1 then _ else _) = _; rw [k]; rfl)
theorem Sh.swap (h : Sh y) (k : (kd y == 2) = false) (t : Option Expr) (l : Nat) (env : Env) : swapsWith y t l env = pure false := (congrArg (·.2.2.2.2.2.1) (h.all [] env .none .none .Eq Str.empty (pure .none) t l)).trans (by show (bif kd y == 2 then _ else _) = _; rw [k]; rfl)
theorem Sh.part (h : Sh y) (env : Env) : evalPart (pn y) env = eval y env := congrArg (·.2.2.2.2.2.2.1) (h.all [] env .none .none .Eq Str.empty (pure .none) none 0)

theorem sndB_nil {isAnd : Bool} : SndB K sc isAnd [] .nil := fun _ _ _ _ h => h.elim
theorem getD_is {α : Type} {l : List α} {n : Nat} {d : α} (h : n < l.length) : l[n]? = some (l.getD n d) := by
  rw [List.getD_eq_getElem?_getD, List.getElem?_eq_getElem h]; rfl


theorem asg0 (k : (kd y == 2) = false) : Asg K sc y e := fun h => by rw [h] at k; cases k
noncomputable def eX (y : Expr) (h : SndE K sc y e) (ht : SndT K sc y e) (s : Sh y) (k : (kd y == 2) = false) (t : Bool) : Option (Res K sc t e) := @Bool.casesOn (fun t => Option (Res K sc t e)) t (some ⟨y, h, s, asg0 k⟩) (some ⟨y, ht, s, asg0 k⟩)
noncomputable def eOnly0 (y : Expr) (h : SndE K sc y e) (s : Sh y) (a : Asg K sc y e) (t : Bool) : Option (Res K sc t e) := @Bool.casesOn (fun t => Option (Res K sc t e)) t (some ⟨y, h, s, a⟩) none
noncomputable def eOnly (y : Expr) (h : SndE K sc y e) (s : Sh y) (k : (kd y == 2) = false) (t : Bool) : Option (Res K sc t e) := eOnly0 y h s (asg0 k) t
noncomputable def eVal (y : Expr) (h : SndE K sc y e) (hw : ∀ l μ Q, wpT K.Φ e l μ Q → wpE K.Φ e l μ fun x μ₁ => ∃ b, truthy x μ₁ = some b ∧ Q b μ₁) (hi : ∀ env whole, isTrue y env whole = (do let v ← whole; standAt y.pos; holding [v] (PySem.truthy v))) (s : Sh y) (k : (kd y == 2) = false) (t : Bool) : Option (Res K sc t e) :=
  eX y h (sndT_val h hw hi) s k t
noncomputable def tOnly (y : Expr) (h : SndT K sc y e) (s : Sh y) (k : (kd y == 2) = false) (t : Bool) : Option (Res K sc t e) := @Bool.casesOn (fun t => Option (Res K sc t e)) t none (some ⟨y, h, s, asg0 k⟩)

/- names -/
noncomputable def gnm (n : Nat) : Str := (gTab.getD n (Str.empty, .none)).1
noncomputable def isCF (k : Option NameKind) : Bool := k == some .cell || k == some .free
noncomputable def gB (sc : Sc) (n : Nat) : Bool := decide (n < gTab.length) && (sc.ks.lookup (gnm n) == some .globalImplicit && !(gnm n == ("__debug__" : Str)))
theorem glo_of {n : Nat} {p : Pos} (h : gB sc n = true) : SndE K sc (.Name (gnm n) p) (.glo n) := by
  unfold gB at h
  simp only [Bool.and_eq_true, decide_eq_true_eq, beq_iff_eq, Bool.not_eq_true'] at h
  exact sndE_glo (p := (gTab.getD n (Str.empty, .none)).2) (getD_is h.1) h.2.1 h.2.2
noncomputable def lnm (sc : Sc) (i : Nat) : Str := sc.ns.getD i Str.empty
theorem lnm_of {i : Nat} (h : decide (i < sc.ns.length) = true) : sc.ns[i]? = some (lnm sc i) := getD_is (of_decide_eq_true h)
noncomputable def lB (sc : Sc) (i : Nat) : Bool := decide (i < sc.ns.length) && ((sc.ks.lookup (lnm sc i) == some .local || isCF (sc.ks.lookup (lnm sc i))) && (!(lnm sc i == ("__debug__" : Str)) && !(lnm sc i == ("__classdict__" : Str))))
theorem cf_of {k : Option NameKind} (h : isCF k = true) : k = some .cell ∨ k = some .free := by
  unfold isCF at h
  simpa only [Bool.or_eq_true, beq_iff_eq] using h
theorem loc_of {i : Nat} {p : Pos} (h : lB sc i = true) : SndE K sc (.Name (lnm sc i) p) (.loc i) := by
  unfold lB at h
  rw [Bool.and_eq_true, Bool.and_eq_true, Bool.and_eq_true, Bool.or_eq_true] at h
  exact sndE_loc (lnm_of h.1) (h.2.1.imp eq_of_beq cf_of) (by simpa using h.2.2.1) (by simpa using h.2.2.2)

theorem not_x {a : Expr} {p : Pos} (h : SndX K sc t a e) : SndX K sc t (.UnaryOp .Not a p) (.not e) := by
  cases t
  · exact sndE_not h
  · exact sndT_not h
theorem es_nil : EsX K sc t [] .nil := by
  cases t
  · exact ⟨sndEs_nil, ⟨fun pos env => rfl, .inl ⟨rfl, rfl⟩⟩, fun isAnd => sndB_nil, fun isAnd x e h => sndB_one h⟩
  · exact fun isAnd => sndA_nil
theorem es_cons {ys : List Expr} {es : CEs} (h : SndX K sc t y e) (s : Sh y) (hs : EsX K sc t ys es) : EsX K sc t (y :: ys) (.cons e es) := by
  cases t
  · refine ⟨sndEs_cons h hs.1 (s.star ys), ⟨fun pos env => ?_, .inr fun pos env => ?_⟩, fun isAnd => hs.2.2.2 isAnd y e h, fun isAnd x e0 h0 => sndB_cons h0 (hs.2.2.2 isAnd y e h)⟩
    · rw [s.star]; exact hs.2.1.plain pos env
    · rw [s.star]; exact ⟨_, _, rfl⟩
  · exact fun isAnd => sndA_cons h (hs isAnd)
theorem bop_x {ys : List Expr} {es : CEs} {isAnd : Bool} {p : Pos} (h : EsX K sc t ys es) : SndX K sc t (.BoolOp (opOf isAnd) ys p) (.bop isAnd es) := by
  cases t
  · exact sndE_bop rfl (h.2.2.1 isAnd)
  · exact sndT_bop rfl (h isAnd)
theorem part_of (h : SndE K sc y e) (s : Sh y) : SndP K sc (pn y) e := fun {A env X ρ μ l s' Q} hA Fr F hw => by
  rw [s.part]
  unfold SndE at h
  exact h hA Fr F hw

noncomputable def methB (m k : Nat) (ys : List Expr) (a b : Pos) : Bool := Nat.blt m mTab.length && (!(k == 1) && (decide (ys.length < 30) && (a.endLine == b.line)))
theorem meth_of {m : Nat} {ys : List Expr} {es : CEs} {a b : Pos} (h : SndE K sc y e) (s : Sh y) (hs : EsX K sc false ys es) (c : methB m (kd y) ys a b = true) : SndE K sc (.Call (.Attribute y (mTab.getD m Str.empty) a) ys [] b) (.meth e m es) := by
  unfold methB at c
  rw [Bool.and_eq_true, Bool.and_eq_true, Bool.and_eq_true, Bool.not_eq_true'] at c
  refine sndE_meth h hs.1 hs.2.1 (Nat.le_of_ble_eq_true c.1) rfl fun env => ⟨(do return (← importBound y env).getD true), ?_⟩
  have hf : methodCallForm ys.length (backTo b (starEach ys env)) [] = true := by
    unfold methodCallForm
    rw [Bool.and_eq_true, Bool.and_eq_true]
    exact ⟨⟨(by have := hs.2.1.plain b env; simpa using this), rfl⟩, c.2.2.1⟩
  show (do
    let ov ← attributeBase y _ env (eval y env)
    standAt a.atName
    let (f, first) ← holding [ov] (calleeOf (methodCallForm ys.length (backTo b (starEach ys env)) []) y env ov _)
    let q ← methodCallPos (methodCallForm ys.length (backTo b (starEach ys env)) []) y env a b
    callWith q f first (backTo b (starEach ys env)) []) = _
  rw [s.base c.2.1, hf]
  unfold methodCallPos
  rw [c.2.2.2]
  rfl
/- lambdas -/
noncomputable def lamX (k : Nat) : Expr := .Lambda (LAM.getD k lam0).params (LAM.getD k lam0).body (LAM.getD k lam0).scope (LAM.getD k lam0).pos
noncomputable def capB (sc : Sc) (nm : Str) (caps : List Nat) : Bool := @List.casesOn Nat (fun l => Bool) caps false fun i r => r.isEmpty && (sc.ns[i]? == some nm && isCF (sc.ks.lookup nm))
theorem capB_of {nm : Str} {caps : List Nat} (h : capB sc nm caps = true) : ∃ i, caps = [i] ∧ sc.ns[i]? = some nm ∧ (sc.ks.lookup nm = some .cell ∨ sc.ks.lookup nm = some .free) := by
  cases caps with
  | nil => cases h
  | cons i r =>
    have h := (Bool.and_eq_true _ _).mp h
    exact ⟨i, by rw [List.isEmpty_iff.mp h.1], eq_of_beq ((Bool.and_eq_true _ _).mp h.2).1, cf_of ((Bool.and_eq_true _ _).mp h.2).2⟩
noncomputable def inB (sc : Sc) (c : Nat) (q : String) : Bool := sc.code == some (.ref c) && sc.qual == some (Str.ofString q)
theorem inB_of {c : Nat} {q : String} (h : inB sc c q = true) : sc.code = some (.ref c) ∧ sc.qual = some (Str.ofString q) := ((Bool.and_eq_true _ _).mp h).imp eq_of_beq eq_of_beq
noncomputable def lamR (ok : OkCx K) (sc : Sc) (caps : List Nat) (k : Nat) : Option (Res K sc false (.lam k caps)) :=
  @Nat.casesOn (fun k => Option (Res K sc false (.lam k caps))) k
    (when (inB sc 122 "put_in.<locals>.") fun h => when (capB sc (Str.ofString "first") caps) fun c => some ⟨lamX 0, by obtain ⟨i, rfl, h1, h2⟩ := capB_of c; exact lamE0 ok (inB_of h).1 (inB_of h).2 h1 h2, rfl, asg0 rfl⟩)
    fun k => @Nat.casesOn (fun k => Option (Res K sc false (.lam (k + 1) caps))) k
      (when (inB sc 122 "put_in.<locals>.") fun h => when caps.isEmpty fun c => some ⟨lamX 1, by rw [List.isEmpty_iff.mp c]; exact lamE1 ok (inB_of h).1 (inB_of h).2, rfl, asg0 rfl⟩)
      fun k => @Nat.casesOn (fun k => Option (Res K sc false (.lam (k + 2) caps))) k
        (when (inB sc 155 "Inliner.led.<locals>.") fun h => when caps.isEmpty fun c => some ⟨lamX 2, by rw [List.isEmpty_iff.mp c]; exact lamE2 ok (inB_of h).1 (inB_of h).2, rfl, asg0 rfl⟩)
        fun k => @Nat.casesOn (fun k => Option (Res K sc false (.lam (k + 3) caps))) k
          (when (inB sc 155 "Inliner.led.<locals>.") fun h => when (capB sc (Str.ofString "self") caps) fun c => some ⟨lamX 3, by obtain ⟨i, rfl, h1, h2⟩ := capB_of c; exact lamE3 ok (inB_of h).1 (inB_of h).2 h1 h2, rfl, asg0 rfl⟩)
          fun k => none

/- sources -/
noncomputable def fn (n : Nat) (x : Expr) : Expr := .Name (gnm n) (ps (kid x 0))
theorem one {a : CE} (p : Res K sc false a) : EsX K sc false [p.1] (.cons a .nil) := es_cons p.snd p.sh es_nil
theorem both {a b : CE} (p : Res K sc false a) (q : Res K sc false b) : EsX K sc false [p.1, q.1] (.cons a (.cons b .nil)) := es_cons p.snd p.sh (one q)
noncomputable def iItems {a : CE} (ra : Rd K a) : RdI K (.items a) := fun sc x => (ra false sc x).bind fun p => some ⟨p.1, sndI_items p.snd, p.sh.fold⟩
noncomputable def iRange1 {a : CE} (ra : Rd K a) : RdI K (.range1 a) := fun sc x => when (gB sc 31) fun h => (ra false sc (kid x 1)).bind fun p =>
  some ⟨.Call (fn 31 x) [p.1] [] (ps x), sndI_range1 (glo_of h) rfl (one p).1 (one p).2.1, fun _ _ => rfl⟩
noncomputable def iRange2 {a b : CE} (ra : Rd K a) (rb : Rd K b) : RdI K (.range2 a b) := fun sc x => when (gB sc 31) fun h => (ra false sc (kid x 1)).bind fun p => (rb false sc (kid x 2)).bind fun q =>
  some ⟨.Call (fn 31 x) [p.1, q.1] [] (ps x), sndI_range2 (glo_of h) rfl (both p q).1 (both p q).2.1, fun _ _ => rfl⟩
noncomputable def iEnum {a : CE} (ra : Rd K a) : RdI K (.enum a) := fun sc x => when (gB sc 33) fun h => (ra false sc (kid x 1)).bind fun p =>
  some ⟨.Call (fn 33 x) [p.1] [] (ps x), sndI_enum (glo_of h) rfl (one p).1 (one p).2.1, fun _ _ => rfl⟩
noncomputable def iZip {a b : CE} (ra : Rd K a) (rb : Rd K b) : RdI K (.zip a b) := fun sc x => when (gB sc 32) fun h => (ra false sc (kid x 1)).bind fun p => (rb false sc (kid x 2)).bind fun q =>
  some ⟨.Call (fn 32 x) [p.1, q.1] [] (ps x), sndI_zip (glo_of h) rfl (both p q).1 (both p q).2.1, fun _ _ => rfl⟩

/- targets -/
noncomputable def tB (sc : Sc) (i : Nat) : Bool := decide (i < sc.ns.length) && sc.ks.lookup (lnm sc i) == some .local
theorem tB_of {i : Nat} (h : tB sc i = true) : sc.ns[i]? = some (lnm sc i) ∧ sc.ks.lookup (lnm sc i) = some .local := ((Bool.and_eq_true _ _).mp h).imp lnm_of eq_of_beq
noncomputable def ResT (sc : Sc) (tup : Bool) (tg : List Nat) := {y : Expr // TgOk sc tup y tg ∧ tg.length = if tup = true then 2 else 1}
noncomputable def tgR (sc : Sc) (x : Expr) (tup : Bool) (tg : List Nat) : Option (ResT sc tup tg) :=
  @List.casesOn Nat (fun tg => Option (ResT sc tup tg)) tg none fun i r => when (tB sc i) fun h => @List.casesOn Nat (fun r => Option (ResT sc tup (i :: r))) r
    (@Bool.casesOn (fun t => Option (ResT sc t [i])) tup (some ⟨.Name (lnm sc i) (ps x), .one (tB_of h).1 (tB_of h).2, rfl⟩) none)
    fun j r => when (tB sc j) fun g => @List.casesOn Nat (fun r => Option (ResT sc tup (i :: j :: r))) r
      (@Bool.casesOn (fun t => Option (ResT sc t [i, j])) tup none (some ⟨.Tuple [.Name (lnm sc i) (ps (kid x 0)), .Name (lnm sc j) (ps (kid x 1))] (kt x) (ps x), .many (.cons (tB_of h).1 (tB_of h).2 (.cons (tB_of g).1 (tB_of g).2 .nil)), rfl⟩))
      fun k r => none

/- comprehensions -/
noncomputable def lComp {a : CE} {c : CO} {tg : List Nat} {src : CI} {ns : List Str} {fr : List (Nat × Nat)} (ra : Rd K a) (rc : RdO K c) (ri : RdI K src) : RdL K (.comp a c tg src ns fr) := fun sc x =>
  when (compOkB (sp x) sc ns fr tg) fun h => (tgR ⟨ns, (sp x).names, none, none⟩ (kid x 1) (tupOf src) tg).bind fun g => (ri sc (kid x 2)).bind fun i => (ra false ⟨ns, (sp x).names, none, none⟩ (kid x 0)).bind fun p => (rc ⟨ns, (sp x).names, none, none⟩ x).bind fun c =>
    some ⟨.ListComp p.1 [⟨g.1, i.1, c.1, 0⟩] (sp x) (ps x), rL_comp (tupOf src) h g.2.1 g.2.2 i.2.1 p.snd c.2 i.2.2, rfl,
      fun _ py spos nm j h1 h2 b => sndS_asgComp rfl (compSc_of h) g.2.1 g.2.2 i.2.1 p.snd c.2 i.2.2 h1 h2 ((Bool.and_eq_true _ _).mp b).1 ((Bool.not_eq_true' _).mp ((Bool.and_eq_true _ _).mp b).2) false,
      fun _ py spos nm j h1 h2 b => sndS_asgComp rfl (compSc_of h) g.2.1 g.2.2 i.2.1 p.snd c.2 i.2.2 h1 h2 ((Bool.and_eq_true _ _).mp b).1 ((Bool.not_eq_true' _).mp ((Bool.and_eq_true _ _).mp b).2) true⟩

noncomputable def rdN (K : Cx) (sc : Sc) (x : Expr) (e : CE) : Option {p : Str × Pos // SndE K sc (.Name p.1 p.2) e} := @CE.casesOn (fun e => Option {p : Str × Pos // SndE K sc (.Name p.1 p.2) e}) e
  (fun i => none) (fun c => none) none (fun b => none)
  (fun i => when (lB sc i) fun h => some ⟨(lnm sc i, ps x), loc_of h⟩)
  (fun n => when (gB sc n) fun h => some ⟨(gnm n, ps x), glo_of h⟩)
  (fun op a b => none) (fun a => none) (fun a => none) (fun op a b => none) (fun o p a b c => none) (fun i xs => none) (fun t a b => none) (fun xs => none) (fun c => none) (fun c => none) (fun e f => none) (fun e i => none) (fun e lo hi => none) (fun f xs => none) (fun o m xs => none) (fun k caps => none)

noncomputable def rd (ok : OkCx K) : ∀ e, Rd K e := @CE.rec (Rd K) (RdEs K) (RdL K) (RdO K) (RdI K)
  (fun i t sc x => eOnly (.Constant (.int i) (kt x) (ps x)) sndE_int rfl rfl t)
  (fun c t sc x => when (decide (c < sTab.length)) fun h => eOnly (.Constant (.str (sTab.getD c Str.empty)) (kt x) (ps x)) (sndE_str (getD_is (of_decide_eq_true h))) rfl rfl t)
  (fun t sc x => eOnly (.Constant .none (kt x) (ps x)) sndE_none rfl rfl t)
  (fun b t sc x => eOnly (.Constant (.bool b) (kt x) (ps x)) sndE_bool rfl rfl t)
  (fun i t sc x => when (lB sc i) fun h => eVal (.Name (lnm sc i) (ps x)) (loc_of h) wpT_loc (fun _ _ => rfl) rfl rfl t)
  (fun n t sc x => when (gB sc n) fun h => eOnly (.Name (gnm n) (ps x)) (glo_of h) rfl rfl t)
  (fun op a b ra rb t sc x => (ra false sc (kid x 0)).bind fun p => (rb false sc (kid x 1)).bind fun q => eOnly (.BinOp p.1 op q.1 (ps x)) (sndE_bin p.snd q.snd) rfl rfl t)
  (fun a ra t sc x => (ra false sc (kid x 0)).bind fun p => eOnly (.UnaryOp .USub p.1 (ps x)) (sndE_neg p.snd) rfl rfl t)
  (fun a ra t sc x => (ra t sc (kid x 0)).bind fun p => some ⟨.UnaryOp .Not p.1 (ps x), not_x p.snd, rfl, asg0 rfl⟩)
  (fun op a b ra rb t sc x => (ra false sc (kid x 0)).bind fun p => (rb false sc (kid x 1)).bind fun q => eX (.Compare p.1 [op] [q.1] (ps x)) (sndE_cmp p.snd q.snd (q.sh.marks op)) (sndT_cmp p.snd q.snd (q.sh.marks op)) rfl rfl t)
  (fun o1 o2 a b c ra rb rc t sc x => (ra false sc (kid x 0)).bind fun p => (rb false sc (kid x 1)).bind fun q => (rc false sc (kid x 2)).bind fun r => tOnly (.Compare p.1 [o1, o2] [q.1, r.1] (ps x)) (sndT_cmp2 p.snd q.snd r.snd (r.sh.marks o2)) rfl rfl t)
  (fun i xs rxs t sc x => (rxs t sc x 0).bind fun p => some ⟨.BoolOp (opOf i) p.1 (ps x), bop_x p.2, rfl, asg0 rfl⟩)
  (fun c a b rc ra rb t sc x => (rc true sc (kid x 0)).bind fun r => (ra false sc (kid x 1)).bind fun p => (rb false sc (kid x 2)).bind fun q => eOnly (.IfExp r.1 p.1 q.1 (ps x)) (sndE_ite r.snd p.snd q.snd) rfl rfl t)
  (fun xs rxs t sc x => (rxs false sc x 0).bind fun p => eOnly (.Tuple p.1 (kt x) (ps x)) (sndE_tup p.2.1) rfl rfl t)
  (fun c rc t sc x => (rc sc x).bind fun p => eOnly0 p.1 (sndE_fl p.2.1) p.2.2.1 p.2.2.2.1 t)
  (fun c rc t sc x => (rc sc x).bind fun p => eOnly0 p.1 (sndE_ml p.2.1) p.2.2.1 p.2.2.2.2 t)
  (fun a f ra t sc x => (ra false sc (kid x 0)).bind fun p => when (!(kd p.1 == 1)) fun h => eVal (.Attribute p.1 (fTab.getD f Str.empty) (ps x)) (sndE_attr p.snd rfl fun env => p.sh.base ((Bool.not_eq_true' _).mp h) _ _ _) wpT_attr (fun _ _ => rfl) rfl rfl t)
  (fun a b ra rb t sc x => (ra false sc (kid x 0)).bind fun p => (rb false sc (kid x 1)).bind fun q => eOnly (.Subscript p.1 q.1 (ps x)) (sndE_sub p.snd q.snd q.sh.sub) rfl rfl t)
  (fun a b c ra rb rc t sc x => (ra false sc (kid x 0)).bind fun p => (rb false sc (kid (kid x 1) 0)).bind fun q => (rc false sc (kid (kid x 1) 1)).bind fun r => eOnly (.Subscript p.1 (.Slice (pn q.1) (pn r.1) none (ps (kid x 1))) (ps x)) (sndE_sli p.snd (part_of q.snd q.sh) (part_of r.snd r.sh)) rfl rfl t)
  (fun f xs rf rxs t sc x => (rdN K sc (kid x 0) f).bind fun n => (rxs false sc x 1).bind fun p => eVal (.Call (.Name n.1.1 n.1.2) p.1 [] (ps x)) (sndE_call (lam_ok ok) n.2 p.2.1 p.2.2.1) wpT_call (fun _ _ => rfl) shN.1 shN.2 t)
  (fun a m xs ra rxs t sc x => (ra false sc (kid (kid x 0) 0)).bind fun p => (rxs false sc x 1).bind fun q => when (methB m (kd p.1) q.1 (ps (kid x 0)) (ps x)) fun h => eOnly (.Call (.Attribute p.1 (mTab.getD m Str.empty) (ps (kid x 0))) q.1 [] (ps x)) (meth_of p.snd p.sh q.2 h) shM.1 shM.2 t)
  (fun k caps t sc x => (lamR ok sc caps k).bind fun p => eOnly0 p.1 p.snd p.sh p.2.2.2 t)
  (fun t sc x i => some ⟨[], es_nil⟩)
  (fun a es ra res t sc x i => (ra t sc (kid x i)).bind fun p => (res t sc x (i + 1)).bind fun q => some ⟨p.1 :: q.1, es_cons p.snd p.sh q.2⟩)
  (fun xs rxs sc x => (rxs false sc x 0).bind fun p => some ⟨.List p.1 (ps x), sndL_disp p.2.1, rfl, asg0 rfl, asg0 rfl⟩)
  (fun a c tg src ns fr ra rc ri => lComp ra rc ri)
  (fun a b ra rb sc x => (ra false sc (kid x 0)).bind fun p => (rb false sc (kid x 1)).bind fun q => some ⟨.BinOp p.1 .Add q.1 (ps x), sndL_add p.snd q.snd, rfl, asg0 rfl, asg0 rfl⟩)
  (fun sc x => some ⟨[], sndC_nil⟩)
  (fun a ra sc x => (ra true sc (kid x 3)).bind fun p => some ⟨[p.1], sndC_one p.snd⟩)
  (fun a ra => iItems ra) (fun a ra => iRange1 ra) (fun a b ra rb => iRange2 ra rb) (fun a ra => iEnum ra) (fun a b ra rb => iZip ra rb)
noncomputable def rdI (ok : OkCx K) (c : CI) : RdI K c := @CI.casesOn (RdI K) c (fun a => iItems (rd ok a)) (fun a => iRange1 (rd ok a)) (fun a b => iRange2 (rd ok a) (rd ok b)) (fun a => iEnum (rd ok a)) (fun a b => iZip (rd ok a) (rd ok b))

/- statements -/
noncomputable def st (x : Stmt) : Pos × List Expr × List Stmt × List Stmt := @Stmt.casesOn (fun x => Pos × List Expr × List Stmt × List Stmt) x
  (fun a b c d e f g h i j => (p0, [], [], [])) (fun a b c d e f g h i j => (p0, [], [], [])) (fun a b c d e f g h i j k => (p0, [], [], []))
  (fun v p => (p, v.toList, [], []))
  (fun a b => (p0, [], [], []))
  (fun ts v p => (p, v :: ts, [], []))
  (fun a b c d e f g => (p0, [], [], [])) (fun a b c d => (p0, [], [], [])) (fun a b c d e => (p0, [], [], []))
  (fun t i b o p => (p, [t, i], b, []))
  (fun a b c d e => (p0, [], [], []))
  (fun t b o p => (p, [t], b, []))
  (fun t b o p => (p, [t], b, o))
  (fun a b c => (p0, [], [], [])) (fun a b c => (p0, [], [], [])) (fun a b c => (p0, [], [], [])) (fun a b c => (p0, [], [], [])) (fun a b c d e => (p0, [], [], [])) (fun a b c d e => (p0, [], [], [])) (fun a b c => (p0, [], [], [])) (fun a b => (p0, [], [], [])) (fun a b c d => (p0, [], [], [])) (fun a b => (p0, [], [], [])) (fun a b => (p0, [], [], []))
  (fun v p => (p, [v], [], []))
  (fun a => (p0, [], [], [])) (fun a => (p0, [], [], [])) (fun a => (p0, [], [], []))
noncomputable def sk (x : Stmt) (i : Nat) : Expr := (st x).2.1.getD i n0
noncomputable def sq (x : Stmt) : Pos := (st x).1

theorem Sh.swapC (h : Sh y) {env : Env} {n : Str} {py : Pos} {l : Nat} (H : EnvOk sc env) (hn : sc.ks.lookup n = some .cell) : swapsWith y (some (.Name n py)) l env = pure false := (congrFun (congrArg (·.2.2.2.2.2.2.2) (h.all [] env .none .none .Eq n (pure .none) none l)) py).trans (by
  show (bif kd y == 2 then pure (env.blockKind == .function && env.kindOf n == some .local && _ && _) else _) = _
  rw [H.ke n hn]
  cases kd y == 2
  · rfl
  · cases env.blockKind == ScopeKind.function <;> rfl)
noncomputable def asgOk (sc : Sc) (c : Bool) (i : Nat) (py : Pos) (y : Expr) : Bool := decide (i < sc.ns.length) && (sc.ks.lookup (lnm sc i) == some (if c = true then .cell else .local) && (c || !(kd y == 2) || asgB (lnm sc i) py y))
theorem asg_of {c : Bool} {i : Nat} {py pos : Pos} (p : Res K sc false e) (h : asgOk sc c i py p.1 = true) : SndS K sc (.Assign [.Name (lnm sc i) py] p.1 pos) (.asg c i e) := by
  unfold asgOk at h
  rw [Bool.and_eq_true, Bool.and_eq_true] at h
  cases c with
  | true => exact sndS_asg true p.snd (lnm_of h.1) (eq_of_beq h.2.1) fun env H => p.sh.swapC H (eq_of_beq h.2.1)
  | false =>
    cases hk : kd p.1 == 2 with
    | false => exact sndS_asg false p.snd (lnm_of h.1) (eq_of_beq h.2.1) fun env H => p.sh.swap hk _ _ _
    | true => 
      have := h.2.2
      rw [hk] at this
      exact fun {A env X ρ μ l s Q} hA Fr F hw => p.2.2.2 (eq_of_beq hk) py pos _ i (lnm_of h.1) (eq_of_beq h.2.1) this hA Fr F hw
noncomputable def asg2Ok (sc : Sc) (c d : Bool) (i j : Nat) (pa pb : Pos) (x y : Expr) : Bool := decide (i < sc.ns.length) && (decide (j < sc.ns.length) && (sc.ks.lookup (lnm sc i) == some (if c = true then .cell else .local) && (sc.ks.lookup (lnm sc j) == some (if d = true then .cell else .local) && (!(lnm sc i == lnm sc j) &&
  (c || d || ((pb.line == pa.line) && (!([x, y].any isStar) && (!([x, y].all (foldedForSure 8)) && !([x, y].all (constantsAlone 8))))))))))
theorem not_of {b : Bool} (h : (!b) = true) : b = false := (Bool.not_eq_true' _).mp h
theorem asg2_of {c d : Bool} {a b : CE} {i j k1 k2 : Nat} {pa pb tp vp pos : Pos} (p : Res K sc false a) (q : Res K sc false b) (h : asg2Ok sc c d i j pa pb p.1 q.1 = true) : SndS K sc (.Assign [.Tuple [.Name (lnm sc i) pa, .Name (lnm sc j) pb] k1 tp] (.Tuple [p.1, q.1] k2 vp) pos) (.asg2 c d i j a b) := by
  unfold asg2Ok at h
  rw [Bool.and_eq_true, Bool.and_eq_true, Bool.and_eq_true, Bool.and_eq_true, Bool.and_eq_true] at h
  cases hcd : c || d with
  | true => exact sndS_asg2 c d p.snd q.snd (p.sh.star _) (q.sh.star _) (lnm_of h.1) (lnm_of h.2.1) (eq_of_beq h.2.2.1) (eq_of_beq h.2.2.2.1) ((Bool.or_eq_true _ _).mp hcd) (not_of h.2.2.2.2.1)
  | false =>
    have g := h.2.2.2.2.2
    rw [hcd, Bool.false_or, Bool.and_eq_true, Bool.and_eq_true, Bool.and_eq_true] at g
    obtain ⟨rfl, rfl⟩ := (Bool.or_eq_false_iff).mp hcd
    exact fun {A env X ρ μ l s Q} hA Fr F hw => sndS_asg2s p.snd q.snd (p.sh.star _) (q.sh.star _) (lnm_of h.1) (lnm_of h.2.1) (eq_of_beq h.2.2.1) (eq_of_beq h.2.2.2.1) g.1 (not_of h.2.2.2.2.1) (not_of g.2.1) (not_of g.2.2.1) (not_of g.2.2.2) hA Fr F hw

noncomputable abbrev RdS (K : Cx) (c : CS) := ∀ (sc : Sc) (s : Stmt), Option {y : Stmt // SndS K sc y c}
noncomputable abbrev RdSs (K : Cx) (c : CSs) := ∀ (sc : Sc) (l : List Stmt), Option {y : List Stmt // SndSs K sc y c}
noncomputable def rdSs (ok : OkCx K) : ∀ c, RdSs K c := @CSs.rec (RdS K) (RdSs K)
  (fun a sc s => (rd ok a false sc (sk s 0)).bind fun p => when (!(kd p.1 == 2)) fun h => some ⟨.Expr p.1 (sq s), sndS_expr p.snd (p.sh.swap (not_of h) _ _)⟩)
  (fun a sc s => (rd ok a false sc (sk s 0)).bind fun p => some ⟨.Return (some p.1) (sq s), sndS_ret p.snd⟩)
  (fun c i a sc s => (rd ok a false sc (sk s 0)).bind fun p => when (asgOk sc c i (ps (sk s 1)) p.1) fun h => some ⟨.Assign [.Name (lnm sc i) (ps (sk s 1))] p.1 (sq s), asg_of p h⟩)
  (fun c d i j a b sc s => (rd ok a false sc (kid (sk s 0) 0)).bind fun p => (rd ok b false sc (kid (sk s 0) 1)).bind fun q => when (asg2Ok sc c d i j (ps (kid (sk s 1) 0)) (ps (kid (sk s 1) 1)) p.1 q.1) fun h =>
    some ⟨.Assign [.Tuple [.Name (lnm sc i) (ps (kid (sk s 1) 0)), .Name (lnm sc j) (ps (kid (sk s 1) 1))] (kt (sk s 1)) (ps (sk s 1))] (.Tuple [p.1, q.1] (kt (sk s 0)) (ps (sk s 0))) (sq s), asg2_of p q h⟩)
  (fun o f a sc s => (rd ok o false sc (kid (sk s 1) 0)).bind fun p => (rd ok a false sc (sk s 0)).bind fun q => when (!(kd q.1 == 2)) fun h => some ⟨.Assign [.Attribute p.1 (fTab.getD f Str.empty) (ps (sk s 1))] q.1 (sq s), sndS_setA p.snd q.snd rfl (q.sh.swap (not_of h) _ _)⟩)
  (fun o i a sc s => (rd ok o false sc (kid (sk s 1) 0)).bind fun p => (rd ok i false sc (kid (sk s 1) 1)).bind fun r => (rd ok a false sc (sk s 0)).bind fun q => when (!(kd q.1 == 2)) fun h => some ⟨.Assign [.Subscript p.1 r.1 (ps (sk s 1))] q.1 (sq s), sndS_setI p.snd r.snd q.snd (q.sh.swap (not_of h) _ _)⟩)
  (fun c a b ia ib sc s => (rd ok c true sc (sk s 0)).bind fun p => (ia sc (st s).2.2.1).bind fun q => (ib sc (st s).2.2.2).bind fun r => some ⟨.If p.1 q.1 r.1 (sq s), sndS_ite p.snd q.2 r.2⟩)
  (fun c b ib sc s => (rd ok c true sc (sk s 0)).bind fun p => (ib sc (st s).2.2.1).bind fun q => some ⟨.While p.1 q.1 [] (sq s), sndS_whil p.snd q.2⟩)
  (fun tg src b ib sc s => (tgR sc (sk s 0) (tupOf src) tg).bind fun g => (rdI ok src sc (sk s 1)).bind fun i => (ib sc (st s).2.2.1).bind fun q => some ⟨.For g.1 i.1 q.1 [] (sq s), sndS_for g.2.1 g.2.2 i.2.1 q.2 i.2.2⟩)
  (fun sc s => some ⟨s, sndS_bad⟩)
  (fun sc l => some ⟨[], sndSs_nil⟩)
  (fun c cs ic ics sc l => (ic sc (l.headD (.Pass p0))).bind fun p => (ics sc l.tail).bind fun q => some ⟨p.1 :: q.1, sndSs_cons p.2 q.2⟩)
end

/- MPhi -/



noncomputable def dfI (d : Nat) : Option (Array Value) := @Nat.casesOn (fun d => Option (Array Value)) d none fun d => @Nat.casesOn (fun d => Option (Array Value)) d (some #[.ref 64, .ref 65, .ref 66]) fun d => some #[.int 0 507, .none]
noncomputable def dfD (d : Nat) : Value := @Nat.casesOn (fun d => Value) d .none fun d => @Nat.casesOn (fun d => Value) d (.ref 67) fun d => .ref 178

noncomputable def objAt (P : Params) (a : Addr) : Obj := ((KK P).lookup a).getD ⟨.none, none, .plain, #[]⟩
noncomputable def fdAt (P : Params) (a : Addr) : FuncData := @Data.casesOn (fun d => FuncData) (objAt P a).data default (fun v => default) (fun i e => default) (fun i e => default) (fun i e t => default) (fun b e => default) (fun v => default) (fun f => f) (fun c => default) (fun v => default) default
noncomputable def stmtsOf (b : FuncBody) : List Stmt := @FuncBody.casesOn (fun b => List Stmt) b (fun l => l) fun x => []
noncomputable def fdB (P : Params) (a : Addr) (b : List Stmt) : FuncData := fnOf (fdAt P a).name (fdAt P a).qualname (fdAt P a).params b (fdAt P a).scope (fdAt P a).defaults (fdAt P a).kwdefaults (fdAt P a).doc (fdAt P a).pyModule (fdAt P a).annotations (fdAt P a).code (fdAt P a).closureTuple
noncomputable def scAt (P : Params) (a : Addr) (ns : List Str) : Sc := ⟨ns, (fdAt P a).scope.names, some (fdAt P a).code, some ((fdAt P a).qualname ++ ".<locals>.")⟩
noncomputable def fnB (P : Params) (p : Nat × FnE) : Bool := codeIn (KK P) (fdAt P p.1).code (fdAt P p.1).qualname && (fnOkB (fdAt P p.1).scope p.2.ns p.2.np && (!(fdAt P p.1).scope.isCoroutine && (!(fdAt P p.1).scope.isGenerator && (fdAt P p.1).defaults == dfD p.2.d)))
theorem fn_checks (P : Params) : fnTab.all (fnB P) = true := by kernel_rfl
theorem fn_read {K : Cx} (ok : OkCx K) : fnTab.map (fun p => (rdSs ok p.2.ce (scAt K.w.params p.1 p.2.ns) (stmtsOf (fdAt K.w.params p.1).body)).map fun b => some (⟨(objAt K.w.params p.1).cls, (objAt K.w.params p.1).dict, .func (fdB K.w.params p.1 b.1), (objAt K.w.params p.1).slots⟩ : Obj)) = fnTab.map fun p => some ((KK K.w.params).lookup p.1) := by kernel_rfl

noncomputable def bindK (fd : FuncData) (vals : List Value) : Option (Array Value) → Sem (List (Str × Value)) := (⟨_, rfl⟩ : {k : Option (Array Value) → Sem (List (Str × Value)) // bindArgs fd ⟨vals, []⟩ = seqItems? fd.defaults >>= k}).1
theorem bindK_eq {fd : FuncData} {vals : List Value} : bindArgs fd ⟨vals, []⟩ = seqItems? fd.defaults >>= bindK fd vals := rfl
noncomputable def tab (m : Nat) (g : Nat → Value) : List Value := (List.range m).map g
noncomputable def dfv (d : Nat) : List Value := ((dfI d).getD #[]).toList
noncomputable def bnd (e : FnE) (vals : List Value) : List (Str × Value) := (e.ns.take e.np).zip (vals ++ (dfv e.d).drop (vals.length + (dfv e.d).length - e.np))
theorem fn_binds (P : Params) (g : Nat → Value) : fnTab.map (fun p => (List.range ((dfv p.2.d).length + 1)).map fun j => bindK (fdAt P p.1) (tab (p.2.np - j) g) (dfI p.2.d)) = fnTab.map fun p => (List.range ((dfv p.2.d).length + 1)).map fun j => pure (bnd p.2 (tab (p.2.np - j) g)) := by kernel_rfl

theorem tab_of (vals : List Value) : tab vals.length (fun i => vals.getD i .none) = vals := by
  refine List.ext_getElem (by simp [tab]) fun i h1 h2 => ?_
  simp [tab, h2]

theorem emptyTup {K : Cx} {ρ : Rho} {μ : List AO} {s : Shared} (S : Sees K.g K.Λ ρ μ s) {a : Addr} (h : (KK K.w.params).lookup a = some ⟨.type "tuple", none, .seq #[] 0, #[]⟩) : VDen K.Λ ρ s.heap (.tup []) (.ref a) :=
  .tup (S.safeOld (K.gd.K _ _ h)) ⟨_, S.base _ _ (K.gd.K _ _ h), rfl, _, rfl⟩ .nil
theorem dens {K : Cx} {ρ : Rho} {μ : List AO} {s : Shared} (S : Sees K.g K.Λ ρ μ s) : ∀ d, VDens K.Λ ρ s.heap (dfl d) (dfv d)
  | 0 => .nil
  | 1 => .cons (emptyTup S rfl) (.cons (emptyTup S rfl) (.cons (emptyTup S rfl) .nil))
  | _ + 2 => .cons (.int _ _) (.cons .none .nil)
theorem dens_len : ∀ d, (dfv d).length = (dfl d).length
  | 0 => rfl
  | 1 => rfl
  | _ + 2 => rfl
theorem dens_read {P : Params} {s : Shared} (X : (KK P).In s.heap) {M : Model} {A : Around} {E : Value → Shared → Prop} {Q : Option (Array Value) → Shared → Prop} : ∀ d, Q (dfI d) s → wpAny M A (seqItems? (dfD d)) Q E s
  | 0 => fun h => wpAny_pure h
  | 1 => fun h => wpAny_seqItems (X _ _ rfl) rfl h
  | _ + 2 => fun h => wpAny_seqItems (X _ _ rfl) rfl h

theorem fn_code {K : Cx} (ok : OkCx K) {a : Nat} {e : FnE} (he : (a, e) ∈ fnTab) {A : Around} {ρ : Rho} {μ : List AO} {s : Shared} {xs : List PV} {vals : List Value} {Q : Post} (hA : Room (K.n + 1) A) (S : Sees K.g K.Λ ρ μ s) (d : VDens K.Λ ρ s.heap xs vals)
    (h1 : xs.length ≤ e.np) (h2 : e.np ≤ xs.length + e.dflt.length) (hw : wpSs K.Φ e.ce (argL (xs ++ e.dflt.drop (xs.length + e.dflt.length - e.np)) e.ns.length) μ (exitQ μ Q)) :
    codeAny (model K.prog K.w) A (.call (.ref a) ⟨vals, []⟩) (fun r s' => match r with | .ok (.ret v) => Out K.g K.Λ ρ s Q v s' | .ok _ => False | .error e => NoE e s') s := by
  have hf := List.all_eq_true.mp (fn_checks K.w.params) _ he
  unfold fnB at hf
  rw [Bool.and_eq_true, Bool.and_eq_true, Bool.and_eq_true, Bool.and_eq_true] at hf
  obtain ⟨b, hb, ho⟩ := Option.map_eq_some_iff.mp (List.map_inj_left.mp (fn_read ok) _ he)
  have hnp : e.np ≤ e.ns.length := by
    have := hf.2.1
    unfold fnOkB at this
    simp only [Bool.and_eq_true, decide_eq_true_eq] at this
    exact this.1.2
  have vl := d.len
  have dl := dens_len e.d
  refine fn_enter (ps := e.ns.take e.np) ho.symm hf.1 (fnSc_of (sc := scAt K.w.params a e.ns) rfl hf.2.1) (not_of hf.2.2.1) (not_of hf.2.2.2.1) b.2 (fun v h => by cases h; rfl) (fun q h => by cases h; rfl) hA S
    (d.append ((dens S e.d).drop (xs.length + e.dflt.length - e.np))) ?_ ?_ hw
  · rw [List.length_append, List.length_drop, List.length_take]; lia
  · rw [← dl, ← vl]
    refine fun M A E R hq => ?_
    have hk := List.map_inj_left.mp (List.map_inj_left.mp (fn_binds K.w.params fun i => vals.getD i .none) _ he) (e.np - vals.length) (List.mem_range.mpr (by lia))
    have hm : e.np - (e.np - vals.length) = vals.length := by lia
    simp only [hm, tab_of] at hk
    have e1 : fdB K.w.params a b.1 = fdAt K.w.params a := by unfold fdAt objAt; rw [← ho]; rfl
    rw [show fnOf _ _ _ _ _ _ _ _ _ _ _ _ = fdAt K.w.params a from e1, bindK_eq, eq_of_beq hf.2.2.2.2]
    exact wpAny_bind (dens_read (S.K K.gd) e.d (by rw [hk]; exact wpAny_pure hq))

theorem keep_fns (P : Params) : ((fnTab.all fun p => keepIn (KK P) (.ref p.1)) && clsTab.all fun p => keepIn (KK P) (.ref p.1)) = true := by kernel_rfl

theorem phi_keep (P : Params) : ∀ (n : Nat) {a : Addr} {xs : List PV} {μ : List AO} {Q : Post}, PhiN n a xs μ Q → keepIn (KK P) (.ref a) = true
  | 0, _, _, _, _, h => h.elim
  | n + 1, a, xs, μ, Q, h => by
    have hk := keep_fns P
    rw [Bool.and_eq_true] at hk
    rcases h with ⟨e, he, _⟩ | ⟨f, hf, _⟩
    · exact List.all_eq_true.mp hk.1 _ (mem_of_lookup' he)
    · exact List.all_eq_true.mp hk.2 _ (mem_of_lookup' hf)

theorem cls_all (P : Params) : ∀ p ∈ clsTab, makesIn (KK P) p.1 = true ∧ findIn (KK P) (.ref p.1) "__init__" = some (some (.ref p.2)) ∧ typeIn (KK P) (.ref p.2) = some (.type "function") := by
  intro p hp
  simp only [clsTab, List.mem_cons, List.not_mem_nil, or_false] at hp
  rcases hp with rfl | rfl | rfl <;> exact ⟨by kernel_rfl, by kernel_rfl, by kernel_rfl⟩

noncomputable def cxN (prog : Program) (w : World) (g : Heap) (gd : Gd w g) (n : Nat) (h : PhiOk prog w g LAM (PhiN n) (n + 1)) : Cx :=
  ⟨prog, w, g, LAM, PhiN n, n + 1, gd, h, phi_keep w.params n⟩

theorem phi_step {prog : Program} {w : World} {g : Heap} (gd : Gd w g) (n : Nat) (ih : ∀ m, m ≤ n → PhiOk prog w g LAM (PhiN m) (m + 1)) {A : Around} {ρ : Rho} {μ : List AO} {s : Shared} {a : Addr} {xs : List PV} {vals : List Value} {Q : Post}
    (hA : Room (n + 2) A) (S : Sees g LAM ρ μ s) (d : VDens LAM ρ s.heap xs vals) (h : PhiN (n + 1) a xs μ Q) : wpAny (model prog w) A (call (.ref a) vals) (Out g LAM ρ s Q) NoE s := by
  rcases h with ⟨e, he, h1, h2, h3⟩ | ⟨f, hf, h3⟩
  · exact wpAny_call (fn_code (K := cxN prog w g gd n (ih n (Nat.le_refl _))) ⟨rfl, Nat.succ_le_succ (Nat.zero_le _)⟩ (mem_of_lookup' he) hA S d h1 h2 h3)
  · obtain ⟨c1, c2, c3⟩ := cls_all w.params _ (mem_of_lookup' hf)
    refine cls_make (K := cxN prog w g gd n (ih n (Nat.le_refl _))) (N := n + 1) c1 c2 c3 hA S d fun {A ρ₁ s₁ vself} hA1 S1 d1 => ?_
    cases n with
    | zero => exact h3.elim
    | succ m =>
      rcases h3 with ⟨e, he, h1, h2, h3⟩ | ⟨f2, hf2, _⟩
      · exact fn_code (K := cxN prog w g gd m (ih m (Nat.le_succ _))) ⟨rfl, Nat.succ_le_succ (Nat.zero_le _)⟩ (mem_of_lookup' he) hA1 S1 d1 h1 h2 h3
      · exfalso
        have m1 := mem_of_lookup' hf
        have m2 := mem_of_lookup' hf2
        simp only [clsTab, List.mem_cons, List.not_mem_nil, or_false, Prod.mk.injEq] at m1 m2
        rcases m1 with ⟨_, rfl⟩ | ⟨_, rfl⟩ | ⟨_, rfl⟩ <;> rcases m2 with ⟨q, _⟩ | ⟨q, _⟩ | ⟨q, _⟩ <;> exact absurd q (by decide)

theorem phi_all {prog : Program} {w : World} {g : Heap} (gd : Gd w g) (n : Nat) : ∀ m, m ≤ n → PhiOk prog w g LAM (PhiN m) (m + 1) := by
  induction n with
  | zero =>
    intro m hm
    obtain rfl : m = 0 := by lia
    unfold PhiOk
    intro A ρ μ s a xs vals Q hA S d h
    exact h.elim
  | succ n ih =>
    intro m hm
    by_cases h : m ≤ n
    · exact ih m h
    · obtain rfl : m = n + 1 := by lia
      exact fun hA S d h => phi_step gd n ih hA S d h
theorem phi_ok {prog : Program} {w : World} {g : Heap} (gd : Gd w g) (n : Nat) : PhiOk prog w g LAM (PhiN n) (n + 1) := phi_all gd n n (Nat.le_refl _)

/- MPb -/


theorem subP_nat {o : PV} {l : List PV} {i : Nat} {v : PV} {μ : List AO} {Q : Post} (h : itemsOf o μ = some l) (hz : l.length ≤ 1000000) (e : l[i]? = some v) (q : Q v μ) : subP o (.int i) μ Q :=
  ⟨l, i, h, rfl, hz, .inl ⟨Int.natCast_nonneg i, v, by rw [Int.toNat_natCast]; exact e, q⟩⟩
theorem setIP_nat {n i : Nat} {l : List PV} {v : PV} {μ : List AO} {Q : List AO → Prop} (h : μ[n]? = some (.lst l)) (hi : i < l.length) (hz : l.length ≤ 1000000) (q : Q (μ.set n (.lst (l.set i v)))) : setIP (.obj n) (.int i) v μ Q :=
  ⟨n, l, i, rfl, rfl, h, Int.natCast_nonneg i, by (simp [*]), hz, by rw [Int.toNat_natCast]; exact q⟩
theorem mod_pos {i j : Int} {μ : List AO} {Q : Post} (hj : 0 < j) (q : Q (.int (i % j)) μ) : binP .Mod (.int i) (.int j) μ Q :=
  two_i ⟨hj, by rw [Int.fmod_eq_emod_of_nonneg i (Int.le_of_lt hj)]; exact q⟩
theorem div_pos {i j : Int} {μ : List AO} {Q : Post} (hj : 0 < j) (hj2 : j < 2 ^ 62) (q : Q (.int (i / j)) μ) : binP .FloorDiv (.int i) (.int j) μ Q :=
  two_i ⟨hj, hj2, by rw [Int.fdiv_eq_ediv_of_nonneg i (Int.le_of_lt hj)]; exact q⟩

theorem add_i {i j : Int} {μ : List AO} {Q : Post} (q : Q (.int (i + j)) μ) : binP .Add (.int i) (.int j) μ Q := .inl (two_i q)
theorem sub_i {i j : Int} {μ : List AO} {Q : Post} (q : Q (.int (i - j)) μ) : binP .Sub (.int i) (.int j) μ Q := two_i q
theorem mul_i {i j : Int} {μ : List AO} {Q : Post} (hj : j.natAbs < 2 ^ 63) (q : Q (.int (i * j)) μ) : binP .Mult (.int i) (.int j) μ Q := .inl (two_i ⟨hj, q⟩)
theorem end_new {μ₀ : List AO} {o : AO} {Q : Post} (hb : belowO (μ₀.length + 1) o = true) (q : Q (.obj μ₀.length) (μ₀ ++ [o])) : EndQ μ₀ Q (.obj μ₀.length) (μ₀ ++ [o]) := by
  have hl : (μ₀ ++ [o]).length = μ₀.length + 1 := by simp
  refine end_k (v' := .obj μ₀.length) (μ₀.length + 1) (Nat.le_succ _) (Nat.le_of_eq hl.symm) (.keep (Nat.lt_succ_self _)) (.refl _) (fun j h1 h2 => ?_) (by rw [← hl, List.take_length]; exact q)
  have e : j = μ₀.length := by lia
  subst e
  exact ⟨o, by simp, hb⟩

theorem ite_dec {p : Prop} [Decidable p] {X Y : Prop} (h1 : p → X) (h2 : ¬ p → Y) : if decide p = true then X else Y := by
  by_cases h : p
  · rw [decide_eq_true h, if_pos rfl]; exact h1 h
  · rw [decide_eq_false h, if_neg (by decide)]; exact h2 h
theorem ite_b {b : Bool} {X Y : Prop} (h1 : b = true → X) (h2 : b = false → Y) : if b = true then X else Y := by
  cases b
  · rw [if_neg (by decide)]; exact h2 rfl
  · rw [if_pos rfl]; exact h1 rfl

theorem ite_t {b : Bool} {X Y : Prop} (h : b = true) (x : X) : if b = true then X else Y := by rw [if_pos h]; exact x
theorem ite_f {b : Bool} {X Y : Prop} (h : b = false) (y : Y) : if b = true then X else Y := by rw [h, if_neg (by decide)]; exact y

theorem ite_p {p : Prop} [Decidable p] (h : p) {X Y : Prop} (x : X) : if p then X else Y := by rw [if_pos h]; exact x
theorem ite_n {p : Prop} [Decidable p] (h : ¬ p) {X Y : Prop} (y : Y) : if p then X else Y := by rw [if_neg h]; exact y

theorem digit_ok {n : Nat} {s : Sr} {m : Int} {τ : List AO} {Q : Post} (hm : 0 < m) (hm2 : m < 2 ^ 62) (q : ∀ (d : Nat) (s' : Sr), (d : Int) < m → Q (.int d) (sv s' :: τ)) : PhiN (n + 1) 227 [.obj 0, .int m] (sv s :: τ) Q := by
  refine phi_fn [some (.obj 0), some (.int m), none] rfl rfl rfl rfl ?_
  show wpSs _ ce227 _ _ _
  dsimp only [ce227, wpSs, wpS, wpT, wpE]
  refine ⟨_, rfl, subP_nat (i := 0) (v := .int s.a) rfl (by simp) rfl ⟨_, _, rfl, rfl, ite_dec (fun h => ?_) fun h => ?_⟩⟩
  · refine ⟨_, rfl, subP_nat (i := 0) (v := .int s.a) rfl (by simp) rfl ⟨_, rfl, mod_pos hm ⟨nofun, _, rfl, subP_nat (i := 0) (v := .int s.a) rfl (by simp) rfl ⟨_, rfl, div_pos hm hm2 ⟨_, rfl, ?_⟩⟩⟩⟩⟩
    refine setIP_nat (i := 0) (l := [.int s.a, .int s.b]) rfl (by simp) (by simp) ⟨_, rfl, ?_⟩
    have h0 := Int.emod_nonneg (s.a : Int) (Int.ne_of_gt hm)
    have h1 := Int.emod_lt_of_pos (s.a : Int) hm
    have h2 := Int.ediv_nonneg (Int.natCast_nonneg s.a) (Int.le_of_lt hm)
    have e1 : ((s.a : Int) % m) = (((s.a : Int) % m).toNat : Int) := (Int.toNat_of_nonneg h0).symm
    have e2 : ((s.a : Int) / m) = (((s.a : Int) / m).toNat : Int) := (Int.toNat_of_nonneg h2).symm
    rw [e1, e2]
    rw [e1] at h1
    exact end_src (s' := ⟨_, s.b⟩) rfl (q _ ⟨_, s.b⟩ h1)
  · refine ⟨_, rfl, subP_nat (i := 1) (v := .int s.b) rfl (by simp) rfl (mul_i (by decide) (add_i (mod_pos (by decide) ⟨_, rfl, ?_⟩)))⟩
    have h0 := Int.emod_nonneg ((s.b : Int) * 39373 + 11) (show (2147483647 : Int) ≠ 0 by decide)
    have e1 : (((s.b : Int) * 39373 + 11) % 2147483647) = ((((s.b : Int) * 39373 + 11) % 2147483647).toNat : Int) := (Int.toNat_of_nonneg h0).symm
    rw [e1]
    generalize (((s.b : Int) * 39373 + 11) % 2147483647).toNat = b'
    refine setIP_nat (i := 1) (l := [.int s.a, .int s.b]) rfl (by simp) (by simp) ⟨_, rfl, subP_nat (i := 1) (v := .int b') rfl (by simp) rfl (div_pos (by decide) (by decide) ⟨_, rfl, mod_pos hm ?_⟩)⟩
    have h2 := Int.emod_nonneg ((b' : Int) / 16) (Int.ne_of_gt hm)
    have h1 := Int.emod_lt_of_pos ((b' : Int) / 16) hm
    have e2 : ((b' : Int) / 16 % m) = (((b' : Int) / 16 % m).toNat : Int) := (Int.toNat_of_nonneg h2).symm
    rw [e2]
    rw [e2] at h1
    exact end_src (s' := ⟨s.a, b'⟩) rfl (q _ ⟨s.a, b'⟩ h1)

theorem source_ok {n : Nat} {ns : List Int} {Q : Post} (hl : ns.length ≤ 63) (q : ∀ s : Sr, Q (.obj 0) [sv s]) : PhiN (n + 1) 220 [.lst (ns.map .int)] [] Q := by
  refine phi_fn [some (.lst (ns.map .int)), none, none] rfl rfl rfl rfl ?_
  show wpSs _ ce220 _ _ _
  have fin : ∀ c : Int, wpSs (PhiN n) (.cons (.asg false 2 (.ite (.cmp .GtE (.loc 1) (.cint 0)) (.loc 1) (.bin .Sub (.neg (.cint 1)) (.loc 1))))
  (.cons (.ret (.ml (.disp (.cons (.ite (.cmp .GtE (.loc 2) (.bin .Pow (.cint 10) (.cint 18))) (.loc 2) (.cint 0)) (.cons (.bin .Add (.bin .Mod (.bin .Mult (.bin .Mod (.loc 2) (.cint 2147483587)) (.cint 39373)) (.cint 2147483647)) (.cint 3)) .nil)))))
  .nil)) [some (.lst (ns.map .int)), some (.int c), none] [] (exitQ [] Q) := by
    intro c
    have fin2 : ∀ g : Nat, wpSs (PhiN n) (.cons (.ret (.ml (.disp (.cons (.ite (.cmp .GtE (.loc 2) (.bin .Pow (.cint 10) (.cint 18))) (.loc 2) (.cint 0)) (.cons (.bin .Add (.bin .Mod (.bin .Mult (.bin .Mod (.loc 2) (.cint 2147483587)) (.cint 39373)) (.cint 2147483647)) (.cint 3)) .nil)))))
        .nil) [some (.lst (ns.map .int)), some (.int c), some (.int g)] [] (exitQ [] Q) := by
      intro g
      have h0 := Int.emod_nonneg ((g : Int) % 2147483587 * 39373) (show (2147483647 : Int) ≠ 0 by decide)
      have e1 : ((g : Int) % 2147483587 * 39373 % 2147483647) = (((g : Int) % 2147483587 * 39373 % 2147483647).toNat : Int) := (Int.toNat_of_nonneg h0).symm
      dsimp only [wpSs, wpS, wpT, wpE, wpEs, wpL]
      refine ⟨_, rfl, two_i ⟨by decide, by decide, by decide, _, _, rfl, rfl, ite_dec (fun h => ?_) fun h => ?_⟩⟩
      · refine ⟨_, rfl, _, rfl, mod_pos (by decide) (mul_i (by decide) (mod_pos (by decide) (add_i ⟨by simp, ?_⟩)))⟩
        rw [e1]
        exact end_new (μ₀ := []) rfl (q ⟨g, _ + 3⟩)
      · refine ⟨_, rfl, mod_pos (by decide) (mul_i (by decide) (mod_pos (by decide) (add_i ⟨by simp, ?_⟩)))⟩
        rw [e1]
        exact end_new (μ₀ := []) rfl (q ⟨0, _ + 3⟩)
    unfold wpSs
    dsimp only [wpS, wpT, wpE]
    refine ⟨_, rfl, _, _, rfl, rfl, ite_dec (fun h => ?_) fun h => ?_⟩
    · refine ⟨_, rfl, nofun, ?_⟩
      have h1 : 0 ≤ c := by simpa using h
      have := fin2 c.toNat
      rw [Int.toNat_of_nonneg h1] at this
      exact this
    · refine ⟨1, rfl, _, rfl, sub_i ⟨nofun, ?_⟩⟩
      have h1 : ¬ 0 ≤ c := by simpa using h
      have := fin2 (-1 - c).toNat
      rw [Int.toNat_of_nonneg (by lia)] at this
      exact this
  unfold ce220
  unfold wpSs
  dsimp only [wpS, wpT, wpE, wpEs]
  refine ⟨_, rfl, _, rfl, ⟨_, rfl, .inl ⟨_, rfl, by simp; (exact Nat.le_trans ‹_› (by decide)), _, _, rfl, rfl, ite_dec (fun h => ?_) fun h => ?_⟩⟩⟩
  · refine ⟨_, rfl, _, rfl, ?_⟩
    cases ns with
    | nil => simp at h
    | cons c r =>
      refine subP_nat (i := 0) (v := .int c) rfl (by simp at hl ⊢; (exact Nat.le_trans ‹_› (by decide))) rfl ⟨c, rfl, nofun, fin c⟩
  · exact ⟨nofun, fin 0⟩

/- MPc -/


set_option genInjectivity true in
inductive Row where
  | const (d k : Nat)
  | move (d s : Nat)
  | call (d f : Nat) (as : List Nat)
  | goto (g : Nat)
  | static
  | invoke (d m : Nat) (as : List Nat)
  | unless (r g : Nat)
  | ret (r : Nat)

noncomputable def natsV (l : List Nat) : PV := .tup (l.map fun n : Nat => .int (n : Int))
noncomputable def Row.word : Row → Nat
  | .const .. => 0
  | .move .. => 1
  | .call .. => 6
  | .goto .. => 14
  | .static => 4
  | .invoke .. => 23
  | .unless .. => 15
  | .ret .. => 16
noncomputable def Row.parts : Row → List PV
  | .const d k => [.int d, .int k]
  | .move d s => [.int d, .int s]
  | .call d f as => [.int d, .int f, natsV as]
  | .goto g => [.int g]
  | .static => [.int 4, .str 44]
  | .invoke d m as => [.int d, .int m, natsV as]
  | .unless r g => [.int r, .int g]
  | .ret r => [.int r]
noncomputable def Row.pv (r : Row) : PV := .tup (.str r.word :: r.parts)
/- the number of the row's shape -/
noncomputable def Row.shape : Row → Nat
  | .const .. => 25
  | .move .. => 26
  | .call .. => 28
  | .goto .. => 35
  | .static => 25
  | .invoke .. => 31
  | .unless .. => 36
  | .ret .. => 37
noncomputable def Row.chars : Row → List Nat
  | .const .. => [32, 38]
  | .move .. => [32, 37]
  | .call .. => [32, 37, 43]
  | .goto .. => [35]
  | .static => [32, 38]
  | .invoke .. => [32, 38, 43]
  | .unless .. => [37, 35]
  | .ret .. => [37]

theorem chars25 : charsOf 25 = some [32, 38] := by decide +kernel
theorem chars26 : charsOf 26 = some [32, 37] := by decide +kernel
theorem chars28 : charsOf 28 = some [32, 37, 43] := by decide +kernel
theorem chars31 : charsOf 31 = some [32, 38, 43] := by decide +kernel
theorem chars35 : charsOf 35 = some [35] := by decide +kernel
theorem chars36 : charsOf 36 = some [37, 35] := by decide +kernel
theorem chars37 : charsOf 37 = some [37] := by decide +kernel
theorem Row.chars_eq (r : Row) : charsOf r.shape = some r.chars := by
  cases r
  · exact chars25
  · exact chars26
  · exact chars28
  · exact chars35
  · exact chars25
  · exact chars31
  · exact chars36
  · exact chars37
theorem sizes25 : (sTab.getD 25 Str.empty).cps.size = 2 ∧ (sTab.getD 26 Str.empty).cps.size = 2 ∧ (sTab.getD 28 Str.empty).cps.size = 3 ∧ (sTab.getD 31 Str.empty).cps.size = 3 ∧ (sTab.getD 35 Str.empty).cps.size = 1 ∧ (sTab.getD 36 Str.empty).cps.size = 2 ∧ (sTab.getD 37 Str.empty).cps.size = 1 := by decide +kernel
theorem Row.size_eq (r : Row) : (sTab.getD r.shape Str.empty).cps.size = r.parts.length := by
  obtain ⟨h1, h2, h3, h4, h5, h6, h7⟩ := sizes25
  cases r
  · exact h1
  · exact h2
  · exact h3
  · exact h5
  · exact h1
  · exact h4
  · exact h6
  · exact h7
theorem Row.lookup_eq (r : Row) : shapesTab.lookup r.word = some r.shape := by cases r <;> rfl
theorem sTabLen : sTab.length = 49 := by decide +kernel
theorem Row.shape_lt (r : Row) : r.shape < sTab.length := by rw [sTabLen]; cases r <;> simp [Row.shape, Row.word]
theorem Row.word_lt (r : Row) : r.word < sTab.length := by rw [sTabLen]; cases r <;> simp [Row.shape, Row.word]
theorem Row.parts_le (r : Row) : r.parts.length ≤ 3 := by cases r <;> simp [Row.parts]
theorem Row.chars_len (r : Row) : r.chars.length = r.parts.length := by cases r <;> rfl

theorem word_len (x : Nat) (hx : x < sTab.length) (rest : List PV) : True := trivial

/- comparisons -/
theorem ne_int {i j : Int} {Q : Bool → Prop} (q : ∀ b : Bool, (b = true ↔ i ≠ j) → Q b) : cmpP .NotEq (.int i) (.int j) Q := ⟨rfl, rfl, fun b hb => q b (hb.trans (by simp))⟩
theorem eq_int {i j : Int} {Q : Bool → Prop} (q : ∀ b : Bool, (b = true ↔ i = j) → Q b) : cmpP .Eq (.int i) (.int j) Q := ⟨rfl, rfl, fun b hb => q b (hb.trans (by simp))⟩
theorem data_str {c n : Nat} (h : c < sTab.length) : isData n (.str c) = true := by
  cases n <;> simp [isData, h]
theorem eq_str {c d : Nat} {Q : Bool → Prop} (hc : c < sTab.length) (hd : d < sTab.length) (q : ∀ b : Bool, (b = true ↔ c = d) → Q b) : cmpP .Eq (.str c) (.str d) Q := ⟨data_str hc, data_str hd, fun b hb => q b (hb.trans (by simp))⟩
theorem ne_str {c d : Nat} {Q : Bool → Prop} (hc : c < sTab.length) (hd : d < sTab.length) (q : ∀ b : Bool, (b = true ↔ c ≠ d) → Q b) : cmpP .NotEq (.str c) (.str d) Q := ⟨data_str hc, data_str hd, fun b hb => q b (hb.trans (by simp))⟩
theorem len_items {Φ : Phi} {x : PV} {l : List PV} {μ : List AO} {Q : Post} (h : itemsOf x μ = some l) (hz : l.length ≤ 1000000) (q : Q (.int l.length) μ) : callP Φ (.val (.builtin "len")) [x] μ Q :=
  ⟨x, rfl, .inl ⟨l, h, hz, q⟩⟩
theorem len_str {Φ : Phi} {c : Nat} {μ : List AO} {Q : Post} (h : c < sTab.length) (q : Q (.int (sTab.getD c Str.empty).cps.size) μ) : callP Φ (.val (.builtin "len")) [.str c] μ Q :=
  ⟨_, rfl, .inr ⟨c, rfl, h, q⟩⟩

theorem shape_ok {n : Nat} {r : Row} {μ : List AO} {Q : Post} (q : Q (.str r.shape) μ) : PhiN (n + 1) 95 [r.pv] μ Q := by
  refine phi_fn [some r.pv, none] rfl rfl rfl rfl ?_
  show wpSs _ ce95 _ _ _
  dsimp only [ce95, wpSs, wpS, wpT, wpE, wpEs, wpA]
  have hp := r.parts_le
  refine ⟨_, rfl, .get, rfl, _, rfl, subP_nat (i := 0) (v := .str r.word) rfl (by simp; (exact Nat.le_trans ‹_› (by decide))) rfl ⟨r.word, r.shape, rfl, r.lookup_eq, nofun, ?_⟩⟩
  refine ⟨_, rfl, rfl, ?_⟩
  show (if false = false then _ else _)
  rw [if_pos rfl]
  refine ⟨_, rfl, _, rfl, len_str r.shape_lt ⟨_, rfl, _, rfl, len_items (l := .str r.word :: r.parts) rfl (by simp; (exact Nat.le_trans ‹_› (by decide))) (sub_i (ne_int fun b hb => ?_))⟩⟩
  have hb' : b = false := by
    rw [← Bool.not_eq_true, hb, r.size_eq]
    simp
  subst hb'
  show (if false = false then _ else _)
  rw [if_pos rfl]
  show (if false = true then _ else _)
  rw [if_neg (by decide)]
  exact ⟨_, rfl, end_same rfl q⟩

/- MPd -/


/- loops -/
theorem comp_ind {Φ : Phi} {elt : Lc → List AO → Post → Prop} {tg : List Nat} {l : Lc} {G : List AO → Prop} {Q : List PV → List AO → Prop} (P : List (List PV) → List PV → List AO → Prop)
    (hnil : ∀ acc μ, P [] acc μ → Q acc μ) (hcons : ∀ it its acc μ (R : Post), P (it :: its) acc μ → (∀ v μ', P its (acc ++ [v]) μ' → R v μ') → elt (setTg l tg it) μ R)
    (hG : ∀ its acc μ, P its acc μ → G μ) : ∀ its acc μ, P its acc μ → compGo (fun l μ Q => wpO Φ .none l μ Q) elt tg l G its acc μ Q
  | [], acc, μ, h => hnil acc μ h
  | it :: its, acc, μ, h => by
    unfold compGo
    unfold wpO
    refine ite_t rfl ?_
    exact hcons it its acc μ _ h fun v μ' h' => ⟨hG _ _ _ h', comp_ind P hnil hcons hG its _ _ h'⟩
theorem comp_map {Φ : Phi} {elt : Lc → List AO → Post → Prop} {tg : List Nat} {l : Lc} {G : List AO → Prop} {Q : List PV → List AO → Prop} {μ : List AO} (f : List PV → PV) (hG : G μ) :
    ∀ (its : List (List PV)) (acc : List PV), (∀ it ∈ its, ∀ R : Post, R (f it) μ → elt (setTg l tg it) μ R) → Q (acc ++ its.map f) μ → compGo (fun l μ Q => wpO Φ .none l μ Q) elt tg l G its acc μ Q
  | [], acc, _, q => by unfold compGo; simpa using q
  | it :: its, acc, he, q => by
    unfold compGo
    unfold wpO
    refine ite_t rfl ?_
    exact he it (.head _) _ ⟨hG, comp_map f hG its _ (fun i hi => he i (.tail _ hi)) (by simpa using q)⟩
theorem comp_filter {cond : Lc → List AO → (Bool → List AO → Prop) → Prop} {elt : Lc → List AO → Post → Prop} {tg : List Nat} {l : Lc} {G : List AO → Prop} {Q : List PV → List AO → Prop} {μ : List AO} (c : List PV → Bool) (f : List PV → PV) (hG : G μ) :
    ∀ (its : List (List PV)) (acc : List PV), (∀ it ∈ its, ∀ R : Bool → List AO → Prop, R (c it) μ → cond (setTg l tg it) μ R) → (∀ it ∈ its, ∀ R : Post, R (f it) μ → elt (setTg l tg it) μ R) → Q (acc ++ (its.filter c).map f) μ → compGo cond elt tg l G its acc μ Q
  | [], acc, _, _, q => by unfold compGo; simpa using q
  | it :: its, acc, hc, he, q => by
    unfold compGo
    refine hc it (.head _) _ (ite_b (fun h => ?_) fun h => ?_)
    · exact he it (.head _) _ ⟨hG, comp_filter c f hG its _ (fun i hi => hc i (.tail _ hi)) (fun i hi => he i (.tail _ hi)) (by simpa [List.filter_cons, h] using q)⟩
    · exact ⟨hG, comp_filter c f hG its _ (fun i hi => hc i (.tail _ hi)) (fun i hi => he i (.tail _ hi)) (by simpa [List.filter_cons, h] using q)⟩
theorem for_ind {body : Lc → List AO → SPost → Prop} {tg : List Nat} {G : List AO → Prop} {Q : SPost} (P : List (List PV) → Lc → List AO → Prop)
    (hnil : ∀ l μ, P [] l μ → Q .next l μ) (hcons : ∀ it its l μ (R : SPost), P (it :: its) l μ → (∀ l' μ', P its l' μ' → R .next l' μ') → body (setTg l tg it) μ R) (hG : ∀ its l μ, P its l μ → G μ) :
    ∀ its l μ, P its l μ → forGo body tg G its l μ Q
  | [], l, μ, h => hnil l μ h
  | it :: its, l, μ, h => by
    unfold forGo
    exact hcons it its l μ _ h fun l' μ' h' => ⟨hG _ _ _ h', for_ind P hnil hcons hG its _ _ h'⟩

theorem sli_tail {x : PV} {l : List PV} {μ : List AO} {Q : Post} (hz : l.length ≤ 900000) (q : Q (.tup l) μ) : sliP (.tup (x :: l)) (.int 1) .none μ Q := by
  refine ⟨some 1, none, rfl, rfl, by simp; (exact Nat.le_trans ‹_› (by decide)), ?_⟩
  have : cutAt (x :: l).length 1 = 1 := by
    unfold cutAt
    rw [if_neg (by decide)]
    simp
  show Q (.tup (((x :: l).take (x :: l).length).drop (cutAt (x :: l).length 1))) μ
  rw [this, List.take_length]; exact q
theorem sli_init {l : List PV} {μ : List AO} {Q : Post} (hz : l.length ≤ 1000000) (q : Q (.tup l.dropLast) μ) : sliP (.tup l) .none (.int (-1)) μ Q := by
  refine ⟨none, some (-1), rfl, rfl, hz, ?_⟩
  have : cutAt l.length (-1) = l.length - 1 := by
    unfold cutAt
    rw [if_pos (by decide)]
    lia
  show Q (.tup ((l.take (cutAt l.length (-1))).drop 0)) μ
  rw [this, List.drop_zero, ← List.dropLast_eq_take]; exact q

noncomputable def Row.goals : Row → List PV
  | .goto g => [.int g]
  | .unless _ g => [.int g]
  | _ => []
noncomputable def isG (it : List PV) : Bool := match it with
  | .str c :: _ => c == 35
  | _ => false
theorem Row.goals_eq (r : Row) : (((r.chars.zip r.parts).map fun p => [PV.str p.1, p.2]).filter isG).map (fun it => it.getD 1 .none) = r.goals := by cases r <;> rfl
theorem lt49 {c : Nat} (h : c < 49) : c < sTab.length := by rw [sTabLen]; exact h
theorem Row.chars_lt (r : Row) : ∀ c ∈ r.chars, c < sTab.length := by
  rw [sTabLen]; cases r <;> simp [Row.chars]
theorem zip_row {r : Row} {μ : List AO} {Q : SrcQ} (q : Q ((r.chars.zip r.parts).map fun p => [.str p.1, p.2]) (fun _ => True) μ) : zipP (.str r.shape) (.tup r.parts) μ Q :=
  ⟨_, _, _, rfl, rfl, r.shape_lt, r.chars_eq, r.chars_len, q⟩
theorem mem_zipI {r : Row} {it : List PV} (h : it ∈ (r.chars.zip r.parts).map fun p => [PV.str p.1, p.2]) : ∃ c p, it = [.str c, p] ∧ c < sTab.length := by
  obtain ⟨⟨c, p⟩, hz, rfl⟩ := List.mem_map.mp h
  exact ⟨c, p, rfl, r.chars_lt c (List.of_mem_zip hz).1⟩

theorem goals_ok {n : Nat} {r : Row} {μ : List AO} {Q : Post} (q : Q (.lst r.goals) μ) : PhiN (n + 2) 100 [r.pv] μ Q := by
  refine phi_fn [some r.pv] rfl rfl rfl rfl ?_
  show wpSs _ ce100 _ _ _
  unfold ce100
  have hp := r.parts_le
  refine ⟨nofun, _, rfl, _, rfl, shape_ok ⟨_, rfl, sli_tail (by (exact Nat.le_trans ‹_› (by decide))) (zip_row ⟨trivial, ?_⟩)⟩⟩
  refine comp_filter isG (fun it => it.getD 1 .none) trivial _ _ (fun it hi R hR => ?_) (fun it hi R hR => ?_) ?_
  · obtain ⟨c, p, rfl, hc⟩ := mem_zipI hi
    exact ⟨_, rfl, eq_str hc (lt49 (by decide)) fun b hb => by
      have : b = isG [.str c, p] := by
        cases b with
        | true => have := hb.mp rfl; subst this; rfl
        | false =>
          show false = (c == 35)
          have : c ≠ 35 := fun e => by have := hb.mpr e; cases this
          simp [this]
      rw [this]; exact hR⟩
  · obtain ⟨c, p, rfl, hc⟩ := mem_zipI hi
    exact ⟨_, rfl, hR⟩
  · rw [r.goals_eq]
    exact end_same (by cases r <;> rfl) q

/- a turned row -/
inductive TurnZ (fR fG : Nat → Nat) : Nat → PV → PV → Prop
  | d {c i} : c = 32 ∨ c = 37 → TurnZ fR fG c (.int (i : Nat)) (.int (fR i : Nat))
  | m {as} : as.length ≤ 1000 → TurnZ fR fG 43 (natsV as) (natsV (as.map fR))
  | g {i} : TurnZ fR fG 35 (.int (i : Nat)) (.int (fG i : Nat))
  | x {p} : TurnZ fR fG 38 p p

theorem inStr_ds : inStr 32 26 = true ∧ inStr 37 26 = true ∧ inStr 38 26 = false ∧ inStr 43 26 = false ∧ inStr 35 26 = false := by decide +kernel

theorem get_last {μ : List AO} {o : AO} : (μ ++ [o])[μ.length]? = some o := by simp
theorem set_last {μ : List AO} {o o' : AO} : (μ ++ [o]).set μ.length o' = μ ++ [o'] := by simp
theorem get_app {μ τ : List AO} {i : Nat} {o : AO} (h : μ[i]? = some o) : (μ ++ τ)[i]? = some o := by
  rw [List.getElem?_append_left (List.getElem?_eq_some_iff.mp h).1]; exact h
theorem set_app {μ τ : List AO} {i : Nat} {o o' : AO} (h : μ[i]? = some o) : (μ ++ τ).set i o' = μ.set i o' ++ τ := by
  rw [List.set_append_left _ _ (List.getElem?_eq_some_iff.mp h).1]

theorem app_last {Φ : Phi} {μ : List AO} {l : List PV} {v : PV} {Q : Post} (hz : l.length ≤ 1000000) (q : Q .none (μ ++ [.lst (l ++ [v])])) : methP Φ .app (.obj μ.length) [v] (μ ++ [.lst l]) Q :=
  ⟨_, l, v, rfl, rfl, get_last, hz, by rw [set_last]; exact q⟩
theorem meth_app {μ : List AO} {n : Nat} {l : List PV} (h : μ[n]? = some (.lst l)) : methOf (.obj n) 0 μ = some .app := by
  unfold methOf isLst
  rw [if_pos rfl]
  simp [h]

section
variable {n : Nat} {row lamR lamG : PV} {fR fG : Nat → Nat} {okR okG : Nat → Prop} {μ : List AO}

theorem turn_loop {Q : SPost} (hR : ∀ (i : Nat) (acc : List PV) (Q : Post), Q (.int (fR i : Nat)) (μ ++ [.lst acc]) → callP (PhiN n) lamR [.int (i : Nat)] (μ ++ [.lst acc]) Q) (zs : List (Nat × PV × PV))
    (hG : ∀ z ∈ zs, z.1 = 35 → ∀ (i : Nat), z.2.1 = .int (i : Nat) → ∀ (acc : List PV) (Q : Post), Q (.int (fG i : Nat)) (μ ++ [.lst acc]) → callP (PhiN n) lamG [.int (i : Nat)] (μ ++ [.lst acc]) Q)
    (hz : ∀ z ∈ zs, TurnZ fR fG z.1 z.2.1 z.2.2) : ∀ (done : List PV) (o4 o5 : Option PV), done.length + zs.length ≤ 1000 →
    (∀ o4 o5, Q .next [some row, some lamR, some lamG, some (.obj μ.length), o4, o5] (μ ++ [.lst (done ++ zs.map (·.2.2))])) →
    forGo (fun l μ Q => wpSs (PhiN n) (.cons (.ite (.cmp .In (.loc 4) (.cstr 26)) (.cons (.expr (.meth (.loc 3) 0 (.cons (.call (.loc 1) (.cons (.loc 5) .nil)) .nil)))
  .nil) (.cons (.ite (.cmp .Eq (.loc 4) (.cstr 43)) (.cons (.expr (.meth (.loc 3) 0 (.cons (.call (.glo 29) (.cons (.fl (.comp (.call (.loc 1) (.cons (.loc 0) .nil)) .none [0] (.items (.loc 5)) [Str.ofString "one", Str.ofString "register"] [(1, 1)])) .nil)) .nil)))
  .nil) (.cons (.expr (.meth (.loc 3) 0 (.cons (.ite (.cmp .Eq (.loc 4) (.cstr 35)) (.call (.loc 2) (.cons (.loc 5) .nil)) (.loc 5)) .nil)))
  .nil))
  .nil))
  .nil) l μ Q) [4, 5] (fun _ => True) (zs.map fun z => [.str z.1, z.2.1]) [some row, some lamR, some lamG, some (.obj μ.length), o4, o5] (μ ++ [.lst done]) Q := by
  induction zs with
  | nil => intro done o4 o5 _ q; simpa [forGo] using q o4 o5
  | cons z zs ih =>
    intro done o4 o5 hl q
    obtain ⟨c, p, p'⟩ := z
    have t := hz _ (.head _)
    have hl' : done.length + (zs.length + 1) ≤ 1000 := hl
    have next := ih (fun z hz1 => hG z (.tail _ hz1)) (fun z hz1 => hz z (.tail _ hz1)) (done ++ [p']) (some (.str c)) (some p) (by simp; lia) (fun o4 o5 => by have := q o4 o5; simpa using this)
    obtain ⟨i1, i2, i3, i4, i5⟩ := inStr_ds
    simp only [List.map_cons, forGo]
    show wpSs _ _ [some row, some lamR, some lamG, some (.obj μ.length), some (.str c), some p] _ _
    dsimp only at t
    cases t with
    | @d c i hc =>
      have hcl : c < sTab.length := lt49 (by lia)
      have hin : inStr c 26 = true := by rcases hc with rfl | rfl <;> assumption
      refine ⟨_, rfl, hcl, lt49 (by decide), ite_t hin ?_⟩
      refine ⟨_, rfl, _, meth_app get_last, _, rfl, _, rfl, hR i _ _ (app_last (by lia) ⟨rfl, trivial, next⟩)⟩
    | @m as has =>
      refine ⟨_, rfl, lt49 (by decide), lt49 (by decide), ite_f i4 ?_⟩
      refine ⟨_, rfl, eq_str (lt49 (by decide)) (lt49 (by decide)) fun b hb => ?_⟩
      have : b = true := hb.mpr rfl
      refine ite_t this ?_
      refine ⟨_, rfl, _, meth_app get_last, _, rfl, ⟨fun x hx => ?_, _, rfl, by simp; (exact Nat.le_trans ‹_› (by decide)), trivial, ?_⟩⟩
      · simp only [List.mem_singleton] at hx; subst hx; exact ⟨_, rfl⟩
      refine comp_map (fun it => match it with | [.int (.ofNat i)] => .int (fR i : Nat) | _ => .none) trivial _ _ (fun it hi R hR' => ?_) ?_
      · simp only [List.map_map, List.mem_map, Function.comp_apply] at hi
        obtain ⟨i, _, rfl⟩ := hi
        exact ⟨_, rfl, _, rfl, hR i _ _ hR'⟩
      · refine ⟨_, _, rfl, rfl, by simp; (exact Nat.le_trans ‹_› (by decide)), app_last (by lia) ⟨rfl, trivial, ?_⟩⟩
        have e : (((as.map fun n : Nat => PV.int (n : Int)).map fun x => [x]).map fun it => match it with | [.int (.ofNat i)] => PV.int (fR i : Nat) | _ => .none) = (as.map fR).map fun n : Nat => PV.int (n : Int) := by
          rw [List.map_map, List.map_map, List.map_map]; rfl
        show forGo _ _ _ _ _ (μ ++ [.lst (done ++ [.tup ([] ++ _)])]) _
        rw [List.nil_append, e]
        exact next
    | @g i =>
      refine ⟨_, rfl, lt49 (by decide), lt49 (by decide), ite_f i5 ?_⟩
      refine ⟨_, rfl, eq_str (lt49 (by decide)) (lt49 (by decide)) fun b hb => ?_⟩
      have : b = false := by cases b with
        | false => rfl
        | true => have := hb.mp rfl; lia
      refine ite_f this ?_
      refine ⟨_, rfl, _, meth_app get_last, _, rfl, eq_str (lt49 (by decide)) (lt49 (by decide)) fun b hb => ?_⟩
      have : b = true := hb.mpr rfl
      refine ite_t this ?_
      exact ⟨_, rfl, _, rfl, hG _ (.head _) rfl i rfl _ _ (app_last (by lia) ⟨rfl, trivial, next⟩)⟩
    | @x p =>
      refine ⟨_, rfl, lt49 (by decide), lt49 (by decide), ite_f i3 ?_⟩
      refine ⟨_, rfl, eq_str (lt49 (by decide)) (lt49 (by decide)) fun b hb => ?_⟩
      have : b = false := by cases b with
        | false => rfl
        | true => have := hb.mp rfl; lia
      refine ite_f this ?_
      refine ⟨_, rfl, _, meth_app get_last, _, rfl, eq_str (lt49 (by decide)) (lt49 (by decide)) fun b hb => ?_⟩
      have : b = false := by cases b with
        | false => rfl
        | true => have := hb.mp rfl; lia
      refine ite_f this ?_
      exact ⟨_, rfl, app_last (by lia) ⟨rfl, trivial, next⟩⟩
end

/- MPe -/


theorem pvs_len (l : List Row) : (l.map Row.pv).length = l.length := by simp
theorem natsV_below (k : Nat) (as : List Nat) : below k (natsV as) = true := by
  show belows k (as.map _) = true
  exact belows_map (fun _ => rfl) as
theorem Row.below (k : Nat) (r : Row) : below k r.pv = true := by
  cases r <;> simp [Row.pv, Row.parts, Mine.Internal.below, belows, natsV_below]
theorem rows_below (k : Nat) (l : List Row) : belows k (l.map Row.pv) = true := belows_map (fun r => r.below k) l
theorem natsV_data (n : Nat) (as : List Nat) : isData (n + 1) (natsV as) = true := by
  simp [natsV, isData]
theorem Row.data (n : Nat) (r : Row) : isData (n + 2) r.pv = true := by
  have h1 := r.word_lt
  have h2 := natsV_data n
  have h3 : (44 : Nat) < sTab.length := lt49 (by decide)
  cases r <;> simp_all [Row.pv, Row.parts, isData]
theorem rows_data (n : Nat) (l : List Row) : isData (n + 3) (.lst (l.map Row.pv)) = true := by
  simp [isData, Row.data]

theorem turned_ok {n : Nat} {r r' : Row} {lamR lamG : PV} {fR fG : Nat → Nat} {μ : List AO} {Q : Post} (zs : List (Nat × PV × PV)) (hzs : ((r.chars.zip r.parts).map fun p => [PV.str p.1, p.2]) = zs.map fun z => [.str z.1, z.2.1])
    (hR : ∀ (i : Nat) (acc : List PV) (Q : Post), Q (.int (fR i : Nat)) (μ ++ [.lst acc]) → callP (PhiN (n + 1)) lamR [.int (i : Nat)] (μ ++ [.lst acc]) Q)
    (hG : ∀ z ∈ zs, z.1 = 35 → ∀ (i : Nat), z.2.1 = .int (i : Nat) → ∀ (acc : List PV) (Q : Post), Q (.int (fG i : Nat)) (μ ++ [.lst acc]) → callP (PhiN (n + 1)) lamG [.int (i : Nat)] (μ ++ [.lst acc]) Q)
    (hz : ∀ z ∈ zs, TurnZ fR fG z.1 z.2.1 z.2.2) (hp : zs.map (·.2.2) = r'.parts) (hw : r'.word = r.word) (q : Q r'.pv μ) : PhiN (n + 2) 105 [r.pv, lamR, lamG] μ Q := by
  refine phi_fn [some r.pv, some lamR, some lamG, none, none, none] rfl rfl rfl rfl ?_
  show wpSs _ ce105 _ _ _
  have hl := r.parts_le
  have hzl : zs.length ≤ 3 := by
    have := congrArg List.length hp
    have h2 := r'.parts_le
    simp at this; (exact Nat.le_trans (Nat.le_of_eq ‹_›) ‹_›)
  unfold ce105
  unfold wpSs
  dsimp only [wpS, wpE, wpEs, wpL]
  refine ⟨_, rfl, subP_nat (i := 0) (v := .str r.word) rfl (by simp; (exact Nat.le_trans ‹_› (by decide))) rfl ⟨by simp, nofun, ?_⟩⟩
  unfold wpSs
  unfold wpS
  dsimp only [wpI, wpE, wpEs]
  refine ⟨_, rfl, _, rfl, shape_ok ⟨_, rfl, sli_tail (by (exact Nat.le_trans ‹_› (by decide))) (zip_row ⟨trivial, ?_⟩)⟩⟩
  rw [hzs]
  refine turn_loop hR zs hG hz [.str r.word] none none (by simp; omega) fun o4 o5 => ?_
  show wpSs _ _ _ _ _
  dsimp only [wpSs, wpS, wpE, wpEs]
  refine ⟨_, rfl, _, rfl, _, .str r.word :: r'.parts, rfl, ?_, by have := r'.parts_le; simp; (exact Nat.le_trans ‹_› (by decide)), ?_⟩
  · simp [itemsOf, listOf, hp]
  · refine end_app ?_ ?_
    · rw [← hw]; exact r'.below _
    · rw [← hw]; exact q

noncomputable def Row.shift (f : Nat) : Row → Row
  | .const d k => .const (f + d) k
  | .move d s => .move (f + d) (f + s)
  | .call d g as => .call (f + d) (f + g) (as.map (f + ·))
  | r => r
/- a quiet row: registers below n -/
noncomputable def Row.quiet (n : Nat) : Row → Prop
  | .const d _ => d < n
  | .move d s => d < n ∧ s < n
  | .call d f as => d < n ∧ f < n ∧ (∀ a ∈ as, a < n) ∧ as.length ≤ 10
  | _ => False

theorem turned_shift {n m first : Nat} {r : Row} {μ : List AO} {Q : Post} (hq : r.quiet m) (q : Q (r.shift first).pv μ) : PhiN (n + 2) 105 [r.pv, .lam 0 [.int (first : Nat)], .lam 1 []] μ Q := by
  have hR : ∀ (i : Nat) (acc : List PV) (Q : Post), Q (.int ((first + i : Nat) : Int)) (μ ++ [.lst acc]) → callP (PhiN (n + 1)) (.lam 0 [.int (first : Nat)]) [.int (i : Nat)] (μ ++ [.lst acc]) Q := fun i acc Q h => ⟨_, _, rfl, rfl, h⟩
  have hG : ∀ (zs : List (Nat × PV × PV)), (∀ z ∈ zs, z.1 ≠ 35) → ∀ z ∈ zs, z.1 = 35 → ∀ (i : Nat), z.2.1 = .int (i : Nat) → ∀ (acc : List PV) (Q : Post), Q (.int (i : Nat)) (μ ++ [.lst acc]) → callP (PhiN (n + 1)) (.lam 1 []) [.int (i : Nat)] (μ ++ [.lst acc]) Q := fun zs h z hz e => absurd e (h z hz)
  cases r with
  | const d k =>
    refine turned_ok (r' := .const (first + d) k) (fR := (first + ·)) (fG := id) [(32, .int d, .int ((first + d : Nat) : Int)), (38, .int k, .int k)] rfl hR (hG _ (by simp)) (fun z hz => ?_) rfl rfl q
    simp only [List.mem_cons, List.not_mem_nil, or_false] at hz
    rcases hz with rfl | rfl
    · exact .d (.inl rfl)
    · exact .x
  | move d s =>
    refine turned_ok (r' := .move (first + d) (first + s)) (fR := (first + ·)) (fG := id) [(32, .int d, .int ((first + d : Nat) : Int)), (37, .int s, .int ((first + s : Nat) : Int))] rfl hR (hG _ (by simp)) (fun z hz => ?_) rfl rfl q
    simp only [List.mem_cons, List.not_mem_nil, or_false] at hz
    rcases hz with rfl | rfl
    · exact .d (.inl rfl)
    · exact .d (.inr rfl)
  | call d s as =>
    have hl : as.length ≤ 10 := hq.2.2.2
    refine turned_ok (r' := .call (first + d) (first + s) (as.map (first + ·))) (fR := (first + ·)) (fG := id) [(32, .int d, .int ((first + d : Nat) : Int)), (37, .int s, .int ((first + s : Nat) : Int)), (43, natsV as, natsV (as.map (first + ·)))] rfl hR (hG _ (by simp)) (fun z hz => ?_) rfl rfl q
    simp only [List.mem_cons, List.not_mem_nil, or_false] at hz
    rcases hz with rfl | rfl | rfl
    · exact .d (.inl rfl)
    · exact .d (.inr rfl)
    · exact .m (by (exact Nat.le_trans ‹_› (by decide)))
  | _ => exact hq.elim

theorem turned_led {n k p : Nat} {r r' : Row} {ks : List Nat} {fl : List PV} {places : List Nat} {μ : List AO} {Q : Post} (hk : μ[k]? = some (.inst 159 ks fl)) (hf : fieldOf ks fl 9 = some (.obj p)) (hp : μ[p]? = some (.lst (places.map fun n : Nat => .int (n : Int)))) (hz : places.length ≤ 1000000)
    (hr : (∃ g t, r = .goto g ∧ places[g]? = some t ∧ r' = .goto t) ∨ ∃ a g t, r = .unless a g ∧ places[g]? = some t ∧ r' = .unless a t) (q : Q r'.pv μ) : PhiN (n + 2) 105 [r.pv, .lam 2 [], .lam 3 [.obj k]] μ Q := by
  have hR : ∀ (i : Nat) (acc : List PV) (Q : Post), Q (.int (i : Nat)) (μ ++ [.lst acc]) → callP (PhiN (n + 1)) (.lam 2 []) [.int (i : Nat)] (μ ++ [.lst acc]) Q := fun i acc Q h => ⟨rfl, _, rfl, h⟩
  have hG : ∀ (g t : Nat), places[g]? = some t → ∀ (acc : List PV) (Q : Post), Q (.int (t : Nat)) (μ ++ [.lst acc]) → callP (PhiN (n + 1)) (.lam 3 [.obj k]) [.int (g : Nat)] (μ ++ [.lst acc]) Q := fun g t e acc Q h => by
    refine ⟨_, _, rfl, rfl, by decide, 159, ks, fl, .obj p, get_app hk, by decide, hf, rfl, ?_⟩
    refine subP_nat (l := places.map fun n : Nat => .int (n : Int)) ?_ (by simpa using hz) (v := .int (t : Nat)) (by simp [e]) h
    simp [itemsOf, listOf, get_app hp]
  rcases hr with ⟨g, t, rfl, e, rfl⟩ | ⟨a, g, t, rfl, e, rfl⟩
  · refine turned_ok (r' := .goto t) (fR := id) (fG := fun g => places.getD g 0) [(35, .int g, .int t)] rfl hR (fun z hz h1 i h2 acc Q h3 => ?_) (fun z hz => ?_) rfl rfl q
    · simp only [List.mem_cons, List.not_mem_nil, or_false] at hz
      subst hz
      simp only [PV.int.injEq, Int.natCast_inj] at h2
      subst h2
      rw [List.getD_eq_getElem?_getD, e] at h3
      exact hG g t e acc Q h3
    · simp only [List.mem_cons, List.not_mem_nil, or_false] at hz
      subst hz
      have := @TurnZ.g id (fun g => places.getD g 0) g
      rw [List.getD_eq_getElem?_getD, e] at this
      exact this
  · refine turned_ok (r' := .unless a t) (fR := id) (fG := fun g => places.getD g 0) [(37, .int a, .int a), (35, .int g, .int t)] rfl hR (fun z hz h1 i h2 acc Q h3 => ?_) (fun z hz => ?_) rfl rfl q
    · simp only [List.mem_cons, List.not_mem_nil, or_false] at hz
      rcases hz with rfl | rfl
      · cases h1
      simp only [PV.int.injEq, Int.natCast_inj] at h2
      subst h2
      rw [List.getD_eq_getElem?_getD, e] at h3
      exact hG g t e acc Q h3
    · simp only [List.mem_cons, List.not_mem_nil, or_false] at hz
      rcases hz with rfl | rfl
      · exact .d (.inr rfl)
      have := @TurnZ.g id (fun g => places.getD g 0) g
      rw [List.getD_eq_getElem?_getD, e] at this
      exact this

/- MPf -/


noncomputable def codeV (nm ar sl : Nat) (rows : List Row) (st : List PV) : PV := .inst 84 [0, 1, 2, 3, 4, 5, 6] [.str nm, .int ar, .int sl, .tup (rows.map Row.pv), .tup st, .tup [], .tup []]

structure Meth where
  many : Nat
  rest : Bool
  body : List Row
  r : Nat
noncomputable def Meth.rows (M : Meth) : List Row := M.body ++ [.ret M.r]
noncomputable def Meth.code (M : Meth) : PV := codeV 43 (M.many + 1) 5 M.rows [.str 44]
noncomputable def Meth.names (M : Meth) : List PV := [PV.str 38, .str 46, .str 47].take M.many
noncomputable def Meth.pv (M : Meth) (num : Nat) : PV := .inst 209 [10, 11, 12, 13, 14, 7, 15, 16, 17] [.int num, .str 43, .tup [.str 45, .tup [], .none], .tup M.names, .bool M.rest, M.code, .none, .int 0, .none]
/- what stands in a method's body -/
noncomputable def Row.inBody : Row → Prop
  | .const d _ => d < 5
  | .move d s => d < 5 ∧ s < 5
  | .call d f as => d < 5 ∧ f < 5 ∧ (∀ a ∈ as, a < 5) ∧ as.length ≤ 10
  | .goto _ => True
  | .static => True
  | _ => False
noncomputable def stW (c : Nat) : Bool := [0, 1, 2, 6, 8, 7, 9, 23].contains c
noncomputable def Meth.straight (M : Meth) : Bool := M.body.all fun r => stW r.word
structure OkM (M : Meth) : Prop where
  many : M.many ≤ 3
  len : M.body.length ≤ 8
  body : ∀ r ∈ M.body, r.inBody
  r : M.r < 5

theorem Meth.names_len {M : Meth} (h : OkM M) : M.names.length = M.many := by
  unfold Meth.names
  rw [List.length_take]; have := h.many; simp; (simp [*])

theorem attr_i {C : Addr} {ks : List Nat} {l : List PV} {f : Nat} {v : PV} {μ : List AO} {Q : Post} (h1 : f < fTab.length) (h2 : C ∈ clsA) (h3 : fieldOf ks l f = some v) (h4 : plainV v = true) (q : Q v μ) : attrP (.inst C ks l) f μ Q := ⟨h1, h2, v, h3, h4, q⟩
theorem sub_last {o : PV} {l : List PV} {v : PV} {μ : List AO} {Q : Post} (h : itemsOf o μ = some (l ++ [v])) (hz : l.length ≤ 900000) (q : Q v μ) : subP o (.int (-1)) μ Q :=
  ⟨_, _, h, rfl, by simp; (exact Nat.le_trans ‹_› (by decide)), .inr ⟨by decide, by simp; (simp +arith), v, by
    have : (-1 + ((l ++ [v]).length : Int)).toNat = l.length := by simp; (simp +arith)
    rw [this]; simp, q⟩⟩
theorem notIn_st {c : Nat} {Q : Bool → Prop} (hc : c < sTab.length) (q : Q (!stW c)) : cmpP .NotIn (.str c) (.tup [.str 0, .str 1, .str 2, .str 6, .str 8, .str 7, .str 9, .str 23]) Q := by
  refine ⟨_, rfl, data_str hc, fun z hz => ?_, fun b hb => ?_⟩
  · simp only [List.mem_cons, List.not_mem_nil, or_false] at hz
    rcases hz with rfl | rfl | rfl | rfl | rfl | rfl | rfl | rfl <;> exact data_str (lt49 (by decide))
  · have : b = !stW c := by
      rw [Bool.eq_iff_iff, hb]
      simp [stW]
    rw [this]; exact q
theorem eq_nil {A : List PV} {n : Nat} {Q : Bool → Prop} (hd : isData 6 (.lst A) = true) (q : Q A.isEmpty) : cmpP .Eq (.lst A) (.lst []) Q :=
  ⟨hd, rfl, fun b hb => by
    have : b = A.isEmpty := by
      rw [Bool.eq_iff_iff, hb]; simp
    rw [this]; exact q⟩

theorem filter_isEmpty {α : Type} (l : List α) (p : α → Bool) : (l.filter p).isEmpty = l.all fun x => !p x := by
  induction l with
  | nil => rfl
  | cons a l ih =>
    rw [List.filter_cons, List.all_cons]
    cases h : p a with
    | true => simp
    | false => simpa using ih

theorem straight_ok {n : Nat} {M : Meth} {μ : List AO} {Q : Post} (h : OkM M) (q : Q (.bool M.straight) μ) : PhiN (n + 1) 111 [M.code] μ Q := by
  refine phi_fn [some M.code, none] rfl rfl rfl rfl ?_
  show wpSs _ ce111 _ _ _
  have hl := h.len
  have hrl : (M.rows.map Row.pv).length = M.body.length + 1 := by simp [Meth.rows]
  have hap : M.rows.map Row.pv = M.body.map Row.pv ++ [(Row.ret M.r).pv] := by simp [Meth.rows]
  dsimp only [ce111, wpSs, wpS, wpT, wpE, wpEs, wpA, wpL, wpI, wpO]
  refine ⟨_, rfl, attr_i (v := .tup (M.rows.map Row.pv)) (by decide) (by decide) rfl rfl ⟨nofun, ?_⟩⟩
  refine ⟨_, rfl, _, rfl, len_items (l := M.rows.map Row.pv) rfl (by lia) ⟨_, _, rfl, rfl, ite_dec (fun h1 => ?_) fun h1 => absurd (by (simp [*])) h1⟩⟩
  refine ⟨_, rfl, ⟨_, _, rfl, rfl, ?_⟩⟩
  have e12 : (((M.rows.map Row.pv).length : Int) ≤ 12) := by lia
  rw [decide_eq_true e12]
  refine ite_p rfl ⟨_, rfl, _, rfl, sub_last (l := M.body.map Row.pv) (v := (Row.ret M.r).pv) ?_ (by simp; (exact Nat.le_trans ‹_› (by decide))) (subP_nat (i := 0) (v := .str 16) rfl (by simp [Row.parts]) rfl (ne_str (lt49 (by decide)) (lt49 (by decide)) fun b hb => ?_))⟩
  · show some (M.rows.map Row.pv) = _
    rw [hap]
  have : b = false := by cases b with
    | false => rfl
    | true => have := hb.mp rfl; lia
  subst this
  refine ite_p rfl (ite_f rfl ⟨nofun, _, rfl, _, rfl, sli_init (by lia) ⟨by rw [List.length_dropLast]; lia, trivial, ?_⟩⟩)
  rw [hap, List.dropLast_concat]
  refine comp_filter (fun it => match it with | [.tup (.str c :: _)] => !stW c | _ => false) (fun it => it.getD 0 .none) trivial _ _ (fun it hi R hR => ?_) (fun it hi R hR => ?_) ?_
  · obtain ⟨x, hx, rfl⟩ := List.mem_map.mp hi
    obtain ⟨r, hr, rfl⟩ := List.mem_map.mp hx
    refine ⟨_, rfl, subP_nat (i := 0) (v := .str r.word) rfl (by have := r.parts_le; simp; (exact Nat.le_trans ‹_› (by decide))) rfl ⟨_, rfl, notIn_st r.word_lt hR⟩⟩
  · obtain ⟨x, hx, rfl⟩ := List.mem_map.mp hi
    exact ⟨_, rfl, hR⟩
  · have e : (List.map (fun it : List PV => it.getD 0 .none) (List.filter (fun it => match it with | [.tup (.str c :: _)] => !stW c | _ => false) (List.map (fun x => [x]) (List.map Row.pv M.body)))) = (M.body.filter fun r => !stW r.word).map Row.pv := by
      rw [List.map_map, List.filter_map, List.map_map]; rfl
    rw [List.nil_append, e]
    refine ⟨by simp, eq_nil (n := 0) (rows_data 3 _) ?_⟩
    refine end_same rfl ?_
    have : ((M.body.filter fun r => !stW r.word).map Row.pv).isEmpty = M.straight := by
      rw [List.isEmpty_map, filter_isEmpty]
      simp [Meth.straight]
    rw [this]; exact q

/- MPg -/


structure MS where
  a : Meth
  b : Meth
  c : Meth
noncomputable def MS.at (ms : MS) : Nat → Meth
  | 0 => ms.a
  | 1 => ms.b
  | _ => ms.c
noncomputable def MS.pv (ms : MS) : PV := .lst [ms.a.pv 0, ms.b.pv 1, ms.c.pv 2]
structure OkMS (ms : MS) : Prop where
  at' : ∀ m, OkM (ms.at m)
theorem MS.get (ms : MS) {m : Nat} (h : m < 3) : [ms.a.pv 0, ms.b.pv 1, ms.c.pv 2][m]? = some ((ms.at m).pv m) := by
  match m, h with
  | 0, _ => rfl
  | 1, _ => rfl
  | 2, _ => rfl
noncomputable def kept (M : Meth) (as : List Nat) : Bool := !M.straight || M.rest || as.length != M.many + 1

theorem ne_false {i j : Int} {b : Bool} (hb : b = true ↔ i ≠ j) (h : i = j) : b = false := by
  cases b with
  | false => rfl
  | true => exact absurd h (hb.mp rfl)

/- what the code of a method is put in for -/
noncomputable def bodyOf (ms : MS) : Row → Option Meth
  | .invoke _ m as => if kept (ms.at m) as = true then none else some (ms.at m)
  | _ => none
noncomputable def codeO : Option Meth → PV
  | none => .none
  | some M => M.code
noncomputable def Row.okInv : Row → Prop
  | .invoke _ m as => m < 3 ∧ as.length ≤ 10
  | _ => True

theorem Row.word_ne {r : Row} (h : ∀ d m as, r ≠ .invoke d m as) : r.word ≠ 23 := by
  cases r <;> first | (exact absurd rfl (h _ _ _)) | (simp [Row.word])

theorem body_ok {n : Nat} {ms : MS} {r : Row} {μ : List AO} {Q : Post} (hm : OkMS ms) (hr : r.okInv) (q : Q (codeO (bodyOf ms r)) μ) : PhiN (n + 2) 118 [r.pv, ms.pv] μ Q := by
  refine phi_fn [some r.pv, some ms.pv, none] rfl rfl rfl rfl ?_
  show wpSs _ ce118 _ _ _
  have hl := r.parts_le
  unfold ce118
  refine ⟨_, rfl, subP_nat (i := 0) (v := .str r.word) rfl (by simp; (exact Nat.le_trans ‹_› (by decide))) rfl (ne_str r.word_lt (lt49 (by decide)) fun b hb => ?_)⟩
  by_cases hinv : ∃ d m as, r = .invoke d m as
  · obtain ⟨d, m, as, rfl⟩ := hinv
    have : b = false := by cases b with
      | false => rfl
      | true => have := hb.mp rfl; exact absurd rfl this
    subst this
    have h3 : m < 3 := hr.1
    have has : as.length ≤ 10 := hr.2
    have M := hm.at' m
    have hn := Meth.names_len M
    have hm3 := M.many
    refine ite_p rfl ⟨_, rfl, subP_nat (i := 2) (v := .int m) rfl (by simp [Row.parts]) rfl ⟨_, _, rfl, rfl, ite_dec (fun h1 => ?_) fun h1 => absurd (Int.natCast_nonneg m) h1⟩⟩
    refine ⟨_, rfl, _, rfl, len_items (l := [ms.a.pv 0, ms.b.pv 1, ms.c.pv 2]) rfl (by simp) ⟨_, _, rfl, rfl, ?_⟩⟩
    have e3 : ((m : Int) < (([ms.a.pv 0, ms.b.pv 1, ms.c.pv 2].length : Nat) : Int)) := by simp; omega
    rw [decide_eq_true e3]
    refine ite_p rfl (ite_f rfl ⟨_, rfl, _, rfl, subP_nat (i := 2) (v := .int m) rfl (by simp [Row.parts]) rfl (subP_nat (i := m) (l := [ms.a.pv 0, ms.b.pv 1, ms.c.pv 2]) rfl (by simp) (ms.get h3) ⟨nofun, ?_⟩)⟩)
    refine ⟨_, rfl, attr_i (v := (ms.at m).code) (by decide) (by decide) rfl rfl ⟨rfl, ite_p rfl ⟨_, rfl, attr_i (v := .bool (ms.at m).rest) (by decide) (by decide) rfl rfl ⟨_, rfl, ?_⟩⟩⟩⟩
    by_cases hrest : (ms.at m).rest = true
    · refine ite_n (by simp [hrest]) (ite_t rfl (end_same rfl ?_))
      have : bodyOf ms (.invoke d m as) = none := by simp [bodyOf, kept, hrest]
      rw [this] at q; exact q
    have hrest' : (ms.at m).rest = false := by simpa using hrest
    refine ite_p hrest' ⟨_, rfl, _, rfl, subP_nat (i := 3) (v := natsV as) rfl (by simp [Row.parts]) rfl (len_items (l := as.map fun n : Nat => .int (n : Int)) rfl (by simp; (exact Nat.le_trans ‹_› (by decide))) ⟨_, rfl, _, rfl, attr_i (v := .tup (ms.at m).names) (by decide) (by decide) rfl rfl (len_items (l := (ms.at m).names) rfl (by omega) (add_i (ne_int fun b hb => ?_)))⟩)⟩
    rw [hn, List.length_map] at hb
    cases b with
    | true =>
      refine ite_n (by decide) (ite_t rfl (end_same rfl ?_))
      have hne : as.length ≠ (ms.at m).many + 1 := by have := hb.mp rfl; lia
      have : bodyOf ms (.invoke d m as) = none := by simp [bodyOf, kept, hne]
      rw [this] at q; exact q
    | false =>
      have he : as.length = (ms.at m).many + 1 := by
        by_cases h : as.length = (ms.at m).many + 1
        · exact h
        · have := hb.mpr (by lia); cases this
      refine ite_p rfl (ite_f rfl ⟨_, rfl, _, rfl, attr_i (v := (ms.at m).code) (by decide) (by decide) rfl rfl (straight_ok M ⟨_, rfl, ite_b (fun hs => ?_) fun hs => ?_⟩)⟩)
      · refine ⟨_, rfl, attr_i (v := (ms.at m).code) (by decide) (by decide) rfl rfl (end_same ?_ ?_)⟩
        · simp [Meth.code, codeV, below, belows, rows_below]
        · have : bodyOf ms (.invoke d m as) = some (ms.at m) := by simp [bodyOf, kept, hs, hrest', he]
          rw [this] at q; exact q
      · refine end_same rfl ?_
        have : bodyOf ms (.invoke d m as) = none := by simp [bodyOf, kept, hs]
        rw [this] at q; exact q
  · have hw : r.word ≠ 23 := Row.word_ne fun d m as e => hinv ⟨d, m, as, e⟩
    have : b = true := hb.mpr hw
    subst this
    refine ite_n (by decide) (ite_t rfl (end_same rfl ?_))
    have : bodyOf ms r = none := by
      cases r <;> first | rfl | (exact absurd ⟨_, _, _, rfl⟩ hinv)
    rw [this] at q; exact q

theorem in_words {c : Nat} {ws : List Nat} {Q : Bool → Prop} (hc : c < sTab.length) (hw : ∀ w ∈ ws, w < sTab.length) (q : Q (ws.contains c)) : cmpP .In (.str c) (.lst (ws.map .str)) Q := by
  refine ⟨_, rfl, data_str hc, fun z hz => ?_, fun b hb => ?_⟩
  · obtain ⟨w, h, rfl⟩ := List.mem_map.mp hz
    exact data_str (hw w h)
  · have : b = ws.contains c := by
      rw [Bool.eq_iff_iff, hb]; simp
    rw [this]; exact q

theorem Meth.words_st {M : Meth} (h : OkM M) : ((M.rows.map Row.word).contains 14 || (M.rows.map Row.word).contains 4) = !M.straight := by
  have hb := h.body
  unfold Meth.rows Meth.straight
  generalize M.body = l at hb
  have e : ∀ c, c ≠ 16 → ((l ++ [Row.ret M.r]).map Row.word).contains c = (l.map Row.word).contains c := by
    intro c hc
    simp [Row.word, hc]
  rw [e 14 (by decide), e 4 (by decide)]
  induction l with
  | nil => rfl
  | cons r l ih =>
    have ih := ih (fun r hr => hb r (.tail _ hr)) (fun c hc => by simp [Row.word, hc])
    have h1 := hb r (.head _)
    rw [List.all_cons, Bool.not_and, ← ih]
    cases r <;> first | exact h1.elim | simp [Row.word, stW]

theorem kept_ok {n : Nat} {ms : MS} {d m : Nat} {as : List Nat} {μ : List AO} {Q : Post} (hm : OkMS ms) (h3 : m < 3) (has : as.length ≤ 10) (q : Q (.bool (kept (ms.at m) as)) μ) : PhiN (n + 1) 259 [(Row.invoke d m as).pv, ms.pv] μ Q := by
  refine phi_fn [some (Row.invoke d m as).pv, some ms.pv, none, none] rfl rfl rfl rfl ?_
  show wpSs _ ce259 _ _ _
  have M := hm.at' m
  have hn := Meth.names_len M
  have hm3 := M.many
  have hw := Meth.words_st M
  have hl := M.len
  have hrl : (ms.at m).rows.length ≤ 9 := by simp [Meth.rows]; assumption
  unfold ce259
  refine ⟨_, rfl, _, rfl, subP_nat (i := 2) (v := .int m) rfl (by simp [Row.parts]) rfl (subP_nat (i := m) (l := [ms.a.pv 0, ms.b.pv 1, ms.c.pv 2]) rfl (by simp) (ms.get h3) ⟨nofun, nofun, ?_⟩)⟩
  refine ⟨_, rfl, attr_i (v := (ms.at m).code) (by decide) (by decide) rfl rfl (attr_i (v := .tup ((ms.at m).rows.map Row.pv)) (by decide) (by decide) rfl rfl ⟨by simp; (exact Nat.le_trans ‹_› (by decide)), trivial, ?_⟩)⟩
  refine comp_map (fun it => match it with | [.tup (.str c :: _)] => .str c | _ => .none) trivial _ _ (fun it hi R hR => ?_) ?_
  · obtain ⟨x, hx, rfl⟩ := List.mem_map.mp hi
    obtain ⟨r, hr, rfl⟩ := List.mem_map.mp hx
    exact ⟨_, rfl, subP_nat (i := 0) (v := .str r.word) rfl (by have := r.parts_le; simp; (exact Nat.le_trans ‹_› (by decide))) rfl hR⟩
  have e : (List.map (fun it : List PV => match it with | [.tup (.str c :: _)] => PV.str c | _ => .none) (List.map (fun x => [x]) (List.map Row.pv (ms.at m).rows))) = ((ms.at m).rows.map Row.word).map .str := by
    rw [List.map_map, List.map_map, List.map_map]; rfl
  rw [List.nil_append, e]
  have hws : ∀ w ∈ (ms.at m).rows.map Row.word, w < sTab.length := fun w h => by
    obtain ⟨r, _, rfl⟩ := List.mem_map.mp h
    exact r.word_lt
  refine ⟨nofun, _, rfl, in_words (lt49 (by decide)) hws ⟨_, rfl, ?_⟩⟩
  cases h14 : ((ms.at m).rows.map Row.word).contains 14 with
  | true =>
    refine ite_n (by decide) (end_same rfl ?_)
    have : kept (ms.at m) as = true := by
      rw [h14, Bool.true_or] at hw
      simp [kept, ← hw]
    rw [this] at q; exact q
  | false =>
  rw [h14, Bool.false_or] at hw
  refine ite_p rfl ⟨_, rfl, in_words (lt49 (by decide)) hws ⟨_, rfl, ?_⟩⟩
  cases h4 : ((ms.at m).rows.map Row.word).contains 4 with
  | true =>
    refine ite_n (by decide) (end_same rfl ?_)
    rw [h4] at hw
    have : kept (ms.at m) as = true := by simp [kept, ← hw]
    rw [this] at q; exact q
  | false =>
  rw [h4] at hw
  refine ite_p rfl ⟨_, rfl, attr_i (v := .bool (ms.at m).rest) (by decide) (by decide) rfl rfl ⟨_, rfl, ?_⟩⟩
  cases hrest : (ms.at m).rest with
  | true =>
    refine ite_n (by decide) (end_same rfl ?_)
    have : kept (ms.at m) as = true := by simp [kept, hrest]
    rw [this] at q; exact q
  | false =>
  refine ite_p rfl ⟨_, rfl, _, rfl, subP_nat (i := 3) (v := natsV as) rfl (by simp [Row.parts]) rfl (len_items (l := as.map fun n : Nat => .int (n : Int)) rfl (by simp; (exact Nat.le_trans ‹_› (by decide))) ⟨_, rfl, _, rfl, attr_i (v := .tup (ms.at m).names) (by decide) (by decide) rfl rfl (len_items (l := (ms.at m).names) rfl (by lia) (add_i (ne_int fun b hb => ?_)))⟩)⟩
  rw [hn, List.length_map] at hb
  refine end_same rfl ?_
  have : b = kept (ms.at m) as := by
    rw [kept, ← hw, hrest, Bool.false_or, Bool.false_or, Bool.eq_iff_iff, hb]
    simp; lia
  rw [this]; exact q

/- MPh -/


mutual
theorem below_mono {k k' : Nat} (h : k ≤ k') : ∀ {p : PV}, below k p = true → below k' p = true
  | .none, _ => rfl
  | .bool _, _ => rfl
  | .int _, _ => rfl
  | .str _, _ => rfl
  | .val _, _ => rfl
  | .obj n, e => decide_eq_true (Nat.lt_of_lt_of_le (of_decide_eq_true e) h)
  | .tup l, e => belows_mono h (p := l) e
  | .lst l, e => belows_mono h (p := l) e
  | .inst _ _ l, e => belows_mono h (p := l) e
  | .lam _ l, e => belows_mono h (p := l) e
theorem belows_mono {k k' : Nat} (h : k ≤ k') : ∀ {p : List PV}, belows k p = true → belows k' p = true
  | [], _ => rfl
  | p :: ps, e => by
    unfold belows at e ⊢
    rw [Bool.and_eq_true] at e ⊢
    exact ⟨below_mono h e.1, belows_mono h e.2⟩
end

theorem setA_last {C : Addr} {ks : List Nat} {l : List PV} {f : Nat} {v : PV} {μ : List AO} {Q : List AO → Prop} (hf : f < fTab.length) (hC : C ∈ clsA) (hk : f ∉ ks) (hl : ks.length = l.length) (hz : ks.length ≤ 1000) (q : Q (μ ++ [.inst C (ks ++ [f]) (l ++ [v])])) : setAP (.obj μ.length) f v (μ ++ [.inst C ks l]) Q :=
  ⟨hf, μ.length, C, ks, l, rfl, get_last, hC, hl, hz, .inl ⟨hk, by rw [set_last]; exact q⟩⟩
theorem end_frozen {C : Addr} {ks : List Nat} {l : List PV} {μ : List AO} {Q : Post} (hb : belows μ.length l = true) (q : Q (.inst C ks l) μ) : EndQ μ Q (.obj μ.length) (μ ++ [.inst C ks l]) :=
  end_frz (.oinst (Nat.le_refl _) get_last (frzs_below hb)) (.refl _) (by rw [List.take_left]; exact q)

theorem cls_end {C : Addr} {ks : List Nat} {l : List PV} {μ : List AO} {Q : Post} (hb : belows μ.length l = true) (q : EndQ μ Q (.obj μ.length) (μ ++ [.inst C ks l])) : EndQ (μ ++ [.inst C [] []]) (fun v μ₁ => v = .none ∧ EndQ μ Q (.obj μ.length) μ₁) .none (μ ++ [.inst C ks l]) := by
  have hl : (μ ++ [AO.inst C [] []]).length = μ.length + 1 := by simp
  have hl2 : (μ ++ [AO.inst C ks l]).length = μ.length + 1 := by simp
  refine end_ch rfl ?_ ⟨rfl, ?_⟩
  · rw [hl]
    have := (Ch.refl (k := μ.length + 1) (τ := []) (μ ++ [AO.inst C [] []])).set (o := .inst C ks l) (belows_mono (Nat.le_succ _) hb) μ.length
    rw [List.append_nil, set_last] at this
    exact this
  · rw [hl, ← hl2, List.take_length]; exact q

theorem code_init {n : Nat} {a b c : PV} {l1 l2 l3 l4 : List PV} {μ : List AO} {Q : Post} (ha : below μ.length a = true) (hb : below μ.length b = true) (hc : below μ.length c = true) (h1 : belows μ.length l1 = true) (h2 : belows μ.length l2 = true) (h3 : belows μ.length l3 = true) (h4 : belows μ.length l4 = true)
    (z1 : l1.length ≤ 1000000) (z2 : l2.length ≤ 1000000) (z3 : l3.length ≤ 1000000) (z4 : l4.length ≤ 1000000) (q : Q (.inst 84 [0, 1, 2, 3, 4, 5, 6] [a, b, c, .tup l1, .tup l2, .tup l3, .tup l4]) μ) :
    wpSs (PhiN n) ce74 [some (.obj μ.length), some a, some b, some c, some (.tup l1), some (.tup l2), some (.tup l3), some (.tup l4)] (μ ++ [.inst 84 [] []]) (exitQ (μ ++ [.inst 84 [] []]) fun v μ₁ => v = .none ∧ EndQ μ Q (.obj μ.length) μ₁) := by
  dsimp only [ce74, wpSs, wpS, wpE, wpEs]
  refine ⟨_, rfl, _, rfl, setA_last (by decide) (by decide) (by decide) rfl (by decide) ?_⟩
  refine ⟨_, rfl, _, rfl, setA_last (by decide) (by decide) (by decide) rfl (by decide) ?_⟩
  refine ⟨_, rfl, _, rfl, setA_last (by decide) (by decide) (by decide) rfl (by decide) ?_⟩
  refine ⟨_, rfl, _, rfl, _, l1, rfl, rfl, z1, _, rfl, setA_last (by decide) (by decide) (by decide) rfl (by decide) ?_⟩
  refine ⟨_, rfl, _, rfl, _, l2, rfl, rfl, z2, _, rfl, setA_last (by decide) (by decide) (by decide) rfl (by decide) ?_⟩
  refine ⟨_, rfl, _, rfl, _, l3, rfl, rfl, z3, _, rfl, setA_last (by decide) (by decide) (by decide) rfl (by decide) ?_⟩
  refine ⟨_, rfl, _, rfl, _, l4, rfl, rfl, z4, _, rfl, setA_last (by decide) (by decide) (by decide) rfl (by decide) ?_⟩
  have hbb : belows μ.length [a, b, c, .tup l1, .tup l2, .tup l3, .tup l4] = true := by simp [belows, below, ha, hb, hc, h1, h2, h3, h4]
  exact cls_end hbb (end_frozen hbb q)

theorem code_ok4 {n nm ar sl : Nat} {rows : List Row} {μ : List AO} {Q : Post} (hz : rows.length ≤ 1000000) (q : Q (codeV nm ar sl rows []) μ) : PhiN (n + 2) 84 [.str nm, .int ar, .int sl, .tup (rows.map Row.pv)] μ Q :=
  phi_cls rfl (phi_fn [some (.obj μ.length), some (.str nm), some (.int ar), some (.int sl), some (.tup (rows.map Row.pv)), some (.tup []), some (.tup []), some (.tup [])] rfl rfl rfl rfl
    (code_init rfl rfl rfl (rows_below _ _) rfl rfl rfl (by simpa using hz) (by simp) (by simp) (by simp) q))
theorem code_ok5 {n nm ar sl : Nat} {rows : List Row} {μ : List AO} {Q : Post} (hz : rows.length ≤ 1000000) (q : Q (codeV nm ar sl rows [.str 44]) μ) : PhiN (n + 2) 84 [.str nm, .int ar, .int sl, .tup (rows.map Row.pv), .tup [.str 44]] μ Q :=
  phi_cls rfl (phi_fn [some (.obj μ.length), some (.str nm), some (.int ar), some (.int sl), some (.tup (rows.map Row.pv)), some (.tup [.str 44]), some (.tup []), some (.tup [])] rfl rfl rfl rfl
    (code_init rfl rfl rfl (rows_below _ _) rfl rfl rfl (by simpa using hz) (by simp) (by simp) (by simp) q))
theorem code_ok7 {n nm ar sl : Nat} {rows : List Row} {μ : List AO} {Q : Post} (hz : rows.length ≤ 1000000) (q : Q (codeV nm ar sl rows []) μ) : PhiN (n + 2) 84 [.str nm, .int ar, .int sl, .tup (rows.map Row.pv), .tup [], .tup [], .tup []] μ Q :=
  phi_cls rfl (phi_fn [some (.obj μ.length), some (.str nm), some (.int ar), some (.int sl), some (.tup (rows.map Row.pv)), some (.tup []), some (.tup []), some (.tup [])] rfl rfl rfl rfl
    (code_init rfl rfl rfl (rows_below _ _) rfl rfl rfl (by simpa using hz) (by simp) (by simp) (by simp) q))

theorem method_ok {n num : Nat} {M : Meth} {μ : List AO} {Q : Post} (q : Q (M.pv num) μ) : PhiN (n + 2) 209 [.int num, .str 43, .tup [.str 45, .tup [], .none], .tup M.names, .bool M.rest, M.code, .none] μ Q := by
  refine phi_cls rfl (phi_fn [some (.obj μ.length), some (.int num), some (.str 43), some (.tup [.str 45, .tup [], .none]), some (.tup M.names), some (.bool M.rest), some M.code, some .none, some (.int 0), some .none] rfl rfl rfl rfl ?_)
  show wpSs _ ce185 _ _ _
  dsimp only [ce185, wpSs, wpS, wpE, wpEs]
  refine ⟨_, rfl, _, rfl, setA_last (by decide) (by decide) (by decide) rfl (by decide) ?_⟩
  refine ⟨_, rfl, _, rfl, setA_last (by decide) (by decide) (by decide) rfl (by decide) ?_⟩
  refine ⟨_, rfl, _, rfl, setA_last (by decide) (by decide) (by decide) rfl (by decide) ?_⟩
  refine ⟨_, rfl, _, rfl, setA_last (by decide) (by decide) (by decide) rfl (by decide) ?_⟩
  refine ⟨_, rfl, _, rfl, setA_last (by decide) (by decide) (by decide) rfl (by decide) ?_⟩
  refine ⟨_, rfl, _, rfl, setA_last (by decide) (by decide) (by decide) rfl (by decide) ?_⟩
  refine ⟨_, rfl, _, rfl, setA_last (by decide) (by decide) (by decide) rfl (by decide) ?_⟩
  refine ⟨_, rfl, _, rfl, setA_last (by decide) (by decide) (by decide) rfl (by decide) ?_⟩
  refine ⟨_, rfl, _, rfl, setA_last (by decide) (by decide) (by decide) rfl (by decide) ?_⟩
  have hn : belows μ.length M.names = true := belows_all fun p hp => by
    have := List.mem_of_mem_take hp
    simp only [List.mem_cons, List.not_mem_nil, or_false] at this
    rcases this with rfl | rfl | rfl <;> rfl
  have hb : belows μ.length [.int num, .str 43, .tup [.str 45, .tup [], .none], .tup M.names, .bool M.rest, M.code, .none, .int 0, .none] = true := by simp [belows, below, hn, Meth.code, codeV, rows_below]
  exact cls_end hb (end_frozen hb q)

noncomputable def moves (first : Nat) : Nat → List Nat → List Row
  | _, [] => []
  | k, a :: as => .move (first + k) a :: moves first (k + 1) as
noncomputable def putIn (first d : Nat) (as : List Nat) (M : Meth) : List Row := moves first 0 as ++ M.body.map (Row.shift first) ++ [.move d (first + M.r)]
theorem moves_len (first : Nat) : ∀ (k : Nat) (as : List Nat), (moves first k as).length = as.length
  | _, [] => rfl
  | k, a :: as => by simp [moves, moves_len first (k + 1) as]

theorem straight_quiet {M : Meth} (h : OkM M) (hs : M.straight = true) : ∀ r ∈ M.body, r.quiet 5 := fun r hr => by
  have h1 := h.body r hr
  have h2 := List.all_eq_true.mp hs r hr
  cases r <;> first | exact h1 | exact h1.elim | (simp [Row.word, stW] at h2)

theorem numbered_moves (first : Nat) : ∀ (k : Nat) (as : List Nat), (numbered k (as.map fun n : Nat => PV.int (n : Int))).map (fun it => match it with | [.int (.ofNat at'), reg] => PV.tup [.str 1, .int ((first + at' : Nat) : Int), reg] | _ => .none) = (moves first k as).map Row.pv
  | _, [] => rfl
  | k, a :: as => by
    have := numbered_moves first (k + 1) as
    simp only [List.map_cons, numbered, moves, this]
    rfl
theorem numbered_mem {l : List PV} : ∀ {k : Nat} {it : List PV}, it ∈ numbered k l → ∃ (i : Nat) (p : PV), it = [.int (i : Nat), p] ∧ p ∈ l := by
  induction l with
  | nil => intro k it h; simp [numbered] at h
  | cons a l ih =>
    intro k it h
    simp only [numbered, List.mem_cons] at h
    rcases h with rfl | h
    · exact ⟨k, a, rfl, .head _⟩
    · obtain ⟨i, p, e, hp⟩ := ih h
      exact ⟨i, p, e, .tail _ hp⟩

theorem put_ok {n first d m : Nat} {as : List Nat} {M : Meth} {μ : List AO} {Q : Post} (hM : OkM M) (hs : M.straight = true) (has : as.length ≤ 10) (q : Q (.lst ((putIn first d as M).map Row.pv)) μ) : PhiN (n + 3) 123 [(Row.invoke d m as).pv, M.code, .int first] μ Q := by
  refine phi_fn [some (Row.invoke d m as).pv, some M.code, some (.int first), none, none] rfl rfl rfl rfl ?_
  show wpSs _ ce123 _ _ _
  have hl := hM.len
  have hqt := straight_quiet hM hs
  have hap : M.rows.map Row.pv = M.body.map Row.pv ++ [(Row.ret M.r).pv] := by simp [Meth.rows]
  unfold ce123
  unfold wpSs
  dsimp only [wpS, wpE, wpEs, wpL, wpI]
  refine ⟨fun p hp => ?_, _, rfl, subP_nat (i := 3) (v := natsV as) rfl (by simp [Row.parts]) rfl ⟨as.map fun n : Nat => .int (n : Int), rfl, by simp; (exact Nat.le_trans ‹_› (by decide)), trivial, ?_⟩⟩
  · simp only [List.mem_singleton] at hp; subst hp; exact ⟨_, rfl⟩
  refine comp_map (fun it => match it with | [.int (.ofNat at'), reg] => PV.tup [.str 1, .int ((first + at' : Nat) : Int), reg] | _ => .none) trivial _ _ (fun it hi R hR => ?_) ?_
  · obtain ⟨i, p, rfl, _⟩ := numbered_mem hi
    exact ⟨_, rfl, _, rfl, add_i ⟨_, rfl, by simp, hR⟩⟩
  rw [List.nil_append, numbered_moves]
  refine ⟨nofun, ?_⟩
  unfold wpSs
  unfold wpS
  dsimp only [wpE, wpEs, wpI]
  refine ⟨_, rfl, attr_i (v := .tup (M.rows.map Row.pv)) (by decide) (by decide) rfl rfl ⟨_, rfl, sli_init (by simp [Meth.rows]; (exact Nat.le_trans ‹_› (by decide))) ⟨by simp [Meth.rows]; (exact Nat.le_trans ‹_› (by decide)), trivial, ?_⟩⟩⟩
  rw [hap, List.dropLast_concat, List.map_map]
  have key : ∀ (todo : List Row) (done : List Row) (o4 : Option PV) (Q' : SPost), (∀ r ∈ todo, r.quiet 5) → done.length + todo.length ≤ 1000 →
      (∀ o4, Q' .next [some (Row.invoke d m as).pv, some M.code, some (.int first), some (.obj μ.length), o4] (μ ++ [.lst ((done ++ todo.map (Row.shift first)).map Row.pv)])) →
      forGo (fun l μ Q => wpSs (PhiN (n + 2)) (.cons (.expr (.meth (.loc 3) 0 (.cons (.call (.glo 4) (.cons (.loc 4) (.cons (.lam 0 [2]) (.cons (.lam 1 []) .nil)))) .nil))) .nil) l μ Q) [4] (fun _ => True) (todo.map fun r => [r.pv])
        [some (Row.invoke d m as).pv, some M.code, some (.int first), some (.obj μ.length), o4] (μ ++ [.lst (done.map Row.pv)]) Q' := by
    intro todo
    induction todo with
    | nil => intro done o4 Q' _ _ q; simpa [forGo] using q o4
    | cons r todo ih =>
      intro done o4 Q' hq hlen q
      have hlen' : done.length + (todo.length + 1) ≤ 1000 := hlen
      simp only [List.map_cons, forGo]
      show wpSs _ _ [some (Row.invoke d m as).pv, some M.code, some (.int first), some (.obj μ.length), some r.pv] _ _
      dsimp only [wpSs, wpS, wpE, wpEs]
      refine ⟨_, rfl, _, meth_app get_last, _, rfl, _, rfl, _, rfl, _, rfl, turned_shift (hq r (.head _)) (app_last (by simp; lia) ⟨rfl, trivial, ?_⟩)⟩
      have := ih (done ++ [r.shift first]) (some r.pv) Q' (fun r hr => hq r (.tail _ hr)) (by simp; lia) (fun o4 => by have := q o4; simpa using this)
      rw [List.map_append] at this
      exact this
  refine key M.body (moves first 0 as) none _ hqt (by rw [moves_len]; lia) fun o4 => ?_
  show wpSs _ _ _ _ _
  dsimp only [wpSs, wpS, wpE, wpEs, wpL]
  refine ⟨_, rfl, _, rfl, subP_nat (i := 1) (v := .int d) rfl (by simp [Row.parts]) rfl ⟨_, rfl, _, rfl, attr_i (v := .tup (M.rows.map Row.pv)) (by decide) (by decide) rfl rfl ⟨_, rfl, sub_last (l := M.body.map Row.pv) (v := (Row.ret M.r).pv) (by rw [← hap]; rfl) (by simp; lia) (subP_nat (i := 1) (v := .int M.r) rfl (by simp [Row.parts]) rfl (add_i ⟨by simp, by simp, ?_⟩))⟩⟩⟩
  refine .inr ⟨(moves first 0 as ++ M.body.map (Row.shift first)).map Row.pv, [(Row.move d (first + M.r)).pv], ?_, rfl, ?_, ?_⟩
  · unfold listOf
    simp
  · have := moves_len first 0 as
    simp; lia
  · have e : (moves first 0 as ++ M.body.map (Row.shift first)).map Row.pv ++ [(Row.move d (first + M.r)).pv] = (putIn first d as M).map Row.pv := by simp [putIn]
    rw [e]
    exact end_app (rows_below _ _) q

/- MPi -/


noncomputable def intsL (l : List Nat) : List PV := l.map fun n : Nat => .int (n : Int)
/- the objects while the inliner works -/
noncomputable def inlSt (s : Sr) (code ms : PV) (rows : List Row) (places : List Nat) (slots : Nat) : List AO :=
  [sv s, .inst 159 [7, 8, 3, 9, 2] [code, ms, .obj 2, .obj 3, .int slots], .lst (rows.map Row.pv), .lst (intsL places)]
theorem intsL_below (k : Nat) (l : List Nat) : belows k (intsL l) = true := belows_map (fun _ => rfl) l

noncomputable def blkRows (ms : MS) (slots : Nat) (r : Row) : List Row := match r with
  | .invoke d m as => if kept (ms.at m) as = true then [r] else putIn slots d as (ms.at m)
  | r => [r]
noncomputable def blkSlots (ms : MS) (slots : Nat) (r : Row) : Nat := match r with
  | .invoke _ m as => if kept (ms.at m) as = true then slots else slots + max 5 as.length
  | _ => slots

theorem attr_o {k C : Nat} {ks : List Nat} {l : List PV} {f : Nat} {v : PV} {μ : List AO} {Q : Post} (hk : μ[k]? = some (.inst C ks l)) (h1 : f < fTab.length) (h2 : C ∈ clsA) (h3 : fieldOf ks l f = some v) (h4 : plainV v = true) (q : Q v μ) : attrP (.obj k) f μ Q :=
  ⟨h1, C, ks, l, v, hk, h2, h3, h4, q⟩

theorem ms_below (k : Nat) (ms : MS) : below k ms.pv = true := by
  have h : ∀ (M : Meth) (i : Nat), below k (M.pv i) = true := fun M i => by
    have hn : belows k M.names = true := belows_all fun p hp => by
      have := List.mem_of_mem_take hp
      simp only [List.mem_cons, List.not_mem_nil, or_false] at this
      rcases this with rfl | rfl | rfl <;> rfl
    simp [Meth.pv, below, belows, hn, Meth.code, codeV, rows_below]
  simp [MS.pv, below, belows, h]
theorem code_below (k nm ar sl : Nat) (rows : List Row) : below k (codeV nm ar sl rows []) = true := by simp [codeV, below, belows, rows_below]

theorem inl_end {s : Sr} {nm ar sl : Nat} {R : List Row} {ms : MS} {rows rows' : List Row} {places places' : List Nat} {slots slots' : Nat} {v : PV} {Q : Post} (hv : below 4 v = true) (q : Q v (inlSt s (codeV nm ar sl R []) ms.pv rows' places' slots')) :
    EndQ (inlSt s (codeV nm ar sl R []) ms.pv rows places slots) Q v (inlSt s (codeV nm ar sl R []) ms.pv rows' places' slots') :=
  end_ch hv (.same (.chg (by
    show belows 4 _ = true
    simp [belows, code_below, ms_below, below]) (.chg (rows_below _ _) (.chg (intsL_below _ _) (.nil _))))) q

theorem write_ok {n : Nat} {s : Sr} {nm ar sl : Nat} {R : List Row} {ms : MS} {rows : List Row} {places : List Nat} {slots : Nat} {r : Row} {Q : Post} (hm : OkMS ms) (hr : r.okInv) (hl : rows.length ≤ 500) (hp : places.length ≤ 500)
    (q : Q .none (inlSt s (codeV nm ar sl R []) ms.pv (rows ++ blkRows ms slots r) (places ++ [rows.length]) (blkSlots ms slots r))) :
    PhiN (n + 4) 144 [.obj 1, r.pv] (inlSt s (codeV nm ar sl R []) ms.pv rows places slots) Q := by
  refine phi_fn [some (.obj 1), some r.pv, none] rfl rfl rfl rfl ?_
  show wpSs _ ce144 _ _ _
  unfold ce144
  unfold wpSs
  refine ⟨_, rfl, attr_o (k := 1) rfl (by decide) (by decide) (v := .obj 3) rfl rfl ⟨_, meth_app (n := 3) rfl, _, rfl, _, rfl, attr_o (k := 1) rfl (by decide) (by decide) (v := .obj 2) rfl rfl (len_items (l := rows.map Row.pv) rfl (by simp; (exact Nat.le_trans ‹_› (by decide))) ⟨3, intsL places, _, rfl, rfl, rfl, by simp [intsL]; (exact Nat.le_trans ‹_› (by decide)), rfl, ?_⟩)⟩⟩
  have e0 : (inlSt s (codeV nm ar sl R []) ms.pv rows places slots).set 3 (.lst (intsL places ++ [.int ((rows.map Row.pv).length : Nat)])) = inlSt s (codeV nm ar sl R []) ms.pv rows (places ++ [rows.length]) slots := by
    simp [inlSt, intsL]
  rw [e0]
  unfold wpSs
  refine ⟨_, rfl, _, rfl, _, rfl, attr_o (k := 1) rfl (by decide) (by decide) (v := ms.pv) rfl rfl (body_ok hm hr ⟨nofun, ?_⟩)⟩
  refine ⟨_, rfl, ?_⟩
  have none_case : bodyOf ms r = none → blkRows ms slots r = [r] ∧ blkSlots ms slots r = slots := fun h => by
    cases r with
    | invoke d m as =>
      by_cases hk : kept (ms.at m) as = true
      · simp [blkRows, blkSlots, hk]
      · simp [bodyOf, hk] at h
    | _ => exact ⟨rfl, rfl⟩
  cases hb : bodyOf ms r with
  | none =>
    obtain ⟨e1, e2⟩ := none_case hb
    rw [e1, e2] at q
    refine ⟨rfl, ite_n (by decide) (ite_t rfl ⟨_, rfl, attr_o (k := 1) rfl (by decide) (by decide) (v := .obj 2) rfl rfl ⟨_, meth_app (n := 2) rfl, _, rfl, 2, rows.map Row.pv, _, rfl, rfl, rfl, by simp; (exact Nat.le_trans ‹_› (by decide)), rfl, ?_⟩⟩)⟩
    have e : (inlSt s (codeV nm ar sl R []) ms.pv rows (places ++ [rows.length]) slots).set 2 (.lst (rows.map Row.pv ++ [r.pv])) = inlSt s (codeV nm ar sl R []) ms.pv (rows ++ [r]) (places ++ [rows.length]) slots := by
      simp [inlSt]
    show exitQ _ _ _ _ ((inlSt s (codeV nm ar sl R []) ms.pv rows (places ++ [rows.length]) slots).set 2 (.lst (rows.map Row.pv ++ [r.pv])))
    rw [e]
    exact inl_end rfl q
  | some M =>
    cases r with
    | invoke d m as =>
      by_cases hk : kept (ms.at m) as = true
      · simp [bodyOf, hk] at hb
      have hMe : ms.at m = M := by simpa [bodyOf, hk] using hb
      subst hMe
      have hM := hm.at' m
      have hbl := hM.len
      have has : as.length ≤ 10 := hr.2
      have hkf : kept (ms.at m) as = false := by simpa using hk
      have hst : (ms.at m).straight = true := by
        unfold kept at hkf
        rw [Bool.or_eq_false_iff, Bool.or_eq_false_iff] at hkf
        simpa using hkf.1.1
      have e1 : blkRows ms slots (.invoke d m as) = putIn slots d as (ms.at m) := by simp [blkRows, hkf]
      have e2 : blkSlots ms slots (.invoke d m as) = slots + max 5 as.length := by simp [blkSlots, hkf]
      rw [e1, e2] at q
      refine ⟨rfl, ite_p rfl ⟨_, rfl, _, rfl, attr_o (k := 1) rfl (by decide) (by decide) (v := .obj 2) rfl rfl (len_items (l := rows.map Row.pv) rfl (by simp; (exact Nat.le_trans ‹_› (by decide))) ⟨_, rfl, _, rfl, attr_i (v := .tup ((ms.at m).rows.map Row.pv)) (by decide) (by decide) rfl rfl (len_items (l := (ms.at m).rows.map Row.pv) rfl (by simp [Meth.rows]; (exact Nat.le_trans ‹_› (by decide))) (add_i ⟨_, rfl, _, _, rfl, rfl, ?_⟩))⟩)⟩⟩
      have e3 : ¬ ((((rows.map Row.pv).length : Nat) : Int) + ((((ms.at m).rows.map Row.pv).length : Nat) : Int) > 600) := by simp [Meth.rows]; lia
      rw [decide_eq_false e3]
      refine ite_p rfl (ite_f rfl ⟨_, rfl, attr_o (k := 1) rfl (by decide) (by decide) (v := .obj 2) rfl rfl ⟨.ext, rfl, _, rfl, _, rfl, _, rfl, _, rfl, attr_o (k := 1) rfl (by decide) (by decide) (v := .int slots) rfl rfl (put_ok hM hst has ⟨2, rows.map Row.pv, _, rfl, rfl, rfl, ?_, rfl, ?_⟩)⟩⟩)
      · have := moves_len slots 0 as
        simp [putIn]; lia
      refine ⟨_, rfl, attr_o (k := 1) rfl (by decide) (by decide) (v := .int slots) rfl rfl ⟨_, rfl, _, rfl, attr_i (v := .int 5) (by decide) (by decide) rfl rfl ⟨_, rfl, _, rfl, subP_nat (i := 3) (v := natsV as) rfl (by simp [Row.parts]) rfl (len_items (l := intsL as) rfl (by simp [intsL]; (exact Nat.le_trans ‹_› (by decide))) (.inl ⟨_, _, rfl, add_i ?_⟩))⟩⟩⟩
      refine ⟨_, rfl, by decide, 1, _, _, _, rfl, rfl, by decide, rfl, by decide, .inr ⟨by decide, ?_⟩⟩
      have e : ((inlSt s (codeV nm ar sl R []) ms.pv rows (places ++ [rows.length]) slots).set 2 (.lst (rows.map Row.pv ++ (putIn slots d as (ms.at m)).map Row.pv))).set 1 (.inst 159 [7, 8, 3, 9, 2] [codeV nm ar sl R [], ms.pv, .obj 2, .obj 3, .int ((slots : Int) + max 5 (((intsL as).length : Nat) : Int))]) = inlSt s (codeV nm ar sl R []) ms.pv (rows ++ putIn slots d as (ms.at m)) (places ++ [rows.length]) (slots + max 5 as.length) := by
        have h2 : ((slots : Int) + max 5 (((intsL as).length : Nat) : Int)) = ((slots + max 5 as.length : Nat) : Int) := by simp [intsL]; lia
        rw [h2]; simp [inlSt]
      show exitQ _ _ _ _ (((inlSt s (codeV nm ar sl R []) ms.pv rows (places ++ [rows.length]) slots).set 2 (.lst (rows.map Row.pv ++ (putIn slots d as (ms.at m)).map Row.pv))).set 1 (.inst 159 [7, 8, 3, 9, 2] [codeV nm ar sl R [], ms.pv, .obj 2, .obj 3, .int ((slots : Int) + max 5 (((intsL as).length : Nat) : Int))]))
      rw [e]
      exact inl_end rfl q
    | _ => simp [bodyOf] at hb

/- MPj -/


theorem comp_mapA {α : Type} {Φ : Phi} {elt : Lc → List AO → Post → Prop} {tg : List Nat} {l : Lc} {G : List AO → Prop} {Q : List PV → List AO → Prop} {μ : List AO} (g : α → List PV) (f : α → PV) (hG : G μ) :
    ∀ (as : List α) (acc : List PV), (∀ a ∈ as, ∀ R : Post, R (f a) μ → elt (setTg l tg (g a)) μ R) → Q (acc ++ as.map f) μ → compGo (fun l μ Q => wpO Φ .none l μ Q) elt tg l G (as.map g) acc μ Q
  | [], acc, _, q => by unfold compGo; simpa using q
  | a :: as, acc, he, q => by
    rw [List.map_cons]
    unfold compGo
    unfold wpO
    refine ite_t rfl ?_
    exact he a (.head _) _ ⟨hG, comp_mapA g f hG as _ (fun i hi => he i (.tail _ hi)) (by simpa using q)⟩
theorem comp_filterA {α : Type} {cond : Lc → List AO → (Bool → List AO → Prop) → Prop} {elt : Lc → List AO → Post → Prop} {tg : List Nat} {l : Lc} {G : List AO → Prop} {Q : List PV → List AO → Prop} {μ : List AO} (g : α → List PV) (c : α → Bool) (f : α → PV) (hG : G μ) :
    ∀ (as : List α) (acc : List PV), (∀ a ∈ as, ∀ R : Bool → List AO → Prop, R (c a) μ → cond (setTg l tg (g a)) μ R) → (∀ a ∈ as, ∀ R : Post, R (f a) μ → elt (setTg l tg (g a)) μ R) → Q (acc ++ (as.filter c).map f) μ → compGo cond elt tg l G (as.map g) acc μ Q
  | [], acc, _, _, q => by unfold compGo; simpa using q
  | a :: as, acc, hc, he, q => by
    rw [List.map_cons]
    unfold compGo
    refine hc a (.head _) _ (ite_b (fun h => ?_) fun h => ?_)
    · exact he a (.head _) _ ⟨hG, comp_filterA g c f hG as _ (fun i hi => hc i (.tail _ hi)) (fun i hi => he i (.tail _ hi)) (by simpa [List.filter_cons, h] using q)⟩
    · exact ⟨hG, comp_filterA g c f hG as _ (fun i hi => hc i (.tail _ hi)) (fun i hi => he i (.tail _ hi)) (by simpa [List.filter_cons, h] using q)⟩

noncomputable def ledRow (places : List Nat) : Row → Row
  | .goto g => .goto (places.getD g 0)
  | .unless a g => .unless a (places.getD g 0)
  | r => r
noncomputable def Row.goalIn (n : Nat) : Row → Prop
  | .goto g => g < n
  | .unless _ g => g < n
  | _ => True

theorem getD_some {l : List Nat} {g : Nat} (h : g < l.length) : l[g]? = some (l.getD g 0) := by
  rw [List.getD_eq_getElem?_getD, List.getElem?_eq_getElem h]; rfl

theorem led_ok {n : Nat} {s : Sr} {nm ar sl : Nat} {R : List Row} {ms : MS} {rows : List Row} {places : List Nat} {slots : Nat} {r : Row} {Q : Post} (hg : r.goalIn places.length) (hp : places.length ≤ 500)
    (q : Q (ledRow places r).pv (inlSt s (codeV nm ar sl R []) ms.pv rows places slots)) : PhiN (n + 3) 156 [.obj 1, r.pv] (inlSt s (codeV nm ar sl R []) ms.pv rows places slots) Q := by
  refine phi_fn [some (.obj 1), some r.pv] rfl rfl rfl rfl ?_
  show wpSs _ ce156 _ _ _
  dsimp only [ce156, wpSs, wpS, wpT, wpE, wpEs, wpL]
  refine ⟨_, rfl, _, rfl, goals_ok ⟨by simp, eq_nil (n := 0) (by cases r <;> rfl) (ite_b (fun h => ?_) fun h => ?_)⟩⟩
  · have : ledRow places r = r := by cases r <;> first | rfl | (simp [Row.goals] at h)
    rw [this] at q
    exact ⟨_, rfl, end_same (r.below _) q⟩
  · refine ⟨_, rfl, _, rfl, _, rfl, _, rfl, turned_led (k := 1) (p := 3) (r' := ledRow places r) (places := places) rfl rfl rfl (by (exact Nat.le_trans ‹_› (by decide))) ?_ (end_same (Row.below _ _) q)⟩
    cases r with
    | goto g => exact .inl ⟨g, _, rfl, getD_some hg, rfl⟩
    | «unless» a g => exact .inr ⟨a, g, _, rfl, getD_some hg, rfl⟩
    | _ => simp [Row.goals] at h

theorem with_ok {n nm ar sl slots : Nat} {R T : List Row} {μ : List AO} {Q : Post} (hz : T.length ≤ 1000000) (q : Q (codeV nm ar slots T []) μ) : PhiN (n + 3) 81 [codeV nm ar sl R [], .tup (T.map Row.pv), .int slots] μ Q := by
  refine phi_fn [some (codeV nm ar sl R []), some (.tup (T.map Row.pv)), some (.int slots)] rfl rfl rfl rfl ?_
  show wpSs _ ce81 _ _ _
  dsimp only [ce81, wpSs, wpS, wpE, wpEs]
  refine ⟨_, rfl, _, rfl, attr_i (v := .str nm) (by decide) (by decide) rfl rfl ⟨_, rfl, attr_i (v := .int ar) (by decide) (by decide) rfl rfl ⟨_, rfl, _, rfl, _, rfl, attr_i (v := .tup []) (by decide) (by decide) rfl rfl ⟨_, rfl, attr_i (v := .tup []) (by decide) (by decide) rfl rfl ⟨_, rfl, attr_i (v := .tup []) (by decide) (by decide) rfl rfl ?_⟩⟩⟩⟩⟩
  exact code_ok7 hz (end_same (code_below _ _ _ _ _) q)

noncomputable def inl (ms : MS) : List Row → List Row → List Nat → Nat → List Row × List Nat × Nat
  | [], rows, places, slots => (rows, places, slots)
  | r :: rs, rows, places, slots => inl ms rs (rows ++ blkRows ms slots r) (places ++ [rows.length]) (blkSlots ms slots r)
theorem blk_len {ms : MS} {slots : Nat} {r : Row} (hm : OkMS ms) (hr : r.okInv) : (blkRows ms slots r).length ≤ 20 := by
  cases r with
  | invoke d m as =>
    have h1 := (hm.at' m).len
    have h2 : as.length ≤ 10 := hr.2
    have h3 := moves_len slots 0 as
    unfold blkRows
    dsimp only
    split
    · simp
    · simp [putIn]; lia
  | _ => simp [blkRows]

theorem run_write {n : Nat} {s : Sr} {nm ar sl : Nat} {R : List Row} {ms : MS} {Q : SPost} {o2 : Option PV} (hm : OkMS ms) : ∀ (todo rows : List Row) (places : List Nat) (slots : Nat) (o1 : Option PV), (∀ r ∈ todo, r.okInv) → rows.length + 20 * todo.length ≤ 500 → places.length + todo.length ≤ 500 →
    (∀ o1, Q .next [some (.obj 1), o1, o2] (inlSt s (codeV nm ar sl R []) ms.pv (inl ms todo rows places slots).1 (inl ms todo rows places slots).2.1 (inl ms todo rows places slots).2.2)) →
    forGo (fun l μ Q => wpSs (PhiN (n + 4)) (.cons (.expr (.meth (.loc 0) 4 (.cons (.loc 1) .nil))) .nil) l μ Q) [1] (fun _ => True) (todo.map fun r => [r.pv]) [some (.obj 1), o1, o2] (inlSt s (codeV nm ar sl R []) ms.pv rows places slots) Q
  | [], rows, places, slots, o1, _, _, _, q => q o1
  | r :: todo, rows, places, slots, o1, hr, h1, h2, q => by
    have h1' : rows.length + 20 * (todo.length + 1) ≤ 500 := h1
    have h2' : places.length + (todo.length + 1) ≤ 500 := h2
    have hb := blk_len (slots := slots) hm (hr r (.head _))
    have next := run_write (n := n) (s := s) (nm := nm) (ar := ar) (sl := sl) (R := R) (Q := Q) (o2 := o2) hm todo (rows ++ blkRows ms slots r) (places ++ [rows.length]) (blkSlots ms slots r) (some r.pv) (fun r h => hr r (.tail _ h)) (by simp; omega) (by simp; lia) q
    rw [List.map_cons]
    unfold forGo
    show wpSs _ _ [some (.obj 1), some r.pv, o2] _ _
    dsimp only [wpSs, wpS, wpE, wpEs]
    exact ⟨_, rfl, .fn 144, rfl, _, rfl, write_ok hm (hr r (.head _)) (by lia) (by lia) ⟨rfl, trivial, next⟩⟩

theorem run_ok {n : Nat} {s : Sr} {nm ar sl : Nat} {R : List Row} {ms : MS} {Q : Post} (hm : OkMS ms) (hr : ∀ r ∈ R, r.okInv) (hl : R.length ≤ 20) {T : List Row} {P : List Nat} {sl' : Nat} (hi : inl ms R [] [] sl = (T, P, sl')) (hT : ∀ r ∈ T, r.goalIn P.length) (hTl : T.length ≤ 500) (hPl : P.length ≤ 500)
    (q : Q (codeV nm ar sl' (T.map (ledRow P)) []) (inlSt s (codeV nm ar sl R []) ms.pv T P sl')) : PhiN (n + 5) 149 [.obj 1] (inlSt s (codeV nm ar sl R []) ms.pv [] [] sl) Q := by
  refine phi_fn [some (.obj 1), none, none] rfl rfl rfl rfl ?_
  show wpSs _ ce149 _ _ _
  unfold ce149
  unfold wpSs
  unfold wpS
  dsimp only [wpI, wpE]
  refine ⟨_, rfl, attr_o (k := 1) rfl (by decide) (by decide) (v := codeV nm ar sl R []) rfl rfl (attr_i (v := .tup (R.map Row.pv)) (by decide) (by decide) rfl rfl ⟨by simp; (exact Nat.le_trans ‹_› (by decide)), trivial, ?_⟩)⟩
  rw [List.map_map]
  refine run_write hm R [] [] sl none hr (by simp; lia) (by simp; (exact Nat.le_trans ‹_› (by decide))) fun o1 => ?_
  rw [hi]
  show wpSs _ _ [some (.obj 1), o1, none] _ _
  dsimp only [wpSs, wpS, wpE, wpEs, wpL, wpI]
  refine ⟨fun p hp => ?_, _, rfl, attr_o (k := 1) rfl (by decide) (by decide) (v := .obj 2) rfl rfl ⟨T.map Row.pv, rfl, by simp; (exact Nat.le_trans ‹_› (by decide)), rfl, ?_⟩⟩
  · simp only [List.mem_singleton] at hp; subst hp; exact ⟨_, rfl⟩
  rw [List.map_map]
  refine comp_mapA (fun r : Row => [r.pv]) (fun r => (ledRow P r).pv) (by rfl) T [] (fun r hr R hR => ?_) ?_
  · exact ⟨_, rfl, .fn 156, rfl, _, rfl, led_ok (hT r hr) hPl hR⟩
  · have e : (T.map fun r => (ledRow P r).pv) = (T.map (ledRow P)).map Row.pv := by rw [List.map_map]; rfl
    rw [List.nil_append, e]
    refine ⟨nofun, _, rfl, attr_o (k := 1) rfl (by decide) (by decide) (v := codeV nm ar sl R []) rfl rfl ⟨.fn 81, rfl, _, rfl, _, rfl, _, (T.map (ledRow P)).map Row.pv, rfl, rfl, by simp; (exact Nat.le_trans ‹_› (by decide)), _, rfl, attr_o (k := 1) rfl (by decide) (by decide) (v := .int sl') rfl rfl (with_ok (by simp; (exact Nat.le_trans ‹_› (by decide))) ?_)⟩⟩
    exact inl_end (code_below _ _ _ _ _) q

theorem inlined_ok {n : Nat} {s : Sr} {nm ar sl : Nat} {R : List Row} {ms : MS} {Q : Post} (hm : OkMS ms) (hr : ∀ r ∈ R, r.okInv) (hl : R.length ≤ 20) {T : List Row} {P : List Nat} {sl' : Nat} (hi : inl ms R [] [] sl = (T, P, sl')) (hT : ∀ r ∈ T, r.goalIn P.length) (hTl : T.length ≤ 500) (hPl : P.length ≤ 500)
    (q : Q (codeV nm ar sl' (T.map (ledRow P)) []) [sv s]) : PhiN (n + 6) 170 [codeV nm ar sl R [], ms.pv] [sv s] Q := by
  refine phi_fn [some (codeV nm ar sl R []), some ms.pv] rfl rfl rfl rfl ?_
  show wpSs _ ce170 _ _ _
  dsimp only [ce170, wpSs, wpS, wpE, wpEs]
  refine ⟨_, rfl, _, rfl, _, rfl, ?_⟩
  show PhiN (n + 5) 159 _ _ _
  refine phi_cls rfl (phi_fn [some (.obj 1), some (codeV nm ar sl R []), some ms.pv] rfl rfl rfl rfl ?_)
  show wpSs _ ce137 _ _ _
  dsimp only [ce137, wpSs, wpS, wpE, wpEs, wpL]
  refine ⟨_, rfl, _, rfl, by decide, 1, 159, [], [], rfl, rfl, by decide, rfl, by decide, .inl ⟨by decide, ?_⟩⟩
  refine ⟨_, rfl, _, rfl, by decide, 1, 159, [7], [codeV nm ar sl R []], rfl, rfl, by decide, rfl, by decide, .inl ⟨by decide, ?_⟩⟩
  refine ⟨by simp, _, rfl, by decide, 1, 159, [7, 8], [codeV nm ar sl R [], ms.pv], rfl, rfl, by decide, rfl, by decide, .inl ⟨by decide, ?_⟩⟩
  refine ⟨by simp, _, rfl, by decide, 1, 159, [7, 8, 3], [codeV nm ar sl R [], ms.pv, .obj 2], rfl, rfl, by decide, rfl, by decide, .inl ⟨by decide, ?_⟩⟩
  refine ⟨_, rfl, attr_i (v := .int sl) (by decide) (by decide) rfl rfl ⟨_, rfl, by decide, 1, 159, [7, 8, 3, 9], [codeV nm ar sl R [], ms.pv, .obj 2, .obj 3], rfl, rfl, by decide, rfl, by decide, .inl ⟨by decide, ?_⟩⟩⟩
  show EndQ [sv s, .inst 159 [] []] _ .none (inlSt s (codeV nm ar sl R []) ms.pv [] [] sl)
  have hb : belows 4 [codeV nm ar sl R [], ms.pv, .obj 2, .obj 3, .int sl] = true := by simp [belows, code_below, ms_below, below]
  have hn : ∀ j, 1 ≤ j → j < 4 → ∃ o, (inlSt s (codeV nm ar sl R []) ms.pv [] [] sl)[j]? = some o ∧ belowO 4 o = true := fun j h1 h2 => by
    match j, h1, h2 with
    | 1, _, _ => exact ⟨_, rfl, hb⟩
    | 2, _, _ => exact ⟨_, rfl, rfl⟩
    | 3, _, _ => exact ⟨_, rfl, rfl⟩
  refine end_k (v' := .none) 4 (by simp) (by simp [inlSt]) .none (.same (.chg hb (.nil _))) (fun j h1 h2 => hn j (by simp at h1; (exact Nat.le_of_lt ‹_›)) h2) ⟨rfl, ?_⟩
  show EndQ [sv s] _ (.obj 1) (inlSt s (codeV nm ar sl R []) ms.pv [] [] sl)
  refine end_k (v' := .obj 1) 4 (by simp) (by simp [inlSt]) (.keep (by decide)) (.same (.nil _)) (fun j h1 h2 => hn j (by simp at h1; assumption) h2) ?_
  show ∃ t, methOf (.obj 1) 5 (inlSt s (codeV nm ar sl R []) ms.pv [] [] sl) = some t ∧ _
  refine ⟨.fn 149, rfl, run_ok hm hr hl hi hT hTl hPl ?_⟩
  exact end_ch (code_below _ _ _ _ _) (.same (.nil _)) q

/- MPk -/


theorem cutAt_nat (n k : Nat) : cutAt n (k : Int) = min k n := by
  unfold cutAt
  rw [if_neg (by simp), Int.toNat_natCast]
theorem take_min {α : Type} (l : List α) (k : Nat) : l.take (min k l.length) = l.take k := by
  by_cases h : k ≤ l.length
  · rw [Nat.min_eq_left h]
  · rw [Nat.min_eq_right (by lia), List.take_length, List.take_of_length_le (by lia)]
theorem sli_takeL {l : List PV} {k : Nat} {μ : List AO} {Q : Post} (hz : l.length ≤ 1000000) (q : Q (.lst (l.take k)) μ) : sliP (.lst l) .none (.int k) μ Q := by
  refine ⟨none, some k, rfl, rfl, hz, ?_⟩
  show Q (.lst ((l.take (cutAt l.length k)).drop 0)) μ
  rw [cutAt_nat, take_min]; exact q
theorem sli_takeT {l : List PV} {k : Nat} {μ : List AO} {Q : Post} (hz : l.length ≤ 1000000) (q : Q (.tup (l.take k)) μ) : sliP (.tup l) .none (.int k) μ Q := by
  refine ⟨none, some k, rfl, rfl, hz, ?_⟩
  show Q (.tup ((l.take (cutAt l.length k)).drop 0)) μ
  rw [cutAt_nat, take_min]; exact q
theorem sli_dropL {l : List PV} {k : Nat} {μ : List AO} {Q : Post} (hz : l.length ≤ 1000000) (hk : k ≤ l.length) (q : Q (.lst (l.drop k)) μ) : sliP (.lst l) (.int k) .none μ Q := by
  refine ⟨some k, none, rfl, rfl, hz, ?_⟩
  show Q (.lst ((l.take l.length).drop (cutAt l.length k))) μ
  rw [cutAt_nat, List.take_length, Nat.min_eq_left hk]; exact q

theorem digits_comp {n : Nat} {τ : List AO} {Q : List PV → List AO → Prop} : ∀ (is : List Int) (acc : List Nat) (s : Sr), (∀ (as : List Nat) (s' : Sr), (∀ a ∈ as, a < 4) → as.length = is.length → Q (intsL (acc ++ as)) (sv s' :: τ)) →
    compGo (fun l μ Q => wpO (PhiN (n + 1)) .none l μ Q) (fun l μ Q => wpE (PhiN (n + 1)) (.call (.glo 15) (.cons (.loc 1) (.cons (.cint 4) .nil))) l μ Q) [0] [none, some (.obj 0)] (fun _ => True) (is.map fun i => [.int i]) (intsL acc) (sv s :: τ) Q
  | [], acc, s, q => by
    have := q [] s (by simp) rfl
    rw [List.append_nil] at this
    exact this
  | i :: is, acc, s, q => by
    rw [List.map_cons]
    unfold compGo
    unfold wpO
    refine ite_t rfl ?_
    show wpE _ _ [some (.int i), some (.obj 0)] _ _
    refine ⟨_, rfl, _, rfl, digit_ok (by decide) (by decide) fun d s' hd => ⟨trivial, ?_⟩⟩
    have next := digits_comp (n := n) (τ := τ) (Q := Q) is (acc ++ [d]) s' fun as s'' ha hl => by
      have := q (d :: as) s'' (fun a h => by
        rcases List.mem_cons.mp h with rfl | h
        · lia
        · exact ha a h) (by simp [hl])
      simpa using this
    have e : intsL (acc ++ [d]) = intsL acc ++ [.int d] := by simp [intsL]
    rw [e] at next
    exact next

theorem quiet_ok {n m : Nat} {s : Sr} {τ : List AO} {Q : Post} (hm : 4 < m) (hm2 : m ≤ 100) (q : ∀ (r : Row) (s' : Sr), r.quiet m → Q r.pv (sv s' :: τ)) : PhiN (n + 2) 232 [.obj 0, .int m] (sv s :: τ) Q := by
  refine phi_fn [some (.obj 0), some (.int m), none, none, none] rfl rfl rfl rfl ?_
  show wpSs _ ce232 _ _ _
  unfold ce232
  unfold wpSs
  refine ⟨_, rfl, _, rfl, _, rfl, digit_ok (by lia) (by lia) fun goal s1 hgoal => ?_⟩
  refine ⟨fun p hp => ?_, 0, 2, rfl, rfl, by decide, by decide, trivial, ?_⟩
  · simp only [List.mem_singleton] at hp; subst hp; exact ⟨_, rfl⟩
  have hd := digits_comp (n := n) (τ := τ) (Q := fun vs μ => (false = true → [some (.obj 0), some (.int m), none, none, none][2]? = some (none : Option PV)) ∧ (false = true → [some (.obj 0), some (.int m), none, none, none][3]? = some (none : Option PV)) ∧
      wpSs (PhiN (n + 1)) (.cons (.asg false 4 (.call (.glo 15) (.cons (.loc 0) (.cons (.cint 4) .nil))))
  (.cons (.ite (.cmp .Eq (.loc 4) (.cint 0)) (.cons (.ret (.tup (.cons (.cstr 0) (.cons (.loc 2) (.cons (.call (.glo 15) (.cons (.loc 0) (.cons (.cint 90) .nil))) .nil)))))
  .nil) .nil)
  (.cons (.ite (.cmp .Eq (.loc 4) (.cint 1)) (.cons (.ret (.tup (.cons (.cstr 1) (.cons (.loc 2) (.cons (.sub (.loc 3) (.cint 0)) .nil)))))
  .nil) .nil)
  (.cons (.ret (.tup (.cons (.cstr 6) (.cons (.loc 2) (.cons (.sub (.loc 3) (.cint 0)) (.cons (.call (.glo 29) (.cons (.sli (.loc 3) .cnone (.bin .Add (.cint 1) (.bin .Mod (.loc 4) (.cint 2)))) .nil)) .nil))))))
  .nil)))) [some (.obj 0), some (.int m), some (.int goal), some (.lst vs), none] μ (exitQ (sv s :: τ) Q)) [0, 1] [] s1 fun as s2 has hlen => ?_
  · exact hd
  refine ⟨nofun, nofun, ?_⟩
  rw [List.nil_append]
  obtain ⟨x, y, rfl⟩ : ∃ x y, as = [x, y] := ⟨_, _, List.eq_getElem_of_length_eq_two as hlen⟩
  have hx := has x (.head _)
  have hy := has y (.tail _ (.head _))
  unfold wpSs
  refine ⟨_, rfl, _, rfl, digit_ok (by decide) (by decide) fun way s3 hway => ⟨nofun, ?_⟩⟩
  show wpSs _ _ [some (.obj 0), some (.int m), some (.int goal), some (.lst (intsL [x, y])), some (.int way)] _ _
  refine ⟨_, rfl, eq_int fun b hb => ite_b (fun h => ?_) fun h => ?_⟩
  · refine ⟨_, rfl, _, rfl, _, rfl, digit_ok (by decide) (by decide) fun k s4 hk => ⟨by simp, ?_⟩⟩
    exact end_src (Row.below _ (.const goal k)) (q (.const goal k) s4 (by show goal < m; lia))
  refine ⟨_, rfl, eq_int fun b2 hb2 => ite_b (fun h2 => ?_) fun h2 => ?_⟩
  · refine ⟨_, rfl, _, rfl, subP_nat (i := 0) (v := .int x) rfl (by simp [intsL]) rfl ⟨by simp, ?_⟩⟩
    exact end_src (Row.below _ (.move goal x)) (q (.move goal x) s3 ⟨by lia, by omega⟩)
  refine ⟨_, rfl, _, rfl, subP_nat (i := 0) (v := .int x) rfl (by simp [intsL]) rfl ⟨_, rfl, _, rfl, _, rfl, mod_pos (by decide) (add_i ?_)⟩⟩
  have e : ((1 : Int) + (way : Int) % 2) = ((1 + way % 2 : Nat) : Int) := by rfl
  rw [e]
  refine sli_takeL (by simp [intsL]) ⟨_, (intsL [x, y]).take (1 + way % 2), rfl, rfl, by simp [intsL]; lia, by simp, ?_⟩
  have e2 : PV.tup ((intsL [x, y]).take (1 + way % 2)) = natsV ([x, y].take (1 + way % 2)) := by simp [intsL, natsV]
  rw [e2]
  refine end_src (Row.below _ (.call goal x ([x, y].take (1 + way % 2)))) (q (.call goal x ([x, y].take (1 + way % 2))) s3 ⟨by lia, by omega, fun a ha => ?_, by simp; lia⟩)
  have := List.mem_of_mem_take ha
  simp only [List.mem_cons, List.not_mem_nil, or_false] at this
  rcases this with rfl | rfl <;> lia

/- MPl -/


noncomputable def ahead (many : Nat) : List Row := (List.range' (many + 1) (4 - many)).map fun at' => .const at' (7 * at')
structure GenM (M : Meth) : Prop where
  many : M.many ≤ 3
  rest : M.rest = true → 0 < M.many
  r : M.r < 5
  body : ∃ qs odd, M.body = ahead M.many ++ qs ++ odd ∧ (∀ q ∈ qs, q.quiet 5) ∧ qs.length ≤ 3 ∧ (odd = [] ∨ odd = [.goto ((ahead M.many).length + qs.length + 1)] ∨ odd = [.static])
theorem ahead_len (many : Nat) : (ahead many).length = 4 - many := by simp [ahead]
theorem quiet_inBody {r : Row} (h : r.quiet 5) : r.inBody := by cases r <;> first | exact h | exact h.elim
theorem GenM.ok {M : Meth} (g : GenM M) : OkM M := by
  obtain ⟨qs, odd, e, hq, hl, ho⟩ := g.body
  have h3 := ahead_len M.many
  refine ⟨g.many, ?_, fun r hr => ?_, g.r⟩
  · rw [e]
    rcases ho with rfl | rfl | rfl <;> simp <;> (first | lia | omega)
  · rw [e, List.mem_append, List.mem_append] at hr
    rcases hr with (hr | hr) | hr
    · simp only [ahead, List.mem_map, List.mem_range'_1] at hr
      obtain ⟨a, ha, rfl⟩ := hr
      show a < 5
      omega
    · exact quiet_inBody (hq r hr)
    · rcases ho with rfl | rfl | rfl
      · cases hr
      · rw [List.mem_singleton] at hr; subst hr; trivial
      · rw [List.mem_singleton] at hr; subst hr; trivial

theorem quiets_comp {n : Nat} {τ : List AO} {Q : List PV → List AO → Prop} : ∀ (is : List Int) (acc : List Row) (s : Sr), (∀ (qs : List Row) (s' : Sr), (∀ q ∈ qs, q.quiet 5) → qs.length = is.length → Q ((acc ++ qs).map Row.pv) (sv s' :: τ)) →
    compGo (fun l μ Q => wpO (PhiN (n + 2)) .none l μ Q) (fun l μ Q => wpE (PhiN (n + 2)) (.call (.glo 16) (.cons (.loc 1) (.cons (.cint 5) .nil))) l μ Q) [0] [none, some (.obj 0)] (fun _ => True) (is.map fun i => [.int i]) (acc.map Row.pv) (sv s :: τ) Q
  | [], acc, s, q => by
    have := q [] s (by simp) rfl
    rw [List.append_nil] at this
    exact this
  | i :: is, acc, s, q => by
    rw [List.map_cons]
    unfold compGo
    unfold wpO
    refine ite_t rfl ?_
    show wpE _ _ [some (.int i), some (.obj 0)] _ _
    dsimp only [wpE, wpEs]
    refine ⟨_, rfl, _, rfl, quiet_ok (m := 5) (by decide) (by decide) fun r s' hr => ⟨trivial, ?_⟩⟩
    have next := quiets_comp (n := n) (τ := τ) (Q := Q) is (acc ++ [r]) s' fun qs s'' ha hl => by
      have := q (r :: qs) s'' (fun a h => by
        rcases List.mem_cons.mp h with rfl | h
        · exact hr
        · exact ha a h) (by simp [hl])
      simpa using this
    rw [List.map_append] at next
    exact next

theorem upto_ahead : ∀ (k a : Nat), (upto (a : Int) k).map (fun i => [PV.int i]) = (List.range' a k).map fun at' : Nat => [PV.int (at' : Int)]
  | 0, a => rfl
  | k + 1, a => by
    have := upto_ahead k (a + 1)
    simp only [upto, List.range'_succ, List.map_cons]
    rw [← this]; rfl

noncomputable def nm3 : List PV := [.str 38, .str 46, .str 47]
theorem meth_gen {n num : Nat} {s : Sr} {Q : Post} (q : ∀ (M : Meth) (s' : Sr), GenM M → Q (M.pv num) [sv s']) : PhiN (n + 3) 237 [.obj 0, .int num] [sv s] Q := by
  refine phi_fn [some (.obj 0), some (.int num), none, none, none, none, none] rfl rfl rfl rfl ?_
  show wpSs _ ce237 _ _ _
  unfold ce237
  unfold wpSs
  dsimp only [wpS, wpE, wpEs]
  refine ⟨_, rfl, _, rfl, digit_ok (by decide) (by decide) fun many s1 hmany => ⟨nofun, ?_⟩⟩
  have hmany' : many ≤ 3 := by lia
  -- ahead
  unfold wpSs
  dsimp only [wpS, wpE, wpEs, wpL, wpI]
  have e5 : ((5 : Int) - ((many : Int) + 1)).toNat = 4 - many := by lia
  refine ⟨nofun, _, rfl, add_i ⟨_, 5, rfl, rfl, by (exact Nat.lt_of_le_of_lt ‹_› (by decide)), by decide, trivial, ?_⟩⟩
  rw [e5]
  have e1 : ((many : Int) + 1) = ((many + 1 : Nat) : Int) := by rfl
  rw [e1, upto_ahead]
  refine comp_mapA (fun at' : Nat => [.int (at' : Int)]) (fun at' : Nat => (Row.const at' (7 * at')).pv) trivial _ _ (fun a ha R hR => ?_) ?_
  · have ha' := List.mem_range'_1.mp ha
    refine ⟨_, rfl, _, rfl, mul_i (by omega) ⟨by simp, ?_⟩⟩
    have : ((7 : Int) * (a : Int)) = ((7 * a : Nat) : Int) := by rfl
    rw [this]; exact hR
  have eA : (List.range' (many + 1) (4 - many)).map (fun at' : Nat => (Row.const at' (7 * at')).pv) = (ahead many).map Row.pv := by
    rw [ahead, List.map_map]; rfl
  rw [List.nil_append, eA]
  refine ⟨nofun, ?_⟩
  -- rows
  unfold wpSs
  unfold wpS
  unfold wpE
  dsimp only [wpE, wpEs, wpL, wpI]
  refine ⟨fun p hp => ?_, _, rfl, _, rfl, digit_ok (by decide) (by decide) fun nq s2 hnq => add_i ⟨0, _, rfl, rfl, by decide, by lia, trivial, ?_⟩⟩
  · simp only [List.mem_singleton] at hp; subst hp; exact ⟨_, rfl⟩
  refine quiets_comp (n := n) (τ := []) (upto 0 (1 + (nq : Int) - 0).toNat) [] s2 fun qs s3 hqs hlen => ?_
  have hql : qs.length ≤ 3 := by rw [hlen, upto_len]; lia
  rw [List.nil_append]
  refine ⟨nofun, ?_⟩
  -- odd
  show wpSs _ _ [some (.obj 0), some (.int num), some (.int many), some (.lst ((ahead many).map Row.pv)), some (.obj 1), none, none] [sv s3, .lst (qs.map Row.pv)] _
  unfold wpSs
  dsimp only [wpS, wpE, wpEs]
  refine ⟨_, rfl, _, rfl, digit_ok (by decide) (by decide) fun odd s4 hodd => ⟨nofun, ?_⟩⟩
  have hal := ahead_len many
  have fin : ∀ (od : List Row), (od = [] ∨ od = [.goto ((ahead many).length + qs.length + 1)] ∨ od = [.static]) →
      wpSs (PhiN (n + 2)) (.cons (.asg false 6 (.call (.glo 1) (.cons (.cstr 43) (.cons (.bin .Add (.loc 2) (.cint 1)) (.cons (.cint 5) (.cons (.call (.glo 29) (.cons (.bin .Add (.bin .Add (.loc 3) (.loc 4)) (.fl (.disp (.cons (.tup (.cons (.cstr 16) (.cons (.call (.glo 15) (.cons (.loc 0) (.cons (.cint 5) .nil))) .nil))) .nil)))) .nil)) (.cons (.tup (.cons (.cstr 44) .nil)) .nil)))))))
  (.cons (.ret (.call (.glo 13) (.cons (.loc 1) (.cons (.cstr 43) (.cons (.tup (.cons (.cstr 45) (.cons (.tup .nil) (.cons .cnone .nil)))) (.cons (.sli (.tup (.cons (.cstr 38) (.cons (.cstr 46) (.cons (.cstr 47) .nil)))) .cnone (.loc 2)) (.cons (.bop true (.cons (.cmp .Eq (.loc 5) (.cint 2)) (.cons (.cmp .Gt (.loc 2) (.cint 0)) .nil))) (.cons (.loc 6) (.cons .cnone .nil)))))))))
  .nil)) [some (.obj 0), some (.int num), some (.int many), some (.lst ((ahead many).map Row.pv)), some (.obj 1), some (.int odd), none] [sv s4, .lst ((qs ++ od).map Row.pv)] (exitQ [sv s] Q) := by
    intro od hod
    have hodl : od.length ≤ 1 := by rcases hod with rfl | rfl | rfl <;> simp
    unfold wpSs
    dsimp only [wpS, wpE, wpEs, wpL]
    refine ⟨_, rfl, _, rfl, add_i ⟨_, rfl, _, rfl, _, rfl, .inr ⟨(ahead many).map Row.pv, (qs ++ od).map Row.pv, rfl, rfl, by simp; omega, _, rfl, _, rfl, digit_ok (by decide) (by decide) fun r s5 hr => ⟨by simp, by simp, ?_⟩⟩⟩⟩
    have er : (ahead many).map Row.pv ++ (qs ++ od).map Row.pv ++ [(Row.ret r).pv] = ((ahead many ++ qs ++ od) ++ [Row.ret r]).map Row.pv := by simp
    refine .inr ⟨(ahead many).map Row.pv ++ (qs ++ od).map Row.pv, [(Row.ret r).pv], rfl, rfl, by simp; lia, _, _, rfl, rfl, by simp; omega, by simp, ?_⟩
    rw [er]
    let M : Meth := ⟨many, (decide (odd = 2)) && decide (0 < many), ahead many ++ qs ++ od, r⟩
    have g : GenM M := ⟨hmany', fun h => of_decide_eq_true (Bool.and_eq_true_iff.mp h).2, by show r < 5; lia, qs, od, rfl, hqs, hql, hod⟩
    refine code_ok5 (rows := M.rows) (ar := many + 1) (sl := 5) (by have := g.ok.len; simp [Meth.rows]; (exact Nat.le_trans ‹_› (by decide))) ⟨nofun, ?_⟩
    show wpSs _ _ [some (.obj 0), some (.int num), some (.int many), some (.lst ((ahead many).map Row.pv)), some (.obj 1), some (.int odd), some M.code] [sv s5, .lst ((qs ++ od).map Row.pv)] _
    dsimp only [wpSs, wpS, wpE, wpEs, wpB]
    refine ⟨_, rfl, _, rfl, ⟨by simp, by simp, by simp, _, rfl, sli_takeT (l := nm3) (by simp [nm3]) ⟨_, rfl, eq_int fun b hb => ⟨b, rfl, ?_⟩⟩⟩⟩
    have last : ∀ b' : Bool, b' = M.rest → PhiN (n + 2) 209 [.int num, .str 43, .tup [.str 45, .tup [], .none], .tup (nm3.take many), .bool b', M.code, .none] [sv s5, .lst ((qs ++ od).map Row.pv)] (fun v μ₁ => exitQ [sv s] Q (.ret v) [some (.obj 0), some (.int num), some (.int many), some (.lst ((ahead many).map Row.pv)), some (.obj 1), some (.int odd), some M.code] μ₁) := fun b' e => by
      rw [e]
      refine method_ok (M := M) (end_ch (by
        have hn : belows 1 M.names = true := belows_all fun p hp => by
          have := List.mem_of_mem_take hp
          simp only [List.mem_cons, List.not_mem_nil, or_false] at this
          rcases this with rfl | rfl | rfl <;> rfl
        show below 1 (M.pv num) = true
        simp [Meth.pv, below, belows, hn, Meth.code, codeV, rows_below]) (.chg rfl (.nil _)) (q M s5 g))
    cases b with
    | true =>
      have ho : odd = 2 := by have := hb.mp rfl; lia
      refine ite_p rfl ⟨_, rfl, _, _, rfl, rfl, _, rfl, last _ ?_⟩
      show decide ((many : Int) > 0) = (decide (odd = 2) && decide (0 < many))
      rw [decide_eq_true ho, Bool.true_and, Bool.eq_iff_iff, decide_eq_true_iff, decide_eq_true_iff]
      simp
    | false =>
      have ho : odd ≠ 2 := fun e => by have := hb.mpr (by (simp [*])); cases this
      refine ite_n (by decide) ⟨_, rfl, last _ ?_⟩
      show false = (decide (odd = 2) && decide (0 < many))
      rw [decide_eq_false ho, Bool.false_and]
  show wpSs _ _ [some (.obj 0), some (.int num), some (.int many), some (.lst ((ahead many).map Row.pv)), some (.obj 1), some (.int odd), none] [sv s4, .lst (qs.map Row.pv)] _
  unfold wpSs
  dsimp only [wpS, wpT, wpE, wpEs, wpSs.eq_1]
  refine ⟨_, rfl, eq_int fun b hb => ite_b (fun h => ?_) fun h => ?_⟩
  · have ho : odd = 0 := by have := hb.mp h; lia
    unfold wpSs
    dsimp only [wpS, wpE, wpEs]
    refine ⟨_, rfl, .app, rfl, _, rfl, _, rfl, len_items (l := (ahead many).map Row.pv) rfl (by simp; (simp +arith [*])) ⟨_, rfl, _, rfl, len_items (l := qs.map Row.pv) rfl (by simp; (exact Nat.le_trans ‹_› (by decide))) (add_i (add_i ⟨by simp, 1, qs.map Row.pv, _, rfl, rfl, rfl, by simp; (exact Nat.le_trans ‹_› (by decide)), rfl, ?_⟩))⟩⟩
    unfold wpSs
    unfold wpSs
    dsimp only [wpS, wpT, wpE, wpEs]
    refine ⟨_, rfl, eq_int fun b2 hb2 => ite_f (by
      cases b2 with
      | false => rfl
      | true => have := hb2.mp rfl; lia) ?_⟩
    have := fin [.goto ((ahead many).length + qs.length + 1)] (.inr (.inl rfl))
    have e : (qs ++ [Row.goto ((ahead many).length + qs.length + 1)]).map Row.pv = qs.map Row.pv ++ [.tup [.str 14, .int ((((ahead many).map Row.pv).length : Nat) + ((qs.map Row.pv).length : Nat) + 1)]] := by simp [Row.pv, Row.word, Row.parts]
    rw [e] at this
    exact this
  · have ho : odd ≠ 0 := fun e => by have := hb.mpr (by (simp [*])); rw [h] at this; cases this
    unfold wpSs
    unfold wpSs
    dsimp only [wpS, wpT, wpE, wpEs]
    refine ⟨_, rfl, eq_int fun b2 hb2 => ite_b (fun h2 => ?_) fun h2 => ?_⟩
    · unfold wpSs
      dsimp only [wpS, wpE, wpEs]
      refine ⟨_, rfl, .app, rfl, ⟨by simp, 1, qs.map Row.pv, _, rfl, rfl, rfl, by simp; (exact Nat.le_trans ‹_› (by decide)), rfl, ?_⟩⟩
      have := fin [.static] (.inr (.inr rfl))
      have e : (qs ++ [Row.static]).map Row.pv = qs.map Row.pv ++ [.tup [.str 4, .int 4, .str 44]] := by simp [Row.pv, Row.word, Row.parts]
      rw [e] at this
      exact this
    · have := fin [] (.inl rfl)
      rw [List.append_nil] at this
      exact this

/- MPm -/


noncomputable def head6 : List Row := (List.range' 0 6).map fun at' => .const at' (3 * at')
/- an item of the main rows, at i of n -/
noncomputable def Row.item (n i : Nat) : Row → Prop
  | .invoke d m as => d < 6 ∧ m < 3 ∧ 1 ≤ as.length ∧ as.length ≤ 4 ∧ ∀ a ∈ as, a < 4
  | .unless a g => a < 4 ∧ 6 + i < g ∧ g ≤ 6 + n
  | .goto g => 6 + i < g ∧ g ≤ 6 + n
  | r => r.quiet 6
structure GenMain (rows : List Row) : Prop where
  eq : ∃ items r, rows = head6 ++ items ++ [.ret r] ∧ r < 6 ∧ items.length ≤ 3 ∧ ∀ (i : Nat) (it : Row), items[i]? = some it → it.item items.length i

theorem mul_cast (a b : Nat) : ((a : Int) * (b : Int)) = ((a * b : Nat) : Int) := by simp

theorem main_gen {n : Nat} {s : Sr} {Q : Post} (q : ∀ (rows : List Row) (s' : Sr), GenMain rows → Q (.lst (rows.map Row.pv)) [sv s']) : PhiN (n + 3) 242 [.obj 0] [sv s] Q := by
  refine phi_fn [some (.obj 0), none, none, none, none] rfl rfl rfl rfl ?_
  show wpSs _ ce242 _ _ _
  unfold ce242
  unfold wpSs
  unfold wpS
  dsimp only [wpE, wpEs, wpL, wpI]
  refine ⟨nofun, 0, 6, rfl, rfl, by decide, by decide, trivial, ?_⟩
  have e6 : (upto 0 ((6 : Int) - 0).toNat).map (fun i => [PV.int i]) = (List.range' 0 6).map fun at' : Nat => [PV.int (at' : Int)] := upto_ahead 6 0
  rw [e6]
  refine comp_mapA (fun at' : Nat => [.int (at' : Int)]) (fun at' : Nat => (Row.const at' (3 * at')).pv) trivial _ _ (fun a ha R hR => ?_) ?_
  · have ha' := List.mem_range'_1.mp ha
    refine ⟨_, rfl, _, rfl, mul_i (by omega) ⟨by simp, ?_⟩⟩
    have : ((3 : Int) * (a : Int)) = ((3 * a : Nat) : Int) := by rfl
    rw [this]; exact hR
  have eA : (List.range' 0 6).map (fun at' : Nat => (Row.const at' (3 * at')).pv) = head6.map Row.pv := by
    rw [head6, List.map_map]; rfl
  rw [List.nil_append, eA]
  refine ⟨_, rfl, _, rfl, digit_ok (by decide) (by decide) fun k s1 hk => add_i ⟨nofun, nofun, ?_⟩⟩
  have ek : ((1 : Int) + (k : Int)) = ((1 + k : Nat) : Int) := by rfl
  rw [ek]
  have hk3 : 1 + k ≤ 3 := by lia
  generalize 1 + k = many at hk3
  show wpSs _ _ [some (.obj 0), some (.obj 1), some (.int (many : Nat)), none, none] [sv s1, .lst (head6.map Row.pv)] _
  unfold wpSs
  unfold wpS
  dsimp only [wpE, wpI]
  refine ⟨_, rfl, 0, many, rfl, rfl, by decide, by (exact Nat.le_trans ‹_› (by decide)), trivial, ?_⟩
  have key : ∀ (left : Nat) (items : List Row) (s2 : Sr) (o3 o4 : Option PV) (Q' : SPost), items.length + left = many → (∀ (i : Nat) (it : Row), items[i]? = some it → it.item many i) →
      (∀ items s' o3 o4, items.length = many → (∀ (i : Nat) (it : Row), items[i]? = some it → it.item many i) → Q' .next [some (.obj 0), some (.obj 1), some (.int (many : Nat)), o3, o4] [sv s', .lst ((head6 ++ items).map Row.pv)]) →
      forGo (fun l μ Q => wpSs (PhiN (n + 2)) (.cons (.asg false 4 (.call (.glo 15) (.cons (.loc 0) (.cons (.cint 6) .nil))))
  (.cons (.ite (.cmp .Lt (.loc 4) (.cint 3)) (.cons (.expr (.meth (.loc 1) 0 (.cons (.tup (.cons (.cstr 23) (.cons (.call (.glo 15) (.cons (.loc 0) (.cons (.cint 6) .nil))) (.cons (.call (.glo 15) (.cons (.loc 0) (.cons (.cint 3) .nil))) (.cons (.call (.glo 29) (.cons (.fl (.comp (.call (.glo 15) (.cons (.loc 1) (.cons (.cint 4) .nil))) .none [0] (.range1 (.bin .Add (.cint 1) (.call (.glo 15) (.cons (.loc 0) (.cons (.cint 4) .nil))))) [Str.ofString "one", Str.ofString "source"] [(1, 0)])) .nil)) .nil))))) .nil)))
  .nil) (.cons (.ite (.cmp .Eq (.loc 4) (.cint 3)) (.cons (.expr (.meth (.loc 1) 0 (.cons (.tup (.cons (.cstr 15) (.cons (.call (.glo 15) (.cons (.loc 0) (.cons (.cint 4) .nil))) (.cons (.bin .Add (.bin .Add (.call (.glo 25) (.cons (.loc 1) .nil)) (.cint 1)) (.call (.glo 15) (.cons (.loc 0) (.cons (.bin .Sub (.loc 2) (.loc 3)) .nil)))) .nil)))) .nil)))
  .nil) (.cons (.ite (.cmp .Eq (.loc 4) (.cint 4)) (.cons (.expr (.meth (.loc 1) 0 (.cons (.tup (.cons (.cstr 14) (.cons (.bin .Add (.bin .Add (.call (.glo 25) (.cons (.loc 1) .nil)) (.cint 1)) (.call (.glo 15) (.cons (.loc 0) (.cons (.bin .Sub (.loc 2) (.loc 3)) .nil)))) .nil))) .nil)))
  .nil) (.cons (.expr (.meth (.loc 1) 0 (.cons (.call (.glo 16) (.cons (.loc 0) (.cons (.cint 6) .nil))) .nil)))
  .nil))
  .nil))
  .nil))
  .nil)) l μ Q) [3] (fun _ => True) ((upto (items.length : Nat) left).map fun i => [.int i]) [some (.obj 0), some (.obj 1), some (.int (many : Nat)), o3, o4] [sv s2, .lst ((head6 ++ items).map Row.pv)] Q' := by
    intro left
    induction left with
    | zero =>
      intro items s2 o3 o4 Q' hl hi q
      exact q items s2 o3 o4 (by assumption) hi
    | succ left ih =>
      intro items s2 o3 o4 Q' hl hi q
      have next : ∀ (it : Row) (s3 : Sr) (o4 : Option PV), it.item many items.length → forGo _ [3] (fun _ => True) ((upto ((items.length : Nat) + 1) left).map fun i => [PV.int i]) [some (.obj 0), some (.obj 1), some (.int (many : Nat)), some (.int (items.length : Nat)), o4] [sv s3, .lst ((head6 ++ items).map Row.pv ++ [it.pv])] Q' := fun it s3 o4 hit => by
        have := ih (items ++ [it]) s3 (some (.int (items.length : Nat))) o4 Q' (by simp; lia) (fun i it' e => by
          by_cases h : i < items.length
          · rw [List.getElem?_append_left h] at e; exact hi i it' e
          · have h2 : i = items.length := by
              have := (List.getElem?_eq_some_iff.mp e).1
              simp at this; lia
            subst h2
            rw [List.getElem?_concat_length] at e; cases e; exact hit) q
        have e : (head6 ++ (items ++ [it])).map Row.pv = (head6 ++ items).map Row.pv ++ [it.pv] := by simp
        rw [e] at this
        have e2 : (((items ++ [it]).length : Nat) : Int) = ((items.length : Nat) : Int) + 1 := by simp
        rw [e2] at this
        exact this
      have hlen : ((head6 ++ items).map Row.pv).length = 6 + items.length := by simp [head6]
      simp only [upto, List.map_cons]
      unfold forGo
      show wpSs _ _ [some (.obj 0), some (.obj 1), some (.int (many : Nat)), some (.int (items.length : Nat)), o4] _ _
      unfold wpSs
      dsimp only [wpS, wpE, wpEs]
      refine ⟨_, rfl, _, rfl, digit_ok (by decide) (by decide) fun way s3 hway => ⟨nofun, ?_⟩⟩
      show wpSs _ _ [some (.obj 0), some (.obj 1), some (.int (many : Nat)), some (.int (items.length : Nat)), some (.int way)] _ _
      have gl : ∀ d : Nat, ((((head6 ++ items).map Row.pv).length : Nat) : Int) + 1 + (d : Int) = ((6 + items.length + 1 + d : Nat) : Int) := fun d => by rw [hlen]; simp
      dsimp only [wpSs, wpS, wpT, wpE, wpEs, wpL, wpI]
      refine ⟨_, rfl, _, _, rfl, rfl, ite_dec (fun h => ?_) fun h => ?_⟩
      · refine ⟨_, rfl, .app, rfl, _, rfl, _, rfl, digit_ok (by decide) (by decide) fun d s4 hd => ⟨_, rfl, _, rfl, digit_ok (by decide) (by decide) fun m s5 hm => ⟨_, rfl, fun p hp => ?_, _, rfl, _, rfl, digit_ok (by decide) (by decide) fun c s6 hc => add_i ⟨0, _, rfl, rfl, by decide, by omega, trivial, ?_⟩⟩⟩⟩
        · simp only [List.mem_singleton] at hp; subst hp; exact ⟨_, rfl⟩
        refine digits_comp (n := n + 1) (upto 0 (1 + (c : Int) - 0).toNat) [] s6 fun as s7 has hal => ?_
        have hal2 : as.length = 1 + c := by rw [hal]; simp [Mine.Internal.upto_len]; rfl
        rw [List.nil_append]
        refine ⟨_, intsL as, rfl, rfl, by simp [intsL]; lia, by simp, 1, (head6 ++ items).map Row.pv, _, rfl, rfl, rfl, by lia, rfl, trivial, ?_⟩
        exact next (.invoke d m as) s7 (some (.int way)) ⟨by lia, by lia, by lia, by omega, has⟩
      refine ⟨_, rfl, eq_int fun b hb => ite_b (fun h => ?_) fun h => ?_⟩
      · refine ⟨_, rfl, .app, rfl, _, rfl, _, rfl, digit_ok (by decide) (by decide) fun a s4 ha => ⟨_, rfl, _, rfl, len_items (l := (head6 ++ items).map Row.pv) rfl (by lia) (add_i ⟨_, rfl, _, rfl, _, rfl, _, rfl, sub_i (digit_ok (by lia) (by lia) fun d s5 hd => add_i ⟨by simp, 1, (head6 ++ items).map Row.pv, _, rfl, rfl, rfl, by lia, rfl, trivial, ?_⟩)⟩)⟩⟩
        have := next (.unless a (6 + items.length + 1 + d)) s5 (some (.int way)) ⟨by lia, by (exact Nat.le_add_right _ _), by omega⟩
        simp only [Row.pv, Row.word, Row.parts] at this
        rw [← gl] at this
        exact this
      refine ⟨_, rfl, eq_int fun b2 hb2 => ite_b (fun h2 => ?_) fun h2 => ?_⟩
      · refine ⟨_, rfl, .app, rfl, _, rfl, _, rfl, len_items (l := (head6 ++ items).map Row.pv) rfl (by lia) (add_i ⟨_, rfl, _, rfl, _, rfl, _, rfl, sub_i (digit_ok (by lia) (by lia) fun d s5 hd => add_i ⟨by simp, 1, (head6 ++ items).map Row.pv, _, rfl, rfl, rfl, by lia, rfl, trivial, ?_⟩)⟩)⟩
        have := next (.goto (6 + items.length + 1 + d)) s5 (some (.int way)) ⟨by (exact Nat.le_add_right _ _), by lia⟩
        simp only [Row.pv, Row.word, Row.parts] at this
        rw [← gl] at this
        exact this
      · refine ⟨_, rfl, .app, rfl, _, rfl, _, rfl, quiet_ok (m := 6) (by decide) (by decide) fun r s4 hr => ⟨1, (head6 ++ items).map Row.pv, _, rfl, rfl, rfl, by lia, rfl, trivial, ?_⟩⟩
        exact next r s4 (some (.int way)) (by cases r <;> first | exact hr | exact hr.elim)
  have el : ((many : Int) - 0).toNat = many := by rfl
  rw [el]
  have := key many [] s1 none none
  rw [List.append_nil] at this
  refine this _ (by simp) (fun i it e => by simp at e) fun items s2 o3 o4 hil hit => ?_
  show wpSs _ _ [some (.obj 0), some (.obj 1), some (.int (many : Nat)), o3, o4] _ _
  dsimp only [wpSs, wpS, wpE, wpEs, wpL]
  refine ⟨_, rfl, _, rfl, _, rfl, digit_ok (by decide) (by decide) fun r s3 hr => ⟨by simp, by simp, .inr ⟨(head6 ++ items).map Row.pv, [(Row.ret r).pv], rfl, rfl, by simp [head6]; lia, ?_⟩⟩⟩
  have e : (head6 ++ items).map Row.pv ++ [(Row.ret r).pv] = (head6 ++ items ++ [Row.ret r]).map Row.pv := by simp
  rw [e]
  exact end_ch (rows_below _ _) (.chg rfl (.nil _)) (q _ s3 ⟨items, r, rfl, by lia, by (exact Nat.le_trans (Nat.le_of_eq ‹_›) ‹_›), by rw [hil]; exact hit⟩)

/- MPn -/


noncomputable def blkLen (ms : MS) : Row → Nat
  | .invoke _ m as => if kept (ms.at m) as = true then 1 else as.length + (ms.at m).rows.length
  | _ => 1
noncomputable def topsL (ms : MS) : List Row → Nat → List Nat
  | [], t => [t]
  | r :: rs, t => t :: topsL ms rs (t + blkLen ms r)

theorem add_lists {a b : PV} {l m : List PV} {μ : List AO} {Q : Post} (ha : listOf a μ = some l) (hb : listOf b μ = some m) (hz : l.length + m.length ≤ 1000000) (q : Q (.lst (l ++ m)) μ) : binP .Add a b μ Q := .inr ⟨l, m, ha, hb, hz, q⟩

theorem tops_ok {n : Nat} {R : List Row} {ms : MS} {μ : List AO} {Q : Post} (hm : OkMS ms) (hr : ∀ r ∈ R, r.okInv) (hl : R.length ≤ 100) (q : Q (.lst (intsL (topsL ms R 0))) μ) : PhiN (n + 2) 266 [.lst (R.map Row.pv), ms.pv] μ Q := by
  refine phi_fn [some (.lst (R.map Row.pv)), some ms.pv, none, none, none, none] rfl rfl rfl rfl ?_
  show wpSs _ ce266 _ _ _
  unfold ce266
  unfold wpSs
  refine ⟨by simp, nofun, nofun, ?_⟩
  show wpSs _ _ [some (.lst (R.map Row.pv)), some ms.pv, some (.obj μ.length), some (.int 0), none, none] (μ ++ [.lst []]) _
  unfold wpSs
  unfold wpS
  refine ⟨_, rfl, by simp; (exact Nat.le_trans ‹_› (by decide)), trivial, ?_⟩
  rw [List.map_map]
  have key : ∀ (todo : List Row) (done : List Nat) (t : Nat) (o4 o5 : Option PV) (Q' : SPost), (∀ r ∈ todo, r.okInv) → done.length + todo.length ≤ 1000 →
      (∀ ds t' o4 o5, ds ++ [t'] = done ++ topsL ms todo t → Q' .next [some (.lst (R.map Row.pv)), some ms.pv, some (.obj μ.length), some (.int (t' : Nat)), o4, o5] (μ ++ [.lst (intsL ds)])) →
      forGo (fun l μ Q => wpSs (PhiN (n + 1)) (.cons (.expr (.meth (.loc 2) 0 (.cons (.loc 3) .nil)))
  (.cons (.asg false 5 (.bop true (.cons (.cmp .Eq (.sub (.loc 4) (.cint 0)) (.cstr 23)) (.cons (.not (.call (.glo 21) (.cons (.loc 4) (.cons (.loc 1) .nil)))) .nil))))
  (.cons (.asg false 3 (.bin .Add (.loc 3) (.ite (.loc 5) (.bin .Add (.call (.glo 25) (.cons (.sub (.loc 4) (.cint 3)) .nil)) (.call (.glo 25) (.cons (.attr (.attr (.sub (.loc 1) (.sub (.loc 4) (.cint 2))) 7) 3) .nil))) (.cint 1))))
  .nil))) l μ Q) [4] (fun _ => True) (todo.map fun r => [r.pv]) [some (.lst (R.map Row.pv)), some ms.pv, some (.obj μ.length), some (.int (t : Nat)), o4, o5] (μ ++ [.lst (intsL done)]) Q' := by
    intro todo
    induction todo with
    | nil =>
      intro done t o4 o5 Q' _ _ q
      exact q done t o4 o5 rfl
    | cons r todo ih =>
      intro done t o4 o5 Q' hr hlen q
      have hlen' : done.length + (todo.length + 1) ≤ 1000 := hlen
      have next : ∀ (t' : Nat) (o5 : Option PV), t' = t + blkLen ms r → forGo _ [4] (fun _ => True) (todo.map fun r => [r.pv]) [some (.lst (R.map Row.pv)), some ms.pv, some (.obj μ.length), some (.int (t' : Nat)), some r.pv, o5] (μ ++ [.lst (intsL done ++ [.int t])]) Q' := fun t' o5 e => by
        have := ih (done ++ [t]) t' (some r.pv) o5 Q' (fun r h => hr r (.tail _ h)) (by simp; lia) (fun ds t'' o4 o5 h => q ds t'' o4 o5 (by rw [h, e]; simp [topsL]))
        have e2 : intsL (done ++ [t]) = intsL done ++ [.int t] := by simp [intsL]
        rw [e2] at this
        exact this
      rw [List.map_cons]
      unfold forGo
      show wpSs _ _ [some (.lst (R.map Row.pv)), some ms.pv, some (.obj μ.length), some (.int (t : Nat)), some r.pv, o5] _ _
      have hp := r.parts_le
      refine ⟨_, rfl, .app, meth_app get_last, _, rfl, app_last (by simp [intsL]; lia) ⟨rfl, _, rfl, subP_nat (i := 0) (v := .str r.word) rfl (by simp; (exact Nat.le_trans ‹_› (by decide))) rfl (eq_str r.word_lt (lt49 (by decide)) fun b hb => ⟨b, rfl, ?_⟩)⟩⟩
      by_cases hinv : ∃ d m as, r = .invoke d m as
      · obtain ⟨d, m, as, rfl⟩ := hinv
        have : b = true := hb.mpr rfl
        subst this
        have h3 : m < 3 := (hr _ (.head _)).1
        have has : as.length ≤ 10 := (hr _ (.head _)).2
        have hMl := (hm.at' m).len
        refine ite_p rfl ⟨_, rfl, _, rfl, _, rfl, kept_ok hm h3 has ⟨_, rfl, nofun, _, rfl, _, rfl, _, rfl, ?_⟩⟩
        cases hk : kept (ms.at m) as with
        | true =>
          refine ite_f rfl (add_i ⟨nofun, trivial, ?_⟩)
          have := next (t + 1) (some (.bool false)) (by simp [blkLen, hk])
          rw [Int.natCast_add] at this
          exact this
        | false =>
          refine ite_t rfl ⟨_, rfl, _, rfl, subP_nat (i := 3) (v := natsV as) rfl (by simp [Row.parts]) rfl (len_items (l := intsL as) rfl (by simp [intsL]; (exact Nat.le_trans ‹_› (by decide))) ⟨_, rfl, _, rfl, _, rfl, subP_nat (i := 2) (v := .int m) rfl (by simp [Row.parts]) rfl (subP_nat (i := m) (l := [ms.a.pv 0, ms.b.pv 1, ms.c.pv 2]) rfl (by simp) (ms.get h3) (attr_i (v := (ms.at m).code) (by decide) (by decide) rfl rfl (attr_i (v := .tup ((ms.at m).rows.map Row.pv)) (by decide) (by decide) rfl rfl (len_items (l := (ms.at m).rows.map Row.pv) rfl (by simp [Meth.rows]; (exact Nat.le_trans ‹_› (by decide))) (add_i (add_i ⟨nofun, trivial, ?_⟩))))))⟩)⟩
          have := next (t + (as.length + (ms.at m).rows.length)) (some (.bool true)) (by simp [blkLen, hk])
          have e : ((t : Int) + ((((intsL as).length : Nat) : Int) + ((((ms.at m).rows.map Row.pv).length : Nat) : Int))) = ((t + (as.length + (ms.at m).rows.length) : Nat) : Int) := by simp [intsL]
          rw [← e] at this
          exact this
      · have hw : r.word ≠ 23 := Row.word_ne fun d m as e => hinv ⟨d, m, as, e⟩
        have : b = false := by cases b with
          | false => rfl
          | true => exact absurd (hb.mp rfl) hw
        subst this
        refine ite_n (by decide) ⟨nofun, _, rfl, _, rfl, _, rfl, ite_f rfl (add_i ⟨nofun, trivial, ?_⟩)⟩
        have := next (t + 1) (some (.bool false)) (by cases r <;> first | rfl | (exact absurd ⟨_, _, _, rfl⟩ hinv))
        rw [Int.natCast_add] at this
        exact this
  refine key R [] 0 none none _ hr (by simp; (exact Nat.le_trans ‹_› (by decide))) fun ds t' o4 o5 he => ?_
  rw [List.nil_append] at he
  show wpSs _ _ [some (.lst (R.map Row.pv)), some ms.pv, some (.obj μ.length), some (.int (t' : Nat)), o4, o5] _ _
  have hdl : ds.length ≤ 1000 := by
    have h1 := congrArg List.length he
    have h2 : ∀ (R : List Row) (t : Nat), (topsL ms R t).length = R.length + 1 := fun R => by
      induction R with
      | nil => intro t; rfl
      | cons r R ih => intro t; simp [topsL, ih]
    rw [h2] at h1; simp at h1; lia
  refine ⟨_, rfl, _, rfl, by simp, add_lists (l := intsL ds) (m := [.int (t' : Nat)]) (by simp [listOf]) rfl (by simp [intsL]; (exact Nat.le_trans ‹_› (by decide))) ?_⟩
  have e : intsL ds ++ [.int (t' : Nat)] = intsL (topsL ms R 0) := by rw [← he]; simp [intsL]
  rw [e]
  exact end_app (intsL_below _ _) q

noncomputable def Row.regs : Row → List Nat
  | .const d _ => [d]
  | .move d s => [d, s]
  | .call d f as => d :: f :: as
  | .goto _ => []
  | .static => [4]
  | .invoke d _ as => d :: as
  | .unless r _ => [r]
  | .ret r => [r]

theorem in_tup {c : Nat} {ws : List Nat} {Q : Bool → Prop} (hc : c < sTab.length) (hw : ∀ w ∈ ws, w < sTab.length) (q : Q (ws.contains c)) : cmpP .In (.str c) (.tup (ws.map .str)) Q := by
  refine ⟨_, rfl, data_str hc, fun z hz => ?_, fun b hb => ?_⟩
  · obtain ⟨w, h, rfl⟩ := List.mem_map.mp hz
    exact data_str (hw w h)
  · have : b = ws.contains c := by
      rw [Bool.eq_iff_iff, hb]; simp
    rw [this]; exact q

theorem regs_ok {n : Nat} {r : Row} {μ : List AO} {Q : Post} (hr : ∀ (d f : Nat) (as : List Nat), r = .call d f as ∨ r = .invoke d f as → as.length ≤ 10) (q : Q (.lst (intsL r.regs)) μ) : PhiN (n + 1) 273 [r.pv] μ Q := by
  refine phi_fn [some r.pv] rfl rfl rfl rfl ?_
  show wpSs _ ce273 _ _ _
  have hp := r.parts_le
  have sub0 : ∀ {Q : Post}, Q (.str r.word) μ → subP r.pv (.int 0) μ Q := fun h => subP_nat (i := 0) (v := .str r.word) rfl (by simp; (exact Nat.le_trans ‹_› (by decide))) rfl h
  have eqw : ∀ (c : Nat) {Q : Bool → Prop}, c < 49 → Q (decide (r.word = c)) → cmpP .Eq (.str r.word) (.str c) Q := fun c Q hc h => eq_str r.word_lt (lt49 hc) fun b hb => by
    have : b = decide (r.word = c) := by rw [Bool.eq_iff_iff, hb]; simp
    rw [this]; exact h
  have fin : ∀ {μ : List AO} {Q : Post}, Q (.lst (intsL r.regs)) μ → EndQ μ Q (.lst (intsL r.regs)) μ := fun h => end_same (intsL_below _ _) h
  unfold ce273
  refine ⟨_, rfl, sub0 ⟨by simp, in_tup (ws := [0, 4, 15, 16]) r.word_lt (fun w hw => ?_) ?_⟩⟩
  · simp only [List.mem_cons, List.not_mem_nil, or_false] at hw
    exact lt49 (by lia)
  cases r with
  | const d k => exact ite_t rfl ⟨_, rfl, subP_nat (i := 1) (v := .int d) rfl (by simp [Row.parts]) rfl ⟨by simp, fin q⟩⟩
  | static => exact ite_t rfl ⟨_, rfl, subP_nat (i := 1) (v := .int 4) rfl (by simp [Row.parts]) rfl ⟨by simp, fin q⟩⟩
  | «unless» a g => exact ite_t rfl ⟨_, rfl, subP_nat (i := 1) (v := .int a) rfl (by simp [Row.parts]) rfl ⟨by simp, fin q⟩⟩
  | ret a => exact ite_t rfl ⟨_, rfl, subP_nat (i := 1) (v := .int a) rfl (by simp [Row.parts]) rfl ⟨by simp, fin q⟩⟩
  | goto g => exact ite_f rfl ⟨_, rfl, sub0 (eqw 14 (by decide) (ite_t rfl ⟨by simp, fin q⟩))⟩
  | move d s => exact ite_f rfl ⟨_, rfl, sub0 (eqw 14 (by decide) (ite_f rfl ⟨_, rfl, sub0 (eqw 1 (by decide) (ite_t rfl ⟨_, rfl, subP_nat (i := 1) (v := .int d) rfl (by simp [Row.parts]) rfl ⟨_, rfl, subP_nat (i := 2) (v := .int s) rfl (by simp [Row.parts]) rfl ⟨by simp, fin q⟩⟩⟩))⟩))⟩
  | call d f as =>
    have has := hr d f as (.inl rfl)
    refine ite_f rfl ⟨_, rfl, sub0 (eqw 14 (by decide) (ite_f rfl ⟨_, rfl, sub0 (eqw 1 (by decide) (ite_f rfl ⟨_, rfl, subP_nat (i := 1) (v := .int d) rfl (by simp [Row.parts]) rfl ⟨by simp, _, rfl, sub0 (eqw 6 (by decide) (ite_t rfl ⟨_, rfl, subP_nat (i := 2) (v := .int f) rfl (by simp [Row.parts]) rfl ⟨by simp, ?_⟩⟩))⟩⟩))⟩))⟩
    refine add_lists (l := [.int d]) (m := [.int f]) rfl rfl (by simp) ⟨_, rfl, _, rfl, subP_nat (i := 3) (v := natsV as) rfl (by simp [Row.parts]) rfl ⟨_, intsL as, rfl, rfl, by simp [intsL]; (exact Nat.le_trans ‹_› (by decide)), ?_⟩⟩
    exact add_lists (l := [.int d, .int f]) (m := intsL as) rfl rfl (by simp [intsL]; lia) (fin q)
  | invoke d m as =>
    have has := hr d m as (.inr rfl)
    refine ite_f rfl ⟨_, rfl, sub0 (eqw 14 (by decide) (ite_f rfl ⟨_, rfl, sub0 (eqw 1 (by decide) (ite_f rfl ⟨_, rfl, subP_nat (i := 1) (v := .int d) rfl (by simp [Row.parts]) rfl ⟨by simp, _, rfl, sub0 (eqw 6 (by decide) (ite_f rfl ⟨by simp, ?_⟩))⟩⟩))⟩))⟩
    refine add_lists (l := [.int d]) (m := []) rfl rfl (by simp) ⟨_, rfl, _, rfl, subP_nat (i := 3) (v := natsV as) rfl (by simp [Row.parts]) rfl ⟨_, intsL as, rfl, rfl, by simp [intsL]; (exact Nat.le_trans ‹_› (by decide)), ?_⟩⟩
    exact add_lists (l := [.int d]) (m := intsL as) rfl rfl (by simp [intsL]; lia) (fin q)

/- MPo -/


inductive Tr where
  | nums (h : Int) (t : List Int)
  | meth (m len : Nat)
  | gap
noncomputable def Tr.pv : Tr → PV
  | .nums h t => .lst ((h :: t).map .int)
  | .meth m len => .lst [.str 22, .int m, .int len]
  | .gap => .lst []
noncomputable def pvR : Option Int → PV
  | none => .none
  | some i => .int i

inductive Reads' (regs : List (Option Int)) : List Nat → List Int → Prop
  | nil : Reads' regs [] []
  | cons {a as x xs} : regs[a]? = some (some x) → Reads' regs as xs → Reads' regs (a :: as) (x :: xs)
theorem Reads'.len {regs : List (Option Int)} {as : List Nat} {xs : List Int} (h : Reads' regs as xs) : xs.length = as.length := by
  induction h with
  | nil => rfl
  | cons _ _ ih => simp [ih]
noncomputable def callV (xs : List Int) : Int := (xs.map fun x => x * 31 + 17).sum % 9973

noncomputable abbrev BRel := Nat → List Int → Int → List Tr → Prop
inductive Ex (ms : MS) (B : BRel) (rows : List Row) : Nat → List (Option Int) → Int → List Tr → Prop
  | ret {t regs r v} : rows[t]? = some (.ret r) → regs[r]? = some (some v) → Ex ms B rows t regs v []
  | const {t regs d k v tr} : rows[t]? = some (.const d k) → d < regs.length → Ex ms B rows (t + 1) (regs.set d (some (k : Nat))) v tr → Ex ms B rows t regs v tr
  | move {t regs d s x v tr} : rows[t]? = some (.move d s) → regs[s]? = some x → d < regs.length → Ex ms B rows (t + 1) (regs.set d x) v tr → Ex ms B rows t regs v tr
  | static {t regs v tr} : rows[t]? = some .static → 4 < regs.length → Ex ms B rows (t + 1) (regs.set 4 (some 5)) v tr → Ex ms B rows t regs v tr
  | goto {t regs g v tr} : rows[t]? = some (.goto g) → Ex ms B rows g regs v tr → Ex ms B rows t regs v tr
  | unless {t regs r g x v tr} : rows[t]? = some (.unless r g) → regs[r]? = some (some x) → Ex ms B rows (if x % 2 = 1 then g else t + 1) regs v tr → Ex ms B rows t regs v tr
  | call {t regs d f as x xs v tr} : rows[t]? = some (.call d f as) → as.length ≤ 10 → regs[f]? = some (some x) → Reads' regs as xs → d < regs.length → Ex ms B rows (t + 1) (regs.set d (some (callV (x :: xs)))) v tr → Ex ms B rows t regs v (.nums x xs :: tr)
  | invoke {t regs d m as xs y tr1 v tr} : rows[t]? = some (.invoke d m as) → m < 3 → as.length ≤ 10 → Reads' regs as xs → d < regs.length → B m xs y tr1 → Ex ms B rows (t + 1) (regs.set d (some y)) v tr →
      Ex ms B rows t regs v ((if kept (ms.at m) as = true then .meth m xs.length else .gap) :: (tr1 ++ tr))

theorem get_K {μ : List AO} {K : Nat} {o : AO} (h : μ.length = K) : (μ ++ [o])[K]? = some o := by subst h; exact get_last
theorem set_K {μ : List AO} {K : Nat} {o o' : AO} (h : μ.length = K) : (μ ++ [o]).set K o' = μ ++ [o'] := by subst h; exact set_last

theorem reads_comp {Φ : Phi} {K : Nat} {regs : List (Option Int)} {μ : List AO} {Q : List PV → List AO → Prop} (hK : μ[K]? = some (.lst (regs.map pvR))) (hl : regs.length ≤ 1000) : ∀ {as : List Nat} {xs : List Int}, Reads' regs as xs → ∀ (acc : List PV), Q (acc ++ xs.map .int) μ →
    compGo (fun l μ Q => wpO Φ .none l μ Q) (fun l μ Q => wpE Φ (.sub (.loc 1) (.loc 0)) l μ Q) [0] [none, some (.obj K)] (fun _ => True) (as.map fun a => [.int (a : Nat)]) acc μ Q := by
  intro as xs h
  induction h with
  | nil => intro acc q; simpa [compGo] using q
  | @cons a as x xs e _ ih =>
    intro acc q
    rw [List.map_cons]
    unfold compGo
    unfold wpO
    refine ite_t rfl ?_
    show wpE _ _ [some (.int (a : Nat)), some (.obj K)] _ _
    dsimp only [wpE]
    refine ⟨_, rfl, _, rfl, subP_nat (l := regs.map pvR) (v := .int x) ?_ (by simp; (exact Nat.le_trans ‹_› (by decide))) (by simp [e, pvR]) ⟨trivial, ih _ (by simpa using q)⟩⟩
    simp [itemsOf, listOf, hK]

theorem intsOf_map (is : List Int) : intsOf (is.map PV.int) = some is := by
  induction is with
  | nil => rfl
  | cons i is ih => simp [intsOf, ih]

noncomputable def ce247b : CSs := (.cons (.asg false 6 (.sub (.attr (.loc 0) 3) (.loc 5)))
  (.cons (.asg false 5 (.bin .Add (.loc 5) (.cint 1)))
  (.cons (.ite (.cmp .Eq (.sub (.loc 6) (.cint 0)) (.cstr 0)) (.cons (.setI (.loc 4) (.sub (.loc 6) (.cint 1)) (.sub (.loc 6) (.cint 2)))
  .nil) (.cons (.ite (.cmp .Eq (.sub (.loc 6) (.cint 0)) (.cstr 1)) (.cons (.setI (.loc 4) (.sub (.loc 6) (.cint 1)) (.sub (.loc 4) (.sub (.loc 6) (.cint 2))))
  .nil) (.cons (.ite (.cmp .Eq (.sub (.loc 6) (.cint 0)) (.cstr 14)) (.cons (.asg false 5 (.sub (.loc 6) (.cint 1)))
  .nil) (.cons (.ite (.cmp .Eq (.sub (.loc 6) (.cint 0)) (.cstr 15)) (.cons (.asg false 5 (.ite (.cmp .Eq (.bin .Mod (.sub (.loc 4) (.sub (.loc 6) (.cint 1))) (.cint 2)) (.cint 1)) (.sub (.loc 6) (.cint 2)) (.loc 5)))
  .nil) (.cons (.ite (.cmp .Eq (.sub (.loc 6) (.cint 0)) (.cstr 6)) (.cons (.asg false 7 (.bin .Add (.fl (.disp (.cons (.sub (.loc 4) (.sub (.loc 6) (.cint 2))) .nil))) (.fl (.comp (.sub (.loc 1) (.loc 0)) .none [0] (.items (.sub (.loc 6) (.cint 3))) [Str.ofString "one", Str.ofString "registers"] [(1, 4)]))))
  (.cons (.expr (.meth (.loc 3) 0 (.cons (.loc 7) .nil)))
  (.cons (.setI (.loc 4) (.sub (.loc 6) (.cint 1)) (.bin .Mod (.call (.glo 27) (.cons (.fl (.comp (.bin .Add (.bin .Mult (.loc 0) (.cint 31)) (.cint 17)) .none [0] (.items (.loc 7)) [Str.ofString "one"] [])) .nil)) (.cint 9973)))
  .nil))) (.cons (.ite (.cmp .Eq (.sub (.loc 6) (.cint 0)) (.cstr 4)) (.cons (.setI (.loc 4) (.sub (.loc 6) (.cint 1)) (.cint 5))
  .nil) (.cons (.asg false 8 (.fl (.comp (.sub (.loc 1) (.loc 0)) .none [0] (.items (.sub (.loc 6) (.cint 3))) [Str.ofString "one", Str.ofString "registers"] [(1, 4)])))
  (.cons (.expr (.meth (.loc 3) 0 (.cons (.ite (.call (.glo 21) (.cons (.loc 6) (.cons (.loc 2) .nil))) (.fl (.disp (.cons (.cstr 22) (.cons (.sub (.loc 6) (.cint 2)) (.cons (.call (.glo 25) (.cons (.loc 8) .nil)) .nil))))) (.fl (.disp .nil))) .nil)))
  (.cons (.setI (.loc 4) (.sub (.loc 6) (.cint 1)) (.call (.glo 20) (.cons (.sub (.loc 2) (.sub (.loc 6) (.cint 2))) (.cons (.loc 8) (.cons (.loc 2) (.cons (.loc 3) .nil))))))
  .nil))))
  .nil))
  .nil))
  .nil))
  .nil))
  .nil))
  .nil)))
noncomputable def ce247t : CE := .cmp .NotEq (.sub (.sub (.attr (.loc 0) 3) (.loc 5)) (.cint 0)) (.cstr 16)
noncomputable def runL (code vals ms : PV) (c K t : Nat) (o6 o7 o8 : Option PV) : Lc := [some code, some vals, some ms, some (.obj c), some (.obj K), some (.int (t : Nat)), o6, o7, o8]

theorem ce247_eq : ce247 = .cons (.asg2 true false 4 5 (.ml (.add (.call (.glo 28) (.cons (.loc 1) .nil)) (.bin .Mult (.fl (.disp (.cons .cnone .nil))) (.bin .Sub (.attr (.loc 0) 2) (.call (.glo 25) (.cons (.loc 1) .nil)))))) (.cint 0))
  (.cons (.whil ce247t ce247b) (.cons (.ret (.sub (.loc 4) (.sub (.sub (.attr (.loc 0) 3) (.loc 5)) (.cint 1)))) .nil)) := rfl

theorem eq_word {r : Row} {c : Nat} {Q : Bool → Prop} (hc : c < 49) (q : Q (decide (r.word = c))) : cmpP .Eq (.str r.word) (.str c) Q := eq_str r.word_lt (lt49 hc) fun b hb => by
  have : b = decide (r.word = c) := by rw [Bool.eq_iff_iff, hb]; simp
  rw [this]; exact q
theorem ne_word {r : Row} {c : Nat} {Q : Bool → Prop} (hc : c < 49) (q : Q (!decide (r.word = c))) : cmpP .NotEq (.str r.word) (.str c) Q := ne_str r.word_lt (lt49 hc) fun b hb => by
  have : b = !decide (r.word = c) := by rw [Bool.eq_iff_iff, hb]; simp
  rw [this]; exact q
theorem sub_word {r : Row} {μ : List AO} {Q : Post} (q : Q (.str r.word) μ) : subP r.pv (.int 0) μ Q := subP_nat (i := 0) (v := .str r.word) rfl (by have := r.parts_le; simp; (exact Nat.le_trans ‹_› (by decide))) rfl q
theorem sub_part {r : Row} {i : Nat} {p : PV} {μ : List AO} {Q : Post} (h : r.parts[i]? = some p) (q : Q p μ) : subP r.pv (.int ((i + 1 : Nat) : Int)) μ Q :=
  subP_nat (i := i + 1) (v := p) rfl (by have := r.parts_le; simp; (exact Nat.le_trans ‹_› (by decide))) (by simpa using h) q

/- MPp -/


section
variable {n nm ar sl c K : Nat} {rows : List Row} {st : List PV} {vals : PV} {ms : MS} {μ : List AO} {R : SPost} {o6 o7 o8 : Option PV} {t : Nat} {regs : List (Option Int)}

/- the turn's choice -/
noncomputable def ce247c : CSs := match ce247b with
  | .cons _ (.cons _ s) => s
  | _ => .nil
theorem turn_pre {Φ : Phi} {r : Row} (hl : rows.length ≤ 1000) (hr : rows[t]? = some r) (q : wpSs Φ ce247c (runL (codeV nm ar sl rows st) vals ms.pv c K (t + 1) (some r.pv) o7 o8) μ R) :
    wpSs Φ ce247b (runL (codeV nm ar sl rows st) vals ms.pv c K t o6 o7 o8) μ R := by
  unfold ce247b
  unfold wpSs
  dsimp only [wpS, wpE]
  refine ⟨_, rfl, attr_i (v := .tup (rows.map Row.pv)) (by decide) (by decide) rfl rfl ⟨_, rfl, subP_nat (l := rows.map Row.pv) (v := r.pv) rfl (by simp; (exact Nat.le_trans ‹_› (by decide))) (by simp [hr]) ⟨nofun, ?_⟩⟩⟩
  unfold wpSs
  dsimp only [wpS, wpE]
  exact ⟨_, rfl, add_i ⟨nofun, q⟩⟩

theorem turn_const {Φ : Phi} {d k : Nat} (hK : μ.length = K) (hrl : regs.length ≤ 1000) (hd : d < regs.length) (q : R .next (runL (codeV nm ar sl rows st) vals ms.pv c K t (some (Row.const d k).pv) o7 o8) (μ ++ [.lst ((regs.set d (some (k : Nat))).map pvR)])) :
    wpSs Φ ce247c (runL (codeV nm ar sl rows st) vals ms.pv c K t (some (Row.const d k).pv) o7 o8) (μ ++ [.lst (regs.map pvR)]) R := by
  unfold ce247c ce247b
  dsimp only
  unfold wpSs
  unfold wpS
  dsimp only [wpT, wpE]
  refine ⟨_, rfl, sub_word (eq_word (by decide) (ite_t rfl ?_))⟩
  dsimp only [wpSs, wpS, wpE]
  refine ⟨_, rfl, sub_part (i := 1) (p := .int k) rfl ⟨_, rfl, _, rfl, sub_part (i := 0) (p := .int d) rfl (setIP_nat (get_K hK) (by simpa using hd) (by simp; (exact Nat.le_trans ‹_› (by decide))) ?_)⟩⟩
  rw [set_K hK]
  have e : (regs.map pvR).set d (.int k) = (regs.set d (some (k : Nat))).map pvR := by rw [List.map_set]; rfl
  rw [e]
  exact q

theorem turn_move {Φ : Phi} {d s : Nat} {x : Option Int} (hK : μ.length = K) (hrl : regs.length ≤ 1000) (hs : regs[s]? = some x) (hd : d < regs.length) (q : R .next (runL (codeV nm ar sl rows st) vals ms.pv c K t (some (Row.move d s).pv) o7 o8) (μ ++ [.lst ((regs.set d x).map pvR)])) :
    wpSs Φ ce247c (runL (codeV nm ar sl rows st) vals ms.pv c K t (some (Row.move d s).pv) o7 o8) (μ ++ [.lst (regs.map pvR)]) R := by
  unfold ce247c ce247b
  dsimp only
  unfold wpSs
  unfold wpS
  dsimp only [wpT, wpE]
  refine ⟨_, rfl, sub_word (eq_word (by decide) (ite_f rfl ?_))⟩
  unfold wpSs
  unfold wpS
  dsimp only [wpT, wpE]
  refine ⟨_, rfl, sub_word (eq_word (by decide) (ite_t rfl ?_))⟩
  dsimp only [wpSs, wpS, wpE]
  have hit : itemsOf (.obj K) (μ ++ [.lst (regs.map pvR)]) = some (regs.map pvR) := by simp [itemsOf, listOf, get_K hK]
  refine ⟨_, rfl, _, rfl, sub_part (i := 1) (p := .int s) rfl (subP_nat hit (by simp; (exact Nat.le_trans ‹_› (by decide))) (by simp [hs]; rfl) ⟨_, rfl, _, rfl, sub_part (i := 0) (p := .int d) rfl (setIP_nat (get_K hK) (by simpa using hd) (by simp; (exact Nat.le_trans ‹_› (by decide))) ?_)⟩)⟩
  rw [set_K hK]
  have e : (regs.map pvR).set d (pvR x) = (regs.set d x).map pvR := by rw [List.map_set]
  rw [e]
  exact q

theorem turn_goto {Φ : Phi} {g : Nat} (q : R .next (runL (codeV nm ar sl rows st) vals ms.pv c K g (some (Row.goto g).pv) o7 o8) μ) :
    wpSs Φ ce247c (runL (codeV nm ar sl rows st) vals ms.pv c K t (some (Row.goto g).pv) o7 o8) μ R := by
  unfold ce247c ce247b
  dsimp only
  unfold wpSs
  unfold wpS
  dsimp only [wpT, wpE]
  refine ⟨_, rfl, sub_word (eq_word (by decide) (ite_f rfl ?_))⟩
  unfold wpSs
  unfold wpS
  dsimp only [wpT, wpE]
  refine ⟨_, rfl, sub_word (eq_word (by decide) (ite_f rfl ?_))⟩
  unfold wpSs
  unfold wpS
  dsimp only [wpT, wpE]
  refine ⟨_, rfl, sub_word (eq_word (by decide) (ite_t rfl ?_))⟩
  dsimp only [wpSs, wpS, wpE]
  exact ⟨_, rfl, sub_part (i := 0) (p := .int g) rfl ⟨nofun, q⟩⟩

theorem turn_unless {Φ : Phi} {a g : Nat} {x : Int} (hK : μ.length = K) (hrl : regs.length ≤ 1000) (hs : regs[a]? = some (some x)) (q : R .next (runL (codeV nm ar sl rows st) vals ms.pv c K (if x % 2 = 1 then g else t) (some (Row.unless a g).pv) o7 o8) (μ ++ [.lst (regs.map pvR)])) :
    wpSs Φ ce247c (runL (codeV nm ar sl rows st) vals ms.pv c K t (some (Row.unless a g).pv) o7 o8) (μ ++ [.lst (regs.map pvR)]) R := by
  unfold ce247c ce247b
  dsimp only
  unfold wpSs
  unfold wpS
  dsimp only [wpT, wpE]
  refine ⟨_, rfl, sub_word (eq_word (by decide) (ite_f rfl ?_))⟩
  unfold wpSs
  unfold wpS
  dsimp only [wpT, wpE]
  refine ⟨_, rfl, sub_word (eq_word (by decide) (ite_f rfl ?_))⟩
  unfold wpSs
  unfold wpS
  dsimp only [wpT, wpE]
  refine ⟨_, rfl, sub_word (eq_word (by decide) (ite_f rfl ?_))⟩
  unfold wpSs
  unfold wpS
  dsimp only [wpT, wpE]
  refine ⟨_, rfl, sub_word (eq_word (by decide) (ite_t rfl ?_))⟩
  dsimp only [wpSs, wpS, wpE, wpT]
  have hit : itemsOf (.obj K) (μ ++ [.lst (regs.map pvR)]) = some (regs.map pvR) := by simp [itemsOf, listOf, get_K hK]
  refine ⟨_, rfl, _, rfl, sub_part (i := 0) (p := .int a) rfl (subP_nat hit (by simp; (exact Nat.le_trans ‹_› (by decide))) (v := .int x) (by simp [hs]; rfl) (mod_pos (by decide) (eq_int fun b hb => ite_b (fun h => ?_) fun h => ?_)))⟩
  · rw [if_pos (hb.mp h)] at q
    exact ⟨_, rfl, sub_part (i := 1) (p := .int g) rfl ⟨nofun, q⟩⟩
  · rw [if_neg (fun e => by have := hb.mpr e; rw [h] at this; cases this)] at q
    exact ⟨_, rfl, nofun, q⟩

theorem turn_static {Φ : Phi} (hK : μ.length = K) (hrl : regs.length ≤ 1000) (hd : 4 < regs.length) (q : R .next (runL (codeV nm ar sl rows st) vals ms.pv c K t (some Row.static.pv) o7 o8) (μ ++ [.lst ((regs.set 4 (some 5)).map pvR)])) :
    wpSs Φ ce247c (runL (codeV nm ar sl rows st) vals ms.pv c K t (some Row.static.pv) o7 o8) (μ ++ [.lst (regs.map pvR)]) R := by
  unfold ce247c ce247b
  dsimp only
  unfold wpSs
  unfold wpS
  dsimp only [wpT, wpE]
  refine ⟨_, rfl, sub_word (eq_word (by decide) (ite_f rfl ?_))⟩
  unfold wpSs
  unfold wpS
  dsimp only [wpT, wpE]
  refine ⟨_, rfl, sub_word (eq_word (by decide) (ite_f rfl ?_))⟩
  unfold wpSs
  unfold wpS
  dsimp only [wpT, wpE]
  refine ⟨_, rfl, sub_word (eq_word (by decide) (ite_f rfl ?_))⟩
  unfold wpSs
  unfold wpS
  dsimp only [wpT, wpE]
  refine ⟨_, rfl, sub_word (eq_word (by decide) (ite_f rfl ?_))⟩
  unfold wpSs
  unfold wpS
  dsimp only [wpT, wpE]
  refine ⟨_, rfl, sub_word (eq_word (by decide) (ite_f rfl ?_))⟩
  unfold wpSs
  unfold wpS
  dsimp only [wpT, wpE]
  refine ⟨_, rfl, sub_word (eq_word (by decide) (ite_t rfl ?_))⟩
  dsimp only [wpSs, wpS, wpE]
  refine ⟨_, rfl, _, rfl, sub_part (i := 0) (p := .int 4) rfl (setIP_nat (i := 4) (get_K hK) (by simpa using hd) (by simp; (exact Nat.le_trans ‹_› (by decide))) ?_)⟩
  rw [set_K hK]
  have e : (regs.map pvR).set 4 (.int 5) = (regs.set 4 (some 5)).map pvR := by rw [List.map_set]; rfl
  rw [e]
  exact q

theorem turn_call {Φ : Phi} {d f : Nat} {as : List Nat} {x : Int} {xs : List Int} {cl : List Tr} (hK : μ.length = K) (hc : μ[c]? = some (.lst (cl.map Tr.pv))) (hcl : cl.length ≤ 1000000) (hrl : regs.length ≤ 1000) (has : as.length ≤ 10) (hf : regs[f]? = some (some x)) (hx : Reads' regs as xs) (hd : d < regs.length)
    (q : R .next (runL (codeV nm ar sl rows st) vals ms.pv c K t (some (Row.call d f as).pv) (some (.lst ((x :: xs).map .int))) o8) (μ.set c (.lst ((cl ++ [Tr.nums x xs]).map Tr.pv)) ++ [.lst ((regs.set d (some (callV (x :: xs)))).map pvR)])) :
    wpSs Φ ce247c (runL (codeV nm ar sl rows st) vals ms.pv c K t (some (Row.call d f as).pv) o7 o8) (μ ++ [.lst (regs.map pvR)]) R := by
  have hxl := hx.len
  have hit : itemsOf (.obj K) (μ ++ [.lst (regs.map pvR)]) = some (regs.map pvR) := by simp [itemsOf, listOf, get_K hK]
  unfold ce247c ce247b
  dsimp only
  unfold wpSs
  unfold wpS
  dsimp only [wpT, wpE]
  refine ⟨_, rfl, sub_word (eq_word (by decide) (ite_f rfl ?_))⟩
  unfold wpSs
  unfold wpS
  dsimp only [wpT, wpE]
  refine ⟨_, rfl, sub_word (eq_word (by decide) (ite_f rfl ?_))⟩
  unfold wpSs
  unfold wpS
  dsimp only [wpT, wpE]
  refine ⟨_, rfl, sub_word (eq_word (by decide) (ite_f rfl ?_))⟩
  unfold wpSs
  unfold wpS
  dsimp only [wpT, wpE]
  refine ⟨_, rfl, sub_word (eq_word (by decide) (ite_f rfl ?_))⟩
  unfold wpSs
  unfold wpS
  dsimp only [wpT, wpE]
  refine ⟨_, rfl, sub_word (eq_word (by decide) (ite_t rfl ?_))⟩
  unfold wpSs
  unfold wpS
  dsimp only [wpE, wpEs, wpL]
  refine ⟨_, rfl, _, rfl, sub_part (i := 1) (p := .int f) rfl (subP_nat hit (by simp; (exact Nat.le_trans ‹_› (by decide))) (v := .int x) (by simp [hf]; rfl) ⟨by simp, fun p hp => ?_, ?_⟩)⟩
  · simp only [List.mem_singleton] at hp; subst hp; exact ⟨_, rfl⟩
  dsimp only [wpI, wpE]
  refine ⟨_, rfl, sub_part (i := 2) (p := natsV as) rfl ⟨by simp; (exact Nat.le_trans ‹_› (by decide)), trivial, ?_⟩⟩
  rw [List.map_map]
  refine reads_comp (get_K hK) hrl hx [] ?_
  rw [List.nil_append]
  refine add_lists (l := [.int x]) (m := xs.map .int) rfl rfl (by simp; lia) ⟨nofun, ?_⟩
  show wpSs _ _ (runL (codeV nm ar sl rows st) vals ms.pv c K t (some (Row.call d f as).pv) (some (.lst ((x :: xs).map .int))) o8) _ _
  dsimp only [wpSs, wpS, wpE, wpEs, wpL, wpI]
  refine ⟨_, rfl, _, meth_app (get_app hc), _, rfl, c, cl.map Tr.pv, _, rfl, rfl, get_app hc, by simp; assumption, rfl, _, rfl, nofun, _, rfl, by simp; omega, trivial, ?_⟩
  rw [List.map_map]
  refine comp_mapA (fun x : Int => [.int x]) (fun x => .int (x * 31 + 17)) trivial _ _ (fun a ha R hR => ?_) ?_
  · exact ⟨_, rfl, mul_i (by decide) (add_i hR)⟩
  refine ⟨_, (x :: xs).map fun x => x * 31 + 17, rfl, ?_, mod_pos (by decide) ⟨_, rfl, _, rfl, sub_part (i := 0) (p := .int d) rfl ?_⟩⟩
  · rw [List.nil_append]
    have := intsOf_map ((x :: xs).map fun x => x * 31 + 17)
    rw [List.map_map] at this
    exact this
  rw [set_app hc]
  refine setIP_nat (get_K (by simpa using hK)) (by simpa using hd) (by simp; (exact Nat.le_trans ‹_› (by decide))) ?_
  rw [set_K (by simpa using hK)]
  have e : (regs.map pvR).set d (.int (callV (x :: xs))) = (regs.set d (some (callV (x :: xs)))).map pvR := by rw [List.map_set]; rfl
  have e2 : cl.map Tr.pv ++ [.lst ((x :: xs).map .int)] = (cl ++ [Tr.nums x xs]).map Tr.pv := by simp [Tr.pv]
  rw [← e, ← e2] at q
  exact q

theorem turn_invoke {n : Nat} {d m : Nat} {as : List Nat} {xs : List Int} {y : Int} {cl tr1 : List Tr} (hm : OkMS ms) (hK : μ.length = K) (hc : μ[c]? = some (.lst (cl.map Tr.pv))) (hcl : cl.length ≤ 900000) (hrl : regs.length ≤ 1000) (h3 : m < 3) (has : as.length ≤ 10) (hx : Reads' regs as xs) (hd : d < regs.length)
    (hB : ∀ {μ' : List AO} {cl' : List Tr} {Q : Post}, cl'.length ≤ cl.length + 1 → μ'[c]? = some (.lst (cl'.map Tr.pv)) → Q (.int y) (μ'.set c (.lst ((cl' ++ tr1).map Tr.pv))) → PhiN (n + 1) 254 [(ms.at m).pv m, .lst (xs.map .int), ms.pv, .obj c] μ' Q)
    (q : R .next (runL (codeV nm ar sl rows st) vals ms.pv c K t (some (Row.invoke d m as).pv) o7 (some (.lst (xs.map .int)))) (μ.set c (.lst ((cl ++ ((if kept (ms.at m) as = true then Tr.meth m xs.length else Tr.gap) :: tr1)).map Tr.pv)) ++ [.lst ((regs.set d (some y)).map pvR)])) :
    wpSs (PhiN (n + 1)) ce247c (runL (codeV nm ar sl rows st) vals ms.pv c K t (some (Row.invoke d m as).pv) o7 o8) (μ ++ [.lst (regs.map pvR)]) R := by
  have hxl := hx.len
  unfold ce247c ce247b
  dsimp only
  unfold wpSs
  unfold wpS
  dsimp only [wpT, wpE]
  refine ⟨_, rfl, sub_word (eq_word (by decide) (ite_f rfl ?_))⟩
  unfold wpSs
  unfold wpS
  dsimp only [wpT, wpE]
  refine ⟨_, rfl, sub_word (eq_word (by decide) (ite_f rfl ?_))⟩
  unfold wpSs
  unfold wpS
  dsimp only [wpT, wpE]
  refine ⟨_, rfl, sub_word (eq_word (by decide) (ite_f rfl ?_))⟩
  unfold wpSs
  unfold wpS
  dsimp only [wpT, wpE]
  refine ⟨_, rfl, sub_word (eq_word (by decide) (ite_f rfl ?_))⟩
  unfold wpSs
  unfold wpS
  dsimp only [wpT, wpE]
  refine ⟨_, rfl, sub_word (eq_word (by decide) (ite_f rfl ?_))⟩
  unfold wpSs
  unfold wpS
  dsimp only [wpT, wpE]
  refine ⟨_, rfl, sub_word (eq_word (by decide) (ite_f rfl ?_))⟩
  unfold wpSs
  unfold wpS
  unfold wpE
  unfold wpL
  refine ⟨fun p hp => ?_, ?_⟩
  · simp only [List.mem_singleton] at hp; subst hp; exact ⟨_, rfl⟩
  dsimp only [wpI, wpE]
  refine ⟨_, rfl, sub_part (i := 2) (p := natsV as) rfl ⟨by simp; (exact Nat.le_trans ‹_› (by decide)), trivial, ?_⟩⟩
  rw [List.map_map]
  refine reads_comp (get_K hK) hrl hx [] ?_
  rw [List.nil_append]
  refine ⟨nofun, ?_⟩
  show wpSs _ _ (runL (codeV nm ar sl rows st) vals ms.pv c K t (some (Row.invoke d m as).pv) o7 (some (.lst (xs.map .int)))) _ _
  have last : ∀ (w : Tr), w = (if kept (ms.at m) as = true then .meth m xs.length else .gap) → wpSs (PhiN (n + 1)) (.cons (.setI (.loc 4) (.sub (.loc 6) (.cint 1)) (.call (.glo 20) (.cons (.sub (.loc 2) (.sub (.loc 6) (.cint 2))) (.cons (.loc 8) (.cons (.loc 2) (.cons (.loc 3) .nil)))))) .nil)
      (runL (codeV nm ar sl rows st) vals ms.pv c K t (some (Row.invoke d m as).pv) o7 (some (.lst (xs.map .int)))) (μ.set c (.lst ((cl ++ [w]).map Tr.pv)) ++ [.lst (regs.map pvR)]) R := fun w hw => by
    have hlt : c < μ.length := (List.getElem?_eq_some_iff.mp hc).1
    have hc2 : (μ.set c (.lst ((cl ++ [w]).map Tr.pv)))[c]? = some (.lst ((cl ++ [w]).map Tr.pv)) := by simp [hlt]
    have hK2 : (μ.set c (.lst ((cl ++ [w]).map Tr.pv))).length = K := by simpa using hK
    dsimp only [wpSs, wpS, wpE, wpEs]
    refine ⟨_, rfl, _, rfl, _, rfl, sub_part (i := 1) (p := .int m) rfl (subP_nat (i := m) (l := [ms.a.pv 0, ms.b.pv 1, ms.c.pv 2]) rfl (by simp) (ms.get h3) ⟨_, rfl, _, rfl, _, rfl, hB (cl' := cl ++ [w]) (by simp) (get_app hc2) ⟨_, rfl, _, rfl, sub_part (i := 0) (p := .int d) rfl ?_⟩⟩)⟩
    rw [set_app hc2, List.set_set]
    refine setIP_nat (get_K (by simpa using hK)) (by simpa using hd) (by simp; (exact Nat.le_trans ‹_› (by decide))) ?_
    rw [set_K (by simpa using hK)]
    have e : (regs.map pvR).set d (.int y) = (regs.set d (some y)).map pvR := by rw [List.map_set]; rfl
    rw [e]
    have := q
    rw [← hw] at this
    have e3 : cl ++ [w] ++ tr1 = cl ++ w :: tr1 := by simp
    rw [e3]
    exact this
  unfold wpSs
  dsimp only [wpS, wpT, wpE, wpEs, wpL]
  refine ⟨_, rfl, _, meth_app (get_app hc), _, rfl, _, rfl, _, rfl, kept_ok hm h3 has ⟨_, rfl, ite_b (fun h => ?_) fun h => ?_⟩⟩
  · refine ⟨_, rfl, sub_part (i := 1) (p := .int m) rfl ⟨_, rfl, _, rfl, len_items (l := xs.map .int) rfl (by simp; omega) ⟨by simp, c, cl.map Tr.pv, _, rfl, rfl, get_app hc, by simp; (exact Nat.le_trans ‹_› (by decide)), rfl, ?_⟩⟩⟩
    rw [set_app hc]
    have := last (.meth m xs.length) (by rw [if_pos h])
    have e : (cl ++ [Tr.meth m xs.length]).map Tr.pv = cl.map Tr.pv ++ [.lst [.str 22, .int m, .int ((xs.map PV.int).length : Nat)]] := by simp [Tr.pv]
    rw [e] at this
    exact this
  · refine ⟨by simp, c, cl.map Tr.pv, _, rfl, rfl, get_app hc, by simp; (exact Nat.le_trans ‹_› (by decide)), rfl, ?_⟩
    rw [set_app hc]
    have := last .gap (by rw [if_neg (by simp [h])])
    have e : (cl ++ [Tr.gap]).map Tr.pv = cl.map Tr.pv ++ [.lst []] := by simp [Tr.pv]
    rw [e] at this
    exact this
end

/- MPq -/


theorem set_same {α : Type} : ∀ {l : List α} {i : Nat} {x : α}, l[i]? = some x → l.set i x = l
  | [], _, _, e => by simp at e
  | a :: l, 0, x, e => by simp at e; subst e; rfl
  | a :: l, i + 1, x, e => by
    simp only [List.set_cons_succ]
    rw [set_same (l := l) (by simpa using e)]
theorem Tr.below (k : Nat) (w : Tr) : Mine.Internal.below k w.pv = true := by
  cases w with
  | nums h t => exact belows_map (fun _ => rfl) (h :: t)
  | meth m len => rfl
  | gap => rfl
theorem trs_below (k : Nat) (l : List Tr) : belows k (l.map Tr.pv) = true := belows_map (fun w => w.below k) l

section
variable {n nm ar sl c K : Nat} {rows : List Row} {st : List PV} {vals : PV} {ms : MS}

theorem test_ok {Φ : Phi} {t : Nat} {r : Row} {μ : List AO} {o6 o7 o8 : Option PV} {Q : Bool → List AO → Prop} (hl : rows.length ≤ 1000) (hr : rows[t]? = some r) (q : Q (!decide (r.word = 16)) μ) : wpT Φ ce247t (runL (codeV nm ar sl rows st) vals ms.pv c K t o6 o7 o8) μ Q := by
  unfold ce247t
  dsimp only [wpT, wpE]
  exact ⟨_, rfl, attr_i (v := .tup (rows.map Row.pv)) (by decide) (by decide) rfl rfl ⟨_, rfl, subP_nat (l := rows.map Row.pv) (v := r.pv) rfl (by simp; (exact Nat.le_trans ‹_› (by decide))) (by simp [hr]) (sub_word (ne_word (by decide) q))⟩⟩

theorem run_loop {B : BRel} (hm : OkMS ms) (hl : rows.length ≤ 1000)
    (hB : ∀ {m : Nat} {xs : List Int} {y : Int} {tr1 cl' : List Tr} {μ' : List AO} {Q : Post}, m < 3 → B m xs y tr1 → cl'.length + tr1.length ≤ 800000 → μ'[c]? = some (.lst (cl'.map Tr.pv)) → Q (.int y) (μ'.set c (.lst ((cl' ++ tr1).map Tr.pv))) →
      PhiN (n + 1) 254 [(ms.at m).pv m, .lst (xs.map .int), ms.pv, .obj c] μ' Q)
    {t : Nat} {regs : List (Option Int)} {v : Int} {tr : List Tr} (h : Ex ms B rows t regs v tr) : ∀ {cl : List Tr} {μ : List AO} {o6 o7 o8 : Option PV} {R : SPost}, μ.length = K → μ[c]? = some (.lst (cl.map Tr.pv)) → cl.length + tr.length ≤ 800000 → regs.length ≤ 1000 →
      (∀ (t' r : Nat) (regs' : List (Option Int)) (o6 o7 o8 : Option PV), rows[t']? = some (.ret r) → regs'[r]? = some (some v) → regs'.length = regs.length → R .next (runL (codeV nm ar sl rows st) vals ms.pv c K t' o6 o7 o8) (μ.set c (.lst ((cl ++ tr).map Tr.pv)) ++ [.lst (regs'.map pvR)])) →
      ∃ k, whilGo (fun l μ Q => wpT (PhiN (n + 1)) ce247t l μ Q) (fun l μ Q => wpSs (PhiN (n + 1)) ce247b l μ Q) k (runL (codeV nm ar sl rows st) vals ms.pv c K t o6 o7 o8) (μ ++ [.lst (regs.map pvR)]) R := by
  induction h with
  | @ret t regs r v e1 e2 =>
    intro cl μ o6 o7 o8 R hK hc hb hrl q
    refine ⟨1, ?_⟩
    unfold whilGo
    refine test_ok hl e1 (ite_f rfl ?_)
    have := q t r regs o6 o7 o8 e1 e2 rfl
    rw [List.append_nil, set_same hc] at this
    exact this
  | @const t regs d k v tr e1 hd _ ih =>
    intro cl μ o6 o7 o8 R hK hc hb hrl q
    obtain ⟨k', hk⟩ := ih (cl := cl) (μ := μ) (o6 := some (Row.const d k).pv) (o7 := o7) (o8 := o8) (R := R) hK hc hb (by simpa using hrl) (fun t' r regs' o6 o7 o8 a1 a2 a3 => q t' r regs' o6 o7 o8 a1 a2 (by simpa using a3))
    refine ⟨k' + 1, ?_⟩
    unfold whilGo
    exact test_ok hl e1 (ite_t rfl (turn_pre hl e1 (turn_const hK hrl hd hk)))
  | @move t regs d s x v tr e1 hs hd _ ih =>
    intro cl μ o6 o7 o8 R hK hc hb hrl q
    obtain ⟨k', hk⟩ := ih (cl := cl) (μ := μ) (o6 := some (Row.move d s).pv) (o7 := o7) (o8 := o8) (R := R) hK hc hb (by simpa using hrl) (fun t' r regs' o6 o7 o8 a1 a2 a3 => q t' r regs' o6 o7 o8 a1 a2 (by simpa using a3))
    refine ⟨k' + 1, ?_⟩
    unfold whilGo
    exact test_ok hl e1 (ite_t rfl (turn_pre hl e1 (turn_move hK hrl hs hd hk)))
  | @static t regs v tr e1 hd _ ih =>
    intro cl μ o6 o7 o8 R hK hc hb hrl q
    obtain ⟨k', hk⟩ := ih (cl := cl) (μ := μ) (o6 := some Row.static.pv) (o7 := o7) (o8 := o8) (R := R) hK hc hb (by simpa using hrl) (fun t' r regs' o6 o7 o8 a1 a2 a3 => q t' r regs' o6 o7 o8 a1 a2 (by simpa using a3))
    refine ⟨k' + 1, ?_⟩
    unfold whilGo
    exact test_ok hl e1 (ite_t rfl (turn_pre hl e1 (turn_static hK hrl hd hk)))
  | @goto t regs g v tr e1 _ ih =>
    intro cl μ o6 o7 o8 R hK hc hb hrl q
    obtain ⟨k', hk⟩ := ih (cl := cl) (μ := μ) (o6 := some (Row.goto g).pv) (o7 := o7) (o8 := o8) (R := R) hK hc hb hrl q
    refine ⟨k' + 1, ?_⟩
    unfold whilGo
    exact test_ok hl e1 (ite_t rfl (turn_pre hl e1 (turn_goto hk)))
  | @«unless» t regs r g x v tr e1 hr _ ih =>
    intro cl μ o6 o7 o8 R hK hc hb hrl q
    obtain ⟨k', hk⟩ := ih (cl := cl) (μ := μ) (o6 := some (Row.unless r g).pv) (o7 := o7) (o8 := o8) (R := R) hK hc hb hrl q
    refine ⟨k' + 1, ?_⟩
    unfold whilGo
    exact test_ok hl e1 (ite_t rfl (turn_pre hl e1 (turn_unless hK hrl hr hk)))
  | @call t regs d f as x xs v tr e1 has hf hx hd _ ih =>
    intro cl μ o6 o7 o8 R hK hc hb hrl q
    have hlt : c < μ.length := (List.getElem?_eq_some_iff.mp hc).1
    have hb' : cl.length + (tr.length + 1) ≤ 800000 := hb
    obtain ⟨k', hk⟩ := ih (cl := cl ++ [.nums x xs]) (μ := μ.set c (.lst ((cl ++ [Tr.nums x xs]).map Tr.pv))) (o6 := some (Row.call d f as).pv) (o7 := some (.lst ((x :: xs).map .int))) (o8 := o8) (R := R) (by simpa using hK) (by simp [hlt]) (by simp; omega) (by simpa using hrl)
      (fun t' r regs' o6 o7 o8 a1 a2 a3 => by
        have := q t' r regs' o6 o7 o8 a1 a2 (by simpa using a3)
        rw [List.set_set, List.append_assoc]; exact this)
    refine ⟨k' + 1, ?_⟩
    unfold whilGo
    exact test_ok hl e1 (ite_t rfl (turn_pre hl e1 (turn_call hK hc (by lia) hrl has hf hx hd hk)))
  | @invoke t regs d m as xs y tr1 v tr e1 h3 has hx hd hb1 _ ih =>
    intro cl μ o6 o7 o8 R hK hc hb hrl q
    have hlt : c < μ.length := (List.getElem?_eq_some_iff.mp hc).1
    have hb' : cl.length + ((tr1 ++ tr).length + 1) ≤ 800000 := hb
    rw [List.length_append] at hb'
    obtain ⟨k', hk⟩ := ih (cl := cl ++ ((if kept (ms.at m) as = true then Tr.meth m xs.length else Tr.gap) :: tr1)) (μ := μ.set c (.lst ((cl ++ ((if kept (ms.at m) as = true then Tr.meth m xs.length else Tr.gap) :: tr1)).map Tr.pv))) (o6 := some (Row.invoke d m as).pv) (o7 := o7) (o8 := some (.lst (xs.map .int))) (R := R) (by simpa using hK) (by simp [hlt]) (by simp; lia) (by simpa using hrl)
      (fun t' r regs' o6 o7 o8 a1 a2 a3 => by
        have := q t' r regs' o6 o7 o8 a1 a2 (by simpa using a3)
        rw [List.set_set, List.append_assoc]; exact this)
    refine ⟨k' + 1, ?_⟩
    unfold whilGo
    exact test_ok hl e1 (ite_t rfl (turn_pre hl e1 (turn_invoke hm hK hc (by lia) hrl h3 has hx hd (fun {μ' cl' Q} z1 z2 z3 => hB h3 hb1 (by omega) z2 z3) hk)))

noncomputable def start (n : Nat) (xs : List Int) : List (Option Int) := xs.map some ++ List.replicate (n - xs.length) none

theorem run_ok' {B : BRel} (hm : OkMS ms) (hl : rows.length ≤ 1000)
    (hB : ∀ {m : Nat} {xs : List Int} {y : Int} {tr1 cl' : List Tr} {μ' : List AO} {Q : Post}, m < 3 → B m xs y tr1 → cl'.length + tr1.length ≤ 800000 → μ'[c]? = some (.lst (cl'.map Tr.pv)) → Q (.int y) (μ'.set c (.lst ((cl' ++ tr1).map Tr.pv))) →
      PhiN (n + 1) 254 [(ms.at m).pv m, .lst (xs.map .int), ms.pv, .obj c] μ' Q)
    {xs : List Int} {v : Int} {tr cl : List Tr} {μ : List AO} {Q : Post} (hxs : xs.length ≤ sl) (hsl : sl ≤ 900) (h : Ex ms B rows 0 (start sl xs) v tr) (hc : μ[c]? = some (.lst (cl.map Tr.pv))) (hb : cl.length + tr.length ≤ 800000) (q : Q (.int v) (μ.set c (.lst ((cl ++ tr).map Tr.pv)))) :
    PhiN (n + 2) 247 [codeV nm ar sl rows st, .lst (xs.map .int), ms.pv, .obj c] μ Q := by
  refine phi_fn [some (codeV nm ar sl rows st), some (.lst (xs.map .int)), some ms.pv, some (.obj c), none, none, none, none, none] rfl rfl rfl rfl ?_
  show wpSs _ ce247 _ _ _
  rw [ce247_eq]
  unfold wpSs
  unfold wpS
  unfold wpE
  dsimp only [wpL, wpE, wpEs]
  refine ⟨_, rfl, _, rfl, _, xs.map .int, rfl, rfl, by simp; lia, ⟨by simp, _, rfl, attr_i (v := .int sl) (by decide) (by decide) rfl rfl ⟨_, rfl, _, rfl, len_items (l := xs.map .int) rfl (by simp; lia) (sub_i (.inr ⟨_, _, rfl, rfl, by simp; assumption, by simp; lia, xs.map .int, List.replicate (((sl : Int) - ((xs.map PV.int).length : Nat))).toNat .none, rfl, rfl, by simp; lia, fun _ => rfl, nofun, ?_⟩))⟩⟩⟩
  have e : xs.map PV.int ++ List.replicate (((sl : Int) - ((xs.map PV.int).length : Nat))).toNat .none = (start sl xs).map pvR := by
    have : (((sl : Int) - ((xs.map PV.int).length : Nat))).toNat = sl - xs.length := by simp; first | done | omega
    rw [this, start, List.map_append, List.map_map, List.map_replicate]
    rfl
  rw [e]
  show wpSs _ _ (runL (codeV nm ar sl rows st) (.lst (xs.map .int)) ms.pv c μ.length 0 none none none) (μ ++ [.lst ((start sl xs).map pvR)]) _
  unfold wpSs
  unfold wpS
  refine run_loop hm hl hB h rfl hc hb (by simp [start]; omega) fun t' r regs' o6 o7 o8 a1 a2 a3 => ?_
  have hsl2 : regs'.length ≤ 900 := by rw [a3]; simp [start]; (simp [*])
  have hit : itemsOf (.obj μ.length) (μ.set c (.lst ((cl ++ tr).map Tr.pv)) ++ [.lst (regs'.map pvR)]) = some (regs'.map pvR) := by simp [itemsOf, listOf]
  show wpSs _ _ _ _ _
  dsimp only [wpSs, wpS, wpE]
  refine ⟨_, rfl, _, rfl, attr_i (v := .tup (rows.map Row.pv)) (by decide) (by decide) rfl rfl ⟨_, rfl, subP_nat (l := rows.map Row.pv) (v := (Row.ret r).pv) rfl (by simp; (exact Nat.le_trans ‹_› (by decide))) (by simp [a1]) (sub_part (i := 0) (p := .int r) rfl (subP_nat hit (by simp; (exact Nat.le_trans ‹_› (by decide))) (v := .int v) (by simp [a2]; rfl) ?_))⟩⟩
  refine end_ch rfl ?_ ?_
  · have := ((Ch.refl (k := μ.length) (τ := []) μ).set (o := .lst ((cl ++ tr).map Tr.pv)) (trs_below _ _) c).app (τ := [.lst (regs'.map pvR)])
    rw [List.append_nil] at this
    exact this
  · have e : (μ.set c (AO.lst ((cl ++ tr).map Tr.pv)) ++ [AO.lst (regs'.map pvR)]).take μ.length = μ.set c (.lst ((cl ++ tr).map Tr.pv)) := by
      rw [List.take_append_of_le_length (by simp), List.take_of_length_le (by simp)]
    rw [e]; exact q
end

noncomputable abbrev noB : BRel := fun _ _ _ _ => False
/- what a method's call gives -/
inductive Bd (ms : MS) (M : Meth) (xs : List Int) : Int → List Tr → Prop
  | bad : xs.length ≠ M.many + 1 → ¬ (M.rest = true ∧ M.many ≤ xs.length) → Bd ms M xs (1000 + xs.length) []
  | rest {v tr} : M.rest = true → M.many ≤ xs.length → Ex ms noB M.rows 0 (start 5 (xs.take M.many ++ [(xs.drop M.many).sum])) v tr → Bd ms M xs v tr
  | plain {v tr} : M.rest = false → xs.length = M.many + 1 → Ex ms noB M.rows 0 (start 5 xs) v tr → Bd ms M xs v tr

theorem call_body {n num c : Nat} {ms : MS} {M : Meth} {xs : List Int} {v : Int} {tr cl : List Tr} {μ : List AO} {Q : Post} (hm : OkMS ms) (hM : OkM M) (hxs : xs.length ≤ 100) (h : Bd ms M xs v tr) (hc : μ[c]? = some (.lst (cl.map Tr.pv))) (hb : cl.length + tr.length ≤ 800000)
    (q : Q (.int v) (μ.set c (.lst ((cl ++ tr).map Tr.pv)))) : PhiN (n + 3) 254 [M.pv num, .lst (xs.map .int), ms.pv, .obj c] μ Q := by
  refine phi_fn [some (M.pv num), some (.lst (xs.map .int)), some ms.pv, some (.obj c), none] rfl rfl rfl rfl ?_
  show wpSs _ ce254 _ _ _
  have hn := Meth.names_len hM
  have hm3 := hM.many
  have hbl := hM.len
  have hrl : M.rows.length ≤ 1000 := by simp [Meth.rows]; (exact Nat.le_trans ‹_› (by decide))
  have hlenx : (xs.map PV.int).length = xs.length := by simp
  have endc : EndQ μ Q (.int v) (μ.set c (.lst ((cl ++ tr).map Tr.pv))) := by
    refine end_ch rfl ?_ ?_
    · have := (Ch.refl (k := μ.length) (τ := []) μ).set (o := .lst ((cl ++ tr).map Tr.pv)) (trs_below _ _) c
      rw [List.append_nil] at this
      exact this
    · rw [List.take_of_length_le (by simp)]; exact q
  unfold ce254
  unfold wpSs
  dsimp only [wpS, wpE, wpEs]
  refine ⟨_, rfl, _, rfl, attr_i (v := .tup M.names) (by decide) (by decide) rfl rfl (len_items (l := M.names) rfl (by lia) (add_i ⟨nofun, ?_⟩))⟩
  rw [hn]
  show wpSs _ _ [some (M.pv num), some (.lst (xs.map .int)), some ms.pv, some (.obj c), some (.int ((M.many : Int) + 1))] _ _
  unfold wpSs
  dsimp only [wpS, wpT, wpE, wpEs, wpA]
  refine ⟨_, rfl, _, rfl, len_items (l := xs.map .int) rfl (by omega) ⟨_, rfl, ne_int fun b hb1 => ?_⟩⟩
  rw [hlenx] at hb1
  have rest_part : (xs.length = M.many + 1 ∨ (M.rest = true ∧ M.many ≤ xs.length)) → wpSs (PhiN (n + 2)) (.cons (.ite (.attr (.loc 0) 14) (.cons (.asg false 1 (.bin .Add (.sli (.loc 1) .cnone (.bin .Sub (.loc 4) (.cint 1))) (.fl (.disp (.cons (.call (.glo 27) (.cons (.sli (.loc 1) (.bin .Sub (.loc 4) (.cint 1)) .cnone) .nil)) .nil)))))
  .nil) .nil)
  (.cons (.ret (.call (.glo 19) (.cons (.attr (.loc 0) 7) (.cons (.loc 1) (.cons (.loc 2) (.cons (.loc 3) .nil))))))
  .nil)) [some (M.pv num), some (.lst (xs.map .int)), some ms.pv, some (.obj c), some (.int ((M.many : Int) + 1))] μ (exitQ μ Q) := by
    intro hgood
    unfold wpSs
    dsimp only [wpS, wpT, wpE, wpEs]
    refine ⟨_, rfl, attr_i (v := .bool M.rest) (by decide) (by decide) rfl rfl ⟨_, rfl, ite_b (fun hr => ?_) fun hr => ?_⟩⟩
    · have hge : M.many ≤ xs.length := by
        rcases hgood with h | h
        · (simp [*])
        · exact h.2
      have hex : Ex ms noB M.rows 0 (start 5 (xs.take M.many ++ [(xs.drop M.many).sum])) v tr := by
        cases h with
        | bad h1 h2 => exact absurd ⟨hr, hge⟩ h2
        | rest _ _ h => exact h
        | plain h1 _ _ => rw [hr] at h1; cases h1
      have e1 : ((M.many : Int) + 1 - 1) = ((M.many : Nat) : Int) := by simp
      dsimp only [wpSs, wpS, wpE, wpEs, wpL]
      refine ⟨_, rfl, _, rfl, sub_i ?_⟩
      rw [e1]
      refine sli_takeL (by omega) ⟨_, rfl, _, rfl, _, rfl, sub_i ?_⟩
      rw [e1]
      refine sli_dropL (by omega) (by (simp [*])) ⟨_, xs.drop M.many, rfl, ?_, by simp, ?_⟩
      · rw [← List.map_drop]; exact intsOf_map _
      refine add_lists (l := (xs.map PV.int).take M.many) (m := [.int (xs.drop M.many).sum]) rfl rfl (by simp; omega) ⟨nofun, ?_⟩
      have e2 : (xs.map PV.int).take M.many ++ [.int (xs.drop M.many).sum] = (xs.take M.many ++ [(xs.drop M.many).sum]).map .int := by simp
      rw [e2]
      refine ⟨_, rfl, _, rfl, attr_i (v := M.code) (by decide) (by decide) rfl rfl ⟨_, rfl, _, rfl, _, rfl, ?_⟩⟩
      exact run_ok' (n := n) hm hrl (fun _ hf => hf.elim) (by simp; lia) (by decide) hex hc hb endc
    · have hex : Ex ms noB M.rows 0 (start 5 xs) v tr ∧ xs.length = M.many + 1 := by
        have hl2 : xs.length = M.many + 1 := by
          rcases hgood with h | h
          · exact h
          · rw [h.1] at hr; cases hr
        cases h with
        | bad h1 h2 => exact absurd hl2 h1
        | rest h1 _ _ => rw [h1] at hr; cases hr
        | plain _ _ h => exact ⟨h, hl2⟩
      show wpSs _ _ _ _ _
      dsimp only [wpSs, wpS, wpE, wpEs]
      refine ⟨_, rfl, _, rfl, attr_i (v := M.code) (by decide) (by decide) rfl rfl ⟨_, rfl, _, rfl, _, rfl, ?_⟩⟩
      exact run_ok' (n := n) hm hrl (fun _ hf => hf.elim) (by lia) (by decide) hex.1 hc hb endc
  have bad_part : xs.length ≠ M.many + 1 → ¬ (M.rest = true ∧ M.many ≤ xs.length) → EndQ μ Q (.int (1000 + ((xs.map PV.int).length : Nat))) μ := fun h1 h2 => by
    cases h with
    | bad _ _ =>
      rw [hlenx]
      refine end_same rfl ?_
      rw [List.append_nil, set_same hc] at q
      exact q
    | rest h3 h4 _ => exact absurd ⟨h3, h4⟩ h2
    | plain _ h4 _ => exact absurd h4 h1
  cases b with
  | false =>
    have he : xs.length = M.many + 1 := by
      by_cases h : xs.length = M.many + 1
      · exact h
      · have := hb1.mpr (by lia); cases this
    exact ite_n (by decide) (ite_f rfl (rest_part (.inl he)))
  | true =>
    have hne : xs.length ≠ M.many + 1 := by have := hb1.mp rfl; omega
    refine ite_p rfl ⟨_, rfl, attr_i (v := .bool M.rest) (by decide) (by decide) rfl rfl ⟨_, rfl, ?_⟩⟩
    cases hr : M.rest with
    | false =>
      refine ite_n (by decide) (ite_p rfl ?_)
      dsimp only [wpSs, wpS, wpE, wpEs]
      exact ⟨_, rfl, _, rfl, len_items (l := xs.map .int) rfl (by omega) (add_i (bad_part hne (by simp [hr])))⟩
    | true =>
      refine ite_p rfl ⟨_, rfl, _, rfl, len_items (l := xs.map .int) rfl (by omega) ⟨_, rfl, sub_i ⟨_, _, rfl, rfl, ?_⟩⟩⟩
      by_cases hge : M.many ≤ xs.length
      · have : (((xs.map PV.int).length : Nat) : Int) ≥ (M.many : Int) + 1 - 1 := by rw [hlenx]; (simp [*])
        rw [decide_eq_true this]
        exact ite_p rfl (ite_n (by decide) (ite_f rfl (rest_part (.inr ⟨hr, hge⟩))))
      · have : ¬ (((xs.map PV.int).length : Nat) : Int) ≥ (M.many : Int) + 1 - 1 := by rw [hlenx]; (simp [*])
        rw [decide_eq_false this]
        refine ite_n (by decide) (ite_p rfl ?_)
        dsimp only [wpSs, wpS, wpE, wpEs]
        exact ⟨_, rfl, _, rfl, len_items (l := xs.map .int) rfl (by omega) (add_i (bad_part hne (fun h => hge h.2)))⟩

/- MPr -/


theorem sb2 (a b c : Nat) : a + b + c - a = b + c := by rw [Nat.add_assoc, Nat.add_sub_cancel_left]
theorem ad1 (t i : Nat) : t + 1 + i = t + (i + 1) := Nat.add_right_comm t 1 i
theorem sm5 {s d n : Nat} (h : d < 5) : s + d < s + max 5 n := Nat.add_lt_add_left (Nat.lt_of_lt_of_le h (Nat.le_max_left 5 n)) s
theorem sm6 {s d n : Nat} (h : d < 6) (hs : 6 ≤ s) : d < s + n := Nat.lt_of_lt_of_le h (Nat.le_trans hs (Nat.le_add_right s n))
/- what the inliner gives -/
noncomputable def slotsEnd (ms : MS) (s : Nat) (R : List Row) : Nat := R.foldl (blkSlots ms) s
noncomputable def blks (ms : MS) : Nat → List Row → List (List Row)
  | _, [] => []
  | s, r :: rs => blkRows ms s r :: blks ms (blkSlots ms s r) rs
noncomputable def lenB (ms : MS) (R : List Row) : Nat := (R.map (blkLen ms)).sum

theorem blkRows_len (ms : MS) (s : Nat) (r : Row) : (blkRows ms s r).length = blkLen ms r := by
  cases r with
  | invoke d m as =>
    unfold blkRows blkLen
    dsimp only
    split
    · rfl
    · simp [putIn, moves_len, Meth.rows]; first | done | omega
  | _ => rfl
theorem topsL_ne (ms : MS) (R : List Row) (t : Nat) : topsL ms R t ≠ [] := by cases R <;> simp [topsL]
theorem inl_eq (ms : MS) : ∀ (R rows : List Row) (places : List Nat) (s : Nat), inl ms R rows places s = (rows ++ (blks ms s R).flatten, places ++ (topsL ms R rows.length).dropLast, slotsEnd ms s R)
  | [], rows, places, s => by simp [inl, blks, topsL, slotsEnd]
  | r :: R, rows, places, s => by
    have ih := inl_eq ms R (rows ++ blkRows ms s r) (places ++ [rows.length]) (blkSlots ms s r)
    have hne := topsL_ne ms R (rows.length + blkLen ms r)
    unfold inl
    rw [ih]
    simp only [blks, List.flatten_cons, topsL, slotsEnd, List.foldl_cons, List.length_append, blkRows_len]
    rw [List.dropLast_cons_of_ne_nil hne]
    simp
theorem tops_get (ms : MS) : ∀ (R : List Row) (t i : Nat), i ≤ R.length → (topsL ms R t)[i]? = some (t + lenB ms (R.take i))
  | [], t, i, h => by
    have : i = 0 := by simpa using h
    subst this; simp [topsL, lenB]
  | r :: R, t, 0, h => by simp [topsL, lenB]
  | r :: R, t, i + 1, h => by
    have := tops_get ms R (t + blkLen ms r) i (by simpa using h)
    simp only [topsL, List.getElem?_cons_succ, this, List.take_succ_cons, lenB, List.map_cons, List.sum_cons]
    simp [Nat.add_assoc]
theorem topsL_len (ms : MS) : ∀ (R : List Row) (t : Nat), (topsL ms R t).length = R.length + 1
  | [], t => rfl
  | r :: R, t => by simp [topsL, topsL_len ms R]
theorem blk_get (ms : MS) : ∀ (R : List Row) (s i : Nat) (r : Row) (j : Nat) (x : Row), R[i]? = some r → (blkRows ms (slotsEnd ms s (R.take i)) r)[j]? = some x → (blks ms s R).flatten[lenB ms (R.take i) + j]? = some x
  | [], s, i, r, j, x, e, _ => by simp at e
  | q :: R, s, 0, r, j, x, e, h => by
    simp only [List.getElem?_cons_zero, Option.some.injEq] at e
    subst e
    simp only [List.take_zero, lenB, List.map_nil, List.sum_nil, Nat.zero_add, blks, List.flatten_cons]
    have hj : j < (blkRows ms s q).length := (List.getElem?_eq_some_iff.mp h).1
    rw [List.getElem?_append_left hj]; exact h
  | q :: R, s, i + 1, r, j, x, e, h => by
    have := blk_get ms R (blkSlots ms s q) i r j x (by simpa using e) (by simpa [slotsEnd] using h)
    simp only [List.take_succ_cons, lenB, List.map_cons, List.sum_cons, blks, List.flatten_cons]
    rw [List.getElem?_append_right (by rw [blkRows_len, Nat.add_assoc]; exact Nat.le_add_right _ _), blkRows_len, sb2]
    exact this
theorem flat_len (ms : MS) : ∀ (R : List Row) (s : Nat), (blks ms s R).flatten.length = lenB ms R
  | [], s => rfl
  | r :: R, s => by simp only [blks, List.flatten_cons, List.length_append, blkRows_len, flat_len ms R, lenB, List.map_cons, List.sum_cons]

theorem blkSlots_le (ms : MS) (s : Nat) (r : Row) : s ≤ blkSlots ms s r := by
  cases r with
  | invoke d m as =>
    unfold blkSlots
    dsimp only
    split <;> first | exact Nat.le_refl _ | exact Nat.le_add_right _ _
  | _ => exact Nat.le_refl _
theorem slotsEnd_le (ms : MS) : ∀ (R : List Row) (s : Nat), s ≤ slotsEnd ms s R
  | [], s => Nat.le_refl _
  | r :: R, s => Nat.le_trans (blkSlots_le ms s r) (slotsEnd_le ms R (blkSlots ms s r))

theorem moves_mem {f : Nat} {x : Row} : ∀ {k : Nat} {as : List Nat}, x ∈ moves f k as → ∃ i a, x = .move (f + i) a ∧ k ≤ i ∧ i < k + as.length ∧ a ∈ as
  | k, [], h => by simp [moves] at h
  | k, a :: as, h => by
    simp only [moves, List.mem_cons] at h
    rcases h with rfl | h
    · exact ⟨k, a, rfl, Nat.le_refl _, by simp, .head _⟩
    · obtain ⟨i, b, e, h1, h2, h3⟩ := moves_mem h
      exact ⟨i, b, e, Nat.le_of_succ_le h1, Nat.lt_of_lt_of_eq h2 (ad1 k as.length), .tail _ h3⟩

/- rows of the main text, roughly -/
noncomputable def Row.main (r : Row) : Prop := r.okInv ∧ (∀ g ∈ r.regs, g < 6) ∧ r ≠ .static ∧ (∀ d f as, r = .call d f as → as.length ≤ 10)

/- a row of what the inliner gives -/
structure TOk (ms : MS) (N n : Nat) (x : Row) : Prop where
  regs : ∀ g ∈ x.regs, g < N
  inv : ∀ d m as, x = .invoke d m as → kept (ms.at m) as = true ∧ m < 3
  len : ∀ (d f : Nat) (as : List Nat), x = .call d f as ∨ x = .invoke d f as → as.length ≤ 10
  goal : x.goalIn n

theorem blk_ok {ms : MS} (hm : OkMS ms) {s n : Nat} {r : Row} (hs : 6 ≤ s) (hr : r.main) (hg : r.goalIn n) : ∀ x ∈ blkRows ms s r, TOk ms (blkSlots ms s r) n x := by
  intro x hx
  obtain ⟨h1, h2, h3, h4⟩ := hr
  have one : x = r → (∀ d m as, r = .invoke d m as → kept (ms.at m) as = true) → TOk ms (blkSlots ms s r) n x := fun e hk => by
    subst e
    refine ⟨fun g hg => Nat.lt_of_lt_of_le (h2 g hg) (Nat.le_trans hs (blkSlots_le ms s x)), fun d m as e => ⟨hk d m as e, ?_⟩, fun d f as e => ?_, hg⟩
    · subst e; exact h1.1
    · rcases e with e | e
      · exact h4 d f as e
      · subst e; exact h1.2
  cases r with
  | invoke d m as =>
    by_cases hk : kept (ms.at m) as = true
    · refine one ?_ (fun d' m' as' e => by cases e; exact hk)
      unfold blkRows at hx
      simpa [hk] using hx
    · have hkf : kept (ms.at m) as = false := by simpa using hk
      have hM := hm.at' m
      have hst : (ms.at m).straight = true := by
        unfold kept at hkf
        rw [Bool.or_eq_false_iff, Bool.or_eq_false_iff] at hkf
        simpa using hkf.1.1
      have e1 : blkSlots ms s (.invoke d m as) = s + max 5 as.length := by simp [blkSlots, hkf]
      have e2 : blkRows ms s (.invoke d m as) = putIn s d as (ms.at m) := by simp [blkRows, hkf]
      rw [e2] at hx
      rw [e1]
      have hd : d < 6 := h2 d (.head _)
      have has : ∀ a ∈ as, a < 6 := fun a ha => h2 a (.tail _ ha)
      simp only [putIn, List.mem_append, List.mem_map, List.mem_singleton] at hx
      rcases hx with (hx | ⟨q, hq, rfl⟩) | rfl
      · obtain ⟨i, a, rfl, _, h6, h7⟩ := moves_mem hx
        refine ⟨fun g hg => ?_, fun _ _ _ e => (by cases e), fun _ _ _ e => (by rcases e with e | e <;> cases e), trivial⟩
        simp only [Row.regs, List.mem_cons, List.not_mem_nil, or_false] at hg
        have := has a h7
        rcases hg with rfl | rfl
        · rw [Nat.zero_add] at h6
          exact Nat.add_lt_add_left (Nat.lt_of_lt_of_le h6 (Nat.le_max_right 5 _)) s
        · exact sm6 this hs
      · have hq5 := straight_quiet hM hst q hq
        cases q with
        | const d k =>
          refine ⟨fun g hg => ?_, fun _ _ _ e => (by cases e), fun _ _ _ e => (by rcases e with e | e <;> cases e), trivial⟩
          simp only [Row.shift, Row.regs, List.mem_cons, List.not_mem_nil, or_false] at hg
          have : d < 5 := hq5
          exact hg ▸ sm5 this
        | move d t =>
          refine ⟨fun g hg => ?_, fun _ _ _ e => (by cases e), fun _ _ _ e => (by rcases e with e | e <;> cases e), trivial⟩
          simp only [Row.shift, Row.regs, List.mem_cons, List.not_mem_nil, or_false] at hg
          have h8 : d < 5 := hq5.1
          have h9 : t < 5 := hq5.2
          rcases hg with rfl | rfl
          · exact sm5 h8
          · exact sm5 h9
        | call d t bs =>
          have h8 : d < 5 := hq5.1
          have h9 : t < 5 := hq5.2.1
          refine ⟨fun g hg => ?_, fun _ _ _ e => (by cases e), fun d' f' as' e => ?_, trivial⟩
          · simp only [Row.shift, Row.regs, List.mem_cons, List.mem_map] at hg
            rcases hg with rfl | rfl | ⟨b, hb, rfl⟩
            · exact sm5 h8
            · exact sm5 h9
            · exact sm5 (hq5.2.2.1 b hb)
          · rcases e with e | e
            · simp only [Row.shift, Row.call.injEq] at e
              obtain ⟨_, _, rfl⟩ := e
              simpa using hq5.2.2.2
            · cases e
        | _ => exact hq5.elim
      · refine ⟨fun g hg => ?_, fun _ _ _ e => (by cases e), fun _ _ _ e => (by rcases e with e | e <;> cases e), trivial⟩
        simp only [Row.regs, List.mem_cons, List.not_mem_nil, or_false] at hg
        rcases hg with rfl | rfl
        · exact sm6 hd hs
        · exact sm5 hM.r
  | _ => exact one (by simpa [blkRows] using hx) (fun _ _ _ e => by cases e)

theorem TOk.wider {ms : MS} {N N' n : Nat} {x : Row} (h : TOk ms N n x) (hN : N ≤ N') : TOk ms N' n x := ⟨fun g hg => Nat.lt_of_lt_of_le (h.regs g hg) hN, h.inv, h.len, h.goal⟩
theorem flat_ok {ms : MS} (hm : OkMS ms) {n : Nat} : ∀ (R : List Row) (s : Nat), 6 ≤ s → (∀ r ∈ R, r.main ∧ r.goalIn n) → ∀ x ∈ (blks ms s R).flatten, TOk ms (slotsEnd ms s R) n x
  | [], s, _, _, x, hx => by simp [blks] at hx
  | r :: R, s, hs, hr, x, hx => by
    simp only [blks, List.flatten_cons, List.mem_append] at hx
    have hle := blkSlots_le ms s r
    rcases hx with hx | hx
    · exact (blk_ok hm hs (hr r (.head _)).1 (hr r (.head _)).2 x hx).wider (slotsEnd_le ms R _)
    · exact flat_ok hm R (blkSlots ms s r) (Nat.le_trans hs hle) (fun r h => hr r (.tail _ h)) x hx
theorem led_regs (P : List Nat) (x : Row) : (ledRow P x).regs = x.regs := by cases x <;> rfl

/- MPs -/


noncomputable abbrev Regs := List (Option Int)
theorem set_len {regs : Regs} {d n : Nat} {x : Option Int} (h : regs.length = n) : (regs.set d x).length = n := List.length_set.trans h
theorem set_le {regs : Regs} {d n : Nat} {x : Option Int} (h : n ≤ regs.length) : n ≤ (regs.set d x).length := Nat.le_trans h (Nat.le_of_eq List.length_set.symm)
theorem ltl {a b d : Nat} (h : a = b) (hd : d < b) : d < a := h ▸ hd
theorem ltr {a b d : Nat} (h : a = b) (hd : d < a) : d < b := h ▸ hd
theorem lea {a b : Nat} (h : a = b) (i : Nat) : a ≤ b + i := h ▸ Nat.le_add_right b i
theorem m5 {m : Nat} (h : m ≤ 4) : m + 1 + (4 - m) = 5 := by rw [Nat.add_right_comm, Nat.add_sub_cancel' h]
theorem alt5 {a k : Nat} (ha : a + (k + 1) = 5) : a < 5 := ha ▸ Nat.lt_add_of_pos_right (Nat.succ_pos k)
theorem fdl {f d n : Nat} (h2 : f + 5 ≤ n) (hd : d < 5) : f + d < n := Nat.lt_of_lt_of_le (Nat.add_lt_add_left hd f) h2
theorem ltk {a n m : Nat} (h : a + (n + 1) ≤ m) : a < m := Nat.lt_of_lt_of_le (Nat.lt_add_of_pos_right (Nat.succ_pos n)) h
noncomputable def Known (k : Nat) (regs : Regs) : Prop := ∀ j, j < k → ∃ x, regs[j]? = some (some x)
theorem Known.set {k d : Nat} {regs : Regs} {x : Int} (h : Known k regs) : Known k (regs.set d (some x)) := fun j hj => by
  obtain ⟨y, e⟩ := h j hj
  rw [List.getElem?_set]
  split
  · rename_i hd
    subst hd
    rw [if_pos (List.getElem?_eq_some_iff.mp e).1]
    exact ⟨x, rfl⟩
  · exact ⟨y, e⟩
theorem Known.reads {k : Nat} {regs : Regs} (h : Known k regs) : ∀ {as : List Nat}, (∀ a ∈ as, a < k) → ∃ xs, Reads' regs as xs
  | [], _ => ⟨[], .nil⟩
  | a :: as, ha => by
    obtain ⟨x, e⟩ := h a (ha a (.head _))
    obtain ⟨xs, r⟩ := h.reads (as := as) fun b hb => ha b (.tail _ hb)
    exact ⟨x :: xs, .cons e r⟩

section
variable {ms : MS} {B : BRel} {rows : List Row}

theorem quiet_run {N L : Nat} : ∀ (qs : List Row) (t : Nat) (regs : Regs), Known N regs → regs.length = N → (∀ q ∈ qs, q.quiet N) → (∀ i q, qs[i]? = some q → rows[t + i]? = some q) →
    (∀ regs' : Regs, Known N regs' → regs'.length = N → ∃ v tr, Ex ms B rows (t + qs.length) regs' v tr ∧ tr.length ≤ L) → ∃ v tr, Ex ms B rows t regs v tr ∧ tr.length ≤ L + qs.length
  | [], t, regs, hk, hl, _, _, h => h regs hk hl
  | q :: qs, t, regs, hk, hl, hq, hr, h => by
    have h0 : rows[t]? = some q := hr 0 q rfl
    have hq0 := hq q (.head _)
    have next : ∀ x : Int, ∀ d, ∃ v tr, Ex ms B rows (t + 1) (regs.set d (some x)) v tr ∧ tr.length ≤ L + qs.length := fun x d =>
      quiet_run qs (t + 1) (regs.set d (some x)) hk.set (set_len hl) (fun q hm => hq q (.tail _ hm)) (fun i q e => by
        rw [ad1 t i]; exact hr (i + 1) q e) (fun regs' a b => by
        rw [ad1 t qs.length]; exact h regs' a b)
    cases q with
    | const d k =>
      obtain ⟨v, tr, e, b⟩ := next k d
      have hd : d < N := hq0
      exact ⟨v, tr, .const h0 (ltl hl hd) e, Nat.le_succ_of_le b⟩
    | move d s =>
      obtain ⟨x, hx⟩ := hk s hq0.2
      obtain ⟨v, tr, e, b⟩ := next x d
      have hd : d < N := hq0.1
      exact ⟨v, tr, .move h0 hx (ltl hl hd) e, Nat.le_succ_of_le b⟩
    | call d f as =>
      obtain ⟨x, hx⟩ := hk f hq0.2.1
      obtain ⟨xs, hxs⟩ := hk.reads hq0.2.2.1
      obtain ⟨v, tr, e, b⟩ := next (callV (x :: xs)) d
      have hd : d < N := hq0.1
      exact ⟨v, _, .call h0 hq0.2.2.2 hx hxs (ltl hl hd) e, Nat.succ_le_succ b⟩
    | _ => exact hq0.elim

theorem ahead_run {L : Nat} : ∀ (k a t : Nat) (regs : Regs), a + k = 5 → Known a regs → regs.length = 5 → (∀ i, i < k → rows[t + i]? = some (.const (a + i) (7 * (a + i)))) →
    (∀ regs' : Regs, Known 5 regs' → regs'.length = 5 → ∃ v tr, Ex ms B rows (t + k) regs' v tr ∧ tr.length ≤ L) → ∃ v tr, Ex ms B rows t regs v tr ∧ tr.length ≤ L
  | 0, a, t, regs, ha, hk, hl, _, h => h regs ((show a = 5 from ha) ▸ hk) hl
  | k + 1, a, t, regs, ha, hk, hl, hr, h => by
    have h0 : rows[t]? = some (.const a (7 * a)) := hr 0 (Nat.succ_pos k)
    have hk' : Known (a + 1) (regs.set a (some ((7 * a : Nat) : Int))) := fun j hj => by
      by_cases e : j = a
      · subst e
        exact ⟨((7 * j : Nat) : Int), by rw [List.getElem?_set, if_pos rfl, if_pos (ltl hl (alt5 ha))]⟩
      · obtain ⟨y, ey⟩ := hk j (Nat.lt_of_le_of_ne (Nat.le_of_lt_succ hj) e)
        exact ⟨y, by rw [List.getElem?_set, if_neg (Ne.symm e)]; exact ey⟩
    obtain ⟨v, tr, e, b⟩ := ahead_run k (a + 1) (t + 1) _ ((ad1 a k).trans ha) hk' (set_len hl) (fun i hi => by
      rw [ad1 t i, ad1 a i]; exact hr (i + 1) (Nat.succ_lt_succ hi)) (fun regs' a' b' => by
      rw [ad1 t k]; exact h regs' a' b')
    exact ⟨v, tr, .const h0 (ltl hl (alt5 ha)) e, b⟩
end

theorem start_known {n : Nat} {xs : List Int} (h : xs.length ≤ n) : Known xs.length (start n xs) ∧ (start n xs).length = n := by
  refine ⟨fun j hj => ⟨xs[j], ?_⟩, by simp only [start, List.length_append, List.length_map, List.length_replicate]; exact Nat.add_sub_cancel' h⟩
  unfold start
  rw [List.getElem?_append_left (by simpa using hj)]
  simp [hj]

theorem meth_total {ms : MS} {M : Meth} (g : GenM M) {xs : List Int} (hx : xs.length = M.many + 1) : ∃ v tr, Ex ms noB M.rows 0 (start 5 xs) v tr ∧ tr.length ≤ 8 := by
  obtain ⟨qs, odd, eb, hq, hl, ho⟩ := g.body
  have hm : M.many ≤ 4 := Nat.le_succ_of_le g.many
  have hal := ahead_len M.many
  obtain ⟨k0, l0⟩ := start_known (n := 5) (xs := xs) (hx ▸ Nat.succ_le_succ hm)
  have er : M.rows = ahead M.many ++ (qs ++ (odd ++ [.ret M.r])) := by rw [Meth.rows, eb]; simp
  rw [hx] at k0
  have at_q : ∀ i q, qs[i]? = some q → M.rows[4 - M.many + i]? = some q := fun i q e => by
    have hi : i < qs.length := (List.getElem?_eq_some_iff.mp e).1
    rw [er, List.getElem?_append_right (lea hal i), hal, Nat.add_sub_cancel_left, List.getElem?_append_left hi]; exact e
  have at_o : ∀ i, M.rows[4 - M.many + qs.length + i]? = (odd ++ [.ret M.r])[i]? := fun i => by
    rw [er, List.getElem?_append_right (Nat.add_assoc (4 - M.many) _ i ▸ lea hal _), hal, sb2, List.getElem?_append_right (Nat.le_add_right _ i), Nat.add_sub_cancel_left]
  have h1 := ahead_run (ms := ms) (B := noB) (rows := M.rows) (L := 0 + qs.length) (4 - M.many) (M.many + 1) 0 (start 5 xs) (m5 hm) k0 l0 (fun i hi => by
    rw [Nat.zero_add, er, List.getElem?_append_left (ltl hal hi)]
    unfold ahead
    rw [List.getElem?_map, List.getElem?_range' hi]
    simp) fun regs1 k1 l1 => by
    rw [Nat.zero_add]
    refine quiet_run (L := 0) qs (4 - M.many) regs1 k1 l1 hq at_q fun regs2 k2 l2 => ?_
    obtain ⟨v, hv⟩ := k2 M.r g.r
    have last : ∀ t regs, regs[M.r]? = some (some v) → M.rows[t]? = some (.ret M.r) → ∃ v tr, Ex ms noB M.rows t regs v tr ∧ tr.length ≤ 0 := fun t regs h1 h2 => ⟨v, [], .ret h2 h1, by simp⟩
    rcases ho with rfl | rfl | rfl
    · exact last _ regs2 hv (by have := at_o 0; simpa using this)
    · obtain ⟨v', tr, e, b⟩ := last (4 - M.many + qs.length + 1) regs2 hv (by have := at_o 1; simpa using this)
      refine ⟨v', tr, .goto (g := 4 - M.many + qs.length + 1) ?_ e, b⟩
      have := at_o 0
      rw [hal] at this
      simpa using this
    · have k3 : Known 5 (regs2.set 4 (some 5)) := k2.set
      obtain ⟨v5, hv5⟩ := k3 M.r g.r
      refine ⟨v5, [], .static ?_ (ltl l2 (Nat.lt_succ_self 4)) (.ret (r := M.r) ?_ hv5), by simp⟩
      · have := at_o 0; simpa using this
      · have := at_o 1; simpa using this
  obtain ⟨v, tr, e, b⟩ := h1
  exact ⟨v, tr, e, Nat.le_trans (Nat.zero_add qs.length ▸ b) (Nat.le_trans hl (by decide))⟩

theorem body_total {ms : MS} {M : Meth} (g : GenM M) {xs : List Int} (hx : xs.length ≤ 10) : ∃ v tr, Bd ms M xs v tr ∧ tr.length ≤ 8 := by
  by_cases h1 : M.rest = true ∧ M.many ≤ xs.length
  · obtain ⟨v, tr, e, b⟩ := meth_total (ms := ms) g (xs := xs.take M.many ++ [(xs.drop M.many).sum]) (by simp; (simp [*]))
    exact ⟨v, tr, .rest h1.1 h1.2 e, b⟩
  · by_cases h2 : xs.length = M.many + 1
    · obtain ⟨v, tr, e, b⟩ := meth_total (ms := ms) g h2
      have hr : M.rest = false := by
        cases h : M.rest with
        | false => rfl
        | true => exact absurd ⟨h, by (simp [*])⟩ h1
      exact ⟨v, tr, .plain hr h2 e, b⟩
    · exact ⟨_, [], .bad h2 h1, by simp⟩

/- the body put in does what the method does -/
theorem set_get_ne {regs : Regs} {d j : Nat} {x : Option Int} (h : j ≠ d) : (regs.set d x)[j]? = regs[j]? := by
  rw [List.getElem?_set, if_neg (Ne.symm h)]
theorem reads_shift {f : Nat} {regsM regs2 : Regs} (hS : ∀ j, j < 5 → ∀ x, regsM[j]? = some (some x) → regs2[f + j]? = some (some x)) {as : List Nat} {xs : List Int} (h : Reads' regsM as xs) (ha : ∀ a ∈ as, a < 5) : Reads' regs2 (as.map (f + ·)) xs := by
  induction h with
  | nil => exact .nil
  | @cons a as x xs e _ ih => exact .cons (hS a (ha a (.head _)) x e) (ih fun b hb => ha b (.tail _ hb))
theorem sr_set {f d : Nat} {regsM regs2 : Regs} {x : Option Int} (hS : ∀ j, j < 5 → ∀ x, regsM[j]? = some (some x) → regs2[f + j]? = some (some x)) (h2 : f + 5 ≤ regs2.length) (y : Option Int) (hxy : ∀ z, x = some z → y = some z) :
    ∀ j, j < 5 → ∀ z, (regsM.set d x)[j]? = some (some z) → (regs2.set (f + d) y)[f + j]? = some (some z) := fun j hj z e => by
  by_cases h : j = d
  · subst h
    rw [List.getElem?_set, if_pos rfl] at e ⊢
    rw [if_pos (fdl h2 hj)]
    split at e
    · cases e; rw [hxy z rfl]
    · cases e
  · rw [set_get_ne h] at e
    rw [set_get_ne fun q => h (Nat.add_left_cancel q)]
    exact hS j hj z e

theorem inline_sim {ms : MS} {B2 : BRel} {M : Meth} {T' : List Row} {q0 f : Nat} (hq : ∀ r ∈ M.body, r.quiet 5) (hT : ∀ i x, M.body[i]? = some x → T'[q0 + i]? = some (x.shift f)) {t : Nat} {regsM : Regs} {v : Int} {tr : List Tr} (h : Ex ms noB M.rows t regsM v tr) :
    regsM.length = 5 → ∀ (regs2 : Regs), f + 5 ≤ regs2.length → (∀ j, j < 5 → ∀ x, regsM[j]? = some (some x) → regs2[f + j]? = some (some x)) → ∀ {v2 : Int} {tr2 : List Tr}, M.r < 5 → t ≤ M.body.length →
      (∀ regs2' : Regs, regs2'.length = regs2.length → (∀ j, j < f → regs2'[j]? = regs2[j]?) → regs2'[f + M.r]? = some (some v) → Ex ms B2 T' (q0 + M.body.length) regs2' v2 tr2) → Ex ms B2 T' (q0 + t) regs2 v2 (tr ++ tr2) := by
  have row : ∀ {t r}, M.rows[t]? = some r → t ≤ M.body.length → (t = M.body.length ∧ r = .ret M.r) ∨ (t < M.body.length ∧ M.body[t]? = some r) := fun {t r} e hle => by
    unfold Meth.rows at e
    by_cases ht : t < M.body.length
    · rw [List.getElem?_append_left ht] at e; exact .inr ⟨ht, e⟩
    · have : t = M.body.length := Nat.le_antisymm hle (Nat.not_lt.mp ht)
      subst this
      rw [List.getElem?_concat_length] at e
      cases e
      exact .inl ⟨rfl, rfl⟩
  induction h with
  | @ret t regs r v e1 e2 =>
    intro hl regs2 h2 hS v2 tr2 hr5 ht cont
    rcases row e1 ht with ⟨rfl, e⟩ | ⟨_, e⟩
    · cases e
      exact cont regs2 rfl (fun _ _ => rfl) (hS _ hr5 _ e2)
    · exact (hq _ (List.mem_of_getElem? e)).elim
  | @const t regs d k v tr e1 hd _ ih =>
    intro hl regs2 h2 hS v2 tr2 hr5 ht cont
    rcases row e1 ht with ⟨_, e⟩ | ⟨hlt, e⟩
    · cases e
    have hT' := hT t _ e
    exact .const hT' (fdl h2 (ltr hl hd)) (ih (set_len hl) (regs2.set (f + d) (some (k : Nat))) (set_le h2) (sr_set hS h2 _ fun z hz => hz) hr5 hlt (fun regs2' a b c => cont regs2' (a.trans List.length_set) (fun j hj => (b j hj).trans (set_get_ne (Nat.ne_of_lt (Nat.lt_add_right d hj)))) c))
  | @move t regs d s x v tr e1 hs hd _ ih =>
    intro hl regs2 h2 hS v2 tr2 hr5 ht cont
    rcases row e1 ht with ⟨_, e⟩ | ⟨hlt, e⟩
    · cases e
    have hT' := hT t _ e
    have hq1 := hq _ (List.mem_of_getElem? e)
    have hs5 : s < 5 := hq1.2
    have hd5 : d < 5 := hq1.1
    obtain ⟨y, hy, hxy⟩ : ∃ y, regs2[f + s]? = some y ∧ ∀ z, x = some z → y = some z := by
      have hlt2 : f + s < regs2.length := fdl h2 hs5
      refine ⟨regs2[f + s], by simp [hlt2], fun z hz => ?_⟩
      subst hz
      have := hS s hs5 z hs
      rw [List.getElem?_eq_getElem hlt2] at this
      exact Option.some.inj this
    exact .move hT' hy (fdl h2 hd5) (ih (set_len hl) (regs2.set (f + d) y) (set_le h2) (sr_set hS h2 y hxy) hr5 hlt (fun regs2' a b c => cont regs2' (a.trans List.length_set) (fun j hj => (b j hj).trans (set_get_ne (Nat.ne_of_lt (Nat.lt_add_right d hj)))) c))
  | @call t regs d fn as x xs v tr e1 has hf hx hd _ ih =>
    intro hl regs2 h2 hS v2 tr2 hr5 ht cont
    rcases row e1 ht with ⟨_, e⟩ | ⟨hlt, e⟩
    · cases e
    have hT' := hT t _ e
    have hq1 := hq _ (List.mem_of_getElem? e)
    exact .call hT' (by simpa using has) (hS fn hq1.2.1 x hf) (reads_shift hS hx hq1.2.2.1) (fdl h2 (ltr hl hd)) (ih (set_len hl) (regs2.set (f + d) (some (callV (x :: xs)))) (set_le h2) (sr_set hS h2 _ fun z hz => hz) hr5 hlt (fun regs2' a b c => cont regs2' (a.trans List.length_set) (fun j hj => (b j hj).trans (set_get_ne (Nat.ne_of_lt (Nat.lt_add_right d hj)))) c))
  | @static t regs v tr e1 hd _ ih =>
    intro hl regs2 h2 hS v2 tr2 hr5 ht cont
    rcases row e1 ht with ⟨_, e⟩ | ⟨hlt, e⟩
    · cases e
    · exact (hq _ (List.mem_of_getElem? e)).elim
  | @goto t regs g v tr e1 _ ih =>
    intro hl regs2 h2 hS v2 tr2 hr5 ht cont
    rcases row e1 ht with ⟨_, e⟩ | ⟨hlt, e⟩
    · cases e
    · exact (hq _ (List.mem_of_getElem? e)).elim
  | @«unless» t regs r g x v tr e1 hr _ ih =>
    intro hl regs2 h2 hS v2 tr2 hr5 ht cont
    rcases row e1 ht with ⟨_, e⟩ | ⟨hlt, e⟩
    · cases e
    · exact (hq _ (List.mem_of_getElem? e)).elim
  | @invoke t regs d m as xs y tr1 v tr e1 h3 has hx hd hb1 _ ih => exact hb1.elim

theorem moves_run {ms : MS} {B2 : BRel} {T' : List Row} {f : Nat} {v : Int} {tr : List Tr} : ∀ {as : List Nat} {xs : List Int} (k q : Nat) (regs2 : Regs), Reads' regs2 as xs → (∀ a ∈ as, a < f) → f + k + as.length ≤ regs2.length → (∀ i x, (moves f k as)[i]? = some x → T'[q + i]? = some x) →
    (∀ regs2' : Regs, regs2'.length = regs2.length → (∀ j, j < f + k → regs2'[j]? = regs2[j]?) → (∀ i x, xs[i]? = some x → regs2'[f + k + i]? = some (some x)) → Ex ms B2 T' (q + as.length) regs2' v tr) → Ex ms B2 T' q regs2 v tr
  | [], _, k, q, regs2, .nil, _, _, _, h => h regs2 rfl (fun _ _ => rfl) (fun i x e => by simp at e)
  | a :: as, _, k, q, regs2, .cons (x := x) (xs := xs) e r, ha, hl, hT, h => by
    have hl' : f + k + (as.length + 1) ≤ regs2.length := hl
    have h0 : T'[q]? = some (.move (f + k) a) := hT 0 _ rfl
    have hr : Reads' (regs2.set (f + k) (some x)) as xs := by
      clear h hT h0 hl hl'
      induction r with
      | nil => exact .nil
      | @cons b bs y ys eb _ ih =>
        have hb := ha b (.tail _ (.head _))
        exact .cons ((set_get_ne (Nat.ne_of_lt (Nat.lt_add_right k hb))).trans eb) (ih fun c hc => by
          rcases List.mem_cons.mp hc with rfl | hc
          · exact ha _ (.head _)
          · exact ha c (.tail _ (.tail _ hc)))
    refine .move h0 e (ltk hl') (moves_run (k + 1) (q + 1) (regs2.set (f + k) (some x)) hr (fun b hb => ha b (.tail _ hb)) (set_le (Nat.le_trans (Nat.le_of_eq (ad1 (f + k) as.length)) hl')) (fun i y ey => by
      rw [ad1 q i]; exact hT (i + 1) y ey) fun regs2' a1 a2 a3 => ?_)
    rw [ad1 q as.length]
    refine h regs2' (a1.trans List.length_set) (fun j hj => (a2 j (Nat.lt_succ_of_lt hj)).trans (set_get_ne (Nat.ne_of_lt hj))) fun i y ey => ?_
    cases i with
    | zero =>
      simp only [List.getElem?_cons_zero, Option.some.injEq] at ey
      subst ey
      rw [Nat.add_zero, a2 (f + k) (Nat.lt_succ_self _), List.getElem?_set, if_pos rfl, if_pos (ltk hl')]
    | succ i =>
      rw [← ad1 (f + k) i]; exact a3 i y ey

/- MPt -/


structure Setup (ms : MS) (items : List Row) (r : Nat) : Prop where
  gen : ∀ m, GenM (ms.at m)
  hr : r < 6
  hl : items.length ≤ 3
  hit : ∀ (i : Nat) (it : Row), items[i]? = some it → it.item items.length i
noncomputable def RR (items : List Row) (r : Nat) : List Row := head6 ++ items ++ [.ret r]
noncomputable def PP (ms : MS) (R : List Row) : List Nat := (topsL ms R 0).dropLast
noncomputable def TT (ms : MS) (R : List Row) : List Row := ((blks ms 6 R).flatten).map (ledRow (PP ms R))
noncomputable def tp (ms : MS) (R : List Row) (i : Nat) : Nat := lenB ms (R.take i)
noncomputable def BB (ms : MS) : BRel := fun m xs y tr => xs.length ≤ 10 ∧ tr.length ≤ 8 ∧ Bd ms (ms.at m) xs y tr
noncomputable def Tr.ng : Tr → Bool
  | .gap => false
  | _ => true

section
variable {ms : MS} {items : List Row} {r : Nat}

theorem RR_len : (RR items r).length = items.length + 7 := by simp [RR, head6]; (exact Nat.add_comm ..)
theorem RR_head {i : Nat} (hi : i < 6) : (RR items r)[i]? = some (.const i (3 * i)) := by
  unfold RR
  rw [List.append_assoc, List.getElem?_append_left (by simp [head6]; assumption), head6, List.getElem?_map, List.getElem?_range' hi]
  simp
theorem RR_item {i : Nat} (hi : i < items.length) : (RR items r)[6 + i]? = items[i]? := by
  unfold RR
  rw [List.append_assoc, List.getElem?_append_right (by simp [head6]), List.getElem?_append_left (by simp [head6]; assumption)]
  simp [head6]
theorem RR_last : (RR items r)[6 + items.length]? = some (.ret r) := by
  unfold RR
  rw [List.getElem?_append_right (by simp [head6])]
  simp [head6]

theorem tp_succ {R : List Row} {i : Nat} {x : Row} (h : R[i]? = some x) : tp ms R (i + 1) = tp ms R i + blkLen ms x := by
  unfold tp lenB
  rw [List.take_add_one, h]
  simp
theorem tp_tops {R : List Row} {i : Nat} (h : i ≤ R.length) : (topsL ms R 0)[i]? = some (tp ms R i) := by
  rw [tops_get ms R 0 i h, Nat.zero_add]; rfl
theorem PP_len (R : List Row) : (PP ms R).length = R.length := by simp [PP, topsL_len]
theorem PP_get {R : List Row} {g : Nat} (h : g < R.length) : (PP ms R).getD g 0 = tp ms R g := by
  have h1 := tp_tops (ms := ms) (R := R) (i := g) (by (exact Nat.le_of_lt ‹_›))
  have h2 : (PP ms R)[g]? = some (tp ms R g) := by
    unfold PP
    rw [List.getElem?_dropLast, if_pos (by rw [topsL_len]; assumption)]
    exact h1
  rw [List.getD_eq_getElem?_getD, h2]; rfl
theorem TT_get {R : List Row} {i j : Nat} {x y : Row} (h : R[i]? = some x) (hy : (blkRows ms (slotsEnd ms 6 (R.take i)) x)[j]? = some y) : (TT ms R)[tp ms R i + j]? = some (ledRow (PP ms R) y) := by
  have := blk_get ms R 6 i x j y h hy
  unfold TT tp
  rw [List.getElem?_map, this]; rfl
theorem TT_one {R : List Row} {i : Nat} {x : Row} (h : R[i]? = some x) (hx : ∀ d m as, x = .invoke d m as → kept (ms.at m) as = true) : (TT ms R)[tp ms R i]? = some (ledRow (PP ms R) x) ∧ tp ms R (i + 1) = tp ms R i + 1 := by
  have e : ∀ s, blkRows ms s x = [x] := fun s => by
    cases x with
    | invoke d m as => simp [blkRows, hx d m as rfl]
    | _ => rfl
  refine ⟨?_, ?_⟩
  · have := TT_get (ms := ms) (j := 0) (y := x) h (by rw [e]; rfl)
    exact this
  · rw [tp_succ h, ← blkRows_len ms 0 x, e]; rfl
theorem slots_le {R : List Row} {i : Nat} {x : Row} (h : R[i]? = some x) : blkSlots ms (slotsEnd ms 6 (R.take i)) x ≤ slotsEnd ms 6 R := by
  have h1 : slotsEnd ms 6 (R.take (i + 1)) = blkSlots ms (slotsEnd ms 6 (R.take i)) x := by
    unfold slotsEnd
    rw [List.take_add_one, h, List.foldl_append]; rfl
  have h2 : slotsEnd ms 6 R = slotsEnd ms (slotsEnd ms 6 (R.take (i + 1))) (R.drop (i + 1)) := by
    unfold slotsEnd
    rw [← List.foldl_append, List.take_append_drop]
  rw [← h1, h2]
  exact slotsEnd_le ms _ _

theorem rel_set {regs regs2 : Regs} {d : Nat} {x : Option Int} (hl : regs.length = 6) (hl2 : 6 ≤ regs2.length) (h : ∀ j, j < 6 → regs2[j]? = regs[j]?) : ∀ j, j < 6 → (regs2.set d x)[j]? = (regs.set d x)[j]? := fun j hj => by
  rw [List.getElem?_set, List.getElem?_set]
  by_cases e : d = j
  · subst e
    rw [if_pos rfl, if_pos rfl, if_pos (by (exact Nat.lt_of_lt_of_le ‹_› ‹_›)), if_pos (by (exact Nat.lt_of_lt_of_eq ‹_› (Eq.symm ‹_›)))]
  · rw [if_neg e, if_neg e]; exact h j hj
theorem rel_reads {regs regs2 : Regs} (h : ∀ j, j < 6 → regs2[j]? = regs[j]?) {as : List Nat} {xs : List Int} (r : Reads' regs as xs) (ha : ∀ a ∈ as, a < 6) : Reads' regs2 as xs := by
  induction r with
  | nil => exact .nil
  | @cons a as x xs e _ ih => exact .cons (by rw [h a (ha a (.head _))]; exact e) (ih fun b hb => ha b (.tail _ hb))

/- what is shown of a place of the main text -/
noncomputable def Claim (ms : MS) (R : List Row) (i k : Nat) : Prop := ∀ regs : Regs, Known 6 regs → regs.length = 6 → ∃ v tr1 tr2, Ex ms (BB ms) R i regs v tr1 ∧
  (∀ regs2 : Regs, regs2.length = slotsEnd ms 6 R → (∀ j, j < 6 → regs2[j]? = regs[j]?) → Ex ms (BB ms) (TT ms R) (tp ms R i) regs2 v tr2) ∧ tr1.filter Tr.ng = tr2.filter Tr.ng ∧ tr1.length ≤ 10 * (k + 1) ∧ tr2.length ≤ 10 * (k + 1)

theorem ar_d {a d : Nat} (h : a = 6) (hd : d < 6) : d < a := h ▸ hd
theorem ar_e {a b d : Nat} (h : a = b) (hb : 6 ≤ b) (hd : d < 6) : d < a := h ▸ Nat.lt_of_lt_of_le hd hb
theorem ar_f {a b : Nat} (h : a = b) (hb : 6 ≤ b) : 6 ≤ a := h ▸ hb
theorem ar_j {j k n : Nat} (h : 6 + j + k = 6 + n) (hn : ¬ 6 + j = 6 + n) : j < n ∧ k - 1 < k ∧ 6 + j + 1 + (k - 1) = 6 + n ∧ 6 ≤ 6 + j + 1 ∧ k - 1 + 1 = k := by
  cases k with
  | zero => exact absurd h hn
  | succ k => exact ⟨Nat.lt_of_lt_of_eq (Nat.lt_add_of_pos_right (Nat.succ_pos k)) (Nat.add_left_cancel ((Nat.add_assoc 6 j (k + 1)).symm.trans h)), Nat.lt_succ_self k, (Nat.add_right_comm (6 + j) 1 k).trans h, Nat.le_add_right 6 (j + 1), rfl⟩
theorem ar_g {j k n g : Nat} (h : 6 + j + k = 6 + n) (h1 : 6 + j < g) (h2 : g ≤ 6 + n) : 6 + n - g < k ∧ g + (6 + n - g) = 6 + n ∧ 6 ≤ g :=
  ⟨Nat.sub_lt_left_of_lt_add h2 (h ▸ Nat.add_lt_add_right h1 k), Nat.add_sub_cancel' h2, Nat.le_trans (Nat.le_add_right 6 j) (Nat.le_of_lt h1)⟩
theorem ar_k {k a : Nat} (hk : k - 1 + 1 = k) (b : a ≤ 10 * (k - 1 + 1)) : a ≤ 10 * (k + 1) := Nat.le_trans b (Nat.mul_le_mul_left 10 (hk ▸ Nat.le_succ _))
theorem ar_k1 {k a c : Nat} (hk : k - 1 + 1 = k) (hc : c ≤ 9) (b : a ≤ 10 * (k - 1 + 1)) : c + a + 1 ≤ 10 * (k + 1) := by
  rw [hk] at b
  rw [Nat.mul_succ, Nat.add_comm c, Nat.add_assoc]
  exact Nat.add_le_add b (Nat.succ_le_succ hc)
theorem ar_h {j k n g a : Nat} (h : 6 + j + k = 6 + n) (h1 : 6 + j < g) (b : a ≤ 10 * (6 + n - g + 1)) : a ≤ 10 * (k + 1) :=
  Nat.le_trans b (Nat.mul_le_mul_left 10 (Nat.succ_le_succ (Nat.sub_le_of_le_add (h ▸ Nat.add_comm (6 + j) k ▸ Nat.add_le_add_left (Nat.le_of_lt h1) k))))
theorem ar_p {n g m : Nat} (h : m = n + 7) (h2 : g ≤ 6 + n) : g < m := h ▸ Nat.lt_succ_of_le (Nat.add_comm 6 n ▸ h2)
theorem ar_t {α : Type} {k : Nat} {x : α} {xs : List α} (hk : k - 1 + 1 = k) (b : xs.length ≤ 10 * (k - 1 + 1)) : (x :: xs).length ≤ 10 * (k + 1) := by have := ar_k1 hk (Nat.zero_le 9) b; rwa [Nat.zero_add] at this
theorem ar_u {α : Type} {k : Nat} {ys xs : List α} (hk : k - 1 + 1 = k) (c : ys.length ≤ 8) (b : xs.length ≤ 10 * (k - 1 + 1)) : (ys ++ xs).length ≤ 10 * (k + 1) := List.length_append ▸ Nat.le_of_succ_le (ar_k1 hk (Nat.le_succ_of_le c) b)
theorem ar_v {α : Type} {k : Nat} {x : α} {ys xs : List α} (hk : k - 1 + 1 = k) (c : ys.length ≤ 8) (b : xs.length ≤ 10 * (k - 1 + 1)) : (x :: (ys ++ xs)).length ≤ 10 * (k + 1) := by rw [List.length_cons, List.length_append]; exact ar_k1 hk (Nat.le_succ_of_le c) b
theorem ar_w {f a s r : Nat} (h : f + max 5 a ≤ s) (e : r = s) : f + 0 + a ≤ r := e ▸ Nat.le_trans (Nat.add_le_add_left (Nat.le_max_right 5 a) f) h
theorem ar_x {f a s r r' : Nat} (h : f + max 5 a ≤ s) (e : r = s) (e' : r' = r) : f + 5 ≤ r' := e'.trans e ▸ Nat.le_trans (Nat.add_le_add_left (Nat.le_max_left 5 a) f) h

theorem claim_all (S : Setup ms items r) : ∀ k i, i + k = 6 + items.length → 6 ≤ i → Claim ms (RR items r) i k := by
  intro k
  induction k using Nat.strongRecOn with
  | ind k ih =>
  intro i hik hi regs hk hl
  have hRl : (RR items r).length = items.length + 7 := RR_len
  have hN : 6 ≤ slotsEnd ms 6 (RR items r) := slotsEnd_le ms _ 6
  by_cases hlast : i = 6 + items.length
  · subst hlast
    obtain ⟨v, hv⟩ := hk r S.hr
    obtain ⟨ht, _⟩ := TT_one (ms := ms) (RR_last (items := items) (r := r)) (by intro d m as e; cases e)
    refine ⟨v, [], [], .ret RR_last hv, fun regs2 h1 h2 => .ret ht (by rw [h2 r S.hr]; exact hv), rfl, by simp, by simp⟩
  · obtain ⟨j, rfl⟩ : ∃ j, i = 6 + j := ⟨i - 6, (Nat.add_sub_cancel' hi).symm⟩
    obtain ⟨hj, hkl, hjk, hj6, hk1⟩ := ar_j hik hlast
    have hrow : (RR items r)[6 + j]? = some items[j] := by rw [RR_item hj]; simp [hj]
    have hitem := S.hit j items[j] (by simp [hj])
    generalize items[j] = it at hrow hitem
    have one : (∀ d m as, it = .invoke d m as → kept (ms.at m) as = true) → (TT ms (RR items r))[tp ms (RR items r) (6 + j)]? = some (ledRow (PP ms (RR items r)) it) ∧ tp ms (RR items r) (6 + j + 1) = tp ms (RR items r) (6 + j) + 1 := fun h => TT_one hrow h
    have next := ih (k - 1) hkl (6 + j + 1) hjk hj6
    have jump : ∀ g, 6 + j < g → g ≤ 6 + items.length → Claim ms (RR items r) g (6 + items.length - g) := fun g h1 h2 => ih (6 + items.length - g) (ar_g hik h1 h2).1 g (ar_g hik h1 h2).2.1 (ar_g hik h1 h2).2.2
    cases it with
    | const d c =>
      obtain ⟨ht, htp⟩ := one (by intro _ _ _ e; cases e)
      have hd : d < 6 := hitem
      obtain ⟨v, tr1, tr2, e1, e2, ef, b1, b2⟩ := next (regs.set d (some (c : Nat))) hk.set (set_len hl)
      refine ⟨v, tr1, tr2, .const hrow (ar_d hl hd) e1, fun regs2 h1 h2 => .const ht (ar_e h1 hN hd) ?_, ef, ar_k hk1 b1, ar_k hk1 b2⟩
      exact htp ▸ e2 _ (set_len h1) (rel_set hl (ar_f h1 hN) h2)
    | move d s =>
      obtain ⟨ht, htp⟩ := one (by intro _ _ _ e; cases e)
      have hd : d < 6 := hitem.1
      have hs : s < 6 := hitem.2
      obtain ⟨x, hx⟩ := hk s hs
      obtain ⟨v, tr1, tr2, e1, e2, ef, b1, b2⟩ := next (regs.set d (some x)) hk.set (set_len hl)
      refine ⟨v, tr1, tr2, .move hrow hx (ar_d hl hd) e1, fun regs2 h1 h2 => .move ht ((h2 s hs).trans hx) (ar_e h1 hN hd) ?_, ef, ar_k hk1 b1, ar_k hk1 b2⟩
      exact htp ▸ e2 _ (set_len h1) (rel_set hl (ar_f h1 hN) h2)
    | call d f as =>
      obtain ⟨ht, htp⟩ := one (by intro _ _ _ e; cases e)
      have hd : d < 6 := hitem.1
      have hf : f < 6 := hitem.2.1
      have has := hitem.2.2.1
      have hal := hitem.2.2.2
      obtain ⟨x, hx⟩ := hk f hf
      obtain ⟨xs, hxs⟩ := hk.reads has
      obtain ⟨v, tr1, tr2, e1, e2, ef, b1, b2⟩ := next (regs.set d (some (callV (x :: xs)))) hk.set (set_len hl)
      refine ⟨v, .nums x xs :: tr1, .nums x xs :: tr2, .call hrow hal hx hxs (ar_d hl hd) e1, fun regs2 h1 h2 => .call ht hal ((h2 f hf).trans hx) (rel_reads h2 hxs has) (ar_e h1 hN hd) ?_, congrArg (List.cons _) ef, ar_t hk1 b1, ar_t hk1 b2⟩
      exact htp ▸ e2 _ (set_len h1) (rel_set hl (ar_f h1 hN) h2)
    | goto g =>
      obtain ⟨ht, _⟩ := one (by intro _ _ _ e; cases e)
      have hg1 : 6 + j < g := hitem.1
      have hg2 : g ≤ 6 + items.length := hitem.2
      obtain ⟨v, tr1, tr2, e1, e2, ef, b1, b2⟩ := jump g hg1 hg2 regs hk hl
      have hp := PP_get (ms := ms) (R := RR items r) (g := g) (ar_p hRl hg2)
      refine ⟨v, tr1, tr2, .goto hrow e1, fun regs2 h1 h2 => ?_, ef, ar_h hik hg1 b1, ar_h hik hg1 b2⟩
      have ht' : (TT ms (RR items r))[tp ms (RR items r) (6 + j)]? = some (.goto (tp ms (RR items r) g)) := by rw [ht, ledRow, hp]
      exact .goto ht' (e2 regs2 h1 h2)
    | «unless» a g =>
      obtain ⟨ht, htp⟩ := one (by intro _ _ _ e; cases e)
      have ha : a < 4 := hitem.1
      have hg1 : 6 + j < g := hitem.2.1
      have hg2 : g ≤ 6 + items.length := hitem.2.2
      have ha6 : a < 6 := Nat.lt_of_lt_of_le ha (by decide)
      obtain ⟨x, hx⟩ := hk a ha6
      have hp := PP_get (ms := ms) (R := RR items r) (g := g) (ar_p hRl hg2)
      have ht' : (TT ms (RR items r))[tp ms (RR items r) (6 + j)]? = some (.unless a (tp ms (RR items r) g)) := by rw [ht, ledRow, hp]
      by_cases hodd : x % 2 = 1
      · obtain ⟨v, tr1, tr2, e1, e2, ef, b1, b2⟩ := jump g hg1 hg2 regs hk hl
        refine ⟨v, tr1, tr2, .unless hrow hx (by rw [if_pos hodd]; exact e1), fun regs2 h1 h2 => .unless ht' ((h2 a ha6).trans hx) (by rw [if_pos hodd]; exact e2 regs2 h1 h2), ef, ar_h hik hg1 b1, ar_h hik hg1 b2⟩
      · obtain ⟨v, tr1, tr2, e1, e2, ef, b1, b2⟩ := next regs hk hl
        refine ⟨v, tr1, tr2, .unless hrow hx (by rw [if_neg hodd]; exact e1), fun regs2 h1 h2 => .unless ht' ((h2 a ha6).trans hx) (by rw [if_neg hodd, ← htp]; exact e2 regs2 h1 h2), ef, ar_k hk1 b1, ar_k hk1 b2⟩
    | invoke d m as =>
      obtain ⟨hd, hm3, hal1, hal4, has4⟩ := hitem
      have has6 : ∀ a ∈ as, a < 6 := fun a ha => Nat.lt_of_lt_of_le (has4 a ha) (by decide)
      obtain ⟨xs, hxs⟩ := hk.reads has6
      have hxl := hxs.len
      have hal10 : as.length ≤ 10 := Nat.le_trans hal4 (by decide)
      have hxl10 : xs.length ≤ 10 := hxl ▸ hal10
      have gM := S.gen m
      have okM := gM.ok
      by_cases hkp : kept (ms.at m) as = true
      · obtain ⟨ht, htp⟩ := one (by intro _ _ _ e; cases e; exact hkp)
        obtain ⟨y, trb, eb, bb⟩ := body_total (ms := ms) gM (xs := xs) hxl10
        obtain ⟨v, tr1, tr2, e1, e2, ef, b1, b2⟩ := next (regs.set d (some y)) hk.set (set_len hl)
        have hBB : BB ms m xs y trb := ⟨hxl10, bb, eb⟩
        refine ⟨v, _, _, .invoke hrow hm3 hal10 hxs (ar_d hl hd) hBB e1, fun regs2 h1 h2 => .invoke ht hm3 hal10 (rel_reads h2 hxs has6) (ar_e h1 hN hd) hBB (htp ▸ e2 _ (set_len h1) (rel_set hl (ar_f h1 hN) h2)), ?_, ar_v hk1 bb b1, ar_v hk1 bb b2⟩
        rw [if_pos hkp]
        simp only [List.filter_cons, List.filter_append, ef]
      · have hkf : kept (ms.at m) as = false := by simpa using hkp
        have hkf' := hkf
        unfold kept at hkf'
        rw [Bool.or_eq_false_iff, Bool.or_eq_false_iff] at hkf'
        have hst : (ms.at m).straight = true := by simpa using hkf'.1.1
        have hrest : (ms.at m).rest = false := hkf'.1.2
        have hlen : as.length = (ms.at m).many + 1 := by simpa using hkf'.2
        obtain ⟨y, trb, eb, bb⟩ := meth_total (ms := ms) gM (xs := xs) (hxl.trans hlen)
        have hBB : BB ms m xs y trb := ⟨hxl10, bb, .plain hrest (hxl.trans hlen) eb⟩
        obtain ⟨v, tr1, tr2, e1, e2, ef, b1, b2⟩ := next (regs.set d (some y)) hk.set (set_len hl)
        have hblk : blkRows ms (slotsEnd ms 6 ((RR items r).take (6 + j))) (.invoke d m as) = putIn (slotsEnd ms 6 ((RR items r).take (6 + j))) d as (ms.at m) := by simp [blkRows, hkf]
        have hsl := slots_le (ms := ms) hrow
        have hbs : blkSlots ms (slotsEnd ms 6 ((RR items r).take (6 + j))) (.invoke d m as) = slotsEnd ms 6 ((RR items r).take (6 + j)) + max 5 as.length := by simp [blkSlots, hkf]
        rw [hbs] at hsl
        have h6 : 6 ≤ slotsEnd ms 6 ((RR items r).take (6 + j)) := slotsEnd_le ms _ 6
        have hget : ∀ jj x, (putIn (slotsEnd ms 6 ((RR items r).take (6 + j))) d as (ms.at m))[jj]? = some x → (TT ms (RR items r))[tp ms (RR items r) (6 + j) + jj]? = some (ledRow (PP ms (RR items r)) x) := fun jj x e => TT_get hrow (by rw [hblk]; exact e)
        have hsucc := tp_succ (ms := ms) hrow
        have hbl : blkLen ms (.invoke d m as) = as.length + ((ms.at m).body.length + 1) := by simp [blkLen, hkf, Meth.rows]
        rw [hbl] at hsucc
        generalize slotsEnd ms 6 ((RR items r).take (6 + j)) = f at hget hsl h6
        have hqt := straight_quiet okM hst
        have hml := moves_len f 0 as
        refine ⟨v, _, trb ++ tr2, .invoke hrow hm3 hal10 hxs (ar_d hl hd) hBB e1, fun regs2 h1 h2 => ?_, ?_, ar_v hk1 bb b1, ar_u hk1 bb b2⟩
        · have hx2 := rel_reads h2 hxs has6
          refine moves_run (f := f) 0 _ regs2 hx2 (fun a ha => Nat.lt_of_lt_of_le (has6 a ha) h6) (ar_w hsl h1) (fun i x e => ?_) fun regs3 c1 c2 c3 => ?_
          · have hi : i < (moves f 0 as).length := (List.getElem?_eq_some_iff.mp e).1
            have := hget i x (by rw [putIn, List.append_assoc, List.getElem?_append_left hi]; exact e)
            obtain ⟨i', a', rfl, _⟩ := moves_mem (List.mem_of_getElem? e)
            exact this
          · have hx5 : xs.length ≤ 5 := by have := okM.many; lia
            have hs := start_known (n := 5) (xs := xs) hx5
            refine inline_sim (q0 := tp ms (RR items r) (6 + j) + as.length) (f := f) hqt (fun i x e => ?_) eb hs.2 regs3 (ar_x hsl h1 c1) (fun jj hjj x e => ?_) okM.r (Nat.zero_le _) fun regs4 c4 c5 c6 => ?_
            · have hi : i < (ms.at m).body.length := (List.getElem?_eq_some_iff.mp e).1
              have := hget (as.length + i) (x.shift f) (by
                rw [putIn, List.append_assoc, List.getElem?_append_right (hml.symm ▸ Nat.le_add_right _ i), hml, show as.length + i - as.length = i from Nat.add_sub_cancel_left .., List.getElem?_append_left (by simpa using hi), List.getElem?_map, e]; rfl)
              have hq5 := hqt x (List.mem_of_getElem? e)
              rw [show tp ms (RR items r) (6 + j) + as.length + i = tp ms (RR items r) (6 + j) + (as.length + i) from Nat.add_assoc .., this]
              cases x <;> first | rfl | exact hq5.elim
            · have hjx : xs[jj]? = some x := by
                unfold start at e
                by_cases hh : jj < xs.length
                · rw [List.getElem?_append_left (by simpa using hh), List.getElem?_map] at e
                  cases hxx : xs[jj]? with
                  | none => rw [hxx] at e; simp at e
                  | some z => rw [hxx] at e; simpa using e
                · rw [List.getElem?_append_right (by simp; (exact Nat.not_lt.mp ‹_›)), List.getElem?_replicate] at e
                  split at e <;> simp at e
              have := c3 jj x hjx
              rw [Nat.add_zero] at this; exact this
            · have ht := hget (as.length + (ms.at m).body.length) (.move d (f + (ms.at m).r)) (by
                rw [putIn, List.getElem?_append_right (by simp [hml])]
                simp [hml])
              rw [show tp ms (RR items r) (6 + j) + as.length + (ms.at m).body.length = tp ms (RR items r) (6 + j) + (as.length + (ms.at m).body.length) from Nat.add_assoc ..]
              refine .move (d := d) (s := f + (ms.at m).r) ht c6 (ar_e (c4.trans (c1.trans h1)) hN hd) ?_
              rw [show tp ms (RR items r) (6 + j) + (as.length + (ms.at m).body.length) + 1 = tp ms (RR items r) (6 + j + 1) by (exact Eq.symm ‹_›)]
              have hjf : ∀ {jj}, jj < 6 → jj < f := fun h => Nat.lt_of_lt_of_le h h6
              exact e2 _ (set_len (c4.trans (c1.trans h1))) (rel_set hl (ar_f (c4.trans (c1.trans h1)) hN) fun jj hjj => (c5 jj (hjf hjj)).trans ((c2 jj (hjf hjj)).trans (h2 jj hjj)))
        · rw [if_neg hkp]
          simp [List.filter_cons, List.filter_append, Tr.ng, ef]
    | static => exact hitem.elim
    | ret a => exact hitem.elim
end

/- MPu -/


noncomputable def setAll (regs : Regs) : Regs := (((((regs.set 0 (some 0)).set 1 (some 3)).set 2 (some 6)).set 3 (some 9)).set 4 (some 12)).set 5 (some 15)
theorem setAll_get {regs : Regs} (h : 6 ≤ regs.length) (j : Nat) (hj : j < 6) : (setAll regs)[j]? = some (some ((3 * j : Nat) : Int)) := by
  have g : ∀ (l : Regs) (d : Nat) (x : Option Int), d < l.length → (l.set d x)[d]? = some x := fun l d x hd => by simp [hd]
  unfold setAll
  match j, hj with
  | 0, _ => rw [set_get_ne (by decide), set_get_ne (by decide), set_get_ne (by decide), set_get_ne (by decide), set_get_ne (by decide), g _ _ _ (by (exact Nat.zero_lt_of_lt ‹_›))]; rfl
  | 1, _ => rw [set_get_ne (by decide), set_get_ne (by decide), set_get_ne (by decide), set_get_ne (by decide), g _ _ _ (by simp; (exact Nat.lt_of_lt_of_le ‹_› ‹_›))]; rfl
  | 2, _ => rw [set_get_ne (by decide), set_get_ne (by decide), set_get_ne (by decide), g _ _ _ (by simp; (exact Nat.lt_of_lt_of_le ‹_› ‹_›))]; rfl
  | 3, _ => rw [set_get_ne (by decide), set_get_ne (by decide), g _ _ _ (by simp; (exact Nat.lt_of_lt_of_le ‹_› ‹_›))]; rfl
  | 4, _ => rw [set_get_ne (by decide), g _ _ _ (by simp; (exact Nat.le_of_lt ‹_›))]; rfl
  | 5, _ => rw [g _ _ _ (by simp; assumption)]; rfl

section
variable {ms : MS} {items : List Row} {r : Nat}

theorem tp_head : ∀ i, i ≤ 6 → tp ms (RR items r) i = i
  | 0, _ => rfl
  | i + 1, h => by
    have := (TT_one (ms := ms) (RR_head (items := items) (r := r) (i := i) (by assumption)) (by intro _ _ _ e; cases e)).2
    rw [this, tp_head i (by (exact Nat.le_of_lt ‹_›))]
theorem TT_head {i : Nat} (h : i < 6) : (TT ms (RR items r))[i]? = some (.const i (3 * i)) := by
  have := (TT_one (ms := ms) (RR_head (items := items) (r := r) h) (by intro _ _ _ e; cases e)).1
  rw [tp_head i (by (exact Nat.le_of_lt ‹_›))] at this
  exact this

theorem ex_head {B : BRel} {rows : List Row} (hr : ∀ i, i < 6 → rows[i]? = some (.const i (3 * i))) {regs : Regs} (hl : 6 ≤ regs.length) {v : Int} {tr : List Tr} (h : Ex ms B rows 6 (setAll regs) v tr) : Ex ms B rows 0 regs v tr :=
  .const (hr 0 (by decide)) (by (exact Nat.zero_lt_of_lt ‹_›)) (.const (hr 1 (by decide)) (by simp; lia) (.const (hr 2 (by decide)) (by simp; lia) (.const (hr 3 (by decide)) (by simp; lia) (.const (hr 4 (by decide)) (by simp; (exact Nat.le_of_lt ‹_›)) (.const (hr 5 (by decide)) (by simp; assumption) h)))))

theorem run_both (S : Setup ms items r) : ∃ v tr1 tr2, Ex ms (BB ms) (RR items r) 0 (start 6 [1]) v tr1 ∧ Ex ms (BB ms) (TT ms (RR items r)) 0 (start (slotsEnd ms 6 (RR items r)) [1]) v tr2 ∧ tr1.filter Tr.ng = tr2.filter Tr.ng ∧ tr1.length ≤ 100 ∧ tr2.length ≤ 100 := by
  have hl := S.hl
  have hN : 6 ≤ slotsEnd ms 6 (RR items r) := slotsEnd_le ms _ 6
  have l1 : (start 6 [1]).length = 6 := rfl
  have l2 : (start (slotsEnd ms 6 (RR items r)) [1]).length = slotsEnd ms 6 (RR items r) := by simp [start]; lia
  have g1 := setAll_get (regs := start 6 [1]) (by rw [l1]; decide)
  have g2 := setAll_get (regs := start (slotsEnd ms 6 (RR items r)) [1]) (by (exact Nat.lt_of_lt_of_eq ‹_› (Eq.symm ‹_›)))
  obtain ⟨v, tr1, tr2, e1, e2, ef, b1, b2⟩ := claim_all S items.length 6 rfl (Nat.le_refl _) (setAll (start 6 [1])) (fun j hj => ⟨_, g1 j hj⟩) (by simp [setAll, l1])
  refine ⟨v, tr1, tr2, ex_head (fun i hi => RR_head hi) (by rw [l1]; decide) e1, ex_head (fun i hi => TT_head hi) (by (exact Nat.lt_of_lt_of_eq ‹_› (Eq.symm ‹_›))) ?_, ef, by lia, by lia⟩
  have := e2 (setAll (start (slotsEnd ms 6 (RR items r)) [1])) (by simp [setAll, l2]) fun j hj => by rw [g1 j hj, g2 j hj]
  rw [tp_head 6 (Nat.le_refl _)] at this
  exact this

theorem RR_main (S : Setup ms items r) : ∀ x ∈ RR items r, x.main ∧ x.goalIn (RR items r).length := by
  have hl := S.hl
  have hr := S.hr
  intro x hx
  obtain ⟨i, hi⟩ := List.mem_iff_getElem?.mp hx
  have hlt := (List.getElem?_eq_some_iff.mp hi).1
  rw [RR_len] at hlt
  have noCall : ∀ {P : Prop}, (∀ d f as, x ≠ .call d f as) → ∀ d f as, x = .call d f as → as.length ≤ 10 := fun h d f as e => absurd e (h d f as)
  by_cases h6 : i < 6
  · rw [RR_head h6] at hi; cases hi
    exact ⟨⟨trivial, fun g hg => by simp [Row.regs] at hg; (simp [*]), (by intro e; cases e), (by intro _ _ _ e; cases e)⟩, trivial⟩
  · obtain ⟨j, rfl⟩ : ∃ j, i = 6 + j := ⟨i - 6, by omega⟩
    by_cases hj : j < items.length
    · rw [RR_item hj] at hi
      have hit := S.hit j x hi
      rw [RR_len]
      cases x with
      | const d k =>
        have hd : d < 6 := hit
        exact ⟨⟨trivial, fun g hg => by simp [Row.regs] at hg; (simp [*]), (by intro e; cases e), (by intro _ _ _ e; cases e)⟩, trivial⟩
      | move d s =>
        have hd : d < 6 := hit.1
        have hs : s < 6 := hit.2
        exact ⟨⟨trivial, fun g hg => by simp [Row.regs] at hg; omega, (by intro e; cases e), (by intro _ _ _ e; cases e)⟩, trivial⟩
      | call d f as =>
        have hd : d < 6 := hit.1
        have hf : f < 6 := hit.2.1
        refine ⟨⟨trivial, fun g hg => ?_, (by intro e; cases e), fun _ _ _ e => by cases e; exact hit.2.2.2⟩, trivial⟩
        simp only [Row.regs, List.mem_cons] at hg
        rcases hg with rfl | rfl | hg
        · exact hd
        · exact hf
        · exact hit.2.2.1 g hg
      | goto g =>
        have h1 : g ≤ 6 + items.length := hit.2
        exact ⟨⟨trivial, fun g hg => by simp [Row.regs] at hg, (by intro e; cases e), (by intro _ _ _ e; cases e)⟩, by show g < _; lia⟩
      | «unless» a g =>
        have h0 : a < 4 := hit.1
        have h1 : g ≤ 6 + items.length := hit.2.2
        exact ⟨⟨trivial, fun g hg => by simp [Row.regs] at hg; lia, (by intro e; cases e), (by intro _ _ _ e; cases e)⟩, by show g < _; lia⟩
      | invoke d m as =>
        obtain ⟨hd, hm3, ha1, ha4, has⟩ := hit
        refine ⟨⟨⟨hm3, by (exact Nat.le_trans ‹_› (by decide))⟩, fun g hg => ?_, (by intro e; cases e), (by intro _ _ _ e; cases e)⟩, trivial⟩
        simp only [Row.regs, List.mem_cons] at hg
        rcases hg with rfl | hg
        · exact hd
        · have := has g hg; (exact Nat.lt_of_lt_of_le ‹_› (by decide))
      | static => exact hit.elim
      | ret a => exact hit.elim
    · have : j = items.length := by lia
      subst this
      rw [RR_last] at hi; cases hi
      exact ⟨⟨trivial, fun g hg => by simp [Row.regs] at hg; (simp [*]), (by intro e; cases e), (by intro _ _ _ e; cases e)⟩, trivial⟩

theorem lenB_le (hm : OkMS ms) : ∀ R : List Row, (∀ x ∈ R, x.okInv) → lenB ms R ≤ 20 * R.length
  | [], _ => Nat.le_refl _
  | x :: R, h => by
    have h1 := blk_len (slots := 0) hm (h x (.head _))
    rw [blkRows_len] at h1
    have h2 := lenB_le hm R fun y hy => h y (.tail _ hy)
    simp only [lenB, List.map_cons, List.sum_cons, List.length_cons] at h2 ⊢
    lia

theorem last_split {α : Type} {l : List α} {k : Nat} {x : α} (h : l[k]? = some x) (hl : l.length = k + 1) : ∃ ds, l = ds ++ [x] := by
  refine ⟨l.take k, ?_⟩
  have := List.take_add_one (l := l) (i := k)
  rw [h, List.take_of_length_le (by (exact Nat.le_of_eq ‹_›))] at this
  exact this

/- what the law asks of the inlined text -/
structure Facts (ms : MS) (R T' : List Row) (tops : List Nat) (N : Nat) : Prop where
  len : ∃ ds, tops = ds ++ [T'.length]
  small : T'.length ≤ 500 ∧ tops.length ≤ 50 ∧ N ≤ 900 ∧ 1 ≤ N
  jump : ∀ i g : Nat, R[i]? = some (Row.goto g) → ∃ t u : Nat, tops[i]? = some t ∧ tops[g]? = some u ∧ T'[t]? = some (Row.goto u)
  cond : ∀ i a g : Nat, R[i]? = some (Row.unless a g) → ∃ t u : Nat, tops[i]? = some t ∧ tops[g]? = some u ∧ T'[t]? = some (Row.unless a u)
  row : ∀ x ∈ T', ∀ d m as, x = .invoke d m as → kept (ms.at m) as = true ∧ m < 3
  regs : ∀ x ∈ T', ∀ g ∈ x.regs, g < N
  calls : ∀ x ∈ T', ∀ (d f : Nat) (as : List Nat), x = .call d f as ∨ x = .invoke d f as → as.length ≤ 10

theorem slots_small (hm : OkMS ms) : ∀ (R : List Row) (s : Nat), (∀ x ∈ R, x.okInv) → slotsEnd ms s R ≤ s + 10 * R.length
  | [], s, _ => Nat.le_refl _
  | x :: R, s, h => by
    have h1 := slots_small hm R (blkSlots ms s x) fun y hy => h y (.tail _ hy)
    have h2 : blkSlots ms s x ≤ s + 10 := by
      cases x with
      | invoke d m as =>
        have := h _ (.head _)
        have has : as.length ≤ 10 := this.2
        unfold blkSlots
        dsimp only
        split <;> (first | exact Nat.le_add_right _ _ | lia)
      | _ => exact Nat.le_add_right _ _
    simp only [slotsEnd, List.foldl_cons, List.length_cons] at h1 ⊢
    lia

theorem facts (S : Setup ms items r) : Facts ms (RR items r) (TT ms (RR items r)) (topsL ms (RR items r) 0) (slotsEnd ms 6 (RR items r)) := by
  have hm : OkMS ms := ⟨fun m => (S.gen m).ok⟩
  have hmain := RR_main S
  have hRl : (RR items r).length = items.length + 7 := RR_len
  have hl := S.hl
  have hflat := flat_ok hm (RR items r) 6 (Nat.le_refl _) hmain
  have hTl : (TT ms (RR items r)).length = lenB ms (RR items r) := by rw [TT, List.length_map, flat_len]
  have mem : ∀ x ∈ TT ms (RR items r), ∃ y ∈ (blks ms 6 (RR items r)).flatten, x = ledRow (PP ms (RR items r)) y := fun x hx => by
    obtain ⟨y, hy, rfl⟩ := List.mem_map.mp hx
    exact ⟨y, hy, rfl⟩
  have hN : 6 ≤ slotsEnd ms 6 (RR items r) := slotsEnd_le ms _ 6
  have hN2 := slots_small hm (RR items r) 6 fun x hx => (hmain x hx).1.1
  have hB := lenB_le hm (RR items r) fun x hx => (hmain x hx).1.1
  refine ⟨?_, ⟨by lia, by rw [topsL_len]; lia, by lia, by (exact Nat.zero_lt_of_lt ‹_›)⟩, fun i g h => ?_, fun i a g h => ?_, fun x hx d m as e => ?_, fun x hx g hg => ?_, fun x hx d f as e => ?_⟩
  · have hlast := tp_tops (ms := ms) (R := RR items r) (i := (RR items r).length) (Nat.le_refl _)
    have : tp ms (RR items r) (RR items r).length = (TT ms (RR items r)).length := by rw [hTl, tp, List.take_length]
    rw [this] at hlast
    exact last_split hlast (topsL_len ms (RR items r) 0)
  · have hi := (List.getElem?_eq_some_iff.mp h).1
    have hg : g < (RR items r).length := (hmain _ (List.mem_of_getElem? h)).2
    refine ⟨tp ms _ i, tp ms _ g, tp_tops (by (exact Nat.le_of_lt ‹_›)), tp_tops (by (exact Nat.le_of_lt ‹_›)), ?_⟩
    have := (TT_one (ms := ms) h (by intro _ _ _ e; cases e)).1
    rw [this, ledRow, PP_get hg]
  · have hi := (List.getElem?_eq_some_iff.mp h).1
    have hg : g < (RR items r).length := (hmain _ (List.mem_of_getElem? h)).2
    refine ⟨tp ms _ i, tp ms _ g, tp_tops (by (exact Nat.le_of_lt ‹_›)), tp_tops (by (exact Nat.le_of_lt ‹_›)), ?_⟩
    have := (TT_one (ms := ms) h (by intro _ _ _ e; cases e)).1
    rw [this, ledRow, PP_get hg]
  · obtain ⟨y, hy, rfl⟩ := mem x hx
    have := (hflat y hy).inv
    cases y <;> first | (exact this _ _ _ e) | (cases e)
  · obtain ⟨y, hy, rfl⟩ := mem x hx
    rw [led_regs] at hg
    exact (hflat y hy).regs g hg
  · obtain ⟨y, hy, rfl⟩ := mem x hx
    have := (hflat y hy).len
    cases y <;> first | (exact this d f as e) | (rcases e with e | e <;> cases e)
end

/- MPv -/


theorem Tr.data (n : Nat) (w : Tr) : isData (n + 2) w.pv = true := by
  have h : (22 : Nat) < sTab.length := lt49 (by decide)
  cases w <;> simp [Tr.pv, isData, h]
theorem Tr.gap_iff (w : Tr) : w.pv = .lst [] ↔ w.ng = false := by
  cases w <;> simp [Tr.pv, Tr.ng]
theorem trs_data (n : Nat) (l : List Tr) : isData (n + 3) (.lst (l.map Tr.pv)) = true := by simp [isData, Tr.data]
theorem ne_same {x : PV} {Q : Bool → Prop} (hd : isData 6 x = true) (q : Q false) : cmpP .NotEq x x Q := ⟨hd, hd, fun b hb => by
  have : b = false := by cases b with
    | false => rfl
    | true => exact absurd rfl (hb.mp rfl)
  rw [this]; exact q⟩
theorem eq_same {x : PV} {Q : Bool → Prop} (hd : isData 6 x = true) (q : Q true) : cmpP .Eq x x Q := ⟨hd, hd, fun b hb => by
  have : b = true := hb.mpr rfl
  rw [this]; exact q⟩

section
variable {n : Nat} {ms : MS} {R T' : List Row} {tops : List Nat} {N : Nat} {Q : Post}

noncomputable def lawTail5 : CSs := match ce278 with
  | .cons _ (.cons _ (.cons _ (.cons _ s))) => s
  | _ => .nil
noncomputable def lawTail9 : CSs := match ce278 with
  | .cons _ (.cons _ (.cons _ (.cons _ (.cons _ (.cons _ (.cons _ (.cons _ s))))))) => s
  | _ => .nil
noncomputable def lawL (ns : List Int) (R T' : List Row) (ms : MS) (tops : List Nat) (N : Nat) (o6 o7 o8 o9 : Option PV) : Lc :=
  [some (.lst (ns.map .int)), some (.obj 0), some ms.pv, some (codeV 48 1 6 R []), some (codeV 48 1 N T' []), some (.lst (intsL tops)), o6, o7, o8, o9]

theorem law_end {ns : List Int} {s : Sr} {o6 o7 : Option PV} (hm : OkMS ms) (hR : R.length ≤ 100) (hT : T'.length ≤ 500) (hN : N ≤ 900) (hN1 : 1 ≤ N) {v : Int} {tr1 tr2 : List Tr} (h1 : Ex ms (BB ms) R 0 (start 6 [1]) v tr1) (h2 : Ex ms (BB ms) T' 0 (start N [1]) v tr2)
    (hf : tr1.filter Tr.ng = tr2.filter Tr.ng) (b1 : tr1.length ≤ 100) (b2 : tr2.length ≤ 100) (q : ∀ μ, Q (.bool true) μ) : wpSs (PhiN (n + 7)) lawTail9 (lawL ns R T' ms tops N o6 o7 none none) [sv s] (exitQ [] Q) := by
  unfold lawTail9 ce278
  dsimp only
  unfold wpSs
  unfold wpS
  unfold wpE
  dsimp only [wpE, wpEs, wpL]
  refine ⟨by simp, by simp, nofun, nofun, ?_⟩
  show wpSs _ _ (lawL ns R T' ms tops N o6 o7 (some (.obj 1)) (some (.obj 2))) [sv s, .lst [], .lst []] _
  unfold wpSs
  unfold wpS
  unfold wpT
  dsimp only [wpE, wpEs, wpL]
  refine ⟨_, rfl, _, rfl, by simp, _, rfl, _, rfl, ?_⟩
  refine run_ok' (n := n + 5) (xs := [1]) (c := 1) (cl := []) hm (by (exact Nat.le_trans ‹_› (by decide))) (fun {m xs y tr1 cl' μ' Q} z1 z2 z3 z4 z5 => ?_) (by decide) (by decide) h1 rfl (by simp; (exact Nat.le_trans ‹_› (by decide))) ?_
  · exact call_body (n := n + 3) hm (hm.at' m) (by have := z2.1; (exact Nat.le_trans ‹_› (by decide))) z2.2.2 z4 z3 z5
  refine ⟨_, rfl, _, rfl, by simp, _, rfl, _, rfl, ?_⟩
  refine run_ok' (n := n + 5) (xs := [1]) (c := 2) (cl := []) hm (by (exact Nat.le_trans ‹_› (by decide))) (fun {m xs y tr1 cl' μ' Q} z1 z2 z3 z4 z5 => ?_) (by simpa using hN1) hN h2 rfl (by simp; lia) ?_
  · exact call_body (n := n + 3) hm (hm.at' m) (by have := z2.1; (exact Nat.le_trans ‹_› (by decide))) z2.2.2 z4 z3 z5
  refine ne_same rfl (ite_f rfl ?_)
  show wpSs _ _ (lawL ns R T' ms tops N o6 o7 (some (.obj 1)) (some (.obj 2))) [sv s, .lst (tr1.map Tr.pv), .lst (tr2.map Tr.pv)] _
  dsimp only [wpSs, wpS, wpE, wpEs, wpL, wpI, wpO, wpT]
  have hfil : ∀ {Φ : Phi} {l : List Tr} {G : List AO → Prop} {μ : List AO} {Q : List PV → List AO → Prop}, G μ → Q ((l.filter Tr.ng).map Tr.pv) μ →
      compGo (fun l μ Q => ∃ v, l[0]? = some (some v) ∧ ([] : List PV).length ≤ 1000 ∧ cmpP .NotEq v (.lst []) fun c => Q c μ) (fun l μ Q => ∃ v, l[0]? = some (some v) ∧ Q v μ) [0] [none] G ((l.map Tr.pv).map fun x => [x]) [] μ Q := fun {Φ l G μ Q} hG hQ => by
    rw [List.map_map]
    refine comp_filterA (fun w : Tr => [w.pv]) Tr.ng Tr.pv hG l [] (fun w hw R hR => ⟨_, rfl, by simp, w.data 4, rfl, fun b hb => ?_⟩) (fun w hw R hR => ⟨_, rfl, hR⟩) (by simpa using hQ)
    have : b = w.ng := by
      rw [Bool.eq_iff_iff, hb, Ne, w.gap_iff]; simp
    rw [this]; exact hR
  refine ⟨nofun, _, rfl, tr1.map Tr.pv, rfl, by simp; (exact Nat.le_trans ‹_› (by decide)), rfl, ?_⟩
  refine hfil (Φ := PhiN (n + 7)) (by rfl) ⟨nofun, _, rfl, tr2.map Tr.pv, rfl, by simp; (exact Nat.le_trans ‹_› (by decide)), rfl, ?_⟩
  refine hfil (Φ := PhiN (n + 7)) (by rfl) ?_
  rw [hf]
  exact eq_same (trs_data 3 _) (end_ch rfl (.nil _) (q _))

theorem getN {l : List Nat} {i t : Nat} (h : l[i]? = some t) : (intsL l)[i]? = some (.int (t : Nat)) := by simp [intsL, h]

theorem law_checks {ns : List Int} {s : Sr} {o6 o7 o8 o9 : Option PV} (hm : OkMS ms) (hR : R.length ≤ 100) (F : Facts ms R T' tops N)
    (q : ∀ o6 o7, wpSs (PhiN (n + 7)) lawTail9 (lawL ns R T' ms tops N o6 o7 o8 o9) [sv s] (exitQ [] Q)) : wpSs (PhiN (n + 7)) lawTail5 (lawL ns R T' ms tops N o6 o7 o8 o9) [sv s] (exitQ [] Q) := by
  obtain ⟨hT, hto, hN, hN1⟩ := F.small
  unfold lawTail5 ce278
  dsimp only
  -- the length, the name, the arity
  unfold wpSs
  unfold wpS
  unfold wpT
  dsimp only [wpA, wpT, wpE, wpEs]
  obtain ⟨ds, hds⟩ := F.len
  have htl : tops.length = ds.length + 1 := by rw [hds]; simp
  refine ⟨_, rfl, _, rfl, attr_i (v := .tup (T'.map Row.pv)) (by decide) (by decide) rfl rfl (len_items (l := T'.map Row.pv) rfl (by simp; (exact Nat.le_trans ‹_› (by decide))) ⟨_, rfl, _, rfl, sub_last (l := intsL ds) (v := .int (T'.length : Nat)) ?_ (by simp [intsL]; lia) ?_⟩)⟩
  · show some (intsL tops) = _
    rw [hds]; simp [intsL]
  have el : (T'.map Row.pv).length = T'.length := by simp
  rw [el]
  refine ne_same rfl (ite_p rfl ⟨_, rfl, attr_i (v := .str 48) (by decide) (by decide) rfl rfl ⟨_, rfl, attr_i (v := .int 1) (by decide) (by decide) rfl rfl ⟨by simp, by simp, ne_same ?_ ?_⟩⟩⟩)
  · simp [isData, sTabLen]
  refine ite_p rfl (ite_f rfl ?_)
  -- the jumps
  show wpSs _ (.cons (.forr _ _ _) _) (lawL ns R T' ms tops N o6 o7 o8 o9) _ _
  unfold wpSs
  unfold wpS
  dsimp only [wpI, wpE]
  refine ⟨_, rfl, attr_i (v := .tup (R.map Row.pv)) (by decide) (by decide) rfl rfl ⟨R.map Row.pv, rfl, by simp; (exact Nat.le_trans ‹_› (by decide)), trivial, ?_⟩⟩
  have key : ∀ (todo done : List Row) (o6 o7 : Option PV) (Q' : SPost), done ++ todo = R → (∀ o6 o7, Q' .next (lawL ns R T' ms tops N o6 o7 o8 o9) [sv s]) →
      forGo (fun l μ Q => wpSs (PhiN (n + 7)) (.cons (.ite (.bop true (.cons (.cmp .Eq (.sub (.loc 7) (.cint 0)) (.cstr 14)) (.cons (.cmp .NotEq (.sub (.attr (.loc 4) 3) (.sub (.loc 5) (.loc 6))) (.tup (.cons (.cstr 14) (.cons (.sub (.loc 5) (.sub (.loc 7) (.cint 1))) .nil)))) .nil))) (.cons (.ret (.cbool false))
  .nil) .nil)
  (.cons (.ite (.bop true (.cons (.cmp .Eq (.sub (.loc 7) (.cint 0)) (.cstr 15)) (.cons (.cmp .NotEq (.sub (.attr (.loc 4) 3) (.sub (.loc 5) (.loc 6))) (.tup (.cons (.cstr 15) (.cons (.sub (.loc 7) (.cint 1)) (.cons (.sub (.loc 5) (.sub (.loc 7) (.cint 2))) .nil))))) .nil))) (.cons (.ret (.cbool false))
  .nil) .nil)
  .nil)) l μ Q) [6, 7] (fun _ => True) (numbered done.length (todo.map Row.pv)) (lawL ns R T' ms tops N o6 o7 o8 o9) [sv s] Q' := by
    intro todo
    induction todo with
    | nil => intro done o6 o7 Q' _ q; exact q o6 o7
    | cons x todo ih =>
      intro done o6 o7 Q' hd q
      have hx : R[done.length]? = some x := by rw [← hd]; simp
      have next := ih (done ++ [x]) (some (.int (done.length : Nat))) (some x.pv) Q' (by simpa using hd) q
      have e : (done ++ [x]).length = done.length + 1 := by simp
      rw [e] at next
      rw [List.map_cons]
      unfold numbered
      unfold forGo
      show wpSs _ _ (lawL ns R T' ms tops N (some (.int (done.length : Nat))) (some x.pv) o8 o9) _ _
      dsimp only [wpSs, wpS, wpT, wpE, wpEs, wpA]
      have w2 : (∀ a g, x ≠ .unless a g) → ∃ v, (lawL ns R T' ms tops N (some (.int (done.length : Nat))) (some x.pv) o8 o9)[7]? = some (some v) ∧ subP v (.int 0) [sv s] fun y μ₁ => cmpP .Eq y (.str 15) fun c => True → True := fun _ => ⟨_, rfl, sub_word (eq_word (by decide) (fun _ => trivial))⟩
      by_cases hg : ∃ g, x = .goto g
      · obtain ⟨g, rfl⟩ := hg
        obtain ⟨t, u, e1, e2, e3⟩ := F.jump _ g hx
        refine ⟨_, rfl, sub_word (eq_word (by decide) (ite_p rfl ⟨_, rfl, attr_i (v := .tup (T'.map Row.pv)) (by decide) (by decide) rfl rfl ⟨_, rfl, _, rfl, subP_nat (l := intsL tops) (v := .int (t : Nat)) rfl (by simp [intsL]; (exact Nat.le_trans ‹_› (by decide))) (getN e1) (subP_nat (l := T'.map Row.pv) (v := (Row.goto u).pv) rfl (by simp; (exact Nat.le_trans ‹_› (by decide))) (by simp [e3]) ⟨_, rfl, _, rfl, sub_part (i := 0) (p := .int g) rfl (subP_nat (l := intsL tops) (v := .int (u : Nat)) rfl (by simp [intsL]; (exact Nat.le_trans ‹_› (by decide))) (getN e2) ⟨by simp, ne_same ((Row.goto u).data 4) ?_⟩)⟩)⟩⟩))⟩
        refine ite_f rfl ⟨_, rfl, sub_word (eq_word (by decide) (ite_n (by simp [Row.word]) (ite_f rfl ⟨trivial, next⟩)))⟩
      · have hw14 : decide (x.word = 14) = false := by
          cases x <;> first | rfl | (exact absurd ⟨_, rfl⟩ hg)
        refine ⟨_, rfl, sub_word (eq_word (by decide) (ite_n (by rw [hw14]; decide) (ite_f rfl ?_)))⟩
        by_cases hu : ∃ a g, x = .unless a g
        · obtain ⟨a, g, rfl⟩ := hu
          obtain ⟨t, u, e1, e2, e3⟩ := F.cond _ a g hx
          refine ⟨_, rfl, sub_word (eq_word (by decide) (ite_p rfl ⟨_, rfl, attr_i (v := .tup (T'.map Row.pv)) (by decide) (by decide) rfl rfl ⟨_, rfl, _, rfl, subP_nat (l := intsL tops) (v := .int (t : Nat)) rfl (by simp [intsL]; (exact Nat.le_trans ‹_› (by decide))) (getN e1) (subP_nat (l := T'.map Row.pv) (v := (Row.unless a u).pv) rfl (by simp; (exact Nat.le_trans ‹_› (by decide))) (by simp [e3]) ⟨_, rfl, sub_part (i := 0) (p := .int a) rfl ⟨_, rfl, _, rfl, sub_part (i := 1) (p := .int g) rfl (subP_nat (l := intsL tops) (v := .int (u : Nat)) rfl (by simp [intsL]; (exact Nat.le_trans ‹_› (by decide))) (getN e2) ⟨by simp, ne_same ((Row.unless a u).data 4) ?_⟩)⟩⟩)⟩⟩))⟩
          exact ite_f rfl ⟨trivial, next⟩
        · have hw15 : decide (x.word = 15) = false := by
            cases x <;> first | rfl | (exact absurd ⟨_, _, rfl⟩ hu)
          exact ⟨_, rfl, sub_word (eq_word (by decide) (ite_n (by rw [hw15]; decide) (ite_f rfl ⟨trivial, next⟩)))⟩
  refine key R [] o6 o7 _ rfl fun o6 o7 => ?_
  show wpSs _ _ (lawL ns R T' ms tops N o6 o7 o8 o9) _ _
  -- no method left that could be put in
  unfold wpSs
  unfold wpS
  dsimp only [wpT, wpE, wpEs, wpL, wpI, wpO, wpA]
  refine ⟨fun p hp => ?_, _, rfl, attr_i (v := .tup (T'.map Row.pv)) (by decide) (by decide) rfl rfl ⟨by simp; (exact Nat.le_trans ‹_› (by decide)), trivial, ?_⟩⟩
  · simp only [List.mem_singleton] at hp; subst hp; exact ⟨_, rfl⟩
  rw [List.map_map]
  refine comp_filterA (fun x : Row => [x.pv]) (fun _ => false) Row.pv trivial T' [] (fun x hx R hR => ?_) (fun x hx R hR => ⟨_, rfl, hR⟩) ?_
  · by_cases hi : ∃ d m as, x = .invoke d m as
    · obtain ⟨d, m, as, rfl⟩ := hi
      obtain ⟨hk, h3⟩ := F.row _ hx d m as rfl
      have has := F.calls _ hx d m as (.inr rfl)
      refine ⟨_, rfl, sub_word (eq_word (by decide) (ite_p rfl ⟨_, rfl, _, rfl, _, rfl, kept_ok hm h3 has ⟨_, rfl, ?_⟩⟩))⟩
      rw [hk]
      exact ite_n (by decide) hR
    · have hw : decide (x.word = 23) = false := by
        cases x <;> first | rfl | (exact absurd ⟨_, _, _, rfl⟩ hi)
      exact ⟨_, rfl, sub_word (eq_word (by decide) (ite_n (by rw [hw]; decide) hR))⟩
  have ef : (T'.filter fun _ => false) = [] := by simp
  rw [ef]
  refine ⟨by simp, ne_same rfl (ite_f rfl ?_)⟩
  -- the slots
  show wpSs _ (.cons (.ite _ _ _) _) (lawL ns R T' ms tops N o6 o7 o8 o9) _ _
  unfold wpSs
  unfold wpS
  dsimp only [wpT, wpE, wpEs, wpL, wpI, wpO, wpA]
  refine ⟨fun p hp => ?_, _, rfl, attr_i (v := .tup (T'.map Row.pv)) (by decide) (by decide) rfl rfl ⟨by simp; (exact Nat.le_trans ‹_› (by decide)), trivial, ?_⟩⟩
  · simp only [List.mem_singleton] at hp; subst hp; exact ⟨_, rfl⟩
  rw [List.map_map]
  refine comp_filterA (fun x : Row => [x.pv]) (fun _ => false) Row.pv trivial T' [] (fun x hx R hR => ?_) (fun x hx R hR => ⟨_, rfl, hR⟩) ?_
  · have hregs := F.regs x hx
    have hrl : x.regs.length ≤ 12 := by
      have := F.calls x hx
      cases x with
      | call d f as => have := this d f as (.inl rfl); simp [Row.regs]; assumption
      | invoke d f as => have := this d f as (.inr rfl); simp [Row.regs]; (exact Nat.le_succ_of_le ‹_›)
      | _ => simp [Row.regs]
    refine ⟨_, rfl, _, rfl, _, rfl, regs_ok (fun d f as e => F.calls x hx d f as e) ⟨by simp, add_lists (l := intsL x.regs) (m := [.int 0]) rfl rfl (by simp [intsL]; (exact Nat.le_trans ‹_› (by decide))) (.inr ⟨_, x.regs.map (fun n : Nat => (n : Int)) ++ [0], rfl, ?_, by simp, fun M hM _ => ⟨_, rfl, attr_i (v := .int N) (by decide) (by decide) rfl rfl ⟨_, _, rfl, rfl, ?_⟩⟩⟩)⟩⟩
    · have := intsOf_map (x.regs.map (fun n : Nat => (n : Int)) ++ [0])
      rw [List.map_append, List.map_map] at this
      exact this
    · have hlt : ¬ (M ≥ (N : Int)) := by
        rcases List.mem_append.mp hM with hM | hM
        · obtain ⟨g, hg, rfl⟩ := List.mem_map.mp hM
          have := hregs g hg
          (simp [*])
        · have : M = 0 := by simpa using hM
          lia
      rw [decide_eq_false hlt]
      exact hR
  rw [ef]
  refine ⟨by simp, ne_same rfl (ite_f rfl ?_)⟩
  exact q o6 o7
end

theorem law_plain {n : Nat} (ns : List Int) (h : ns.length ≤ 63) : PhiN (n + 8) 278 [.lst (ns.map .int)] [] (fun v _ => v = .bool true) := by
  refine phi_fn [some (.lst (ns.map .int)), none, none, none, none, none, none, none, none, none] rfl rfl rfl rfl ?_
  show wpSs _ ce278 _ _ _
  unfold ce278
  unfold wpSs
  dsimp only [wpS, wpE, wpEs]
  refine ⟨_, rfl, _, rfl, source_ok h fun s => ⟨fun _ => rfl, ?_⟩⟩
  unfold wpSs
  dsimp only [wpS, wpE, wpEs, wpL, wpI]
  refine ⟨fun p hp => ?_, 0, 3, rfl, rfl, by decide, by decide, trivial, ?_⟩
  · simp only [List.mem_singleton] at hp; subst hp; exact ⟨_, rfl⟩
  show compGo _ _ [0] [none, some (.obj 0)] _ [[.int 0], [.int 1], [.int 2]] [] _ _
  unfold compGo
  unfold wpO
  refine ite_t rfl ⟨_, rfl, _, rfl, _, rfl, meth_gen (n := n + 4) (num := 0) fun a s1 ga => ⟨trivial, ?_⟩⟩
  unfold compGo
  unfold wpO
  refine ite_t rfl ⟨_, rfl, _, rfl, _, rfl, meth_gen (n := n + 4) (num := 1) fun b s2 gb => ⟨trivial, ?_⟩⟩
  unfold compGo
  unfold wpO
  refine ite_t rfl ⟨_, rfl, _, rfl, _, rfl, meth_gen (n := n + 4) (num := 2) fun c s3 gc => ⟨trivial, ?_⟩⟩
  unfold compGo
  let ms : MS := ⟨a, b, c⟩
  have gen : ∀ m, GenM (ms.at m) := fun m => by
    match m with
    | 0 => exact ga
    | 1 => exact gb
    | m + 2 => exact gc
  have hm : OkMS ms := ⟨fun m => (gen m).ok⟩
  refine ⟨fun _ => rfl, ?_⟩
  show wpSs _ (.cons (.asg _ _ _) _) [some (.lst (ns.map .int)), some (.obj 0), some ms.pv, none, none, none, none, none, none, none] [sv s3] _
  unfold wpSs
  dsimp only [wpS, wpE, wpEs]
  refine ⟨_, rfl, _, rfl, _, rfl, _, rfl, main_gen (n := n + 4) fun rows s4 hg => ⟨_, rows.map Row.pv, rfl, rfl, ?_, ?_⟩⟩
  · obtain ⟨items, r, rfl, hr, hl, hit⟩ := hg.eq
    simp [head6]; lia
  obtain ⟨items, r, rfl, hr, hl, hit⟩ := hg.eq
  have S : Setup ms items r := ⟨gen, hr, hl, hit⟩
  have F := facts S
  have hRl : (RR items r).length = items.length + 7 := RR_len
  have hmain := RR_main S
  obtain ⟨v, tr1, tr2, e1, e2, ef, b1, b2⟩ := run_both S
  have hi := inl_eq ms (RR items r) [] [] 6
  rw [List.nil_append, List.nil_append] at hi
  have hflat := flat_ok hm (RR items r) 6 (Nat.le_refl _) hmain
  have hPl : (PP ms (RR items r)).length = (RR items r).length := PP_len _
  have hTl : ((blks ms 6 (RR items r)).flatten).length ≤ 500 := by
    have := F.small.1
    rw [TT, List.length_map] at this
    exact this
  refine code_ok4 (n := n + 5) (nm := 48) (ar := 1) (sl := 6) (rows := RR items r) (by lia) ⟨nofun, ?_⟩
  show wpSs _ (.cons (.asg2 _ _ _ _ _ _) _) [some (.lst (ns.map .int)), some (.obj 0), some ms.pv, some (codeV 48 1 6 (RR items r) []), none, none, none, none, none, none] [sv s4] _
  unfold wpSs
  dsimp only [wpS, wpE, wpEs]
  refine ⟨_, rfl, _, rfl, _, rfl, inlined_ok (n := n + 1) hm (fun x hx => (hmain x hx).1.1) (by lia) hi (fun x hx => ?_) hTl ?_ ?_⟩
  · show x.goalIn (PP ms (RR items r)).length
    rw [hPl]
    exact (hflat x hx).goal
  · show (PP ms (RR items r)).length ≤ 500
    omega
  refine ⟨_, rfl, _, rfl, _, rfl, attr_i (v := .tup ((RR items r).map Row.pv)) (by decide) (by decide) rfl rfl ⟨_, (RR items r).map Row.pv, rfl, rfl, by simp; lia, _, rfl, tops_ok (n := n + 5) hm (fun x hx => (hmain x hx).1.1) (by lia) ⟨fun _ => rfl, nofun, ?_⟩⟩⟩
  exact law_checks (n := n) (o6 := none) (o7 := none) hm (by lia) F fun o6 o7 => law_end hm (by lia) F.small.1 F.small.2.2.1 F.small.2.2.2 e1 e2 ef b1 b2 fun μ => rfl

/- MTop -/


theorem den_ints {Λ : List LamT} {ρ : Rho} {h : Heap} {vs : List Value} {ns : List Int} (hI : IntsAre vs ns) : VDens Λ ρ h (ns.map .int) vs := by
  induction hI with
  | nil => exact .nil
  | cons n t _ ih => exact .cons (.int n t) ih

noncomputable def notabs (P : Params) : Bool := noTabs (KK P)
theorem notabs_ok (P : Params) : notabs P = true := by kernel_rfl
noncomputable def lawAt (P : Params) : Bool := nsIn (KK P) mainGlobals (Str.ofString "law") == some (some (.ref 278))
theorem lawAt_ok (P : Params) : lawAt P = true := by kernel_rfl

theorem callerRoom : Room 25 callerA := ⟨rfl, by decide +kernel, by decide +kernel⟩

theorem top_walk {prog : Program} {w : World} {s1 : Shared} {mg mb : Str → Option Value} {pp : Program} {loose : List Str} {mean : ExcName → Option Value} (KX : (KK w.params).In s1.heap) (hg : s1.gens = #[])
    (T : Top pp loose mean mg mb s1.heap) (hT9 : TabsAt [(155, 151), (122, 120)] s1.heap) {fa : Addr} (hmg : mg (Str.ofString "law") = some (.ref fa)) {l : Addr} {vs : List Value} {ns : List Int} (hL : s1.heap.IsList l vs.toArray) (hI : IntsAre vs ns) (hlen : ns.length ≤ 63) :
    codeAny (model prog w) callerA (.call (.ref fa) ⟨[.ref l], []⟩) (fun r s' => r = .ok (.ret (.bool true)) ∧ (∀ b o, (ghostOf s1.heap [(155, 151), (122, 120)]).get? b = some o → s'.heap.get? b = some o) ∧ s'.os = s1.os ∧ s'.gens = #[] ∧ GrownAll [(155, 151), (122, 120)] s'.heap) s1 := by
  have gd : Gd w (ghostOf s1.heap [(155, 151), (122, 120)]) := by
    have hc := ghost_code hT9
    exact ⟨ghost_K hT9 KX (notabs_ok w.params), ⟨_, _, _, _, _, ghost_top hT9 T⟩, hc.1, hc.2.1⟩
  have e278 : mg (Str.ofString "law") = some (.ref 278) := mg_of KX T.g (beq_iff_eq.mp (lawAt_ok w.params))
  rw [hmg] at e278
  cases e278
  have hT8 : ∀ P ∈ tabA, s1.heap.get? P = some (tabObj #[]) := fun P hP => by
    simp only [tabA, List.mem_cons, List.not_mem_nil, or_false] at hP
    rcases hP with rfl | rfl
    · exact (hT9 _ (.head _)).2
    · exact (hT9 _ (.tail _ (.head _))).2
  have S : Sees (ghostOf s1.heap [(155, 151), (122, 120)]) LAM ⟨[], []⟩ [] s1 := {
    base := fun b o e => of_hideAll _ e
    apart := fun b hb => by
      rcases hb with hb | hb | hb
      · exact absurd hb (by simp [ofoot])
      · exact absurd hb (by simp)
      · exact hideAll_none _ hb
    frlt := fun b hb => by cases hb
    frof := fun b hb => by cases hb
    tabof := fun b hb => ⟨by simp [ofoot], by simp⟩
    len := rfl
    objs := fun n p o h1 h2 => by simp at h2
    dist := fun n m p q h1 h2 => by simp at h1
    tabs := fun P hP => ⟨#[], hT8 P hP, trivial, fun L hL hp => .inl rfl⟩
    gens := hg }
  have dl : VDen LAM ⟨[], []⟩ s1.heap (.lst (ns.map .int)) (.ref l) := by
    refine .lst ⟨by simp [ofoot], by simp, fun m => ?_⟩ hL (den_ints hI)
    obtain ⟨o, e, hc, _⟩ := hL
    rw [hT8 l m] at e
    cases e; cases hc
  rcases law_plain (n := 12) ns hlen with ⟨e, he, h1, h2, h3⟩ | ⟨f, hf, _⟩
  · refine codeAny_mono (fn_code (K := cxN prog w _ gd 19 (phi_ok gd 19)) ⟨rfl, Nat.succ_le_succ (Nat.zero_le _)⟩ (mem_of_lookup' he) (callerRoom.mono (by show 20 + 1 ≤ 25; omega)) S (.cons dl .nil) h1 h2 h3) fun r s' hr => ?_
    rcases r with e | (v | _ | _ | _)
    · exact hr.elim
    all_goals first | exact hr.elim | skip
    obtain ⟨ρ', p, μ', st, S', dp, rfl⟩ := hr
    obtain rfl := dp.inv
    refine ⟨rfl, S'.base, st.os, S'.gens, ?_, ?_, trivial⟩
    · obtain ⟨ps, e, _⟩ := S'.tabs 151 (.head _)
      exact ⟨ps, e⟩
    · obtain ⟨ps, e, _⟩ := S'.tabs 120 (.tail _ (.head _))
      exact ⟨ps, e⟩
  · have m := mem_of_lookup' hf
    simp only [clsTab, List.mem_cons, List.not_mem_nil, or_false, Prod.mk.injEq] at m
    rcases m with ⟨q, _⟩ | ⟨q, _⟩ | ⟨q, _⟩ <;> exact absurd q (by decide)

set_option tactic.hygienic true in
theorem top_law : PySem.Challenge.rw_pq0692_01.Holds := by
  w_on
  refine holds_law said_ok fun said => ?_
  refine holds_open (q := view) (loose := loo) (Xt := xt) (XP := XL view []) (Yf := hookK.obs) (Ya := hookK.val) (YP := hookK.says) (N := 4992) left_ok hookK.of hookK.keeps (fun s e => xl_of s (Bool.and_eq_true_iff.mp e).1) XL.keeps (by rfl) (by rfl) (by rfl) (fun s e => recFacts_of (Bool.and_eq_true_iff.mp e).2) (by rfl)
    (by first | assumption | decide +kernel) (by decide +kernel) ⟨rfl, rfl, rfl, rfl, rfl, by decide +kernel⟩ ?hw ?hc
  case hw => w_witness2
  case hc =>
    intro w s0 s1 mg mb G Y fa o pm cd doc dV kV ho hd hcd hD hmg hg args vals as hpre hlay hrd hwl hlo
    have Y' : (kmHook KK asK.1 asK.2 [151, 120]).says w s1.heap := Y
    have KX := km_in_of Y'
    have hT8 := km_tabs_of Y'
    have hT9 : TabsAt [(155, 151), (122, 120)] s1.heap := List.forall_mem_cons.mpr ⟨⟨codeHd_of_K (c := 155) (P := 151) KX (by kernel_rfl), hT8 151 (.head _)⟩, List.forall_mem_cons.mpr ⟨⟨codeHd_of_K (c := 122) (P := 120) KX (by kernel_rfl), hT8 120 (.tail _ (.head _))⟩, fun _ h => nomatch h⟩⟩
    refine Ground.open G ?_
    intro T B D TE TW
    try (refine guard_noD D (by decide +kernel) ?_; clear D)
    wrow_args hpre hlay hrd hwl hlo
    refine enter_call ?_
    w_top on
    refine kn_post (tabs := [(155, 151), (122, 120)]) hT9 (fun _ _ => rfl) ?_
    rename_i ns _ _ _ _ _ _ _ l vs _ hL _ _ _ hI _ hlen _
    refine codeAny_mono (top_walk KX hg T hT9 hmg hL hI (by omega)) fun r s' hr => ?_
    obtain ⟨rfl, h1, h2, h3, h4⟩ := hr
    refine ⟨⟨.inl ⟨_, .bool true, [], rfl, fun _ => rfl, .bool true, ?_, fun _ => ⟨by simp, by simp⟩⟩, h1, h2, h3⟩, h4⟩
    refine postW_of (X := true) ?_ ?_ rfl
    · rfl
    · show WTm.value _ (.eq .res (.lit (.bool true))) _ = _
      simp [WTm.value, PySem.W.same]

end Mine.Internal

theorem PySem.Challenge.cw_pq0692_01_holds : PySem.Challenge.rw_pq0692_01.Holds :=
  Mine.Internal.top_law
