import PyProof.Rows.All
import Wide.All
import OpenK.AllK
import Wide.FinOn
import PySem.Challenge.RW_rr0021_01
set_option Elab.async false
set_option maxRecDepth 100000
set_option linter.unusedVariables false
set_option linter.unusedSimpArgs false
set_option maxHeartbeats 8000000
namespace Mine
section
open PySem PySem.W PyProof.Rows
noncomputable def vw : Program := { PySem.Challenge.pw_rr0021_01 with main := { PySem.Challenge.pw_rr0021_01.main with body := [PySem.Challenge.pw_rr0021_01.main.body[44]] } }
noncomputable def others : List Str := (PySem.Challenge.pw_rr0021_01.main.scope.names.map (·.1)).filter fun x => !(x == Str.ofString "law") && !startupNames.contains x
noncomputable abbrev rowP : Program := PySem.Challenge.rw_rr0021_01.row.toRowW.prog
theorem said1 : PySem.W.Fast.tw8377067652309620493 rowP = true := by kernel_rfl
theorem said2 : namesResolve rowP = true := (congrFun PySem.W.Fast.te8377067652309620493 _).trans said1
theorem said3 : (["vars", "dir", "locals"] : List Str).filter (readsOut rowP rowP.main.body) = [] := by kernel_rfl
theorem said4 : PySem.W.Fast.tw8326940854005059898 { strict := !(importedModules rowP.main.body).all cThrough.contains, foot := none, bare := [] } rowP.main.body = true := by kernel_rfl
theorem said5 : noRoadLSs { strict := !(importedModules rowP.main.body).all cThrough.contains, foot := none, bare := (["vars", "dir", "locals"] : List Str).filter (readsOut rowP rowP.main.body) } rowP.main.body = true := by
  rw [said3]; exact (congrFun (congrFun PySem.W.Fast.te8326940854005059898 _) _).trans said4
theorem said6 : (PySem.W.Fast.tw17119622794617984870 rowP rowP.main.body fun _ n => attrL n) = true := by kernel_rfl
theorem said7 : (namesMeet rowP rowP.main.body fun _ n => attrL n) = true := (congrFun (congrFun (congrFun PySem.W.Fast.te17119622794617984870 _) _) _).trans said6
theorem said8 : looksOpen rowP = true := by
  delta looksOpen
  refine look_both (look_both (look_both (look_both (look_both ?_ ?_) said2) ?_) said5) said7
  all_goals kernel_rfl
theorem said9 : PySem.Challenge.rw_rr0021_01.row.wellSaid = true := by
  delta OpenRow.wellSaid OpenRow.partSaid
  iterate 15 refine look_both ?_ ?_
  · exact said8
  all_goals kernel_rfl
theorem said0 : PySem.Challenge.rw_rr0021_01.wellSaid = true := by
  delta OpenLaw.wellSaid
  iterate 18 refine look_both ?_ ?_
  · exact said9
  all_goals kernel_rfl
theorem opens0 : opening PySem.Challenge.pw_rr0021_01 = plainProg PySem.Challenge.pw_rr0021_01.main.scope.names := by kernel_rfl
theorem fence0 (s : Shared) : fenceModules? PySem.Challenge.pw_rr0021_01 s = some s := by kernel_rfl
theorem left_of {p q : Program} {loose : List Str} {Xt : Shared → Bool} {α : Type} {Yf : Shared → α} {Ya : World → α} {N : Nat} {H : Params → Heap} {gs : Array GenState} {d : Drawn} {k : Nat}
    (b : ∀ w : World, (fencedOpening treeTable p w N).map (fun s => (s.heap, s.gens, s.drawn, s.toks)) = some (H w.params, gs, d, k))
    (h : ∀ (w : World) (os : OsState), (topFrom treeTable p w N ⟨H w.params, gs, d, k, os⟩).map (fun s => (openSeen q loose (importedModules p.main.body) Xt true s, Yf s)) = some (openGood q loose, Ya w)) : LeftO p q loose Xt Yf Ya N := fun w => by
  obtain ⟨⟨_, _, _, _, os⟩, e, e'⟩ := Option.map_eq_some_iff.mp (b w)
  cases e'
  unfold openEnds
  rw [e]
  exact h w os
local macro_rules
  | `(tactic| o_law) => `(tactic| refine holds_law said0 fun said => ?_)
local macro_rules
  | `(tactic| o_head $H) => `(tactic| (
    refine holds_open (q := vw) (loose := others) (Xt := fun s => xlAt vw [] s && recOk (RowW.records PySem.Challenge.rw_rr0021_01.row.toRowW) s) (XP := XL vw []) (Yf := Hook.obs $H) (Ya := Hook.val $H) (YP := Hook.says $H) (N := 2500) ?hl (Hook.of $H) (Hook.keeps $H) (fun s e => xl_of s (Bool.and_eq_true_iff.mp e).1) XL.keeps (by rfl) (by rfl) (by rfl) (fun s e => recFacts_of (Bool.and_eq_true_iff.mp e).2) (by rfl) (by first | assumption | decide +kernel) (by decide +kernel) ⟨rfl, rfl, rfl, rfl, rfl, by decide +kernel⟩ ?hw ?hc
    case hl =>
      refine left_of (boot_open opens0 rfl fence0) fun w os => ?_
      unfold topFrom
      rw [PySem.W.Fast.te14082659384304107361, PySem.W.Fast.te14364793385576792824, PySem.W.Fast.te4187177175401517315]
      kernel_rfl))
open_top hd for PySem.Challenge.rw_rr0021_01
end
end Mine

namespace Mine
open PySem PySem.W PySem.Calls PyProof.Rows PySem.Spec
theorem ofString_inj {a b : String} (h : Str.ofString a = Str.ofString b) : a = b := by
  rw [Str.ofString_eq_toList, Str.ofString_eq_toList] at h
  have h1 : a.toList.map Char.toNat = b.toList.map Char.toNat := by
    have := congrArg (fun x : Str => x.cps.toList) h
    simpa using this
  have h2 : a.toList = b.toList := by
    refine (List.map_inj_right (f := Char.toNat) ?_).mp h1
    intro x y hxy
    exact Char.toNat_inj.mp hxy
  exact String.toList_inj.mp h2
theorem ofString_ne {a b : String} (h : a ≠ b) : Str.ofString a ≠ Str.ofString b := fun e => h (ofString_inj e)
theorem ofString_eq_iff {a b : String} : Str.ofString a = Str.ofString b ↔ a = b := ⟨ofString_inj, fun h => h ▸ rfl⟩
inductive PV where
  | none
  | bool (b : Bool)
  | int (i : Int)
  | str (x : Str)
  | tup (l : List PV)
  | ref (a : Addr)
  | scr (ns : List Int)
  | typ (s : String)
inductive DK where
  | int (i : Int)
  | tup (l : List Int)
  | str (x : Str)
  deriving DecidableEq
noncomputable abbrev PEnv := String → Option PV
noncomputable def PEnv.set (ρ : PEnv) (x : String) (v : PV) : PEnv := fun y => cond (y == x) (some v) (ρ y)
theorem PEnv.set_b (ρ : PEnv) (x y : String) (v : PV) : ρ.set x v y = cond (y == x) (some v) (ρ y) := rfl
theorem PEnv.set_same (ρ : PEnv) (x : String) (v : PV) : ρ.set x v x = some v := by rw [PEnv.set_b, beq_self_eq_true]; rfl
theorem PEnv.set_ne (ρ : PEnv) {x y : String} (v : PV) (h : y ≠ x) : ρ.set x v y = ρ y := by rw [PEnv.set_b, beq_eq_false_iff_ne.mpr h]; rfl
theorem PEnv.set_get (ρ : PEnv) (x y : String) (v : PV) : ρ.set x v y = if y = x then some v else ρ y := by
  by_cases h : y = x
  · rw [if_pos h, h, PEnv.set_same]
  · rw [if_neg h, PEnv.set_ne _ _ h]
inductive AObj where
  | list (l : List PV)
  | dict (kvs : List (DK × PV))
  | attrs (m : PEnv)
  | inst (C d : Addr)
noncomputable abbrev Sto := Addr → Option AObj
noncomputable def Sto.set (σ : Sto) (a : Addr) (o : AObj) : Sto := fun b => if b = a then some o else σ b
theorem Sto.set_same (σ : Sto) (a : Addr) (o : AObj) : σ.set a o a = some o := if_pos rfl
theorem Sto.set_ne (σ : Sto) {a b : Addr} (o : AObj) (h : b ≠ a) : σ.set a o b = σ b := if_neg h
noncomputable def attrNames : List String := ["arity", "codes", "rows", "chains", "known", "next_label", "functor", "key", "instrs", "used"]
noncomputable abbrev tupObj (vs : Array Value) (n : Nat) : Obj := { cls := .type "tuple", data := .seq vs n }
noncomputable abbrev lstObj (vs : Array Value) (n : Nat) : Obj := { cls := .type "list", data := .seq vs n }
noncomputable abbrev dctObj (es : Array DictEntry) (n : Nat) : Obj := { cls := .type "dict", data := .dict es n }
mutual
inductive VR (B h : Heap) : Value → PV → Prop
  | none : VR B h .none .none
  | bool (b) : VR B h (.bool b) (.bool b)
  | int (i t) : VR B h (.int i t) (.int i)
  | str (x t) : VR B h (.str x t) (.str x)
  | tup {a vs n l} : h.get? a = some (tupObj vs n) → VRs B h vs.toList l → VR B h (.ref a) (.tup l)
  | ref (a) : VR B h (.ref a) (.ref a)
  | scr {a vs ns} : B.IsList a vs.toArray → IntsAre vs ns → ns.length ≤ 63 → VR B h (.ref a) (.scr ns)
  | typ (x) : VR B h (.type x) (.typ x)
inductive VRs (B h : Heap) : List Value → List PV → Prop
  | nil : VRs B h [] []
  | cons {v vs p ps} : VR B h v p → VRs B h vs ps → VRs B h (v :: vs) (p :: ps)
end
theorem VRs.nil_inv {B h : Heap} {vs : List Value} (r : VRs B h vs []) : vs = [] := by cases r; rfl
theorem VRs.cons_inv {B h : Heap} {vs : List Value} {p : PV} {ps : List PV} (r : VRs B h vs (p :: ps)) : ∃ v ws, vs = v :: ws ∧ VR B h v p ∧ VRs B h ws ps := by cases r with | cons a b => exact ⟨_, _, rfl, a, b⟩
theorem VRs.length {B h : Heap} {vs : List Value} {ps : List PV} (r : VRs B h vs ps) : vs.length = ps.length := by
  induction ps generalizing vs with
  | nil => rw [r.nil_inv]; rfl
  | cons p ps ih => obtain ⟨v, ws, rfl, a, b⟩ := r.cons_inv; rw [List.length_cons, List.length_cons, ih b]
theorem VRs.get {B h : Heap} {vs : List Value} {ps : List PV} (r : VRs B h vs ps) {i : Nat} {p : PV} (e : ps[i]? = some p) : ∃ v, vs[i]? = some v ∧ VR B h v p := by
  induction ps generalizing vs i with
  | nil => cases e
  | cons q ps ih =>
    obtain ⟨v, ws, rfl, a, b⟩ := r.cons_inv
    cases i with
    | zero => cases e; exact ⟨_, rfl, a⟩
    | succ i => exact ih b e
theorem VRs.get' {B h : Heap} {vs : List Value} {ps : List PV} (r : VRs B h vs ps) {i : Nat} {v : Value} (e : vs[i]? = some v) : ∃ p, ps[i]? = some p ∧ VR B h v p := by
  induction ps generalizing vs i with
  | nil => rw [r.nil_inv] at e; cases e
  | cons q ps ih =>
    obtain ⟨v, ws, rfl, a, b⟩ := r.cons_inv
    cases i with
    | zero => cases e; exact ⟨_, rfl, a⟩
    | succ i => exact ih b e
theorem VRs.append {B h : Heap} {vs ws : List Value} {ps qs : List PV} (r : VRs B h vs ps) (s : VRs B h ws qs) : VRs B h (vs ++ ws) (ps ++ qs) := by
  induction ps generalizing vs with
  | nil => rw [r.nil_inv]; exact s
  | cons p ps ih => obtain ⟨v, us, rfl, a, b⟩ := r.cons_inv; exact .cons a (ih b)
theorem VRs.take {B h : Heap} (n : Nat) {vs : List Value} {ps : List PV} (r : VRs B h vs ps) : VRs B h (vs.take n) (ps.take n) := by
  induction ps generalizing vs n with
  | nil => rw [r.nil_inv, List.take_nil, List.take_nil]; exact .nil
  | cons p ps ih =>
    obtain ⟨v, us, rfl, a, b⟩ := r.cons_inv
    cases n with
    | zero => exact .nil
    | succ n => exact .cons a (ih n b)
theorem VRs.reverse {B h : Heap} {vs : List Value} {ps : List PV} (r : VRs B h vs ps) : VRs B h vs.reverse ps.reverse := by
  induction ps generalizing vs with
  | nil => rw [r.nil_inv]; exact .nil
  | cons p ps ih =>
    obtain ⟨v, us, rfl, a, b⟩ := r.cons_inv
    rw [List.reverse_cons, List.reverse_cons]
    exact (ih b).append (.cons a .nil)
theorem VRs.ints {B h : Heap} {vs : List Value} {ns : List Int} (r : IntsAre vs ns) : VRs B h vs (ns.map PV.int) := by
  induction r with
  | nil => exact .nil
  | cons n t r ih => exact .cons (.int n t) ih
theorem VRs.toInts {B h : Heap} {vs : List Value} {ns : List Int} (r : VRs B h vs (ns.map PV.int)) : IntsAre vs ns := by
  induction ns generalizing vs with
  | nil => rw [VRs.nil_inv r]; exact .nil
  | cons n ns ih =>
    obtain ⟨v, us, rfl, a, b⟩ := VRs.cons_inv r
    obtain ⟨t, rfl⟩ : ∃ t, v = .int n t := by cases a; exact ⟨_, rfl⟩
    exact .cons n t (ih b)
theorem VR.keep {B h h' : Heap} (k : ∀ a vs n, h.get? a = some (tupObj vs n) → h'.get? a = some (tupObj vs n)) {v : Value} {p : PV} (r : VR B h v p) : VR B h' v p :=
  VR.rec (motive_1 := fun v p _ => VR B h' v p) (motive_2 := fun vs ps _ => VRs B h' vs ps) .none .bool .int .str (fun e _ r => .tup (k _ _ _ e) r) .ref (fun e r l => .scr e r l) .typ .nil (fun _ _ a b => .cons a b) r
theorem VRs.keep {B h h' : Heap} (k : ∀ a vs n, h.get? a = some (tupObj vs n) → h'.get? a = some (tupObj vs n)) {vs : List Value} {ps : List PV} (r : VRs B h vs ps) : VRs B h' vs ps :=
  VRs.rec (motive_1 := fun v p _ => VR B h' v p) (motive_2 := fun vs ps _ => VRs B h' vs ps) .none .bool .int .str (fun e _ r => .tup (k _ _ _ e) r) .ref (fun e r l => .scr e r l) .typ .nil (fun _ _ a b => .cons a b) r
section
variable (prog : Program) (w : World) (B h : Heap)
noncomputable def AR (m' : Str → Option Value) (m : PEnv) : Prop := ∀ x : String, match m x with
  | some p => ∃ v, m' (Str.ofString x) = some v ∧ VR B h v p
  | none => m' (Str.ofString x) = none
noncomputable def DRel (a : Addr) (kvs : List (DK × PV)) : Prop :=
  (∃ xs : List (Int × Value × PV), kvs = xs.map (fun x => (DK.int x.1, x.2.2)) ∧ h.DictOf (intKind prog w) a (xs.map fun x => (x.1, x.2.1)) ∧ ∀ x ∈ xs, VR B h x.2.1 x.2.2) ∨
  (∃ xs : List (List Int × Addr × Value × PV), kvs = xs.map (fun x => (DK.tup x.1, x.2.2.2)) ∧ h.DictOfH (tupleKind (intKind prog w)) a (xs.map fun x => (x.1, x.2.1, x.2.2.1)) ∧ ∀ x ∈ xs, VR B h x.2.2.1 x.2.2.2) ∨
  (∃ xs : List (Str × Value × PV), kvs = xs.map (fun x => (DK.str x.1, x.2.2)) ∧ h.DictOf (strKind prog w) a (xs.map fun x => (x.1, x.2.1)) ∧ ∀ x ∈ xs, VR B h x.2.1 x.2.2)
noncomputable def ORel (a : Addr) : AObj → Prop
  | .list l => ∃ vs n, h.get? a = some (lstObj vs n) ∧ VRs B h vs.toList l
  | .dict kvs => DRel prog w B h a kvs
  | .attrs m => ∃ m', h.Ns1 a m' ∧ AR B h m' m ∧ Within m' (attrNames.map Str.ofString)
  | .inst C d => h.get? a = some (instObj C d)
structure St (σ : Sto) : Prop where
  base : ∀ b o, B.get? b = some o → h.get? b = some o
  off : ∀ a, σ a ≠ none → B.get? a = none ∧ (a == sysModules) = false
  main : ∃ o, B.get? mainGlobals = some o
  objs : ∀ a o, σ a = some o → ORel prog w B h a o
end
section
variable {prog : Program} {w : World} {B h h' : Heap}
theorem AR.keep (k : ∀ a vs n, h.get? a = some (tupObj vs n) → h'.get? a = some (tupObj vs n)) {m' : Str → Option Value} {m : PEnv} (x : AR B h m' m) : AR B h' m' m := fun y => by
  have := x y
  cases q : m y with
  | none => rw [q] at this; exact this
  | some p => rw [q] at this; obtain ⟨v, e, r⟩ := this; exact ⟨v, e, r.keep k⟩
noncomputable def IsTupO (o : Obj) : Prop := o.cls = .type "tuple" ∧ ∃ vs n, o.data = .seq vs n
theorem isTupO (vs : Array Value) (n : Nat) : IsTupO (tupObj vs n) := ⟨rfl, vs, n, rfl⟩
theorem ORel.isSome {a : Addr} {o : AObj} (x : ORel prog w B h a o) : h.get? a ≠ none := by
  intro e
  cases o with
  | list l => obtain ⟨_, _, h1, _⟩ := x; rw [e] at h1; cases h1
  | dict kvs =>
    rcases x with ⟨_, _, ⟨o, es, ep, h1, _⟩, _⟩ | ⟨_, _, ⟨o, es, ep, h1, _⟩, _⟩ | ⟨_, _, ⟨o, es, ep, h1, _⟩, _⟩ <;> (rw [e] at h1; cases h1)
  | attrs kvs => obtain ⟨_, ⟨_, _, _, h1, _⟩, _⟩ := x; rw [e] at h1; cases h1
  | inst C d => have h1 : h.get? a = some (instObj C d) := x; rw [e] at h1; cases h1
theorem IsTupleKey.keepT {prog : Program} {w : World} {ks : List Int} {a : Addr} (x : IsTupleKey (intKind prog w) h ks a) (k : ∀ o, h.get? a = some o → IsTupO o → h'.get? a = some o) : IsTupleKey (intKind prog w) h' ks a := by
  obtain ⟨o, items, n, ho, hc, hd, hi⟩ := x
  exact ⟨o, items, n, k o ho ⟨hc, items, n, hd⟩, hc, hd, hi⟩
theorem ORel.keep {a : Addr} {o : AObj} (x : ORel prog w B h a o) (hk : ∀ ob, h.get? a = some ob → h'.get? a = some ob) (kt : ∀ b ob, h.get? b = some ob → IsTupO ob → h'.get? b = some ob) : ORel prog w B h' a o := by
  have k : ∀ a vs n, h.get? a = some (tupObj vs n) → h'.get? a = some (tupObj vs n) := fun b vs n e => kt b _ e (isTupO vs n)
  cases o with
  | list l => obtain ⟨vs, n, h1, r⟩ := x; exact ⟨vs, n, hk _ h1, r.keep k⟩
  | dict kvs =>
    rcases x with ⟨xs, e, ⟨o, es, ep, h1, r⟩, v⟩ | ⟨xs, e, ⟨o, es, ep, h1, x1, x2, x3, x4, x5⟩, v⟩ | ⟨xs, e, ⟨o, es, ep, h1, r⟩, v⟩
    · exact .inl ⟨xs, e, ⟨o, es, ep, hk _ h1, r⟩, fun x hx => (v x hx).keep k⟩
    · exact .inr (.inl ⟨xs, e, ⟨o, es, ep, hk _ h1, x1, x2, x3, fun x hx => IsTupleKey.keepT (x4 x hx) (fun o ho hc => kt _ o ho hc), x5⟩, fun x hx => (v x hx).keep k⟩)
    · exact .inr (.inr ⟨xs, e, ⟨o, es, ep, hk _ h1, r⟩, fun x hx => (v x hx).keep k⟩)
  | attrs kvs => obtain ⟨m', ⟨ob, es, ep, h1, z⟩, r, wi⟩ := x; exact ⟨m', ⟨ob, es, ep, hk _ h1, z⟩, r.keep k, wi⟩
  | inst C d => exact hk _ x
end
structure Step (O : Addr → Prop) (σ : Sto) (h : Heap) (σ' : Sto) (h' : Heap) : Prop where
  keep : ∀ b o, σ b = none → ¬ O b → h.get? b = some o → h'.get? b = some o
  dom : ∀ a, σ' a ≠ none → σ a ≠ none ∨ h.get? a = none
  live : ∀ b, h.get? b ≠ none → h'.get? b ≠ none
noncomputable abbrev noO : Addr → Prop := fun _ => False
theorem Step.refl {O : Addr → Prop} {σ : Sto} {h : Heap} : Step O σ h σ h := ⟨fun _ _ _ _ e => e, fun _ e => .inl e, fun _ e => e⟩
theorem Step.trans {O : Addr → Prop} {σ σ₁ σ₂ : Sto} {h h₁ h₂ : Heap} (x : Step O σ h σ₁ h₁) (y : Step O σ₁ h₁ σ₂ h₂) : Step O σ h σ₂ h₂ := by
  refine ⟨fun b o e n g => ?_, fun a e => ?_, fun b e => y.live b (x.live b e)⟩
  · refine y.keep b o ?_ n (x.keep b o e n g)
    cases q : σ₁ b with
    | none => rfl
    | some o' =>
      rcases x.dom b (by rw [q]; simp) with z | z
      · exact absurd e z
      · rw [z] at g; cases g
  · rcases y.dom a e with z | z
    · exact x.dom a z
    · right
      cases q : h.get? a with
      | none => rfl
      | some o => exact absurd z (x.live a (by rw [q]; simp))
theorem some_ne {α : Type} {x : Option α} {o : α} (u : x = some o) : x ≠ none := fun q => by rw [u] at q; cases q
theorem Step.gone {O : Addr → Prop} {σ σ' : Sto} {h h' : Heap} {b : Addr} (z : Step O σ h σ' h') (e1 : σ b = none) (e2 : h.get? b ≠ none) : σ' b = none := by
  cases u : σ' b with
  | none => rfl
  | some o => exact ((z.dom b (some_ne u)).elim (absurd e1) (absurd · e2))
theorem Step.mono {O O' : Addr → Prop} {σ σ' : Sto} {h h' : Heap} (x : Step O σ h σ' h') (hO : ∀ b, O b → O' b) : Step O' σ h σ' h' :=
  ⟨fun b o e n g => x.keep b o e (fun z => n (hO b z)) g, x.dom, x.live⟩
theorem Step.ofKeep {O : Addr → Prop} {σ : Sto} {h h' : Heap} (k : ∀ b o, h.get? b = some o → h'.get? b = some o) : Step O σ h σ h' :=
  ⟨fun b o _ _ e => k b o e, fun _ e => .inl e, fun b e => by
    cases q : h.get? b with
    | none => exact absurd q e
    | some o => rw [k b o q]; simp⟩
section
variable {prog : Program} {w : World} {B h h' : Heap} {σ σ' : Sto} {O : Addr → Prop}
theorem St.ofKeep (S : St prog w B h σ) (k : ∀ b o, h.get? b = some o → h'.get? b = some o) : St prog w B h' σ :=
  ⟨fun b o e => k _ _ (S.base b o e), S.off, S.main, fun a o e => (S.objs a o e).keep (fun ob q => k _ _ q) fun b ob q _ => k _ _ q⟩
noncomputable def NotTup (h : Heap) (b : Addr) : Prop := ∀ o, h.get? b = some o → ¬ IsTupO o
theorem ORel.notTup' {a : Addr} {o : AObj} (x : ORel prog w B h a o) : NotTup h a := by
  rintro ob e ⟨hc, vs, n, hd⟩
  cases o with
  | list l => obtain ⟨_, _, h1, _⟩ := x; rw [e] at h1; injection h1 with h1; subst h1; injection hc with hc; exact absurd hc (by decide)
  | dict kvs =>
    rcases x with ⟨_, _, ⟨o, es, ep, h1, hx, hd', _⟩, _⟩ | ⟨_, _, ⟨o, es, ep, h1, hx, hd', _⟩, _⟩ | ⟨_, _, ⟨o, es, ep, h1, hx, hd', _⟩, _⟩ <;> (rw [e] at h1; injection h1 with h1; subst h1; rw [hd] at hd'; cases hd')
  | attrs kvs => obtain ⟨_, ⟨o, es, ep, h1, hd', _⟩, _⟩ := x; rw [e] at h1; injection h1 with h1; subst h1; rw [hd] at hd'; cases hd'
  | inst C d =>
    have h1 : h.get? a = some (instObj C d) := x
    rw [e] at h1; injection h1 with h1; subst h1; cases hc
theorem Ns.notTup {a : Addr} {m : Str → Option Value} (x : h.Ns a m) : NotTup h a := by
  rintro ob e ⟨hc, vs, n, hd⟩
  obtain ⟨o, es, ep, h1, hd', _⟩ := x
  rw [e] at h1; cases h1; rw [hd] at hd'; cases hd'
theorem Step.tup (x : Step O σ h σ' h') (S : St prog w B h σ) (hO : ∀ b, O b → NotTup h b) : ∀ b ob, h.get? b = some ob → IsTupO ob → h'.get? b = some ob := by
  intro b ob e hc
  refine x.keep b ob ?_ (fun z => hO b z ob e hc) e
  cases q : σ b with
  | none => rfl
  | some o => exact absurd hc ((S.objs b o q).notTup' ob e)
theorem VR.step {v : Value} {p : PV} (r : VR B h v p) (x : Step O σ h σ' h') (S : St prog w B h σ) (hO : ∀ b, O b → NotTup h b) : VR B h' v p :=
  r.keep fun a vs n e => x.tup S hO a _ e (isTupO vs n)
theorem VRs.step {v : List Value} {p : List PV} (r : VRs B h v p) (x : Step O σ h σ' h') (S : St prog w B h σ) (hO : ∀ b, O b → NotTup h b) : VRs B h' v p :=
  r.keep fun a vs n e => x.tup S hO a _ e (isTupO vs n)
theorem VR.stp {v : Value} {p : PV} (r : VR B h v p) (x : Step noO σ h σ' h') (S : St prog w B h σ) : VR B h' v p := r.step x S fun _ z => z.elim
theorem VRs.stp {v : List Value} {p : List PV} (r : VRs B h v p) (x : Step noO σ h σ' h') (S : St prog w B h σ) : VRs B h' v p := r.step x S fun _ z => z.elim
theorem St.lt {a : Addr} (S : St prog w B h σ) (e : σ a ≠ none) : h.get? a ≠ none := by
  cases q : σ a with
  | none => exact absurd q e
  | some o => exact (S.objs a o q).isSome
theorem St.fresh (S : St prog w B h σ) {a : Addr} (e : h.get? a = none) : σ a = none := by
  cases q : σ a with
  | none => rfl
  | some o => exact absurd e (S.objs a o q).isSome
theorem St.push (S : St prog w B h σ) (o : Obj) (ao : AObj) (r : ORel prog w B (h.push o) h.objs.size ao) : St prog w B (h.push o) (σ.set h.objs.size ao) := by
  have S' := S.ofKeep (h' := h.push o) fun b ob e => Heap.get?_push_of_some o e
  refine ⟨S'.base, fun a e => ?_, S.main, fun a x e => ?_⟩
  · by_cases q : a = h.objs.size
    · subst q
      refine ⟨?_, ?_⟩
      · cases q : B.get? h.objs.size with
        | none => rfl
        | some ob => exact absurd (Heap.lt_size (S.base _ _ q)) (Nat.lt_irrefl _)
      · obtain ⟨om, hm⟩ := S.main
        have h3 : 3 < h.objs.size := Heap.lt_size (S.base _ _ hm)
        exact beq_eq_false_iff_ne.mpr (Nat.ne_of_gt (Nat.lt_trans (by decide) h3))
    · rw [Sto.set_ne σ ao q] at e; exact S.off a e
  · by_cases q : a = h.objs.size
    · subst q; rw [Sto.set_same] at e; cases e; exact r
    · rw [Sto.set_ne σ ao q] at e; exact S'.objs a x e
theorem get?_size (h : Heap) : h.get? h.objs.size = none := by
  cases q : h.get? h.objs.size with
  | none => rfl
  | some o => exact absurd (Heap.lt_size q) (Nat.lt_irrefl _)
theorem Step.push {O : Addr → Prop} (σ : Sto) (h : Heap) (o : Obj) (ao : AObj) : Step O σ h (σ.set h.objs.size ao) (h.push o) :=
  ⟨fun b ob _ _ e => Heap.get?_push_of_some o e, fun a e => by
    by_cases q : a = h.objs.size
    · right; subst q; exact get?_size h
    · rw [Sto.set_ne σ ao q] at e; exact .inl e, fun b e => by
    cases q : h.get? b with
    | none => exact absurd q e
    | some ob => rw [Heap.get?_push_of_some o q]; simp⟩
theorem St.put {a : Addr} {ao : AObj} {oa : Obj} (S : St prog w B h σ) (hs : Heap.SameBut a h h') (e : σ a ≠ none) (ha : h.get? a = some oa) (r : (∀ b ob, h.get? b = some ob → IsTupO ob → h'.get? b = some ob) → ORel prog w B h' a ao) : St prog w B h' (σ.set a ao) := by
  have nt : ∀ b ob, h.get? b = some ob → IsTupO ob → h'.get? b = some ob := by
    intro b ob g hc
    refine (hs.2 b ?_).trans g
    rintro rfl
    cases q : σ b with
    | none => exact absurd q e
    | some o => exact absurd hc ((S.objs b o q).notTup' ob g)
  refine ⟨fun b o g => ?_, fun b g => ?_, S.main, fun b o g => ?_⟩
  · refine (hs.2 b ?_).trans (S.base b o g)
    rintro rfl
    rw [(S.off b e).1] at g; cases g
  · by_cases q : b = a
    · rw [q]; exact S.off a e
    · rw [Sto.set_ne σ ao q] at g; exact S.off b g
  · by_cases q : b = a
    · subst q; rw [Sto.set_same] at g; cases g; exact r nt
    · rw [Sto.set_ne σ ao q] at g
      exact (S.objs b o g).keep (fun ob z => (hs.2 b q).trans z) nt
theorem Step.put {O : Addr → Prop} {a : Addr} {ao : AObj} {σ : Sto} {h h' : Heap} (hs : Heap.SameBut a h h') (e : σ a ≠ none) (hl : h'.get? a ≠ none) : Step O σ h (σ.set a ao) h' :=
  ⟨fun b o g _ z => (hs.2 b (by rintro rfl; exact e g)).trans z, fun b g => by
    by_cases q : b = a
    · rw [q]; exact .inl e
    · rw [Sto.set_ne σ ao q] at g; exact .inl g, fun b g => by
    by_cases q : b = a
    · rw [q]; exact hl
    · rw [hs.2 b q]; exact g⟩
end
end Mine
namespace Mine
open PySem PySem.W PySem.Calls PyProof.Rows PySem.Spec
structure Gd (prog : Program) (w : World) (K : Frag) (B : Heap) : Prop where
  X : K.In B
  lim : B.NoLimit
  g : ∃ mg, B.Ns mainGlobals mg
  b : ∃ mb, B.Ns builtinsNs mb ∧ ∀ x : Str, x ≠ "__name__" → mb x = bootBuiltins x
structure AOk (n : Nat) (A : Around) : Prop where
  depth : A.depth + 4 * n + 4 ≤ recursionLimit
  units : A.units + 100 * n + 200 ≤ cLine
  hand : A.handled = none
theorem AOk.mono {n m : Nat} {A : Around} (h : AOk n A) (hm : m ≤ n) : AOk m A := ⟨by have := h.depth; lia, by have := h.units; lia, h.hand⟩
theorem AOk.cl {n : Nat} {A : Around} (h : AOk n A) : A.units + 200 ≤ 9900 := by have := h.units; rw [cLine_is] at this; lia
theorem AOk.unit {n : Nat} {A : Around} (h : AOk n A) : A.units + 64 < cLine := by have := h.units; lia
noncomputable def ownOf (env : Env) : Addr → Prop := fun b => b = env.locals ∨ ∃ p ∈ env.cells, p.2 = b
structure EnvOk (env : Env) : Prop where
  kind : env.scope.kind = .function
  glob : env.globals = mainGlobals
  bui : env.builtins = builtinsNs
structure FR (B h : Heap) (σ : Sto) (env : Env) (ρ : PEnv) : Prop where
  ns : ∃ m, h.Ns env.locals m ∧ ∀ (x : String) pv, env.kindOf (Str.ofString x) = some .local → ρ x = some pv → ∃ v, m (Str.ofString x) = some v ∧ VR B h v pv
  cell : ∀ (x : String) c, env.cells.lookup (Str.ofString x) = some c → ∃ ov, h.IsCell c ov ∧ ∀ pv, ρ x = some pv → ∃ v, ov = some v ∧ VR B h v pv
  offL : σ env.locals = none ∧ B.get? env.locals = none
  offC : ∀ p ∈ env.cells, σ p.2 = none ∧ B.get? p.2 = none ∧ NotTup h p.2 ∧ h.get? p.2 ≠ none ∧ p.2 ≠ env.locals
theorem mem_of_lookup {α β : Type} [BEq α] [LawfulBEq α] {a : α} {b : β} : ∀ {l : List (α × β)}, l.lookup a = some b → (a, b) ∈ l
  | [], h => by cases h
  | (k, v) :: r, h => by
    simp only [List.lookup] at h
    split at h
    · rename_i q; cases h; rw [beq_iff_eq.mp q]; exact .head _
    · exact .tail _ (mem_of_lookup h)
section
variable {prog : Program} {w : World} {B h h' : Heap} {σ σ' : Sto} {O : Addr → Prop}
theorem FR.own {env : Env} {ρ : PEnv} (F : FR B h σ env ρ) : ∀ b, ownOf env b → NotTup h b ∧ σ b = none ∧ B.get? b = none ∧ h.get? b ≠ none := by
  rintro b (rfl | ⟨p, hp, rfl⟩)
  · obtain ⟨m, hn, _⟩ := F.ns
    obtain ⟨o, _, _, ho, _⟩ := id hn
    exact ⟨Ns.notTup hn, F.offL.1, F.offL.2, by rw [ho]; simp⟩
  · have := F.offC p hp
    exact ⟨this.2.2.1, this.1, this.2.1, this.2.2.2.1⟩
theorem FR.step {env : Env} {ρ : PEnv} (F : FR B h σ env ρ) (x : Step noO σ h σ' h') (S : St prog w B h σ) : FR B h' σ' env ρ := by
  have off : ∀ b, ownOf env b → σ' b = none := by
    intro b hb
    obtain ⟨_, e, _, l⟩ := F.own b hb
    exact x.gone e l
  have ke : ∀ b o, ownOf env b → h.get? b = some o → h'.get? b = some o := fun b o hb e => x.keep b o (F.own b hb).2.1 (fun z => z) e
  refine ⟨?_, fun y c hc => ?_, ⟨off _ (.inl rfl), F.offL.2⟩, fun p hp => ?_⟩
  · obtain ⟨m, ⟨o, es, ep, ho, r⟩, hm⟩ := F.ns
    refine ⟨m, ⟨o, es, ep, ke _ _ (.inl rfl) ho, r⟩, fun y pv hk hy => ?_⟩
    obtain ⟨v, hv, hr⟩ := hm y pv hk hy
    exact ⟨v, hv, hr.stp x S⟩
  · obtain ⟨ov, ⟨o, ho, hd⟩, hv⟩ := F.cell y c hc
    have hmem : (Str.ofString y, c) ∈ env.cells := mem_of_lookup hc
    refine ⟨ov, ⟨o, ke _ _ (.inr ⟨_, hmem, rfl⟩) ho, hd⟩, fun pv hy => ?_⟩
    obtain ⟨v, e, hr⟩ := hv pv hy
    exact ⟨v, e, hr.stp x S⟩
  · have z := F.offC p hp
    have hb : ownOf env p.2 := .inr ⟨p, hp, rfl⟩
    refine ⟨off _ hb, z.2.1, fun o e => ?_, x.live _ z.2.2.2.1, z.2.2.2.2⟩
    cases q : h.get? p.2 with
    | none => exact absurd q z.2.2.2.1
    | some o' => rw [ke _ _ hb q] at e; cases e; exact z.2.2.1 _ q
end
section
variable (prog : Program) (w : World) (B : Heap)
inductive Post {α β : Type} (rel : Sto → Heap → α → β → Prop) (O : Addr → Prop) (σ : Sto) (s : Shared) (Q : β → Sto → Prop) (a : α) (s' : Shared) : Prop
  | mk (b : β) (σ' : Sto) (h' : Heap) (tk' : Nat) (e : s' = { s with heap := h', toks := tk' }) (S : St prog w B h' σ') (x : Step O σ s.heap σ' h') (r : rel σ' h' a b) (q : Q b σ')
structure Does {α β : Type} (A : Around) (rel : Sto → Heap → α → β → Prop) (t : Sem α) (O : Addr → Prop) (σ : Sto) (Q : β → Sto → Prop) (s : Shared) : Prop where
  mk ::
  run : ∀ E, wpAny (model prog w) A t (Post prog w B rel O σ s Q) E s
noncomputable abbrev relV : Sto → Heap → Value → PV → Prop := fun _ h v p => VR B h v p
noncomputable abbrev relVs : Sto → Heap → List Value → List PV → Prop := fun _ h v p => VRs B h v p
noncomputable abbrev relB : Sto → Heap → Bool → Bool → Prop := fun _ _ a b => a = b
noncomputable abbrev relU : Sto → Heap → Unit → Unit → Prop := fun _ _ _ _ => True
end
section
variable {prog : Program} {w : World} {B : Heap} {α β γ δ : Type} {A : Around} {rel : Sto → Heap → α → β → Prop} {rel₂ : Sto → Heap → γ → δ → Prop} {O : Addr → Prop} {σ : Sto} {s : Shared}
theorem Post.trans {Q : β → Sto → Prop} {σ₁ : Sto} {h₁ : Heap} {tk₁ : Nat} (x : Step O σ s.heap σ₁ h₁) {a : α} {s' : Shared} (p : Post prog w B rel O σ₁ { s with heap := h₁, toks := tk₁ } Q a s') : Post prog w B rel O σ s Q a s' := by
  obtain ⟨b, σ', h', tk', e, S, y, r, q⟩ := p
  exact ⟨b, σ', h', tk', e, S, x.trans y, r, q⟩
theorem Does.go {t : Sem α} {Q : β → Sto → Prop} {R : α → Shared → Prop} {E : Value → Shared → Prop} (D : Does prog w B A rel t O σ Q s) (k : ∀ a b σ' h' tk', St prog w B h' σ' → Step O σ s.heap σ' h' → rel σ' h' a b → Q b σ' → R a { s with heap := h', toks := tk' }) : wpAny (model prog w) A t R E s :=
  wpAny_mono (D.run E) (fun a s' p => by obtain ⟨b, σ', h', tk', rfl, S, x, r, q⟩ := p; exact k a b σ' h' tk' S x r q) fun _ _ e => e
theorem Does.after {t : Sem α} {Q : β → Sto → Prop} {σ₁ : Sto} {h₁ : Heap} {tk₁ : Nat} {E : Value → Shared → Prop} (x : Step O σ s.heap σ₁ h₁) (D : Does prog w B A rel t O σ₁ Q { s with heap := h₁, toks := tk₁ }) : wpAny (model prog w) A t (Post prog w B rel O σ s Q) E { s with heap := h₁, toks := tk₁ } :=
  wpAny_mono (D.run E) (fun _ _ p => p.trans x) fun _ _ e => e
theorem Does.mono {t : Sem α} {Q₁ Q : β → Sto → Prop} (h1 : Does prog w B A rel t O σ Q₁ s) (h : ∀ b σ', Q₁ b σ' → Q b σ') : Does prog w B A rel t O σ Q s := Does.mk fun E =>
  wpAny_mono (h1.run E) (fun a s' ⟨b, σ', h', tk', e, S, y, r, q⟩ => ⟨b, σ', h', tk', e, S, y, r, h _ _ q⟩) fun _ _ e => e
theorem Does.widen {t : Sem α} {Q : β → Sto → Prop} {O' : Addr → Prop} (h1 : Does prog w B A rel t O σ Q s) (h : ∀ b, O b → O' b) : Does prog w B A rel t O' σ Q s := Does.mk fun E =>
  wpAny_mono (h1.run E) (fun a s' ⟨b, σ', h', tk', e, S, y, r, q⟩ => ⟨b, σ', h', tk', e, S, y.mono h, r, q⟩) fun _ _ e => e
theorem post_here {Q : β → Sto → Prop} {a : α} {b : β} (S : St prog w B s.heap σ) (r : rel σ s.heap a b) (q : Q b σ) : Post prog w B rel O σ s Q a s := ⟨b, σ, s.heap, s.toks, rfl, S, .refl, r, q⟩
theorem post_tok {Q : β → Sto → Prop} {a : α} {b : β} {tk : Nat} (S : St prog w B s.heap σ) (r : rel σ s.heap a b) (q : Q b σ) : Post prog w B rel O σ s Q a { s with toks := tk } := ⟨b, σ, s.heap, tk, rfl, S, .refl, r, q⟩
theorem post_keep {Q : β → Sto → Prop} {a : α} {b : β} {h' : Heap} {tk : Nat} (S : St prog w B s.heap σ) (k : ∀ b o, s.heap.get? b = some o → h'.get? b = some o) (r : rel σ h' a b) (q : Q b σ) : Post prog w B rel O σ s Q a { s with heap := h', toks := tk } := ⟨b, σ, h', tk, rfl, S.ofKeep k, .ofKeep k, r, q⟩
theorem Does.pure {Q : β → Sto → Prop} {a : α} {b : β} (S : St prog w B s.heap σ) (r : rel σ s.heap a b) (q : Q b σ) : Does prog w B A rel (Pure.pure a) O σ Q s := Does.mk fun E => wpAny_pure (post_here S r q)
end
noncomputable abbrev EWP := PEnv → Sto → (PV → Sto → Prop) → Prop
noncomputable abbrev EsWP := PEnv → Sto → (List PV → Sto → Prop) → Prop
noncomputable abbrev TWP := PEnv → Sto → (Bool → Sto → Prop) → Prop
inductive PFlow where
  | next | brk | cont
  | ret (v : PV)
noncomputable abbrev SWP := PEnv → Sto → (PFlow → PEnv → Sto → Prop) → Prop
noncomputable abbrev FWP := List PV → Sto → (PV → Sto → Prop) → Prop
section
variable (prog : Program) (w : World) (B : Heap) (n : Nat)
noncomputable def EOk (env : Env) (e : Expr) (d : EWP) : Prop := ∀ A ρ σ Q s, AOk n A → d ρ σ Q → St prog w B s.heap σ → FR B s.heap σ env ρ → Does prog w B A (relV B) (eval e env) noO σ Q s
noncomputable def EsOk (env : Env) (es : List Expr) (d : EsWP) : Prop := ∀ pos A ρ σ Q s, AOk n A → d ρ σ Q → St prog w B s.heap σ → FR B s.heap σ env ρ → Does prog w B A (relVs B) (spliced (backTo pos (starEach es env))) noO σ Q s
noncomputable def TOk (env : Env) (e : Expr) (d : TWP) : Prop := ∀ A ρ σ Q s, AOk n A → d ρ σ Q → St prog w B s.heap σ → FR B s.heap σ env ρ → Does prog w B A relB (isTrue e env (eval e env)) noO σ Q s
inductive FlowR (h : Heap) : Flow → PFlow → Prop
  | next : FlowR h .next .next
  | brk : FlowR h .brk .brk
  | cont : FlowR h .cont .cont
  | ret {v p} : VR B h v p → FlowR h (.ret v) (.ret p)
noncomputable def relS (env : Env) : Sto → Heap → Flow → PFlow × PEnv → Prop := fun σ h f p => FlowR B h f p.1 ∧ FR B h σ env p.2
noncomputable def SOk (env : Env) (st : Stmt) (d : SWP) : Prop := ∀ A ρ σ Q s, AOk n A → d ρ σ Q → St prog w B s.heap σ → FR B s.heap σ env ρ → Does prog w B A (relS B env) (exec st env) (ownOf env) σ (fun p σ' => Q p.1 p.2 σ') s
noncomputable def SsOk (env : Env) (sts : List Stmt) (d : SWP) : Prop := ∀ A ρ σ Q s, AOk n A → d ρ σ Q → St prog w B s.heap σ → FR B s.heap σ env ρ → Does prog w B A (relS B env) (execs sts env) (ownOf env) σ (fun p σ' => Q p.1 p.2 σ') s
end
theorem list_out {o : Option AObj} {P : List PV → Prop} (h : match o with | some (.list l) => P l | _ => False) : ∃ l, o = some (.list l) ∧ P l := by
  rcases o with _ | o
  · exact h.elim
  · cases o with
    | list l => exact ⟨l, rfl, h⟩
    | _ => exact h.elim
theorem lod_out {o : Option AObj} {P : List PV → Prop} {R : List (DK × PV) → Prop} (h : match o with | some (.list l) => P l | some (.dict k) => R k | _ => False) : (∃ l, o = some (.list l) ∧ P l) ∨ ∃ k, o = some (.dict k) ∧ R k := by
  rcases o with _ | o
  · exact h.elim
  · cases o with
    | list l => exact .inl ⟨l, rfl, h⟩
    | dict k => exact .inr ⟨k, rfl, h⟩
    | _ => exact h.elim
section
variable {prog : Program} {w : World} {B : Heap} {n : Nat} {env : Env}
noncomputable def dName (x : String) : EWP := fun ρ σ Q => match ρ x with
  | some v => Q v σ
  | none => False
theorem dName_out {x : String} {ρ : PEnv} {σ : Sto} {Q : PV → Sto → Prop} (h : dName x ρ σ Q) : ∃ v, ρ x = some v ∧ Q v σ := by
  have key : ∀ o : Option PV, (match o with | some v => Q v σ | none => False) → ∃ v, o = some v ∧ Q v σ := fun o h => by
    cases o with
    | none => exact h.elim
    | some v => exact ⟨v, rfl, h⟩
  exact key _ h
theorem dName_in {x : String} {ρ : PEnv} {σ : Sto} {Q : PV → Sto → Prop} {v : PV} (e : ρ x = some v) (h : Q v σ) : dName x ρ σ Q := by
  unfold dName; rw [e]; exact h
noncomputable def dVal (v : PV) : EWP := fun _ σ Q => Q v σ
theorem EOk.local {x : String} {pos : Pos} (hk : env.scope.kind = .function) (hl : env.kindOf (Str.ofString x) = some .local) (hd : (Str.ofString x == ("__debug__" : Str)) = false) : EOk prog w B n env (.Name (Str.ofString x) pos) (dName x) := by
  intro A ρ σ Q s hA hQ S F
  obtain ⟨pv, hx, hQ⟩ := dName_out hQ
  refine Does.mk fun E => ?_
  obtain ⟨m, hn, hm⟩ := F.ns
  obtain ⟨v, hv, hr⟩ := hm x pv hl hx
  exact wpAny_Name (wpAny_loadName_local hk hl hn hv (post_here S hr hQ)) hd
theorem EOk.cell {x : String} {pos : Pos} {c : Addr} (hk : env.scope.kind = .function) (hl : env.kindOf (Str.ofString x) = some .cell) (hc : env.cells.lookup (Str.ofString x) = some c) (hd : (Str.ofString x == ("__debug__" : Str)) = false) : EOk prog w B n env (.Name (Str.ofString x) pos) (dName x) := by
  intro A ρ σ Q s hA hQ S F
  obtain ⟨pv, hx, hQ⟩ := dName_out hQ
  refine Does.mk fun E => ?_
  obtain ⟨ov, hi, hv⟩ := F.cell x c hc
  obtain ⟨v, rfl, hr⟩ := hv pv hx
  exact wpAny_Name (wpAny_loadName_cell hk hl hc hi (post_here S hr hQ)) hd
noncomputable def Stays (B : Heap) (v : Value) (p : PV) : Prop := ∀ h : Heap, (∀ b o, B.get? b = some o → h.get? b = some o) → VR B h v p
theorem EOk.global {K : Frag} {x : String} {pos : Pos} {v : Value} {p : PV} (G : Gd prog w K B) (X : EnvOk env) (hl : env.kindOf (Str.ofString x) = some .globalImplicit) (e : nsIn K mainGlobals (Str.ofString x) = some (some v)) (hv : Stays B v p) (hd : (Str.ofString x == ("__debug__" : Str)) = false) : EOk prog w B n env (.Name (Str.ofString x) pos) (dVal p) := by
  intro A ρ σ Q s hA hQ S F
  refine Does.mk fun E => ?_
  obtain ⟨mg, hg⟩ := G.g
  exact Name_function_global X.kind hl (loadGlobal_global (by rw [X.glob]; exact hg.keeps S.base) (mg_of G.X hg e) (post_here S (hv _ S.base) hQ)) hd
theorem EOk.cint {i : Int} {k : Nat} {pos : Pos} : EOk prog w B n env (.Constant (.int i) k pos) (dVal (.int i)) := fun A ρ σ Q s hA hQ S F => Does.mk fun E => wpAny_Constant_int (post_tok S (.int _ _) hQ)
theorem EOk.cstr {x : Str} {k : Nat} {pos : Pos} : EOk prog w B n env (.Constant (.str x) k pos) (dVal (.str x)) := fun A ρ σ Q s hA hQ S F => Does.mk fun E => Calls.Constant_str (post_tok S (.str _ _) hQ)
theorem EOk.cbool {b : Bool} {k : Nat} {pos : Pos} : EOk prog w B n env (.Constant (.bool b) k pos) (dVal (.bool b)) := fun A ρ σ Q s hA hQ S F => Does.mk fun E => by
  show wpAny _ _ (Pure.pure (Value.bool b)) _ _ _
  exact wpAny_pure (post_here S (.bool _) hQ)
theorem EOk.cnone {k : Nat} {pos : Pos} : EOk prog w B n env (.Constant .none k pos) (dVal .none) := fun A ρ σ Q s hA hQ S F => Does.mk fun E => by
  show wpAny _ _ (Pure.pure Value.none) _ _ _
  exact wpAny_pure (post_here S .none hQ)
noncomputable def dNil : EsWP := fun _ σ Q => Q [] σ
noncomputable def dCons (d : EWP) (ds : EsWP) : EsWP := fun ρ σ Q => d ρ σ fun v σ => ds ρ σ fun vs σ => Q (v :: vs) σ
theorem EsOk.nil : EsOk prog w B n env [] dNil := fun pos A ρ σ Q s hA hQ S F => Does.mk fun E => Calls.spliced_nil (post_here S .nil hQ)
theorem EsOk.cons {e : Expr} {es : List Expr} {d : EWP} {ds : EsWP} (h1 : EOk prog w B n env e d) (h2 : EsOk prog w B n env es ds) (hs : starEach (e :: es) env = (false, eval e env) :: starEach es env := by rfl) : EsOk prog w B n env (e :: es) (dCons d ds) := by
  intro pos A ρ σ Q s hA hQ S F
  refine Does.mk fun E => ?_
  rw [hs]
  show wpAny _ _ (spliced ((false, eval e env) :: backTo pos (starEach es env))) _ _ _
  refine Calls.spliced_cons (Does.go (h1 A ρ σ _ s hA hQ S F) (fun v pv σ₁ h₁ tk₁ S₁ x r q => ?_))
  refine Does.go (h2 pos A ρ σ₁ _ _ hA q S₁ (F.step x S)) (fun vs pvs σ₂ h₂ tk₂ S₂ x₂ r₂ q₂ => ?_)
  exact ⟨_, σ₂, h₂, tk₂, rfl, S₂, x.trans x₂, .cons (r.stp x₂ S₁) r₂, q₂⟩
theorem post_push {σ : Sto} {s : Shared} {Q : PV → Sto → Prop} {O : Addr → Prop} {A : Around} {tk : Nat} (S : St prog w B s.heap σ) (o : Obj) (ao : AObj) (r : ORel prog w B (s.heap.push o) s.heap.objs.size ao) (q : ∀ a, σ a = none → Q (.ref a) (σ.set a ao)) :
    Post prog w B (relV B) O σ s Q (.ref s.heap.objs.size) { s with heap := s.heap.push o, toks := tk } :=
  ⟨.ref s.heap.objs.size, _, _, tk, rfl, S.push o ao r, .push σ s.heap o ao, .ref _, q _ (S.fresh (get?_size _))⟩
theorem keepPush {h : Heap} (o : Obj) : ∀ b ob, h.get? b = some ob → (h.push o).get? b = some ob := fun b ob e => Heap.get?_push_of_some o e
theorem VRs.push {h : Heap} {vs : List Value} {ps : List PV} (r : VRs B h vs ps) (o : Obj) : VRs B (h.push o) vs ps := r.keep fun a vs n e => Heap.get?_push_of_some o e
theorem VR.push {h : Heap} {vs : Value} {ps : PV} (r : VR B h vs ps) (o : Obj) : VR B (h.push o) vs ps := r.keep fun a vs n e => Heap.get?_push_of_some o e
noncomputable def dTup (ds : EsWP) : EWP := fun ρ σ Q => ds ρ σ fun vs σ => vs.length ≤ sizeLine ∧ Q (.tup vs) σ
noncomputable def newList (vs : List PV) (σ : Sto) (Q : PV → Sto → Prop) : Prop := vs.length ≤ sizeLine ∧ ∀ a, σ a = none → Q (.ref a) (σ.set a (.list vs))
noncomputable def dList (ds : EsWP) : EWP := fun ρ σ Q => ds ρ σ fun vs σ => newList vs σ Q
theorem EOk.tup {es : List Expr} {k : Nat} {pos : Pos} {ds : EsWP} (h : EsOk prog w B n env es ds) : EOk prog w B n env (.Tuple es k pos) (dTup ds) := by
  intro A ρ σ Q s hA hQ S F
  refine Does.mk fun E => ?_
  refine Tuple_ (Does.go (h pos A ρ σ _ s hA hQ S F) (fun vs pvs σ₁ h₁ tk₁ S₁ x r qq => ?_))
  obtain ⟨hl, q⟩ := qq
  refine wpAny_newObj_type ?_ (by show vs.toArray.size ≤ sizeLine; rw [List.size_toArray, r.length]; exact hl)
  have e : (h₁.push (tupObj vs.toArray 0)).get? h₁.objs.size = some (tupObj vs.toArray 0) := Heap.get?_push_size _ rfl
  refine Post.trans (tk₁ := tk₁) x (post_keep S₁ (keepPush (tupObj vs.toArray 0)) (.tup e (by simpa using r.push _)) q)
theorem EOk.list {es : List Expr} {pos : Pos} {ds : EsWP} (h : EsOk prog w B n env es ds) : EOk prog w B n env (.List es pos) (dList ds) := by
  intro A ρ σ Q s hA hQ S F
  refine Does.mk fun E => ?_
  refine List_ (Does.go (h pos A ρ σ _ s hA hQ S F) (fun vs pvs σ₁ h₁ tk₁ S₁ x r qq => ?_))
  obtain ⟨hl, q⟩ := qq
  refine wpAny_newObj_type ?_ (by show vs.toArray.size ≤ sizeLine; rw [List.size_toArray, r.length]; exact hl)
  exact Post.trans (tk₁ := tk₁) x (post_push (A := A) S₁ (lstObj vs.toArray 0) (.list pvs) ⟨_, 0, Heap.get?_push_size _ rfl, by simpa using r.push _⟩ q)
noncomputable def dDict0 : EWP := fun _ σ Q => ∀ a, σ a = none → Q (.ref a) (σ.set a (.dict []))
theorem EOk.dict0 {pos : Pos} : EOk prog w B n env (.Dict [] [] pos) dDict0 := by
  intro A ρ σ Q s hA hQ S F
  refine Does.mk fun E => ?_
  refine wpAny_Dict_empty ?_
  refine post_push (A := A) (tk := s.toks) S (dctObj #[] 0) (.dict []) (.inl ⟨[], rfl, ?_, fun _ h => nomatch h⟩) hQ
  exact ⟨_, #[], 0, Heap.get?_push_size _ rfl, ⟨rfl, rfl, rfl⟩, rfl, fun _ h => (by simp at h), .nil, List.nodup_nil⟩
end
end Mine
namespace Mine
open PySem PySem.W PySem.Calls PyProof.Rows PySem.Spec
section
variable {prog : Program} {w : World} {B : Heap} {n : Nat} {env : Env}
noncomputable def OpOk (prog : Program) (w : World) (B : Heap) (n : Nat) (t : Value → Value → Sem Value) (P : PV → PV → Sto → (PV → Sto → Prop) → Prop) : Prop :=
  ∀ A σ s a b pa pb Q, AOk n A → P pa pb σ Q → St prog w B s.heap σ → VR B s.heap a pa → VR B s.heap b pb → Does prog w B A (relV B) (t a b) noO σ Q s
noncomputable def dOp (P : PV → PV → Sto → (PV → Sto → Prop) → Prop) (l r : EWP) : EWP := fun ρ σ Q => l ρ σ fun a σ => r ρ σ fun b σ => P a b σ Q
theorem two_ {e₁ e₂ : Expr} {d₁ d₂ : EWP} (h1 : EOk prog w B n env e₁ d₁) (h2 : EOk prog w B n env e₂ d₂) {P : PV → PV → Sto → (PV → Sto → Prop) → Prop} {t : Value → Value → Sem Value} (ho : OpOk prog w B n t P)
    {A : Around} {ρ : PEnv} {σ : Sto} {Q : PV → Sto → Prop} {s : Shared} (hA : AOk n A) (hQ : dOp P d₁ d₂ ρ σ Q) (S : St prog w B s.heap σ) (F : FR B s.heap σ env ρ) (E : Value → Shared → Prop) :
    wpAny (model prog w) A (eval e₁ env) (fun a s₁ => wpAny (model prog w) A (eval e₂ env) (fun b s₂ => wpAny (model prog w) A (t a b) (Post prog w B (relV B) noO σ s Q) E s₂) E s₁) E s := by
  refine Does.go (h1 A ρ σ _ s hA hQ S F) (fun a pa σ₁ h₁ tk₁ S₁ x r q => ?_)
  refine Does.go (h2 A ρ σ₁ _ _ hA q S₁ (F.step x S)) (fun b pb σ₂ h₂ tk₂ S₂ x₂ r₂ q₂ => ?_)
  exact wpAny_mono ((ho A σ₂ _ a b pa pb Q hA q₂ S₂ (r.stp x₂ S₁) r₂).run E) (fun v s' p => (p.trans (tk₁ := tk₂) x₂).trans (tk₁ := tk₁) x) fun _ _ e => e
theorem EOk.bin {l r : Expr} {op : Operator} {pos : Pos} {dl dr : EWP} {P : PV → PV → Sto → (PV → Sto → Prop) → Prop} (ho : OpOk prog w B n (binaryOp op) P) (h1 : EOk prog w B n env l dl) (h2 : EOk prog w B n env r dr) : EOk prog w B n env (.BinOp l op r pos) (dOp P dl dr) :=
  fun A ρ σ Q s hA hQ S F => Does.mk fun E => wpAny_BinOp (two_ h1 h2 ho hA hQ S F E)
theorem EOk.cmp {l r : Expr} {op : CmpOp} {pos : Pos} {dl dr : EWP} {P : PV → PV → Sto → (PV → Sto → Prop) → Prop} (ho : OpOk prog w B n (compareOp op) P) (h1 : EOk prog w B n env l dl) (h2 : EOk prog w B n env r dr) (hm : behindInMarks op r = false := by with_unfolding_all rfl) : EOk prog w B n env (.Compare l [op] [r] pos) (dOp P dl dr) :=
  fun A ρ σ Q s hA hQ S F => Does.mk fun E => wpAny_Compare1 (two_ h1 h2 ho hA hQ S F E) hm
theorem VR.int_inv {B h : Heap} {v : Value} {i : Int} (r : VR B h v (.int i)) : ∃ t, v = .int i t := by cases r; exact ⟨_, rfl⟩
theorem VR.str_inv {B h : Heap} {v : Value} {x : Str} (r : VR B h v (.str x)) : ∃ t, v = .str x t := by cases r; exact ⟨_, rfl⟩
theorem VR.typ_inv {B h : Heap} {v : Value} {x : String} (r : VR B h v (.typ x)) : v = .type x := by cases r; rfl
theorem VR.tup_inv {B h : Heap} {v : Value} {l : List PV} (r : VR B h v (.tup l)) : ∃ a vs n, v = .ref a ∧ h.get? a = some (tupObj vs n) ∧ VRs B h vs.toList l := by cases r with | tup h r => exact ⟨_, _, _, rfl, h, r⟩
theorem VRs.two_inv {B h : Heap} {vals : List Value} {a b : PV} (r : VRs B h vals [a, b]) : ∃ u v, vals = [u, v] ∧ VR B h u a ∧ VR B h v b := by
  cases r with | cons ra r => cases r with | cons rb r => cases r; exact ⟨_, _, rfl, ra, rb⟩
theorem VR.ref_inv {B h : Heap} {v : Value} {a : Addr} (r : VR B h v (.ref a)) : v = .ref a := by cases r; rfl
noncomputable def addP : PV → PV → Sto → (PV → Sto → Prop) → Prop
  | .int a, .int b, σ, Q => Q (.int (a + b)) σ
  | .ref a, .ref b, σ, Q => ∃ xs ys, σ a = some (.list xs) ∧ σ b = some (.list ys) ∧ newList (xs ++ ys) σ Q
  | _, _, _, _ => False
theorem addP_out {a b : PV} {σ : Sto} {Q : PV → Sto → Prop} (h : addP a b σ Q) : (∃ i j, a = .int i ∧ b = .int j ∧ Q (.int (i + j)) σ) ∨ ∃ x y, a = .ref x ∧ b = .ref y ∧ ∃ xs ys, σ x = some (.list xs) ∧ σ y = some (.list ys) ∧ newList (xs ++ ys) σ Q := by
  cases a <;> first | exact h.elim | (cases b <;> first | exact h.elim | exact .inl ⟨_, _, rfl, rfl, h⟩ | exact .inr ⟨_, _, rfl, rfl, h⟩)
theorem add_ok : OpOk prog w B n (binaryOp .Add) addP := by
  intro A σ s a b pa pb Q hA hQ S ra rb
  refine Does.mk fun E => ?_
  rcases addP_out hQ with ⟨i, j, rfl, rfl, hQ⟩ | ⟨x, y, rfl, rfl, xs, ys, hx, hy, hl, hq⟩
  · obtain ⟨t, rfl⟩ := ra.int_inv
    obtain ⟨u, rfl⟩ := rb.int_inv
    exact add_int (post_tok S (.int _ _) hQ)
  · cases ra.ref_inv
    cases rb.ref_inv
    obtain ⟨vs, k, h1, r1⟩ := S.objs _ _ hx
    obtain ⟨us, j, h2, r2⟩ := S.objs _ _ hy
    have e1 := r1.length
    have e2 := r2.length
    rw [Array.length_toList] at e1 e2
    refine P.add_list h1 h2 ?_ (by rw [List.length_append] at hl; lia)
    exact post_push (A := A) (tk := s.toks) S (lstObj (vs ++ us) 0) (.list (xs ++ ys)) ⟨_, 0, Heap.get?_push_size _ rfl, by
      rw [Array.toList_append]; exact (r1.append r2).push _⟩ hq
noncomputable def subP : PV → PV → Sto → (PV → Sto → Prop) → Prop
  | .int a, .int b, σ, Q => Q (.int (a - b)) σ
  | _, _, _, _ => False
theorem subP_out {a b : PV} {σ : Sto} {Q : PV → Sto → Prop} (h : subP a b σ Q) : ∃ i j, a = .int i ∧ b = .int j ∧ (Q (.int (i - j)) σ) := by
  cases a <;> first | exact h.elim | (cases b <;> first | exact h.elim | exact ⟨_, _, rfl, rfl, h⟩)
theorem sub_ok : OpOk prog w B n (binaryOp .Sub) subP := by
  intro A σ s a b pa pb Q hA hQ S ra rb
  refine Does.mk fun E => ?_
  obtain ⟨i, j, rfl, rfl, hQ⟩ := subP_out hQ
  obtain ⟨t, rfl⟩ := ra.int_inv
  obtain ⟨u, rfl⟩ := rb.int_inv
  exact sub_int (post_tok S (.int _ _) hQ)
noncomputable def mulP : PV → PV → Sto → (PV → Sto → Prop) → Prop
  | .int a, .int b, σ, Q => Builtin.Int.intBits a ≤ 64 ∧ Q (.int (a * b)) σ
  | _, _, _, _ => False
theorem mulP_out {a b : PV} {σ : Sto} {Q : PV → Sto → Prop} (h : mulP a b σ Q) : ∃ i j, a = .int i ∧ b = .int j ∧ (Builtin.Int.intBits i ≤ 64 ∧ Q (.int (i * j)) σ) := by
  cases a <;> first | exact h.elim | (cases b <;> first | exact h.elim | exact ⟨_, _, rfl, rfl, h⟩)
theorem mul_ok : OpOk prog w B n (binaryOp .Mult) mulP := by
  intro A σ s a b pa pb Q hA hQ S ra rb
  refine Does.mk fun E => ?_
  obtain ⟨i, j, rfl, rfl, hQ⟩ := mulP_out hQ
  obtain ⟨t, rfl⟩ := ra.int_inv
  obtain ⟨u, rfl⟩ := rb.int_inv
  exact PyProof.Rows.mul_int (post_tok S (.int _ _) hQ.2) (.of_left hQ.1)
noncomputable def modP : PV → PV → Sto → (PV → Sto → Prop) → Prop
  | .int a, .int b, σ, Q => b ≠ 0 ∧ Q (.int (Int.fmod a b)) σ
  | _, _, _, _ => False
theorem modP_out {a b : PV} {σ : Sto} {Q : PV → Sto → Prop} (h : modP a b σ Q) : ∃ i j, a = .int i ∧ b = .int j ∧ (j ≠ 0 ∧ Q (.int (Int.fmod i j)) σ) := by
  cases a <;> first | exact h.elim | (cases b <;> first | exact h.elim | exact ⟨_, _, rfl, rfl, h⟩)
theorem mod_ok : OpOk prog w B n (binaryOp .Mod) modP := by
  intro A σ s a b pa pb Q hA hQ S ra rb
  refine Does.mk fun E => ?_
  obtain ⟨i, j, rfl, rfl, hQ⟩ := modP_out hQ
  obtain ⟨t, rfl⟩ := ra.int_inv
  obtain ⟨u, rfl⟩ := rb.int_inv
  exact mod_int' hQ.1 (post_tok S (.int _ _) hQ.2)
noncomputable def divP : PV → PV → Sto → (PV → Sto → Prop) → Prop
  | .int a, .int b, σ, Q => b ≠ 0 ∧ b.natAbs < 1073741824 ∧ Q (.int (Int.fdiv a b)) σ
  | _, _, _, _ => False
theorem divP_out {a b : PV} {σ : Sto} {Q : PV → Sto → Prop} (h : divP a b σ Q) : ∃ i j, a = .int i ∧ b = .int j ∧ (j ≠ 0 ∧ j.natAbs < 1073741824 ∧ Q (.int (Int.fdiv i j)) σ) := by
  cases a <;> first | exact h.elim | (cases b <;> first | exact h.elim | exact ⟨_, _, rfl, rfl, h⟩)
theorem div_ok : OpOk prog w B n (binaryOp .FloorDiv) divP := by
  intro A σ s a b pa pb Q hA hQ S ra rb
  refine Does.mk fun E => ?_
  obtain ⟨i, j, rfl, rfl, hQ⟩ := divP_out hQ
  obtain ⟨t, rfl⟩ := ra.int_inv
  obtain ⟨u, rfl⟩ := rb.int_inv
  exact floordiv_int hQ.1 (post_tok S (.int _ _) hQ.2.2) (.inl (PyProof.noPylong_small hQ.2.1))
noncomputable def andP : PV → PV → Sto → (PV → Sto → Prop) → Prop
  | .int a, .int b, σ, Q => Q (.int (Builtin.bitAnd a b)) σ
  | _, _, _, _ => False
theorem andP_out {a b : PV} {σ : Sto} {Q : PV → Sto → Prop} (h : andP a b σ Q) : ∃ i j, a = .int i ∧ b = .int j ∧ (Q (.int (Builtin.bitAnd i j)) σ) := by
  cases a <;> first | exact h.elim | (cases b <;> first | exact h.elim | exact ⟨_, _, rfl, rfl, h⟩)
theorem and_ok : OpOk prog w B n (binaryOp .BitAnd) andP := by
  intro A σ s a b pa pb Q hA hQ S ra rb
  refine Does.mk fun E => ?_
  obtain ⟨i, j, rfl, rfl, hQ⟩ := andP_out hQ
  obtain ⟨t, rfl⟩ := ra.int_inv
  obtain ⟨u, rfl⟩ := rb.int_inv
  exact and_int (post_tok S (.int _ _) hQ)
noncomputable def shrP : PV → PV → Sto → (PV → Sto → Prop) → Prop
  | .int a, .int b, σ, Q => 0 ≤ b ∧ Q (.int (Int.fdiv a (2 ^ Int.toNat b))) σ
  | _, _, _, _ => False
theorem shrP_out {a b : PV} {σ : Sto} {Q : PV → Sto → Prop} (h : shrP a b σ Q) : ∃ i j, a = .int i ∧ b = .int j ∧ (0 ≤ j ∧ Q (.int (Int.fdiv i (2 ^ Int.toNat j))) σ) := by
  cases a <;> first | exact h.elim | (cases b <;> first | exact h.elim | exact ⟨_, _, rfl, rfl, h⟩)
theorem shr_ok : OpOk prog w B n (binaryOp .RShift) shrP := by
  intro A σ s a b pa pb Q hA hQ S ra rb
  refine Does.mk fun E => ?_
  obtain ⟨i, j, rfl, rfl, hQ⟩ := shrP_out hQ
  obtain ⟨t, rfl⟩ := ra.int_inv
  obtain ⟨u, rfl⟩ := rb.int_inv
  exact rshift_int_or hA.hand (fun h => absurd h (by have := hQ.1; lia)) fun _ => post_tok S (.int _ _) hQ.2
noncomputable def powP : PV → PV → Sto → (PV → Sto → Prop) → Prop
  | .int a, .int b, σ, Q => a = 10 ∧ b = 9 ∧ Q (.int 1000000000) σ
  | _, _, _, _ => False
theorem powP_out {a b : PV} {σ : Sto} {Q : PV → Sto → Prop} (h : powP a b σ Q) : ∃ i j, a = .int i ∧ b = .int j ∧ (i = 10 ∧ j = 9 ∧ Q (.int 1000000000) σ) := by
  cases a <;> first | exact h.elim | (cases b <;> first | exact h.elim | exact ⟨_, _, rfl, rfl, h⟩)
theorem pow_ok : OpOk prog w B n (binaryOp .Pow) powP := by
  intro A σ s a b pa pb Q hA hQ S ra rb
  refine Does.mk fun E => ?_
  obtain ⟨i, j, rfl, rfl, hQ⟩ := powP_out hQ
  obtain ⟨t, rfl⟩ := ra.int_inv
  obtain ⟨u, rfl⟩ := rb.int_inv
  obtain ⟨rfl, rfl, q⟩ := hQ
  refine AutoIntOps.pow_4 (by decide) (by decide) (by decide) (by decide) (by decide +kernel) ?_
  exact post_tok S (.int _ _) q
noncomputable def iaddP : PV → PV → Sto → (PV → Sto → Prop) → Prop
  | .int a, .int b, σ, Q => Q (.int (a + b)) σ
  | _, _, _, _ => False
theorem iaddP_out {a b : PV} {σ : Sto} {Q : PV → Sto → Prop} (h : iaddP a b σ Q) : ∃ i j, a = .int i ∧ b = .int j ∧ (Q (.int (i + j)) σ) := by
  cases a <;> first | exact h.elim | (cases b <;> first | exact h.elim | exact ⟨_, _, rfl, rfl, h⟩)
theorem iadd_ok : OpOk prog w B n (inplaceOp .Add) iaddP := by
  intro A σ s a b pa pb Q hA hQ S ra rb
  refine Does.mk fun E => ?_
  obtain ⟨i, j, rfl, rfl, hQ⟩ := iaddP_out hQ
  obtain ⟨t, rfl⟩ := ra.int_inv
  obtain ⟨u, rfl⟩ := rb.int_inv
  exact PyProof.Rows.iadd_int (post_tok S (.int _ _) hQ)
noncomputable def ltP : PV → PV → Sto → (PV → Sto → Prop) → Prop
  | .int a, .int b, σ, Q => Q (.bool (decide (a < b))) σ
  | _, _, _, _ => False
theorem ltP_out {a b : PV} {σ : Sto} {Q : PV → Sto → Prop} (h : ltP a b σ Q) : ∃ i j, a = .int i ∧ b = .int j ∧ (Q (.bool (decide (i < j))) σ) := by
  cases a <;> first | exact h.elim | (cases b <;> first | exact h.elim | exact ⟨_, _, rfl, rfl, h⟩)
theorem lt_ok : OpOk prog w B n (compareOp .Lt) ltP := by
  intro A σ s a b pa pb Q hA hQ S ra rb
  refine Does.mk fun E => ?_
  obtain ⟨i, j, rfl, rfl, hQ⟩ := ltP_out hQ
  obtain ⟨t, rfl⟩ := ra.int_inv
  obtain ⟨u, rfl⟩ := rb.int_inv
  exact lt_int (post_here S (.bool _) hQ)
noncomputable def gtP : PV → PV → Sto → (PV → Sto → Prop) → Prop
  | .int a, .int b, σ, Q => Q (.bool (decide (b < a))) σ
  | _, _, _, _ => False
theorem gtP_out {a b : PV} {σ : Sto} {Q : PV → Sto → Prop} (h : gtP a b σ Q) : ∃ i j, a = .int i ∧ b = .int j ∧ (Q (.bool (decide (j < i))) σ) := by
  cases a <;> first | exact h.elim | (cases b <;> first | exact h.elim | exact ⟨_, _, rfl, rfl, h⟩)
theorem gt_ok : OpOk prog w B n (compareOp .Gt) gtP := by
  intro A σ s a b pa pb Q hA hQ S ra rb
  refine Does.mk fun E => ?_
  obtain ⟨i, j, rfl, rfl, hQ⟩ := gtP_out hQ
  obtain ⟨t, rfl⟩ := ra.int_inv
  obtain ⟨u, rfl⟩ := rb.int_inv
  exact gt_int (post_here S (.bool _) hQ)
noncomputable def geP : PV → PV → Sto → (PV → Sto → Prop) → Prop
  | .int a, .int b, σ, Q => Q (.bool (decide (b ≤ a))) σ
  | _, _, _, _ => False
theorem geP_out {a b : PV} {σ : Sto} {Q : PV → Sto → Prop} (h : geP a b σ Q) : ∃ i j, a = .int i ∧ b = .int j ∧ (Q (.bool (decide (j ≤ i))) σ) := by
  cases a <;> first | exact h.elim | (cases b <;> first | exact h.elim | exact ⟨_, _, rfl, rfl, h⟩)
theorem ge_ok : OpOk prog w B n (compareOp .GtE) geP := by
  intro A σ s a b pa pb Q hA hQ S ra rb
  refine Does.mk fun E => ?_
  obtain ⟨i, j, rfl, rfl, hQ⟩ := geP_out hQ
  obtain ⟨t, rfl⟩ := ra.int_inv
  obtain ⟨u, rfl⟩ := rb.int_inv
  exact ge_int (post_here S (.bool _) hQ)
noncomputable def isP : PV → PV → Sto → (PV → Sto → Prop) → Prop
  | .none, .none, σ, Q => Q (.bool true) σ
  | .ref _, .none, σ, Q => Q (.bool false) σ
  | _, _, _, _ => False
theorem isP_out {a b : PV} {σ : Sto} {Q : PV → Sto → Prop} (h : isP a b σ Q) : (a = .none ∧ b = .none ∧ Q (.bool true) σ) ∨ ∃ x, a = .ref x ∧ b = .none ∧ Q (.bool false) σ := by
  cases a <;> first | exact h.elim | (cases b <;> first | exact h.elim | exact .inl ⟨rfl, rfl, h⟩ | exact .inr ⟨_, rfl, rfl, h⟩)
theorem VR.none_inv {B h : Heap} {v : Value} (r : VR B h v .none) : v = .none := by cases r; rfl
theorem is_ok : OpOk prog w B n (compareOp .Is) isP := by
  intro A σ s a b pa pb Q hA hQ S ra rb
  refine Does.mk fun E => ?_
  rcases isP_out hQ with ⟨rfl, rfl, q⟩ | ⟨x, rfl, rfl, q⟩
  · cases ra.none_inv
    cases rb.none_inv
    exact is_none (post_here S (.bool _) q)
  · cases ra.ref_inv
    cases rb.none_inv
    exact is_none (post_here S (.bool _) q)
noncomputable def intsOf : List PV → Option (List Int)
  | [] => some []
  | .int i :: r => (intsOf r).map (i :: ·)
  | _ :: _ => none
theorem intsOf_map (ns : List Int) : intsOf (ns.map PV.int) = some ns := by
  induction ns with
  | nil => rfl
  | cons n r ih => simp [intsOf, ih]
theorem of_intsOf : ∀ {l : List PV} {ns : List Int}, intsOf l = some ns → l = ns.map PV.int
  | [], ns, h => by cases h; rfl
  | .int i :: r, ns, h => by
    obtain ⟨ms, hm, rfl⟩ := Option.map_eq_some_iff.mp h
    rw [of_intsOf hm]; rfl
  | .none :: _, _, h => by cases h
  | .bool _ :: _, _, h => by cases h
  | .str _ :: _, _, h => by cases h
  | .tup _ :: _, _, h => by cases h
  | .ref _ :: _, _, h => by cases h
  | .scr _ :: _, _, h => by cases h
  | .typ _ :: _, _, h => by cases h
mutual
noncomputable def deep (σ : Sto) : PV → Option PyData
  | .none => some .none
  | .bool b => some (.bool b)
  | .int i => some (.int i)
  | .str x => if PyData.strOk x then some (.str x) else none
  | .tup l => (deeps σ l).map .tuple
  | .ref a => match σ a with
    | some (.list l) => (intsOf l).map fun ns => .list (ns.map .int)
    | _ => none
  | .scr _ => none
  | .typ _ => none
noncomputable def deeps (σ : Sto) : List PV → Option (List PyData)
  | [] => some []
  | p :: r => (deep σ p).bind fun d => (deeps σ r).map (d :: ·)
end
mutual
noncomputable def shal : Nat → PV → Bool
  | 0, .tup _ => false
  | k + 1, .tup l => shals k l
  | _, _ => true
noncomputable def shals : Nat → List PV → Bool
  | _, [] => true
  | k, p :: r => shal k p && shals k r
end
theorem readsInts {h : Heap} {vs : List Value} {ns : List Int} (r : IntsAre vs ns) : ∃ as, ReadsAll h vs (ns.map .int) as := by
  induction r with
  | nil => exact ⟨_, .nil⟩
  | cons n t r ih => obtain ⟨_, z⟩ := ih; exact ⟨_, .cons (.int n t) z⟩
theorem layInts : ∀ ns : List Int, PyData.canLayAll0 (ns.map .int) = true
  | [] => by simp [PyData.canLayAll0]
  | n :: r => by simp [PyData.canLayAll0, PyData.canLay0, layInts r]
theorem depthInts : ∀ ns : List Int, PyData.depthAll (ns.map .int) = 0
  | [] => by simp [PyData.depthAll]
  | n :: r => by simp [PyData.depthAll, PyData.depth, depthInts r]
theorem deeps_of {h : Heap} {σ : Sto} {k : Nat} (H : ∀ {v : Value} {p : PV} {d : PyData}, VR B h v p → deep σ p = some d → shal k p = true → (∃ as, Reads h v d as) ∧ d.canLay0 = true ∧ d.depth ≤ k + 1) {v : List Value} {p : List PV} {d : List PyData} (r : VRs B h v p) (e : deeps σ p = some d) (hk : shals k p = true) : (∃ as, ReadsAll h v d as) ∧ PyData.canLayAll0 d = true ∧ PyData.depthAll d ≤ k + 1 := by
  induction p generalizing v d with
  | nil => rw [r.nil_inv]; rw [deeps] at e; cases e; exact ⟨⟨_, .nil⟩, by simp [PyData.canLayAll0], by simp [PyData.depthAll]⟩
  | cons p ps ih =>
    obtain ⟨v, us, rfl, a, b⟩ := r.cons_inv
    rw [deeps] at e
    obtain ⟨d, hd, e⟩ := Option.bind_eq_some_iff.mp e
    obtain ⟨ds, hds, rfl⟩ := Option.map_eq_some_iff.mp e
    simp only [shals, Bool.and_eq_true] at hk
    obtain ⟨⟨as, z⟩, l, dp⟩ := H a hd hk.1
    obtain ⟨⟨bs, zs⟩, ls, dps⟩ := ih b hds hk.2
    exact ⟨⟨_, .cons z zs⟩, by simp [PyData.canLayAll0, l, ls], by simp [PyData.depthAll]; omega⟩
theorem deep_flat {h : Heap} {σ : Sto} (S : St prog w B h σ) {v : Value} {p : PV} {d : PyData} (r : VR B h v p) (e : deep σ p = some d) (hp : ∀ l, p ≠ .tup l) : (∃ as, Reads h v d as) ∧ d.canLay0 = true ∧ d.depth ≤ 1 := by
  cases r with
  | none => rw [deep] at e; cases e; exact ⟨⟨_, .none⟩, by simp [PyData.canLay0], by simp [PyData.depth]⟩
  | bool b => rw [deep] at e; cases e; exact ⟨⟨_, .bool b⟩, by simp [PyData.canLay0], by simp [PyData.depth]⟩
  | int i t => rw [deep] at e; cases e; exact ⟨⟨_, .int i t⟩, by simp [PyData.canLay0], by simp [PyData.depth]⟩
  | str x t =>
    rw [deep] at e
    split at e
    · rename_i q; cases e; exact ⟨⟨_, .str x t⟩, by simp [PyData.canLay0, q], by simp [PyData.depth]⟩
    · cases e
  | tup _ _ => exact absurd rfl (hp _)
  | ref a =>
    rw [deep] at e
    split at e
    · rename_i l hl
      obtain ⟨ns, hn, rfl⟩ := Option.map_eq_some_iff.mp e
      obtain ⟨vs, j, h1, r⟩ := S.objs _ _ hl
      rw [of_intsOf hn] at r
      obtain ⟨as, z⟩ := readsInts (h := h) r.toInts
      exact ⟨⟨_, .list h1 rfl rfl z⟩, by simp [PyData.canLay0, layInts], by simp [PyData.depth, depthInts]⟩
    · cases e
  | scr _ _ _ => rw [deep] at e; cases e
  | typ _ => rw [deep] at e; cases e
theorem deep_reads {h : Heap} {σ : Sto} (S : St prog w B h σ) (k : Nat) {v : Value} {p : PV} {d : PyData} (r : VR B h v p) (e : deep σ p = some d) (hk : shal k p = true) : (∃ as, Reads h v d as) ∧ d.canLay0 = true ∧ d.depth ≤ k + 1 := by
  induction k generalizing v p d with
  | zero =>
    obtain ⟨a, b, c⟩ := deep_flat S r e (fun l h => by subst h; simp [shal] at hk)
    exact ⟨a, b, c⟩
  | succ k ih =>
    by_cases hp : ∃ l, p = .tup l
    · obtain ⟨l, rfl⟩ := hp
      obtain ⟨a, vs, n, rfl, ho, r⟩ := r.tup_inv
      rw [deep] at e
      obtain ⟨ds, hd, rfl⟩ := Option.map_eq_some_iff.mp e
      obtain ⟨⟨as, z⟩, l, dp⟩ := deeps_of ih r hd (by simpa [shal] using hk)
      exact ⟨⟨_, .tuple ho rfl rfl z⟩, by simp [PyData.canLay0, l], by simp [PyData.depth]; omega⟩
    · obtain ⟨a, b, c⟩ := deep_flat S r e (fun l h => hp ⟨l, h⟩)
      exact ⟨a, b, by omega⟩
theorem deeps_reads {h : Heap} {σ : Sto} (S : St prog w B h σ) (k : Nat) {v : List Value} {p : List PV} {d : List PyData} (r : VRs B h v p) (e : deeps σ p = some d) (hk : shals k p = true) : (∃ as, ReadsAll h v d as) ∧ PyData.canLayAll0 d = true ∧ PyData.depthAll d ≤ k + 1 :=
  deeps_of (fun r e hk => deep_reads S k r e hk) r e hk
noncomputable def eqP (f : Bool → Bool) : PV → PV → Sto → (PV → Sto → Prop) → Prop := fun a b σ Q => ∃ da db, deep σ a = some da ∧ deep σ b = some db ∧ shal 8 a = true ∧ shal 8 b = true ∧ Q (.bool (f (PyData.eqv da db))) σ
theorem eq_ok : OpOk prog w B n (compareOp .Eq) (eqP id) := by
  rintro A σ s a b pa pb Q hA ⟨da, db, ea, eb, ha, hb, q⟩ S ra rb
  refine Does.mk fun E => ?_
  obtain ⟨⟨as, za⟩, la, dpa⟩ := deep_reads S 8 ra ea ha
  obtain ⟨⟨bs, zb⟩, lb, dpb⟩ := deep_reads S 8 rb eb hb
  exact SeqAt.compareEq_reads za zb la lb (by have := hA.unit; have := Nat.min_le_left da.depth db.depth; lia) (post_here S (.bool _) q)
theorem ne_ok : OpOk prog w B n (compareOp .NotEq) (eqP not) := by
  rintro A σ s a b pa pb Q hA ⟨da, db, ea, eb, ha, hb, q⟩ S ra rb
  refine Does.mk fun E => ?_
  obtain ⟨⟨as, za⟩, la, dpa⟩ := deep_reads S 8 ra ea ha
  obtain ⟨⟨bs, zb⟩, lb, dpb⟩ := deep_reads S 8 rb eb hb
  exact SeqAt.compareNe_reads za zb la lb (by have := hA.unit; have := Nat.min_le_left da.depth db.depth; lia) (post_here S (.bool _) q)
noncomputable def toDK : PV → Option DK
  | .int i => some (.int i)
  | .tup l => (intsOf l).map .tup
  | .str x => some (.str x)
  | _ => none
noncomputable def dget (kvs : List (DK × PV)) (k : DK) : Option PV := (kvs.find? fun x => decide (x.1 = k)).map (·.2)
noncomputable def kindOk (kvs : List (DK × PV)) (k : DK) : Prop := match k with
  | .int _ => ∀ x ∈ kvs, ∃ i, x.1 = .int i
  | .tup _ => ∀ x ∈ kvs, ∃ i, x.1 = .tup i
  | .str _ => ∀ x ∈ kvs, ∃ i, x.1 = .str i
noncomputable def inP (f : Bool → Bool) : PV → PV → Sto → (PV → Sto → Prop) → Prop := fun x c σ Q => match c with
  | .tup l => ∃ d ds, deep σ x = some d ∧ deeps σ l = some ds ∧ shal 8 x = true ∧ shals 8 l = true ∧ Q (.bool (f (ds.any fun y => PyData.eqv y d))) σ
  | .ref a => match σ a with
    | some (.list l) => ∃ d ds, deep σ x = some d ∧ deeps σ l = some ds ∧ shal 8 x = true ∧ shals 8 l = true ∧ Q (.bool (f (ds.any fun y => PyData.eqv y d))) σ
    | some (.dict kvs) => ∃ k, toDK x = some k ∧ kindOk kvs k ∧ Q (.bool (f (dget kvs k).isSome)) σ
    | _ => False
  | _ => False
end
end Mine
namespace Mine
open PySem PySem.W PySem.Calls PyProof.Rows PySem.Spec
section
variable {prog : Program} {w : World} {B h h' : Heap} {n : Nat} {env : Env}
noncomputable def DInt (prog : Program) (w : World) (B h : Heap) (a : Addr) (kvs : List (DK × PV)) : Prop :=
  ∃ xs : List (Int × Value × PV), kvs = xs.map (fun x => (DK.int x.1, x.2.2)) ∧ h.DictOf (intKind prog w) a (xs.map fun x => (x.1, x.2.1)) ∧ ∀ x ∈ xs, VR B h x.2.1 x.2.2
noncomputable def DTup (prog : Program) (w : World) (B h : Heap) (a : Addr) (kvs : List (DK × PV)) : Prop :=
  ∃ xs : List (List Int × Addr × Value × PV), kvs = xs.map (fun x => (DK.tup x.1, x.2.2.2)) ∧ h.DictOfH (tupleKind (intKind prog w)) a (xs.map fun x => (x.1, x.2.1, x.2.2.1)) ∧ ∀ x ∈ xs, VR B h x.2.2.1 x.2.2.2
noncomputable def DStr (prog : Program) (w : World) (B h : Heap) (a : Addr) (kvs : List (DK × PV)) : Prop :=
  ∃ xs : List (Str × Value × PV), kvs = xs.map (fun x => (DK.str x.1, x.2.2)) ∧ h.DictOf (strKind prog w) a (xs.map fun x => (x.1, x.2.1)) ∧ ∀ x ∈ xs, VR B h x.2.1 x.2.2
theorem DRel.empty {a : Addr} (x : DRel prog w B h a []) : ∃ o ep, h.get? a = some o ∧ o.ExactDict ∧ o.data = .dict #[] ep := by
  rcases x with ⟨xs, e, ⟨o, es, ep, h1, h2, h3, h4, h5, h6⟩, _⟩ | ⟨xs, e, ⟨o, es, ep, h1, h2, h3, h4, h5⟩, _⟩ | ⟨xs, e, ⟨o, es, ep, h1, h2, h3, h4, h5, h6⟩, _⟩
  · have : xs = [] := List.map_eq_nil_iff.mp e.symm
    subst this
    have hl := h5.length
    have : es = #[] := by apply Array.toList_inj.mp; exact List.length_eq_zero_iff.mp (by simpa using hl)
    subst this
    exact ⟨o, ep, h1, h2, h3⟩
  · have : xs = [] := List.map_eq_nil_iff.mp e.symm
    subst this
    have : es = #[] := by apply Array.toList_inj.mp; simpa using h4
    subst this
    exact ⟨o, ep, h1, h2, h3⟩
  · have : xs = [] := List.map_eq_nil_iff.mp e.symm
    subst this
    have hl := h5.length
    have : es = #[] := by apply Array.toList_inj.mp; exact List.length_eq_zero_iff.mp (by simpa using hl)
    subst this
    exact ⟨o, ep, h1, h2, h3⟩
theorem emptyOf {K : Type} [DecidableEq K] {knd : KeyKind prog w K} {a : Addr} (x : ∃ o ep, h.get? a = some o ∧ o.ExactDict ∧ o.data = .dict #[] ep) : h.DictOf knd a [] :=
  let ⟨o, ep, h1, h2, h3⟩ := x; ⟨o, #[], ep, h1, h2, h3, fun _ h => (by simp at h), .nil, List.nodup_nil⟩
theorem emptyOfH {K : Type} [DecidableEq K] {knd : HeapKind prog w K} {a : Addr} (x : ∃ o ep, h.get? a = some o ∧ o.ExactDict ∧ o.data = .dict #[] ep) : h.DictOfH knd a [] :=
  let ⟨o, ep, h1, h2, h3⟩ := x; ⟨o, #[], ep, h1, h2, h3, rfl, fun _ h => (by simp at h), List.nodup_nil⟩
theorem DRel.int {a : Addr} {kvs : List (DK × PV)} (x : DRel prog w B h a kvs) (hk : ∀ x ∈ kvs, ∃ i, x.1 = DK.int i) : DInt prog w B h a kvs := by
  cases kvs with
  | nil => exact ⟨[], rfl, emptyOf x.empty, fun _ h => nomatch h⟩
  | cons p r =>
    rcases x with x | ⟨xs, e, _⟩ | ⟨xs, e, _⟩
    · exact x
    · obtain ⟨i, hi⟩ := hk p (.head _)
      cases xs with
      | nil => cases e
      | cons y ys => simp only [List.map_cons, List.cons.injEq] at e; rw [e.1] at hi; cases hi
    · obtain ⟨i, hi⟩ := hk p (.head _)
      cases xs with
      | nil => cases e
      | cons y ys => simp only [List.map_cons, List.cons.injEq] at e; rw [e.1] at hi; cases hi
theorem DRel.tup {a : Addr} {kvs : List (DK × PV)} (x : DRel prog w B h a kvs) (hk : ∀ x ∈ kvs, ∃ i, x.1 = DK.tup i) : DTup prog w B h a kvs := by
  cases kvs with
  | nil => exact ⟨[], rfl, emptyOfH x.empty, fun _ h => nomatch h⟩
  | cons p r =>
    rcases x with ⟨xs, e, _⟩ | x | ⟨xs, e, _⟩
    · obtain ⟨i, hi⟩ := hk p (.head _)
      cases xs with
      | nil => cases e
      | cons y ys => simp only [List.map_cons, List.cons.injEq] at e; rw [e.1] at hi; cases hi
    · exact x
    · obtain ⟨i, hi⟩ := hk p (.head _)
      cases xs with
      | nil => cases e
      | cons y ys => simp only [List.map_cons, List.cons.injEq] at e; rw [e.1] at hi; cases hi
theorem DRel.str {a : Addr} {kvs : List (DK × PV)} (x : DRel prog w B h a kvs) (hk : ∀ x ∈ kvs, ∃ i, x.1 = DK.str i) : DStr prog w B h a kvs := by
  cases kvs with
  | nil => exact ⟨[], rfl, emptyOf x.empty, fun _ h => nomatch h⟩
  | cons p r =>
    rcases x with ⟨xs, e, _⟩ | ⟨xs, e, _⟩ | x
    · obtain ⟨i, hi⟩ := hk p (.head _)
      cases xs with
      | nil => cases e
      | cons y ys => simp only [List.map_cons, List.cons.injEq] at e; rw [e.1] at hi; cases hi
    · obtain ⟨i, hi⟩ := hk p (.head _)
      cases xs with
      | nil => cases e
      | cons y ys => simp only [List.map_cons, List.cons.injEq] at e; rw [e.1] at hi; cases hi
    · exact x
theorem dget_map {κ β : Type} [DecidableEq κ] (c : κ → DK) (hc : ∀ a b, c a = c b → a = b) (xs : List (κ × β)) (f : β → PV) (k : κ) : dget (xs.map fun x => (c x.1, f x.2)) (c k) = ((xs.find? fun x => decide (x.1 = k)).map fun x => f x.2) := by
  induction xs with
  | nil => rfl
  | cons x r ih =>
    unfold dget at ih ⊢
    rw [List.map_cons, List.find?_cons, List.find?_cons]
    by_cases q : x.1 = k
    · rw [q]; simp
    · have q' : ¬ c x.1 = c k := fun e => q (hc _ _ e)
      simp only [q, q', decide_false]
      exact ih
theorem valueAt_map {κ β : Type} [DecidableEq κ] (xs : List (κ × β)) (f : β → Value) (k : κ) : valueAt (xs.map fun x => (x.1, f x.2)) k = ((xs.find? fun x => decide (x.1 = k)).map fun x => f x.2) := by
  induction xs with
  | nil => rfl
  | cons x r ih =>
    unfold valueAt at ih ⊢
    rw [List.map_cons, List.find?_cons, List.find?_cons]
    by_cases q : x.1 = k
    · simp [q]
    · simp only [q, decide_false]
      exact ih
theorem atKey_map {κ β : Type} [DecidableEq κ] (xs : List (κ × β)) (f : β → Addr × Value) (k : κ) : atKey (xs.map fun x => (x.1, f x.2)) k = ((xs.find? fun x => decide (x.1 = k)).map fun x => f x.2) := by
  induction xs with
  | nil => rfl
  | cons x r ih =>
    unfold atKey at ih ⊢
    rw [List.map_cons, List.find?_cons, List.find?_cons]
    by_cases q : x.1 = k
    · simp [q]
    · simp only [q, decide_false]
      exact ih
noncomputable def dput (kvs : List (DK × PV)) (k : DK) (v : PV) : List (DK × PV) :=
  if (dget kvs k).isSome then kvs.map (fun x => if x.1 = k then (x.1, v) else x) else kvs ++ [(k, v)]
theorem key_int {v : Value} {p : PV} {i : Int} (r : VR B h v p) (e : toDK p = some (.int i)) : ∃ t, v = .int i t := by
  cases r <;> simp [toDK] at e
  subst e; exact ⟨_, rfl⟩
theorem key_str {v : Value} {p : PV} {x : Str} (r : VR B h v p) (e : toDK p = some (.str x)) : ∃ t, v = .str x t := by
  cases r <;> simp [toDK] at e
  subst e; exact ⟨_, rfl⟩
theorem itemsAre : ∀ {vs : List Value} {ns : List Int}, IntsAre vs ns → ItemsAre (intKind prog w) ns vs
  | _, _, .nil => .nil
  | _, _, .cons n t r => .cons (intKind_is prog w n t) (itemsAre r)
theorem key_tup {v : Value} {p : PV} {ns : List Int} (r : VR B h v p) (e : toDK p = some (.tup ns)) : ∃ a, v = .ref a ∧ IsTupleKey (intKind prog w) h ns a := by
  cases r with
  | tup ho rs =>
    simp only [toDK, Option.map_eq_some_iff, DK.tup.injEq] at e
    obtain ⟨ms, hm, rfl⟩ := e
    rw [of_intsOf hm] at rs
    exact ⟨_, rfl, _, _, _, ho, rfl, rfl, itemsAre rs.toInts⟩
  | _ => simp [toDK] at e
end
section
variable {prog : Program} {w : World} {B : Heap} {n : Nat} {env : Env}
theorem contains_of_in {M : Model} {A : Around} {E : Value → Shared → Prop} {s : Shared} {c x : Value} {R : Bool → Shared → Prop} (hx : wpAny M A (compareOp .In x c) (fun v s' => ∃ b, v = .bool b ∧ R b s') E s) : wpAny M A (compareOp .NotIn x c) (fun v s' => ∃ b, v = .bool (!b) ∧ R b s') E s := by
  have e1 : compareOp .In x c = (contains c x >>= fun b => pure (.bool b)) := rfl
  have e2 : compareOp .NotIn x c = (contains c x >>= fun b => pure (.bool (!b))) := rfl
  rw [e1] at hx
  rw [e2]
  intro Γ p hΓ
  have := hx Γ p hΓ
  rw [Sem.wp_bind'] at this ⊢
  refine Sem.wp_mono M Γ _ (fun b p' s' z => ?_) (fun _ _ _ z => z) p s this
  obtain ⟨b', e, r⟩ := z
  cases e
  exact ⟨_, rfl, r⟩
theorem in_dict {σ : Sto} {s : Shared} {A : Around} {E : Value → Shared → Prop} {a : Addr} {kvs : List (DK × PV)} {x : Value} {p : PV} {k : DK} {R : Bool → Shared → Prop} (hA : A.units + 64 < cLine) (S : St prog w B s.heap σ) (ha : σ a = some (.dict kvs)) (rx : VR B s.heap x p)
    (ek : toDK p = some k) (hk : kindOk kvs k) (h : ∀ tk, R (dget kvs k).isSome { s with toks := tk }) : wpAny (model prog w) A (compareOp .In x (.ref a)) (fun v s' => ∃ b, v = .bool b ∧ R b s') E s := by
  have D : DRel prog w B s.heap a kvs := S.objs _ _ ha
  have lo := (S.off a (by rw [ha]; simp)).2
  cases k with
  | int i =>
    obtain ⟨t, rfl⟩ := key_int rx ek
    obtain ⟨xs, rfl, hd, hv⟩ := D.int hk
    refine wpAny_in_of (intKind_is prog w i t) lo hd.mapOf ⟨_, rfl, ?_⟩
    have := h (s.toks + 1)
    rw [dget_map DK.int (fun _ _ e => DK.int.inj e) xs (fun y => y.2)] at this
    rw [valueAt_map xs (fun y => y.1)]
    simpa using this
  | str y =>
    obtain ⟨t, rfl⟩ := key_str rx ek
    obtain ⟨xs, rfl, hd, hv⟩ := D.str hk
    refine wpAny_in_of (strKind_is prog w y t) lo hd.mapOf ⟨_, rfl, ?_⟩
    have := h (s.toks + 1)
    rw [dget_map DK.str (fun _ _ e => DK.str.inj e) xs (fun y => y.2)] at this
    rw [valueAt_map xs (fun y => y.1)]
    simpa using this
  | tup ns =>
    obtain ⟨b, rfl, hb⟩ := key_tup (prog := prog) (w := w) rx ek
    obtain ⟨xs, rfl, hd, hv⟩ := D.tup hk
    refine wpAny_in_heap (knd := tupleKind (intKind prog w)) (k := ns) (show A.units + 1 < cLine by lia) hb lo hd ⟨_, rfl, ?_⟩
    have := h (s.toks + (tupleKind (intKind prog w)).draws ns)
    rw [dget_map DK.tup (fun _ _ e => DK.tup.inj e) xs (fun y => y.2.2)] at this
    rw [atKey_map xs (fun y => (y.1, y.2.1))]
    simpa using this
theorem in_ok : OpOk prog w B n (compareOp .In) (inP id) := by
  intro A σ s x c px pc Q hA hQ S rx rc
  refine Does.mk fun E => ?_
  cases rc with
  | tup ho r =>
    obtain ⟨d, ds, ed, eds, h1, h2, q⟩ := hQ
    obtain ⟨⟨as, z⟩, l, dp⟩ := deep_reads S 8 rx ed h1
    obtain ⟨⟨bs, zs⟩, ls, dps⟩ := deeps_reads S 8 r eds h2
    exact SeqAt.in_tuple_reads (Reads.tuple ho rfl rfl zs) z ls l (by have := hA.unit; have := Nat.min_le_left (PyData.depthAll ds) d.depth; lia) (post_here S (.bool _) q)
  | ref a =>
    rcases lod_out hQ with ⟨l, hl, hQ⟩ | ⟨kvs, hl, hQ⟩
    · obtain ⟨d, ds, ed, eds, h1, h2, q⟩ := hQ
      obtain ⟨vs, j, ho, r⟩ := S.objs _ _ hl
      obtain ⟨⟨as, z⟩, l, dp⟩ := deep_reads S 8 rx ed h1
      obtain ⟨⟨bs, zs⟩, ls, dps⟩ := deeps_reads S 8 r eds h2
      exact SeqAt.in_list_reads (Reads.list ho rfl rfl zs) z ls l (by have := hA.unit; have := Nat.min_le_left (PyData.depthAll ds) d.depth; lia) (post_here S (.bool _) q)
    · obtain ⟨k, ek, hk, q⟩ := hQ
      refine wpAny_mono (in_dict (R := fun b s' => b = (dget kvs k).isSome ∧ ∃ tk, s' = { s with toks := tk }) hA.unit S hl rx ek hk fun tk => ⟨rfl, tk, rfl⟩) (fun v s' z => ?_) fun _ _ e => e
      obtain ⟨b, rfl, rfl, tk, rfl⟩ := z
      exact post_tok S (.bool _) q
  | _ => exact hQ.elim
theorem notIn_ok : OpOk prog w B n (compareOp .NotIn) (inP not) := by
  intro A σ s x c px pc Q hA hQ S rx rc
  refine Does.mk fun E => ?_
  cases rc with
  | tup ho r =>
    obtain ⟨d, ds, ed, eds, h1, h2, q⟩ := hQ
    obtain ⟨⟨as, z⟩, l, dp⟩ := deep_reads S 8 rx ed h1
    obtain ⟨⟨bs, zs⟩, ls, dps⟩ := deeps_reads S 8 r eds h2
    exact SeqAt.notIn_tuple_reads (Reads.tuple ho rfl rfl zs) z ls l (by have := hA.unit; have := Nat.min_le_left (PyData.depthAll ds) d.depth; lia) (post_here S (.bool _) q)
  | ref a =>
    rcases lod_out hQ with ⟨l, hl, hQ⟩ | ⟨kvs, hl, hQ⟩
    · obtain ⟨d, ds, ed, eds, h1, h2, q⟩ := hQ
      obtain ⟨vs, j, ho, r⟩ := S.objs _ _ hl
      obtain ⟨⟨as, z⟩, l, dp⟩ := deep_reads S 8 rx ed h1
      obtain ⟨⟨bs, zs⟩, ls, dps⟩ := deeps_reads S 8 r eds h2
      exact SeqAt.notIn_list_reads (Reads.list ho rfl rfl zs) z ls l (by have := hA.unit; have := Nat.min_le_left (PyData.depthAll ds) d.depth; lia) (post_here S (.bool _) q)
    · obtain ⟨k, ek, hk, q⟩ := hQ
      refine wpAny_mono (contains_of_in (in_dict (R := fun b s' => b = (dget kvs k).isSome ∧ ∃ tk, s' = { s with toks := tk }) hA.unit S hl rx ek hk fun tk => ⟨rfl, tk, rfl⟩)) (fun v s' z => ?_) fun _ _ e => e
      obtain ⟨b, rfl, rfl, tk, rfl⟩ := z
      exact post_tok S (.bool _) q
  | _ => exact hQ.elim
end
end Mine
namespace Mine
open PySem PySem.W PySem.Calls PyProof.Rows PySem.Spec
section
variable {prog : Program} {w : World} {B : Heap} {n : Nat} {env : Env}
noncomputable def seqP (l : List PV) (k : Int) (σ : Sto) (Q : PV → Sto → Prop) : Prop := -(2 ^ 63) ≤ k ∧ k < 2 ^ 63 ∧ ∃ v, ((seqIndex? k l.length).bind fun j => l[j]?) = some v ∧ Q v σ
noncomputable def getP : PV → PV → Sto → (PV → Sto → Prop) → Prop := fun o i σ Q => match o with
  | .tup l => match i with
    | .int k => seqP l k σ Q
    | _ => False
  | .str x => match i with
    | .int k => -(2 ^ 63) ≤ k ∧ k < 2 ^ 63 ∧ ∃ c, ((seqIndex? k x.length).bind (x.cps[·]?)) = some c ∧ Q (.str ⟨#[c]⟩) σ
    | _ => False
  | .ref a => match σ a with
    | some (.list l) => match i with
      | .int k => seqP l k σ Q
      | _ => False
    | some (.dict kvs) => ∃ k v, toDK i = some k ∧ kindOk kvs k ∧ dget kvs k = some v ∧ Q v σ
    | _ => False
  | _ => False
theorem seqIndex_lt {k : Int} {n j : Nat} (h : seqIndex? k n = some j) : j < n := by
  simp only [seqIndex?, Bool.and_eq_true, decide_eq_true_eq] at h
  by_cases q : 0 ≤ (if k < 0 then k + (n : Int) else k) ∧ (if k < 0 then k + (n : Int) else k) < (n : Int)
  · rw [if_pos q] at h; cases h; lia
  · rw [if_neg q] at h; cases h
theorem getItem_listB {A : Around} {E : Value → Shared → Prop} {s : Shared} {l : Addr} {items : Array Value} {k : Int} {t : Tok} {j : Nat} {x : Value} {Q : Value → Shared → Prop} (hl : s.heap.IsList l items) (h1 : -(2 ^ 63) ≤ k) (h2 : k < 2 ^ 63)
    (hj : seqIndex? k items.size = some j) (hx : items[j]? = some x) (h : Q x s) : wpAny (model prog w) A (getItem (.ref l) (.int k t)) Q E s := by
  simp only [seqIndex?, Bool.and_eq_true, decide_eq_true_eq] at hj
  by_cases q : 0 ≤ (if k < 0 then k + (items.size : Int) else k) ∧ (if k < 0 then k + (items.size : Int) else k) < (items.size : Int)
  · rw [if_pos q] at hj
    cases hj
    by_cases h0 : k < 0
    · simp only [h0, if_true] at q hx
      exact wpAny_getItem_list_neg hl h0 (by lia) h1 hx h
    · simp only [h0, if_false] at q hx
      exact wpAny_getItem_list hl (by lia) h2 hx h
  · rw [if_neg q] at hj; cases hj
theorem getDict {σ : Sto} {s : Shared} {A : Around} {E : Value → Shared → Prop} {a : Addr} {kvs : List (DK × PV)} {x : Value} {p : PV} {k : DK} {pv : PV} {Q : Value → Shared → Prop} (hA : A.units + 64 < cLine) (S : St prog w B s.heap σ) (ha : σ a = some (.dict kvs)) (rx : VR B s.heap x p)
    (ek : toDK p = some k) (hk : kindOk kvs k) (hg : dget kvs k = some pv) (h : ∀ v tk, VR B s.heap v pv → Q v { s with toks := tk }) : wpAny (model prog w) A (getItem (.ref a) x) Q E s := by
  have D : DRel prog w B s.heap a kvs := S.objs _ _ ha
  have lo := (S.off a (by rw [ha]; simp)).2
  cases k with
  | int i =>
    obtain ⟨t, rfl⟩ := key_int rx ek
    obtain ⟨xs, rfl, hd, hv⟩ := D.int hk
    rw [dget_map DK.int (fun _ _ e => DK.int.inj e) xs (fun y => y.2)] at hg
    obtain ⟨y, hy, rfl⟩ := Option.map_eq_some_iff.mp hg
    exact wpAny_getItem_of (v := y.2.1) (intKind_is prog w i t) hd.mapOf (by rw [valueAt_map xs (fun y => y.1), hy]; rfl) (h _ _ (hv y (List.mem_of_find?_eq_some hy)))
  | str z =>
    obtain ⟨t, rfl⟩ := key_str rx ek
    obtain ⟨xs, rfl, hd, hv⟩ := D.str hk
    rw [dget_map DK.str (fun _ _ e => DK.str.inj e) xs (fun y => y.2)] at hg
    obtain ⟨y, hy, rfl⟩ := Option.map_eq_some_iff.mp hg
    exact wpAny_getItem_of (v := y.2.1) (strKind_is prog w z t) hd.mapOf (by rw [valueAt_map xs (fun y => y.1), hy]; rfl) (h _ _ (hv y (List.mem_of_find?_eq_some hy)))
  | tup ns =>
    obtain ⟨b, rfl, hb⟩ := key_tup (prog := prog) (w := w) rx ek
    obtain ⟨xs, rfl, hd, hv⟩ := D.tup hk
    rw [dget_map DK.tup (fun _ _ e => DK.tup.inj e) xs (fun y => y.2.2)] at hg
    obtain ⟨y, hy, rfl⟩ := Option.map_eq_some_iff.mp hg
    exact wpAny_getItem_heap (knd := tupleKind (intKind prog w)) (k := ns) (p := (y.2.1, y.2.2.1)) (show A.units + 1 < cLine by lia) hb hd (by rw [atKey_map xs (fun y => (y.1, y.2.1)), hy]; rfl) (h _ _ (hv y (List.mem_of_find?_eq_some hy)))
theorem sub_get {value slice : Expr} (hsl : ∀ o i, subscripted slice false o i = operate [o, i] (getItem o i)) : OpOk prog w B n (subscriptTail value slice) getP := by
  intro A σ s o i po pi Q hA hQ S ro ri
  refine Does.mk fun E => ?_
  cases ro with
  | tup ho r =>
    simp only [getP] at hQ
    cases ri with
    | int k t =>
      obtain ⟨h1, h2, v, hb, q⟩ := hQ
      obtain ⟨j, hj, hx⟩ := Option.bind_eq_some_iff.mp hb
      obtain ⟨u, hu, ru⟩ := r.get hx
      have hlen := r.length
      rw [Array.length_toList] at hlen
      refine tail_any (T := "tuple") ⟨_, ho, rfl⟩ slot_tuple_getitem.lookup (getItem_tuple ⟨_, ho, rfl, _, rfl⟩ h1 h2 (by rw [hlen]; exact hj) (by rw [← Array.getElem?_toList]; exact hu) ?_) (hsl _ _)
      exact post_here S ru q
    | _ => exact hQ.elim
  | str x t =>
    simp only [getP] at hQ
    cases ri with
    | int k u =>
      obtain ⟨h1, h2, c, hc, q⟩ := hQ
      refine tail_any (typeIs_str s x t) F.slot_str_getitem.lookup (P.getItem_str (by simp; lia) hc ?_) (hsl _ _)
      exact post_tok S (.str _ _) q
    | _ => exact hQ.elim
  | ref a =>
    rcases lod_out hQ with ⟨l, hl, hQ⟩ | ⟨kvs, hl, hQ⟩
    · cases ri with
      | int k t =>
        obtain ⟨h1, h2, v, hb, q⟩ := hQ
        obtain ⟨vs, m, ho, r⟩ := S.objs _ _ hl
        obtain ⟨j, hj, hx⟩ := Option.bind_eq_some_iff.mp hb
        obtain ⟨u, hu, ru⟩ := r.get hx
        have hlen := r.length
        rw [Array.length_toList] at hlen
        refine tail_any (T := "list") ⟨_, ho, rfl⟩ slot_list_getitem.lookup (getItem_listB ⟨_, ho, rfl, _, rfl⟩ h1 h2 (by rw [hlen]; exact hj) (by rw [← Array.getElem?_toList]; exact hu) ?_) (hsl _ _)
        exact post_here S ru q
      | _ => exact hQ.elim
    · obtain ⟨k, v, ek, hk, hg, q⟩ := hQ
      have ty : s.TypeIs (.ref a) "dict" := by
        have D : DRel prog w B s.heap a kvs := S.objs _ _ hl
        rcases D with ⟨_, _, hd, _⟩ | ⟨_, _, hd, _⟩ | ⟨_, _, hd, _⟩
        · exact hd.typeIs
        · exact hd.typeIs
        · exact hd.typeIs
      exact tail_any ty slot_dict_getitem.lookup (getDict hA.unit S hl ri ek hk hg fun v tk r => post_tok S r q) (hsl _ _)
  | _ => exact hQ.elim
theorem EOk.sub {o i : Expr} {pos : Pos} {d₁ d₂ : EWP} (h1 : EOk prog w B n env o d₁) (h2 : EOk prog w B n env i d₂) (hsl : ∀ a b, subscripted i false a b = operate [a, b] (getItem a b) := by intro _ _; rfl) : EOk prog w B n env (.Subscript o i pos) (dOp getP d₁ d₂) :=
  fun A ρ σ Q s hA hQ S F => Does.mk fun E => Subscript_ (two_ h1 h2 (sub_get hsl) hA hQ S F E)
theorem slicePick_take (items : Array Value) (b : Nat) : slicePick items none (some (b : Int)) none = (items.toList.take b).toArray := by
  by_cases hb : b ≤ items.size
  · exact slicePick_upto items b hb
  · have e : sliceBounds none (some (b : Int)) none items.size = sliceBounds none (some (items.size : Int)) none items.size := by
      simp only [sliceBounds]
      have h1 : ¬ ((b : Int) < 0) := by lia
      have h2 : ¬ ((items.size : Int) < 0) := by lia
      simp only [h1, h2, if_false, Option.getD_none, show (1 : Int) > 0 by decide, if_true]
      rw [Int.min_eq_right (by lia), Int.min_self]
    have e2 : slicePick items none (some (b : Int)) none = slicePick items none (some (items.size : Int)) none := by
      unfold slicePick; rw [e]
    rw [e2, slicePick_upto items items.size (Nat.le_refl _)]
    rw [List.take_of_length_le (by simp), List.take_of_length_le (by simp; lia)]
noncomputable def headP (b : Nat) : PV → Sto → (PV → Sto → Prop) → Prop := fun o σ Q => match o with
  | .scr ns => newList ((ns.take b).map .int) σ Q
  | .ref a => match σ a with
    | some (.list l) => l.length ≤ sizeLine ∧ newList (l.take b) σ Q
    | _ => False
  | _ => False
noncomputable def dHead (b : Nat) (d : EWP) : EWP := fun ρ σ Q => d ρ σ fun o σ => headP b o σ Q
theorem IntsAre.len {vs : List Value} {ns : List Int} (h : IntsAre vs ns) : vs.length = ns.length := h.length
theorem EOk.head {x : Str} {np pp pos p3 : Pos} {b : Nat} {kk : Nat} {d : EWP} (h : EOk prog w B n env (.Name x np) d) : EOk prog w B n env (.Subscript (.Name x np) (.Slice none (some (.Constant (.int (b : Int)) kk pp)) none p3) pos) (dHead b d) := by
  intro A ρ σ Q s hA hQ S F
  refine Does.mk fun E => ?_
  refine wpAny_Subscript_list_slice (Does.go (h A ρ σ _ s hA hQ S F) (fun o po σ₁ h₁ tk₁ S₁ x r q => ?_))
  refine wpAny_pure (wpAny_Constant_int (k := kk) (pos := pp) ?_)
  cases r with
  | ref a =>
    obtain ⟨l, hl, q⟩ := list_out q
    obtain ⟨hz, hz2, q⟩ := q
    obtain ⟨vs, m, ho, r⟩ := S₁.objs _ _ hl
    have hlen := r.length
    rw [Array.length_toList] at hlen
    refine ⟨a, vs, none, some (b : Int), rfl, ⟨_, ho, rfl, _, rfl⟩, by lia, .none, .int _ _, ?_⟩
    have S₂ := S₁.ofKeep (keepPush (h := h₁) { cls := .type "slice", data := .fields #[.none, .int (b : Int) tk₁, .none] })
    have x₂ : Step noO σ₁ h₁ σ₁ (h₁.push { cls := .type "slice", data := .fields #[.none, .int (b : Int) tk₁, .none] }) := .ofKeep (keepPush _)
    rw [slicePick_take, show h₁.objs.size + 1 = (h₁.push { cls := .type "slice", data := .fields #[.none, .int (b : Int) tk₁, .none] }).objs.size from (Heap.size_push _ _).symm]
    refine Post.trans (tk₁ := tk₁) x (Post.trans (tk₁ := tk₁) x₂ ?_)
    exact post_push (s := { s with heap := h₁.push { cls := .type "slice", data := .fields #[.none, .int (b : Int) tk₁, .none] }, toks := tk₁ }) (A := A) (tk := tk₁ + 1) S₂ (lstObj (vs.toList.take b).toArray 0) (.list (l.take b)) ⟨_, 0, Heap.get?_push_size _ rfl, by simpa using ((r.take b).push _).push _⟩ q
  | scr hl hi hn =>
    rename_i a vs ns
    obtain ⟨hz2, q⟩ := (show newList _ _ _ from q)
    refine ⟨a, vs.toArray, none, some (b : Int), rfl, hl.at fun o e => S₁.base _ _ e, by rw [List.size_toArray, hi.length]; exact Nat.le_trans hn (by decide), .none, .int _ _, ?_⟩
    have S₂ := S₁.ofKeep (keepPush (h := h₁) { cls := .type "slice", data := .fields #[.none, .int (b : Int) tk₁, .none] })
    have x₂ : Step noO σ₁ h₁ σ₁ (h₁.push { cls := .type "slice", data := .fields #[.none, .int (b : Int) tk₁, .none] }) := .ofKeep (keepPush _)
    rw [slicePick_take, show h₁.objs.size + 1 = (h₁.push { cls := .type "slice", data := .fields #[.none, .int (b : Int) tk₁, .none] }).objs.size from (Heap.size_push _ _).symm]
    refine Post.trans (tk₁ := tk₁) x (Post.trans (tk₁ := tk₁) x₂ ?_)
    refine post_push (s := { s with heap := h₁.push { cls := .type "slice", data := .fields #[.none, .int (b : Int) tk₁, .none] }, toks := tk₁ }) (A := A) (tk := tk₁ + 1) S₂ (lstObj (vs.take b).toArray 0) (.list ((ns.take b).map .int)) ⟨_, 0, Heap.get?_push_size _ rfl, ?_⟩ q
    have hv : VRs B (h₁.push { cls := .type "slice", data := .fields #[.none, .int (b : Int) tk₁, .none] }) vs (ns.map .int) := VRs.ints hi
    have := (hv.take b).push (lstObj (vs.take b).toArray 0)
    rw [← List.map_take] at this
    simpa using this
  | _ => exact q.elim
noncomputable def attrOk (K : Frag) (C : Addr) (x : Str) : Bool := plainGet K C x && hasDictIn K C && findIn K (.ref C) x == some none
noncomputable def attrP (C : Addr) (x : String) : PV → Sto → (PV → Sto → Prop) → Prop := fun o σ Q => match o with
  | .ref a => ∃ d m v, σ a = some (.inst C d) ∧ σ d = some (.attrs m) ∧ m x = some v ∧ Q v σ
  | _ => False
noncomputable def dAttr (C : Addr) (x : String) (d : EWP) : EWP := fun ρ σ Q => d ρ σ fun o σ => attrP C x o σ Q
theorem lookNs {o : Obj} {es : Array DictEntry} {ep : Nat} (hd : o.data = .dict es ep) (hk : StrKeys es) (x : Str) : lookIn x o = some (nsFind es x) := by
  unfold lookIn
  rw [hd]
  simp only
  have h1 : nsFind es x = (es.toList.find? fun e => e.key.isStr x).map (·.val) := by
    unfold nsFind findBy
    rw [Array.find?_toList]
  cases q : es.toList.find? fun e => e.key.isStr x with
  | some e => rw [h1, q]; rfl
  | none =>
    rw [h1, q]
    have : es.toList.any (·.refKey) = false := by
      rw [List.any_eq_false]
      intro e he
      obtain ⟨nm, t, h⟩ := hk e (by simpa using he)
      simp [DictEntry.refKey, h]
    simp [this]
theorem VR.handed {h : Heap} {v : Value} {p : PV} (r : VR B h v p) : handedIn v = true := by cases r <;> rfl
theorem attr_get {K : Frag} (G : Gd prog w K B) {C : Addr} {x : String} (ok : attrOk K C (Str.ofString x) = true) {A : Around} {σ : Sto} {s : Shared} {o : Value} {po : PV} {Q : PV → Sto → Prop} {ex : Bool} (S : St prog w B s.heap σ) (ro : VR B s.heap o po) (q : attrP C x po σ Q) (E : Value → Shared → Prop) :
    wpAny (model prog w) A (getAttr o (Str.ofString x) ex) (Post prog w B (relV B) noO σ s Q) E s := by
  simp only [attrOk, Bool.and_eq_true, beq_iff_eq] at ok
  obtain ⟨⟨ok1, ok2⟩, ok3⟩ := ok
  obtain ⟨a, rfl⟩ : ∃ a, po = .ref a := by cases po <;> first | exact ⟨_, rfl⟩ | exact q.elim
  · cases ro.ref_inv
    obtain ⟨d, m, v, h1, h2, h3, q⟩ := q
    have i1 : s.heap.get? a = some (instObj C d) := S.objs _ _ h1
    obtain ⟨m', ⟨od, es, ep, hod, hdd, hk, hu1, hm⟩, ar, wi⟩ := S.objs _ _ h2
    have arx := ar x
    rw [h3] at arx
    obtain ⟨u, hu, ru⟩ := arx
    have I : InstAt s.heap a (instObj C d) C (some od) := ⟨i1, rfl, rfl, hod⟩
    exact get_value (G.X.keeps S.base) I (plainGet_of ok1).1 (findObj_own ok2 ok3 rfl (by rw [lookNs hdd hk, hm, hu])) ru.handed (post_tok S ru q)
theorem EOk.attr {K : Frag} (G : Gd prog w K B) {C : Addr} {x : String} {o : Expr} {pos : Pos} {d : EWP} (h : EOk prog w B n env o d) (ok : attrOk K C (Str.ofString x) = true) (hb : attributeBase o (Str.ofString x) env (eval o env) = eval o env := by rfl) : EOk prog w B n env (.Attribute o (Str.ofString x) pos) (dAttr C x d) := by
  intro A ρ σ Q s hA hQ S F
  refine Does.mk fun E => ?_
  rw [arm_eval_Attribute, hb]
  refine wpAny_bind (Does.go (h A ρ σ _ s hA hQ S F) (fun ov po σ₁ h₁ tk₁ S₁ y r q => ?_))
  refine wpAny_bind (wpAny_standAt (wpAny_bind (wpAny_holding (wpAny_mono (attr_get G ok S₁ r q E) (fun v s₂ p => ?_) fun _ _ e => e))))
  exact wpAny_bind (wpAny_letTemporaryGo (wpAny_pure (p.trans (tk₁ := tk₁) y)))
end
end Mine
namespace Mine
open PySem PySem.W PySem.Calls PyProof.Rows PySem.Spec
section
variable {prog : Program} {w : World} {B h h' : Heap} {σ σ' : Sto} {n : Nat} {env : Env}
theorem St.same (S : St prog w B h σ) {a : Addr} (hs : Heap.SameBut a h h') (h1 : σ a = none) (h2 : B.get? a = none) (h3 : NotTup h a) : St prog w B h' σ := by
  have nt : ∀ b ob, h.get? b = some ob → IsTupO ob → h'.get? b = some ob := fun b ob g hc => (hs.2 b (by rintro rfl; exact h3 ob g hc)).trans g
  refine ⟨fun b o g => (hs.2 b (by rintro rfl; rw [h2] at g; cases g)).trans (S.base b o g), S.off, S.main, fun b o g => ?_⟩
  have hb : b ≠ a := by rintro rfl; rw [h1] at g; cases g
  exact (S.objs b o g).keep (fun ob z => (hs.2 b hb).trans z) nt
theorem Step.same {O : Addr → Prop} {a : Addr} (hs : Heap.SameBut a h h') (hO : O a) (hl : h'.get? a ≠ none) : Step O σ h σ h' :=
  ⟨fun b o _ nb e => (hs.2 b (by rintro rfl; exact nb hO)).trans e, fun _ e => .inl e, fun b e => by
    by_cases q : b = a
    · rw [q]; exact hl
    · rw [hs.2 b q]; exact e⟩
theorem VR.same {a : Addr} (hs : Heap.SameBut a h h') (h3 : NotTup h a) {v : Value} {p : PV} (r : VR B h v p) : VR B h' v p :=
  r.keep fun b vs n e => (hs.2 b (by rintro rfl; exact h3 _ e (isTupO vs n))).trans e
theorem FR.setLocal {ρ : PEnv} {x : String} {v : Value} {pv : PV} (F : FR B h σ env ρ) (hs : Heap.SameBut env.locals h h') {m : Str → Option Value} (hm : ∀ (x : String) pv, env.kindOf (Str.ofString x) = some .local → ρ x = some pv → ∃ v, m (Str.ofString x) = some v ∧ VR B h v pv)
    (hn' : h'.Ns env.locals (fun y => if y = Str.ofString x then some v else m y)) (r : VR B h v pv) (hl : env.kindOf (Str.ofString x) = some .local) (hc : env.cells.lookup (Str.ofString x) = none) : FR B h' σ env (ρ.set x pv) := by
  have nt : NotTup h env.locals := (F.own _ (.inl rfl)).1
  refine ⟨⟨_, hn', fun y p hk hy => ?_⟩, fun y c hc' => ?_, F.offL, fun p hp => ?_⟩
  · by_cases q : y = x
    · subst q
      rw [PEnv.set_same] at hy; cases hy
      exact ⟨v, if_pos rfl, r.same hs nt⟩
    · rw [PEnv.set_ne ρ pv q] at hy
      obtain ⟨u, hu, ru⟩ := hm y p hk hy
      exact ⟨u, by rw [if_neg (ofString_ne q)]; exact hu, ru.same hs nt⟩
  · have hmem := mem_of_lookup hc'
    have hcL := (F.offC _ hmem).2.2.2.2
    obtain ⟨ov, ⟨o, ho, hd⟩, hv⟩ := F.cell y c hc'
    refine ⟨ov, ⟨o, (hs.2 c hcL).trans ho, hd⟩, fun p hy => ?_⟩
    by_cases q : y = x
    · subst q; rw [hc] at hc'; cases hc'
    · rw [PEnv.set_ne ρ pv q] at hy
      obtain ⟨u, hu, ru⟩ := hv p hy
      exact ⟨u, hu, ru.same hs nt⟩
  · have z := F.offC p hp
    refine ⟨z.1, z.2.1, fun o e => z.2.2.1 o ((hs.2 _ z.2.2.2.2).symm.trans e), by rw [hs.2 _ z.2.2.2.2]; exact z.2.2.2.1, z.2.2.2.2⟩
noncomputable def CellsOk (env : Env) : Prop := ∀ p ∈ env.cells, ∀ q ∈ env.cells, p.2 = q.2 → p.1 = q.1
theorem FR.setCell {ρ : PEnv} {x : String} {c : Addr} {v : Value} {pv : PV} (F : FR B h σ env ρ) (hs : Heap.SameBut c h h') (hv' : h'.IsCell c (some v)) (r : VR B h v pv) (hc : env.cells.lookup (Str.ofString x) = some c) (hk : env.kindOf (Str.ofString x) ≠ some .local) (ok : CellsOk env) : FR B h' σ env (ρ.set x pv) := by
  have hmem := mem_of_lookup hc
  have z := F.offC _ hmem
  have nt : NotTup h c := z.2.2.1
  refine ⟨?_, fun y c' hc' => ?_, F.offL, fun p hp => ?_⟩
  · obtain ⟨m, hn, hm⟩ := F.ns
    refine ⟨m, hn.sameBut hs (Ne.symm z.2.2.2.2), fun y p hk' hy => ?_⟩
    by_cases q : y = x
    · subst q; exact absurd hk' hk
    · rw [PEnv.set_ne ρ pv q] at hy
      obtain ⟨u, hu, ru⟩ := hm y p hk' hy
      exact ⟨u, hu, ru.same hs nt⟩
  · by_cases q : y = x
    · subst q
      rw [hc] at hc'; cases hc'
      exact ⟨_, hv', fun p hy => by rw [PEnv.set_same] at hy; cases hy; exact ⟨v, rfl, r.same hs nt⟩⟩
    · have hmem' := mem_of_lookup hc'
      have hne : c' ≠ c := fun e => ofString_ne q (ok _ hmem' _ hmem e)
      obtain ⟨ov, ⟨o, ho, hd⟩, hv⟩ := F.cell y c' hc'
      refine ⟨ov, ⟨o, (hs.2 c' hne).trans ho, hd⟩, fun p hy => ?_⟩
      rw [PEnv.set_ne ρ pv q] at hy
      obtain ⟨u, hu, ru⟩ := hv p hy
      exact ⟨u, hu, ru.same hs nt⟩
  · have zp := F.offC p hp
    by_cases q : p.2 = c
    · refine ⟨zp.1, zp.2.1, fun o e => ?_, ?_, zp.2.2.2.2⟩
      · obtain ⟨o', ho', hd'⟩ := hv'
        rw [q, ho'] at e; cases e
        rintro ⟨_, vs, k, hd⟩
        rw [hd] at hd'; cases hd'
      · obtain ⟨o', ho', hd'⟩ := hv'
        rw [q, ho']; simp
    · exact ⟨zp.1, zp.2.1, fun o e => zp.2.2.1 o ((hs.2 _ q).symm.trans e), by rw [hs.2 _ q]; exact zp.2.2.2.1, zp.2.2.2.2⟩
inductive StoreOk (env : Env) (x : String) : Prop where
  | loc : env.kindOf (Str.ofString x) = some .local → env.cells.lookup (Str.ofString x) = none → StoreOk env x
  | cell {c} : env.kindOf (Str.ofString x) = some .cell → env.cells.lookup (Str.ofString x) = some c → CellsOk env → StoreOk env x
theorem store_name {x : String} (hx : StoreOk env x) (hk : env.scope.kind = .function) {A : Around} {E : Value → Shared → Prop} {s : Shared} {ρ : PEnv} {v : Value} {pv : PV} {Q : Unit → Shared → Prop} (S : St prog w B s.heap σ) (F : FR B s.heap σ env ρ) (r : VR B s.heap v pv)
    (h : ∀ h' tk, St prog w B h' σ → Step (ownOf env) σ s.heap σ h' → FR B h' σ env (ρ.set x pv) → Q () { s with heap := h', toks := tk }) : wpAny (model prog w) A (storeName env (Str.ofString x) v) Q E s := by
  cases hx with
  | loc hl hc =>
    obtain ⟨m, hn, hm⟩ := F.ns
    refine wpAny_storeName_local hl hn (fun h' hn' hs => ?_) (by rw [hk]; rfl)
    have o := F.own env.locals (.inl rfl)
    have hlive : h'.get? env.locals ≠ none := by obtain ⟨ob, _, _, ho, _⟩ := hn'; rw [ho]; simp
    exact h h' _ (S.same hs o.2.1 o.2.2.1 o.1) (.same hs (.inl rfl) hlive) (F.setLocal hs hm hn' r hl hc)
  | cell hl hc ok =>
    rename_i c
    obtain ⟨ov, hi, hv⟩ := F.cell x c hc
    have hmem := mem_of_lookup hc
    have o := F.own c (.inr ⟨_, hmem, rfl⟩)
    refine wpAny_storeName_cell hk hl hc hi fun h' hv' hs => ?_
    have hlive : h'.get? c ≠ none := by obtain ⟨ob, ho, _⟩ := hv'; rw [ho]; simp
    exact h h' _ (S.same hs o.2.1 o.2.2.1 o.1) (.same hs (.inr ⟨_, hmem, rfl⟩) hlive) (F.setCell hs hv' r hc (by rw [hl]; simp) ok)
noncomputable def dAssign (x : String) (d : EWP) : SWP := fun ρ σ Q => d ρ σ fun v σ => Q .next (ρ.set x v) σ
theorem Post.own {α β : Type} {rel : Sto → Heap → α → β → Prop} {σ σ₁ : Sto} {s : Shared} {h₁ : Heap} {tk₁ : Nat} {Q : β → Sto → Prop} {a : α} {s' : Shared} {O : Addr → Prop} (x : Step noO σ s.heap σ₁ h₁) (p : Post prog w B rel O σ₁ { s with heap := h₁, toks := tk₁ } Q a s') : Post prog w B rel O σ s Q a s' :=
  p.trans (tk₁ := tk₁) (x.mono fun _ z => z.elim)
theorem SOk.assign {x : String} {px pos : Pos} {e : Expr} {d : EWP} (h : EOk prog w B n env e d) (hx : StoreOk env x) (hk : env.scope.kind = .function) (hs : swapsWith e (some (.Name (Str.ofString x) px)) pos.line env = pure false := by rfl) : SOk prog w B n env (.Assign [.Name (Str.ofString x) px] e pos) (dAssign x d) := by
  intro A ρ σ Q s hA hQ S F
  refine Does.mk fun E => ?_
  refine wpAny_Assign_Name (Does.go (h A ρ σ _ s hA hQ S F) (fun v pv σ₁ h₁ tk₁ S₁ y r q => ?_)) hs
  refine store_name hx hk S₁ (F.step y S) r fun h₂ tk₂ S₂ x₂ F₂ => ?_
  exact Post.own (tk₁ := tk₁) y ⟨(.next, ρ.set x pv), σ₁, h₂, tk₂, rfl, S₂, x₂, ⟨.next, F₂⟩, q⟩
noncomputable def dAug (P : PV → PV → Sto → (PV → Sto → Prop) → Prop) (x : String) (d : EWP) : SWP := fun ρ σ Q => match ρ x with
  | some old => d ρ σ fun v σ => P old v σ fun r σ => Q .next (ρ.set x r) σ
  | none => False
theorem SOk.aug {x : String} {px pos : Pos} {e : Expr} {d : EWP} {op : Operator} {P : PV → PV → Sto → (PV → Sto → Prop) → Prop} (ho : OpOk prog w B n (inplaceOp op) P) (h : EOk prog w B n env e d) (hl : env.kindOf (Str.ofString x) = some .local) (hx : StoreOk env x) (hk : env.scope.kind = .function) : SOk prog w B n env (.AugAssign (.Name (Str.ofString x) px) op e pos) (dAug P x d) := by
  intro A ρ σ Q s hA hQ S F
  obtain ⟨old, hold, hQ⟩ := dName_out (Q := fun old σ => d ρ σ fun v σ => P old v σ fun r σ => Q .next (ρ.set x r) σ) hQ
  refine Does.mk fun E => ?_
  obtain ⟨m, hn, hm⟩ := F.ns
  obtain ⟨ov, hov, rov⟩ := hm x old hl hold
  refine wpAny_AugAssign_Name (wpAny_loadName_local hk hl hn hov (Does.go (h A ρ σ _ s hA hQ S F) (fun v pv σ₁ h₁ tk₁ S₁ y r q => ?_)))
  refine Does.go (ho A σ₁ _ ov v old pv _ hA q S₁ (rov.stp y S) r) (fun u pu σ₂ h₂ tk₂ S₂ y₂ r₂ q₂ => ?_)
  refine store_name hx hk S₂ ((F.step y S).step y₂ S₁) r₂ fun h₃ tk₃ S₃ x₃ F₃ => ?_
  exact Post.own (tk₁ := tk₁) y (Post.own (tk₁ := tk₂) y₂ ⟨(.next, ρ.set x pu), σ₂, h₃, tk₃, rfl, S₃, x₃, ⟨.next, F₃⟩, q₂⟩)
noncomputable def plainK : PV → Prop → Prop
  | .none, P | .bool _, P | .int _, P | .str _, P => P
  | _, _ => False
noncomputable def dExpr (d : EWP) : SWP := fun ρ σ Q => d ρ σ fun v σ => plainK v (Q .next ρ σ)
theorem SOk.expr {e : Expr} {pos : Pos} {d : EWP} (h : EOk prog w B n env e d) (hk : env.scope.kind = .function) (hs : swapsWith e none pos.line env = pure false := by rfl) : SOk prog w B n env (.Expr e pos) (dExpr d) := by
  intro A ρ σ Q s hA hQ S F
  refine Does.mk fun E => ?_
  refine wpAny_Expr (Does.go (h A ρ σ _ s hA hQ S F) (fun v pv σ₁ h₁ tk₁ S₁ y r hp => ?_)) (by unfold interactive; rw [hk]; rfl) hs
  have fin : Q .next ρ σ₁ → Post prog w B (relS B env) (ownOf env) σ s (fun p σ' => Q p.1 p.2 σ') .next { s with heap := h₁, toks := tk₁ } := fun q => ⟨(.next, ρ), σ₁, h₁, tk₁, rfl, S₁, y.mono fun _ z => z.elim, ⟨.next, F.step y S⟩, q⟩
  cases r <;> first | exact fin hp | exact hp.elim
noncomputable def dRet (d : EWP) : SWP := fun ρ σ Q => d ρ σ fun v σ => Q (.ret v) ρ σ
theorem SOk.ret {e : Expr} {pos : Pos} {d : EWP} (h : EOk prog w B n env e d) : SOk prog w B n env (.Return (some e) pos) (dRet d) := by
  intro A ρ σ Q s hA hQ S F
  refine Does.mk fun E => ?_
  refine wpAny_Return_some (Does.go (h A ρ σ _ s hA hQ S F) (fun v pv σ₁ h₁ tk₁ S₁ y r q => ?_))
  exact ⟨(.ret pv, ρ), σ₁, h₁, tk₁, rfl, S₁, y.mono fun _ z => z.elim, ⟨.ret r, F.step y S⟩, q⟩
noncomputable def dBrk : SWP := fun ρ σ Q => Q .brk ρ σ
theorem SOk.brk {pos : Pos} : SOk prog w B n env (.Break pos) dBrk := fun A ρ σ Q s hA hQ S F => Does.mk fun E => by
  rw [arm_exec_Break]
  exact wpAny_bind (wpAny_standAt (wpAny_pure ⟨(.brk, ρ), σ, s.heap, s.toks, rfl, S, .refl, ⟨.brk, F⟩, hQ⟩))
noncomputable def dCont : SWP := fun ρ σ Q => Q .cont ρ σ
theorem SOk.cont {pos : Pos} : SOk prog w B n env (.Continue pos) dCont := fun A ρ σ Q s hA hQ S F => Does.mk fun E => by
  rw [arm_exec_Continue]
  exact wpAny_bind (wpAny_standAt (wpAny_pure ⟨(.cont, ρ), σ, s.heap, s.toks, rfl, S, .refl, ⟨.cont, F⟩, hQ⟩))
noncomputable def dNo : SWP := fun _ _ _ => False
theorem SOk.no {st : Stmt} : SOk prog w B n env st dNo := fun A ρ σ Q s hA hQ S F => Does.mk fun E => hQ.elim
noncomputable def dEnd : SWP := fun ρ σ Q => Q .next ρ σ
noncomputable def dSeq (a b : SWP) : SWP := fun ρ σ Q => a ρ σ fun f ρ σ => match f with
  | .next => b ρ σ Q
  | .brk => Q .brk ρ σ
  | .cont => Q .cont ρ σ
  | .ret v => Q (.ret v) ρ σ
theorem SsOk.nil : SsOk prog w B n env [] dEnd := fun A ρ σ Q s hA hQ S F => Does.mk fun E => wpAny_execs_nil ⟨(.next, ρ), σ, s.heap, s.toks, rfl, S, .refl, ⟨.next, F⟩, hQ⟩
theorem SsOk.cons {st : Stmt} {sts : List Stmt} {a b : SWP} (h1 : SOk prog w B n env st a) (h2 : SsOk prog w B n env sts b) : SsOk prog w B n env (st :: sts) (dSeq a b) := by
  intro A ρ σ Q s hA hQ S F
  refine Does.mk fun E => ?_
  refine wpAny_execs_cons (Does.go (h1 A ρ σ _ s hA hQ S F) (fun f pb σ₁ h₁ tk₁ S₁ y rr q => ?_))
  obtain ⟨pf, ρ₁⟩ := pb
  obtain ⟨rf, F₁⟩ := rr
  cases rf with
  | next => exact Does.after (tk₁ := tk₁) y (h2 A ρ₁ σ₁ _ _ hA q S₁ F₁)
  | brk => exact ⟨(.brk, ρ₁), σ₁, h₁, tk₁, rfl, S₁, y, ⟨.brk, F₁⟩, q⟩
  | cont => exact ⟨(.cont, ρ₁), σ₁, h₁, tk₁, rfl, S₁, y, ⟨.cont, F₁⟩, q⟩
  | ret r => exact ⟨(.ret _, ρ₁), σ₁, h₁, tk₁, rfl, S₁, y, ⟨.ret r, F₁⟩, q⟩
noncomputable def dIf (t : TWP) (a b : SWP) : SWP := fun ρ σ Q => t ρ σ fun c σ => if c = true then a ρ σ Q else b ρ σ Q
theorem SOk.ite {t : Expr} {a b : List Stmt} {pos : Pos} {dt : TWP} {da db : SWP} (ht : TOk prog w B n env t dt) (ha : SsOk prog w B n env a da) (hb : SsOk prog w B n env b db) : SOk prog w B n env (.If t a b pos) (dIf dt da db) := by
  intro A ρ σ Q s hA hQ S F
  refine Does.mk fun E => ?_
  refine wpAny_If (Does.go (ht A ρ σ _ s hA hQ S F) (fun c c' σ₁ h₁ tk₁ S₁ y re q => ?_))
  cases re
  have F₁ := F.step y S
  cases c with
  | true =>
    simp only [if_true] at q ⊢
    exact wpAny_mono ((ha A ρ σ₁ _ _ hA q S₁ F₁).run E) (fun f s₂ p => Post.own (tk₁ := tk₁) y p) fun _ _ e => e
  | false =>
    simp only [Bool.false_eq_true, if_false] at q ⊢
    exact wpAny_mono ((hb A ρ σ₁ _ _ hA q S₁ F₁).run E) (fun f s₂ p => Post.own (tk₁ := tk₁) y p) fun _ _ e => e
noncomputable def truP : PV → Sto → (Bool → Sto → Prop) → Prop
  | .bool b, σ, Q => Q b σ
  | _, _, _ => False
noncomputable def dTest (d : EWP) : TWP := fun ρ σ Q => d ρ σ fun v σ => truP v σ Q
theorem TOk.cmp {l r : Expr} {op : CmpOp} {pos : Pos} {dl dr : EWP} {P : PV → PV → Sto → (PV → Sto → Prop) → Prop} (ho : OpOk prog w B n (compareOp op) P) (h1 : EOk prog w B n env l dl) (h2 : EOk prog w B n env r dr) (hm : behindInMarks op r = false := by with_unfolding_all rfl) : TOk prog w B n env (.Compare l [op] [r] pos) (dTest (dOp P dl dr)) := by
  intro A ρ σ Q s hA hQ S F
  refine Does.mk fun E => ?_
  refine wpAny_isTrue_Compare1 ?_ hm
  refine Does.go (h1 A ρ σ _ s hA hQ S F) (fun a pa σ₁ h₁ tk₁ S₁ x r q => ?_)
  refine Does.go (h2 A ρ σ₁ _ _ hA q S₁ (F.step x S)) (fun b pb σ₂ h₂ tk₂ S₂ x₂ r₂ q₂ => ?_)
  refine Does.go (ho A σ₂ _ a b pa pb _ hA q₂ S₂ (r.stp x₂ S₁) r₂) (fun v pc σ₃ h₃ tk₃ S₃ x₃ r₃ q₃ => ?_)
  cases r₃ with
  | bool b => exact wpAny_truthy_bool (((post_here (s := { s with heap := h₃, toks := tk₃ }) S₃ rfl q₃ : Post prog w B relB noO σ₃ _ Q b _).trans (tk₁ := tk₃) ((x.trans x₂).trans x₃)))
  | _ => exact q₃.elim
theorem TOk.plain {e : Expr} {d : EWP} (h : EOk prog w B n env e d) (hp : isTrue e env (eval e env) = (do let v ← eval e env; standAt e.pos; holding [v] (truthy v)) := by rfl) : TOk prog w B n env e (dTest d) := by
  intro A ρ σ Q s hA hQ S F
  refine Does.mk fun E => ?_
  refine isTrue_plain (Does.go (h A ρ σ _ s hA hQ S F) (fun v pc σ₃ h₃ tk₃ S₃ x₃ r₃ q₃ => ?_)) hp
  cases r₃ with
  | bool b => exact wpAny_truthy_bool (((post_here (s := { s with heap := h₃, toks := tk₃ }) S₃ rfl q₃ : Post prog w B relB noO σ₃ _ Q b _).trans (tk₁ := tk₃) x₃))
  | _ => exact q₃.elim
noncomputable def dNotT (t : TWP) : TWP := fun ρ σ Q => t ρ σ fun c σ => Q (!c) σ
theorem TOk.not {e : Expr} {pos : Pos} {t : TWP} (h : TOk prog w B n env e t) : TOk prog w B n env (.UnaryOp .Not e pos) (dNotT t) := by
  intro A ρ σ Q s hA hQ S F
  refine Does.mk fun E => ?_
  refine isTrue_not (Does.go (h A ρ σ _ s hA hQ S F) (fun c c' σ₁ h₁ tk₁ S₁ y re q => ?_))
  cases re
  exact ⟨_, σ₁, h₁, tk₁, rfl, S₁, y, rfl, q⟩
noncomputable def AllOk (prog : Program) (w : World) (B : Heap) (n : Nat) (env : Env) (op : BoolOp) (es : List Expr) (t : TWP) : Prop := ∀ A ρ σ Q s, AOk n A → t ρ σ Q → St prog w B s.heap σ → FR B s.heap σ env ρ → Does prog w B A relB (allTrue op es env) noO σ Q s
noncomputable def dAndNil : TWP := fun _ σ Q => Q true σ
noncomputable def dOrNil : TWP := fun _ σ Q => Q false σ
noncomputable def dAndT (a b : TWP) : TWP := fun ρ σ Q => a ρ σ fun c σ => if c = true then b ρ σ Q else Q false σ
noncomputable def dOrT (a b : TWP) : TWP := fun ρ σ Q => a ρ σ fun c σ => if c = true then Q true σ else b ρ σ Q
theorem AllOk.andNil : AllOk prog w B n env .And [] dAndNil := fun A ρ σ Q s hA hQ S F => Does.mk fun E => by
  rw [arm_allTrue_nil]; exact wpAny_pure (post_here S rfl hQ)
theorem AllOk.orNil : AllOk prog w B n env .Or [] dOrNil := fun A ρ σ Q s hA hQ S F => Does.mk fun E => by
  rw [arm_allTrue_nil]; exact wpAny_pure (post_here S rfl hQ)
theorem AllOk.and {e : Expr} {es : List Expr} {a b : TWP} (h1 : TOk prog w B n env e a) (h2 : AllOk prog w B n env .And es b) : AllOk prog w B n env .And (e :: es) (dAndT a b) := by
  intro A ρ σ Q s hA hQ S F
  refine Does.mk fun E => ?_
  rw [arm_allTrue_cons]
  refine wpAny_bind (Does.go (h1 A ρ σ _ s hA hQ S F) (fun c c' σ₁ h₁ tk₁ S₁ y re q => ?_))
  cases re
  cases c with
  | true =>
    simp only [if_true] at q
    exact Does.after (tk₁ := tk₁) y (h2 A ρ σ₁ _ _ hA q S₁ (F.step y S))
  | false =>
    simp only [Bool.false_eq_true, if_false] at q
    exact wpAny_pure ⟨_, σ₁, h₁, tk₁, rfl, S₁, y, rfl, q⟩
theorem AllOk.or {e : Expr} {es : List Expr} {a b : TWP} (h1 : TOk prog w B n env e a) (h2 : AllOk prog w B n env .Or es b) : AllOk prog w B n env .Or (e :: es) (dOrT a b) := by
  intro A ρ σ Q s hA hQ S F
  refine Does.mk fun E => ?_
  rw [arm_allTrue_cons]
  refine wpAny_bind (Does.go (h1 A ρ σ _ s hA hQ S F) (fun c c' σ₁ h₁ tk₁ S₁ y re q => ?_))
  cases re
  cases c with
  | false =>
    simp only [Bool.false_eq_true, if_false] at q
    exact Does.after (tk₁ := tk₁) y (h2 A ρ σ₁ _ _ hA q S₁ (F.step y S))
  | true =>
    simp only [if_true] at q
    exact wpAny_pure ⟨_, σ₁, h₁, tk₁, rfl, S₁, y, rfl, q⟩
theorem TOk.bool {op : BoolOp} {es : List Expr} {pos : Pos} {t : TWP} (h : AllOk prog w B n env op es t) : TOk prog w B n env (.BoolOp op es pos) t := fun A ρ σ Q s hA hQ S F => Does.mk fun E => by
  rw [arm_isTrue_BoolOp]; exact (h A ρ σ Q s hA hQ S F).run E
noncomputable def BoolOk (prog : Program) (w : World) (B : Heap) (n : Nat) (env : Env) (op : BoolOp) (es : List Expr) (d : EWP) : Prop := ∀ pos A ρ σ Q s, AOk n A → d ρ σ Q → St prog w B s.heap σ → FR B s.heap σ env ρ → Does prog w B A (relV B) (boolOp pos op (evalEach es env)) noO σ Q s
noncomputable def dAndV (a b : EWP) : EWP := fun ρ σ Q => a ρ σ fun v σ => truP v σ fun c σ => if c = true then b ρ σ Q else Q (.bool false) σ
noncomputable def dOrV (a b : EWP) : EWP := fun ρ σ Q => a ρ σ fun v σ => truP v σ fun c σ => if c = true then Q (.bool true) σ else b ρ σ Q
theorem BoolOk.one {op : BoolOp} {e : Expr} {d : EWP} (h : EOk prog w B n env e d) : BoolOk prog w B n env op [e] d := fun pos A ρ σ Q s hA hQ S F => h A ρ σ Q s hA hQ S F
theorem BoolOk.and {e e' : Expr} {es : List Expr} {a b : EWP} (h1 : EOk prog w B n env e a) (h2 : BoolOk prog w B n env .And (e' :: es) b) : BoolOk prog w B n env .And (e :: e' :: es) (dAndV a b) := by
  intro pos A ρ σ Q s hA hQ S F
  refine Does.mk fun E => ?_
  show wpAny _ _ (do let v ← eval e env; standAt pos; let t ← holding [v] (truthy v); match BoolOp.And, t with | .And, false | .Or, true => pure v | _, _ => boolOp pos .And (evalEach (e' :: es) env)) _ _ _
  refine wpAny_bind (Does.go (h1 A ρ σ _ s hA hQ S F) (fun v pc σ₁ h₁ tk₁ S₁ y r q => ?_))
  cases r with
  | bool c =>
    refine wpAny_bind (wpAny_standAt (wpAny_bind (wpAny_holding (wpAny_truthy_bool ?_))))
    cases c with
    | true => exact Does.after (tk₁ := tk₁) y (h2 pos A ρ σ₁ _ _ hA q S₁ (F.step y S))
    | false => exact wpAny_pure ⟨_, σ₁, h₁, tk₁, rfl, S₁, y, .bool _, q⟩
  | _ => exact q.elim
theorem BoolOk.or {e e' : Expr} {es : List Expr} {a b : EWP} (h1 : EOk prog w B n env e a) (h2 : BoolOk prog w B n env .Or (e' :: es) b) : BoolOk prog w B n env .Or (e :: e' :: es) (dOrV a b) := by
  intro pos A ρ σ Q s hA hQ S F
  refine Does.mk fun E => ?_
  show wpAny _ _ (do let v ← eval e env; standAt pos; let t ← holding [v] (truthy v); match BoolOp.Or, t with | .And, false | .Or, true => pure v | _, _ => boolOp pos .Or (evalEach (e' :: es) env)) _ _ _
  refine wpAny_bind (Does.go (h1 A ρ σ _ s hA hQ S F) (fun v pc σ₁ h₁ tk₁ S₁ y r q => ?_))
  cases r with
  | bool c =>
    refine wpAny_bind (wpAny_standAt (wpAny_bind (wpAny_holding (wpAny_truthy_bool ?_))))
    cases c with
    | false => exact Does.after (tk₁ := tk₁) y (h2 pos A ρ σ₁ _ _ hA q S₁ (F.step y S))
    | true => exact wpAny_pure ⟨_, σ₁, h₁, tk₁, rfl, S₁, y, .bool _, q⟩
  | _ => exact q.elim
theorem EOk.boolop {op : BoolOp} {es : List Expr} {pos : Pos} {d : EWP} (h : BoolOk prog w B n env op es d) : EOk prog w B n env (.BoolOp op es pos) d := fun A ρ σ Q s hA hQ S F => Does.mk fun E => by
  rw [arm_eval_BoolOp]; exact (h pos A ρ σ Q s hA hQ S F).run E
noncomputable def dNotV (d : EWP) : EWP := fun ρ σ Q => d ρ σ fun v σ => truP v σ fun c σ => Q (.bool (!c)) σ
theorem EOk.not {e : Expr} {pos : Pos} {d : EWP} (h : EOk prog w B n env e d) : EOk prog w B n env (.UnaryOp .Not e pos) (dNotV d) := by
  intro A ρ σ Q s hA hQ S F
  refine Does.mk fun E => ?_
  refine UnaryOp_ (Does.go (h A ρ σ _ s hA hQ S F) (fun v pc σ₁ h₁ tk₁ S₁ y r q => ?_))
  cases r with
  | bool c => exact not_of (wpAny_truthy_bool ⟨_, σ₁, h₁, tk₁, rfl, S₁, y, .bool _, q⟩)
  | _ => exact q.elim
noncomputable def negP : PV → Sto → (PV → Sto → Prop) → Prop
  | .int i, σ, Q => Q (.int (-i)) σ
  | _, _, _ => False
noncomputable def dNeg (d : EWP) : EWP := fun ρ σ Q => d ρ σ fun v σ => negP v σ Q
theorem EOk.neg {e : Expr} {pos : Pos} {d : EWP} (h : EOk prog w B n env e d) : EOk prog w B n env (.UnaryOp .USub e pos) (dNeg d) := by
  intro A ρ σ Q s hA hQ S F
  refine Does.mk fun E => ?_
  refine UnaryOp_ (Does.go (h A ρ σ _ s hA hQ S F) (fun v pc σ₁ h₁ tk₁ S₁ y r q => ?_))
  obtain ⟨c, rfl⟩ : ∃ c, pc = .int c := by cases pc <;> first | exact ⟨_, rfl⟩ | exact q.elim
  · obtain ⟨t, rfl⟩ := r.int_inv
    exact neg_int ⟨_, σ₁, h₁, _, rfl, S₁, y, .int _ _, q⟩
noncomputable def dIte (t : TWP) (a b : EWP) : EWP := fun ρ σ Q => t ρ σ fun c σ => if c = true then a ρ σ Q else b ρ σ Q
theorem EOk.ite {t a b : Expr} {pos : Pos} {dt : TWP} {da db : EWP} (ht : TOk prog w B n env t dt) (ha : EOk prog w B n env a da) (hb : EOk prog w B n env b db) : EOk prog w B n env (.IfExp t a b pos) (dIte dt da db) := by
  intro A ρ σ Q s hA hQ S F
  refine Does.mk fun E => ?_
  refine IfExp_ (Does.go (ht A ρ σ _ s hA hQ S F) (fun c c' σ₁ h₁ tk₁ S₁ y re q => ?_))
  cases re
  have F₁ := F.step y S
  cases c with
  | true =>
    simp only [if_true] at q ⊢
    exact Does.after (tk₁ := tk₁) y (ha A ρ σ₁ _ _ hA q S₁ F₁)
  | false =>
    simp only [Bool.false_eq_true, if_false] at q ⊢
    exact Does.after (tk₁ := tk₁) y (hb A ρ σ₁ _ _ hA q S₁ F₁)
end
end Mine
namespace Mine
open PySem PySem.W PySem.Calls PyProof.Rows PySem.Spec
section
variable {prog : Program} {w : World} {B : Heap} {n : Nat} {env : Env}
theorem seqIndex_nat (i n : Nat) : seqIndex? (i : Int) n = if i < n then some i else none := by
  have h0 : ¬ ((i : Int) < 0) := by lia
  unfold seqIndex?
  simp only [h0, if_false, Bool.and_eq_true, decide_eq_true_eq]
  by_cases h : i < n
  · rw [if_pos ⟨by lia, by lia⟩, if_pos h, Int.toNat_natCast]
  · rw [if_neg (fun z => h (by lia)), if_neg h]
noncomputable def setP : PV → PV → PV → Sto → (Sto → Prop) → Prop := fun o i v σ Q => match o with
  | .ref a => match σ a with
    | some (.list l) => match i with
      | .int k => -(2 ^ 63) ≤ k ∧ k < 2 ^ 63 ∧ ∃ j, seqIndex? k l.length = some j ∧ Q (σ.set a (.list (l.set j v)))
      | _ => False
    | some (.dict kvs) => ∃ k, toDK i = some k ∧ kindOk kvs k ∧ kvs.length ≤ sizeLine ∧ Q (σ.set a (.dict (dput kvs k v)))
    | _ => False
  | _ => False
theorem listIdx {A : Around} {E : Value → Shared → Prop} {s : Shared} {l : Addr} {vs : Array Value} {m j : Nat} {k : Int} {t : Tok} {v : Value} {Q : Unit → Shared → Prop} (ho : s.heap.get? l = some (lstObj vs m)) (h1 : -(2 ^ 63) ≤ k) (h2 : k < 2 ^ 63)
    (hj : seqIndex? k vs.size = some j) (h : Q () { s with heap := s.heap.update l (Obj.mapSeq (·.setIfInBounds j v)) }) : wpAny (model prog w) A (setItem (.ref l) (.int k t) v) Q E s := by
  have hlt := seqIndex_lt hj
  have hl : s.heap.IsList l vs := ⟨_, ho, rfl, m, rfl⟩
  have hx' : vs[j]? = some vs[j] := Array.getElem?_eq_getElem hlt
  have hfit : Builtin.List.listFitsIndex k = true := by
    unfold Builtin.List.listFitsIndex
    simp only [Bool.and_eq_true, decide_eq_true_eq]
    lia
  unfold setItem
  try with_reducible refine wpAny_holding ?_
  refine wpAny_bind (wpAny_sequenceKey hl.typeIs (by decide) ?_)
  refine wpAny_bind (wpAny_callSpecial?_slot (name := Str.ofString "__setitem__") hl.typeIs slot_list_setitem
    (wpAny_call_entry slot_list_setitem hl.typeIs entry_list_setitem ?_ (args_list_setitem _ _ _)))
  show wpAny _ _ (Builtin.List.listSubscript? (.int k t) >>= _) _ _ s
  refine wpAny_bind (wpAny_listSubscript_int hfit ?_)
  have fin : wpAny (model prog w) A.in1 (setSeqItemAt l j v) (fun _ s' => Q () s') E s := wpAny_setSeqItemAt ho rfl h
  cases k with
  | ofNat i =>
    have e : j = i := by
      have hj' : seqIndex? (i : Int) vs.size = some j := by rw [← Int.ofNat_eq_natCast]; exact hj
      rw [seqIndex_nat] at hj'
      by_cases q : i < vs.size
      · rw [if_pos q] at hj'; exact (Option.some.inj hj').symm
      · rw [if_neg q] at hj'; cases hj'
    subst e
    show wpAny _ _ ((seqItemAt l j >>= fun r => pure (r.map (j, ·))) >>= _) _ _ s
    refine wpAny_bind (wpAny_bind (wpAny_seqItemAt ho rfl (wpAny_pure ?_)))
    rw [hx']
    show wpAny _ _ (setSeqItemAt l j v >>= _) _ _ s
    refine wpAny_bind (wpAny_setSeqItemAt ho rfl ?_)
    first
      | exact wpAny_bind (wpAny_pure (wpAny_pure ⟨.none, rfl, wpAny_pure h⟩))
      | exact wpAny_pure ⟨.none, rfl, wpAny_pure h⟩
  | negSucc i =>
    show wpAny _ _ ((Builtin.List.listItems (.ref l) >>= fun xs => pure ((seqIndex? (Int.negSucc i) xs.size).bind fun q => xs[q]?.map (q, ·))) >>= _) _ _ s
    refine wpAny_bind (wpAny_bind ?_)
    show wpAny _ _ (seqItems? (.ref l) >>= _) _ _ s
    refine wpAny_bind (wpAny_seqItems ho rfl (wpAny_pure (wpAny_pure ?_)))
    rw [hj]
    simp only [Option.bind_some, hx', Option.map_some]
    refine wpAny_bind (wpAny_setSeqItemAt ho rfl ?_)
    first
      | exact wpAny_bind (wpAny_pure (wpAny_pure ⟨.none, rfl, wpAny_pure h⟩))
      | exact wpAny_pure ⟨.none, rfl, wpAny_pure h⟩
theorem seq_upd {σ : Sto} {s : Shared} {a : Addr} {l l' : List PV} {vs : Array Value} {m : Nat} (S : St prog w B s.heap σ) (ha : σ a = some (.list l)) (ho : s.heap.get? a = some (lstObj vs m)) (f : Array Value → Array Value) (r : VRs B s.heap (f vs).toList l') :
    St prog w B (s.heap.update a (Obj.mapSeq f)) (σ.set a (.list l')) ∧ ∀ O, Step O σ s.heap (σ.set a (.list l')) (s.heap.update a (Obj.mapSeq f)) := by
  have hs := Heap.SameBut.update s.heap a (Obj.mapSeq f)
  have e : σ a ≠ none := by rw [ha]; simp
  have hn := IsL.update (n := m) ho f
  refine ⟨S.put hs e ho fun nt => ⟨_, _, hn, r.keep fun b us k g => nt b _ g (isTupO us k)⟩, fun O => .put hs e ?_⟩
  rw [show (s.heap.update a (Obj.mapSeq f)).get? a = _ from hn]; simp
theorem VRs.set {h : Heap} : ∀ {vs : List Value} {ps : List PV} (j : Nat) {v : Value} {p : PV}, VRs B h vs ps → VR B h v p → VRs B h (vs.set j v) (ps.set j p)
  | _, _, _, _, _, .nil, _ => by simp; exact .nil
  | _, _, 0, _, _, .cons _ r, z => by simp; exact .cons z r
  | _, _, j + 1, _, _, .cons hv r, z => by simp only [List.set_cons_succ]; exact .cons hv (r.set j z)
theorem stored_map {κ : Type} [DecidableEq κ] (c : κ → DK) (hc : ∀ a b, c a = c b → a = b) (xs : List (κ × Value × PV)) (k : κ) (v : Value) (p : PV) :
    ∃ ys : List (κ × Value × PV), stored (xs.map fun x => (x.1, x.2.1)) k v = ys.map (fun x => (x.1, x.2.1)) ∧ dput (xs.map fun x => (c x.1, x.2.2)) (c k) p = ys.map (fun x => (c x.1, x.2.2)) ∧ ∀ y ∈ ys, y ∈ xs ∨ (y.2.1 = v ∧ y.2.2 = p) := by
  have e0 := dget_map c hc xs (fun y : Value × PV => y.2) k
  by_cases q : (xs.any fun x => decide (x.1 = k)) = true
  · refine ⟨xs.map fun x => if x.1 = k then (x.1, v, p) else x, ?_, ?_, fun y hy => ?_⟩
    · unfold stored
      rw [if_pos (by rw [List.any_map]; exact q), List.map_map, List.map_map]
      refine List.map_congr_left fun x _ => ?_
      by_cases z : x.1 = k <;> simp [z]
    · unfold dput
      rw [if_pos, List.map_map, List.map_map]
      · refine List.map_congr_left fun x _ => ?_
        by_cases z : x.1 = k
        · simp [z]
        · have z' : ¬ c x.1 = c k := fun e => z (hc _ _ e)
          simp [z, z']
      · rw [e0, Option.isSome_map, List.find?_isSome]
        obtain ⟨x, hx, hq⟩ := List.any_eq_true.mp q
        exact ⟨x, hx, hq⟩
    · obtain ⟨x, hx, rfl⟩ := List.mem_map.mp hy
      by_cases z : x.1 = k
      · right; simp [z]
      · left; simpa [z] using hx
  · refine ⟨xs ++ [(k, v, p)], ?_, ?_, fun y hy => ?_⟩
    · unfold stored
      rw [if_neg (by rw [List.any_map]; exact q)]; simp
    · unfold dput
      rw [if_neg]
      · simp
      · rw [e0, Option.isSome_map, List.find?_isSome]
        rintro ⟨x, hx, hq⟩
        exact q (List.any_eq_true.mpr ⟨x, hx, hq⟩)
    · rcases List.mem_append.mp hy with h | h
      · exact .inl h
      · right; rw [List.mem_singleton.mp h]; exact ⟨rfl, rfl⟩
theorem storedH_map (xs : List (List Int × Addr × Value × PV)) (k : List Int) (a : Addr) (v : Value) (p : PV) :
    ∃ ys : List (List Int × Addr × Value × PV), storedH (xs.map fun x => (x.1, x.2.1, x.2.2.1)) k a v = ys.map (fun x => (x.1, x.2.1, x.2.2.1)) ∧ dput (xs.map fun x => (DK.tup x.1, x.2.2.2)) (DK.tup k) p = ys.map (fun x => (DK.tup x.1, x.2.2.2)) ∧ ∀ y ∈ ys, y ∈ xs ∨ (y.2.2.1 = v ∧ y.2.2.2 = p) ∨ ∃ x ∈ xs, y.2.2.1 = v ∧ y.2.2.2 = p := by
  have e0 := dget_map DK.tup (fun _ _ e => DK.tup.inj e) xs (fun y : Addr × Value × PV => y.2.2) k
  have e1 := atKey_map xs (fun y : Addr × Value × PV => (y.1, y.2.1)) k
  by_cases q : (xs.find? fun x => decide (x.1 = k)).isSome = true
  · refine ⟨xs.map fun x => if x.1 = k then (x.1, x.2.1, v, p) else x, ?_, ?_, fun y hy => ?_⟩
    · unfold storedH
      rw [if_pos (by rw [e1, Option.isSome_map]; exact q), List.map_map, List.map_map]
      refine List.map_congr_left fun x _ => ?_
      by_cases z : x.1 = k <;> simp [putAt, z]
    · unfold dput
      rw [if_pos (by rw [e0, Option.isSome_map]; exact q), List.map_map, List.map_map]
      refine List.map_congr_left fun x _ => ?_
      by_cases z : x.1 = k
      · simp [z]
      · have z' : ¬ DK.tup x.1 = DK.tup k := fun e => z (DK.tup.inj e)
        simp [z, z']
    · obtain ⟨x, hx, rfl⟩ := List.mem_map.mp hy
      by_cases z : x.1 = k
      · right; left; simp [z]
      · left; simpa [z] using hx
  · refine ⟨xs ++ [(k, a, v, p)], ?_, ?_, fun y hy => ?_⟩
    · unfold storedH
      rw [if_neg (by rw [e1, Option.isSome_map]; exact q)]; simp
    · unfold dput
      rw [if_neg (by rw [e0, Option.isSome_map]; exact q)]; simp
    · rcases List.mem_append.mp hy with h | h
      · exact .inl h
      · right; left; rw [List.mem_singleton.mp h]; exact ⟨rfl, rfl⟩
theorem set_item {σ : Sto} {s : Shared} {A : Around} {E : Value → Shared → Prop} {o i v : Value} {po pi pv : PV} {Q : Sto → Prop} {R : Unit → Shared → Prop} (hA : A.units + 64 < cLine) (S : St prog w B s.heap σ) (ro : VR B s.heap o po) (ri : VR B s.heap i pi) (rv : VR B s.heap v pv)
    (q : setP po pi pv σ Q) (h : ∀ σ' h' tk, St prog w B h' σ' → (∀ O, Step O σ s.heap σ' h') → Q σ' → R () { s with heap := h', toks := tk }) : wpAny (model prog w) A (setItem o i v) R E s := by
  cases ro with
  | ref a =>
    rcases lod_out q with ⟨l, hl, q⟩ | ⟨kvs, hl, q⟩
    · cases ri with
      | int k t =>
        obtain ⟨h1, h2, j, hj, q⟩ := q
        obtain ⟨vs, m, ho, r⟩ := S.objs _ _ hl
        have hlen := r.length
        rw [Array.length_toList] at hlen
        refine listIdx ho h1 h2 (by rw [hlen]; exact hj) ?_
        obtain ⟨S', x'⟩ := seq_upd (l' := l.set j pv) S hl ho (·.setIfInBounds j v) (by rw [Array.toList_setIfInBounds]; exact r.set j rv)
        exact h _ _ _ S' x' q
      | _ => exact q.elim
    · obtain ⟨k, ek, hk, hz, q⟩ := q
      have D : DRel prog w B s.heap a kvs := S.objs _ _ hl
      have lo := (S.off a (by rw [hl]; simp)).2
      have e : σ a ≠ none := by rw [hl]; simp
      cases k with
      | int x =>
        obtain ⟨t, rfl⟩ := key_int ri ek
        obtain ⟨xs, rfl, hd, hv⟩ := D.int hk
        obtain ⟨ys, e1, e2, hy⟩ := stored_map DK.int (fun _ _ e => DK.int.inj e) xs x v pv
        refine wpAny_setItem_pairs (intKind_is prog w x t) hd (fun h' hd' hs => ?_) (by simpa using hz)
        rw [e2] at q
        obtain ⟨oa, _, _, hoa, _⟩ := id hd
        obtain ⟨ob, _, _, hob, _⟩ := id hd'
        refine h (σ.set a (.dict (ys.map fun x => (DK.int x.1, x.2.2)))) h' _ (S.put (ao := .dict (ys.map fun x => (DK.int x.1, x.2.2))) hs e hoa fun nt => Or.inl ⟨ys, rfl, by rw [← e1]; exact hd', fun y hm => ?_⟩) (fun O => .put hs e (by rw [hob]; simp)) q
        rcases hy y hm with z | ⟨z1, z2⟩
        · exact (hv y z).keep fun b us k g => nt b _ g (isTupO us k)
        · rw [z1, z2]; exact rv.keep fun b us k g => nt b _ g (isTupO us k)
      | str x =>
        obtain ⟨t, rfl⟩ := key_str ri ek
        obtain ⟨xs, rfl, hd, hv⟩ := D.str hk
        obtain ⟨ys, e1, e2, hy⟩ := stored_map DK.str (fun _ _ e => DK.str.inj e) xs x v pv
        refine wpAny_setItem_pairs (strKind_is prog w x t) hd (fun h' hd' hs => ?_) (by simpa using hz)
        rw [e2] at q
        obtain ⟨oa, _, _, hoa, _⟩ := id hd
        obtain ⟨ob, _, _, hob, _⟩ := id hd'
        refine h (σ.set a (.dict (ys.map fun x => (DK.str x.1, x.2.2)))) h' _ (S.put (ao := .dict (ys.map fun x => (DK.str x.1, x.2.2))) hs e hoa fun nt => Or.inr (Or.inr ⟨ys, rfl, by rw [← e1]; exact hd', fun y hm => ?_⟩)) (fun O => .put hs e (by rw [hob]; simp)) q
        rcases hy y hm with z | ⟨z1, z2⟩
        · exact (hv y z).keep fun b us k g => nt b _ g (isTupO us k)
        · rw [z1, z2]; exact rv.keep fun b us k g => nt b _ g (isTupO us k)
      | tup x =>
        obtain ⟨b, rfl, hb⟩ := key_tup (prog := prog) (w := w) ri ek
        obtain ⟨xs, rfl, hd, hv⟩ := D.tup hk
        obtain ⟨ys, e1, e2, hy⟩ := storedH_map xs x b v pv
        refine wpAny_setItem_heap (knd := tupleKind (intKind prog w)) (k := x) (show A.units + 1 < cLine by lia) hb hd (fun h' hd' hs => ?_) (by simpa using hz)
        rw [e2] at q
        obtain ⟨oa, _, _, hoa, _⟩ := id hd
        obtain ⟨ob, _, _, hob, _⟩ := id hd'
        refine h (σ.set a (.dict (ys.map fun x => (DK.tup x.1, x.2.2.2)))) h' _ (S.put (ao := .dict (ys.map fun x => (DK.tup x.1, x.2.2.2))) hs e hoa fun nt => Or.inr (Or.inl ⟨ys, rfl, by rw [← e1]; exact hd', fun y hm => ?_⟩)) (fun O => .put hs e (by rw [hob]; simp)) q
        rcases hy y hm with z | ⟨z1, z2⟩ | ⟨_, _, z1, z2⟩
        · exact (hv y z).keep fun b us k g => nt b _ g (isTupO us k)
        · rw [z1, z2]; exact rv.keep fun b us k g => nt b _ g (isTupO us k)
        · rw [z1, z2]; exact rv.keep fun b us k g => nt b _ g (isTupO us k)
  | _ => exact q.elim
noncomputable def dSetItem (o i d : EWP) : SWP := fun ρ σ Q => d ρ σ fun v σ => o ρ σ fun ov σ => i ρ σ fun iv σ => setP ov iv v σ fun σ => Q .next ρ σ
theorem SOk.setItem {o i e : Expr} {px pos : Pos} {d₁ d₂ d : EWP} (h1 : EOk prog w B n env o d₁) (h2 : EOk prog w B n env i d₂) (h : EOk prog w B n env e d) (hs : swapsWith e (some (.Subscript o i px)) pos.line env = pure false := by rfl) : SOk prog w B n env (.Assign [.Subscript o i px] e pos) (dSetItem d₁ d₂ d) := by
  intro A ρ σ Q s hA hQ S F
  refine Does.mk fun E => ?_
  refine wpAny_Assign_Subscript (Does.go (h A ρ σ _ s hA hQ S F) (fun v pv σ₁ h₁ tk₁ S₁ y₁ r₁ q₁ => ?_)) hs
  have F₁ := F.step y₁ S
  refine Does.go (h1 A ρ σ₁ _ _ hA q₁ S₁ F₁) (fun ov po σ₂ h₂ tk₂ S₂ y₂ r₂ q₂ => ?_)
  have F₂ := F₁.step y₂ S₁
  refine Does.go (h2 A ρ σ₂ _ _ hA q₂ S₂ F₂) (fun iv pi σ₃ h₃ tk₃ S₃ y₃ r₃ q₃ => ?_)
  have F₃ := F₂.step y₃ S₂
  refine set_item hA.unit S₃ (r₂.stp y₃ S₂) r₃ ((r₁.stp y₂ S₁).stp y₃ S₂) q₃ fun σ' h' tk S' x' q' => ?_
  exact ⟨(.next, ρ), σ', h', tk, rfl, S', ((y₁.trans (y₂.trans (y₃.trans (x' noO)))).mono fun _ z => z.elim), ⟨.next, F₃.step (x' noO) S₃⟩, q'⟩
noncomputable def setAttrOk (K : Frag) (C : Addr) (x : Str) : Bool := findIn K (.ref C) "__setattr__" == some (some (.builtin "object.__setattr__")) && plainOver K C && takerIn K C x == some none && hasDictIn K C && (attrNames.map Str.ofString).contains x
noncomputable def setAttrP (C : Addr) (x : String) : PV → PV → Sto → (Sto → Prop) → Prop := fun o v σ Q => match o with
  | .ref a => ∃ d m, σ a = some (.inst C d) ∧ σ d = some (.attrs m) ∧ Q (σ.set d (.attrs (m.set x v)))
  | _ => False
theorem attr_set {K : Frag} (G : Gd prog w K B) {C : Addr} {x : String} (ok : setAttrOk K C (Str.ofString x) = true) {A : Around} {E : Value → Shared → Prop} {σ : Sto} {s : Shared} {o v : Value} {po pv : PV} {Q : Sto → Prop} {R : Unit → Shared → Prop} (S : St prog w B s.heap σ) (ro : VR B s.heap o po) (rv : VR B s.heap v pv) (q : setAttrP C x po pv σ Q)
    (h : ∀ σ' h' tk, St prog w B h' σ' → (∀ O, Step O σ s.heap σ' h') → Q σ' → R () { s with heap := h', toks := tk }) : wpAny (model prog w) A (setAttr o (Str.ofString x) v) R E s := by
  simp only [setAttrOk, Bool.and_eq_true, beq_iff_eq] at ok
  obtain ⟨⟨⟨⟨ok1, ok2⟩, ok3⟩, ok4⟩, ok5⟩ := ok
  cases ro with
  | ref a =>
    obtain ⟨d, m, h1, h2, q⟩ := q
    have X : K.In s.heap := G.X.keeps S.base
    have i1 : s.heap.get? a = some (instObj C d) := S.objs _ _ h1
    obtain ⟨m', hns, ar, wi⟩ := S.objs _ _ h2
    obtain ⟨od, es, ep, hod, hdd, hk, hu1, hm⟩ := id hns
    have I : InstAt s.heap a (instObj C d) C (some od) := ⟨i1, rfl, rfl, hod⟩
    refine set_plain X I ok1 (osa_open (s := { s with toks := s.toks + 1 }) X I ok2 ok3 fun b => ?_)
    obtain ⟨cd, hc, hd'⟩ := any_some ok4
    refine wpAny_bind (wpAny_pure (wpAny_bind (wpAny_bind (wpAny_loadPart i1 (wpAny_bind (looks_clsIn (M := model prog w) X hc _ _ _ _ (fun _ _ e => e) ?_))))))
    rw [hd']
    have wi' : Within (fun y => if y = Str.ofString x then some v else m' y) (attrNames.map Str.ofString) := by
      intro y hy
      by_cases z : y = Str.ofString x
      · rw [z]; exact List.contains_iff_mem.mp ok5
      · exact wi y (by simpa [z] using hy)
    refine wpAny_pure (a := some d) (wpAny_bind (wpAny_pure (wpAny_bind (wpAny_nsSet1 hns fun h' hn' hs => ?_))))
    obtain ⟨ob, es', ep', hob, hobd, hsz⟩ := hn'.count wi'
    have e : σ d ≠ none := by rw [h2]; simp
    refine wpAny_bind (wpAny_lookBehind hob (by rw [hobd]; exact pastItsLine_dict (Nat.le_trans hsz (by rw [List.length_map]; decide))) (wpAny_pure ?_))
    refine h _ h' _ (S.put (ao := .attrs (m.set x pv)) hs e hod fun nt => ⟨_, hn', fun y => ?_, wi'⟩) (fun O => .put hs e (by rw [hob]; simp)) q
    have kk : ∀ b us k, s.heap.get? b = some (tupObj us k) → h'.get? b = some (tupObj us k) := fun b us k g => nt b _ g (isTupO us k)
    by_cases z : y = x
    · subst z
      rw [PEnv.set_same]
      exact ⟨v, if_pos rfl, rv.keep kk⟩
    · rw [PEnv.set_ne m pv z]
      have := ar y
      cases hy : m y with
      | none => rw [hy] at this; simpa [ofString_ne z] using this
      | some p =>
        rw [hy] at this
        obtain ⟨u, hu, ru⟩ := this
        exact ⟨u, by simpa [ofString_ne z] using hu, ru.keep kk⟩
  | _ => exact q.elim
end
end Mine
namespace Mine
open PySem PySem.W PySem.Calls PyProof.Rows PySem.Spec
noncomputable def loopStep (next : PEnv → Sto → Prop) (Q : PFlow → PEnv → Sto → Prop) : PFlow → PEnv → Sto → Prop
  | .next, ρ, σ => next ρ σ
  | .cont, ρ, σ => next ρ σ
  | .brk, ρ, σ => Q .next ρ σ
  | .ret v, ρ, σ => Q (.ret v) ρ σ
noncomputable def forL (x : String) (b : SWP) : List PV → SWP
  | [], ρ, σ, Q => Q .next ρ σ
  | v :: vs, ρ, σ, Q => b (ρ.set x v) σ (loopStep (fun ρ σ => forL x b vs ρ σ Q) Q)
noncomputable def forR (x : String) (b : SWP) (a : Addr) (l : List PV) : List PV → SWP
  | [], ρ, σ, Q => σ a = some (.list l) ∧ Q .next ρ σ
  | v :: vs, ρ, σ, Q => σ a = some (.list l) ∧ b (ρ.set x v) σ (loopStep (fun ρ σ => forR x b a l vs ρ σ Q) Q)
noncomputable def forP (x : String) (b : SWP) (it : PV) : SWP := fun ρ σ Q => match it with
  | .tup l => forL x b l ρ σ Q
  | .ref a => match σ a with
    | some (.list l) => forR x b a l l ρ σ Q
    | _ => False
  | _ => False
noncomputable def dFor (x : String) (d : EWP) (b : SWP) : SWP := fun ρ σ Q => d ρ σ fun it σ => forP x b it ρ σ Q
noncomputable def rangeL (lo hi : Int) : List PV := (List.range (hi - lo).toNat).map fun i => .int (lo + (i : Nat))
noncomputable def rngP (a b : PV) (Q : Int → Int → Prop) : Prop := match a with
  | .int lo => match b with
    | .int hi => -(2 ^ 62) ≤ lo ∧ lo < 2 ^ 62 ∧ -(2 ^ 62) ≤ hi ∧ hi < 2 ^ 62 ∧ Q lo hi
    | _ => False
  | _ => False
noncomputable def dRange (x : String) (d₁ d₂ : EWP) (b : SWP) : SWP := fun ρ σ Q => d₁ ρ σ fun lo σ => d₂ ρ σ fun hi σ => rngP lo hi fun lo hi => forL x b (rangeL lo hi) ρ σ Q
section
variable {prog : Program} {w : World} {B h h' : Heap} {σ σ' : Sto} {n : Nat} {env : Env}
theorem St.but {I : Addr} (S : St prog w B h σ) (k : ∀ b o, b ≠ I → h.get? b = some o → h'.get? b = some o) (h1 : σ I = none) (h2 : B.get? I = none) (h3 : NotTup h I) : St prog w B h' σ := by
  have nt : ∀ b ob, h.get? b = some ob → IsTupO ob → h'.get? b = some ob := fun b ob g hc => k b ob (by rintro rfl; exact h3 ob g hc) g
  refine ⟨fun b o g => k b o (by rintro rfl; rw [h2] at g; cases g) (S.base b o g), S.off, S.main, fun b o g => ?_⟩
  have hb : b ≠ I := by rintro rfl; rw [h1] at g; cases g
  exact (S.objs b o g).keep (fun ob z => k b ob hb z) nt
theorem VR.but {I : Addr} (k : ∀ b o, b ≠ I → h.get? b = some o → h'.get? b = some o) (h3 : NotTup h I) {v : Value} {p : PV} (r : VR B h v p) : VR B h' v p :=
  r.keep fun b vs n e => k b _ (by rintro rfl; exact h3 _ e (isTupO vs n)) e
theorem FR.but {I : Addr} {ρ : PEnv} (F : FR B h σ env ρ) (k : ∀ b o, b ≠ I → h.get? b = some o → h'.get? b = some o) (h3 : NotTup h I) (ho : ¬ ownOf env I) : FR B h' σ env ρ := by
  refine ⟨?_, fun y c hc => ?_, F.offL, fun p hp => ?_⟩
  · obtain ⟨m, ⟨o, es, ep, hl, r⟩, hm⟩ := F.ns
    refine ⟨m, ⟨o, es, ep, k _ _ (fun e => ho (.inl e.symm)) hl, r⟩, fun y pv hk hy => ?_⟩
    obtain ⟨v, hv, rv⟩ := hm y pv hk hy
    exact ⟨v, hv, rv.but k h3⟩
  · have hmem := mem_of_lookup hc
    obtain ⟨ov, ⟨o, hl, hd⟩, hv⟩ := F.cell y c hc
    refine ⟨ov, ⟨o, k _ _ (fun e => ho (.inr ⟨_, hmem, e⟩)) hl, hd⟩, fun pv hy => ?_⟩
    obtain ⟨v, e, rv⟩ := hv pv hy
    exact ⟨v, e, rv.but k h3⟩
  · have z := F.offC p hp
    have hne : p.2 ≠ I := fun e => ho (.inr ⟨p, hp, e⟩)
    cases q : h.get? p.2 with
    | none => exact absurd q z.2.2.2.1
    | some o =>
      have q' := k _ _ hne q
      exact ⟨z.1, z.2.1, fun o' e => by rw [q'] at e; cases e; exact z.2.2.1 o q, by rw [q']; simp, z.2.2.2.2⟩
theorem Step.but {O : Addr → Prop} {I : Addr} {h₀ : Heap} (x : Step O σ h₀ σ' h) (k : ∀ b o, b ≠ I → h.get? b = some o → h'.get? b = some o) (hI : h₀.get? I = none) : Step O σ h₀ σ' h' := by
  have ne : ∀ b, h₀.get? b ≠ none → b ≠ I := fun b e q => e (q ▸ hI)
  refine ⟨fun b o e nb g => k b o (ne b (by rw [g]; simp)) (x.keep b o e nb g), x.dom, fun b e => ?_⟩
  cases q : h.get? b with
  | none => exact absurd q (x.live b e)
  | some o => rw [k b o (ne b e) q]; simp
noncomputable abbrev PostS (prog : Program) (w : World) (B : Heap) (env : Env) (σ : Sto) (s : Shared) (Q : PFlow → PEnv → Sto → Prop) : Flow → Shared → Prop := Post prog w B (relS B env) (ownOf env) σ s fun p σ' => Q p.1 p.2 σ'
theorem St.baseNone {h : Heap} {σ : Sto} (S : St prog w B h σ) {a : Addr} (e : h.get? a = none) : B.get? a = none := by
  cases q : B.get? a with
  | none => rfl
  | some o => rw [S.base _ _ q] at e; cases e
theorem not_own {ρ : PEnv} (F : FR B h σ env ρ) {a : Addr} (e : h.get? a = none) : ¬ ownOf env a := fun z => (F.own a z).2.2.2 e
inductive ForI (prog : Program) (w : World) (B : Heap) (env : Env) (σ : Sto) (s : Shared) (I : Addr) (Stt : Nat → Heap → Prop) (Qf : Nat → PEnv → Sto → Prop) (k q : Nat) (s' : Shared) : Prop
  | mk (i : Nat) (ρ' : PEnv) (σ' : Sto) (h' : Heap) (tk' : Nat) (e : s' = { s with heap := h', toks := tk' }) (S : St prog w B h' σ') (x : Step (ownOf env) σ s.heap σ' h') (F : FR B h' σ' env ρ') (hI : σ' I = none) (st : Stt i h') (hq : Qf i ρ' σ') (hi : i ≤ k) (hz : q = k + 1 - i)
theorem body_turn {A : Around} {body : List Stmt} {b : SWP} {next : PEnv → Sto → Prop} {Q : PFlow → PEnv → Sto → Prop} {Rf : Flow → Shared → Prop} {E : Value → Shared → Prop} {s : Shared} {σ₀ : Sto} {h₁ : Heap} {tk₁ : Nat} {ρ₁ : PEnv}
    (hA : AOk n A) (hb : SsOk prog w B n env body b) (S₁ : St prog w B h₁ σ) (x₁ : Step (ownOf env) σ₀ s.heap σ h₁) (F₁ : FR B h₁ σ env ρ₁) (q₁ : b ρ₁ σ (loopStep next Q))
    (hn : ∀ ρ₄ σ₄ h₄ tk₄, St prog w B h₄ σ₄ → Step (ownOf env) σ h₁ σ₄ h₄ → FR B h₄ σ₄ env ρ₄ → next ρ₄ σ₄ → Rf .next { s with heap := h₄, toks := tk₄ } ∧ Rf .cont { s with heap := h₄, toks := tk₄ })
    (hbr : ∀ s', PostS prog w B env σ₀ s Q .next s' → Rf .brk s') (hr : ∀ v s', PostS prog w B env σ₀ s Q (.ret v) s' → Rf (.ret v) s') :
    wpAny (model prog w) A (execs body env) Rf E { s with heap := h₁, toks := tk₁ } := by
  refine Does.go (hb A ρ₁ σ _ { s with heap := h₁, toks := tk₁ } hA q₁ S₁ F₁) (fun f pb σ₄ h₄ tk₄ S₄ x₄ rr q₄ => ?_)
  obtain ⟨pf, ρ₄⟩ := pb
  obtain ⟨rf, F₄⟩ := rr
  cases rf with
  | next => exact (hn _ _ _ _ S₄ x₄ F₄ q₄).1
  | cont => exact (hn _ _ _ _ S₄ x₄ F₄ q₄).2
  | brk => exact hbr _ ⟨(.next, ρ₄), σ₄, h₄, tk₄, rfl, S₄, x₁.trans x₄, ⟨.next, F₄⟩, q₄⟩
  | ret rv' => exact hr _ _ ⟨(.ret _, ρ₄), σ₄, h₄, tk₄, rfl, S₄, x₁.trans x₄, ⟨.ret rv', F₄⟩, q₄⟩
theorem for_turn {A : Around} {x : String} {px : Pos} {body : List Stmt} {b : SWP} {I : Addr} {Stt : Nat → Heap → Prop} {Qf : Nat → PEnv → Sto → Prop} {k i : Nat} {Q : PFlow → PEnv → Sto → Prop} {Rf : Flow → Shared → Prop} {E₁ E₂ : Value → Shared → Prop} {s : Shared} {σ₀ : Sto} {h₁ : Heap} {tk₁ : Nat} {ρ₁ : PEnv} {v : Value} {p : PV}
    (hA : AOk n A) (hb : SsOk prog w B n env body b) (hx : StoreOk env x) (hk : env.scope.kind = .function) (S₁ : St prog w B h₁ σ) (x₁ : Step (ownOf env) σ₀ s.heap σ h₁) (F₁ : FR B h₁ σ env ρ₁) (rv : VR B h₁ v p) (hσI : σ I = none) (hIo : ¬ ownOf env I) (st₁ : Stt (i + 1) h₁) (liI : h₁.get? I ≠ none)
    (q₁ : b (ρ₁.set x p) σ (loopStep (Qf (i + 1)) Q)) (hlt : i < k) (frame : ∀ σ₄ h₄, Step (ownOf env) σ h₁ σ₄ h₄ → Stt (i + 1) h₄)
    (hn : ∀ s', (∃ m, m < k + 1 - i ∧ ForI prog w B env σ₀ s I Stt Qf k m s') → Rf .next s' ∧ Rf .cont s')
    (hbr : ∀ s', PostS prog w B env σ₀ s Q .next s' → Rf .brk s') (hr : ∀ v s', PostS prog w B env σ₀ s Q (.ret v) s' → Rf (.ret v) s') :
    wpAny (model prog w) A (assign (.Name (Str.ofString x) px) env v) (fun _ s₂ => wpAny (model prog w) A (execs body env) Rf E₂ s₂) E₁ { s with heap := h₁, toks := tk₁ } := by
  refine wpAny_assign_Name (store_name (s := { s with heap := h₁, toks := tk₁ }) hx hk S₁ F₁ rv fun h₃ tk₃ S₃ x₃ F₃ => ?_)
  refine body_turn (s := s) hA hb S₃ (x₁.trans x₃) F₃ q₁ (fun ρ₄ σ₄ h₄ tk₄ S₄ x₄ F₄ q₄ => hn _ ⟨k + 1 - (i + 1), by lia, ?_⟩) hbr hr
  have x₁₄ := x₃.trans x₄
  exact ⟨i + 1, ρ₄, σ₄, h₄, tk₄, rfl, S₄, x₁.trans x₁₄, F₄, x₁₄.gone hσI liI, frame _ _ x₁₄, q₄, hlt, rfl⟩
theorem for_walk {A : Around} {I : Addr} {fp wr : List Addr} {k : Nat} {P : Nat → Value → Prop} {Stt : Nat → Heap → Prop} {R : Result → Shared → Prop} {x : String} {px : Pos} {body : List Stmt} {b : SWP} {items : List PV} {ρ : PEnv} {Q : PFlow → PEnv → Sto → Prop} {s : Shared} {h₂ : Heap} {tk₂ : Nat}
    (hA : AOk n A) (W : Walks prog w A I fp wr k P Stt) (hwr : ∀ b ∈ wr, b = I) (hfp : ∀ b ∈ fp, b = I ∨ ∃ o, s.heap.get? b = some o ∧ IsTupO o) (hI : ∀ i h, Stt i h → ∃ o, h.get? I = some o ∧ ¬ IsTupO o) (hI0 : s.heap.get? I = none)
    (hlen : items.length = k) (hP : ∀ i v h', i < k → (∀ b o, s.heap.get? b = some o → IsTupO o → h'.get? b = some o) → P i v → ∃ p, items[i]? = some p ∧ VR B h' v p)
    (hb : SsOk prog w B n env body b) (hx : StoreOk env x) (hk : env.scope.kind = .function)
    (S : St prog w B s.heap σ) (F : FR B s.heap σ env ρ) (k₂ : ∀ b o, s.heap.get? b = some o → h₂.get? b = some o) (st : Stt 0 h₂) (hQ : forL x b items ρ σ Q)
    (hR : ∀ f s', PostS prog w B env σ s Q f s' → R (.ok f) s') :
    codeAny (model prog w) A (.forLoop (.Name (Str.ofString x) px) (.ref I) body [] env) R { s with heap := h₂, toks := tk₂ } := by
  have hIB := S.baseNone hI0
  have hIo := not_own F hI0
  refine codeAny_forLoop (ForI prog w B env σ s I Stt (fun i ρ σ => forL x b (items.drop i) ρ σ Q) k) ?_ (k + 1)
    ⟨0, ρ, σ, h₂, tk₂, rfl, S.ofKeep k₂, .ofKeep k₂, F.step (.ofKeep k₂) S, S.fresh hI0, st, hQ, Nat.zero_le _, rfl⟩
  rintro q s' ⟨i, ρ', σ', h', tk', rfl, S', x', F', hσI, st', hq, hi, rfl⟩
  obtain ⟨oI, hoI, hnI⟩ := hI i h' st'
  have ntI : NotTup h' I := fun o e => by rw [hoI] at e; cases e; exact hnI
  have away : ∀ {h₁ : Heap}, (∀ b o, b ∉ wr → h'.get? b = some o → h₁.get? b = some o) → ∀ b o, b ≠ I → h'.get? b = some o → h₁.get? b = some o := fun k₁ b o hne e => k₁ b o (fun z => hne (hwr b z)) e
  by_cases hlt : i < k
  · refine W.item i _ _ _ hlt st' fun v h₁ tk₁ hPv st₁ k₁ => ?_
    have k₁' := away k₁
    have S₁ := S'.but k₁' hσI hIB ntI
    have x₁ := x'.but k₁' hI0
    have F₁ := F'.but k₁' ntI hIo
    have kt := x₁.tup S fun b z => (F.own b z).1
    obtain ⟨p, hp, rv⟩ := hP i v h₁ hlt kt hPv
    obtain ⟨hlt', rfl⟩ := List.getElem?_eq_some_iff.mp hp
    rw [List.drop_eq_getElem_cons hlt'] at hq
    obtain ⟨oI₁, hoI₁, _⟩ := hI _ _ st₁
    refine for_turn (s := s) (Qf := fun i ρ σ => forL x b (items.drop i) ρ σ Q) hA hb hx hk S₁ x₁ F₁ rv hσI hIo st₁ (some_ne hoI₁) hq hlt (fun σ₄ h₄ x₁₄ => W.frame _ _ _ st₁ fun b hb' o e => ?_) (fun s' z => ⟨z, z⟩) (hR _) fun _ => hR _
    rcases hfp b hb' with rfl | ⟨o', ho', ht⟩
    · exact x₁₄.keep _ _ hσI hIo e
    · have e2 := kt b o' ho' ht
      rw [e2] at e; cases e
      exact x₁₄.tup S₁ (fun b z => (F₁.own b z).1) b _ e2 ht
  · obtain rfl := Nat.le_antisymm hi (Nat.not_lt.mp hlt)
    rw [List.drop_of_length_le (Nat.le_of_eq hlen)] at hq
    refine W.done _ _ _ st' fun h₁ tk₁ k₁ => wpAny_execs_nil ?_
    exact hR _ _ ⟨(.next, ρ'), σ', h₁, tk₁, rfl, S'.but (away k₁) hσI hIB ntI, x'.but (away k₁) hI0, ⟨.next, F'.but (away k₁) ntI hIo⟩, hq⟩
theorem not_tup_fields {c : Value} {vs : Array Value} {d : Option Addr} {sl : Array (Option Value)} : ¬ IsTupO ⟨c, d, .fields vs, sl⟩ := fun ⟨_, _, _, e⟩ => by cases e
theorem for_tup {A : Around} {R : Result → Shared → Prop} {x : String} {px : Pos} {body : List Stmt} {b : SWP} {items : List PV} {ρ : PEnv} {Q : PFlow → PEnv → Sto → Prop} {s : Shared} {E : Value → Shared → Prop} {a : Addr} {vs : Array Value} {m : Nat}
    (hA : AOk n A) (hb : SsOk prog w B n env body b) (hx : StoreOk env x) (hk : env.scope.kind = .function) (S : St prog w B s.heap σ) (F : FR B s.heap σ env ρ) (ho : s.heap.get? a = some (tupObj vs m)) (r : VRs B s.heap vs.toList items) (hQ : forL x b items ρ σ Q)
    (hR : ∀ f s', PostS prog w B env σ s Q f s' → R (.ok f) s') :
    wpAny (model prog w) A (pyIter (.ref a)) (fun it s₂ => codeAny (model prog w) A (.forLoop (.Name (Str.ofString x) px) it body [] env) R s₂) E s := by
  have ht : s.heap.IsTuple a vs := ⟨_, ho, rfl, m, rfl⟩
  refine wpAny_pyIter_tuple ht ?_
  have hne : a ≠ s.heap.objs.size := Nat.ne_of_lt (Heap.lt_size ho)
  have W := Walks.tuple (prog := prog) (w := w) hA.hand s.heap.objs.size a hne vs
  refine for_walk (tk₂ := s.toks) hA W (fun b hb' => List.mem_singleton.mp hb') (fun b hb' => ?_) (fun i h st => ?_) (get?_size _) ?_ (fun i v h' _ kt hv => ?_) hb hx hk S F (keepPush _) ⟨⟨_, Heap.get?_push_size _ rfl, rfl, rfl⟩, ⟨_, Heap.get?_push_of_some _ ho, rfl, m, rfl⟩⟩ hQ hR
  · rcases List.mem_cons.mp hb' with e | e
    · exact .inl e
    · exact .inr ⟨_, (List.mem_singleton.mp e) ▸ ho, isTupO vs m⟩
  · obtain ⟨⟨o, ho', hc, hd⟩, _⟩ := st
    exact ⟨o, ho', fun ⟨_, _, _, e⟩ => by rw [hd] at e; cases e⟩
  · rw [← r.length, Array.length_toList]
  · obtain ⟨p, hp, rv⟩ := r.get' (i := i) (v := v) (by rw [Array.getElem?_toList]; exact hv)
    exact ⟨p, hp, rv.keep fun b us j e => kt b _ e (isTupO us j)⟩
theorem rangeL_length (lo hi : Int) : (rangeL lo hi).length = (hi - lo).toNat := by simp [rangeL]
theorem rangeL_get (lo hi : Int) (i : Nat) (h : i < (hi - lo).toNat) : (rangeL lo hi)[i]? = some (.int (lo + i)) := by simp [rangeL, h]
theorem rangeSize_le (lo hi : Int) : Builtin.Range.rangeSize lo hi 1 = ((hi - lo).toNat : Int) := by
  rw [rangeSize_one]
  by_cases h : lo < hi
  · rw [if_pos h]; lia
  · rw [if_neg h]; lia
theorem for_rng {A : Around} {R : Result → Shared → Prop} {x : String} {px : Pos} {body : List Stmt} {b : SWP} {lo hi : Int} {ρ : PEnv} {Q : PFlow → PEnv → Sto → Prop} {s : Shared} {E : Value → Shared → Prop} {r : Addr} {t u v : Tok}
    (hA : AOk n A) (hb : SsOk prog w B n env body b) (hx : StoreOk env x) (hk : env.scope.kind = .function) (S : St prog w B s.heap σ) (F : FR B s.heap σ env ρ) (hr : IsRange s.heap r lo hi 1 t u v)
    (b1 : -(2 ^ 62) ≤ lo) (b2 : lo < 2 ^ 62) (b3 : -(2 ^ 62) ≤ hi) (b4 : hi < 2 ^ 62) (hQ : forL x b (rangeL lo hi) ρ σ Q)
    (hR : ∀ f s', PostS prog w B env σ s Q f s' → R (.ok f) s') :
    wpAny (model prog w) A (pyIter (.ref r)) (fun it s₂ => codeAny (model prog w) A (.forLoop (.Name (Str.ofString x) px) it body [] env) R s₂) E s := by
  refine wpAny_pyIter_range hr (small_one b1 b2 b3 b4) ?_
  have W := Walks.range (prog := prog) (w := w) hA.hand s.heap.objs.size lo 1 (hi - lo).toNat
  refine for_walk (tk₂ := s.toks) hA W (fun b hb' => List.mem_singleton.mp hb') (fun b hb' => .inl (List.mem_singleton.mp hb')) (fun i h st => ⟨_, st, not_tup_fields⟩) (get?_size _) (rangeL_length lo hi) (fun i v h' hlt kt hv => ?_) hb hx hk S F (keepPush _) ?_ hQ hR
  · obtain ⟨t', rfl⟩ := hv
    exact ⟨_, rangeL_get lo hi i hlt, by rw [Int.mul_one]; exact .int _ _⟩
  · have e : (s.heap.push { cls := .type "range_iterator", data := .fields #[rawInt lo, rawInt (Builtin.Range.rangeSize lo hi 1), rawInt 1] }).get? s.heap.objs.size = some { cls := .type "range_iterator", data := .fields #[rawInt lo, rawInt (Builtin.Range.rangeSize lo hi 1), rawInt 1] } := Heap.get?_push_size _ rfl
    rw [rangeSize_le] at e
    show Heap.get? _ _ = some _
    rw [rangeSize_le, e]
    simp
theorem iter_own {h : Heap} {I a : Addr} {i : Nat} (st : h.IsListIter I a i) : NotTup h I := by
  obtain ⟨o, ho, hc, hd⟩ := st
  intro o' e
  rw [ho] at e; cases e
  rintro ⟨_, _, _, e⟩
  rw [hd] at e; cases e
theorem for_lst {A : Around} {R : Result → Shared → Prop} {x : String} {px : Pos} {body : List Stmt} {b : SWP} {l : List PV} {ρ : PEnv} {Q : PFlow → PEnv → Sto → Prop} {s : Shared} {E : Value → Shared → Prop} {a : Addr}
    (hA : AOk n A) (hb : SsOk prog w B n env body b) (hx : StoreOk env x) (hk : env.scope.kind = .function) (S : St prog w B s.heap σ) (F : FR B s.heap σ env ρ) (ha : σ a = some (.list l)) (hQ : forR x b a l l ρ σ Q)
    (hR : ∀ f s', PostS prog w B env σ s Q f s' → R (.ok f) s') :
    wpAny (model prog w) A (pyIter (.ref a)) (fun it s₂ => codeAny (model prog w) A (.forLoop (.Name (Str.ofString x) px) it body [] env) R s₂) E s := by
  obtain ⟨vs₀, m₀, ho₀, r₀⟩ := S.objs _ _ ha
  refine wpAny_pyIter_list ⟨_, ho₀, rfl, m₀, rfl⟩ ?_
  have hI0 : s.heap.get? s.heap.objs.size = none := get?_size _
  have hpi : (s.heap.push { cls := .type "list_iterator", data := .fields #[.ref a, .int 0 0] }).IsListIter s.heap.objs.size a 0 := ⟨_, Heap.get?_push_size _ rfl, rfl, rfl⟩
  have k₂ := keepPush (h := s.heap) { cls := .type "list_iterator", data := .fields #[.ref a, .int 0 0] }
  generalize s.heap.push _ = h₂ at k₂ hpi ⊢
  generalize s.heap.objs.size = I at hI0 hpi ⊢
  have hIB := S.baseNone hI0
  have hIo := not_own F hI0
  refine codeAny_forLoop (ForI prog w B env σ s I (fun i h => h.IsListIter I a i) (fun i ρ σ => forR x b a l (l.drop i) ρ σ Q) l.length) ?_ (l.length + 1)
    ⟨0, ρ, σ, _, s.toks, rfl, S.ofKeep k₂, .ofKeep k₂, F.step (.ofKeep k₂) S, S.fresh hI0, hpi, hQ, Nat.zero_le _, rfl⟩
  rintro q s' ⟨i, ρ', σ', h', tk', rfl, S', x', F', hσI, st', hq, hi, rfl⟩
  have ntI := iter_own st'
  by_cases hlt : i < l.length
  · rw [List.drop_eq_getElem_cons hlt] at hq
    obtain ⟨hal, hq⟩ := hq
    obtain ⟨vs, m, ho, r⟩ := S'.objs _ _ hal
    obtain ⟨v, hv, rv⟩ := r.get (i := i) (p := l[i]) (List.getElem?_eq_getElem hlt)
    refine wpAny_pyNext_list_item st' ⟨_, ho, rfl, m, rfl⟩ (by rw [← Array.getElem?_toList]; exact hv) fun h₁ st₁ hs => ?_
    have k₁' : ∀ b o, b ≠ I → h'.get? b = some o → h₁.get? b = some o := fun b o hne e => (hs.2 b hne).trans e
    obtain ⟨oI, hoI, hcI⟩ := id st₁
    exact for_turn (s := s) (Qf := fun i ρ σ => forR x b a l (l.drop i) ρ σ Q) (tk₁ := tk') hA hb hx hk (S'.but k₁' hσI hIB ntI) (x'.but k₁' hI0) (F'.but k₁' ntI hIo) (rv.but k₁' ntI) hσI hIo st₁ (some_ne hoI) hq hlt (fun σ₄ h₄ x₁₄ => ⟨oI, x₁₄.keep _ _ hσI hIo hoI, hcI⟩) (fun s' z => ⟨z, z⟩) (hR _) fun _ => hR _
  · obtain rfl := Nat.le_antisymm hi (Nat.not_lt.mp hlt)
    rw [List.drop_length] at hq
    obtain ⟨hal, hq⟩ := hq
    obtain ⟨vs, m, ho, r⟩ := S'.objs _ _ hal
    have hlen := r.length
    rw [Array.length_toList] at hlen
    refine wpAny_pyNext_list_end hA.hand st' ⟨_, ho, rfl, m, rfl⟩ (by rw [Array.getElem?_eq_none_iff]; exact Nat.le_of_eq hlen) fun h₁ k₁ => wpAny_execs_nil ?_
    exact hR _ _ ⟨(.next, ρ'), σ', h₁, tk', rfl, S'.but k₁ hσI hIB ntI, x'.but k₁ hI0, ⟨.next, F'.but k₁ ntI hIo⟩, hq⟩
theorem SOk.for {x : String} {px pos : Pos} {e : Expr} {body : List Stmt} {d : EWP} {b : SWP} (h : EOk prog w B n env e d) (hb : SsOk prog w B n env body b) (hx : StoreOk env x) (hk : env.scope.kind = .function) (hs : ∀ v, foldedSetIterable e env v = pure v := by intro _; rfl) : SOk prog w B n env (.For (.Name (Str.ofString x) px) e body [] pos) (dFor x d b) := by
  intro A ρ σ Q s hA hQ S F
  refine Does.mk fun E => ?_
  refine wpAny_For (Does.go (h A ρ σ _ s hA hQ S F) (fun it pi σ₁ h₁ tk₁ S₁ y r q => ?_)) hs
  have F₁ := F.step y S
  have fin : ∀ f s', PostS prog w B env σ₁ { s with heap := h₁, toks := tk₁ } Q f s' → PostS prog w B env σ s Q f s' := fun f s' p => Post.own (tk₁ := tk₁) y p
  cases r with
  | tup ho rs => exact for_tup (s := { s with heap := h₁, toks := tk₁ }) (R := fun r s' => match r with | .ok f => PostS prog w B env σ s Q f s' | .error e => cameBackBy (model prog w) A env E e s') hA hb hx hk S₁ F₁ ho rs q fin
  | ref a =>
    obtain ⟨l, hl, q⟩ := list_out q
    exact for_lst (s := { s with heap := h₁, toks := tk₁ }) (R := fun r s' => match r with | .ok f => PostS prog w B env σ s Q f s' | .error e => cameBackBy (model prog w) A env E e s') hA hb hx hk S₁ F₁ hl q fin
  | _ => exact q.elim
end
end Mine
namespace Mine
open PySem PySem.W PySem.Calls PyProof.Rows PySem.Spec
section
variable {prog : Program} {w : World} {B : Heap} {n : Nat} {env : Env}
noncomputable def whileN (t : TWP) (b : SWP) : Nat → SWP
  | 0, _, _, _ => False
  | k + 1, ρ, σ, Q => t ρ σ fun c σ => if c = true then b ρ σ (loopStep (fun ρ σ => whileN t b k ρ σ Q) Q) else Q .next ρ σ
noncomputable def dWhile (t : TWP) (b : SWP) : SWP := fun ρ σ Q => ∃ k, whileN t b k ρ σ Q
inductive WhI (prog : Program) (w : World) (B : Heap) (env : Env) (σ : Sto) (s : Shared) (P : PEnv → Sto → Prop) (s' : Shared) : Prop
  | mk (ρ' : PEnv) (σ' : Sto) (h' : Heap) (tk' : Nat) (e : s' = { s with heap := h', toks := tk' }) (S : St prog w B h' σ') (x : Step (ownOf env) σ s.heap σ' h') (F : FR B h' σ' env ρ') (hq : P ρ' σ')
theorem SOk.while {t : Expr} {body : List Stmt} {pos : Pos} {dt : TWP} {b : SWP} (ht : TOk prog w B n env t dt) (hb : SsOk prog w B n env body b) : SOk prog w B n env (.While t body [] pos) (dWhile dt b) := by
  rintro A ρ σ Q s hA ⟨k, hQ⟩ S F
  refine Does.mk fun E => ?_
  refine wpAny_While (codeAny_whileLoop (fun q s' => WhI prog w B env σ s (fun ρ' σ' => whileN dt b q ρ' σ' Q) s') ?_ k ⟨ρ, σ, s.heap, s.toks, rfl, S, .refl, F, hQ⟩)
  rintro q s' ⟨ρ', σ', h', tk', rfl, S', x', F', hq⟩
  cases q with
  | zero => exact hq.elim
  | succ q =>
    refine Does.go (ht A ρ' σ' _ { s with heap := h', toks := tk' } hA hq S' F') (fun c c' σ₁ h₁ tk₁ S₁ y re q₁ => ?_)
    cases re
    have F₁ := F'.step y S'
    have x₁ := x'.trans (y.mono fun _ z => z.elim)
    cases c with
    | true =>
      rw [if_pos rfl] at q₁ ⊢
      refine body_turn (s := s) (next := fun ρ σ => whileN dt b q ρ σ Q) hA hb S₁ x₁ F₁ q₁ (fun ρ₄ σ₄ h₄ tk₄ S₄ x₄ F₄ q₄ => ?_) (fun _ z => z) fun _ _ z => z
      exact (fun z => ⟨⟨q, Nat.lt_succ_self q, z⟩, ⟨q, Nat.lt_succ_self q, z⟩⟩) ⟨ρ₄, σ₄, h₄, tk₄, rfl, S₄, x₁.trans x₄, F₄, q₄⟩
    | false =>
      rw [if_neg Bool.false_ne_true] at q₁ ⊢
      exact wpAny_execs_nil ⟨(.next, ρ'), σ₁, h₁, tk₁, rfl, S₁, x₁, ⟨.next, F₁⟩, q₁⟩
theorem evalArgs_nilS {M : Model} {A : Around} {E : Value → Shared → Prop} {s : Shared} {f : Value} {Q : Args → Shared → Prop} (h : wpAny M A (spliced []) (fun vs s' => Q ⟨vs, []⟩ s') E s) : wpAny M A (evalArgs f true [] []) Q E s := by
  unfold evalArgs
  show wpAny M A (spliced [] >>= _) Q E s
  refine wpAny_bind (wpAny_mono h (fun vs s' h' => ?_) fun _ _ x => x)
  refine wpAny_bind (wpAny_pure ?_)
  refine wpAny_holding ?_
  exact wpAny_bind (wpAny_pure (wpAny_bind (wpAny_pure (wpAny_pure h'))))
theorem with_args {A : Around} {ρ : PEnv} {σ : Sto} {s : Shared} {E : Value → Shared → Prop} {pos : Pos} {f : Value} {first : List Value} {args : List Expr} {ds : EsWP} {Q : List PV → Sto → Prop} {R : Value → Shared → Prop} (h : EsOk prog w B n env args ds) (hA : AOk n A) (hQ : ds ρ σ Q) (S : St prog w B s.heap σ) (F : FR B s.heap σ env ρ)
    (hf : ∀ h : Heap, (∀ b o, B.get? b = some o → h.get? b = some o) → ∃ k, (k = Keeper.frame ∨ k = Keeper.machine ∨ k = Keeper.boundFrame) ∧ Looks (model prog w) h (keeperOf f) k)
    (hargs : args = [] ∨ ∃ e rest, args = e :: rest ∧ starEach args env = (false, eval e env) :: starEach rest env ∧ (backTo pos (starEach rest env)).any (·.1) = false)
    (k : ∀ vals pvs σ₁ h₁ tk₁, St prog w B h₁ σ₁ → Step noO σ s.heap σ₁ h₁ → VRs B h₁ vals pvs → Q pvs σ₁ → wpAny (model prog w) A (call f (first ++ vals)) R E { s with heap := h₁, toks := tk₁ }) :
    wpAny (model prog w) A (callWith pos f first (backTo pos (starEach args env)) []) R E s := by
  have hsp := (h pos A ρ σ Q s hA hQ S F).run E
  rcases hargs with rfl | ⟨e, rest, rfl, he, hp⟩
  · refine callWith_of (P := fun h => ∀ b o, B.get? b = some o → h.get? b = some o) rfl hf (evalArgs_nilS (wpAny_mono hsp (fun vals s₁ p => ?_) fun _ _ e => e))
    obtain ⟨pvs, σ₁, h₁, tk₁, rfl, S₁, x, r, q⟩ := p
    exact ⟨S₁.base, k vals pvs σ₁ h₁ tk₁ S₁ x r q⟩
  · rw [he] at hsp ⊢
    refine callWith_of (P := fun h => ∀ b o, B.get? b = some o → h.get? b = some o) (by show ((false || (backTo pos (starEach rest env)).any (·.1)) || false) = false; rw [hp]; rfl) hf (evalArgs_plain (wpAny_mono hsp (fun vals s₁ p => ?_) fun _ _ e => e))
    obtain ⟨pvs, σ₁, h₁, tk₁, rfl, S₁, x, r, q⟩ := p
    exact ⟨S₁.base, k vals pvs σ₁ h₁ tk₁ S₁ x r q⟩
noncomputable def FnOk (prog : Program) (w : World) (B : Heap) (n : Nat) (f : Addr) (F : FWP) : Prop :=
  ∀ A σ s vals args Q R, AOk n A → F args σ Q → VRs B s.heap vals args → St prog w B s.heap σ → (∀ v s', Post prog w B (relV B) noO σ s Q v s' → R (.ok (.ret v)) s') → codeAny (model prog w) A (.call (.ref f) ⟨vals, []⟩) R s
theorem FnOk.call {f : Addr} {F : FWP} (hF : FnOk prog w B n f F) {A : Around} {σ : Sto} {s : Shared} {vals : List Value} {args : List PV} {Q : PV → Sto → Prop} (hA : AOk n A) (hQ : F args σ Q) (r : VRs B s.heap vals args) (S : St prog w B s.heap σ) (E : Value → Shared → Prop) :
    wpAny (model prog w) A (call (.ref f) vals) (Post prog w B (relV B) noO σ s Q) E s :=
  wpAny_call (hF A σ s vals args Q (fun r s' => match r with | .ok (.ret v) => Post prog w B (relV B) noO σ s Q v s' | .ok _ => False | .error e => E e s') hA hQ r S fun v s' p => p)
noncomputable def dCall (F : FWP) (ds : EsWP) : EWP := fun ρ σ Q => ds ρ σ fun vs σ => F vs σ Q
noncomputable abbrev ArgsOk (env : Env) (pos : Pos) (args : List Expr) : Prop := args = [] ∨ ∃ e rest, args = e :: rest ∧ starEach args env = (false, eval e env) :: starEach rest env ∧ (backTo pos (starEach rest env)).any (·.1) = false
theorem ArgsOk.nil {pos : Pos} : ArgsOk env pos [] := .inl rfl
theorem ArgsOk.cons {pos : Pos} {e : Expr} {rest : List Expr} (h1 : starEach (e :: rest) env = (false, eval e env) :: starEach rest env) (h2 : (backTo pos (starEach rest env)).any (·.1) = false) : ArgsOk env pos (e :: rest) := .inr ⟨e, rest, rfl, h1, h2⟩
theorem EOk.callG {K : Frag} (G : Gd prog w K B) (X : EnvOk env) {m : Nat} {f : Addr} {F : FWP} {x : String} {p pos : Pos} {args : List Expr} {ds : EsWP} (hF : FnOk prog w B m f F) (hm : m ≤ n) (hl : env.kindOf (Str.ofString x) = some .globalImplicit) (e : nsIn K mainGlobals (Str.ofString x) = some (some (.ref f))) (hk : keepIn K (.ref f) = true)
    (h : EsOk prog w B n env args ds) (ha : ArgsOk env pos args) (hd : (Str.ofString x == ("__debug__" : Str)) = false) (he : eval (.Call (.Name (Str.ofString x) p) args [] pos) env = (do callWith pos (← eval (.Name (Str.ofString x) p) env) [] (backTo pos (starEach args env)) (backToKw pos (keywordEach [] env))) := by rfl) :
    EOk prog w B n env (.Call (.Name (Str.ofString x) p) args [] pos) (dCall F ds) := by
  intro A ρ σ Q s hA hQ S FR
  refine Does.mk fun E => ?_
  obtain ⟨mg, hg⟩ := G.g
  refine Call_ (Name_function_global X.kind hl (loadGlobal_global (by rw [X.glob]; exact hg.keeps S.base) (mg_of G.X hg e) ?_) hd) he
  refine with_args h hA hQ S FR (fun h kb => keeps_K hk h (G.X.keeps kb)) ha fun vals pvs σ₁ h₁ tk₁ S₁ x r q => ?_
  exact Does.after (tk₁ := tk₁) x ⟨hF.call (s := { s with heap := h₁, toks := tk₁ }) (hA.mono hm) q r S₁⟩
noncomputable def BlOk (prog : Program) (w : World) (B : Heap) (n : Nat) (f : Value) (F : FWP) : Prop :=
  ∀ A σ s vals args Q, AOk n A → F args σ Q → VRs B s.heap vals args → St prog w B s.heap σ → Does prog w B A (relV B) (call f vals) noO σ Q s
theorem EOk.callB {K : Frag} (G : Gd prog w K B) (X : EnvOk env) {f : Value} {F : FWP} {x : String} {p pos : Pos} {args : List Expr} {ds : EsWP} (hF : BlOk prog w B n f F) (hl : env.kindOf (Str.ofString x) = some .globalImplicit) (e : nsIn K mainGlobals (Str.ofString x) = some none) (hv : bootBuiltins (Str.ofString x) = some f) (hn : Str.ofString x ≠ "__name__") (hr : keeperOf f = pure Keeper.machine)
    (h : EsOk prog w B n env args ds) (ha : ArgsOk env pos args) (hd : (Str.ofString x == ("__debug__" : Str)) = false) (he : eval (.Call (.Name (Str.ofString x) p) args [] pos) env = (do callWith pos (← eval (.Name (Str.ofString x) p) env) [] (backTo pos (starEach args env)) (backToKw pos (keywordEach [] env))) := by rfl) :
    EOk prog w B n env (.Call (.Name (Str.ofString x) p) args [] pos) (dCall F ds) := by
  intro A ρ σ Q s hA hQ S FR
  refine Does.mk fun E => ?_
  obtain ⟨mg, hg⟩ := G.g
  obtain ⟨mb, hb, hb'⟩ := G.b
  refine Call_ (Name_function_global X.kind hl (loadGlobal_builtin (by rw [X.glob]; exact hg.keeps S.base) (mg_none_of G.X hg e) (by rw [X.bui]; exact hb.keeps S.base) ((hb' _ hn).trans hv) ?_) hd) he
  refine with_args h hA hQ S FR (fun h kb => ⟨.machine, .inr (.inl rfl), Looks.of_pure hr⟩) ha fun vals pvs σ₁ h₁ tk₁ S₁ x r q => ?_
  exact Does.after (tk₁ := tk₁) x (hF A σ₁ { s with heap := h₁, toks := tk₁ } vals pvs Q hA q r S₁)
noncomputable def methOk (K : Frag) (C f : Addr) (x : Str) : Bool := plainGet K C x && findIn K (.ref C) x == some (some (.ref f)) && isFn K (.ref f) && keepIn K (.ref f)
noncomputable def methP (C : Addr) (x : String) : PV → Sto → Prop := fun o σ => match o with
  | .ref a => ∃ d m, σ a = some (.inst C d) ∧ σ d = some (.attrs m) ∧ m x = none
  | _ => False
noncomputable def dMeth (C : Addr) (x : String) (F : FWP) (d : EWP) (ds : EsWP) : EWP := fun ρ σ Q => d ρ σ fun o σ => methP C x o σ ∧ ds ρ σ fun vs σ => F (o :: vs) σ Q
theorem EOk.callM {K : Frag} (G : Gd prog w K B) {m : Nat} {C f : Addr} {F : FWP} {x : String} {o : Expr} {apos pos : Pos} {args : List Expr} {d : EWP} {ds : EsWP} {pl : Sem Bool} (hF : FnOk prog w B m f F) (hm : m ≤ n) (ok : methOk K C f (Str.ofString x) = true)
    (h : EOk prog w B n env o d) (hs : EsOk prog w B n env args ds) (ha : ArgsOk env pos args)
    (he : eval (.Call (.Attribute o (Str.ofString x) apos) args [] pos) env = (do
      let ov ← eval o env
      standAt apos.atName
      let (f, first) ← holding [ov] (getMethod ov (Str.ofString x) pl)
      callWith pos f first (backTo pos (starEach args env)) [])) :
    EOk prog w B n env (.Call (.Attribute o (Str.ofString x) apos) args [] pos) (dMeth C x F d ds) := by
  intro A ρ σ Q s hA hQ S FR
  refine Does.mk fun E => ?_
  simp only [methOk, Bool.and_eq_true, beq_iff_eq] at ok
  obtain ⟨⟨⟨ok1, ok2⟩, ok3⟩, ok4⟩ := ok
  refine MethodCall_ (pl := pl) (Does.go (h A ρ σ _ s hA hQ S FR) (fun ov po σ₁ h₁ tk₁ S₁ y r qq => ?_)) he
  obtain ⟨hm', q⟩ := qq
  obtain ⟨a, rfl⟩ : ∃ a, po = .ref a := by cases po <;> first | exact ⟨_, rfl⟩ | exact hm'.elim
  · cases r.ref_inv
    obtain ⟨dd, mm, h1, h2, h3⟩ := hm'
    have i1 : h₁.get? a = some (instObj C dd) := S₁.objs _ _ h1
    obtain ⟨m', ⟨od, es, ep, hod, hdd, hk, hu1, hmm⟩, ar, wi⟩ := S₁.objs _ _ h2
    have arx := ar x
    rw [h3] at arx
    have I : InstAt h₁ a (instObj C dd) C (some od) := ⟨i1, rfl, rfl, hod⟩
    have X₁ : K.In h₁ := G.X.keeps S₁.base
    refine method_fn X₁ I (plainGet_of ok1).1 (plainGet_of ok1).2 ok2 (beq_iff_eq.mp ok3) (by show (lookIn (Str.ofString x) od).map _ = _; rw [lookNs hdd hk, hmm, arx]; rfl) ?_
    refine with_args (s := { s with heap := h₁, toks := tk₁ }) hs hA q S₁ (FR.step y S) (fun h kb => keeps_K ok4 h (G.X.keeps kb)) ha fun vals pvs σ₂ h₂ tk₂ S₂ x₂ r₂ q₂ => ?_
    exact wpAny_mono (hF.call (s := { s with heap := h₂, toks := tk₂ }) (vals := .ref a :: vals) (args := .ref a :: pvs) (hA.mono hm) q₂ (.cons (.ref a) r₂) S₂ E) (fun v s' p => (p.trans (tk₁ := tk₂) x₂).trans (tk₁ := tk₁) y) fun _ _ e => e
noncomputable def newP (C : Addr) (FI : FWP) (vs : List PV) : Sto → (PV → Sto → Prop) → Prop := fun σ Q => ∀ a d, σ a = none → σ d = none → a ≠ d → FI (.ref a :: vs) ((σ.set d (.attrs fun _ => none)).set a (.inst C d)) fun r σ' => r = .none ∧ Q (.ref a) σ'
noncomputable def newOk (K : Frag) (C f : Addr) : Bool := makesIn K C && findIn K (.ref C) "__init__" == some (some (.ref f)) && typeIn K (.ref f) == some (.type "function")
theorem new_ok {K : Frag} (G : Gd prog w K B) {m : Nat} {C f : Addr} {F : FWP} (hF : FnOk prog w B m f F) (ok : newOk K C f = true) {A : Around} {σ : Sto} {s : Shared} {vals : List Value} {args : List PV} {Q : PV → Sto → Prop} (hA : AOk (m + 1) A) (hQ : newP C F args σ Q) (r : VRs B s.heap vals args) (S : St prog w B s.heap σ) (E : Value → Shared → Prop) :
    wpAny (model prog w) A (call (.ref C) vals) (Post prog w B (relV B) noO σ s Q) E s := by
  simp only [newOk, Bool.and_eq_true, beq_iff_eq] at ok
  obtain ⟨⟨ok1, ok2⟩, ok3⟩ := ok
  have X : K.In s.heap := G.X.keeps S.base
  obtain ⟨h, g, d, t, os⟩ := s
  refine wpAny_call (make_core (makes_of X ok1) (looks_findIn X ok2) (fun self => bind_fn X self ok3) (.inl rfl) ?_)
  have S₁ := S.push emptyDict (.attrs fun _ => none) ⟨_, Heap.Ns1.of_empty (Heap.Ns.new h _), (fun y => rfl), fun y hy => absurd rfl hy⟩
  have e1 : (h.push emptyDict).objs.size = h.objs.size + 1 := Heap.size_push ..
  have S₂ := S₁.push (instObj C h.objs.size) (.inst C h.objs.size) (Heap.get?_push_size _ rfl)
  have x₁ : Step noO σ h (σ.set h.objs.size (.attrs fun _ => none)) (h.push emptyDict) := .push σ h emptyDict _
  have x₂ := x₁.trans (.push (O := noO) (σ.set h.objs.size (.attrs fun _ => none)) (h.push emptyDict) (instObj C h.objs.size) (.inst C h.objs.size))
  rw [e1] at S₂ x₂
  have n1 : h.get? (h.objs.size + 1) = none := by
    cases q : h.get? (h.objs.size + 1) with
    | none => rfl
    | some o => exact absurd (Heap.lt_size q) (Nat.not_lt.mpr (Nat.le_succ _))
  have q := hQ (h.objs.size + 1) h.objs.size (S.fresh n1) (S.fresh (get?_size h)) (Nat.succ_ne_self _)
  have rr : VRs B ((h.push emptyDict).push (instObj C h.objs.size)) vals args := (r.push _).push _
  refine hF (A.under (.builtin "type.__call__" ⟨.ref C :: vals, []⟩)) _ ⟨_, g, d, t, os⟩ (.ref (h.objs.size + 1) :: vals) (.ref (h.objs.size + 1) :: args) _ _ ?_ q (.cons (.ref _) rr) S₂ fun v s' p => ?_
  · refine ⟨?_, ?_, hA.hand⟩
    · have := hA.depth; rw [depth_under_make]; lia
    · have := hA.units; rw [units_under_make]; lia
  · obtain ⟨pv, σ', h', tk', rfl, S', y, rv, hv, q'⟩ := p
    subst hv
    cases rv
    exact ⟨rfl, .ref (h.objs.size + 1), σ', h', tk', rfl, S', x₂.trans y, .ref _, q'⟩
theorem EOk.callC {K : Frag} (G : Gd prog w K B) (X : EnvOk env) {m : Nat} {C f : Addr} {F : FWP} {x : String} {p pos : Pos} {args : List Expr} {ds : EsWP} (hF : FnOk prog w B m f F) (hm : m + 1 ≤ n) (ok : newOk K C f = true) (hl : env.kindOf (Str.ofString x) = some .globalImplicit) (e : nsIn K mainGlobals (Str.ofString x) = some (some (.ref C))) (hk : keepIn K (.ref C) = true)
    (h : EsOk prog w B n env args ds) (ha : ArgsOk env pos args) (hd : (Str.ofString x == ("__debug__" : Str)) = false) (he : eval (.Call (.Name (Str.ofString x) p) args [] pos) env = (do callWith pos (← eval (.Name (Str.ofString x) p) env) [] (backTo pos (starEach args env)) (backToKw pos (keywordEach [] env))) := by rfl) :
    EOk prog w B n env (.Call (.Name (Str.ofString x) p) args [] pos) (dCall (newP C F) ds) := by
  intro A ρ σ Q s hA hQ S FR
  refine Does.mk fun E => ?_
  obtain ⟨mg, hg⟩ := G.g
  refine Call_ (Name_function_global X.kind hl (loadGlobal_global (by rw [X.glob]; exact hg.keeps S.base) (mg_of G.X hg e) ?_) hd) he
  refine with_args h hA hQ S FR (fun h kb => keeps_K hk h (G.X.keeps kb)) ha fun vals pvs σ₁ h₁ tk₁ S₁ x r q => ?_
  exact Does.after (tk₁ := tk₁) x ⟨new_ok (s := { s with heap := h₁, toks := tk₁ }) G hF ok (hA.mono hm) q r S₁⟩
noncomputable def bindEnv : List String → List PV → PEnv
  | p :: ps, a :: as => (bindEnv ps as).set p a
  | _, _ => fun _ => none
theorem bindEnv_mem : ∀ {ps : List String} {as : List PV} {x : String} {v : PV}, bindEnv ps as x = some v → x ∈ ps
  | [], _, _, _, h => by cases h
  | _ :: _, [], _, _, h => by cases h
  | p :: ps, a :: as, x, v, h => by
    by_cases q : x = p
    · rw [q]; exact .head _
    · exact .tail _ (bindEnv_mem (by rw [bindEnv, PEnv.set_ne _ _ q] at h; exact h))
theorem lookup_zip {h : Heap} : ∀ {ps : List String} {vals : List Value} {args : List PV} {x : String} {pv : PV}, ps.Nodup → VRs B h vals args → bindEnv ps args x = some pv → ∃ v, ((ps.map Str.ofString).zip vals).reverse.lookup (Str.ofString x) = some v ∧ VR B h v pv
  | [], _, _, _, _, _, _, e => by cases e
  | _ :: _, _, _, _, _, _, .nil, e => by cases e
  | p :: ps, _, _, x, pv, hn, .cons (v := v) (vs := vs) hv r, e => by
    rw [List.nodup_cons] at hn
    simp only [List.map_cons, List.zip_cons_cons, List.reverse_cons, List.lookup_append]
    by_cases q : x = p
    · subst q
      rw [bindEnv, PEnv.set_same] at e; cases e
      refine ⟨v, ?_, hv⟩
      have : ((ps.map Str.ofString).zip vs).reverse.lookup (Str.ofString x) = none := by
        rw [List.lookup_eq_none_iff]
        intro y hy
        rw [List.mem_reverse] at hy
        have := (List.of_mem_zip hy).1
        obtain ⟨z, hz, ez⟩ := List.mem_map.mp this
        rw [bne_iff_ne, ← ez]
        exact fun e => hn.1 (ofString_inj e ▸ hz)
      rw [this]; simp [List.lookup]
    · rw [bindEnv, PEnv.set_ne _ _ q] at e
      obtain ⟨u, hu, ru⟩ := lookup_zip hn.2 r e
      exact ⟨u, by rw [hu]; rfl, ru⟩
noncomputable def fnEnd (Q : PV → Sto → Prop) : PFlow → PEnv → Sto → Prop := fun f _ σ => match f with
  | .ret v => Q v σ
  | .next => Q .none σ
  | _ => False
noncomputable def fnP (ps : List String) (d : SWP) : FWP := fun args σ Q => args.length = ps.length ∧ d (bindEnv ps args) σ (fnEnd Q)
theorem Step.outer {σ σ' : Sto} {h h₀ h' : Heap} {O : Addr → Prop} (x : Step O σ h₀ σ' h') (k : ∀ b o, h.get? b = some o → h₀.get? b = some o) (f : ∀ b, O b → h.get? b = none) : Step noO σ h σ' h' := by
  refine ⟨fun b o e _ g => x.keep b o e (fun z => by rw [f b z] at g; cases g) (k b o g), fun a e => (x.dom a e).imp id fun z => ?_, fun b e => ?_⟩
  · cases q : h.get? a with
    | none => rfl
    | some o => rw [k a o q] at z; cases z
  · cases q : h.get? b with
    | none => exact absurd q e
    | some o => exact x.live b (by rw [k b o q]; simp)
theorem FnOk.plain {K : Frag} (G : Gd prog w K B) {m : Nat} {f : Addr} {oc : Value} {od : Option Addr} {osl : Array (Option Value)} {fd : FuncData} {body : List Stmt} {ps : List String} {d : SWP} (ho : K.lookup f = some ⟨oc, od, .func fd, osl⟩) (hbody : fd.body = .stmts body) (hcd : codeIn K fd.code fd.qualname = true) (hclo : fd.closure = [])
    (hcell : ∀ x ∈ fd.scope.names, x.2 ≠ .cell) (hps : ps.Nodup) (hloc : ∀ p ∈ ps, fd.scope.names.lookup (Str.ofString p) = some .local) (hbind : ∀ vals : List Value, vals.length = ps.length → bindArgs fd ⟨vals, []⟩ = pure ((ps.map Str.ofString).zip vals))
    (hd : ∀ L, SsOk prog w B m (callEnv fd L f) body d) (hco : fd.scope.isCoroutine = false := by rfl) (hgen : fd.scope.isGenerator = false := by rfl) (hk : fd.scope.kind = .function := by rfl) : FnOk prog w B (m + 1) f (fnP ps d) := by
  rintro A σ s vals args Q R hA ⟨hlen, hQ⟩ r S hR
  have hl : vals.length = ps.length := r.length.trans hlen
  have X : K.In s.heap := G.X.keeps S.base
  refine codeAny_call_def (fd := fd) (body := body) (binds := (ps.map Str.ofString).zip vals) (by have := hA.depth; lia) (X _ _ ho) rfl (G.lim.keeps S.base) (codeRec_of X hcd) hbody (BindsTo.of_eq (hbind vals hl)) hcell (fun x hx => ?_) (fun h₀ hns hk₀ => ?_) hco hgen hk
  · obtain ⟨p, hp, e⟩ := List.mem_map.mp (List.of_mem_zip hx).1
    rw [← e]; exact hloc p hp
  · have n0 := get?_size s.heap
    have S₀ := S.ofKeep hk₀
    have F₀ : FR B h₀ σ (callEnv fd s.heap.objs.size f) (bindEnv ps args) := by
      refine ⟨⟨_, hns, fun x pv hkx hx => ?_⟩, fun x c hc => ?_, ⟨S.fresh n0, ?_⟩, fun p hp => ?_⟩
      · obtain ⟨v, hv, rv⟩ := lookup_zip hps r hx
        exact ⟨v, hv, rv.keep fun a vs k e => hk₀ _ _ e⟩
      · have : fd.closure.lookup (Str.ofString x) = some c := hc
        rw [hclo] at this; cases this
      · show B.get? s.heap.objs.size = none
        cases q : B.get? s.heap.objs.size with
        | none => rfl
        | some o => rw [S.base _ _ q] at n0; cases n0
      · have : p ∈ fd.closure := hp
        rw [hclo] at this; cases this
    have hA' : AOk m (A.deeper (callEnv fd s.heap.objs.size f)) := ⟨by have := hA.depth; show A.depth + 1 + 4 * m + 4 ≤ _; lia, by have := hA.units; show A.units + 3 + 100 * m + 200 ≤ _; lia, hA.hand⟩
    refine Does.go (hd s.heap.objs.size (A.deeper (callEnv fd s.heap.objs.size f)) _ σ _ { s with heap := h₀, toks := s.toks + ((ps.map Str.ofString).zip vals).length } hA' hQ S₀ F₀) (fun fl pb σ₁ h₁ tk₁ S₁ y rr q => ?_)
    obtain ⟨pf, ρ₁⟩ := pb
    obtain ⟨rf, F₁⟩ := rr
    have y' : Step noO σ s.heap σ₁ h₁ := y.outer hk₀ fun b hb => by
      rcases hb with rfl | ⟨p, hp, _⟩
      · exact n0
      · have : p ∈ fd.closure := hp
        rw [hclo] at this; cases this
    cases rf with
    | next => exact hR _ _ ⟨.none, σ₁, h₁, tk₁, rfl, S₁, y', .none, q⟩
    | ret rv => exact hR _ _ ⟨_, σ₁, h₁, tk₁, rfl, S₁, y', rv, q⟩
    | brk => exact q.elim
    | cont => exact q.elim
end
end Mine
namespace Mine
open PySem PySem.W PySem.Calls PyProof.Rows PySem.Spec
section
variable {prog : Program} {w : World} {B : Heap} {n : Nat} {env : Env}
theorem EOk.typ {K : Frag} (G : Gd prog w K B) (X : EnvOk env) {x : String} {pos : Pos} {T : String} (hl : env.kindOf (Str.ofString x) = some .globalImplicit) (e : nsIn K mainGlobals (Str.ofString x) = some none) (hv : bootBuiltins (Str.ofString x) = some (.type T)) (hn : Str.ofString x ≠ "__name__") (hd : (Str.ofString x == ("__debug__" : Str)) = false) : EOk prog w B n env (.Name (Str.ofString x) pos) (dVal (.typ T)) := by
  intro A ρ σ Q s hA hQ S F
  refine Does.mk fun E => ?_
  obtain ⟨mg, hg⟩ := G.g
  obtain ⟨mb, hb, hb'⟩ := G.b
  exact Name_function_global X.kind hl (loadGlobal_builtin (by rw [X.glob]; exact hg.keeps S.base) (mg_none_of G.X hg e) (by rw [X.bui]; exact hb.keeps S.base) ((hb' _ hn).trans hv) (post_here S (.typ T) hQ)) hd
noncomputable def lenP : FWP := fun args σ Q => match args with
  | [.ref a] => match σ a with
    | some (.list l) => (l.length : Int) < 2 ^ 63 ∧ Q (.int l.length) σ
    | _ => False
  | [.tup l] => (l.length : Int) < 2 ^ 63 ∧ Q (.int l.length) σ
  | [.str x] => (x.length : Int) < 2 ^ 63 ∧ Q (.int x.length) σ
  | _ => False
theorem len_ok : BlOk prog w B n (.builtin "len") lenP := by
  intro A σ s vals args Q hA hQ r S
  refine Does.mk fun E => ?_
  cases r with
  | nil => exact hQ.elim
  | cons rv rr =>
    cases rr with
    | cons => cases rv <;> exact hQ.elim
    | nil =>
      cases rv with
      | ref a =>
        obtain ⟨l, hl, hQ⟩ := list_out hQ
        obtain ⟨vs, m, ho, r⟩ := S.objs _ _ hl
        have hlen := r.length
        rw [Array.length_toList] at hlen
        refine Calls.call_len_list ⟨_, ho, rfl, m, rfl⟩ (by rw [hlen]; exact hQ.1) ?_
        rw [hlen]; exact post_tok S (.int _ _) hQ.2
      | tup ho r =>
        have hlen := r.length
        rw [Array.length_toList] at hlen
        refine PyProof.Rows.len_tuple ⟨_, ho, rfl, _, rfl⟩ (by rw [hlen]; exact hQ.1) ?_
        rw [hlen]; exact post_tok S (.int _ _) hQ.2
      | str x t => exact P.len_str (Int.not_le.mpr hQ.1) (post_tok S (.int _ _) hQ.2)
      | _ => exact hQ.elim
noncomputable def isiT (T : String) (σ : Sto) (Q : PV → Sto → Prop) : PV → Prop
  | .int _ => (T = "int" ∧ Q (.bool true) σ) ∨ (T = "bool" ∧ Q (.bool false) σ)
  | .str _ => T = "str" ∧ Q (.bool true) σ
  | .tup _ => T = "tuple" ∧ Q (.bool true) σ
  | _ => False
noncomputable def isiP : FWP := fun args σ Q => ∃ v T, args = [v, .typ T] ∧ isiT T σ Q v
theorem isiP_out {args : List PV} {σ : Sto} {Q : PV → Sto → Prop} (h : isiP args σ Q) : (∃ i, args = [.int i, .typ "int"] ∧ Q (.bool true) σ) ∨ (∃ i, args = [.int i, .typ "bool"] ∧ Q (.bool false) σ) ∨ (∃ x, args = [.str x, .typ "str"] ∧ Q (.bool true) σ) ∨ ∃ l, args = [.tup l, .typ "tuple"] ∧ Q (.bool true) σ := by
  obtain ⟨v, T, rfl, h⟩ := h
  cases v with
  | int i => exact Or.elim h (fun h => .inl ⟨i, by rw [h.1], h.2⟩) fun h => .inr (.inl ⟨i, by rw [h.1], h.2⟩)
  | str x => exact .inr (.inr (.inl ⟨x, by rw [h.1], h.2⟩))
  | tup l => exact .inr (.inr (.inr ⟨l, by rw [h.1], h.2⟩))
  | _ => exact h.elim
theorem isi_ok : BlOk prog w B n (.builtin "isinstance") isiP := by
  intro A σ s vals args Q hA hQ r S
  refine Does.mk fun E => ?_
  rcases isiP_out hQ with ⟨i, rfl, q⟩ | ⟨i, rfl, q⟩ | ⟨x, rfl, q⟩ | ⟨l, rfl, q⟩
  all_goals
    obtain ⟨u, v, rfl, ru, rv⟩ := r.two_inv
    cases rv.typ_inv
  · obtain ⟨t, rfl⟩ := ru.int_inv
    exact IsiPair.int_int (post_here S (.bool _) q)
  · obtain ⟨t, rfl⟩ := ru.int_inv
    exact IsiPair.int_bool (post_tok S (.bool _) q)
  · obtain ⟨t, rfl⟩ := ru.str_inv
    exact IsiPair.str_str (post_here S (.bool _) q)
  · obtain ⟨a, vs, m, rfl, ho, r⟩ := ru.tup_inv
    exact IsiPair.tuple_tuple ho rfl (post_here S (.bool _) q)
noncomputable def tupleP : FWP := fun args σ Q => match args with
  | [.ref a] => match σ a with
    | some (.list l) => l.length ≤ sizeLine ∧ Q (.tup l) σ
    | _ => False
  | _ => False
theorem tuple_ok : BlOk prog w B n (.type "tuple") tupleP := by
  intro A σ s vals args Q hA hQ r S
  refine Does.mk fun E => ?_
  rcases r with _ | ⟨rv, _ | ⟨ru, rr⟩⟩
  · exact hQ.elim
  · cases rv with
    | ref a =>
      obtain ⟨l, hl, hQ⟩ := list_out hQ
      obtain ⟨vs, m, ho, r⟩ := S.objs _ _ hl
      have hlen := r.length
      rw [Array.length_toList] at hlen
      refine call_tuple_list ⟨_, ho, rfl, m, rfl⟩ (fun h' k => ?_) (by rw [hlen]; exact hQ.1)
      have kk : ∀ b o, s.heap.get? b = some o → (h'.push (tupObj vs 0)).get? b = some o := fun b o e => Heap.get?_push_of_some _ (k b o e)
      exact post_keep (tk := s.toks) S kk (.tup (Heap.get?_push_size _ rfl) (r.keep fun a us j e => kk _ _ e)) hQ.2
    | _ => exact hQ.elim
  · cases rv <;> exact hQ.elim
theorem St.putAt {σ : Sto} {h h' : Heap} (S : St prog w B h σ) (k : ∀ b o, h.get? b = some o → h'.get? b = some o) (ao : AObj) (r : ORel prog w B h' h.objs.size ao) : St prog w B h' (σ.set h.objs.size ao) ∧ ∀ O, Step O σ h (σ.set h.objs.size ao) h' := by
  have S' := S.ofKeep k
  have n0 := get?_size h
  refine ⟨⟨S'.base, fun a e => ?_, S.main, fun a x e => ?_⟩, fun O => ⟨fun b o _ _ e => k b o e, fun a e => ?_, fun b e => ?_⟩⟩
  · by_cases q : a = h.objs.size
    · subst q
      refine ⟨?_, ?_⟩
      · cases q : B.get? h.objs.size with
        | none => rfl
        | some ob => exact absurd (Heap.lt_size (S.base _ _ q)) (Nat.lt_irrefl _)
      · obtain ⟨om, hm⟩ := S.main
        have h3 : 3 < h.objs.size := Heap.lt_size (S.base _ _ hm)
        exact beq_eq_false_iff_ne.mpr (Nat.ne_of_gt (Nat.lt_trans (by decide) h3))
    · rw [Sto.set_ne σ ao q] at e; exact S.off a e
  · by_cases q : a = h.objs.size
    · subst q; rw [Sto.set_same] at e; cases e; exact r
    · rw [Sto.set_ne σ ao q] at e; exact S'.objs a x e
  · by_cases q : a = h.objs.size
    · right; rw [q]; exact n0
    · rw [Sto.set_ne σ ao q] at e; exact .inl e
  · cases q : h.get? b with
    | none => exact absurd q e
    | some o => rw [k b o q]; simp
noncomputable def listP : FWP := fun args σ Q => match args with
  | [.ref a] => match σ a with
    | some (.list l) => newList l σ Q
    | _ => False
  | _ => False
theorem list_ok : BlOk prog w B n (.type "list") listP := by
  intro A σ s vals args Q hA hQ r S
  refine Does.mk fun E => ?_
  rcases r with _ | ⟨rv, _ | ⟨ru, rr⟩⟩
  · exact hQ.elim
  · cases rv with
    | ref a =>
      obtain ⟨l, hl, hQ⟩ := list_out hQ
      obtain ⟨vs, m, ho, r⟩ := S.objs _ _ hl
      have hlen := r.length
      rw [Array.length_toList] at hlen
      refine call_list_seq a (.inl rfl) ho rfl rfl (fun h' c k hc => ?_) (by rw [hlen]; exact hQ.1)
      obtain ⟨S', x'⟩ := S.putAt k (.list l) ⟨vs, c, hc, r.keep fun a us j e => k _ _ e⟩
      exact ⟨.ref s.heap.objs.size, _, h', s.toks, rfl, S', x' _, .ref _, hQ.2 _ (S.fresh (get?_size _))⟩
    | _ => exact hQ.elim
  · cases rv <;> exact hQ.elim
noncomputable def maxP : FWP := fun args σ Q => match args with
  | [.int a, .int b] => Q (.int (if b > a then b else a)) σ
  | _ => False
theorem maxP_out {args : List PV} {σ : Sto} {Q : PV → Sto → Prop} (h : maxP args σ Q) : ∃ a b, args = [.int a, .int b] ∧ Q (.int (if b > a then b else a)) σ := by
  rcases args with _ | ⟨a, _ | ⟨b, _ | ⟨c, r⟩⟩⟩
  · exact h.elim
  · cases a <;> exact h.elim
  · cases a <;> first | exact h.elim | (cases b <;> first | exact h.elim | exact ⟨_, _, rfl, h⟩)
  · cases a <;> first | exact h.elim | (cases b <;> exact h.elim)
theorem max_ok : BlOk prog w B n (.builtin "max") maxP := by
  intro A σ s vals args Q hA hQ r S
  refine Does.mk fun E => ?_
  obtain ⟨a, b, rfl, hQ⟩ := maxP_out hQ
  obtain ⟨u, v, rfl, ru, rv⟩ := r.two_inv
  obtain ⟨t, rfl⟩ := ru.int_inv
  obtain ⟨t', rfl⟩ := rv.int_inv
  refine max_two_ints hA.hand fun h' tk k => ?_
  refine post_keep S k ?_ hQ
  by_cases h : b > a
  · rw [if_pos h, if_pos h]; exact .int _ _
  · rw [if_neg h, if_neg h]; exact .int _ _
noncomputable def isListP : PV → Sto → Prop := fun o σ => match o with
  | .ref a => ∃ l, σ a = some (.list l)
  | _ => False
noncomputable def appP : PV → PV → Sto → (PV → Sto → Prop) → Prop := fun o v σ Q => match o with
  | .ref a => match σ a with
    | some (.list l) => l.length ≤ sizeLine ∧ Q .none (σ.set a (.list (l ++ [v])))
    | _ => False
  | _ => False
theorem isListP_out {o : PV} {σ : Sto} (h : isListP o σ) : ∃ a l, o = .ref a ∧ σ a = some (.list l) := by
  cases o <;> first | exact h.elim | (obtain ⟨l, z⟩ := h; exact ⟨_, l, rfl, z⟩)
noncomputable def dAppend (d e : EWP) : EWP := fun ρ σ Q => d ρ σ fun o σ => isListP o σ ∧ e ρ σ fun v σ => appP o v σ Q
noncomputable abbrev MethForm (env : Env) (o : Expr) (x : Str) (apos pos : Pos) (args : List Expr) (pl : Sem Bool) : Prop := eval (.Call (.Attribute o x apos) args [] pos) env = (do
      let ov ← eval o env
      standAt apos.atName
      let (f, first) ← holding [ov] (getMethod ov x pl)
      callWith pos f first (backTo pos (starEach args env)) [])
theorem lst_method {s : Shared} {a : Addr} {vs : Array Value} {m : Nat} {name : Str} {id : String} {pl : Sem Bool} {M : Model} {A : Around} {E : Value → Shared → Prop} {Q : Value × List Value → Shared → Prop} (ho : s.heap.get? a = some (lstObj vs m)) (slot : Slot "list" name id) (hty : typeOf (.builtin id) = pure (.type "method_descriptor")) (h : Q (.builtin id, [.ref a]) s) :
    wpAny M A (getMethod (.ref a) name pl) Q E s := getMethod_builtin ⟨_, ho, rfl⟩ F.plainAttrs_list slot hty (fun b e => by cases e; exact ⟨_, ho, rfl⟩) h
theorem EOk.append {o e : Expr} {apos pos : Pos} {d de : EWP} {pl : Sem Bool} (h : EOk prog w B n env o d) (h2 : EOk prog w B n env e de) (hs : backTo pos (starEach [e] env) = [(false, eval e env)]) (he : MethForm env o (Str.ofString "append") apos pos [e] pl) : EOk prog w B n env (.Call (.Attribute o (Str.ofString "append") apos) [e] [] pos) (dAppend d de) := by
  intro A ρ σ Q s hA hQ S FR
  refine Does.mk fun E => ?_
  refine MethodCall_ (pl := pl) (Does.go (h A ρ σ _ s hA hQ S FR) (fun ov po σ₁ h₁ tk₁ S₁ y r qq => ?_)) he
  obtain ⟨hl, q⟩ := qq
  obtain ⟨a, rfl⟩ : ∃ a, po = .ref a := by cases po <;> first | exact ⟨_, rfl⟩ | exact hl.elim
  · cases r.ref_inv
    obtain ⟨l₀, hl₀⟩ := hl
    obtain ⟨vs₀, m₀, ho₀, r₀⟩ := S₁.objs _ _ hl₀
    refine lst_method ho₀ F.slot_list_append F.type_list_append ?_
    rw [hs]
    refine P.append_list (Does.go (h2 A ρ σ₁ _ { s with heap := h₁, toks := tk₁ } hA q S₁ (FR.step y S)) (fun v pv σ₂ h₂ tk₂ S₂ y₂ r₂ q₂ => ?_))
    obtain ⟨l, hl, q₂⟩ := list_out q₂
    obtain ⟨vs, m, ho, r⟩ := S₂.objs _ _ hl
    have hlen := r.length
    rw [Array.length_toList] at hlen
    obtain ⟨S', x'⟩ := seq_upd (s := { s with heap := h₂, toks := tk₂ }) (l' := l ++ [pv]) S₂ hl ho (fun xs => xs.push v) (by rw [Array.toList_push]; exact r.append (.cons r₂ .nil))
    exact ⟨vs, m, by rw [hlen]; exact q₂.1, ho, ⟨.none, _, _, _, rfl, S', (y.trans y₂).trans (x' _), .none, q₂.2⟩⟩
noncomputable def popP : PV → Sto → (PV → Sto → Prop) → Prop := fun o σ Q => match o with
  | .ref a => match σ a with
    | some (.list l) => l.length ≤ sizeLine ∧ ∃ v, l[l.length - 1]? = some v ∧ Q v (σ.set a (.list l.dropLast))
    | _ => False
  | _ => False
noncomputable def dPop (d : EWP) : EWP := fun ρ σ Q => d ρ σ fun o σ => popP o σ Q
theorem VRs.dropLast {h : Heap} {vs : List Value} {ps : List PV} (r : VRs B h vs ps) : VRs B h vs.dropLast ps.dropLast := by
  rw [List.dropLast_eq_take, List.dropLast_eq_take, r.length]; exact r.take _
theorem erase_last (vs : Array Value) : (vs.eraseIdxIfInBounds (vs.size - 1)).toList = vs.toList.dropLast := by
  obtain ⟨l⟩ := vs
  simp only [List.eraseIdxIfInBounds_toArray, List.size_toArray]
  rcases l with _ | ⟨x, t⟩
  · rfl
  · rw [List.eraseIdx_eq_dropLast]
    simp
theorem EOk.pop {o : Expr} {apos pos : Pos} {d : EWP} {pl : Sem Bool} (h : EOk prog w B n env o d) (he : MethForm env o (Str.ofString "pop") apos pos [] pl) : EOk prog w B n env (.Call (.Attribute o (Str.ofString "pop") apos) [] [] pos) (dPop d) := by
  intro A ρ σ Q s hA hQ S FR
  refine Does.mk fun E => ?_
  refine MethodCall_ (pl := pl) (Does.go (h A ρ σ _ s hA hQ S FR) (fun ov po σ₁ h₁ tk₁ S₁ y r q => ?_)) he
  obtain ⟨a, rfl⟩ : ∃ a, po = .ref a := by cases po <;> first | exact ⟨_, rfl⟩ | exact q.elim
  · cases r.ref_inv
    obtain ⟨l, hl, q⟩ := list_out q
    obtain ⟨hz, v, hv, q⟩ := q
    obtain ⟨vs, m, ho, r⟩ := S₁.objs _ _ hl
    have hlen := r.length
    rw [Array.length_toList] at hlen
    obtain ⟨u, hu, ru⟩ := r.get hv
    refine lst_method ho F.slot_list_pop F.type_list_pop ?_
    refine P.pop_list (y := u) ho (by rw [← Array.getElem?_toList, hlen]; exact hu) ?_ (by rw [hlen]; exact hz)
    obtain ⟨S', x'⟩ := seq_upd (s := { s with heap := h₁, toks := tk₁ }) (l' := l.dropLast) S₁ hl ho (fun xs => xs.eraseIdxIfInBounds (vs.size - 1)) (by rw [erase_last]; exact r.dropLast)
    refine ⟨v, _, _, _, rfl, S', y.trans (x' _), ?_, q⟩
    exact ru.stp (x' _) S₁
noncomputable def revP : PV → Sto → (PV → Sto → Prop) → Prop := fun o σ Q => match o with
  | .ref a => match σ a with
    | some (.list l) => l.length ≤ sizeLine ∧ Q .none (σ.set a (.list l.reverse))
    | _ => False
  | _ => False
noncomputable def dRev (d : EWP) : EWP := fun ρ σ Q => d ρ σ fun o σ => revP o σ Q
theorem EOk.reverse {o : Expr} {apos pos : Pos} {d : EWP} {pl : Sem Bool} (h : EOk prog w B n env o d) (he : MethForm env o (Str.ofString "reverse") apos pos [] pl) : EOk prog w B n env (.Call (.Attribute o (Str.ofString "reverse") apos) [] [] pos) (dRev d) := by
  intro A ρ σ Q s hA hQ S FR
  refine Does.mk fun E => ?_
  refine MethodCall_ (pl := pl) (Does.go (h A ρ σ _ s hA hQ S FR) (fun ov po σ₁ h₁ tk₁ S₁ y r q => ?_)) he
  obtain ⟨a, rfl⟩ : ∃ a, po = .ref a := by cases po <;> first | exact ⟨_, rfl⟩ | exact q.elim
  · cases r.ref_inv
    obtain ⟨l, hl, q⟩ := list_out q
    obtain ⟨vs, m, ho, r⟩ := S₁.objs _ _ hl
    have hlen := r.length
    rw [Array.length_toList] at hlen
    refine lst_method ho F.slot_list_reverse F.type_list_reverse ?_
    refine P.reverse_list ho ?_ (by rw [hlen]; exact q.1)
    obtain ⟨S', x'⟩ := seq_upd (s := { s with heap := h₁, toks := tk₁ }) (l' := l.reverse) S₁ hl ho (fun xs => xs.reverse) (by rw [Array.toList_reverse]; exact r.reverse)
    exact ⟨.none, _, _, _, rfl, S', y.trans (x' _), .none, q.2⟩
noncomputable def swP : PV → PV → Sto → (PV → Sto → Prop) → Prop
  | .str x, .str y, σ, Q => Q (.bool (Txt.startswith x y)) σ
  | _, _, _, _ => False
noncomputable def isStrP : PV → Prop
  | .str _ => True
  | _ => False
noncomputable def dStarts (d e : EWP) : EWP := fun ρ σ Q => d ρ σ fun o σ => isStrP o ∧ e ρ σ fun v σ => swP o v σ Q
theorem EOk.starts {o e : Expr} {apos pos : Pos} {d de : EWP} {pl : Sem Bool} (h : EOk prog w B n env o d) (h2 : EOk prog w B n env e de) (hs : backTo pos (starEach [e] env) = [(false, eval e env)]) (he : MethForm env o (Str.ofString "startswith") apos pos [e] pl) : EOk prog w B n env (.Call (.Attribute o (Str.ofString "startswith") apos) [e] [] pos) (dStarts d de) := by
  intro A ρ σ Q s hA hQ S FR
  refine Does.mk fun E => ?_
  refine MethodCall_ (pl := pl) (Does.go (h A ρ σ _ s hA hQ S FR) (fun ov po σ₁ h₁ tk₁ S₁ y r qq => ?_)) he
  obtain ⟨hp, q⟩ := qq
  obtain ⟨x, rfl⟩ : ∃ x, po = .str x := by cases po <;> first | exact ⟨_, rfl⟩ | exact hp.elim
  · obtain ⟨t, rfl⟩ := r.str_inv
    refine GM.startswith ?_
    rw [hs]
    refine Calls.callWith_builtin rfl (Calls.evalArgs_plain (Calls.spliced_cons (Does.go (h2 A ρ σ₁ _ { s with heap := h₁, toks := tk₁ } hA q S₁ (FR.step y S)) (fun v pv σ₂ h₂ tk₂ S₂ y₂ r₂ q₂ => Calls.spliced_nil ?_))))
    cases r₂ with
    | str z u => exact SC.startswith (((post_here (s := { s with heap := h₂, toks := tk₂ }) S₂ (.bool _) q₂ : Post prog w B (relV B) noO σ₂ _ Q _ _).trans (tk₁ := tk₂) y₂).trans (tk₁ := tk₁) y)
    | _ => exact q₂.elim
end
end Mine
namespace Mine
open PySem PySem.W PySem.Calls PyProof.Rows PySem.Spec
section
variable {prog : Program} {w : World} {B : Heap} {n : Nat} {env : Env}
noncomputable def dSetAttr (C : Addr) (x : String) (o d : EWP) : SWP := fun ρ σ Q => d ρ σ fun v σ => o ρ σ fun ov σ => setAttrP C x ov v σ fun σ => Q .next ρ σ
theorem SOk.setAttr {K : Frag} (G : Gd prog w K B) {C : Addr} {x : String} {o e : Expr} {px pos : Pos} {d₁ d : EWP} (h1 : EOk prog w B n env o d₁) (h : EOk prog w B n env e d) (ok : setAttrOk K C (Str.ofString x) = true) (hs : swapsWith e (some (.Attribute o (Str.ofString x) px)) pos.line env = pure false := by rfl) :
    SOk prog w B n env (.Assign [.Attribute o (Str.ofString x) px] e pos) (dSetAttr C x d₁ d) := by
  intro A ρ σ Q s hA hQ S F
  refine Does.mk fun E => ?_
  refine plainObj_wpAny_Assign_Attribute (Does.go (h A ρ σ _ s hA hQ S F) (fun v pv σ₁ h₁ tk₁ S₁ y₁ r₁ q₁ => ?_)) hs
  have F₁ := F.step y₁ S
  refine Does.go (h1 A ρ σ₁ _ _ hA q₁ S₁ F₁) (fun ov po σ₂ h₂ tk₂ S₂ y₂ r₂ q₂ => ?_)
  have F₂ := F₁.step y₂ S₁
  refine attr_set (s := { s with heap := h₂, toks := tk₂ }) G ok S₂ r₂ (r₁.stp y₂ S₁) q₂ fun σ' h' tk S' x' q' => ?_
  exact ⟨(.next, ρ), σ', h', tk, rfl, S', ((y₁.trans (y₂.trans (x' noO))).mono fun _ z => z.elim), ⟨.next, F₂.step (x' noO) S₂⟩, q'⟩
noncomputable def rngL : List PV → (Int → Int → Prop) → Prop := fun l Q => match l with
  | [.int hi] => -(2 ^ 62) ≤ hi ∧ hi < 2 ^ 62 ∧ Q 0 hi
  | [.int lo, .int hi] => -(2 ^ 62) ≤ lo ∧ lo < 2 ^ 62 ∧ -(2 ^ 62) ≤ hi ∧ hi < 2 ^ 62 ∧ Q lo hi
  | _ => False
noncomputable def dForR (x : String) (ds : EsWP) (b : SWP) : SWP := fun ρ σ Q => ds ρ σ fun vs σ => rngL vs fun lo hi => forL x b (rangeL lo hi) ρ σ Q
inductive RangeAt (prog : Program) (w : World) (B : Heap) (σ : Sto) (s : Shared) (P : Int → Int → Sto → Prop) (v : Value) (s' : Shared) : Prop
  | mk (r : Addr) (lo hi : Int) (t u z : Tok) (σ' : Sto) (h' : Heap) (tk' : Nat) (e : v = .ref r) (e₂ : s' = { s with heap := h', toks := tk' }) (S : St prog w B h' σ') (x : Step noO σ s.heap σ' h') (hr : IsRange h' r lo hi 1 t u z) (b1 : -(2 ^ 62) ≤ lo) (b2 : lo < 2 ^ 62) (b3 : -(2 ^ 62) ≤ hi) (b4 : hi < 2 ^ 62) (q : P lo hi σ')
theorem rngL_out {vs : List PV} {P : Int → Int → Prop} (h : rngL vs P) : (∃ hi, vs = [.int hi] ∧ rngL [.int hi] P) ∨ ∃ lo hi, vs = [.int lo, .int hi] ∧ rngL [.int lo, .int hi] P := by
  rcases vs with _ | ⟨a, _ | ⟨b, _ | ⟨c, r⟩⟩⟩
  · exact h.elim
  · cases a <;> first | exact h.elim | exact .inl ⟨_, rfl, h⟩
  · cases a <;> first | exact h.elim | (cases b <;> first | exact h.elim | exact .inr ⟨_, _, rfl, h⟩)
  · cases a <;> first | exact h.elim | (cases b <;> exact h.elim)
theorem range_call {K : Frag} (G : Gd prog w K B) (X : EnvOk env) {x : String} {p pos : Pos} {args : List Expr} {ds : EsWP} (hx : x = "range") (hl : env.kindOf (Str.ofString x) = some .globalImplicit) (e : nsIn K mainGlobals (Str.ofString x) = some none)
    (h : EsOk prog w B n env args ds) (ha : ArgsOk env pos args) {A : Around} {ρ : PEnv} {σ : Sto} {s : Shared} {P : Int → Int → Sto → Prop} (hA : AOk n A) (hQ : ds ρ σ fun vs σ => rngL vs fun lo hi => P lo hi σ) (S : St prog w B s.heap σ) (FR : FR B s.heap σ env ρ) (E : Value → Shared → Prop)
    (he : eval (.Call (.Name (Str.ofString x) p) args [] pos) env = (do callWith pos (← eval (.Name (Str.ofString x) p) env) [] (backTo pos (starEach args env)) (backToKw pos (keywordEach [] env)))) :
    wpAny (model prog w) A (eval (.Call (.Name (Str.ofString x) p) args [] pos) env) (RangeAt prog w B σ s P) E s := by
  obtain ⟨mg, hg⟩ := G.g
  obtain ⟨mb, hb, hb'⟩ := G.b
  subst hx
  refine Call_ (Name_function_global X.kind hl (loadGlobal_builtin (by rw [X.glob]; exact hg.keeps S.base) (mg_none_of G.X hg e) (by rw [X.bui]; exact hb.keeps S.base) ((hb' _ (by decide)).trans boot_range) ?_) (by decide)) he
  refine with_args h hA hQ S FR (fun h kb => ⟨.machine, .inr (.inl rfl), Looks.of_pure (by rfl)⟩) ha fun vals pvs σ₁ h₁ tk₁ S₁ y r q => ?_
  rcases rngL_out q with ⟨i, rfl, q⟩ | ⟨i, j, rfl, q⟩
  · obtain ⟨v, ws, rfl, r1, rr⟩ := r.cons_inv
    cases rr.nil_inv
    obtain ⟨t, rfl⟩ := r1.int_inv
    refine call_range_1 ?_
    exact ⟨_, 0, i, _, _, _, σ₁, _, _, rfl, rfl, S₁.ofKeep (keepPush _), y.trans (.ofKeep (keepPush _)), IsRange.new .., by decide, by decide, q.1, q.2.1, q.2.2⟩
  · obtain ⟨u, v, rfl, r1, r2⟩ := r.two_inv
    obtain ⟨t, rfl⟩ := r1.int_inv
    obtain ⟨t', rfl⟩ := r2.int_inv
    refine call_range_2 ?_
    exact ⟨_, i, j, _, _, _, σ₁, _, _, rfl, rfl, S₁.ofKeep (keepPush _), y.trans (.ofKeep (keepPush _)), IsRange.new .., q.1, q.2.1, q.2.2.1, q.2.2.2.1, q.2.2.2.2⟩
theorem SOk.forR {K : Frag} (G : Gd prog w K B) (X : EnvOk env) {x f : String} {px p pos cpos : Pos} {args : List Expr} {body : List Stmt} {ds : EsWP} {b : SWP} (hf : f = "range") (hl : env.kindOf (Str.ofString f) = some .globalImplicit) (e : nsIn K mainGlobals (Str.ofString f) = some none)
    (h : EsOk prog w B n env args ds) (ha : ArgsOk env cpos args) (hb : SsOk prog w B n env body b) (hx : StoreOk env x)
    (he : eval (.Call (.Name (Str.ofString f) p) args [] cpos) env = (do callWith cpos (← eval (.Name (Str.ofString f) p) env) [] (backTo cpos (starEach args env)) (backToKw cpos (keywordEach [] env))) := by rfl)
    (hs : ∀ v, foldedSetIterable (.Call (.Name (Str.ofString f) p) args [] cpos) env v = pure v := by intro _; rfl) :
    SOk prog w B n env (.For (.Name (Str.ofString x) px) (.Call (.Name (Str.ofString f) p) args [] cpos) body [] pos) (dForR x ds b) := by
  intro A ρ σ Q s hA hQ S F
  refine Does.mk fun E => ?_
  refine wpAny_For (wpAny_mono (range_call G X hf hl e h ha hA hQ S F E he) (fun it s₁ q => ?_) fun _ _ e => e) hs
  obtain ⟨r, lo, hi, t, u, z, σ₁, h₁, tk₁, rfl, rfl, S₁, y, hr, b1, b2, b3, b4, q⟩ := q
  have F₁ := F.step y S
  have fin : ∀ f s', PostS prog w B env σ₁ { s with heap := h₁, toks := tk₁ } Q f s' → PostS prog w B env σ s Q f s' := fun f s' p => Post.own (tk₁ := tk₁) y p
  exact for_rng (s := { s with heap := h₁, toks := tk₁ }) (R := fun r s' => match r with | .ok f => PostS prog w B env σ s Q f s' | .error e => cameBackBy (model prog w) A env E e s') hA hb hx X.kind S₁ F₁ hr b1 b2 b3 b4 q fin
noncomputable def strOf : PV → Option Str
  | .str x => some x
  | _ => none
noncomputable def idxP : PV → PV → Sto → (PV → Sto → Prop) → Prop := fun o v σ Q => match o with
  | .ref a => match v with
    | .str x => ∃ l : List Str, σ a = some (.list (l.map PV.str)) ∧ (l.length : Int) < 2 ^ 62 ∧ x ∈ l ∧ Q (.int (l.idxOf x : Nat)) σ
    | _ => False
  | _ => False
noncomputable def dIdx (d e : EWP) : EWP := fun ρ σ Q => d ρ σ fun o σ => isListP o σ ∧ e ρ σ fun v σ => idxP o v σ Q
theorem VRs.strs {h : Heap} {vs : List Value} {l : List Str} (r : VRs B h vs (l.map PV.str)) {j : Nat} {v : Value} (e : vs[j]? = some v) : ∃ y t, l[j]? = some y ∧ v = .str y t := by
  obtain ⟨p, hp, rv⟩ := r.get' e
  rw [List.getElem?_map] at hp
  obtain ⟨y, hy, rfl⟩ := Option.map_eq_some_iff.mp hp
  obtain ⟨t, rfl⟩ := rv.str_inv
  exact ⟨y, t, hy, rfl⟩
theorem idxP_out {a : Addr} {v : PV} {σ : Sto} {Q : PV → Sto → Prop} (h : idxP (.ref a) v σ Q) : ∃ (x : Str) (l : List Str), v = .str x ∧ σ a = some (.list (l.map PV.str)) ∧ (l.length : Int) < 2 ^ 62 ∧ x ∈ l ∧ Q (.int (l.idxOf x : Nat)) σ := by
  cases v <;> first | exact h.elim | (obtain ⟨l, z⟩ := h; exact ⟨_, l, rfl, z⟩)
theorem EOk.index {o e : Expr} {apos pos : Pos} {d de : EWP} {pl : Sem Bool} (h : EOk prog w B n env o d) (h2 : EOk prog w B n env e de) (hs : backTo pos (starEach [e] env) = [(false, eval e env)]) (he : MethForm env o (Str.ofString "index") apos pos [e] pl) : EOk prog w B n env (.Call (.Attribute o (Str.ofString "index") apos) [e] [] pos) (dIdx d de) := by
  intro A ρ σ Q s hA hQ S FR
  refine Does.mk fun E => ?_
  refine MethodCall_ (pl := pl) (Does.go (h A ρ σ _ s hA hQ S FR) (fun ov po σ₁ h₁ tk₁ S₁ y r qq => ?_)) he
  obtain ⟨hl, q⟩ := qq
  obtain ⟨a, l₀, rfl, hl₀⟩ := isListP_out hl
  · cases r.ref_inv
    obtain ⟨vs₀, m₀, ho₀, r₀⟩ := S₁.objs _ _ hl₀
    refine lst_method ho₀ F.slot_list_index F.type_list_index ?_
    rw [hs]
    refine P.index_list (Does.go (h2 A ρ σ₁ _ { s with heap := h₁, toks := tk₁ } hA q S₁ (FR.step y S)) (fun v pv σ₂ h₂ tk₂ S₂ y₂ r₂ q₂ => ?_))
    obtain ⟨x, l, rfl, hl, hb, hx, q⟩ := idxP_out q₂
    · obtain ⟨u, rfl⟩ := r₂.str_inv
      obtain ⟨vs, m, ho, r⟩ := S₂.objs _ _ hl
      have hlen : vs.size = l.length := by have := r.length; simpa using this
      have hj : l.idxOf x < l.length := List.idxOf_lt_length_iff.mpr hx
      refine ⟨vs, m, isStrOf x, l.idxOf x, by lia, ho, fun y hy => ?_, by lia, ?_, fun k hk hlt => ?_, ?_⟩
      · obtain ⟨j, hj', rfl⟩ := Array.getElem_of_mem hy
        obtain ⟨z, t, hz, e⟩ := VRs.strs r (j := j) (v := vs[j]) (by simp [hj'])
        rw [e]
        exact eqGives_str z x t u
      · obtain ⟨z, t, hz, e⟩ := VRs.strs r (j := l.idxOf x) (v := vs[l.idxOf x]) (by simp [hlen, hj])
        rw [e]
        rw [List.getElem?_eq_getElem hj] at hz
        have := List.getElem_idxOf hj
        simp only [Option.some.injEq] at hz
        show (z == x) = true
        rw [← hz, this]; simp
      · obtain ⟨z, t, hz, e⟩ := VRs.strs r (j := k) (v := vs[k]) (by simp [hk])
        rw [e]
        show (z == x) = false
        rw [beq_eq_false_iff_ne]
        rintro rfl
        rw [hlen] at hk
        rw [List.getElem?_eq_getElem hk] at hz
        simp only [Option.some.injEq] at hz
        exact absurd hz (by simpa using List.not_of_lt_findIdx (p := (· == z)) (xs := l) hlt)
      · exact ⟨.int _, σ₂, h₂, _, rfl, S₂, y.trans y₂, .int _ _, q⟩
noncomputable def isDictP : PV → Sto → Prop := fun o σ => match o with
  | .ref a => ∃ kvs, σ a = some (.dict kvs)
  | _ => False
noncomputable def getDP : List PV → Sto → (PV → Sto → Prop) → Prop := fun l σ Q => match l with
  | [.ref a, k, v] => ∃ kvs, σ a = some (.dict kvs) ∧ ∃ x, toDK k = some x ∧ kindOk kvs x ∧ Q ((dget kvs x).getD v) σ
  | _ => False
noncomputable def dGet (d : EWP) (ds : EsWP) : EWP := fun ρ σ Q => d ρ σ fun o σ => isDictP o σ ∧ ds ρ σ fun vs σ => getDP (o :: vs) σ Q
theorem DRel.exact {h : Heap} {a : Addr} {kvs : List (DK × PV)} (x : DRel prog w B h a kvs) : ∃ o, h.get? a = some o ∧ o.ExactDict := by
  rcases x with ⟨xs, e, ⟨o, es, ep, h1, h2, h3, h4, h5, h6⟩, _⟩ | ⟨xs, e, ⟨o, es, ep, h1, h2, h3, h4, h5⟩, _⟩ | ⟨xs, e, ⟨o, es, ep, h1, h2, h3, h4, h5, h6⟩, _⟩
  · exact ⟨o, h1, h2⟩
  · exact ⟨o, h1, h2⟩
  · exact ⟨o, h1, h2⟩
theorem get_dict {σ : Sto} {s : Shared} {A : Around} {E : Value → Shared → Prop} {a : Addr} {kvs : List (DK × PV)} {x v : Value} {p pv : PV} {k : DK} {Q : Value → Shared → Prop} (hA : A.units + 64 < cLine) (S : St prog w B s.heap σ) (ha : σ a = some (.dict kvs)) (rx : VR B s.heap x p) (rv : VR B s.heap v pv)
    (ek : toDK p = some k) (hk : kindOk kvs k) (h : ∀ v tk, VR B s.heap v ((dget kvs k).getD pv) → Q v { s with toks := tk }) : wpAny (model prog w) A (call (.builtin "dict.get") [.ref a, x, v]) Q E s := by
  have D : DRel prog w B s.heap a kvs := S.objs _ _ ha
  have lo := (S.off a (by rw [ha]; simp)).2
  cases k with
  | int i =>
    obtain ⟨t, rfl⟩ := key_int rx ek
    obtain ⟨xs, rfl, hd, hv⟩ := D.int hk
    rw [dget_map DK.int (fun _ _ e => DK.int.inj e) xs (fun y => y.2)] at h
    refine call_meetsIn F.slot_dict_get hd.mapOf.typeIs F.entry_dict_get (F.args_dict_get_3 _ _ _) (meets_dict_get_default _ _ (intKind_is prog w i t) lo _) ⟨_, hd.mapOf, ?_⟩
    rw [valueAt_map xs (fun y => y.1)]
    cases q : xs.find? (fun x => decide (x.1 = i)) with
    | none => rw [q] at h; exact h _ _ rv
    | some y => rw [q] at h; exact h _ _ (hv y (List.mem_of_find?_eq_some q))
  | str z =>
    obtain ⟨t, rfl⟩ := key_str rx ek
    obtain ⟨xs, rfl, hd, hv⟩ := D.str hk
    rw [dget_map DK.str (fun _ _ e => DK.str.inj e) xs (fun y => y.2)] at h
    refine call_meetsIn F.slot_dict_get hd.mapOf.typeIs F.entry_dict_get (F.args_dict_get_3 _ _ _) (meets_dict_get_default _ _ (strKind_is prog w z t) lo _) ⟨_, hd.mapOf, ?_⟩
    rw [valueAt_map xs (fun y => y.1)]
    cases q : xs.find? (fun x => decide (x.1 = z)) with
    | none => rw [q] at h; exact h _ _ rv
    | some y => rw [q] at h; exact h _ _ (hv y (List.mem_of_find?_eq_some q))
  | tup ns =>
    obtain ⟨b, rfl, hb⟩ := key_tup (prog := prog) (w := w) rx ek
    obtain ⟨xs, rfl, hd, hv⟩ := D.tup hk
    rw [dget_map DK.tup (fun _ _ e => DK.tup.inj e) xs (fun y => y.2.2)] at h
    refine call_meetsIn F.slot_dict_get hd.typeIs F.entry_dict_get (F.args_dict_get_3 _ _ _) (meetsH_dict_get_default (tupleKind (intKind prog w)) a b lo v) ⟨(show A.units + 1 < cLine by lia), ns, _, hb, hd, ?_⟩
    rw [atKey_map xs (fun y => (y.1, y.2.1))]
    cases q : xs.find? (fun x => decide (x.1 = ns)) with
    | none => rw [q] at h; exact h _ _ rv
    | some y => rw [q] at h; exact h _ _ (hv y (List.mem_of_find?_eq_some q))
theorem EOk.get {o : Expr} {apos pos : Pos} {args : List Expr} {d : EWP} {ds : EsWP} {pl : Sem Bool} (h : EOk prog w B n env o d) (hs : EsOk prog w B n env args ds) (ha : ArgsOk env pos args) (he : MethForm env o (Str.ofString "get") apos pos args pl) : EOk prog w B n env (.Call (.Attribute o (Str.ofString "get") apos) args [] pos) (dGet d ds) := by
  intro A ρ σ Q s hA hQ S FR
  refine Does.mk fun E => ?_
  refine MethodCall_ (pl := pl) (Does.go (h A ρ σ _ s hA hQ S FR) (fun ov po σ₁ h₁ tk₁ S₁ y r qq => ?_)) he
  obtain ⟨hl, q⟩ := qq
  obtain ⟨a, rfl⟩ : ∃ a, po = .ref a := by cases po <;> first | exact ⟨_, rfl⟩ | exact hl.elim
  · cases r.ref_inv
    obtain ⟨kvs₀, hl₀⟩ := hl
    obtain ⟨o₀, ho₀, c1, c2, c3⟩ := DRel.exact (prog := prog) (w := w) (S₁.objs _ _ hl₀)
    refine getMethod_builtin ⟨_, ho₀, c1⟩ F.plainAttrs_dict F.slot_dict_get F.type_dict_get (fun b e => by cases e; exact ⟨_, ho₀, c2⟩) ?_
    refine with_args (s := { s with heap := h₁, toks := tk₁ }) hs hA q S₁ (FR.step y S) (fun h kb => ⟨.machine, .inr (.inl rfl), Looks.of_pure (by rfl)⟩) ha fun vals pvs σ₂ h₂ tk₂ S₂ x₂ r₂ q₂ => ?_
    cases r₂ with
    | nil => exact q₂.elim
    | cons r1 rr =>
      cases rr with
      | nil => exact q₂.elim
      | cons r2 rr =>
        cases rr with
        | cons r3 rr => exact q₂.elim
        | nil =>
          obtain ⟨kvs, ha, x, ek, hk, q⟩ := q₂
          exact get_dict (s := { s with heap := h₂, toks := tk₂ }) hA.unit S₂ ha r1 r2 ek hk fun v tk rv => ⟨_, σ₂, h₂, tk, rfl, S₂, y.trans x₂, rv, q⟩
end
end Mine
namespace Mine
open PySem PySem.W PySem.Calls PyProof.Rows PySem.Spec
noncomputable def hide (ρ : PEnv) : PEnv := fun y => if y = ".0" then none else ρ y
noncomputable def compL (side : Sto → Prop) (x : String) (t : TWP) (d : EWP) : List PV → List PV → EWP
  | [], acc, _, σ, Q => side σ ∧ newList acc σ Q
  | v :: vs, acc, ρ, σ, Q => side σ ∧ t (hide (ρ.set x v)) σ fun c σ => if c = true then d (hide (ρ.set x v)) σ fun u σ => acc.length ≤ sizeLine ∧ compL side x t d vs (acc ++ [u]) ρ σ Q else compL side x t d vs acc ρ σ Q
section
variable (prog : Program) (w : World) (B : Heap) (n : Nat)
noncomputable def TsOk (env : Env) (ifs : List Expr) (t : TWP) : Prop := ∀ A ρ σ Q s, AOk n A → t ρ σ Q → St prog w B s.heap σ → FR B s.heap σ env ρ →
  Does prog w B A relB (forIn ifs true fun c r => if r = true then do let ok ← isTrue c env (eval c env); pure (ForInStep.yield ok) else pure (ForInStep.yield r)) noO σ Q s
end
noncomputable def dAll : TWP := fun _ σ Q => Q true σ
structure Itr (prog : Program) (w : World) (A : Around) (B : Heap) (I : Addr) (items : List PV) (side : Sto → Prop) (Inv : Nat → Heap → Prop) : Prop where
  item : ∀ (i : Nat) (s : Shared) (σ : Sto) (Q : Option Value → Shared → Prop) (E : Value → Shared → Prop) (p : PV), items[i]? = some p → Inv i s.heap → side σ → St prog w B s.heap σ →
    (∀ v h' tk, VR B h' v p → Inv (i + 1) h' → (∀ b o, b ≠ I → s.heap.get? b = some o → h'.get? b = some o) → Q (some v) { s with heap := h', toks := tk }) → wpAny (model prog w) A (pyNext (.ref I)) Q E s
  done : ∀ (s : Shared) (σ : Sto) (Q : Option Value → Shared → Prop) (E : Value → Shared → Prop), Inv items.length s.heap → side σ → St prog w B s.heap σ →
    (∀ h' tk, (∀ b o, b ≠ I → s.heap.get? b = some o → h'.get? b = some o) → Q none { s with heap := h', toks := tk }) → wpAny (model prog w) A (pyNext (.ref I)) Q E s
  frame : ∀ i h h', Inv i h → (∀ o, h.get? I = some o → h'.get? I = some o) → Inv i h'
  own : ∀ i h, Inv i h → NotTup h I ∧ h.get? I ≠ none
  self : ∀ i (s : Shared) (Q : Value → Shared → Prop) (E : Value → Shared → Prop), Inv i s.heap → Q (.ref I) s → wpAny (model prog w) A (pyIter (.ref I)) Q E s
structure CompScope (env : Env) (scope : Scope) (cl : List (Str × Addr)) (x : String) : Prop where
  clos : closureFor scope env = pure cl
  nocell : ∀ y ∈ scope.names, y.2 ≠ .cell
  kind : scope.kind = .function
  names : ∀ y ∈ scope.names, y.2 = .local → scope.names.lookup y.1 = some .local
  only : ∀ y ∈ scope.names, y.2 = .local → y.1 = Str.ofString x ∨ y.1 = Str.ofString ".0"
  has : scope.names.lookup (Str.ofString x) = some .local
  cells : ∀ p ∈ cl, p ∈ env.cells
  look : ∀ y c, cl.lookup y = some c → env.cells.lookup y = some c
  ncell : cl.lookup (Str.ofString x) = none
theorem relabel_mem {env : Env} : ∀ {names : List (Str × NameKind)} {y : Str}, (names.map fun (n, k) => if (k == NameKind.free && env.scope.kind == .function && env.kindOf n == some .cell) then (n, NameKind.cell) else (n, k)).lookup y = some .local → (y, NameKind.local) ∈ names
  | [], _, h => by simp at h
  | (m, k) :: r, y, h => by
    have ih := @relabel_mem env r y
    simp only [List.map_cons] at h
    by_cases hc : (k == NameKind.free && env.scope.kind == .function && env.kindOf m == some .cell) = true
    · rw [if_pos hc] at h
      simp only [List.lookup_cons] at h
      split at h
      · cases h
      · exact .tail _ (ih h)
    · rw [if_neg hc] at h
      simp only [List.lookup_cons] at h
      split at h
      · rename_i q
        cases h
        rw [beq_iff_eq.mp q]; exact .head _
      · exact .tail _ (ih h)
section
variable {prog : Program} {w : World} {B h h' : Heap} {σ σ' : Sto} {n : Nat} {env : Env}
theorem TsOk.nil : TsOk prog w B n env [] dAll := fun A ρ σ Q s hA hQ S F => Does.mk fun E => wpAny_tests_nil (post_here S rfl hQ)
theorem TsOk.one {c : Expr} {t : TWP} (h : TOk prog w B n env c t) : TsOk prog w B n env [c] t := fun A ρ σ Q s hA hQ S F => Does.mk fun E => wpAny_tests_one ((h A ρ σ Q s hA hQ S F).run E)
theorem Itr.range {A : Around} (hA : A.handled = none) (I : Addr) (lo hi : Int) : Itr prog w A B I (rangeL lo hi) (fun _ => True) (fun i h => IsRangeIter h I (lo + (i : Nat) * 1) ((((hi - lo).toNat : Nat) : Int) - (i : Nat)) 1) := by
  have W := Walks.range (prog := prog) (w := w) hA I lo 1 (hi - lo).toNat
  have hn := rangeL_length lo hi
  refine ⟨fun i s σ Q E p hp st _ S hq => ?_, fun s σ Q E st _ S hq => ?_, fun i h h' st hk => W.frame i h h' st fun b hb o e => by rw [List.mem_singleton.mp hb] at e ⊢; exact hk o e, fun i h st => ?_, W.self⟩
  · have hlt : i < (hi - lo).toNat := by
      rw [← hn]
      exact (List.getElem?_eq_some_iff.mp hp).1
    refine W.item i s Q E hlt st fun v h' tk hv st' k => hq v h' tk ?_ st' fun b o hb e => k b o (fun z => hb (List.mem_singleton.mp z)) e
    obtain ⟨t, rfl⟩ := hv
    rw [rangeL_get lo hi i hlt] at hp
    cases hp
    rw [Int.mul_one]; exact .int _ _
  · rw [hn] at st
    exact W.done s Q E st fun h' tk k => hq h' tk fun b o hb e => k b o (fun z => hb (List.mem_singleton.mp z)) e
  · have ho : h.get? I = some _ := st
    refine ⟨fun o e => ?_, by rw [ho]; simp⟩
    rw [ho] at e; cases e
    exact not_tup_fields
theorem Itr.list {A : Around} (hA : A.handled = none) (I a : Addr) (l : List PV) : Itr prog w A B I l (fun σ => σ a = some (.list l)) (fun i h => h.IsListIter I a i) := by
  have own : ∀ (i : Nat) (h : Heap), h.IsListIter I a i → NotTup h I ∧ h.get? I ≠ none := by
    rintro i h ⟨o, ho, hc, hd⟩
    refine ⟨fun o' e => ?_, by rw [ho]; simp⟩
    rw [ho] at e; cases e
    rintro ⟨_, _, _, e⟩
    rw [hd] at e; cases e
  refine ⟨fun i s σ Q E p hp st ha S hq => ?_, fun s σ Q E st ha S hq => ?_, fun i h h' st hk => ?_, own, fun i s Q E st hq => wpAny_pyIter_listiter st hq⟩
  · obtain ⟨vs, m, ho, r⟩ := S.objs _ _ ha
    obtain ⟨v, hv, rv⟩ := r.get hp
    refine wpAny_pyNext_list_item st ⟨_, ho, rfl, m, rfl⟩ (by rw [← Array.getElem?_toList]; exact hv) fun h₁ st₁ hs => ?_
    have k : ∀ b o, b ≠ I → s.heap.get? b = some o → h₁.get? b = some o := fun b o hne e => (hs.2 b hne).trans e
    exact hq v h₁ s.toks (rv.but k (own _ _ st).1) st₁ k
  · obtain ⟨vs, m, ho, r⟩ := S.objs _ _ ha
    have hlen := r.length
    rw [Array.length_toList] at hlen
    exact wpAny_pyNext_list_end hA st ⟨_, ho, rfl, m, rfl⟩ (by rw [Array.getElem?_eq_none_iff]; lia) fun h₁ k₁ => hq h₁ s.toks k₁
  · obtain ⟨o, ho, hr⟩ := st
    exact ⟨o, hk o ho, hr⟩
theorem FR.comp {h : Heap} {σ : Sto} {ρ : PEnv} {scope : Scope} {cl : List (Str × Addr)} {x : String} {C : Addr} {m : Str → Option Value} {v : Value} {p : PV} (F : FR B h σ env ρ) (CS : CompScope env scope cl x) (hn : h.Ns C m) (hm : m (Str.ofString x) = some v) (r : VR B h v p) (h1 : σ C = none) (h2 : B.get? C = none) (h3 : ¬ ownOf env C) :
    FR B h σ (compEnvC scope cl C env) (hide (ρ.set x p)) := by
  refine ⟨⟨m, hn, fun y pv hk hy => ?_⟩, fun y c hc => ?_, ⟨h1, h2⟩, fun q hq => ?_⟩
  · have y0 : y ≠ ".0" := by rintro rfl; simp [hide] at hy
    rcases CS.only _ (relabel_mem hk) rfl with this | this
    · have := ofString_inj this
      subst this
      rw [hide, if_neg y0, PEnv.set_same] at hy
      cases hy
      exact ⟨v, hm, r⟩
    · exact absurd (ofString_inj this) y0
  · have hc' : cl.lookup (Str.ofString y) = some c := hc
    have hy : y ≠ x := by
      rintro rfl
      rw [CS.ncell] at hc'; cases hc'
    obtain ⟨ov, hi, hv⟩ := F.cell y c (CS.look _ _ hc')
    refine ⟨ov, hi, fun pv e => hv pv ?_⟩
    unfold hide at e
    split at e
    · cases e
    · rwa [PEnv.set_ne _ _ hy] at e
  · have hq' : q ∈ env.cells := CS.cells q hq
    have z := F.offC q hq'
    exact ⟨z.1, z.2.1, z.2.2.1, z.2.2.2.1, fun e => h3 (.inr ⟨q, hq', e⟩)⟩
theorem St.take {h : Heap} {σ : Sto} (S : St prog w B h σ) {D : Addr} {ao : AObj} (r : ORel prog w B h D ao) (h1 : B.get? D = none) (h2 : (D == sysModules) = false) : St prog w B h (σ.set D ao) := by
  refine ⟨S.base, fun a e => ?_, S.main, fun a o e => ?_⟩
  · by_cases q : a = D
    · rw [q]; exact ⟨h1, h2⟩
    · rw [Sto.set_ne σ ao q] at e; exact S.off a e
  · by_cases q : a = D
    · subst q; rw [Sto.set_same] at e; cases e; exact r
    · rw [Sto.set_ne σ ao q] at e; exact S.objs a o e
theorem Step.take {O : Addr → Prop} {h h' : Heap} {σ σ' : Sto} (x : Step O σ h σ' h') {D : Addr} {ao : AObj} (h1 : h.get? D = none) : Step O σ h (σ'.set D ao) h' :=
  ⟨x.keep, fun a e => by
    by_cases q : a = D
    · right; rw [q]; exact h1
    · rw [Sto.set_ne σ' ao q] at e; exact x.dom a e, x.live⟩
inductive CB (prog : Program) (w : World) (B : Heap) (I D C : Addr) (Inv : Nat → Heap → Prop) (σ : Sto) (h₀ : Heap) (i : Nat) (σ' : Sto) (h' : Heap) (acc : List PV) : Prop
  | mk (ys : Array Value) (m' : Str → Option Value) (S : St prog w B h' σ') (x : Step noO σ h₀ σ' h') (hI : σ' I = none) (hC : σ' C = none) (hD : σ' D = none) (st : Inv i h') (ha : h'.PlainList D ys) (ry : VRs B h' ys.toList acc) (hn : h'.Ns C m')
inductive CI (prog : Program) (w : World) (B : Heap) (I D C : Addr) (Inv : Nat → Heap → Prop) (σ : Sto) (s : Shared) (P : Nat → List PV → Sto → Prop) (k q : Nat) (s' : Shared) : Prop
  | mk (i : Nat) (σ' : Sto) (h' : Heap) (tk' : Nat) (acc : List PV) (e : s' = { s with heap := h', toks := tk' }) (c : CB prog w B I D C Inv σ s.heap i σ' h' acc) (hq : P i acc σ') (hi : i ≤ k) (hz : q = k + 1 - i)
theorem list_notTup {h : Heap} {D : Addr} {ys : Array Value} (hl : h.PlainList D ys) : NotTup h D := by
  obtain ⟨k, e⟩ := hl
  intro o e'
  rw [e] at e'; cases e'
  rintro ⟨z, _⟩
  injection z with z; exact absurd z (by decide)
theorem Ns.live {h : Heap} {C : Addr} {m : Str → Option Value} (hn : h.Ns C m) : h.get? C ≠ none := by
  obtain ⟨o, _, _, e, _⟩ := hn; exact some_ne e
theorem CB.stp {A : Around} {I D C : Addr} {items : List PV} {side : Sto → Prop} {Inv : Nat → Heap → Prop} {σ₀ : Sto} {h₀ : Heap} {i : Nat} {acc : List PV} (IT : Itr prog w A B I items side Inv)
    (c : CB prog w B I D C Inv σ₀ h₀ i σ h acc) (y : Step noO σ h σ' h') (S' : St prog w B h' σ') : CB prog w B I D C Inv σ₀ h₀ i σ' h' acc := by
  obtain ⟨ys, m', S, x, hI, hC, hD, st, ha, ry, hn⟩ := c
  have z : ∀ {b : Addr}, ¬ noO b := fun z => z
  have lD : h.get? D ≠ none := by obtain ⟨o, e⟩ := ha; exact some_ne e
  exact ⟨ys, m', S', x.trans y, y.gone hI (IT.own _ _ st).2, y.gone hC (Ns.live hn), y.gone hD lD, IT.frame _ _ _ st fun o e => y.keep I o hI z e, ha.at fun o e => y.keep D o hD z e, ry.stp y S, hn.at' fun o e => y.keep C o hC z e⟩
theorem comp_loop {A : Around} {I D C : Addr} {items : List PV} {side : Sto → Prop} {Inv : Nat → Heap → Prop} (IT : Itr prog w A B I items side Inv) (hA : AOk n A) {x : String} {px pos : Pos} {elt iter : Expr} {ifs : List Expr} {scope : Scope} {cl : List (Str × Addr)} {t : TWP} {d : EWP}
    (CS : CompScope env scope cl x) (ht : TsOk prog w B n (compEnvC scope cl C env) ifs t) (hd : EOk prog w B n (compEnvC scope cl C env) elt d)
    {ρ : PEnv} {Q : PV → Sto → Prop} {s : Shared} {h₁ : Heap} {tk₁ : Nat} {R : Result → Shared → Prop} (S : St prog w B s.heap σ) (F : FR B s.heap σ env ρ) (hI0 : s.heap.get? I = none) (hC0 : s.heap.get? C = none) (hD0 : s.heap.get? D = none)
    (hCD : C ≠ D) (hID : I ≠ D) (hIC : I ≠ C) (hDm : (D == sysModules) = false) (c₁ : CB prog w B I D C Inv σ s.heap 0 σ h₁ []) (hQ : compL side x t d items [] ρ σ Q)
    (hRR : ∀ σ' h' tk m', σ' C = none → h'.Ns C m' → St prog w B h' σ' → Step noO σ s.heap σ' h' → Q (.ref D) σ' → R (.ok .next) { s with heap := h', toks := tk }) :
    codeAny (model prog w) A (.compLoop (.ListComp elt [⟨.Name (Str.ofString x) px, iter, ifs, 0⟩] scope pos) 0 (.ref I) (.ref D) (compEnvC scope cl C env)) R { s with heap := h₁, toks := tk₁ } := by
  have hCB := S.baseNone hC0
  have hDB := S.baseNone hD0
  have hIB := S.baseNone hI0
  refine codeAny_compLoop_tests (CI prog w B I D C Inv σ s (fun i acc σ => compL side x t d (items.drop i) acc ρ σ Q) items.length) ?_ (items.length + 1) ⟨0, σ, h₁, tk₁, [], rfl, c₁, hQ, Nat.zero_le _, rfl⟩
  rintro q s' ⟨i, σ', h', tk', acc, rfl, c', hq, hi, rfl⟩
  obtain ⟨ys, m', S', x', hσI, hσC, hσD, st', ha', ry', hn'⟩ := c'
  have ntI := (IT.own _ _ st').1
  have away : ∀ {h₃ : Heap} {b us j}, (∀ b o, b ≠ I → h'.get? b = some o → h₃.get? b = some o) → h'.get? b = some (tupObj us j) → h₃.get? b = some (tupObj us j) := fun k e => k _ _ (fun z => ntI _ (z ▸ e) (isTupO _ _)) e
  by_cases hlt : i < items.length
  · rw [List.drop_eq_getElem_cons hlt] at hq
    obtain ⟨hside, hq⟩ := hq
    refine IT.item i _ σ' _ _ items[i] (List.getElem?_eq_getElem hlt) st' hside S' fun v h₃ tk₃ rv st₃ k₃ => ?_
    have hn₃ : h₃.Ns C m' := hn'.at' fun o e => k₃ C o hIC.symm e
    refine wpAny_assign_Name (wpAny_storeName_local (env := compEnvC scope cl C env) (lookup_relabel_local CS.has) hn₃ (fun h₄ hn₄ hs₄ => ?_) (by rw [show (compEnvC scope cl C env).scope.kind = .function from CS.kind]; rfl))
    have ntC : NotTup h₃ C := Ns.notTup hn₃
    have k₄ : ∀ b o, b ≠ C → h₃.get? b = some o → h₄.get? b = some o := hs₄.extBut
    have S₄ := (S'.but k₃ hσI hIB ntI).but k₄ hσC hCB ntC
    have x₄ := (x'.but k₃ hI0).but k₄ hC0
    have c₄ : CB prog w B I D C Inv σ s.heap (i + 1) σ' h₄ acc := ⟨ys, _, S₄, x₄, hσI, hσC, hσD, IT.frame _ _ _ st₃ fun o e => k₄ I o hIC e, (ha'.at fun o e => k₃ D o hID.symm e).at fun o e => k₄ D o hCD.symm e,
      (ry'.keep fun b us j e => away k₃ e).keep fun b us j e => k₄ b _ (fun z => ntC _ (z ▸ e) (isTupO us j)) e, hn₄⟩
    have FC : FR B h₄ σ' (compEnvC scope cl C env) _ := (F.step x₄ S).comp CS (C := C) hn₄ (if_pos rfl) (rv.but k₄ ntC) hσC hCB (not_own F hC0)
    refine Does.go (ht A _ σ' _ _ hA hq S₄ FC) (fun c c' σ₅ h₅ tk₅ S₅ y₅ re q₅ => ?_)
    cases re
    have c₅ := c₄.stp IT y₅ S₅
    cases c with
    | false =>
      rw [if_neg Bool.false_ne_true] at q₅ ⊢
      exact ⟨items.length + 1 - (i + 1), by lia, i + 1, σ₅, h₅, tk₅, acc, rfl, c₅, q₅, hlt, rfl⟩
    | true =>
      rw [if_pos rfl] at q₅ ⊢
      refine Does.go (hd A _ σ₅ _ { s with heap := h₅, toks := tk₅ } hA q₅ S₅ (FC.step y₅ S₄)) (fun u pu σ₆ h₆ tk₆ S₆ y₆ ru qq => ?_)
      obtain ⟨hsz, q₆⟩ := qq
      obtain ⟨ys, m', S₆, x₆, hI₆, hC₆, hD₆, st₆, ha₆, ry₆, hn₆⟩ := c₅.stp IT y₆ S₆
      have hl := ry₆.length
      rw [Array.length_toList] at hl
      have ntD := list_notTup ha₆
      refine wpAny_list_append_plain (hsz := by rw [hl]; exact hsz) ha₆ fun h₇ hl₇ hs₇ => ?_
      have k₇ : ∀ b o, b ≠ D → h₆.get? b = some o → h₇.get? b = some o := hs₇.extBut
      have kk : ∀ b us j, h₆.get? b = some (tupObj us j) → h₇.get? b = some (tupObj us j) := fun b us j e => k₇ b _ (fun z => ntD _ (z ▸ e) (isTupO us j)) e
      exact ⟨items.length + 1 - (i + 1), by lia, i + 1, σ₆, h₇, tk₆, acc ++ [pu], rfl, ⟨ys.push u, m', S₆.but k₇ hD₆ hDB ntD, x₆.but k₇ hD0, hI₆, hC₆, hD₆, IT.frame _ _ _ st₆ fun o e => k₇ I o hID e, hl₇, by
        rw [Array.toList_push]; exact (ry₆.keep kk).append (.cons (ru.keep kk) .nil), hn₆.at' fun o e => k₇ C o hCD e⟩, q₆, hlt, rfl⟩
  · obtain rfl := Nat.le_antisymm hi (Nat.not_lt.mp hlt)
    rw [List.drop_length] at hq
    obtain ⟨hside, hsz, hq⟩ := hq
    refine IT.done _ σ' _ _ st' hside S' fun h₃ tk₃ k₃ => ?_
    obtain ⟨kz, ez⟩ := ha'.at (h' := h₃) fun o e => k₃ D o hID.symm e
    exact hRR (σ'.set D (.list acc)) h₃ tk₃ m' (by rw [Sto.set_ne _ _ hCD]; exact hσC) (hn'.at' fun o e => k₃ C o hIC.symm e) ((S'.but k₃ hσI hIB ntI).take ⟨ys, kz, ez, ry'.keep fun b us j e => away k₃ e⟩ hDB hDm) ((x'.but k₃ hI0).take hD0) (hq D hσD)
theorem comp_block {A : Around} {I : Addr} {items : List PV} {side : Sto → Prop} {Inv : Nat → Heap → Prop} (IT : Itr prog w A B I items side Inv) (hA : AOk n A) {x : String} {px pos : Pos} {elt iter : Expr} {ifs : List Expr} {scope : Scope} {cl : List (Str × Addr)} {t : TWP} {d : EWP}
    (CS : CompScope env scope cl x) (ht : ∀ C, TsOk prog w B n (compEnvC scope cl C env) ifs t) (hd : ∀ C, EOk prog w B n (compEnvC scope cl C env) elt d)
    {σ : Sto} {ρ : PEnv} {Q : PV → Sto → Prop} {s : Shared} {h₂ : Heap} {tk₂ : Nat} {E : Value → Shared → Prop} (S : St prog w B s.heap σ) (F : FR B s.heap σ env ρ) (hI0 : s.heap.get? I = none) (k₂ : ∀ b o, s.heap.get? b = some o → h₂.get? b = some o) (st : Inv 0 h₂) (hQ : compL side x t d items [] ρ σ Q)
    {RR : Value → Addr → Result → Shared → Prop}
    (hRR : ∀ D C σ' h' tk m', s.heap.get? C = none → C ≠ D → σ' C = none → h'.Ns C m' → St prog w B h' σ' → Step noO σ s.heap σ' h' → Q (.ref D) σ' → RR (.ref D) C (.ok .next) { s with heap := h', toks := tk }) :
    wpAny (model prog w) A (PySem.newList []) (fun acc s₃ => wpAny (model prog w) A (newFunctionEnv scope env.globals cl [] env.qual none .none (some env)) (fun cenv s₄ =>
      codeAny (model prog w) A (.compStart (.ListComp elt [⟨.Name (Str.ofString x) px, iter, ifs, 0⟩] scope pos) 0 (.ref I) acc { cenv with scope := relabel scope env }) (RR acc cenv.locals) s₄) E s₃) E { s with heap := h₂, toks := tk₂ } := by
  refine wpAny_newObj_type (wpAny_newFunctionEnv CS.nocell (fun y hy => nomatch hy) (fun h₁ hns₁ hsb₁ => ?_) CS.kind)
  dsimp only at hns₁ hsb₁ ⊢
  have above : ∀ b, h₂.objs.size ≤ b → s.heap.get? b = none := fun b hb => by
    cases q : s.heap.get? b with
    | none => rfl
    | some o => exact absurd (Heap.lt_size (k₂ b o q)) (Nat.not_lt.mpr hb)
  obtain ⟨om, hm⟩ := S.main
  have h3 : 3 < h₂.objs.size := Heap.lt_size (k₂ _ _ (S.base _ _ hm))
  have hl2 : (h₂.push { cls := .type "list", dict := none, data := .seq ([] : List Value).toArray }).get? h₂.objs.size = some _ := Heap.get?_push_size _ rfl
  have kp := keepPush (h := h₂) { cls := .type "list", dict := none, data := .seq ([] : List Value).toArray }
  have hC : (h₂.push { cls := .type "list", dict := none, data := .seq ([] : List Value).toArray }).objs.size = h₂.objs.size + 1 := Heap.size_push ..
  generalize h₂.push { cls := .type "list", dict := none, data := .seq ([] : List Value).toArray } = H2 at hns₁ hsb₁ hl2 kp hC ⊢
  have hD0 := above _ (Nat.le_refl _)
  have hIl : I < h₂.objs.size := by
    cases q : h₂.get? I with
    | none => exact absurd q (IT.own _ _ st).2
    | some o => exact Heap.lt_size q
  have k₁ : ∀ b o, h₂.get? b = some o → h₁.get? b = some o := fun b o e =>
    hsb₁.extBut b o (by rw [hC]; exact Nat.ne_of_lt (Nat.lt_succ_of_lt (Heap.lt_size e))) (Heap.get?_push_of_some _ (kp b o e))
  have hC0 := above H2.objs.size (by rw [hC]; exact Nat.le_succ _)
  have hCD : H2.objs.size ≠ h₂.objs.size := by rw [hC]; exact Nat.succ_ne_self _
  have k := fun b o e => k₁ b o (k₂ b o e)
  have st₁ : Inv 0 h₁ := IT.frame _ _ _ st fun o e => k₁ I o e
  refine codeAny_compStart_list ?_ (IT.self 0 _ _ _ st₁ ?_) <;>
  exact comp_loop (s := s) IT hA CS (ht _) (hd _) S F hI0 hC0 hD0 hCD (Nat.ne_of_lt hIl) (by rw [hC]; exact Nat.ne_of_lt (Nat.lt_succ_of_lt hIl)) (beq_eq_false_iff_ne.mpr (Nat.ne_of_gt (Nat.lt_trans (by decide) h3)))
    ⟨#[], _, S.ofKeep k, .ofKeep k, S.fresh hI0, S.fresh hC0, S.fresh hD0, st₁, ⟨_, hsb₁.extBut _ _ hCD.symm (Heap.get?_push_of_some _ hl2)⟩, .nil, hns₁⟩ hQ fun σ' h' tk m' => hRR _ _ σ' h' tk m' hC0 hCD
noncomputable abbrev ITWP := PEnv → Sto → ((Sto → Prop) → List PV → Sto → Prop) → Prop
inductive ItP (prog : Program) (w : World) (B : Heap) (A : Around) (σ : Sto) (P : (Sto → Prop) → List PV → Sto → Prop) (s : Shared) (it : Value) (s₂ : Shared) : Prop
  | mk (I : Addr) (items : List PV) (side : Sto → Prop) (Inv : Nat → Heap → Prop) (σ₁ : Sto) (h₁ h₂ : Heap) (tk₂ : Nat) (e : it = .ref I) (IT : Itr prog w A B I items side Inv) (e₂ : s₂ = { s with heap := h₂, toks := tk₂ }) (S : St prog w B h₁ σ₁) (y : Step noO σ s.heap σ₁ h₁) (hI : h₁.get? I = none) (k : ∀ b o, h₁.get? b = some o → h₂.get? b = some o) (st : Inv 0 h₂) (q : P side items σ₁)
structure ItDoes (prog : Program) (w : World) (B : Heap) (A : Around) (iter : Expr) (env : Env) (σ : Sto) (P : (Sto → Prop) → List PV → Sto → Prop) (s : Shared) : Prop where
  mk ::
  run : ∀ E, wpAny (model prog w) A (eval iter env) (fun xv s₁ => wpAny (model prog w) A (pyIter xv) (ItP prog w B A σ P s) E s₁) E s
noncomputable def ItOk (prog : Program) (w : World) (B : Heap) (n : Nat) (env : Env) (iter : Expr) (dI : ITWP) : Prop := ∀ A ρ σ P s, AOk n A → dI ρ σ P → St prog w B s.heap σ → FR B s.heap σ env ρ → ItDoes prog w B A iter env σ P s
noncomputable def dItL (d : EWP) : ITWP := fun ρ σ P => d ρ σ fun it σ => match it with
  | .ref a => match σ a with
    | some (.list l) => P (fun σ => σ a = some (.list l)) l σ
    | _ => False
  | _ => False
noncomputable def dItR (ds : EsWP) : ITWP := fun ρ σ P => ds ρ σ fun vs σ => rngL vs fun lo hi => P (fun _ => True) (rangeL lo hi) σ
theorem ItOk.list {e : Expr} {d : EWP} (h : EOk prog w B n env e d) : ItOk prog w B n env e (dItL d) := by
  intro A ρ σ P s hA hQ S F
  refine ItDoes.mk fun E => ?_
  refine Does.go (h A ρ σ _ s hA hQ S F) (fun it pi σ₁ h₁ tk₁ S₁ y r q => ?_)
  obtain ⟨a, rfl⟩ : ∃ a, pi = .ref a := by cases pi <;> first | exact ⟨_, rfl⟩ | exact q.elim
  · cases r.ref_inv
    obtain ⟨l, hl, q⟩ := list_out q
    obtain ⟨vs, m, ho, r⟩ := S₁.objs _ _ hl
    refine wpAny_pyIter_list ⟨_, ho, rfl, m, rfl⟩ ?_
    exact ⟨_, l, _, _, σ₁, h₁, _, tk₁, rfl, Itr.list hA.hand _ a l, rfl, S₁, y, get?_size _, keepPush _, ⟨_, Heap.get?_push_size _ rfl, rfl, rfl⟩, q⟩
theorem ItOk.range {K : Frag} (G : Gd prog w K B) (X : EnvOk env) {x : String} {p pos : Pos} {args : List Expr} {ds : EsWP} (hx : x = "range") (hl : env.kindOf (Str.ofString x) = some .globalImplicit) (e : nsIn K mainGlobals (Str.ofString x) = some none)
    (h : EsOk prog w B n env args ds) (ha : ArgsOk env pos args)
    (he : eval (.Call (.Name (Str.ofString x) p) args [] pos) env = (do callWith pos (← eval (.Name (Str.ofString x) p) env) [] (backTo pos (starEach args env)) (backToKw pos (keywordEach [] env))) := by rfl) :
    ItOk prog w B n env (.Call (.Name (Str.ofString x) p) args [] pos) (dItR ds) := by
  intro A ρ σ P s hA hQ S F
  refine ItDoes.mk fun E => ?_
  refine wpAny_mono (range_call G X hx hl e h ha hA (P := fun lo hi σ => P (fun _ => True) (rangeL lo hi) σ) hQ S F E he) (fun it s₁ q => ?_) fun _ _ e => e
  obtain ⟨r, lo, hi, t, u, z, σ₁, h₁, tk₁, rfl, rfl, S₁, y, hr, b1, b2, b3, b4, q⟩ := q
  refine wpAny_pyIter_range hr (small_one b1 b2 b3 b4) ?_
  refine ⟨_, rangeL lo hi, _, _, σ₁, h₁, _, tk₁, rfl, Itr.range hA.hand _ lo hi, rfl, S₁, y, get?_size _, keepPush _, ?_, q⟩
  have e : (h₁.push { cls := .type "range_iterator", data := .fields #[rawInt lo, rawInt (Builtin.Range.rangeSize lo hi 1), rawInt 1] }).get? h₁.objs.size = some { cls := .type "range_iterator", data := .fields #[rawInt lo, rawInt (Builtin.Range.rangeSize lo hi 1), rawInt 1] } := Heap.get?_push_size _ rfl
  rw [rangeSize_le] at e
  show Heap.get? _ _ = some _
  rw [rangeSize_le, e]
  simp
noncomputable def dComp (x : String) (t : TWP) (d : EWP) (dI : ITWP) : EWP := fun ρ σ Q => dI ρ σ fun side items σ => compL side x t d items [] ρ σ Q
theorem EOk.comp {x : String} {px pos : Pos} {elt iter : Expr} {ifs : List Expr} {scope : Scope} {cl : List (Str × Addr)} {t : TWP} {d : EWP} {dI : ITWP} (hi : ItOk prog w B n env iter dI)
    (CS : CompScope env scope cl x) (ht : ∀ C, TsOk prog w B n (compEnvC scope cl C env) ifs t) (hd : ∀ C, EOk prog w B n (compEnvC scope cl C env) elt d) (hs : ∀ x, foldedSetIterable iter env x = pure x := by intro _; rfl) :
    EOk prog w B n env (.ListComp elt [⟨.Name (Str.ofString x) px, iter, ifs, 0⟩] scope pos) (dComp x t d dI) := by
  intro A ρ σ Q s hA hQ S F
  refine Does.mk fun E => ?_
  rw [eval_ListComp]
  refine wpAny_comprehension_free (use := none) rfl hs CS.clos CS.kind CS.names (wpAny_mono ((hi A ρ σ _ s hA hQ S F).run E) (fun xv s₁ h₁ => wpAny_mono h₁ (fun it s₂ h₂ => ?_) fun _ _ e => e) fun _ _ e => e)
  obtain ⟨I, items, side, Inv, σ₁, h₁, h₂, tk₂, rfl, IT, rfl, S₁, y, hI0, k₂, st, q⟩ := h₂
  refine comp_block (s := { s with heap := h₁, toks := tk₂ }) IT hA CS ht hd S₁ (F.step y S) hI0 k₂ st q (RR := fun acc C => compPost (model prog w) A E none _ acc C) ?_
  intro D C σ' h' tk m' hC0 hCD hσC hn S' x' q'
  refine ⟨m', hn, fun h'' hs'' => ?_⟩
  exact ⟨.ref D, σ', h'', tk, rfl, S'.but hs''.extBut hσC (S₁.baseNone hC0) (Ns.notTup hn), y.trans (x'.but hs''.extBut hC0), .ref D, q'⟩
theorem SOk.comp {x z : String} {px pz pos spos : Pos} {elt iter : Expr} {ifs : List Expr} {scope : Scope} {cl : List (Str × Addr)} {t : TWP} {d : EWP} {dI : ITWP} (hi : ItOk prog w B n env iter dI)
    (CS : CompScope env scope cl x) (ht : ∀ C, TsOk prog w B n (compEnvC scope cl C env) ifs t) (hd : ∀ C, EOk prog w B n (compEnvC scope cl C env) elt d) (hz : StoreOk env z) (hk : env.scope.kind = .function) (hsw : swapsWith (.ListComp elt [⟨.Name (Str.ofString x) px, iter, ifs, 0⟩] scope pos) (some (.Name (Str.ofString z) pz)) spos.line env = pure true := by rfl)
    (hs : ∀ x, foldedSetIterable iter env x = pure x := by intro _; rfl) :
    SOk prog w B n env (.Assign [.Name (Str.ofString z) pz] (.ListComp elt [⟨.Name (Str.ofString x) px, iter, ifs, 0⟩] scope pos) spos) (dAssign z (dComp x t d dI)) := by
  intro A ρ σ Q s hA hQ S F
  refine Does.mk fun E => ?_
  rw [exec_Assign_Name_used _ _ _ _ hsw]
  refine wpAny_bind (wpAny_standAt (wpAny_bind ?_))
  show wpAny _ A (do let _ ← comprehension (.ListComp elt [⟨.Name (Str.ofString x) px, iter, ifs, 0⟩] scope pos) scope env _ (PySem.newList []) false (eval iter env) (some (PySem.assign (.Name (Str.ofString z) pz) env))) _ _ s
  refine wpAny_bind (wpAny_mono (wpAny_comprehension_free (use := some (PySem.assign (.Name (Str.ofString z) pz) env)) (Q := fun _ s' => Post prog w B (relS B env) (ownOf env) σ s (fun p σ' => Q p.1 p.2 σ') .next s') rfl hs CS.clos CS.kind CS.names
    (wpAny_mono ((hi A ρ σ _ s hA hQ S F).run E) (fun xv s₁ h₁ => wpAny_mono h₁ (fun it s₂ h₂ => ?_) fun _ _ e => e) fun _ _ e => e)) (fun _ s' hq => wpAny_pure (wpAny_pure hq)) fun _ _ e => e)
  obtain ⟨I, items, side, Inv, σ₁, h₁, h₂, tk₂, rfl, IT, rfl, S₁, y, hI0, k₂, st, q⟩ := h₂
  have F₁ := F.step y S
  refine comp_block (s := { s with heap := h₁, toks := tk₂ }) IT hA CS ht hd S₁ F₁ hI0 k₂ st q (RR := fun acc C => compPost (model prog w) A E (some (PySem.assign (.Name (Str.ofString z) pz) env)) _ acc C) ?_
  intro D C σ' h' tk m' hC0 hCD hσC hn S' x' q'
  show wpAny _ A (PySem.assign (.Name (Str.ofString z) pz) env (.ref D)) _ _ _
  refine wpAny_assign_Name (store_name (s := { s with heap := h', toks := tk }) hz hk S' (F₁.step x' S₁) (.ref D) fun h₃ tk₃ S₃ x₃ F₃ => ?_)
  have noC : ¬ ownOf env C := fun z => (F₁.own _ z).2.2.2 hC0
  have hn₃ : h₃.Ns C m' := hn.at' fun o e => x₃.keep C o hσC noC e
  refine ⟨m', hn₃, fun h'' hs'' => ?_⟩
  have x₁₃ : Step (ownOf env) σ₁ h₁ σ' h₃ := (x'.mono fun _ z => z.elim).trans x₃
  exact ⟨(.next, ρ.set z (.ref D)), σ', h'', tk₃, rfl, S₃.but hs''.extBut hσC (S₁.baseNone hC0) (Ns.notTup hn₃), (y.mono fun _ z => z.elim).trans (x₁₃.but hs''.extBut hC0), ⟨.next, F₃.but hs''.extBut (Ns.notTup hn₃) noC⟩, q'⟩
end
end Mine
namespace Mine
open PySem PySem.W PySem.Calls PyProof.Rows PySem.Spec
noncomputable def mkC : List String → Nat → List (Str × Addr)
  | [], _ => []
  | x :: r, L => (Str.ofString x, L + r.length + 1) :: mkC r L
theorem mkC_le : ∀ {cn : List String} {L : Nat} {p : Str × Addr}, p ∈ mkC cn L → p.2 < L + cn.length + 1 ∧ ∃ x ∈ cn, p.1 = Str.ofString x
  | _ :: r, L, _, .head _ => ⟨by simp, _, .head _, rfl⟩
  | _ :: r, L, _, .tail _ h => by
    obtain ⟨h1, x, hx, e⟩ := mkC_le h
    exact ⟨Nat.lt_succ_of_lt h1, x, .tail _ hx, e⟩
theorem mkC_look : ∀ {cn : List String} {L : Nat} {p : Str × Addr}, cn.Nodup → p ∈ mkC cn L → (mkC cn L).lookup p.1 = some p.2
  | x :: r, L, _, _, .head _ => by simp [mkC]
  | x :: r, L, p, hn, .tail _ h => by
    rw [List.nodup_cons] at hn
    obtain ⟨_, y, hy, e⟩ := mkC_le h
    have ne : (p.1 == Str.ofString x) = false := by
      rw [beq_eq_false_iff_ne, e]
      exact fun z => hn.1 (ofString_inj z ▸ hy)
    rw [mkC, List.lookup_cons, ne]
    exact mkC_look hn.2 h
theorem mkC_inj : ∀ {cn : List String} {L : Nat} {p q : Str × Addr}, p ∈ mkC cn L → q ∈ mkC cn L → p.2 = q.2 → p.1 = q.1
  | _ :: r, L, _, _, .head _, .head _, _ => rfl
  | _ :: r, L, _, _, .head _, .tail _ h, e => absurd (mkC_le h).1 (by rw [← e]; simp)
  | _ :: r, L, _, _, .tail _ h, .head _, e => absurd (mkC_le h).1 (by rw [e]; simp)
  | _ :: r, L, _, _, .tail _ h, .tail _ h', e => mkC_inj h h' e
theorem bindL_at {k : Str → Option NameKind} {x : Str} : ∀ (b : List (Str × Value)) (m : Str → Option Value), bindL k b m x = if k x = some .local then (b.reverse.lookup x).or (m x) else m x
  | [], m => by simp [bindL]
  | (y, v) :: r, m => by
    rw [bindL, bindL_at r]
    by_cases hx : k x = some .local
    · simp only [hx, if_true, List.reverse_cons, List.lookup_append]
      by_cases q : x = y
      · subst q; simp [hx, List.lookup]
      · have : (x == y) = false := beq_eq_false_iff_ne.mpr q
        simp only [List.lookup, this]
        split <;> simp [q]
    · simp only [hx, if_false]
      split
      · rename_i hy
        have : x ≠ y := by rintro rfl; exact hx hy
        simp [this]
      · rfl
theorem bindC_at {k : Str → Option NameKind} {x : Str} : ∀ (b : List (Str × Value)) (m : Str → Option Value), bindC k b m x = if k x = some .local then m x else (b.reverse.lookup x).or (m x)
  | [], m => by simp [bindC]
  | (y, v) :: r, m => by
    rw [bindC, bindC_at r]
    by_cases hx : k x = some .local
    · simp only [hx, if_true]
      split
      · rfl
      · rename_i hy
        have : x ≠ y := by rintro rfl; exact hy hx
        simp [this]
    · simp only [hx, if_false, List.reverse_cons, List.lookup_append]
      by_cases q : x = y
      · subst q; simp [hx, List.lookup]
      · have : (x == y) = false := beq_eq_false_iff_ne.mpr q
        simp only [List.lookup, this]
        split <;> simp [q]
section
variable {prog : Program} {w : World} {B : Heap} {n : Nat} {env : Env}
theorem codeAny_call_cellsD {A : Around} {s : Shared} {R : Result → Shared → Prop} {a : Addr} {o : Obj} {fd : FuncData} {body : List Stmt} {vals : List Value} {binds : List (Str × Value)}
    (hroom : A.depth < recursionLimit) (ho : s.heap.get? a = some o) (hdata : o.data = .func fd) (hlim : s.heap.NoLimit) (hcd : s.heap.CodeRec fd.code fd.qualname)
    (hbody : fd.body = .stmts body) (hbind : BindsTo s fd ⟨vals, []⟩ binds) (hclo : fd.closure = [])
    (hkind : ∀ x ∈ binds, fd.scope.names.lookup x.1 = some .local ∨ (fd.scope.names.lookup x.1 = some .cell ∧ ((cellsFrom (s.heap.objs.size + 1) fd.scope.names []).lookup x.1).isSome = true))
    (h : ∀ s₁, InCallC s (callEnvC fd s.heap.objs.size a).locals (bindL (callEnvC fd s.heap.objs.size a).kindOf binds fun _ => none) (callEnvC fd s.heap.objs.size a).cells
        (bindC (callEnvC fd s.heap.objs.size a).kindOf binds fun _ => none) s₁ →
      wpAny (model prog w) (A.deeper (callEnvC fd s.heap.objs.size a)) (execs body (callEnvC fd s.heap.objs.size a)) (fun f s' => R (.ok (.ret (match f with | .ret v => v | _ => .none))) s')
        (fun e s' => wpAny (model prog w) (A.deeper (callEnvC fd s.heap.objs.size a)) (leaving (callEnvC fd s.heap.objs.size a) e) (fun _ s'' => R (.error e) s'') (fun e' s'' => R (.error e') s'') s') s₁)
    (hco : fd.scope.isCoroutine = false := by rfl) (hgen : fd.scope.isGenerator = false := by rfl) (hk : fd.scope.kind = .function := by rfl) :
    codeAny (model prog w) A (.call (.ref a) ⟨vals, []⟩) R s := by
  refine codeAny_call_function hroom ho hdata hco hgen hbody hcd (hbind _ _ _ _ ?_)
  rw [hclo]
  refine wpAny_newFunctionEnv_cells hk hkind fun env he s' x => ?_
  subst he
  exact ⟨hlim.keeps x.toInCall.keep, codeAny_func (h s' x)⟩
noncomputable def fnPD (ps : List String) (dp : List PV) (d : SWP) : FWP := fun args σ Q => args.length + dp.length = ps.length ∧ d (bindEnv ps (args ++ dp)) σ (fnEnd Q)
theorem vals0 {P : List Value → Prop} (f : P []) {vals : List Value} (h : vals.length = 0) : P vals := by cases vals with | nil => exact f | cons => cases h
theorem vals1 {P : List Value → Prop} (f : ∀ a, P [a]) {vals : List Value} (h : vals.length = 1) : P vals := by cases vals with | nil => cases h | cons a r => exact vals0 (P := fun r => P (a :: r)) (f a) (Nat.succ.inj h)
theorem vals2 {P : List Value → Prop} (f : ∀ a b, P [a, b]) {vals : List Value} (h : vals.length = 2) : P vals := by cases vals with | nil => cases h | cons a r => exact vals1 (P := fun r => P (a :: r)) (f a) (Nat.succ.inj h)
theorem vals3 {P : List Value → Prop} (f : ∀ a b c, P [a, b, c]) {vals : List Value} (h : vals.length = 3) : P vals := by cases vals with | nil => cases h | cons a r => exact vals2 (P := fun r => P (a :: r)) (f a) (Nat.succ.inj h)
theorem vals4 {P : List Value → Prop} (f : ∀ a b c d, P [a, b, c, d]) {vals : List Value} (h : vals.length = 4) : P vals := by cases vals with | nil => cases h | cons a r => exact vals3 (P := fun r => P (a :: r)) (f a) (Nat.succ.inj h)
theorem vals5 {P : List Value → Prop} (f : ∀ a b c d e, P [a, b, c, d, e]) {vals : List Value} (h : vals.length = 5) : P vals := by cases vals with | nil => cases h | cons a r => exact vals4 (P := fun r => P (a :: r)) (f a) (Nat.succ.inj h)
theorem FR.call {fd : FuncData} {f : Addr} {s s₁ : Shared} {σ : Sto} {ps cn : List String} {vals : List Value} {args : List PV} (S : St prog w B s.heap σ) (r : VRs B s.heap vals args)
    (hcf : ∀ L, cellsFrom (L + 1) fd.scope.names [] = mkC cn L) (hcn : cn.Nodup) (hck : ∀ x ∈ cn, fd.scope.names.lookup (Str.ofString x) = some .cell) (hps : ps.Nodup)
    (x : InCallC s (callEnvC fd s.heap.objs.size f).locals (bindL (callEnvC fd s.heap.objs.size f).kindOf ((ps.map Str.ofString).zip vals) fun _ => none) (callEnvC fd s.heap.objs.size f).cells
        (bindC (callEnvC fd s.heap.objs.size f).kindOf ((ps.map Str.ofString).zip vals) fun _ => none) s₁) : FR B s₁.heap σ (callEnvC fd s.heap.objs.size f) (bindEnv ps args) := by
  have n0 := get?_size s.heap
  have hcells : (callEnvC fd s.heap.objs.size f).cells = mkC cn s.heap.objs.size := hcf _
  refine ⟨⟨_, x.toInCall.ns, fun y pv hk hy => ?_⟩, fun y c hc => ⟨_, x.cell _ _ hc, fun pv hy => ?_⟩, ⟨S.fresh n0, S.baseNone n0⟩, fun p hp => ?_⟩
  · obtain ⟨v, hv, rv⟩ := lookup_zip hps r hy
    exact ⟨v, by rw [bindL_at, if_pos hk, hv]; rfl, rv.keep fun a vs k e => x.toInCall.keep _ _ e⟩
  · obtain ⟨v, hv, rv⟩ := lookup_zip hps r hy
    refine ⟨v, ?_, rv.keep fun a vs k e => x.toInCall.keep _ _ e⟩
    rw [hcells] at hc
    obtain ⟨_, z, hz, e⟩ := mkC_le (Mine.mem_of_lookup hc)
    have hkc : (callEnvC fd s.heap.objs.size f).kindOf (Str.ofString y) = some .cell := by
      have := hck z hz
      rw [← e] at this
      exact this
    rw [bindC_at, if_neg (by rw [hkc]; decide), hv]; rfl
  · have hl : (callEnvC fd s.heap.objs.size f).cells.lookup p.1 = some p.2 := by rw [hcells] at hp ⊢; exact mkC_look hcn hp
    obtain ⟨o, ho, hd⟩ := x.cell _ _ hl
    have ab : s.heap.objs.size < p.2 := x.above p.1 p.2 hp
    have np : s.heap.get? p.2 = none := by
      cases q : s.heap.get? p.2 with
      | none => rfl
      | some o => exact absurd (Heap.lt_size q) (Nat.not_lt.mpr (Nat.le_of_lt ab))
    refine ⟨S.fresh np, S.baseNone np, fun o' e => ?_, by rw [ho]; simp, Nat.ne_of_gt ab⟩
    rw [ho] at e; cases e
    rintro ⟨_, vs, k, e⟩
    rw [hd] at e; cases e
theorem FnOk.cells {K : Frag} (G : Gd prog w K B) {m : Nat} {f : Addr} {oc : Value} {od : Option Addr} {osl : Array (Option Value)} {fd : FuncData} {body : List Stmt} {ps cn : List String} {dv : List Value} {dp : List PV} {d : SWP} (ho : K.lookup f = some ⟨oc, od, .func fd, osl⟩) (hbody : fd.body = .stmts body) (hcd : codeIn K fd.code fd.qualname = true) (hclo : fd.closure = [])
    (hcf : ∀ L, cellsFrom (L + 1) fd.scope.names [] = mkC cn L) (hcn : cn.Nodup) (hck : ∀ x ∈ cn, fd.scope.names.lookup (Str.ofString x) = some .cell)
    (hps : ps.Nodup) (hloc : ∀ p ∈ ps, fd.scope.names.lookup (Str.ofString p) = some .local ∨ p ∈ cn) (hdv : ∀ h, VRs B h dv dp) (hbind : ∀ (s : Shared) (vals : List Value), K.In s.heap → vals.length + dv.length = ps.length → BindsTo s fd ⟨vals, []⟩ ((ps.map Str.ofString).zip (vals ++ dv)))
    (hd : ∀ L, SsOk prog w B m (callEnvC fd L f) body d) (hco : fd.scope.isCoroutine = false := by rfl) (hgen : fd.scope.isGenerator = false := by rfl) (hk : fd.scope.kind = .function := by rfl) : FnOk prog w B (m + 1) f (fnPD ps dp d) := by
  rintro A σ s vals args Q R hA ⟨hlen, hQ⟩ r S hR
  have hdl := (hdv s.heap).length
  have hl : vals.length + dv.length = ps.length := by rw [r.length, hdl]; exact hlen
  have X : K.In s.heap := G.X.keeps S.base
  refine codeAny_call_cellsD (fd := fd) (body := body) (binds := (ps.map Str.ofString).zip (vals ++ dv)) (by have := hA.depth; lia) (X _ _ ho) rfl (G.lim.keeps S.base) (codeRec_of X hcd) hbody (hbind s vals X hl) hclo (fun x hx => ?_) (fun s₁ x => ?_) hco hgen hk
  · obtain ⟨p, hp, e⟩ := List.mem_map.mp (List.of_mem_zip hx).1
    rw [← e]
    rcases hloc p hp with h | h
    · exact .inl h
    · refine .inr ⟨hck p h, ?_⟩
      rw [hcf]
      have : ∀ {cn : List String} {L : Nat}, p ∈ cn → ((mkC cn L).lookup (Str.ofString p)).isSome = true := fun {cn} {L} => by
        induction cn with
        | nil => intro h; cases h
        | cons y r ih =>
          intro h
          rw [mkC, List.lookup_cons]
          split
          · rfl
          · rename_i q
            rcases List.mem_cons.mp h with z | z
            · subst z; simp at q
            · exact ih z
      exact this h
  · have n0 := get?_size s.heap
    have F₀ : FR B s₁.heap σ (callEnvC fd s.heap.objs.size f) (bindEnv ps (args ++ dp)) := FR.call S (r.append (hdv _)) hcf hcn hck hps x
    have hk₀ := x.toInCall.keep
    obtain ⟨h₀, tk₀, rfl⟩ := x.toInCall.same
    have S₀ : St prog w B h₀ σ := S.ofKeep hk₀
    have hA' : AOk m (A.deeper (callEnvC fd s.heap.objs.size f)) := ⟨by have := hA.depth; show A.depth + 1 + 4 * m + 4 ≤ _; lia, by have := hA.units; show A.units + 3 + 100 * m + 200 ≤ _; lia, hA.hand⟩
    have hown : ∀ b, ownOf (callEnvC fd s.heap.objs.size f) b → s.heap.get? b = none := by
      rintro b (rfl | ⟨p, hp, rfl⟩)
      · exact n0
      · have ab : s.heap.objs.size < p.2 := x.above p.1 p.2 hp
        cases q : s.heap.get? p.2 with
        | none => rfl
        | some o => exact absurd (Heap.lt_size q) (Nat.not_lt.mpr (Nat.le_of_lt ab))
    refine Does.go (hd s.heap.objs.size (A.deeper (callEnvC fd s.heap.objs.size f)) _ σ _ { s with heap := h₀, toks := tk₀ } hA' hQ S₀ F₀) (fun fl pb σ₁ h₁ tk₁ S₁ y rr q => ?_)
    obtain ⟨pf, ρ₁⟩ := pb
    obtain ⟨rf, F₁⟩ := rr
    have y' : Step noO σ s.heap σ₁ h₁ := y.outer hk₀ hown
    cases rf with
    | next => exact hR _ _ ⟨.none, σ₁, h₁, tk₁, rfl, S₁, y', .none, q⟩
    | ret rv => exact hR _ _ ⟨_, σ₁, h₁, tk₁, rfl, S₁, y', rv, q⟩
    | brk => exact q.elim
    | cont => exact q.elim
end
end Mine
namespace Mine
open PySem PySem.W PySem.Calls PyProof.Rows PySem.Spec
inductive SV : List (Str × Value) → List (Str × Str) → Prop
  | nil : SV [] []
  | cons {x y t xs l} : SV xs l → SV ((x, .str y t) :: xs) ((x, y) :: l)
theorem SV.append {xs ys : List (Str × Value)} {l k : List (Str × Str)} (h : SV xs l) (r : SV ys k) : SV (xs ++ ys) (l ++ k) := by
  induction h with
  | nil => exact r
  | cons _ ih => exact .cons ih
theorem SV.snoc {x y : Str} {t : Tok} {xs : List (Str × Value)} {l : List (Str × Str)} (h : SV xs l) : SV (xs ++ [(x, .str y t)]) (l ++ [(x, y)]) := h.append (.cons .nil)
theorem SV.keys {xs : List (Str × Value)} {l : List (Str × Str)} (h : SV xs l) : xs.map (·.1) = l.map (·.1) := by
  induction h with
  | nil => rfl
  | cons _ ih => exact congrArg (_ :: ·) ih
theorem SV.length {xs : List (Str × Value)} {l : List (Str × Str)} (h : SV xs l) : xs.length = l.length := by
  induction h with
  | nil => rfl
  | cons _ ih => exact congrArg (· + 1) ih
section
variable {prog : Program} {w : World} {B : Heap} {n : Nat} {env : Env}
noncomputable def ConstT (prog : Program) (w : World) (m : Sem Value) (x : Str) : Prop := ∀ (A : Around) (E : Value → Shared → Prop) (s : Shared) (Q : Value → Shared → Prop), (∀ t tk, Q (.str x t) { s with toks := tk }) → wpAny (model prog w) A m Q E s
inductive PairsC (prog : Program) (w : World) : List (Sem Value × Sem Value) → List (Str × Str) → Prop
  | nil : PairsC prog w [] []
  | cons {k v x y ps l} : ConstT prog w k x → ConstT prog w v y → PairsC prog w ps l → PairsC prog w ((k, v) :: ps) ((x, y) :: l)
theorem PairsC.snoc {k v : Sem Value} {x y : Str} (hk : ConstT prog w k x) (hv : ConstT prog w v y) {ps : List (Sem Value × Sem Value)} {l : List (Str × Str)} (h : PairsC prog w ps l) : PairsC prog w (ps ++ [(k, v)]) (l ++ [(x, y)]) := by
  induction h with
  | nil => exact .cons hk hv .nil
  | cons a b _ ih => exact .cons a b ih
theorem stored_new {acc : List (Str × Value)} {x : Str} {v : Value} (h : x ∉ acc.map (·.1)) : stored acc x v = acc ++ [(x, v)] := by
  rw [stored, if_neg]
  rw [List.any_eq_true]
  rintro ⟨kv, hkv, he⟩
  exact h (List.mem_map.mpr ⟨kv, hkv, of_decide_eq_true he⟩)
theorem long_pairs {A : Around} {E : Value → Shared → Prop} {d : Addr} (f : Sem Value × Sem Value → PUnit → Sem (ForInStep PUnit)) (hf : ∀ k v u, f (k, v) u = (do let kv ← k; let vv ← holding [kv] v; holding [kv, vv] (dictSet d kv vv); pure (.yield ⟨⟩)))
    {ps : List (Sem Value × Sem Value)} {l : List (Str × Str)} (h : PairsC prog w ps l) : ∀ (la : List (Str × Str)) (acc : List (Str × Value)) (s : Shared) (Q : PUnit → Shared → Prop), SV acc la → ((la ++ l).map (·.1)).Nodup → s.heap.DictOf (strKind prog w) d acc → la.length + l.length ≤ sizeLine →
      (∀ h' tk xs, SV xs (la ++ l) → h'.DictOf (strKind prog w) d xs → Heap.SameBut d s.heap h' → Q ⟨⟩ { s with heap := h', toks := tk }) → wpAny (model prog w) A (forIn ps ⟨⟩ f) Q E s := by
  induction h with
  | nil =>
    intro la acc s Q hs hn hd hz hQ
    rw [List.forIn_nil]
    exact wpAny_pure (hQ s.heap s.toks acc ((List.append_nil la).symm ▸ hs) hd (Heap.SameBut.refl _ _))
  | @cons k v x y ps l hk hv r ih =>
    intro la acc s Q hs hn hd hz hQ
    rw [List.forIn_cons, hf]
    have hz' : la.length + (l.length + 1) ≤ sizeLine := hz
    have fresh : x ∉ acc.map (·.1) := by
      rw [hs.keys]
      rw [List.map_append, List.nodup_append] at hn
      exact fun z => hn.2.2 x z x (.head _) rfl
    refine wpAny_bind (wpAny_bind (hk _ _ _ _ fun t tk => wpAny_bind (wpAny_holding (hv _ _ _ _ fun u tk₂ => wpAny_bind (wpAny_holding ?_)))))
    refine wpAny_dictSet_pairs (knd := strKind prog w) (k := x) (hsz := by rw [hs.length]; lia) (strKind_is prog w x t) hd fun h₁ hd₁ hs₁ => wpAny_pure ?_
    rw [stored_new fresh] at hd₁
    have e : la ++ [(x, y)] ++ l = la ++ (x, y) :: l := List.append_assoc ..
    refine ih (la ++ [(x, y)]) (acc ++ [(x, .str y u)]) _ Q hs.snoc (by rw [e]; exact hn) hd₁ (by rw [List.length_append, Nat.add_assoc, Nat.add_comm _ l.length]; exact hz') fun h' tk xs hx hd' hs' => ?_
    exact hQ h' tk xs (e ▸ hx) hd' (hs₁.trans hs')
theorem eval_pairs {A : Around} {E : Value → Shared → Prop} {ps : List (Sem Value × Sem Value)} {l : List (Str × Str)} (h : PairsC prog w ps l) : ∀ {s : Shared} {Q : List (Value × Value) → Shared → Prop},
    (∀ vs xs tk, Carries (strKind prog w) vs xs → SV xs l → Q vs { s with toks := tk }) → wpAny (model prog w) A (evalPairs ps) Q E s := by
  induction h with
  | nil => exact fun {s} _ h => evalPairs_nil (h [] [] s.toks trivial .nil)
  | @cons k v x y ps l hk hv r ih =>
    exact fun {s} _ h => evalPairs_cons (hk _ _ _ _ fun t tk => hv _ _ _ _ fun u tk₂ => ih fun vs xs tk₃ hc hs => h _ ((x, .str y u) :: xs) _ ⟨strKind_is prog w x t, rfl, hc⟩ (.cons hs))
theorem sub_dict {A : Around} {E : Value → Shared → Prop} {ps : List (Sem Value × Sem Value)} {l : List (Str × Str)} {s : Shared} {Q : Addr → Shared → Prop} (h : PairsC prog w ps l) (hn : (l.map (·.1)).Nodup) (hz : l.length ≤ sizeLine)
    (hQ : ∀ h' tk xs, SV xs l → h'.DictOf (strKind prog w) s.heap.objs.size xs → (∀ b o, s.heap.get? b = some o → h'.get? b = some o) → Q s.heap.objs.size { s with heap := h', toks := tk }) : wpAny (model prog w) A (subDict ps) Q E s := by
  by_cases hl : ps.length ≤ 15
  · refine wpAny_subDict (knd := strKind prog w) hl (eval_pairs h fun vs xs tk hc hs => ⟨xs, hc, Heap.DictOf.new _, fun h' hm hb => ?_⟩)
    rw [merged_nil_of_nodup xs (by rw [hs.keys]; exact hn)] at hm
    exact hQ h' _ xs hs hm fun b o e => hb.extBut b o (Nat.ne_of_lt (Heap.lt_size e)) (Heap.get?_push_of_some _ e)
  · unfold subDict
    refine wpAny_bind (wpAny_alloc ?_)
    refine wpAny_bind (wpAny_holding ?_)
    rw [if_neg hl]
    refine wpAny_bind (wpAny_rule ?_)
    refine wpAny_bind (long_pairs _ (fun k v u => rfl) h [] [] _ _ .nil hn (Heap.DictOf.new s.heap) (by rw [List.length_nil, Nat.zero_add]; exact hz) fun h' tk xs hx hd hb => ?_)
    refine wpAny_pure (wpAny_pure ?_)
    exact hQ h' tk xs hx hd fun b o e => hb.extBut b o (Nat.ne_of_lt (Heap.lt_size e)) (Heap.get?_push_of_some _ e)
theorem put_new {A : Around} {E : Value → Shared → Prop} {s : Shared} {d : Addr} {kvs : List (Str × Value)} {k : Str} {key v : Value} {Q : Unit → Shared → Prop} (hkey : (strKind prog w).is k key = true) (hm : s.heap.DictOf (strKind prog w) d kvs) (hf : k ∉ kvs.map (·.1))
    (hQ : ∀ h', h'.DictOf (strKind prog w) d (kvs ++ [(k, v)]) → Heap.SameBut d s.heap h' → Q () { s with heap := h' }) (hsz : kvs.length ≤ sizeLine) : wpAny (model prog w) A (dictPut d ((strKind prog w).hash k) key v) Q E s := by
  obtain ⟨o, es, ep, ho, hc, hd, hk, hp, hn⟩ := hm
  have hes : es.size ≤ sizeLine := by
    have e1 := hp.length
    have e2 : es.toList.length = es.size := by simp
    lia
  unfold dictPut
  refine wpAny_bind (wpAny_dictFind_of hkey ho hd hk ?_)
  have hidx : (es.findIdx? fun e => (strKind prog w).is k e.key) = none := by
    have : (kvs.findIdx? fun kv => decide (kv.1 = k)) = none := by
      rw [List.findIdx?_eq_none_iff]
      intro x hx
      exact decide_eq_false fun e => hf (List.mem_map.mpr ⟨x, hx, e⟩)
    rw [← this, ← hp.findIdx k]
    obtain ⟨l⟩ := es
    simp
  rw [hidx]
  refine wpAny_updateDictKeys (hz := hes) ho hd (hQ _ ⟨_, _, ep + 1, Heap.get?_update_self _ ho (Obj.isFreed_of_dict (Obj.data_mapDictKeys hd _)), hc.mapDictKeys _, Obj.data_mapDictKeys hd _, hk.push hkey _, ?_, ?_⟩ (Heap.SameBut.update ..))
  · have := hp.append hkey ((strKind prog w).hash k) v
    obtain ⟨l⟩ := es
    simpa using this
  · rw [List.map_append, List.nodup_append]
    refine ⟨hn, by simp, ?_⟩
    intro a ha b hb
    simp only [List.map_cons, List.map_nil, List.mem_singleton] at hb
    subst hb
    exact fun e => hf (e ▸ ha)
inductive MgI (prog : Program) (w : World) (d o : Addr) (kvs more : List (Str × Value)) (oo : Obj) (n : Nat) (s : Shared) (rest : List Nat) (s' : Shared) : Prop
  | mk (h' : Heap) (i : Nat) (e : s' = { s with heap := h' }) (hr : rest = List.range' i (n - i)) (hi : i ≤ n) (hd : h'.DictOf (strKind prog w) d (kvs ++ more.take i)) (ho : h'.get? o = some oo) (hs : Heap.SameBut d s.heap h')
theorem merge_new {A : Around} {E : Value → Shared → Prop} {s : Shared} {d o : Addr} {kvs more : List (Str × Value)} {Q : Unit → Shared → Prop} (hdo : d ≠ o) (hoS : (o == sysModules) = false)
    (hd : s.heap.DictOf (strKind prog w) d kvs) (ho : s.heap.DictOf (strKind prog w) o more) (hne : kvs ≠ []) (hn : ((kvs ++ more).map (·.1)).Nodup)
    (hQ : ∀ h', h'.DictOf (strKind prog w) d (kvs ++ more) → Heap.SameBut d s.heap h' → Q () { s with heap := h' })
    (hsz : kvs.length + more.length ≤ sizeLine) : wpAny (model prog w) A (mergeMapping d (.ref o) false) Q E s := by
  obtain ⟨od, esd, epd, hod, hcd, hdd, hkd, hpd, hnd⟩ := id hd
  obtain ⟨oo, eso, epo, hoo, hco, hdo', hko, hpo, hno⟩ := id ho
  have hlen : more.length = eso.size := by rw [← hpo.length]; simp
  have hemp : esd.isEmpty = false := by
    have h1 := hpd.length
    cases hz : esd.isEmpty with
    | false => rfl
    | true =>
      rw [Array.isEmpty_iff] at hz
      rw [hz] at h1
      exact absurd (List.length_eq_zero_iff.mp (by simpa using h1.symm)) hne
  unfold mergeMapping
  refine wpAny_bind (wpAny_isInstance ho.typeIs isSubtype_dict_dict ?_)
  dsimp only
  rw [if_pos rfl]
  refine wpAny_bind (wpAny_specialOf ho.typeIs F.slot_dict_iter.lookup (wpAny_bind (wpAny_pure ?_)))
  simp only [beq_self_eq_true]
  rw [if_neg (by rw [hoS]; exact Bool.false_ne_true)]
  refine wpAny_bind (wpAny_dictEntries hod hdd ?_)
  rw [if_neg (by rw [hemp]; exact Bool.false_ne_true)]
  refine wpAny_bind (wpAny_dictEntries hoo hdo' ?_)
  refine wpAny_bind (wpAny_dictEpoch hoo hdo' ?_)
  refine wpAny_bind ?_
  refine wpAny_forIn_list _
    (fun rest _ s' => MgI prog w d o kvs more oo eso.size s rest s')
    _ ?_ ?_ _ _ ⟨s.heap, 0, rfl, by simp [List.range_eq_range'], Nat.zero_le _, by simpa using hd, hoo, Heap.SameBut.refl _ _⟩
  · rintro x rest b s' ⟨h', i, rfl, hr, hi, hd', hoo', hs'⟩
    have hlt : i < eso.size := by
      rcases Nat.lt_or_ge i eso.size with h | h
      · exact h
      · rw [Nat.sub_eq_zero_of_le h] at hr; simp at hr
    obtain ⟨rfl, hrest⟩ : x = i ∧ rest = List.range' (i + 1) (eso.size - (i + 1)) := by
      have e : eso.size - i = (eso.size - (i + 1)) + 1 := by lia
      rw [e, List.range'_succ] at hr
      injection hr with h1 h2
      exact ⟨h1, h2⟩
    refine wpAny_bind (wpAny_dictEntries hoo' hdo' ?_)
    rw [Array.getElem?_eq_getElem hlt]
    obtain ⟨⟨k, v⟩, hkv⟩ : ∃ kv, more[x]? = some kv := ⟨more[x]'(by rw [hlen]; exact hlt), List.getElem?_eq_getElem _⟩
    obtain ⟨hkey, hval⟩ := hpo.get? (e := eso[x]) (by simp [hlt]) hkv
    obtain ⟨k', hkey', hhash⟩ := hko eso[x] (Array.getElem_mem hlt)
    obtain rfl : k' = k := (strKind prog w).inj _ _ _ hkey' hkey
    have fresh : k' ∉ (kvs ++ more.take x).map (·.1) := by
      have hx : x < more.length := by lia
      have e : more = more.take x ++ (k', v) :: more.drop (x + 1) := by
        rw [List.getElem?_eq_getElem hx] at hkv
        simp only [Option.some.injEq] at hkv
        rw [← hkv, List.getElem_cons_drop, List.take_append_drop]
      rw [e, ← List.append_assoc, List.map_append, List.nodup_append] at hn
      exact fun z => hn.2.2 k' z k' (by simp) rfl
    have hmx : (kvs ++ more.take x).length ≤ sizeLine := by
      rw [List.length_append, List.length_take]; lia
    dsimp only
    refine wpAny_bind (wpAny_holding ?_)
    rw [if_neg Bool.false_ne_true, hhash, hval]
    refine put_new hkey hd' fresh (fun h'' hd'' hs'' => ?_) hmx
    have hoo'' : h''.get? o = some oo := (hs''.2 o (Ne.symm hdo)).trans hoo'
    refine wpAny_bind (wpAny_dictEpoch hoo'' hdo' ?_)
    rw [if_neg (by simp)]
    refine wpAny_pure ⟨h'', x + 1, rfl, hrest, hlt, ?_, hoo'', hs'.trans hs''⟩
    rw [List.take_add_one, hkv, ← List.append_assoc]
    exact hd''
  · rintro b s' ⟨h', i, rfl, hr, hi, hd', hoo', hs'⟩
    have hin : i = eso.size := by
      rcases Nat.lt_or_ge i eso.size with h | h
      · have e : eso.size - i = (eso.size - (i + 1)) + 1 := by lia
        rw [e, List.range'_succ] at hr; exact nomatch hr
      · exact Nat.le_antisymm hi h
    rw [hin, ← hlen, List.take_length] at hd'
    exact wpAny_pure (hQ h' hd' hs')
inductive DM (prog : Program) (w : World) (s : Shared) (l lr lrest : List (Str × Str)) : Option Addr → Shared → Prop
  | first : l = lr ++ lrest → DM prog w s l lr lrest none s
  | more (lm : List (Str × Str)) (xs : List (Str × Value)) (h' : Heap) (tk : Nat) : SV xs lm → lm ≠ [] → h'.DictOf (strKind prog w) s.heap.objs.size xs → (∀ b o, s.heap.get? b = some o → h'.get? b = some o) → l = lm ++ lr ++ lrest → DM prog w s l lr lrest (some s.heap.objs.size) { s with heap := h', toks := tk }
inductive DI (prog : Program) (w : World) (s : Shared) (l : List (Str × Str)) (rest : List (Option (Sem Value) × Sem Value)) (st : Option Addr × List (Sem Value × Sem Value)) (s' : Shared) : Prop
  | mk (prest : List (Sem Value × Sem Value)) (lr lrest : List (Str × Str)) (e : rest = prest.map (fun p => (some p.1, p.2))) (hr : PairsC prog w st.2 lr) (hp : PairsC prog w prest lrest) (h17 : st.2.length < 17) (hc : DM prog w s l lr lrest st.1 s')
theorem sub_more {A : Around} {E : Value → Shared → Prop} {s : Shared} {run : List (Sem Value × Sem Value)} {l lr lm lrest : List (Str × Str)} {xs : List (Str × Value)} {h' : Heap} {tk : Nat} {R : Option Addr → Shared → Prop} {H : Value → Sem Unit} (hn : (l.map (·.1)).Nodup) (hz : l.length ≤ sizeLine) (h3 : 3 < s.heap.objs.size)
    (hr : PairsC prog w run lr) (hs : SV xs lm) (hm : lm ≠ []) (hd : h'.DictOf (strKind prog w) s.heap.objs.size xs) (hk : ∀ b o, s.heap.get? b = some o → h'.get? b = some o) (hl : l = lm ++ lr ++ lrest)
    (hR : ∀ h'' tk' ys, SV ys (lm ++ lr) → h''.DictOf (strKind prog w) s.heap.objs.size ys → (∀ b o, s.heap.get? b = some o → h''.get? b = some o) → R (some s.heap.objs.size) { s with heap := h'', toks := tk' }) :
    wpAny (model prog w) A (do
      let sub ← holding [.ref s.heap.objs.size] (subDict run)
      (holding [.ref s.heap.objs.size, .ref sub] (mergeMapping s.heap.objs.size (.ref sub) false)).onRaise H
      pure (some s.heap.objs.size)) R E { s with heap := h', toks := tk } := by
  rw [hl] at hn hz
  rw [List.map_append, List.map_append] at hn
  rw [List.length_append, List.length_append] at hz
  have n1 := (List.nodup_append.mp hn).1
  have hz' := Nat.le_trans (Nat.le_add_right _ _) hz
  refine wpAny_bind (wpAny_holding (sub_dict hr (List.nodup_append.mp n1).2.1 (Nat.le_trans (Nat.le_add_left _ _) hz') fun h₁ tk₁ ys hs₁ hd₁ hk₁ => ?_))
  obtain ⟨o, es, ep, ho, r⟩ := id hd
  have hdl := Heap.lt_size ho
  refine wpAny_bind (wpAny_onRaise (wpAny_holding (merge_new (kvs := xs) (more := ys) (Nat.ne_of_lt hdl) (beq_eq_false_iff_ne.mpr (Nat.ne_of_gt (Nat.lt_trans (Nat.lt_trans (by decide) h3) hdl))) ⟨o, es, ep, hk₁ _ _ ho, r⟩ hd₁ (fun e => hm (List.length_eq_zero_iff.mp (by rw [← hs.length, e]; rfl))) (by rw [List.map_append, hs.keys, hs₁.keys]; exact n1) (fun h₂ hd₂ hb₂ => wpAny_pure ?_) (by rw [hs.length, hs₁.length]; exact hz'))))
  exact hR h₂ _ _ (hs.append hs₁) hd₂ fun b o e => hb₂.extBut b o (Nat.ne_of_lt (Heap.lt_size e)) (hk₁ b o (hk b o e))
theorem flush_all {A : Around} {E : Value → Shared → Prop} {s s' : Shared} {run : List (Sem Value × Sem Value)} {l lr lrest : List (Str × Str)} {main : Option Addr} {R : Option Addr → Shared → Prop} {H : Addr → Value → Sem Unit} (hn : (l.map (·.1)).Nodup) (hz : l.length ≤ sizeLine) (h3 : 3 < s.heap.objs.size)
    (hr : PairsC prog w run lr) (hne : lr ≠ []) (hc : DM prog w s l lr lrest main s') (hR : ∀ s'', DM prog w s l [] lrest (some s.heap.objs.size) s'' → R (some s.heap.objs.size) s'') :
    wpAny (model prog w) A (match main with
      | none => do let d ← subDict run; pure (some d)
      | some d => do
        let sub ← holding [.ref d] (subDict run)
        (holding [.ref d, .ref sub] (mergeMapping d (.ref sub) false)).onRaise (H d)
        pure (some d)) R E s' := by
  cases hc with
  | first hl =>
    rw [hl] at hn hz
    rw [List.map_append] at hn
    rw [List.length_append] at hz
    refine wpAny_bind (sub_dict hr (List.nodup_append.mp hn).1 (Nat.le_trans (Nat.le_add_right _ _) hz) fun h₁ tk₁ ys hs₁ hd₁ hk₁ => wpAny_pure (hR _ ?_))
    exact .more lr ys h₁ tk₁ hs₁ hne hd₁ hk₁ (by rw [List.append_nil]; exact hl)
  | more lm xs h' tk hs hm hd hk hl =>
    exact sub_more hn hz h3 hr hs hm hd hk hl fun h'' tk' ys hs' hd' hk' => hR _ (.more _ ys h'' tk' hs' (fun e => hm (List.append_eq_nil_iff.mp e).1) hd' hk' (by rw [List.append_nil]; exact hl))
set_option maxHeartbeats 4000000 in
theorem display_all {A : Around} {E : Value → Shared → Prop} {s : Shared} {ps : List (Sem Value × Sem Value)} {l : List (Str × Str)} {Q : Value → Shared → Prop} (h : PairsC prog w ps l) (hn : (l.map (·.1)).Nodup) (hz : l.length ≤ sizeLine) (hne : l ≠ []) (h3 : 3 < s.heap.objs.size)
    (hQ : ∀ h' tk xs, SV xs l → h'.DictOf (strKind prog w) s.heap.objs.size xs → (∀ b o, s.heap.get? b = some o → h'.get? b = some o) → Q (.ref s.heap.objs.size) { s with heap := h', toks := tk }) : wpAny (model prog w) A (dictDisplay (ps.map fun p => (some p.1, p.2))) Q E s := by
  have fin : ∀ s', DM prog w s l [] [] (some s.heap.objs.size) s' → Q (.ref s.heap.objs.size) s' := by
    intro s' hc
    generalize hm : some s.heap.objs.size = m at hc
    cases hc with
    | first => cases hm
    | more lm xs h' tk hs _ hd hk hl =>
      rw [List.append_nil, List.append_nil] at hl
      subst hl
      exact hQ h' tk xs hs hd hk
  unfold dictDisplay
  dsimp only
  refine wpAny_bind (wpAny_forIn_list _ (DI prog w s l) _ ?_ ?_ _ _ ⟨ps, [], l, rfl, .nil, h, Nat.zero_lt_succ _, .first rfl⟩)
  · rintro x rest ⟨main, run⟩ s' ⟨prest, lr, lrest, hx, hr, hp, h17, hc⟩
    cases hp with
    | nil => cases hx
    | @cons k v kx vy prest lrest hk hv hp =>
      cases hx
      dsimp only at hr h17 hc ⊢
      have hr' := hr.snoc hk hv
      have hc' : DM prog w s l (lr ++ [(kx, vy)]) lrest main s' := by
        cases hc with
        | first hl => exact .first (by rw [List.append_assoc]; exact hl)
        | more lm xs h' tk hs hm hd hk hl => exact .more lm xs h' tk hs hm hd hk (by rw [List.append_assoc, List.append_assoc]; rw [List.append_assoc] at hl; exact hl)
      by_cases hz17 : ((run ++ [(k, v)]).length == 17) = true
      · rw [if_pos hz17, if_neg (by cases run <;> exact Bool.false_ne_true)]
        refine wpAny_bind (flush_all hn hz h3 hr' (fun e => nomatch (List.append_eq_nil_iff.mp e).2) hc' fun s'' hc'' => wpAny_pure ?_)
        exact ⟨prest, [], lrest, rfl, .nil, hp, Nat.zero_lt_succ _, hc''⟩
      · rw [if_neg hz17]
        refine wpAny_pure ⟨prest, _, lrest, rfl, hr', hp, ?_, hc'⟩
        rw [beq_iff_eq, List.length_append] at hz17
        rw [List.length_append]
        exact Nat.lt_of_le_of_ne h17 hz17
  · rintro ⟨main, run⟩ s' ⟨prest, lr, lrest, hx, hr, hp, h17, hc⟩
    cases hp with
    | cons hk hv hp => cases hx
    | nil =>
      dsimp only at hr h17 hc ⊢
      cases hr with
      | nil =>
        rw [if_pos (c := ([] : List (Sem Value × Sem Value)).isEmpty = true) rfl]
        cases hc with
        | first hl => exact absurd hl hne
        | more lm xs h' tk hs hm hd hk hl => exact wpAny_bind (wpAny_pure (wpAny_pure (fin _ (.more lm xs h' tk hs hm hd hk hl))))
      | cons hk hv hr =>
        rw [if_neg (by exact Bool.false_ne_true)]
        exact wpAny_bind (flush_all hn hz h3 (.cons hk hv hr) (List.cons_ne_nil _ _) hc fun s'' hc'' => wpAny_pure (fin _ hc''))
noncomputable abbrev RawC := (Str × Nat × Pos) × (Str × Nat × Pos)
noncomputable def rawK (q : List RawC) : List (Option Expr) := q.map fun c => some (.Constant (.str c.1.1) c.1.2.1 c.1.2.2)
noncomputable def rawV (q : List RawC) : List Expr := q.map fun c => .Constant (.str c.2.1) c.2.2.1 c.2.2.2
noncomputable def rawL (q : List RawC) : List (Str × Str) := q.map fun c => (c.1.1, c.2.1)
noncomputable def rawOf : List (Option Expr) → List Expr → List RawC
  | some (.Constant (.str x) k p) :: ks, .Constant (.str y) k' p' :: vs => ((x, k, p), (y, k', p')) :: rawOf ks vs
  | _, _ => []
theorem raw_pairs {env : Env} {pos : Pos} (q : List RawC) : (rawK q).all (·.isSome) = true ∧ (rawK q).length = (rawV q).length ∧ PairsC prog w (pairTrees (rawK q) (rawV q) env pos) (rawL q) := by
  induction q with
  | nil => exact ⟨rfl, rfl, .nil⟩
  | cons c q ih =>
    exact ⟨ih.1, congrArg (· + 1) ih.2.1, .cons (fun A E s Q hQ => Calls.Constant_str (hQ _ _)) (fun A E s Q hQ => wpAny_bind (Calls.Constant_str (wpAny_bind (wpAny_standAt (wpAny_pure (hQ _ _)))))) ih.2.2⟩
noncomputable def dDictS (l : List (Str × Str)) : EWP := fun _ σ Q => ∀ a, σ a = none → Q (.ref a) (σ.set a (.dict (l.map fun p => (DK.str p.1, PV.str p.2))))
theorem SV.rel {h : Heap} {xs : List (Str × Value)} {l : List (Str × Str)} (r : SV xs l) : ∃ ys : List (Str × Value × PV), xs = ys.map (fun x => (x.1, x.2.1)) ∧ (l.map fun p => (DK.str p.1, PV.str p.2)) = ys.map (fun x => (DK.str x.1, x.2.2)) ∧ ∀ x ∈ ys, VR B h x.2.1 x.2.2 := by
  induction r with
  | nil => exact ⟨[], rfl, rfl, fun _ h => nomatch h⟩
  | @cons x y t xs l _ ih =>
    obtain ⟨ys, e1, e2, e3⟩ := ih
    refine ⟨(x, .str y t, .str y) :: ys, congrArg (_ :: ·) e1, congrArg (_ :: ·) e2, fun z hz => ?_⟩
    rcases List.mem_cons.mp hz with rfl | hz
    · exact .str y t
    · exact e3 z hz
theorem EOk.dictS {q : List RawC} {pos : Pos} (hn : ((rawL q).map (·.1)).Nodup) (hne : rawL q ≠ []) (hz : (rawL q).length ≤ sizeLine) : EOk prog w B n env (.Dict (rawK q) (rawV q) pos) (dDictS (rawL q)) := by
  intro A ρ σ Q s hA hQ S F
  refine Does.mk fun E => ?_
  obtain ⟨h1, h2, h3⟩ := raw_pairs (prog := prog) (w := w) (env := env) (pos := pos) q
  rw [arm_eval_Dict, zip_pairTrees _ _ env pos h1 h2]
  obtain ⟨om, hm⟩ := S.main
  refine wpAny_bind (wpAny_standAt (display_all h3 hn hz hne (Heap.lt_size (S.base _ _ hm)) fun h' tk xs hs hd hk => ?_))
  obtain ⟨ys, e1, e2, e3⟩ := SV.rel (B := B) (h := h') hs
  obtain ⟨S', x'⟩ := S.putAt hk (.dict ((rawL q).map fun p => (DK.str p.1, PV.str p.2))) (.inr (.inr ⟨ys, e2, e1 ▸ hd, e3⟩))
  exact ⟨.ref _, _, h', tk, rfl, S', x' _, .ref _, hQ _ (S.fresh (get?_size _))⟩
end
end Mine
namespace Mine
open PySem PySem.W PySem.Calls PyProof.Rows PySem.Spec
noncomputable abbrev KO (env : Env) (x : String) (k : NameKind) : Prop := env.kindOf (Str.ofString x) = some k
noncomputable abbrev ND (x : String) : Prop := (Str.ofString x == ("__debug__" : Str)) = false
noncomputable def fdAt (K : Frag) (f : Addr) : FuncData := match K.lookup f with
  | some ⟨_, _, .func fd, _⟩ => fd
  | _ => default
noncomputable def bodyOf (fd : FuncData) : List Stmt := match fd.body with
  | .stmts b => b
  | _ => []
noncomputable def defOk (K : Frag) (f : Addr) : Bool := match K.lookup f with
  | some ⟨_, _, .func fd, _⟩ => (match fd.body with | .stmts _ => true | _ => false) && codeIn K fd.code fd.qualname && fd.closure.isEmpty && fd.scope.kind == .function && !fd.scope.isCoroutine && !fd.scope.isGenerator && fd.globals == mainGlobals && fd.builtins == builtinsNs
  | _ => false
noncomputable def plainNames (fd : FuncData) (ps : List String) : Bool := fd.scope.names.all (fun x => x.2 != .cell) && ps.all fun p => fd.scope.names.lookup (Str.ofString p) == some .local
inductive DefAt (K : Frag) (f : Addr) : Prop
  | mk (oc : Value) (od : Option Addr) (osl : Array (Option Value)) (h1 : K.lookup f = some ⟨oc, od, .func (fdAt K f), osl⟩) (h2 : (fdAt K f).body = .stmts (bodyOf (fdAt K f))) (h3 : codeIn K (fdAt K f).code (fdAt K f).qualname = true) (h4 : (fdAt K f).closure = []) (h5 : (fdAt K f).scope.kind = .function)
    (h6 : (fdAt K f).scope.isCoroutine = false) (h7 : (fdAt K f).scope.isGenerator = false) (h8 : (fdAt K f).globals = mainGlobals) (h9 : (fdAt K f).builtins = builtinsNs)
theorem body_stmts {fd : FuncData} (h : (match fd.body with | .stmts _ => true | _ => false) = true) : fd.body = .stmts (bodyOf fd) := by
  unfold bodyOf
  generalize fd.body = b at h ⊢
  cases b <;> first | rfl | cases h
theorem and_l {a b : Bool} (h : (a && b) = true) : a = true := ((Bool.and_eq_true a b).mp h).1
theorem and_r {a b : Bool} (h : (a && b) = true) : b = true := ((Bool.and_eq_true a b).mp h).2
theorem not_true {a : Bool} (h : (!a) = true) : a = false := by cases a; rfl; cases h
theorem defOk_get {K : Frag} {f : Addr} (h : defOk K f = true) : DefAt K f := by
  unfold defOk at h
  cases e : K.lookup f with
  | none => rw [e] at h; cases h
  | some o =>
    obtain ⟨oc, od, da, osl⟩ := o
    cases da with
    | func fd =>
      have e' : fdAt K f = fd := by unfold fdAt; rw [e]
      rw [e] at h
      dsimp only at h
      have h7 := and_l h
      have h6 := and_l h7
      have h5 := and_l h6
      have h4 := and_l h5
      have h3 := and_l h4
      have h2 := and_l h3
      refine ⟨oc, od, osl, e'.symm ▸ e, ?_, ?_, ?_, ?_, ?_, ?_, ?_, ?_⟩ <;> rw [e']
      · exact body_stmts (and_l h2)
      · exact and_r h2
      · exact List.isEmpty_iff.mp (and_r h3)
      · exact beq_iff_eq.mp (and_r h4)
      · exact not_true (and_r h5)
      · exact not_true (and_r h6)
      · exact beq_iff_eq.mp (and_r h7)
      · exact beq_iff_eq.mp (and_r h)
    | _ => rw [e] at h; cases h
section
variable {prog : Program} {w : World} {B : Heap} {n : Nat}
theorem callEnv_ok {K : Frag} {f L : Addr} (h : defOk K f = true) : EnvOk (callEnv (fdAt K f) L f) := by
  obtain ⟨oc, od, osl, h1, h2, h3, h4, h5, h6, h7, h8, h9⟩ := defOk_get h
  exact ⟨h5, h8, h9⟩
theorem callEnvC_ok {K : Frag} {f L : Addr} (h : defOk K f = true) : EnvOk (callEnvC (fdAt K f) L f) := by
  obtain ⟨oc, od, osl, h1, h2, h3, h4, h5, h6, h7, h8, h9⟩ := defOk_get h
  exact ⟨h5, h8, h9⟩
theorem FnOk.def {K : Frag} (G : Gd prog w K B) {m : Nat} {f : Addr} {ps : List String} {d : SWP} (hdo : defOk K f = true) (hnm : plainNames (fdAt K f) ps = true) (hps : ps.Nodup)
    (hbind : ∀ vals : List Value, vals.length = ps.length → bindArgs (fdAt K f) ⟨vals, []⟩ = pure ((ps.map Str.ofString).zip vals))
    (hd : ∀ L, EnvOk (callEnv (fdAt K f) L f) → SsOk prog w B m (callEnv (fdAt K f) L f) (bodyOf (fdAt K f)) d) : FnOk prog w B (m + 1) f (fnP ps d) := by
  obtain ⟨oc, od, osl, h1, h2, h3, h4, h5, h6, h7, h8, h9⟩ := defOk_get hdo
  simp only [plainNames, Bool.and_eq_true, List.all_eq_true, bne_iff_ne, beq_iff_eq] at hnm
  exact FnOk.plain G h1 h2 h3 h4 (fun x hx => hnm.1 x hx) hps (fun p hp => hnm.2 p hp) hbind (fun L => hd L (callEnv_ok hdo)) h6 h7 h5
theorem FnOk.mono {f : Addr} {F F' : FWP} (h : FnOk prog w B n f F) (hF : ∀ args σ Q, F' args σ Q → F args σ Q) : FnOk prog w B n f F' :=
  fun A σ s vals args Q R hA hQ r S hR => h A σ s vals args Q R hA (hF _ _ _ hQ) r S hR
theorem FnOk.up {m : Nat} {f : Addr} {F : FWP} (h : FnOk prog w B m f F) (hm : m ≤ n) : FnOk prog w B n f F :=
  fun A σ s vals args Q R hA hQ r S hR => h A σ s vals args Q R (hA.mono hm) hQ r S hR
variable {env : Env}
noncomputable def valTok : Option (Option Value) → Tok
  | some (some (.int _ t)) => t
  | _ => 0
noncomputable def valRef : Option (Option Value) → Addr
  | some (some (.ref a)) => a
  | _ => 0
noncomputable def objTok : Option Obj → Tok × Nat
  | some ⟨_, _, .seq vs n, _⟩ => (match vs.toList with | [.str _ t] => (t, n) | _ => (0, 0))
  | _ => (0, 0)
noncomputable abbrev globInt (K : Frag) (x : Str) (i : Int) : Prop := nsIn K mainGlobals x = some (some (.int i (valTok (nsIn K mainGlobals x))))
structure GlobTup (K : Frag) (x y : Str) : Prop where
  at' : nsIn K mainGlobals x = some (some (.ref (valRef (nsIn K mainGlobals x))))
  obj : K.lookup (valRef (nsIn K mainGlobals x)) = some (tupObj #[.str y (objTok (K.lookup (valRef (nsIn K mainGlobals x)))).1] (objTok (K.lookup (valRef (nsIn K mainGlobals x)))).2)
theorem EOk.globInt {K : Frag} {x : String} {pos : Pos} {i : Int} (G : Gd prog w K B) (X : EnvOk env) (hl : env.kindOf (Str.ofString x) = some .globalImplicit) (e : globInt K (Str.ofString x) i) (hd : (Str.ofString x == ("__debug__" : Str)) = false) : EOk prog w B n env (.Name (Str.ofString x) pos) (dVal (.int i)) :=
  EOk.global G X hl e (fun _ _ => .int _ _) hd
theorem EOk.globTup {K : Frag} {x : String} {pos : Pos} {y : Str} (G : Gd prog w K B) (X : EnvOk env) (hl : env.kindOf (Str.ofString x) = some .globalImplicit) (e : GlobTup K (Str.ofString x) y) (hd : (Str.ofString x == ("__debug__" : Str)) = false) : EOk prog w B n env (.Name (Str.ofString x) pos) (dVal (.tup [.str y])) :=
  EOk.global G X hl e.at' (fun _ kb => .tup (kb _ _ (G.X _ _ e.obj)) (.cons (.str _ _) .nil)) hd
theorem EnvOk.comp {scope : Scope} {cl : List (Str × Addr)} {C : Addr} (X : EnvOk env) (h : scope.kind = .function) : EnvOk (compEnvC scope cl C env) := ⟨h, X.glob, X.bui⟩
inductive CL (env : Env) : List (Str × Addr) → Prop
  | nil : CL env []
  | cons {x c r} : env.cells.lookup x = some c → CL env r → CL env ((x, c) :: r)
theorem CL.all {cl : List (Str × Addr)} (h : CL env cl) : ∀ p ∈ cl, env.cells.lookup p.1 = some p.2 := by
  induction h with
  | nil => intro p hp; cases hp
  | cons h1 h2 ih =>
    intro p hp
    rcases List.mem_cons.mp hp with rfl | hp
    · exact h1
    · exact ih p hp
noncomputable def scopeOk (scope : Scope) (cl : List (Str × Addr)) (x : Str) : Bool := scope.kind == .function && scope.names.all (fun y => y.2 != .cell) && scope.names.all (fun y => y.2 != .local || (scope.names.lookup y.1 == some .local && (y.1 == x || y.1 == Str.ofString ".0"))) && scope.names.lookup x == some .local && !cl.any (fun p => p.1 == x)
theorem CompScope.of {scope : Scope} {cl : List (Str × Addr)} {x : String} (h1 : closureFor scope env = pure cl) (h2 : scopeOk scope cl (Str.ofString x) = true) (h3 : CL env cl) : CompScope env scope cl x := by
  simp only [scopeOk, Bool.and_eq_true, beq_iff_eq, List.all_eq_true, bne_iff_ne, Bool.or_eq_true, Bool.not_eq_true', List.any_eq_false] at h2
  obtain ⟨⟨⟨⟨a1, a2⟩, a3⟩, a4⟩, a5⟩ := h2
  refine ⟨h1, a2, a1, fun y hy e => ?_, fun y hy e => ?_, a4, fun p hp => mem_of_lookup (h3.all p hp), fun y c e => h3.all _ (mem_of_lookup e), ?_⟩
  · rcases a3 y hy with z | z
    · exact absurd e z
    · exact z.1
  · rcases a3 y hy with z | z
    · exact absurd e z
    · exact z.2
  · rw [List.lookup_eq_none_iff]
    intro p hp
    rw [bne_iff_ne]
    exact fun e => a5 p hp e.symm
theorem CellsOk.of {cn : List String} {L : Nat} (h : env.cells = mkC cn L) : CellsOk env := by
  intro p hp q hq e
  rw [h] at hp hq
  exact mkC_inj hp hq e
noncomputable def cellNames (fd : FuncData) (ps cn : List String) : Bool := cn.all (fun x => fd.scope.names.lookup (Str.ofString x) == some .cell) && ps.all fun p => fd.scope.names.lookup (Str.ofString p) == some .local || cn.contains p
theorem FnOk.defC {K : Frag} (G : Gd prog w K B) {m : Nat} {f : Addr} {ps cn : List String} {dv : List Value} {dp : List PV} {d : SWP} (hdo : defOk K f = true) (hcf : ∀ L, cellsFrom (L + 1) (fdAt K f).scope.names [] = mkC cn L) (hcn : cn.Nodup) (hnm : cellNames (fdAt K f) ps cn = true) (hps : ps.Nodup)
    (hco : (fdAt K f).closure = []) (hdv : ∀ h, VRs B h dv dp) (hbind : ∀ (s : Shared) (vals : List Value), K.In s.heap → vals.length + dv.length = ps.length → BindsTo s (fdAt K f) ⟨vals, []⟩ ((ps.map Str.ofString).zip (vals ++ dv)))
    (hd : ∀ L, EnvOk (callEnvC (fdAt K f) L f) → SsOk prog w B m (callEnvC (fdAt K f) L f) (bodyOf (fdAt K f)) d) : FnOk prog w B (m + 1) f (fnPD ps dp d) := by
  obtain ⟨oc, od, osl, h1, h2, h3, h4, h5, h6, h7, h8, h9⟩ := defOk_get hdo
  simp only [cellNames, Bool.and_eq_true, List.all_eq_true, beq_iff_eq, Bool.or_eq_true, List.contains_iff_mem] at hnm
  exact FnOk.cells G h1 h2 h3 h4 hcf hcn (fun x hx => hnm.1 x hx) hps (fun p hp => hnm.2 p hp) hdv hbind (fun L => hd L (callEnvC_ok hdo)) h6 h7 h5
noncomputable def dictOf (b : List Stmt) : (List (Option Expr) × List Expr) × (Pos × Pos) := match b with
  | [.Return (some (.Dict ks vs p)) q] => ((ks, vs), (p, q))
  | _ => (([], []), (default, default))
noncomputable def rawB (q : List RawC) (d : Pos × Pos) : List Stmt := [.Return (some (.Dict (rawK q) (rawV q) d.1)) d.2]
noncomputable def d_shapes (l : List (Str × Str)) : SWP := dSeq (dRet (dDictS l)) dEnd
theorem shapes_at {q : List RawC} {d : Pos × Pos} {b : List Stmt} (hb : b = rawB q d) (hnd : ((rawL q).map (·.1)).Nodup) (hne : rawL q ≠ []) (hle : (rawL q).length ≤ sizeLine) : SsOk prog w B n env b (d_shapes (rawL q)) := by
  subst hb
  exact SsOk.cons (SOk.ret (EOk.dictS hnd hne hle)) SsOk.nil
theorem EOk.compX (X : EnvOk env) {x : String} {px pos : Pos} {elt iter : Expr} {ifs : List Expr} {scope : Scope} {cl : List (Str × Addr)} {t : TWP} {d : EWP} {dI : ITWP} (hi : ItOk prog w B n env iter dI)
    (CS : CompScope env scope cl x) (ht : ∀ C, EnvOk (compEnvC scope cl C env) → TsOk prog w B n (compEnvC scope cl C env) ifs t) (hd : ∀ C, EnvOk (compEnvC scope cl C env) → EOk prog w B n (compEnvC scope cl C env) elt d) (hs : ∀ x, foldedSetIterable iter env x = pure x := by intro _; rfl) :
    EOk prog w B n env (.ListComp elt [⟨.Name (Str.ofString x) px, iter, ifs, 0⟩] scope pos) (dComp x t d dI) := EOk.comp hi CS (fun C => ht C (X.comp CS.kind)) (fun C => hd C (X.comp CS.kind)) hs
theorem SOk.compX (X : EnvOk env) {x z : String} {px pz pos spos : Pos} {elt iter : Expr} {ifs : List Expr} {scope : Scope} {cl : List (Str × Addr)} {t : TWP} {d : EWP} {dI : ITWP} (hi : ItOk prog w B n env iter dI)
    (CS : CompScope env scope cl x) (ht : ∀ C, EnvOk (compEnvC scope cl C env) → TsOk prog w B n (compEnvC scope cl C env) ifs t) (hd : ∀ C, EnvOk (compEnvC scope cl C env) → EOk prog w B n (compEnvC scope cl C env) elt d) (hz : StoreOk env z) (hsw : swapsWith (.ListComp elt [⟨.Name (Str.ofString x) px, iter, ifs, 0⟩] scope pos) (some (.Name (Str.ofString z) pz)) spos.line env = pure true := by rfl)
    (hs : ∀ x, foldedSetIterable iter env x = pure x := by intro _; rfl) :
    SOk prog w B n env (.Assign [.Name (Str.ofString z) pz] (.ListComp elt [⟨.Name (Str.ofString x) px, iter, ifs, 0⟩] scope pos) spos) (dAssign z (dComp x t d dI)) := SOk.comp hi CS (fun C => ht C (X.comp CS.kind)) (fun C => hd C (X.comp CS.kind)) hz X.kind hsw hs
noncomputable def plOf (o : Expr) (env : Env) : Sem Bool := do
  let b ← importBound o env
  pure (b.getD true)
theorem methForm {o : Expr} {x : Str} {apos pos : Pos} {args : List Expr} (h1 : attributeBase o x env (eval o env) = eval o env) (h2 : methodCallForm args.length (backTo pos (starEach args env)) [] = true) (h3 : (apos.endLine == pos.line) = true) : MethForm env o x apos pos args (plOf o env) := by
  have e : eval (.Call (.Attribute o x apos) args [] pos) env = (do
    let ov ← attributeBase o x env (eval o env)
    standAt apos.atName
    methodCall o x apos pos env ov (args.length + ([] : List Keyword).length) (backTo pos (starEach args env)) (backToKw pos (keywordEach [] env))) := arm_eval_Call o x apos args [] pos env
  unfold MethForm
  rw [e, h1]
  have hk : backToKw pos (keywordEach [] env) = [] := rfl
  rw [hk]
  have hl : args.length + ([] : List Keyword).length = args.length := rfl
  rw [hl]
  unfold methodCall
  simp only [h2]
  unfold calleeOf methodCallPos
  simp only [h3, Bool.not_true, Bool.false_or, if_true, pure_bind]
  rfl
theorem binds3 {s : Shared} {fd : FuncData} {T : Addr} {o : Obj} {dv : Value} {n : Nat} (h1 : fd.params.posonlyargs = []) (h2 : fd.params.args.map (·.arg) = [Str.ofString "block", Str.ofString "base", Str.ofString "table"]) (h3 : fd.params.vararg = none) (h4 : fd.params.kwonlyargs = []) (h5 : fd.params.kwarg = none)
    (hd : fd.defaults = .ref T) (ho : s.heap.get? T = some o) (hs : o.data = .seq #[dv] n) (a0 a1 : Value) : BindsTo s fd ⟨[a0, a1], []⟩ [(Str.ofString "block", a0), (Str.ofString "base", a1), (Str.ofString "table", dv)] := by
  obtain ⟨name, qual, ⟨po, ar, va, ko, kd, ka, df⟩, body, scope, gl, clo, defs, kwd, doc, pm, ann, cd, ct, bu⟩ := fd
  simp only at h1 h2 h3 h4 h5 hd
  subst h1 h3 h4 h5 hd
  match ar, h2 with
  | [⟨x, xa, xp⟩, ⟨y, ya, yp⟩, ⟨z, za, zp⟩], h2 =>
    simp only [List.map_cons, List.map_nil, List.cons.injEq, and_true] at h2
    obtain ⟨rfl, rfl, rfl⟩ := h2
    exact BindsTo.of_defaults rfl ho hs rfl rfl
end
end Mine
namespace Mine
open PySem PySem.W PySem.Calls PyProof.Rows PySem.Spec
noncomputable abbrev KH (w : World) : Frag := hd.heap_1 w.params
noncomputable abbrev cE (w : World) (L a : Addr) : Env := callEnv (fdAt (KH w) a) L a
noncomputable abbrev NS (w : World) (x : String) (v : Option (Option Value)) : Prop := nsIn (KH w) mainGlobals (Str.ofString x) = v
section
variable {prog : Program} {w : World} {B : Heap}
theorem assemble_binds {s : Shared} (H : (KH w).In s.heap) (a0 a1 : Value) : BindsTo s (fdAt (KH w) 307) ⟨[a0, a1], []⟩ ((["block", "base", "table"].map Str.ofString).zip ([a0, a1] ++ [.none])) :=
  binds3 (T := 302) (o := ⟨.type "tuple", none, .seq #[.none] 0, #[]⟩) (n := 0) (by kernel_rfl) (by kernel_rfl) (by kernel_rfl) (by kernel_rfl) (by kernel_rfl) (by kernel_rfl) (H _ _ (by kernel_rfl)) rfl a0 a1
end
theorem nd_key : ND "key" := by kernel_rfl
theorem nd_cell_key : ND "cell_key" := by kernel_rfl
theorem gt_VAR_KEY {w : World} : GlobTup (KH w) (Str.ofString "VAR_KEY") (Str.ofString "var") := ⟨by kernel_rfl, by kernel_rfl⟩
theorem nd_VAR_KEY : ND "VAR_KEY" := by kernel_rfl
theorem nd_codes : ND "codes" := by kernel_rfl
theorem ns_len {w : World} : NS w "len" (some none) := by kernel_rfl
theorem bt_len : bootBuiltins (Str.ofString "len") = some (.builtin "len") := by decide +kernel
theorem nb_len : Str.ofString "len" ≠ "__name__" := by decide
theorem kp_len : keeperOf (.builtin "len") = pure Keeper.machine := rfl
theorem nd_len : ND "len" := by kernel_rfl
theorem nd_self : ND "self" := by kernel_rfl
theorem sa_next_label {w : World} : setAttrOk (KH w) 129 (Str.ofString "next_label") = true := by kernel_rfl
theorem sa_known {w : World} : setAttrOk (KH w) 129 (Str.ofString "known") = true := by kernel_rfl
theorem sa_chains {w : World} : setAttrOk (KH w) 129 (Str.ofString "chains") = true := by kernel_rfl
theorem sa_rows {w : World} : setAttrOk (KH w) 129 (Str.ofString "rows") = true := by kernel_rfl
theorem sa_codes {w : World} : setAttrOk (KH w) 129 (Str.ofString "codes") = true := by kernel_rfl
theorem nd_arity : ND "arity" := by kernel_rfl
theorem sa_arity {w : World} : setAttrOk (KH w) 129 (Str.ofString "arity") = true := by kernel_rfl
theorem nd_label : ND "label" := by kernel_rfl
theorem at_next_label {w : World} : attrOk (KH w) 129 (Str.ofString "next_label") = true := by kernel_rfl
theorem nd_rows : ND "rows" := by kernel_rfl
theorem nd_labels : ND "labels" := by kernel_rfl
theorem nd_last : ND "last" := by kernel_rfl
theorem nd_place : ND "place" := by kernel_rfl
theorem ns_range {w : World} : NS w "range" (some none) := by kernel_rfl
theorem at_arity {w : World} : attrOk (KH w) 129 (Str.ofString "arity") = true := by kernel_rfl
theorem at_chains {w : World} : attrOk (KH w) 129 (Str.ofString "chains") = true := by kernel_rfl
theorem nd_wanted : ND "wanted" := by kernel_rfl
theorem at_known {w : World} : attrOk (KH w) 129 (Str.ofString "known") = true := by kernel_rfl
theorem mo_fresh_label {w : World} : methOk (KH w) 129 77 (Str.ofString "fresh_label") = true := by kernel_rfl
theorem nd_places : ND "places" := by kernel_rfl
theorem ns_tuple {w : World} : NS w "tuple" (some none) := by kernel_rfl
theorem bt_tuple : bootBuiltins (Str.ofString "tuple") = some (.type "tuple") := by decide +kernel
theorem nb_tuple : Str.ofString "tuple" ≠ "__name__" := by decide
theorem kp_tuple : keeperOf (.type "tuple") = pure Keeper.machine := rfl
theorem nd_tuple : ND "tuple" := by kernel_rfl
theorem gi_FAIL_LABEL {w : World} : globInt (KH w) (Str.ofString "FAIL_LABEL") (-1) := by kernel_rfl
theorem nd_FAIL_LABEL : ND "FAIL_LABEL" := by kernel_rfl
theorem nd_found : ND "found" := by kernel_rfl
theorem at_codes {w : World} : attrOk (KH w) 129 (Str.ofString "codes") = true := by kernel_rfl
theorem at_key {w : World} : attrOk (KH w) 178 (Str.ofString "key") = true := by kernel_rfl
theorem ns_matching {w : World} : NS w "matching" (some (some (.ref 56))) := by kernel_rfl
theorem kf_56 {w : World} : keepIn (KH w) (.ref 56) = true := by kernel_rfl
theorem nd_matching : ND "matching" := by kernel_rfl
theorem nd_pairs : ND "pairs" := by kernel_rfl
theorem nd_seen : ND "seen" := by kernel_rfl
theorem nd_kind : ND "kind" := by kernel_rfl
theorem mo_matching_places {w : World} : methOk (KH w) 129 98 (Str.ofString "matching_places") = true := by kernel_rfl
theorem mo_chain {w : World} : methOk (KH w) 129 91 (Str.ofString "chain") = true := by kernel_rfl
theorem nd_structures : ND "structures" := by kernel_rfl
theorem at_rows {w : World} : attrOk (KH w) 129 (Str.ofString "rows") = true := by kernel_rfl
theorem nd_default : ND "default" := by kernel_rfl
theorem nd_struct_label : ND "struct_label" := by kernel_rfl
theorem nd_constants : ND "constants" := by kernel_rfl
theorem nd_const_label : ND "const_label" := by kernel_rfl
theorem nd_list_label : ND "list_label" := by kernel_rfl
theorem gt_LIST_KEY {w : World} : GlobTup (KH w) (Str.ofString "LIST_KEY") (Str.ofString "list") := ⟨by kernel_rfl, by kernel_rfl⟩
theorem nd_LIST_KEY : ND "LIST_KEY" := by kernel_rfl
theorem mo_table {w : World} : methOk (KH w) 129 112 (Str.ofString "table") = true := by kernel_rfl
theorem mo_variable_places {w : World} : methOk (KH w) 129 105 (Str.ofString "variable_places") = true := by kernel_rfl
theorem nd_row : ND "row" := by kernel_rfl
theorem at_instrs {w : World} : attrOk (KH w) 178 (Str.ofString "instrs") = true := by kernel_rfl
theorem nd_pair : ND "pair" := by kernel_rfl
theorem mo_chain_rows {w : World} : methOk (KH w) 129 84 (Str.ofString "chain_rows") = true := by kernel_rfl
theorem nd_where : ND "where" := by kernel_rfl
theorem nd_block : ND "block" := by kernel_rfl
theorem nd_ins : ND "ins" := by kernel_rfl
theorem nd_pending : ND "pending" := by kernel_rfl
theorem nd_target : ND "target" := by kernel_rfl
theorem nd_name : ND "name" := by kernel_rfl
theorem nd_count : ND "count" := by kernel_rfl
theorem ns_switch_target {w : World} : NS w "switch_target" (some (some (.ref 147))) := by kernel_rfl
theorem kf_147 {w : World} : keepIn (KH w) (.ref 147) = true := by kernel_rfl
theorem nd_switch_target : ND "switch_target" := by kernel_rfl
theorem ns_table_target {w : World} : NS w "table_target" (some (some (.ref 154))) := by kernel_rfl
theorem kf_154 {w : World} : keepIn (KH w) (.ref 154) = true := by kernel_rfl
theorem nd_table_target : ND "table_target" := by kernel_rfl
theorem ns_label_places {w : World} : NS w "label_places" (some (some (.ref 140))) := by kernel_rfl
theorem kf_140 {w : World} : keepIn (KH w) (.ref 140) = true := by kernel_rfl
theorem nd_label_places : ND "label_places" := by kernel_rfl
theorem nd_used : ND "used" := by kernel_rfl
theorem sa_used {w : World} : setAttrOk (KH w) 178 (Str.ofString "used") = true := by kernel_rfl
theorem nd_instrs : ND "instrs" := by kernel_rfl
theorem sa_instrs {w : World} : setAttrOk (KH w) 178 (Str.ofString "instrs") = true := by kernel_rfl
theorem sa_key {w : World} : setAttrOk (KH w) 178 (Str.ofString "key") = true := by kernel_rfl
theorem nd_functor : ND "functor" := by kernel_rfl
theorem sa_functor {w : World} : setAttrOk (KH w) 178 (Str.ofString "functor") = true := by kernel_rfl
theorem ns_bool {w : World} : NS w "bool" (some none) := by kernel_rfl
theorem bt_bool : bootBuiltins (Str.ofString "bool") = some (.type "bool") := by decide +kernel
theorem nb_bool : Str.ofString "bool" ≠ "__name__" := by decide
theorem nd_bool : ND "bool" := by kernel_rfl
theorem nd_value : ND "value" := by kernel_rfl
theorem ns_isinstance {w : World} : NS w "isinstance" (some none) := by kernel_rfl
theorem bt_isinstance : bootBuiltins (Str.ofString "isinstance") = some (.builtin "isinstance") := by decide +kernel
theorem nb_isinstance : Str.ofString "isinstance" ≠ "__name__" := by decide
theorem kp_isinstance : keeperOf (.builtin "isinstance") = pure Keeper.machine := rfl
theorem nd_isinstance : ND "isinstance" := by kernel_rfl
theorem ns_int {w : World} : NS w "int" (some none) := by kernel_rfl
theorem bt_int : bootBuiltins (Str.ofString "int") = some (.type "int") := by decide +kernel
theorem nb_int : Str.ofString "int" ≠ "__name__" := by decide
theorem nd_int : ND "int" := by kernel_rfl
theorem gi_CON {w : World} : globInt (KH w) (Str.ofString "CON") (4) := by kernel_rfl
theorem nd_CON : ND "CON" := by kernel_rfl
theorem gi_INT {w : World} : globInt (KH w) (Str.ofString "INT") (5) := by kernel_rfl
theorem nd_INT : ND "INT" := by kernel_rfl
theorem ns_is_whole {w : World} : NS w "is_whole" (some (some (.ref 203))) := by kernel_rfl
theorem kf_203 {w : World} : keepIn (KH w) (.ref 203) = true := by kernel_rfl
theorem nd_is_whole : ND "is_whole" := by kernel_rfl
theorem ns_is_pair {w : World} : NS w "is_pair" (some (some (.ref 210))) := by kernel_rfl
theorem kf_210 {w : World} : keepIn (KH w) (.ref 210) = true := by kernel_rfl
theorem nd_is_pair : ND "is_pair" := by kernel_rfl
theorem nd_linked : ND "linked" := by kernel_rfl
theorem ns_is_functor {w : World} : NS w "is_functor" (some (some (.ref 231))) := by kernel_rfl
theorem kf_231 {w : World} : keepIn (KH w) (.ref 231) = true := by kernel_rfl
theorem nd_is_functor : ND "is_functor" := by kernel_rfl
theorem ns_is_constant {w : World} : NS w "is_constant" (some (some (.ref 224))) := by kernel_rfl
theorem kf_224 {w : World} : keepIn (KH w) (.ref 224) = true := by kernel_rfl
theorem nd_is_constant : ND "is_constant" := by kernel_rfl
theorem ns_is_target {w : World} : NS w "is_target" (some (some (.ref 238))) := by kernel_rfl
theorem kf_238 {w : World} : keepIn (KH w) (.ref 238) = true := by kernel_rfl
theorem nd_is_target : ND "is_target" := by kernel_rfl
theorem ns_is_key {w : World} : NS w "is_key" (some (some (.ref 245))) := by kernel_rfl
theorem kf_245 {w : World} : keepIn (KH w) (.ref 245) = true := by kernel_rfl
theorem nd_is_key : ND "is_key" := by kernel_rfl
theorem ns_dict {w : World} : NS w "dict" (some none) := by kernel_rfl
theorem bt_dict : bootBuiltins (Str.ofString "dict") = some (.type "dict") := by decide +kernel
theorem nb_dict : Str.ofString "dict" ≠ "__name__" := by decide
theorem nd_dict : ND "dict" := by kernel_rfl
theorem nd_names : ND "names" := by kernel_rfl
theorem ns_is_table {w : World} : NS w "is_table" (some (some (.ref 252))) := by kernel_rfl
theorem kf_252 {w : World} : keepIn (KH w) (.ref 252) = true := by kernel_rfl
theorem nd_is_table : ND "is_table" := by kernel_rfl
theorem ns_is_register {w : World} : NS w "is_register" (some (some (.ref 217))) := by kernel_rfl
theorem kf_217 {w : World} : keepIn (KH w) (.ref 217) = true := by kernel_rfl
theorem nd_is_register : ND "is_register" := by kernel_rfl
theorem nd_kinds : ND "kinds" := by kernel_rfl
theorem ns_is_operand {w : World} : NS w "is_operand" (some (some (.ref 259))) := by kernel_rfl
theorem kf_259 {w : World} : keepIn (KH w) (.ref 259) = true := by kernel_rfl
theorem nd_is_operand : ND "is_operand" := by kernel_rfl
theorem nd_table : ND "table" := by kernel_rfl
theorem ns_str {w : World} : NS w "str" (some none) := by kernel_rfl
theorem bt_str : bootBuiltins (Str.ofString "str") = some (.type "str") := by decide +kernel
theorem nb_str : Str.ofString "str" ≠ "__name__" := by decide
theorem nd_str : ND "str" := by kernel_rfl
theorem nd_addresses : ND "addresses" := by kernel_rfl
theorem ns_is_label_row {w : World} : NS w "is_label_row" (some (some (.ref 273))) := by kernel_rfl
theorem kf_273 {w : World} : keepIn (KH w) (.ref 273) = true := by kernel_rfl
theorem nd_is_label_row : ND "is_label_row" := by kernel_rfl
theorem nd_address : ND "address" := by kernel_rfl
theorem nd_base : ND "base" := by kernel_rfl
theorem nd_end : ND "end" := by kernel_rfl
theorem gi_FAIL_ADDRESS {w : World} : globInt (KH w) (Str.ofString "FAIL_ADDRESS") (2) := by kernel_rfl
theorem nd_FAIL_ADDRESS : ND "FAIL_ADDRESS" := by kernel_rfl
theorem ns_resolve_label {w : World} : NS w "resolve_label" (some (some (.ref 287))) := by kernel_rfl
theorem kf_287 {w : World} : keepIn (KH w) (.ref 287) = true := by kernel_rfl
theorem nd_resolve_label : ND "resolve_label" := by kernel_rfl
theorem nd_parts : ND "parts" := by kernel_rfl
theorem ns_resolve_table {w : World} : NS w "resolve_table" (some (some (.ref 294))) := by kernel_rfl
theorem kf_294 {w : World} : keepIn (KH w) (.ref 294) = true := by kernel_rfl
theorem nd_resolve_table : ND "resolve_table" := by kernel_rfl
theorem ns_check_row {w : World} : NS w "check_row" (some (some (.ref 266))) := by kernel_rfl
theorem kf_266 {w : World} : keepIn (KH w) (.ref 266) = true := by kernel_rfl
theorem nd_check_row : ND "check_row" := by kernel_rfl
theorem ns_resolve_instruction {w : World} : NS w "resolve_instruction" (some (some (.ref 301))) := by kernel_rfl
theorem kf_301 {w : World} : keepIn (KH w) (.ref 301) = true := by kernel_rfl
theorem nd_resolve_instruction : ND "resolve_instruction" := by kernel_rfl
theorem ns_label_addresses {w : World} : NS w "label_addresses" (some (some (.ref 280))) := by kernel_rfl
theorem kf_280 {w : World} : keepIn (KH w) (.ref 280) = true := by kernel_rfl
theorem nd_label_addresses : ND "label_addresses" := by kernel_rfl
theorem ns_shapes {w : World} : NS w "shapes" (some (some (.ref 196))) := by kernel_rfl
theorem kf_196 {w : World} : keepIn (KH w) (.ref 196) = true := by kernel_rfl
theorem nd_shapes : ND "shapes" := by kernel_rfl
theorem nd_figures : ND "figures" := by kernel_rfl
theorem nd_whole : ND "whole" := by kernel_rfl
theorem nd_cell : ND "cell" := by kernel_rfl
theorem nd_script : ND "script" := by kernel_rfl
theorem nd_many : ND "many" := by kernel_rfl
theorem ns_law_draw {w : World} : NS w "_law_draw" (some (some (.ref 321))) := by kernel_rfl
theorem kf_321 {w : World} : keepIn (KH w) (.ref 321) = true := by kernel_rfl
theorem nd_law_draw : ND "_law_draw" := by kernel_rfl
theorem nd_call : ND "call" := by kernel_rfl
theorem ns_law_goal {w : World} : NS w "_law_goal" (some (some (.ref 335))) := by kernel_rfl
theorem kf_335 {w : World} : keepIn (KH w) (.ref 335) = true := by kernel_rfl
theorem nd_law_goal : ND "_law_goal" := by kernel_rfl
theorem nd_saved : ND "saved" := by kernel_rfl
theorem nd_most : ND "most" := by kernel_rfl
theorem ns_max {w : World} : NS w "max" (some none) := by kernel_rfl
theorem bt_max : bootBuiltins (Str.ofString "max") = some (.builtin "max") := by decide +kernel
theorem nb_max : Str.ofString "max" ≠ "__name__" := by decide
theorem kp_max : keeperOf (.builtin "max") = pure Keeper.machine := rfl
theorem nd_max : ND "max" := by kernel_rfl
theorem nd_at : ND "at" := by kernel_rfl
theorem nd_wide : ND "wide" := by kernel_rfl
theorem nd_met : ND "met" := by kernel_rfl
theorem nd_code : ND "code" := by kernel_rfl
theorem nd_low : ND "low" := by kernel_rfl
theorem ns_law_met {w : World} : NS w "_law_met" (some (some (.ref 342))) := by kernel_rfl
theorem kf_342 {w : World} : keepIn (KH w) (.ref 342) = true := by kernel_rfl
theorem nd_law_met : ND "_law_met" := by kernel_rfl
theorem nd_due : ND "due" := by kernel_rfl
theorem ns_tried_clauses {w : World} : NS w "tried_clauses" (some (some (.ref 161))) := by kernel_rfl
theorem kf_161 {w : World} : keepIn (KH w) (.ref 161) = true := by kernel_rfl
theorem nd_tried_clauses : ND "tried_clauses" := by kernel_rfl
theorem nd_turn : ND "turn" := by kernel_rfl
theorem nd_shares : ND "shares" := by kernel_rfl
theorem nd_fitting : ND "fitting" := by kernel_rfl
theorem nd_keys : ND "keys" := by kernel_rfl
theorem nd_calls : ND "calls" := by kernel_rfl
theorem ns_assemble {w : World} : NS w "assemble" (some (some (.ref 307))) := by kernel_rfl
theorem kf_307 {w : World} : keepIn (KH w) (.ref 307) = true := by kernel_rfl
theorem nd_assemble : ND "assemble" := by kernel_rfl
theorem nd_builder : ND "builder" := by kernel_rfl
theorem mo_finish {w : World} : methOk (KH w) 129 126 (Str.ofString "finish") = true := by kernel_rfl
theorem ns_list {w : World} : NS w "list" (some none) := by kernel_rfl
theorem bt_list : bootBuiltins (Str.ofString "list") = some (.type "list") := by decide +kernel
theorem nb_list : Str.ofString "list" ≠ "__name__" := by decide
theorem kp_list : keeperOf (.type "list") = pure Keeper.machine := rfl
theorem nd_list : ND "list" := by kernel_rfl
theorem mo_switch {w : World} : methOk (KH w) 129 119 (Str.ofString "switch") = true := by kernel_rfl
theorem nd_marks : ND "marks" := by kernel_rfl
theorem no_BlockBuilder {w : World} : newOk (KH w) 129 70 = true := by kernel_rfl
theorem ns_BlockBuilder {w : World} : NS w "BlockBuilder" (some (some (.ref 129))) := by kernel_rfl
theorem kf_129 {w : World} : keepIn (KH w) (.ref 129) = true := by kernel_rfl
theorem nd_BlockBuilder : ND "BlockBuilder" := by kernel_rfl
theorem nd_bits : ND "bits" := by kernel_rfl
theorem no_ClauseCode {w : World} : newOk (KH w) 178 175 = true := by kernel_rfl
theorem ns_ClauseCode {w : World} : NS w "ClauseCode" (some (some (.ref 178))) := by kernel_rfl
theorem kf_178 {w : World} : keepIn (KH w) (.ref 178) = true := by kernel_rfl
theorem nd_ClauseCode : ND "ClauseCode" := by kernel_rfl
theorem ns_law_key_drawn {w : World} : NS w "_law_key_drawn" (some (some (.ref 328))) := by kernel_rfl
theorem kf_328 {w : World} : keepIn (KH w) (.ref 328) = true := by kernel_rfl
theorem nd_law_key_drawn : ND "_law_key_drawn" := by kernel_rfl
theorem ns_law_figures {w : World} : NS w "_law_figures" (some (some (.ref 314))) := by kernel_rfl
theorem kf_314 {w : World} : keepIn (KH w) (.ref 314) = true := by kernel_rfl
theorem nd_law_figures : ND "_law_figures" := by kernel_rfl
section
variable {prog : Program} {w : World} {B : Heap}
noncomputable def d_matching : SWP :=
 (dSeq (dIf (dOrT (dTest (dOp (eqP id) (dName "key") (dVal (.tup [.str (Str.ofString "var")])))) (dOrT (dTest (dOp (eqP id) (dName "cell_key") (dVal (.tup [.str (Str.ofString "var")])))) dOrNil)) (dSeq (dRet (dVal (.bool true)))
 dEnd) dEnd)
 (dSeq (dRet (dOp (eqP id) (dName "key") (dName "cell_key")))
 dEnd))
theorem w_matching (G : Gd prog w (KH w) B) : FnOk prog w B 1 56 (fnP ["key", "cell_key"] (d_matching)) := by
  refine FnOk.def G (by kernel_rfl) (by kernel_rfl) (by decide) (fun vals h => ?_) (fun L X => ?_)
  · exact vals2 (P := fun vals => bindArgs (fdAt (KH w) 56) ⟨vals, []⟩ = pure ((["key", "cell_key"].map Str.ofString).zip vals)) (fun a0 a1 => by kernel_rfl) h
  · have k_key : KO (cE w L 56) "key" .local := by kernel_rfl
    have k_cell_key : KO (cE w L 56) "cell_key" .local := by kernel_rfl
    have g_VAR_KEY : KO (cE w L 56) "VAR_KEY" .globalImplicit := by kernel_rfl
    show SsOk prog w B 0 _ (_ :: _ :: []) _
    refine (SsOk.cons ?_ (SsOk.cons ?_ SsOk.nil))
    · refine SOk.ite (TOk.bool (AllOk.or (TOk.cmp eq_ok (EOk.local X.kind k_key nd_key) (EOk.globTup G X g_VAR_KEY gt_VAR_KEY nd_VAR_KEY) (by kernel_rfl)) (AllOk.or (TOk.cmp eq_ok (EOk.local X.kind k_cell_key nd_cell_key) (EOk.globTup G X g_VAR_KEY gt_VAR_KEY nd_VAR_KEY) (by kernel_rfl)) AllOk.orNil))) ?_ ?_
      · refine (SsOk.cons ?_ SsOk.nil)
        · exact (SOk.ret EOk.cbool)
      · exact SsOk.nil
    · exact (SOk.ret (EOk.cmp eq_ok (EOk.local X.kind k_key nd_key) (EOk.local X.kind k_cell_key nd_cell_key) (by kernel_rfl)))
noncomputable def d_BlockBuilder_init : SWP :=
 (dSeq (dSetAttr 129 "arity" (dName "self") (dName "arity"))
 (dSeq (dSetAttr 129 "codes" (dName "self") (dName "codes"))
 (dSeq (dSetAttr 129 "rows" (dName "self") (dList dNil))
 (dSeq (dSetAttr 129 "chains" (dName "self") (dList dNil))
 (dSeq (dSetAttr 129 "known" (dName "self") dDict0)
 (dSeq (dSetAttr 129 "next_label" (dName "self") (dCall lenP (dCons (dName "codes") dNil)))
 dEnd))))))
theorem w_BlockBuilder_init (G : Gd prog w (KH w) B) : FnOk prog w B 1 70 (fnP ["self", "arity", "codes"] (d_BlockBuilder_init)) := by
  refine FnOk.def G (by kernel_rfl) (by kernel_rfl) (by decide) (fun vals h => ?_) (fun L X => ?_)
  · exact vals3 (P := fun vals => bindArgs (fdAt (KH w) 70) ⟨vals, []⟩ = pure ((["self", "arity", "codes"].map Str.ofString).zip vals)) (fun a0 a1 a2 => by kernel_rfl) h
  · have k_codes : KO (cE w L 70) "codes" .local := by kernel_rfl
    have g_len : KO (cE w L 70) "len" .globalImplicit := by kernel_rfl
    have k_self : KO (cE w L 70) "self" .local := by kernel_rfl
    have k_arity : KO (cE w L 70) "arity" .local := by kernel_rfl
    show SsOk prog w B 0 _ (_ :: _ :: _ :: _ :: _ :: _ :: []) _
    refine (SsOk.cons ?_ (SsOk.cons ?_ (SsOk.cons ?_ (SsOk.cons ?_ (SsOk.cons ?_ (SsOk.cons ?_ SsOk.nil))))))
    · exact (SOk.setAttr (C := 129) G (EOk.local X.kind k_self nd_self) (EOk.local X.kind k_arity nd_arity) sa_arity (by kernel_rfl))
    · exact (SOk.setAttr (C := 129) G (EOk.local X.kind k_self nd_self) (EOk.local X.kind k_codes nd_codes) sa_codes (by kernel_rfl))
    · exact (SOk.setAttr (C := 129) G (EOk.local X.kind k_self nd_self) (EOk.list EsOk.nil) sa_rows (by kernel_rfl))
    · exact (SOk.setAttr (C := 129) G (EOk.local X.kind k_self nd_self) (EOk.list EsOk.nil) sa_chains (by kernel_rfl))
    · exact (SOk.setAttr (C := 129) G (EOk.local X.kind k_self nd_self) EOk.dict0 sa_known (by kernel_rfl))
    · exact (SOk.setAttr (C := 129) G (EOk.local X.kind k_self nd_self) (EOk.callB (f := .builtin "len") G X len_ok g_len ns_len bt_len nb_len kp_len (EsOk.cons (EOk.local X.kind k_codes nd_codes) EsOk.nil (by kernel_rfl)) (ArgsOk.cons (by kernel_rfl) (by kernel_rfl)) nd_len (arm_eval_Call_Name' _ _ _ _ _ _)) sa_next_label (by kernel_rfl))
noncomputable def d_fresh_label : SWP :=
 (dSeq (dAssign "label" (dAttr 129 "next_label" (dName "self")))
 (dSeq (dSetAttr 129 "next_label" (dName "self") (dOp addP (dName "label") (dVal (.int 1))))
 (dSeq (dRet (dName "label"))
 dEnd)))
theorem w_fresh_label (G : Gd prog w (KH w) B) : FnOk prog w B 1 77 (fnP ["self"] (d_fresh_label)) := by
  refine FnOk.def G (by kernel_rfl) (by kernel_rfl) (by decide) (fun vals h => ?_) (fun L X => ?_)
  · exact vals1 (P := fun vals => bindArgs (fdAt (KH w) 77) ⟨vals, []⟩ = pure ((["self"].map Str.ofString).zip vals)) (fun a0 => by kernel_rfl) h
  · have k_label : KO (cE w L 77) "label" .local := by kernel_rfl
    have k_self : KO (cE w L 77) "self" .local := by kernel_rfl
    have st_label : StoreOk (callEnv (fdAt (KH w) 77) L 77) "label" := .loc k_label (by kernel_rfl)
    show SsOk prog w B 0 _ (_ :: _ :: _ :: []) _
    refine (SsOk.cons ?_ (SsOk.cons ?_ (SsOk.cons ?_ SsOk.nil)))
    · exact (SOk.assign (EOk.attr (C := 129) G (EOk.local X.kind k_self nd_self) at_next_label (by kernel_rfl)) st_label X.kind (by kernel_rfl))
    · exact (SOk.setAttr (C := 129) G (EOk.local X.kind k_self nd_self) (EOk.bin add_ok (EOk.local X.kind k_label nd_label) EOk.cint) sa_next_label (by kernel_rfl))
    · exact (SOk.ret (EOk.local X.kind k_label nd_label))
noncomputable def d_chain_rows : SWP :=
 (dSeq (dAssign "rows" (dList (dCons (dTup (dCons (dVal (.str (Str.ofString "try"))) (dCons (dOp getP (dName "labels") (dVal (.int 0))) (dCons (dAttr 129 "arity" (dName "self")) dNil)))) dNil)))
 (dSeq (dAssign "last" (dOp subP (dCall lenP (dCons (dName "labels") dNil)) (dVal (.int 1))))
 (dSeq (dForR "place" (dCons (dVal (.int 1)) (dCons (dName "last") dNil)) (dSeq (dExpr (dAppend (dName "rows") (dTup (dCons (dVal (.str (Str.ofString "retry"))) (dCons (dOp getP (dName "labels") (dName "place")) dNil)))))
 dEnd))
 (dSeq (dExpr (dAppend (dName "rows") (dTup (dCons (dVal (.str (Str.ofString "trust"))) (dCons (dOp getP (dName "labels") (dName "last")) dNil)))))
 (dSeq (dRet (dName "rows"))
 dEnd)))))
theorem w_chain_rows (G : Gd prog w (KH w) B) : FnOk prog w B 1 84 (fnP ["self", "labels"] (d_chain_rows)) := by
  refine FnOk.def G (by kernel_rfl) (by kernel_rfl) (by decide) (fun vals h => ?_) (fun L X => ?_)
  · exact vals2 (P := fun vals => bindArgs (fdAt (KH w) 84) ⟨vals, []⟩ = pure ((["self", "labels"].map Str.ofString).zip vals)) (fun a0 a1 => by kernel_rfl) h
  · have k_rows : KO (cE w L 84) "rows" .local := by kernel_rfl
    have k_labels : KO (cE w L 84) "labels" .local := by kernel_rfl
    have k_last : KO (cE w L 84) "last" .local := by kernel_rfl
    have k_place : KO (cE w L 84) "place" .local := by kernel_rfl
    have g_range : KO (cE w L 84) "range" .globalImplicit := by kernel_rfl
    have g_len : KO (cE w L 84) "len" .globalImplicit := by kernel_rfl
    have k_self : KO (cE w L 84) "self" .local := by kernel_rfl
    have st_place : StoreOk (callEnv (fdAt (KH w) 84) L 84) "place" := .loc k_place (by kernel_rfl)
    have st_last : StoreOk (callEnv (fdAt (KH w) 84) L 84) "last" := .loc k_last (by kernel_rfl)
    have st_rows : StoreOk (callEnv (fdAt (KH w) 84) L 84) "rows" := .loc k_rows (by kernel_rfl)
    show SsOk prog w B 0 _ (_ :: _ :: _ :: _ :: _ :: []) _
    refine (SsOk.cons ?_ (SsOk.cons ?_ (SsOk.cons ?_ (SsOk.cons ?_ (SsOk.cons ?_ SsOk.nil)))))
    · exact (SOk.assign (EOk.list (EsOk.cons (EOk.tup (EsOk.cons EOk.cstr (EsOk.cons (EOk.sub (EOk.local X.kind k_labels nd_labels) EOk.cint (fun _ _ => by kernel_rfl)) (EsOk.cons (EOk.attr (C := 129) G (EOk.local X.kind k_self nd_self) at_arity (by kernel_rfl)) EsOk.nil (by kernel_rfl)) (by kernel_rfl)) (by kernel_rfl))) EsOk.nil (by kernel_rfl))) st_rows X.kind (by kernel_rfl))
    · exact (SOk.assign (EOk.bin sub_ok (EOk.callB (f := .builtin "len") G X len_ok g_len ns_len bt_len nb_len kp_len (EsOk.cons (EOk.local X.kind k_labels nd_labels) EsOk.nil (by kernel_rfl)) (ArgsOk.cons (by kernel_rfl) (by kernel_rfl)) nd_len (arm_eval_Call_Name' _ _ _ _ _ _)) EOk.cint) st_last X.kind (by kernel_rfl))
    · refine SOk.forR G X rfl g_range ns_range (EsOk.cons EOk.cint (EsOk.cons (EOk.local X.kind k_last nd_last) EsOk.nil (by kernel_rfl)) (by kernel_rfl)) (ArgsOk.cons (by kernel_rfl) (by kernel_rfl)) ?_ st_place (arm_eval_Call_Name' _ _ _ _ _ _) (fun _ => by kernel_rfl)
      · refine (SsOk.cons ?_ SsOk.nil)
        · exact (SOk.expr (EOk.append (EOk.local X.kind k_rows nd_rows) (EOk.tup (EsOk.cons EOk.cstr (EsOk.cons (EOk.sub (EOk.local X.kind k_labels nd_labels) (EOk.local X.kind k_place nd_place) (fun _ _ => by kernel_rfl)) EsOk.nil (by kernel_rfl)) (by kernel_rfl))) (by kernel_rfl) (methForm (by kernel_rfl) (by kernel_rfl) (by kernel_rfl))) X.kind (by kernel_rfl))
    · exact (SOk.expr (EOk.append (EOk.local X.kind k_rows nd_rows) (EOk.tup (EsOk.cons EOk.cstr (EsOk.cons (EOk.sub (EOk.local X.kind k_labels nd_labels) (EOk.local X.kind k_last nd_last) (fun _ _ => by kernel_rfl)) EsOk.nil (by kernel_rfl)) (by kernel_rfl))) (by kernel_rfl) (methForm (by kernel_rfl) (by kernel_rfl) (by kernel_rfl))) X.kind (by kernel_rfl))
    · exact (SOk.ret (EOk.local X.kind k_rows nd_rows))
noncomputable def d_chain (F_fresh_label : FWP) : SWP :=
 (dSeq (dIf (dTest (dOp (eqP id) (dCall lenP (dCons (dName "places") dNil)) (dVal (.int 0)))) (dSeq (dRet (dVal (.int (-1))))
 dEnd) dEnd)
 (dSeq (dIf (dTest (dOp (eqP id) (dCall lenP (dCons (dName "places") dNil)) (dVal (.int 1)))) (dSeq (dRet (dOp getP (dName "places") (dVal (.int 0))))
 dEnd) dEnd)
 (dSeq (dAssign "wanted" (dCall tupleP (dCons (dName "places") dNil)))
 (dSeq (dIf (dTest (dOp (inP id) (dName "wanted") (dAttr 129 "known" (dName "self")))) (dSeq (dRet (dOp getP (dAttr 129 "known" (dName "self")) (dName "wanted")))
 dEnd) dEnd)
 (dSeq (dAssign "label" (dMeth 129 "fresh_label" F_fresh_label (dName "self") dNil))
 (dSeq (dSetItem (dAttr 129 "known" (dName "self")) (dName "wanted") (dName "label"))
 (dSeq (dExpr (dAppend (dAttr 129 "chains" (dName "self")) (dTup (dCons (dName "label") (dCons (dName "wanted") dNil)))))
 (dSeq (dRet (dName "label"))
 dEnd))))))))
theorem w_chain (G : Gd prog w (KH w) B) {F_fresh_label : FWP} (h_fresh_label : FnOk prog w B 1 77 F_fresh_label) : FnOk prog w B 2 91 (fnP ["self", "places"] (d_chain F_fresh_label)) := by
  refine FnOk.def G (by kernel_rfl) (by kernel_rfl) (by decide) (fun vals h => ?_) (fun L X => ?_)
  · exact vals2 (P := fun vals => bindArgs (fdAt (KH w) 91) ⟨vals, []⟩ = pure ((["self", "places"].map Str.ofString).zip vals)) (fun a0 a1 => by kernel_rfl) h
  · have k_label : KO (cE w L 91) "label" .local := by kernel_rfl
    have k_self : KO (cE w L 91) "self" .local := by kernel_rfl
    have k_wanted : KO (cE w L 91) "wanted" .local := by kernel_rfl
    have k_places : KO (cE w L 91) "places" .local := by kernel_rfl
    have g_tuple : KO (cE w L 91) "tuple" .globalImplicit := by kernel_rfl
    have g_len : KO (cE w L 91) "len" .globalImplicit := by kernel_rfl
    have g_FAIL_LABEL : KO (cE w L 91) "FAIL_LABEL" .globalImplicit := by kernel_rfl
    have st_label : StoreOk (callEnv (fdAt (KH w) 91) L 91) "label" := .loc k_label (by kernel_rfl)
    have st_wanted : StoreOk (callEnv (fdAt (KH w) 91) L 91) "wanted" := .loc k_wanted (by kernel_rfl)
    show SsOk prog w B 1 _ (_ :: _ :: _ :: _ :: _ :: _ :: _ :: _ :: []) _
    refine (SsOk.cons ?_ (SsOk.cons ?_ (SsOk.cons ?_ (SsOk.cons ?_ (SsOk.cons ?_ (SsOk.cons ?_ (SsOk.cons ?_ (SsOk.cons ?_ SsOk.nil))))))))
    · refine SOk.ite (TOk.cmp eq_ok (EOk.callB (f := .builtin "len") G X len_ok g_len ns_len bt_len nb_len kp_len (EsOk.cons (EOk.local X.kind k_places nd_places) EsOk.nil (by kernel_rfl)) (ArgsOk.cons (by kernel_rfl) (by kernel_rfl)) nd_len (arm_eval_Call_Name' _ _ _ _ _ _)) EOk.cint (by kernel_rfl)) ?_ ?_
      · refine (SsOk.cons ?_ SsOk.nil)
        · exact (SOk.ret (EOk.globInt G X g_FAIL_LABEL gi_FAIL_LABEL nd_FAIL_LABEL))
      · exact SsOk.nil
    · refine SOk.ite (TOk.cmp eq_ok (EOk.callB (f := .builtin "len") G X len_ok g_len ns_len bt_len nb_len kp_len (EsOk.cons (EOk.local X.kind k_places nd_places) EsOk.nil (by kernel_rfl)) (ArgsOk.cons (by kernel_rfl) (by kernel_rfl)) nd_len (arm_eval_Call_Name' _ _ _ _ _ _)) EOk.cint (by kernel_rfl)) ?_ ?_
      · refine (SsOk.cons ?_ SsOk.nil)
        · exact (SOk.ret (EOk.sub (EOk.local X.kind k_places nd_places) EOk.cint (fun _ _ => by kernel_rfl)))
      · exact SsOk.nil
    · exact (SOk.assign (EOk.callB (f := .type "tuple") G X tuple_ok g_tuple ns_tuple bt_tuple nb_tuple kp_tuple (EsOk.cons (EOk.local X.kind k_places nd_places) EsOk.nil (by kernel_rfl)) (ArgsOk.cons (by kernel_rfl) (by kernel_rfl)) nd_tuple (arm_eval_Call_Name' _ _ _ _ _ _)) st_wanted X.kind (by kernel_rfl))
    · refine SOk.ite (TOk.cmp in_ok (EOk.local X.kind k_wanted nd_wanted) (EOk.attr (C := 129) G (EOk.local X.kind k_self nd_self) at_known (by kernel_rfl)) (by kernel_rfl)) ?_ ?_
      · refine (SsOk.cons ?_ SsOk.nil)
        · exact (SOk.ret (EOk.sub (EOk.attr (C := 129) G (EOk.local X.kind k_self nd_self) at_known (by kernel_rfl)) (EOk.local X.kind k_wanted nd_wanted) (fun _ _ => by kernel_rfl)))
      · exact SsOk.nil
    · exact (SOk.assign (EOk.callM (C := 129) (f := 77) G h_fresh_label (by decide) mo_fresh_label (EOk.local X.kind k_self nd_self) EsOk.nil ArgsOk.nil (methForm (by kernel_rfl) (by kernel_rfl) (by kernel_rfl))) st_label X.kind (by kernel_rfl))
    · exact (SOk.setItem (EOk.attr (C := 129) G (EOk.local X.kind k_self nd_self) at_known (by kernel_rfl)) (EOk.local X.kind k_wanted nd_wanted) (EOk.local X.kind k_label nd_label) (by kernel_rfl))
    · exact (SOk.expr (EOk.append (EOk.attr (C := 129) G (EOk.local X.kind k_self nd_self) at_chains (by kernel_rfl)) (EOk.tup (EsOk.cons (EOk.local X.kind k_label nd_label) (EsOk.cons (EOk.local X.kind k_wanted nd_wanted) EsOk.nil (by kernel_rfl)) (by kernel_rfl))) (by kernel_rfl) (methForm (by kernel_rfl) (by kernel_rfl) (by kernel_rfl))) X.kind (by kernel_rfl))
    · exact (SOk.ret (EOk.local X.kind k_label nd_label))
noncomputable def d_matching_places (F_matching : FWP) : SWP :=
 (dSeq (dAssign "found" (dList dNil))
 (dSeq (dFor "place" (dName "places") (dSeq (dIf (dTest (dCall F_matching (dCons (dAttr 178 "key" (dOp getP (dAttr 129 "codes" (dName "self")) (dName "place"))) (dCons (dName "cell_key") dNil)))) (dSeq (dExpr (dAppend (dName "found") (dName "place")))
 dEnd) dEnd)
 dEnd))
 (dSeq (dRet (dName "found"))
 dEnd)))
theorem w_matching_places (G : Gd prog w (KH w) B) {F_matching : FWP} (h_matching : FnOk prog w B 1 56 F_matching) : FnOk prog w B 2 98 (fnP ["self", "places", "cell_key"] (d_matching_places F_matching)) := by
  refine FnOk.def G (by kernel_rfl) (by kernel_rfl) (by decide) (fun vals h => ?_) (fun L X => ?_)
  · exact vals3 (P := fun vals => bindArgs (fdAt (KH w) 98) ⟨vals, []⟩ = pure ((["self", "places", "cell_key"].map Str.ofString).zip vals)) (fun a0 a1 a2 => by kernel_rfl) h
  · have k_found : KO (cE w L 98) "found" .local := by kernel_rfl
    have k_cell_key : KO (cE w L 98) "cell_key" .local := by kernel_rfl
    have k_self : KO (cE w L 98) "self" .local := by kernel_rfl
    have k_place : KO (cE w L 98) "place" .local := by kernel_rfl
    have g_matching : KO (cE w L 98) "matching" .globalImplicit := by kernel_rfl
    have k_places : KO (cE w L 98) "places" .local := by kernel_rfl
    have st_place : StoreOk (callEnv (fdAt (KH w) 98) L 98) "place" := .loc k_place (by kernel_rfl)
    have st_found : StoreOk (callEnv (fdAt (KH w) 98) L 98) "found" := .loc k_found (by kernel_rfl)
    show SsOk prog w B 1 _ (_ :: _ :: _ :: []) _
    refine (SsOk.cons ?_ (SsOk.cons ?_ (SsOk.cons ?_ SsOk.nil)))
    · exact (SOk.assign (EOk.list EsOk.nil) st_found X.kind (by kernel_rfl))
    · refine SOk.for (EOk.local X.kind k_places nd_places) ?_ st_place X.kind (fun _ => by kernel_rfl)
      · refine (SsOk.cons ?_ SsOk.nil)
        · refine SOk.ite (TOk.plain (EOk.callG (f := 56) G X h_matching (by decide) g_matching ns_matching kf_56 (EsOk.cons (EOk.attr (C := 178) G (EOk.sub (EOk.attr (C := 129) G (EOk.local X.kind k_self nd_self) at_codes (by kernel_rfl)) (EOk.local X.kind k_place nd_place) (fun _ _ => by kernel_rfl)) at_key (by kernel_rfl)) (EsOk.cons (EOk.local X.kind k_cell_key nd_cell_key) EsOk.nil (by kernel_rfl)) (by kernel_rfl)) (ArgsOk.cons (by kernel_rfl) (by kernel_rfl)) nd_matching (arm_eval_Call_Name' _ _ _ _ _ _)) (by kernel_rfl)) ?_ ?_
          · refine (SsOk.cons ?_ SsOk.nil)
            · exact (SOk.expr (EOk.append (EOk.local X.kind k_found nd_found) (EOk.local X.kind k_place nd_place) (by kernel_rfl) (methForm (by kernel_rfl) (by kernel_rfl) (by kernel_rfl))) X.kind (by kernel_rfl))
          · exact SsOk.nil
    · exact (SOk.ret (EOk.local X.kind k_found nd_found))
noncomputable def d_variable_places : SWP :=
 (dSeq (dAssign "found" (dList dNil))
 (dSeq (dFor "place" (dName "places") (dSeq (dIf (dTest (dOp (eqP id) (dAttr 178 "key" (dOp getP (dAttr 129 "codes" (dName "self")) (dName "place"))) (dVal (.tup [.str (Str.ofString "var")])))) (dSeq (dExpr (dAppend (dName "found") (dName "place")))
 dEnd) dEnd)
 dEnd))
 (dSeq (dRet (dName "found"))
 dEnd)))
theorem w_variable_places (G : Gd prog w (KH w) B) : FnOk prog w B 1 105 (fnP ["self", "places"] (d_variable_places)) := by
  refine FnOk.def G (by kernel_rfl) (by kernel_rfl) (by decide) (fun vals h => ?_) (fun L X => ?_)
  · exact vals2 (P := fun vals => bindArgs (fdAt (KH w) 105) ⟨vals, []⟩ = pure ((["self", "places"].map Str.ofString).zip vals)) (fun a0 a1 => by kernel_rfl) h
  · have k_found : KO (cE w L 105) "found" .local := by kernel_rfl
    have k_self : KO (cE w L 105) "self" .local := by kernel_rfl
    have k_place : KO (cE w L 105) "place" .local := by kernel_rfl
    have g_VAR_KEY : KO (cE w L 105) "VAR_KEY" .globalImplicit := by kernel_rfl
    have k_places : KO (cE w L 105) "places" .local := by kernel_rfl
    have st_place : StoreOk (callEnv (fdAt (KH w) 105) L 105) "place" := .loc k_place (by kernel_rfl)
    have st_found : StoreOk (callEnv (fdAt (KH w) 105) L 105) "found" := .loc k_found (by kernel_rfl)
    show SsOk prog w B 0 _ (_ :: _ :: _ :: []) _
    refine (SsOk.cons ?_ (SsOk.cons ?_ (SsOk.cons ?_ SsOk.nil)))
    · exact (SOk.assign (EOk.list EsOk.nil) st_found X.kind (by kernel_rfl))
    · refine SOk.for (EOk.local X.kind k_places nd_places) ?_ st_place X.kind (fun _ => by kernel_rfl)
      · refine (SsOk.cons ?_ SsOk.nil)
        · refine SOk.ite (TOk.cmp eq_ok (EOk.attr (C := 178) G (EOk.sub (EOk.attr (C := 129) G (EOk.local X.kind k_self nd_self) at_codes (by kernel_rfl)) (EOk.local X.kind k_place nd_place) (fun _ _ => by kernel_rfl)) at_key (by kernel_rfl)) (EOk.globTup G X g_VAR_KEY gt_VAR_KEY nd_VAR_KEY) (by kernel_rfl)) ?_ ?_
          · refine (SsOk.cons ?_ SsOk.nil)
            · exact (SOk.expr (EOk.append (EOk.local X.kind k_found nd_found) (EOk.local X.kind k_place nd_place) (by kernel_rfl) (methForm (by kernel_rfl) (by kernel_rfl) (by kernel_rfl))) X.kind (by kernel_rfl))
          · exact SsOk.nil
    · exact (SOk.ret (EOk.local X.kind k_found nd_found))
noncomputable def d_table (F_chain F_matching_places : FWP) : SWP :=
 (dSeq (dAssign "pairs" (dList dNil))
 (dSeq (dAssign "seen" dDict0)
 (dSeq (dFor "place" (dName "places") (dSeq (dAssign "key" (dAttr 178 "key" (dOp getP (dAttr 129 "codes" (dName "self")) (dName "place"))))
 (dSeq (dIf (dAndT (dTest (dOp (eqP id) (dOp getP (dName "key") (dVal (.int 0))) (dName "kind"))) (dAndT (dTest (dOp (inP not) (dOp getP (dName "key") (dVal (.int 1))) (dName "seen"))) dAndNil)) (dSeq (dSetItem (dName "seen") (dOp getP (dName "key") (dVal (.int 1))) (dVal (.bool true)))
 (dSeq (dExpr (dAppend (dName "pairs") (dTup (dCons (dOp getP (dName "key") (dVal (.int 1))) (dCons (dMeth 129 "chain" F_chain (dName "self") (dCons (dMeth 129 "matching_places" F_matching_places (dName "self") (dCons (dName "places") (dCons (dName "key") dNil))) dNil)) dNil)))))
 dEnd)) dEnd)
 dEnd)))
 (dSeq (dRet (dCall tupleP (dCons (dName "pairs") dNil)))
 dEnd))))
theorem w_table (G : Gd prog w (KH w) B) {F_chain : FWP} (h_chain : FnOk prog w B 2 91 F_chain) {F_matching_places : FWP} (h_matching_places : FnOk prog w B 2 98 F_matching_places) : FnOk prog w B 3 112 (fnP ["self", "places", "kind"] (d_table F_chain F_matching_places)) := by
  refine FnOk.def G (by kernel_rfl) (by kernel_rfl) (by decide) (fun vals h => ?_) (fun L X => ?_)
  · exact vals3 (P := fun vals => bindArgs (fdAt (KH w) 112) ⟨vals, []⟩ = pure ((["self", "places", "kind"].map Str.ofString).zip vals)) (fun a0 a1 a2 => by kernel_rfl) h
  · have k_pairs : KO (cE w L 112) "pairs" .local := by kernel_rfl
    have g_tuple : KO (cE w L 112) "tuple" .globalImplicit := by kernel_rfl
    have k_key : KO (cE w L 112) "key" .local := by kernel_rfl
    have k_seen : KO (cE w L 112) "seen" .local := by kernel_rfl
    have k_kind : KO (cE w L 112) "kind" .local := by kernel_rfl
    have k_self : KO (cE w L 112) "self" .local := by kernel_rfl
    have k_places : KO (cE w L 112) "places" .local := by kernel_rfl
    have k_place : KO (cE w L 112) "place" .local := by kernel_rfl
    have st_key : StoreOk (callEnv (fdAt (KH w) 112) L 112) "key" := .loc k_key (by kernel_rfl)
    have st_place : StoreOk (callEnv (fdAt (KH w) 112) L 112) "place" := .loc k_place (by kernel_rfl)
    have st_seen : StoreOk (callEnv (fdAt (KH w) 112) L 112) "seen" := .loc k_seen (by kernel_rfl)
    have st_pairs : StoreOk (callEnv (fdAt (KH w) 112) L 112) "pairs" := .loc k_pairs (by kernel_rfl)
    show SsOk prog w B 2 _ (_ :: _ :: _ :: _ :: []) _
    refine (SsOk.cons ?_ (SsOk.cons ?_ (SsOk.cons ?_ (SsOk.cons ?_ SsOk.nil))))
    · exact (SOk.assign (EOk.list EsOk.nil) st_pairs X.kind (by kernel_rfl))
    · exact (SOk.assign EOk.dict0 st_seen X.kind (by kernel_rfl))
    · refine SOk.for (EOk.local X.kind k_places nd_places) ?_ st_place X.kind (fun _ => by kernel_rfl)
      · refine (SsOk.cons ?_ (SsOk.cons ?_ SsOk.nil))
        · exact (SOk.assign (EOk.attr (C := 178) G (EOk.sub (EOk.attr (C := 129) G (EOk.local X.kind k_self nd_self) at_codes (by kernel_rfl)) (EOk.local X.kind k_place nd_place) (fun _ _ => by kernel_rfl)) at_key (by kernel_rfl)) st_key X.kind (by kernel_rfl))
        · refine SOk.ite (TOk.bool (AllOk.and (TOk.cmp eq_ok (EOk.sub (EOk.local X.kind k_key nd_key) EOk.cint (fun _ _ => by kernel_rfl)) (EOk.local X.kind k_kind nd_kind) (by kernel_rfl)) (AllOk.and (TOk.cmp notIn_ok (EOk.sub (EOk.local X.kind k_key nd_key) EOk.cint (fun _ _ => by kernel_rfl)) (EOk.local X.kind k_seen nd_seen) (by kernel_rfl)) AllOk.andNil))) ?_ ?_
          · refine (SsOk.cons ?_ (SsOk.cons ?_ SsOk.nil))
            · exact (SOk.setItem (EOk.local X.kind k_seen nd_seen) (EOk.sub (EOk.local X.kind k_key nd_key) EOk.cint (fun _ _ => by kernel_rfl)) EOk.cbool (by kernel_rfl))
            · exact (SOk.expr (EOk.append (EOk.local X.kind k_pairs nd_pairs) (EOk.tup (EsOk.cons (EOk.sub (EOk.local X.kind k_key nd_key) EOk.cint (fun _ _ => by kernel_rfl)) (EsOk.cons (EOk.callM (C := 129) (f := 91) G h_chain (by decide) mo_chain (EOk.local X.kind k_self nd_self) (EsOk.cons (EOk.callM (C := 129) (f := 98) G h_matching_places (by decide) mo_matching_places (EOk.local X.kind k_self nd_self) (EsOk.cons (EOk.local X.kind k_places nd_places) (EsOk.cons (EOk.local X.kind k_key nd_key) EsOk.nil (by kernel_rfl)) (by kernel_rfl)) (ArgsOk.cons (by kernel_rfl) (by kernel_rfl)) (methForm (by kernel_rfl) (by kernel_rfl) (by kernel_rfl))) EsOk.nil (by kernel_rfl)) (ArgsOk.cons (by kernel_rfl) (by kernel_rfl)) (methForm (by kernel_rfl) (by kernel_rfl) (by kernel_rfl))) EsOk.nil (by kernel_rfl)) (by kernel_rfl))) (by kernel_rfl) (methForm (by kernel_rfl) (by kernel_rfl) (by kernel_rfl))) X.kind (by kernel_rfl))
          · exact SsOk.nil
    · exact (SOk.ret (EOk.callB (f := .type "tuple") G X tuple_ok g_tuple ns_tuple bt_tuple nb_tuple kp_tuple (EsOk.cons (EOk.local X.kind k_pairs nd_pairs) EsOk.nil (by kernel_rfl)) (ArgsOk.cons (by kernel_rfl) (by kernel_rfl)) nd_tuple (arm_eval_Call_Name' _ _ _ _ _ _)))
noncomputable def d_switch (F_chain F_matching_places F_fresh_label F_table F_variable_places : FWP) : SWP :=
 (dSeq (dAssign "default" (dMeth 129 "chain" F_chain (dName "self") (dCons (dMeth 129 "variable_places" F_variable_places (dName "self") (dCons (dName "places") dNil)) dNil)))
 (dSeq (dAssign "constants" (dMeth 129 "table" F_table (dName "self") (dCons (dName "places") (dCons (dVal (.str (Str.ofString "const"))) dNil))))
 (dSeq (dAssign "structures" (dMeth 129 "table" F_table (dName "self") (dCons (dName "places") (dCons (dVal (.str (Str.ofString "struct"))) dNil))))
 (dSeq (dAssign "const_label" (dName "default"))
 (dSeq (dAssign "struct_label" (dName "default"))
 (dSeq (dIf (dTest (dOp gtP (dCall lenP (dCons (dName "constants") dNil)) (dVal (.int 0)))) (dSeq (dAssign "const_label" (dMeth 129 "fresh_label" F_fresh_label (dName "self") dNil))
 dEnd) dEnd)
 (dSeq (dIf (dTest (dOp gtP (dCall lenP (dCons (dName "structures") dNil)) (dVal (.int 0)))) (dSeq (dAssign "struct_label" (dMeth 129 "fresh_label" F_fresh_label (dName "self") dNil))
 dEnd) dEnd)
 (dSeq (dAssign "list_label" (dMeth 129 "chain" F_chain (dName "self") (dCons (dMeth 129 "matching_places" F_matching_places (dName "self") (dCons (dName "places") (dCons (dVal (.tup [.str (Str.ofString "list")])) dNil))) dNil)))
 (dSeq (dExpr (dAppend (dAttr 129 "rows" (dName "self")) (dTup (dCons (dVal (.str (Str.ofString "switch_on_term"))) (dCons (dMeth 129 "chain" F_chain (dName "self") (dCons (dName "places") dNil)) (dCons (dName "const_label") (dCons (dName "list_label") (dCons (dName "struct_label") dNil))))))))
 (dSeq (dIf (dTest (dOp gtP (dCall lenP (dCons (dName "constants") dNil)) (dVal (.int 0)))) (dSeq (dExpr (dAppend (dAttr 129 "rows" (dName "self")) (dTup (dCons (dVal (.str (Str.ofString "label"))) (dCons (dName "const_label") dNil)))))
 (dSeq (dExpr (dAppend (dAttr 129 "rows" (dName "self")) (dTup (dCons (dVal (.str (Str.ofString "switch_on_constant"))) (dCons (dName "constants") (dCons (dName "default") dNil))))))
 dEnd)) dEnd)
 (dSeq (dIf (dTest (dOp gtP (dCall lenP (dCons (dName "structures") dNil)) (dVal (.int 0)))) (dSeq (dExpr (dAppend (dAttr 129 "rows" (dName "self")) (dTup (dCons (dVal (.str (Str.ofString "label"))) (dCons (dName "struct_label") dNil)))))
 (dSeq (dExpr (dAppend (dAttr 129 "rows" (dName "self")) (dTup (dCons (dVal (.str (Str.ofString "switch_on_structure"))) (dCons (dName "structures") (dCons (dName "default") dNil))))))
 dEnd)) dEnd)
 dEnd)))))))))))
theorem w_switch (G : Gd prog w (KH w) B) {F_chain : FWP} (h_chain : FnOk prog w B 2 91 F_chain) {F_matching_places : FWP} (h_matching_places : FnOk prog w B 2 98 F_matching_places) {F_fresh_label : FWP} (h_fresh_label : FnOk prog w B 1 77 F_fresh_label) {F_table : FWP} (h_table : FnOk prog w B 3 112 F_table) {F_variable_places : FWP} (h_variable_places : FnOk prog w B 1 105 F_variable_places) : FnOk prog w B 4 119 (fnP ["self", "places"] (d_switch F_chain F_matching_places F_fresh_label F_table F_variable_places)) := by
  refine FnOk.def G (by kernel_rfl) (by kernel_rfl) (by decide) (fun vals h => ?_) (fun L X => ?_)
  · exact vals2 (P := fun vals => bindArgs (fdAt (KH w) 119) ⟨vals, []⟩ = pure ((["self", "places"].map Str.ofString).zip vals)) (fun a0 a1 => by kernel_rfl) h
  · have k_structures : KO (cE w L 119) "structures" .local := by kernel_rfl
    have g_len : KO (cE w L 119) "len" .globalImplicit := by kernel_rfl
    have k_self : KO (cE w L 119) "self" .local := by kernel_rfl
    have k_default : KO (cE w L 119) "default" .local := by kernel_rfl
    have k_struct_label : KO (cE w L 119) "struct_label" .local := by kernel_rfl
    have k_constants : KO (cE w L 119) "constants" .local := by kernel_rfl
    have k_const_label : KO (cE w L 119) "const_label" .local := by kernel_rfl
    have k_list_label : KO (cE w L 119) "list_label" .local := by kernel_rfl
    have k_places : KO (cE w L 119) "places" .local := by kernel_rfl
    have g_LIST_KEY : KO (cE w L 119) "LIST_KEY" .globalImplicit := by kernel_rfl
    have st_list_label : StoreOk (callEnv (fdAt (KH w) 119) L 119) "list_label" := .loc k_list_label (by kernel_rfl)
    have st_struct_label : StoreOk (callEnv (fdAt (KH w) 119) L 119) "struct_label" := .loc k_struct_label (by kernel_rfl)
    have st_const_label : StoreOk (callEnv (fdAt (KH w) 119) L 119) "const_label" := .loc k_const_label (by kernel_rfl)
    have st_structures : StoreOk (callEnv (fdAt (KH w) 119) L 119) "structures" := .loc k_structures (by kernel_rfl)
    have st_constants : StoreOk (callEnv (fdAt (KH w) 119) L 119) "constants" := .loc k_constants (by kernel_rfl)
    have st_default : StoreOk (callEnv (fdAt (KH w) 119) L 119) "default" := .loc k_default (by kernel_rfl)
    show SsOk prog w B 3 _ (_ :: _ :: _ :: _ :: _ :: _ :: _ :: _ :: _ :: _ :: _ :: []) _
    refine (SsOk.cons ?_ (SsOk.cons ?_ (SsOk.cons ?_ (SsOk.cons ?_ (SsOk.cons ?_ (SsOk.cons ?_ (SsOk.cons ?_ (SsOk.cons ?_ (SsOk.cons ?_ (SsOk.cons ?_ (SsOk.cons ?_ SsOk.nil)))))))))))
    · exact (SOk.assign (EOk.callM (C := 129) (f := 91) G h_chain (by decide) mo_chain (EOk.local X.kind k_self nd_self) (EsOk.cons (EOk.callM (C := 129) (f := 105) G h_variable_places (by decide) mo_variable_places (EOk.local X.kind k_self nd_self) (EsOk.cons (EOk.local X.kind k_places nd_places) EsOk.nil (by kernel_rfl)) (ArgsOk.cons (by kernel_rfl) (by kernel_rfl)) (methForm (by kernel_rfl) (by kernel_rfl) (by kernel_rfl))) EsOk.nil (by kernel_rfl)) (ArgsOk.cons (by kernel_rfl) (by kernel_rfl)) (methForm (by kernel_rfl) (by kernel_rfl) (by kernel_rfl))) st_default X.kind (by kernel_rfl))
    · exact (SOk.assign (EOk.callM (C := 129) (f := 112) G h_table (by decide) mo_table (EOk.local X.kind k_self nd_self) (EsOk.cons (EOk.local X.kind k_places nd_places) (EsOk.cons EOk.cstr EsOk.nil (by kernel_rfl)) (by kernel_rfl)) (ArgsOk.cons (by kernel_rfl) (by kernel_rfl)) (methForm (by kernel_rfl) (by kernel_rfl) (by kernel_rfl))) st_constants X.kind (by kernel_rfl))
    · exact (SOk.assign (EOk.callM (C := 129) (f := 112) G h_table (by decide) mo_table (EOk.local X.kind k_self nd_self) (EsOk.cons (EOk.local X.kind k_places nd_places) (EsOk.cons EOk.cstr EsOk.nil (by kernel_rfl)) (by kernel_rfl)) (ArgsOk.cons (by kernel_rfl) (by kernel_rfl)) (methForm (by kernel_rfl) (by kernel_rfl) (by kernel_rfl))) st_structures X.kind (by kernel_rfl))
    · exact (SOk.assign (EOk.local X.kind k_default nd_default) st_const_label X.kind (by kernel_rfl))
    · exact (SOk.assign (EOk.local X.kind k_default nd_default) st_struct_label X.kind (by kernel_rfl))
    · refine SOk.ite (TOk.cmp gt_ok (EOk.callB (f := .builtin "len") G X len_ok g_len ns_len bt_len nb_len kp_len (EsOk.cons (EOk.local X.kind k_constants nd_constants) EsOk.nil (by kernel_rfl)) (ArgsOk.cons (by kernel_rfl) (by kernel_rfl)) nd_len (arm_eval_Call_Name' _ _ _ _ _ _)) EOk.cint (by kernel_rfl)) ?_ ?_
      · refine (SsOk.cons ?_ SsOk.nil)
        · exact (SOk.assign (EOk.callM (C := 129) (f := 77) G h_fresh_label (by decide) mo_fresh_label (EOk.local X.kind k_self nd_self) EsOk.nil ArgsOk.nil (methForm (by kernel_rfl) (by kernel_rfl) (by kernel_rfl))) st_const_label X.kind (by kernel_rfl))
      · exact SsOk.nil
    · refine SOk.ite (TOk.cmp gt_ok (EOk.callB (f := .builtin "len") G X len_ok g_len ns_len bt_len nb_len kp_len (EsOk.cons (EOk.local X.kind k_structures nd_structures) EsOk.nil (by kernel_rfl)) (ArgsOk.cons (by kernel_rfl) (by kernel_rfl)) nd_len (arm_eval_Call_Name' _ _ _ _ _ _)) EOk.cint (by kernel_rfl)) ?_ ?_
      · refine (SsOk.cons ?_ SsOk.nil)
        · exact (SOk.assign (EOk.callM (C := 129) (f := 77) G h_fresh_label (by decide) mo_fresh_label (EOk.local X.kind k_self nd_self) EsOk.nil ArgsOk.nil (methForm (by kernel_rfl) (by kernel_rfl) (by kernel_rfl))) st_struct_label X.kind (by kernel_rfl))
      · exact SsOk.nil
    · exact (SOk.assign (EOk.callM (C := 129) (f := 91) G h_chain (by decide) mo_chain (EOk.local X.kind k_self nd_self) (EsOk.cons (EOk.callM (C := 129) (f := 98) G h_matching_places (by decide) mo_matching_places (EOk.local X.kind k_self nd_self) (EsOk.cons (EOk.local X.kind k_places nd_places) (EsOk.cons (EOk.globTup G X g_LIST_KEY gt_LIST_KEY nd_LIST_KEY) EsOk.nil (by kernel_rfl)) (by kernel_rfl)) (ArgsOk.cons (by kernel_rfl) (by kernel_rfl)) (methForm (by kernel_rfl) (by kernel_rfl) (by kernel_rfl))) EsOk.nil (by kernel_rfl)) (ArgsOk.cons (by kernel_rfl) (by kernel_rfl)) (methForm (by kernel_rfl) (by kernel_rfl) (by kernel_rfl))) st_list_label X.kind (by kernel_rfl))
    · exact (SOk.expr (EOk.append (EOk.attr (C := 129) G (EOk.local X.kind k_self nd_self) at_rows (by kernel_rfl)) (EOk.tup (EsOk.cons EOk.cstr (EsOk.cons (EOk.callM (C := 129) (f := 91) G h_chain (by decide) mo_chain (EOk.local X.kind k_self nd_self) (EsOk.cons (EOk.local X.kind k_places nd_places) EsOk.nil (by kernel_rfl)) (ArgsOk.cons (by kernel_rfl) (by kernel_rfl)) (methForm (by kernel_rfl) (by kernel_rfl) (by kernel_rfl))) (EsOk.cons (EOk.local X.kind k_const_label nd_const_label) (EsOk.cons (EOk.local X.kind k_list_label nd_list_label) (EsOk.cons (EOk.local X.kind k_struct_label nd_struct_label) EsOk.nil (by kernel_rfl)) (by kernel_rfl)) (by kernel_rfl)) (by kernel_rfl)) (by kernel_rfl))) (by kernel_rfl) (methForm (by kernel_rfl) (by kernel_rfl) (by kernel_rfl))) X.kind (by kernel_rfl))
    · refine SOk.ite (TOk.cmp gt_ok (EOk.callB (f := .builtin "len") G X len_ok g_len ns_len bt_len nb_len kp_len (EsOk.cons (EOk.local X.kind k_constants nd_constants) EsOk.nil (by kernel_rfl)) (ArgsOk.cons (by kernel_rfl) (by kernel_rfl)) nd_len (arm_eval_Call_Name' _ _ _ _ _ _)) EOk.cint (by kernel_rfl)) ?_ ?_
      · refine (SsOk.cons ?_ (SsOk.cons ?_ SsOk.nil))
        · exact (SOk.expr (EOk.append (EOk.attr (C := 129) G (EOk.local X.kind k_self nd_self) at_rows (by kernel_rfl)) (EOk.tup (EsOk.cons EOk.cstr (EsOk.cons (EOk.local X.kind k_const_label nd_const_label) EsOk.nil (by kernel_rfl)) (by kernel_rfl))) (by kernel_rfl) (methForm (by kernel_rfl) (by kernel_rfl) (by kernel_rfl))) X.kind (by kernel_rfl))
        · exact (SOk.expr (EOk.append (EOk.attr (C := 129) G (EOk.local X.kind k_self nd_self) at_rows (by kernel_rfl)) (EOk.tup (EsOk.cons EOk.cstr (EsOk.cons (EOk.local X.kind k_constants nd_constants) (EsOk.cons (EOk.local X.kind k_default nd_default) EsOk.nil (by kernel_rfl)) (by kernel_rfl)) (by kernel_rfl))) (by kernel_rfl) (methForm (by kernel_rfl) (by kernel_rfl) (by kernel_rfl))) X.kind (by kernel_rfl))
      · exact SsOk.nil
    · refine SOk.ite (TOk.cmp gt_ok (EOk.callB (f := .builtin "len") G X len_ok g_len ns_len bt_len nb_len kp_len (EsOk.cons (EOk.local X.kind k_structures nd_structures) EsOk.nil (by kernel_rfl)) (ArgsOk.cons (by kernel_rfl) (by kernel_rfl)) nd_len (arm_eval_Call_Name' _ _ _ _ _ _)) EOk.cint (by kernel_rfl)) ?_ ?_
      · refine (SsOk.cons ?_ (SsOk.cons ?_ SsOk.nil))
        · exact (SOk.expr (EOk.append (EOk.attr (C := 129) G (EOk.local X.kind k_self nd_self) at_rows (by kernel_rfl)) (EOk.tup (EsOk.cons EOk.cstr (EsOk.cons (EOk.local X.kind k_struct_label nd_struct_label) EsOk.nil (by kernel_rfl)) (by kernel_rfl))) (by kernel_rfl) (methForm (by kernel_rfl) (by kernel_rfl) (by kernel_rfl))) X.kind (by kernel_rfl))
        · exact (SOk.expr (EOk.append (EOk.attr (C := 129) G (EOk.local X.kind k_self nd_self) at_rows (by kernel_rfl)) (EOk.tup (EsOk.cons EOk.cstr (EsOk.cons (EOk.local X.kind k_structures nd_structures) (EsOk.cons (EOk.local X.kind k_default nd_default) EsOk.nil (by kernel_rfl)) (by kernel_rfl)) (by kernel_rfl))) (by kernel_rfl) (methForm (by kernel_rfl) (by kernel_rfl) (by kernel_rfl))) X.kind (by kernel_rfl))
      · exact SsOk.nil
noncomputable def d_finish (F_chain_rows : FWP) : SWP :=
 (dSeq (dFor "pair" (dAttr 129 "chains" (dName "self")) (dSeq (dExpr (dAppend (dAttr 129 "rows" (dName "self")) (dTup (dCons (dVal (.str (Str.ofString "label"))) (dCons (dOp getP (dName "pair") (dVal (.int 0))) dNil)))))
 (dSeq (dFor "row" (dMeth 129 "chain_rows" F_chain_rows (dName "self") (dCons (dOp getP (dName "pair") (dVal (.int 1))) dNil)) (dSeq (dExpr (dAppend (dAttr 129 "rows" (dName "self")) (dName "row")))
 dEnd))
 dEnd)))
 (dSeq (dForR "place" (dCons (dCall lenP (dCons (dAttr 129 "codes" (dName "self")) dNil)) dNil) (dSeq (dExpr (dAppend (dAttr 129 "rows" (dName "self")) (dTup (dCons (dVal (.str (Str.ofString "label"))) (dCons (dName "place") dNil)))))
 (dSeq (dFor "row" (dAttr 178 "instrs" (dOp getP (dAttr 129 "codes" (dName "self")) (dName "place"))) (dSeq (dExpr (dAppend (dAttr 129 "rows" (dName "self")) (dName "row")))
 dEnd))
 dEnd)))
 (dSeq (dRet (dAttr 129 "rows" (dName "self")))
 dEnd)))
theorem w_finish (G : Gd prog w (KH w) B) {F_chain_rows : FWP} (h_chain_rows : FnOk prog w B 1 84 F_chain_rows) : FnOk prog w B 2 126 (fnP ["self"] (d_finish F_chain_rows)) := by
  refine FnOk.def G (by kernel_rfl) (by kernel_rfl) (by decide) (fun vals h => ?_) (fun L X => ?_)
  · exact vals1 (P := fun vals => bindArgs (fdAt (KH w) 126) ⟨vals, []⟩ = pure ((["self"].map Str.ofString).zip vals)) (fun a0 => by kernel_rfl) h
  · have k_self : KO (cE w L 126) "self" .local := by kernel_rfl
    have k_row : KO (cE w L 126) "row" .local := by kernel_rfl
    have k_place : KO (cE w L 126) "place" .local := by kernel_rfl
    have g_len : KO (cE w L 126) "len" .globalImplicit := by kernel_rfl
    have g_range : KO (cE w L 126) "range" .globalImplicit := by kernel_rfl
    have k_pair : KO (cE w L 126) "pair" .local := by kernel_rfl
    have st_row : StoreOk (callEnv (fdAt (KH w) 126) L 126) "row" := .loc k_row (by kernel_rfl)
    have st_place : StoreOk (callEnv (fdAt (KH w) 126) L 126) "place" := .loc k_place (by kernel_rfl)
    have st_pair : StoreOk (callEnv (fdAt (KH w) 126) L 126) "pair" := .loc k_pair (by kernel_rfl)
    show SsOk prog w B 1 _ (_ :: _ :: _ :: []) _
    refine (SsOk.cons ?_ (SsOk.cons ?_ (SsOk.cons ?_ SsOk.nil)))
    · refine SOk.for (EOk.attr (C := 129) G (EOk.local X.kind k_self nd_self) at_chains (by kernel_rfl)) ?_ st_pair X.kind (fun _ => by kernel_rfl)
      · refine (SsOk.cons ?_ (SsOk.cons ?_ SsOk.nil))
        · exact (SOk.expr (EOk.append (EOk.attr (C := 129) G (EOk.local X.kind k_self nd_self) at_rows (by kernel_rfl)) (EOk.tup (EsOk.cons EOk.cstr (EsOk.cons (EOk.sub (EOk.local X.kind k_pair nd_pair) EOk.cint (fun _ _ => by kernel_rfl)) EsOk.nil (by kernel_rfl)) (by kernel_rfl))) (by kernel_rfl) (methForm (by kernel_rfl) (by kernel_rfl) (by kernel_rfl))) X.kind (by kernel_rfl))
        · refine SOk.for (EOk.callM (C := 129) (f := 84) G h_chain_rows (by decide) mo_chain_rows (EOk.local X.kind k_self nd_self) (EsOk.cons (EOk.sub (EOk.local X.kind k_pair nd_pair) EOk.cint (fun _ _ => by kernel_rfl)) EsOk.nil (by kernel_rfl)) (ArgsOk.cons (by kernel_rfl) (by kernel_rfl)) (methForm (by kernel_rfl) (by kernel_rfl) (by kernel_rfl))) ?_ st_row X.kind (fun _ => by kernel_rfl)
          · refine (SsOk.cons ?_ SsOk.nil)
            · exact (SOk.expr (EOk.append (EOk.attr (C := 129) G (EOk.local X.kind k_self nd_self) at_rows (by kernel_rfl)) (EOk.local X.kind k_row nd_row) (by kernel_rfl) (methForm (by kernel_rfl) (by kernel_rfl) (by kernel_rfl))) X.kind (by kernel_rfl))
    · refine SOk.forR G X rfl g_range ns_range (EsOk.cons (EOk.callB (f := .builtin "len") G X len_ok g_len ns_len bt_len nb_len kp_len (EsOk.cons (EOk.attr (C := 129) G (EOk.local X.kind k_self nd_self) at_codes (by kernel_rfl)) EsOk.nil (by kernel_rfl)) (ArgsOk.cons (by kernel_rfl) (by kernel_rfl)) nd_len (arm_eval_Call_Name' _ _ _ _ _ _)) EsOk.nil (by kernel_rfl)) (ArgsOk.cons (by kernel_rfl) (by kernel_rfl)) ?_ st_place (arm_eval_Call_Name' _ _ _ _ _ _) (fun _ => by kernel_rfl)
      · refine (SsOk.cons ?_ (SsOk.cons ?_ SsOk.nil))
        · exact (SOk.expr (EOk.append (EOk.attr (C := 129) G (EOk.local X.kind k_self nd_self) at_rows (by kernel_rfl)) (EOk.tup (EsOk.cons EOk.cstr (EsOk.cons (EOk.local X.kind k_place nd_place) EsOk.nil (by kernel_rfl)) (by kernel_rfl))) (by kernel_rfl) (methForm (by kernel_rfl) (by kernel_rfl) (by kernel_rfl))) X.kind (by kernel_rfl))
        · refine SOk.for (EOk.attr (C := 178) G (EOk.sub (EOk.attr (C := 129) G (EOk.local X.kind k_self nd_self) at_codes (by kernel_rfl)) (EOk.local X.kind k_place nd_place) (fun _ _ => by kernel_rfl)) at_instrs (by kernel_rfl)) ?_ st_row X.kind (fun _ => by kernel_rfl)
          · refine (SsOk.cons ?_ SsOk.nil)
            · exact (SOk.expr (EOk.append (EOk.attr (C := 129) G (EOk.local X.kind k_self nd_self) at_rows (by kernel_rfl)) (EOk.local X.kind k_row nd_row) (by kernel_rfl) (methForm (by kernel_rfl) (by kernel_rfl) (by kernel_rfl))) X.kind (by kernel_rfl))
    · exact (SOk.ret (EOk.attr (C := 129) G (EOk.local X.kind k_self nd_self) at_rows (by kernel_rfl)))
noncomputable def d_label_places : SWP :=
 (dSeq (dAssign "where" dDict0)
 (dSeq (dForR "place" (dCons (dCall lenP (dCons (dName "block") dNil)) dNil) (dSeq (dIf (dTest (dOp (eqP id) (dOp getP (dOp getP (dName "block") (dName "place")) (dVal (.int 0))) (dVal (.str (Str.ofString "label"))))) (dSeq (dSetItem (dName "where") (dOp getP (dOp getP (dName "block") (dName "place")) (dVal (.int 1))) (dName "place"))
 dEnd) dEnd)
 dEnd))
 (dSeq (dRet (dName "where"))
 dEnd)))
theorem w_label_places (G : Gd prog w (KH w) B) : FnOk prog w B 1 140 (fnP ["block"] (d_label_places)) := by
  refine FnOk.def G (by kernel_rfl) (by kernel_rfl) (by decide) (fun vals h => ?_) (fun L X => ?_)
  · exact vals1 (P := fun vals => bindArgs (fdAt (KH w) 140) ⟨vals, []⟩ = pure ((["block"].map Str.ofString).zip vals)) (fun a0 => by kernel_rfl) h
  · have k_where : KO (cE w L 140) "where" .local := by kernel_rfl
    have k_block : KO (cE w L 140) "block" .local := by kernel_rfl
    have k_place : KO (cE w L 140) "place" .local := by kernel_rfl
    have g_len : KO (cE w L 140) "len" .globalImplicit := by kernel_rfl
    have g_range : KO (cE w L 140) "range" .globalImplicit := by kernel_rfl
    have st_place : StoreOk (callEnv (fdAt (KH w) 140) L 140) "place" := .loc k_place (by kernel_rfl)
    have st_where : StoreOk (callEnv (fdAt (KH w) 140) L 140) "where" := .loc k_where (by kernel_rfl)
    show SsOk prog w B 0 _ (_ :: _ :: _ :: []) _
    refine (SsOk.cons ?_ (SsOk.cons ?_ (SsOk.cons ?_ SsOk.nil)))
    · exact (SOk.assign EOk.dict0 st_where X.kind (by kernel_rfl))
    · refine SOk.forR G X rfl g_range ns_range (EsOk.cons (EOk.callB (f := .builtin "len") G X len_ok g_len ns_len bt_len nb_len kp_len (EsOk.cons (EOk.local X.kind k_block nd_block) EsOk.nil (by kernel_rfl)) (ArgsOk.cons (by kernel_rfl) (by kernel_rfl)) nd_len (arm_eval_Call_Name' _ _ _ _ _ _)) EsOk.nil (by kernel_rfl)) (ArgsOk.cons (by kernel_rfl) (by kernel_rfl)) ?_ st_place (arm_eval_Call_Name' _ _ _ _ _ _) (fun _ => by kernel_rfl)
      · refine (SsOk.cons ?_ SsOk.nil)
        · refine SOk.ite (TOk.cmp eq_ok (EOk.sub (EOk.sub (EOk.local X.kind k_block nd_block) (EOk.local X.kind k_place nd_place) (fun _ _ => by kernel_rfl)) EOk.cint (fun _ _ => by kernel_rfl)) EOk.cstr (by kernel_rfl)) ?_ ?_
          · refine (SsOk.cons ?_ SsOk.nil)
            · exact (SOk.setItem (EOk.local X.kind k_where nd_where) (EOk.sub (EOk.sub (EOk.local X.kind k_block nd_block) (EOk.local X.kind k_place nd_place) (fun _ _ => by kernel_rfl)) EOk.cint (fun _ _ => by kernel_rfl)) (EOk.local X.kind k_place nd_place) (by kernel_rfl))
          · exact SsOk.nil
    · exact (SOk.ret (EOk.local X.kind k_where nd_where))
noncomputable def d_switch_target : SWP :=
 (dSeq (dAssign "kind" (dOp getP (dName "key") (dVal (.int 0))))
 (dSeq (dIf (dTest (dOp (eqP id) (dName "kind") (dVal (.str (Str.ofString "const"))))) (dSeq (dRet (dOp getP (dName "ins") (dVal (.int 2))))
 dEnd) dEnd)
 (dSeq (dIf (dTest (dOp (eqP id) (dName "kind") (dVal (.str (Str.ofString "list"))))) (dSeq (dRet (dOp getP (dName "ins") (dVal (.int 3))))
 dEnd) dEnd)
 (dSeq (dIf (dTest (dOp (eqP id) (dName "kind") (dVal (.str (Str.ofString "struct"))))) (dSeq (dRet (dOp getP (dName "ins") (dVal (.int 4))))
 dEnd) dEnd)
 (dSeq (dRet (dOp getP (dName "ins") (dVal (.int 1))))
 dEnd)))))
theorem w_switch_target (G : Gd prog w (KH w) B) : FnOk prog w B 1 147 (fnP ["ins", "key"] (d_switch_target)) := by
  refine FnOk.def G (by kernel_rfl) (by kernel_rfl) (by decide) (fun vals h => ?_) (fun L X => ?_)
  · exact vals2 (P := fun vals => bindArgs (fdAt (KH w) 147) ⟨vals, []⟩ = pure ((["ins", "key"].map Str.ofString).zip vals)) (fun a0 a1 => by kernel_rfl) h
  · have k_ins : KO (cE w L 147) "ins" .local := by kernel_rfl
    have k_kind : KO (cE w L 147) "kind" .local := by kernel_rfl
    have k_key : KO (cE w L 147) "key" .local := by kernel_rfl
    have st_kind : StoreOk (callEnv (fdAt (KH w) 147) L 147) "kind" := .loc k_kind (by kernel_rfl)
    show SsOk prog w B 0 _ (_ :: _ :: _ :: _ :: _ :: []) _
    refine (SsOk.cons ?_ (SsOk.cons ?_ (SsOk.cons ?_ (SsOk.cons ?_ (SsOk.cons ?_ SsOk.nil)))))
    · exact (SOk.assign (EOk.sub (EOk.local X.kind k_key nd_key) EOk.cint (fun _ _ => by kernel_rfl)) st_kind X.kind (by kernel_rfl))
    · refine SOk.ite (TOk.cmp eq_ok (EOk.local X.kind k_kind nd_kind) EOk.cstr (by kernel_rfl)) ?_ ?_
      · refine (SsOk.cons ?_ SsOk.nil)
        · exact (SOk.ret (EOk.sub (EOk.local X.kind k_ins nd_ins) EOk.cint (fun _ _ => by kernel_rfl)))
      · exact SsOk.nil
    · refine SOk.ite (TOk.cmp eq_ok (EOk.local X.kind k_kind nd_kind) EOk.cstr (by kernel_rfl)) ?_ ?_
      · refine (SsOk.cons ?_ SsOk.nil)
        · exact (SOk.ret (EOk.sub (EOk.local X.kind k_ins nd_ins) EOk.cint (fun _ _ => by kernel_rfl)))
      · exact SsOk.nil
    · refine SOk.ite (TOk.cmp eq_ok (EOk.local X.kind k_kind nd_kind) EOk.cstr (by kernel_rfl)) ?_ ?_
      · refine (SsOk.cons ?_ SsOk.nil)
        · exact (SOk.ret (EOk.sub (EOk.local X.kind k_ins nd_ins) EOk.cint (fun _ _ => by kernel_rfl)))
      · exact SsOk.nil
    · exact (SOk.ret (EOk.sub (EOk.local X.kind k_ins nd_ins) EOk.cint (fun _ _ => by kernel_rfl)))
noncomputable def d_table_target : SWP :=
 (dSeq (dFor "pair" (dOp getP (dName "ins") (dVal (.int 1))) (dSeq (dIf (dTest (dOp (eqP id) (dOp getP (dName "pair") (dVal (.int 0))) (dOp getP (dName "key") (dVal (.int 1))))) (dSeq (dRet (dOp getP (dName "pair") (dVal (.int 1))))
 dEnd) dEnd)
 dEnd))
 (dSeq (dRet (dOp getP (dName "ins") (dVal (.int 2))))
 dEnd))
theorem w_table_target (G : Gd prog w (KH w) B) : FnOk prog w B 1 154 (fnP ["ins", "key"] (d_table_target)) := by
  refine FnOk.def G (by kernel_rfl) (by kernel_rfl) (by decide) (fun vals h => ?_) (fun L X => ?_)
  · exact vals2 (P := fun vals => bindArgs (fdAt (KH w) 154) ⟨vals, []⟩ = pure ((["ins", "key"].map Str.ofString).zip vals)) (fun a0 a1 => by kernel_rfl) h
  · have k_ins : KO (cE w L 154) "ins" .local := by kernel_rfl
    have k_pair : KO (cE w L 154) "pair" .local := by kernel_rfl
    have k_key : KO (cE w L 154) "key" .local := by kernel_rfl
    have st_pair : StoreOk (callEnv (fdAt (KH w) 154) L 154) "pair" := .loc k_pair (by kernel_rfl)
    show SsOk prog w B 0 _ (_ :: _ :: []) _
    refine (SsOk.cons ?_ (SsOk.cons ?_ SsOk.nil))
    · refine SOk.for (EOk.sub (EOk.local X.kind k_ins nd_ins) EOk.cint (fun _ _ => by kernel_rfl)) ?_ st_pair X.kind (fun _ => by kernel_rfl)
      · refine (SsOk.cons ?_ SsOk.nil)
        · refine SOk.ite (TOk.cmp eq_ok (EOk.sub (EOk.local X.kind k_pair nd_pair) EOk.cint (fun _ _ => by kernel_rfl)) (EOk.sub (EOk.local X.kind k_key nd_key) EOk.cint (fun _ _ => by kernel_rfl)) (by kernel_rfl)) ?_ ?_
          · refine (SsOk.cons ?_ SsOk.nil)
            · exact (SOk.ret (EOk.sub (EOk.local X.kind k_pair nd_pair) EOk.cint (fun _ _ => by kernel_rfl)))
          · exact SsOk.nil
    · exact (SOk.ret (EOk.sub (EOk.local X.kind k_ins nd_ins) EOk.cint (fun _ _ => by kernel_rfl)))
noncomputable def d_tried_clauses (F_switch_target F_table_target F_label_places : FWP) : SWP :=
 (dSeq (dIf (dTest (dOp (eqP id) (dName "count") (dVal (.int 0)))) (dSeq (dRet (dList dNil))
 dEnd) dEnd)
 (dSeq (dIf (dTest (dOp (eqP id) (dName "count") (dVal (.int 1)))) (dSeq (dRet (dList (dCons (dVal (.int 0)) dNil)))
 dEnd) dEnd)
 (dSeq (dAssign "where" (dCall F_label_places (dCons (dName "block") dNil)))
 (dSeq (dAssign "found" (dList dNil))
 (dSeq (dAssign "pending" (dList (dCons (dVal (.int 0)) dNil)))
 (dSeq (dWhile (dTest (dOp gtP (dCall lenP (dCons (dName "pending") dNil)) (dVal (.int 0)))) (dSeq (dAssign "place" (dPop (dName "pending")))
 (dSeq (dAssign "ins" (dOp getP (dName "block") (dName "place")))
 (dSeq (dAssign "name" (dOp getP (dName "ins") (dVal (.int 0))))
 (dSeq (dAssign "target" (dVal (.int (-1))))
 (dSeq (dIf (dTest (dOp (eqP id) (dName "name") (dVal (.str (Str.ofString "label"))))) (dSeq (dIf (dTest (dOp ltP (dOp getP (dName "ins") (dVal (.int 1))) (dName "count"))) (dSeq (dExpr (dAppend (dName "found") (dOp getP (dName "ins") (dVal (.int 1)))))
 dEnd) (dSeq (dExpr (dAppend (dName "pending") (dOp addP (dName "place") (dVal (.int 1)))))
 dEnd))
 dEnd) (dSeq (dIf (dOrT (dTest (dOp (eqP id) (dName "name") (dVal (.str (Str.ofString "try"))))) (dOrT (dTest (dOp (eqP id) (dName "name") (dVal (.str (Str.ofString "retry"))))) dOrNil)) (dSeq (dExpr (dAppend (dName "pending") (dOp addP (dName "place") (dVal (.int 1)))))
 (dSeq (dAssign "target" (dOp getP (dName "ins") (dVal (.int 1))))
 dEnd)) (dSeq (dIf (dTest (dOp (eqP id) (dName "name") (dVal (.str (Str.ofString "trust"))))) (dSeq (dAssign "target" (dOp getP (dName "ins") (dVal (.int 1))))
 dEnd) (dSeq (dIf (dTest (dOp (eqP id) (dName "name") (dVal (.str (Str.ofString "switch_on_term"))))) (dSeq (dAssign "target" (dCall F_switch_target (dCons (dName "ins") (dCons (dName "key") dNil))))
 dEnd) (dSeq (dIf (dOrT (dTest (dOp (eqP id) (dName "name") (dVal (.str (Str.ofString "switch_on_constant"))))) (dOrT (dTest (dOp (eqP id) (dName "name") (dVal (.str (Str.ofString "switch_on_structure"))))) dOrNil)) (dSeq (dAssign "target" (dCall F_table_target (dCons (dName "ins") (dCons (dName "key") dNil))))
 dEnd) (dSeq dNo
 dEnd))
 dEnd))
 dEnd))
 dEnd))
 dEnd))
 (dSeq (dIf (dTest (dOp (eqP not) (dName "target") (dVal (.int (-1))))) (dSeq (dExpr (dAppend (dName "pending") (dOp getP (dName "where") (dName "target"))))
 dEnd) dEnd)
 dEnd)))))))
 (dSeq (dRet (dName "found"))
 dEnd)))))))
theorem w_tried_clauses (G : Gd prog w (KH w) B) {F_switch_target : FWP} (h_switch_target : FnOk prog w B 1 147 F_switch_target) {F_table_target : FWP} (h_table_target : FnOk prog w B 1 154 F_table_target) {F_label_places : FWP} (h_label_places : FnOk prog w B 1 140 F_label_places) : FnOk prog w B 2 161 (fnP ["block", "count", "key"] (d_tried_clauses F_switch_target F_table_target F_label_places)) := by
  refine FnOk.def G (by kernel_rfl) (by kernel_rfl) (by decide) (fun vals h => ?_) (fun L X => ?_)
  · exact vals3 (P := fun vals => bindArgs (fdAt (KH w) 161) ⟨vals, []⟩ = pure ((["block", "count", "key"].map Str.ofString).zip vals)) (fun a0 a1 a2 => by kernel_rfl) h
  · have k_found : KO (cE w L 161) "found" .local := by kernel_rfl
    have k_pending : KO (cE w L 161) "pending" .local := by kernel_rfl
    have g_len : KO (cE w L 161) "len" .globalImplicit := by kernel_rfl
    have k_target : KO (cE w L 161) "target" .local := by kernel_rfl
    have g_FAIL_LABEL : KO (cE w L 161) "FAIL_LABEL" .globalImplicit := by kernel_rfl
    have k_where : KO (cE w L 161) "where" .local := by kernel_rfl
    have k_name : KO (cE w L 161) "name" .local := by kernel_rfl
    have k_ins : KO (cE w L 161) "ins" .local := by kernel_rfl
    have k_count : KO (cE w L 161) "count" .local := by kernel_rfl
    have k_place : KO (cE w L 161) "place" .local := by kernel_rfl
    have k_key : KO (cE w L 161) "key" .local := by kernel_rfl
    have g_switch_target : KO (cE w L 161) "switch_target" .globalImplicit := by kernel_rfl
    have g_table_target : KO (cE w L 161) "table_target" .globalImplicit := by kernel_rfl
    have k_block : KO (cE w L 161) "block" .local := by kernel_rfl
    have g_label_places : KO (cE w L 161) "label_places" .globalImplicit := by kernel_rfl
    have st_target : StoreOk (callEnv (fdAt (KH w) 161) L 161) "target" := .loc k_target (by kernel_rfl)
    have st_name : StoreOk (callEnv (fdAt (KH w) 161) L 161) "name" := .loc k_name (by kernel_rfl)
    have st_ins : StoreOk (callEnv (fdAt (KH w) 161) L 161) "ins" := .loc k_ins (by kernel_rfl)
    have st_place : StoreOk (callEnv (fdAt (KH w) 161) L 161) "place" := .loc k_place (by kernel_rfl)
    have st_pending : StoreOk (callEnv (fdAt (KH w) 161) L 161) "pending" := .loc k_pending (by kernel_rfl)
    have st_found : StoreOk (callEnv (fdAt (KH w) 161) L 161) "found" := .loc k_found (by kernel_rfl)
    have st_where : StoreOk (callEnv (fdAt (KH w) 161) L 161) "where" := .loc k_where (by kernel_rfl)
    show SsOk prog w B 1 _ (_ :: _ :: _ :: _ :: _ :: _ :: _ :: []) _
    refine (SsOk.cons ?_ (SsOk.cons ?_ (SsOk.cons ?_ (SsOk.cons ?_ (SsOk.cons ?_ (SsOk.cons ?_ (SsOk.cons ?_ SsOk.nil)))))))
    · refine SOk.ite (TOk.cmp eq_ok (EOk.local X.kind k_count nd_count) EOk.cint (by kernel_rfl)) ?_ ?_
      · refine (SsOk.cons ?_ SsOk.nil)
        · exact (SOk.ret (EOk.list EsOk.nil))
      · exact SsOk.nil
    · refine SOk.ite (TOk.cmp eq_ok (EOk.local X.kind k_count nd_count) EOk.cint (by kernel_rfl)) ?_ ?_
      · refine (SsOk.cons ?_ SsOk.nil)
        · exact (SOk.ret (EOk.list (EsOk.cons EOk.cint EsOk.nil (by kernel_rfl))))
      · exact SsOk.nil
    · exact (SOk.assign (EOk.callG (f := 140) G X h_label_places (by decide) g_label_places ns_label_places kf_140 (EsOk.cons (EOk.local X.kind k_block nd_block) EsOk.nil (by kernel_rfl)) (ArgsOk.cons (by kernel_rfl) (by kernel_rfl)) nd_label_places (arm_eval_Call_Name' _ _ _ _ _ _)) st_where X.kind (by kernel_rfl))
    · exact (SOk.assign (EOk.list EsOk.nil) st_found X.kind (by kernel_rfl))
    · exact (SOk.assign (EOk.list (EsOk.cons EOk.cint EsOk.nil (by kernel_rfl))) st_pending X.kind (by kernel_rfl))
    · refine SOk.while (TOk.cmp gt_ok (EOk.callB (f := .builtin "len") G X len_ok g_len ns_len bt_len nb_len kp_len (EsOk.cons (EOk.local X.kind k_pending nd_pending) EsOk.nil (by kernel_rfl)) (ArgsOk.cons (by kernel_rfl) (by kernel_rfl)) nd_len (arm_eval_Call_Name' _ _ _ _ _ _)) EOk.cint (by kernel_rfl)) ?_
      · refine (SsOk.cons ?_ (SsOk.cons ?_ (SsOk.cons ?_ (SsOk.cons ?_ (SsOk.cons ?_ (SsOk.cons ?_ SsOk.nil))))))
        · exact (SOk.assign (EOk.pop (EOk.local X.kind k_pending nd_pending) (methForm (by kernel_rfl) (by kernel_rfl) (by kernel_rfl))) st_place X.kind (by kernel_rfl))
        · exact (SOk.assign (EOk.sub (EOk.local X.kind k_block nd_block) (EOk.local X.kind k_place nd_place) (fun _ _ => by kernel_rfl)) st_ins X.kind (by kernel_rfl))
        · exact (SOk.assign (EOk.sub (EOk.local X.kind k_ins nd_ins) EOk.cint (fun _ _ => by kernel_rfl)) st_name X.kind (by kernel_rfl))
        · exact (SOk.assign (EOk.globInt G X g_FAIL_LABEL gi_FAIL_LABEL nd_FAIL_LABEL) st_target X.kind (by kernel_rfl))
        · refine SOk.ite (TOk.cmp eq_ok (EOk.local X.kind k_name nd_name) EOk.cstr (by kernel_rfl)) ?_ ?_
          · refine (SsOk.cons ?_ SsOk.nil)
            · refine SOk.ite (TOk.cmp lt_ok (EOk.sub (EOk.local X.kind k_ins nd_ins) EOk.cint (fun _ _ => by kernel_rfl)) (EOk.local X.kind k_count nd_count) (by kernel_rfl)) ?_ ?_
              · refine (SsOk.cons ?_ SsOk.nil)
                · exact (SOk.expr (EOk.append (EOk.local X.kind k_found nd_found) (EOk.sub (EOk.local X.kind k_ins nd_ins) EOk.cint (fun _ _ => by kernel_rfl)) (by kernel_rfl) (methForm (by kernel_rfl) (by kernel_rfl) (by kernel_rfl))) X.kind (by kernel_rfl))
              · refine (SsOk.cons ?_ SsOk.nil)
                · exact (SOk.expr (EOk.append (EOk.local X.kind k_pending nd_pending) (EOk.bin add_ok (EOk.local X.kind k_place nd_place) EOk.cint) (by kernel_rfl) (methForm (by kernel_rfl) (by kernel_rfl) (by kernel_rfl))) X.kind (by kernel_rfl))
          · refine (SsOk.cons ?_ SsOk.nil)
            · refine SOk.ite (TOk.bool (AllOk.or (TOk.cmp eq_ok (EOk.local X.kind k_name nd_name) EOk.cstr (by kernel_rfl)) (AllOk.or (TOk.cmp eq_ok (EOk.local X.kind k_name nd_name) EOk.cstr (by kernel_rfl)) AllOk.orNil))) ?_ ?_
              · refine (SsOk.cons ?_ (SsOk.cons ?_ SsOk.nil))
                · exact (SOk.expr (EOk.append (EOk.local X.kind k_pending nd_pending) (EOk.bin add_ok (EOk.local X.kind k_place nd_place) EOk.cint) (by kernel_rfl) (methForm (by kernel_rfl) (by kernel_rfl) (by kernel_rfl))) X.kind (by kernel_rfl))
                · exact (SOk.assign (EOk.sub (EOk.local X.kind k_ins nd_ins) EOk.cint (fun _ _ => by kernel_rfl)) st_target X.kind (by kernel_rfl))
              · refine (SsOk.cons ?_ SsOk.nil)
                · refine SOk.ite (TOk.cmp eq_ok (EOk.local X.kind k_name nd_name) EOk.cstr (by kernel_rfl)) ?_ ?_
                  · refine (SsOk.cons ?_ SsOk.nil)
                    · exact (SOk.assign (EOk.sub (EOk.local X.kind k_ins nd_ins) EOk.cint (fun _ _ => by kernel_rfl)) st_target X.kind (by kernel_rfl))
                  · refine (SsOk.cons ?_ SsOk.nil)
                    · refine SOk.ite (TOk.cmp eq_ok (EOk.local X.kind k_name nd_name) EOk.cstr (by kernel_rfl)) ?_ ?_
                      · refine (SsOk.cons ?_ SsOk.nil)
                        · exact (SOk.assign (EOk.callG (f := 147) G X h_switch_target (by decide) g_switch_target ns_switch_target kf_147 (EsOk.cons (EOk.local X.kind k_ins nd_ins) (EsOk.cons (EOk.local X.kind k_key nd_key) EsOk.nil (by kernel_rfl)) (by kernel_rfl)) (ArgsOk.cons (by kernel_rfl) (by kernel_rfl)) nd_switch_target (arm_eval_Call_Name' _ _ _ _ _ _)) st_target X.kind (by kernel_rfl))
                      · refine (SsOk.cons ?_ SsOk.nil)
                        · refine SOk.ite (TOk.bool (AllOk.or (TOk.cmp eq_ok (EOk.local X.kind k_name nd_name) EOk.cstr (by kernel_rfl)) (AllOk.or (TOk.cmp eq_ok (EOk.local X.kind k_name nd_name) EOk.cstr (by kernel_rfl)) AllOk.orNil))) ?_ ?_
                          · refine (SsOk.cons ?_ SsOk.nil)
                            · exact (SOk.assign (EOk.callG (f := 154) G X h_table_target (by decide) g_table_target ns_table_target kf_154 (EsOk.cons (EOk.local X.kind k_ins nd_ins) (EsOk.cons (EOk.local X.kind k_key nd_key) EsOk.nil (by kernel_rfl)) (by kernel_rfl)) (ArgsOk.cons (by kernel_rfl) (by kernel_rfl)) nd_table_target (arm_eval_Call_Name' _ _ _ _ _ _)) st_target X.kind (by kernel_rfl))
                          · refine (SsOk.cons ?_ SsOk.nil)
                            · exact SOk.no
        · refine SOk.ite (TOk.cmp ne_ok (EOk.local X.kind k_target nd_target) (EOk.globInt G X g_FAIL_LABEL gi_FAIL_LABEL nd_FAIL_LABEL) (by kernel_rfl)) ?_ ?_
          · refine (SsOk.cons ?_ SsOk.nil)
            · exact (SOk.expr (EOk.append (EOk.local X.kind k_pending nd_pending) (EOk.sub (EOk.local X.kind k_where nd_where) (EOk.local X.kind k_target nd_target) (fun _ _ => by kernel_rfl)) (by kernel_rfl) (methForm (by kernel_rfl) (by kernel_rfl) (by kernel_rfl))) X.kind (by kernel_rfl))
          · exact SsOk.nil
    · exact (SOk.ret (EOk.local X.kind k_found nd_found))
noncomputable def d_ClauseCode_init : SWP :=
 (dSeq (dSetAttr 178 "functor" (dName "self") (dName "functor"))
 (dSeq (dSetAttr 178 "key" (dName "self") (dName "key"))
 (dSeq (dSetAttr 178 "instrs" (dName "self") (dName "instrs"))
 (dSeq (dSetAttr 178 "used" (dName "self") (dName "used"))
 dEnd))))
theorem w_ClauseCode_init (G : Gd prog w (KH w) B) : FnOk prog w B 1 175 (fnP ["self", "functor", "key", "instrs", "used"] (d_ClauseCode_init)) := by
  refine FnOk.def G (by kernel_rfl) (by kernel_rfl) (by decide) (fun vals h => ?_) (fun L X => ?_)
  · exact vals5 (P := fun vals => bindArgs (fdAt (KH w) 175) ⟨vals, []⟩ = pure ((["self", "functor", "key", "instrs", "used"].map Str.ofString).zip vals)) (fun a0 a1 a2 a3 a4 => by kernel_rfl) h
  · have k_used : KO (cE w L 175) "used" .local := by kernel_rfl
    have k_self : KO (cE w L 175) "self" .local := by kernel_rfl
    have k_instrs : KO (cE w L 175) "instrs" .local := by kernel_rfl
    have k_key : KO (cE w L 175) "key" .local := by kernel_rfl
    have k_functor : KO (cE w L 175) "functor" .local := by kernel_rfl
    show SsOk prog w B 0 _ (_ :: _ :: _ :: _ :: []) _
    refine (SsOk.cons ?_ (SsOk.cons ?_ (SsOk.cons ?_ (SsOk.cons ?_ SsOk.nil))))
    · exact (SOk.setAttr (C := 178) G (EOk.local X.kind k_self nd_self) (EOk.local X.kind k_functor nd_functor) sa_functor (by kernel_rfl))
    · exact (SOk.setAttr (C := 178) G (EOk.local X.kind k_self nd_self) (EOk.local X.kind k_key nd_key) sa_key (by kernel_rfl))
    · exact (SOk.setAttr (C := 178) G (EOk.local X.kind k_self nd_self) (EOk.local X.kind k_instrs nd_instrs) sa_instrs (by kernel_rfl))
    · exact (SOk.setAttr (C := 178) G (EOk.local X.kind k_self nd_self) (EOk.local X.kind k_used nd_used) sa_used (by kernel_rfl))
theorem w_shapes (G : Gd prog w (KH w) B) {q : List RawC} {p : Pos × Pos} (hl : bodyOf (fdAt (KH w) 196) = rawB q p) (hnd : ((rawL q).map (·.1)).Nodup) (hne : rawL q ≠ []) (hle : (rawL q).length ≤ sizeLine) : FnOk prog w B 1 196 (fnP [] (d_shapes (rawL q))) := by
  refine FnOk.def G (by kernel_rfl) (by kernel_rfl) (by decide) (fun vals h => ?_) (fun L X => ?_)
  · exact vals0 (P := fun vals => bindArgs (fdAt (KH w) 196) ⟨vals, []⟩ = pure (([].map Str.ofString).zip vals)) (by kernel_rfl) h
  · exact shapes_at hl hnd hne hle
noncomputable def d_is_whole : SWP :=
 (dSeq (dRet (dAndV (dCall isiP (dCons (dName "value") (dCons (dVal (.typ "int")) dNil))) (dNotV (dCall isiP (dCons (dName "value") (dCons (dVal (.typ "bool")) dNil))))))
 dEnd)
theorem w_is_whole (G : Gd prog w (KH w) B) : FnOk prog w B 1 203 (fnP ["value"] (d_is_whole)) := by
  refine FnOk.def G (by kernel_rfl) (by kernel_rfl) (by decide) (fun vals h => ?_) (fun L X => ?_)
  · exact vals1 (P := fun vals => bindArgs (fdAt (KH w) 203) ⟨vals, []⟩ = pure ((["value"].map Str.ofString).zip vals)) (fun a0 => by kernel_rfl) h
  · have g_bool : KO (cE w L 203) "bool" .globalImplicit := by kernel_rfl
    have k_value : KO (cE w L 203) "value" .local := by kernel_rfl
    have g_isinstance : KO (cE w L 203) "isinstance" .globalImplicit := by kernel_rfl
    have g_int : KO (cE w L 203) "int" .globalImplicit := by kernel_rfl
    show SsOk prog w B 0 _ (_ :: []) _
    refine (SsOk.cons ?_ SsOk.nil)
    · exact (SOk.ret (EOk.boolop (BoolOk.and (EOk.callB (f := .builtin "isinstance") G X isi_ok g_isinstance ns_isinstance bt_isinstance nb_isinstance kp_isinstance (EsOk.cons (EOk.local X.kind k_value nd_value) (EsOk.cons (EOk.typ (T := "int") G X g_int ns_int bt_int nb_int nd_int) EsOk.nil (by kernel_rfl)) (by kernel_rfl)) (ArgsOk.cons (by kernel_rfl) (by kernel_rfl)) nd_isinstance (arm_eval_Call_Name' _ _ _ _ _ _)) (BoolOk.one (EOk.not (EOk.callB (f := .builtin "isinstance") G X isi_ok g_isinstance ns_isinstance bt_isinstance nb_isinstance kp_isinstance (EsOk.cons (EOk.local X.kind k_value nd_value) (EsOk.cons (EOk.typ (T := "bool") G X g_bool ns_bool bt_bool nb_bool nd_bool) EsOk.nil (by kernel_rfl)) (by kernel_rfl)) (ArgsOk.cons (by kernel_rfl) (by kernel_rfl)) nd_isinstance (arm_eval_Call_Name' _ _ _ _ _ _)))))))
noncomputable def d_is_pair : SWP :=
 (dSeq (dRet (dAndV (dCall isiP (dCons (dName "value") (dCons (dVal (.typ "tuple")) dNil))) (dOp (eqP id) (dCall lenP (dCons (dName "value") dNil)) (dVal (.int 2)))))
 dEnd)
theorem w_is_pair (G : Gd prog w (KH w) B) : FnOk prog w B 1 210 (fnP ["value"] (d_is_pair)) := by
  refine FnOk.def G (by kernel_rfl) (by kernel_rfl) (by decide) (fun vals h => ?_) (fun L X => ?_)
  · exact vals1 (P := fun vals => bindArgs (fdAt (KH w) 210) ⟨vals, []⟩ = pure ((["value"].map Str.ofString).zip vals)) (fun a0 => by kernel_rfl) h
  · have k_value : KO (cE w L 210) "value" .local := by kernel_rfl
    have g_len : KO (cE w L 210) "len" .globalImplicit := by kernel_rfl
    have g_tuple : KO (cE w L 210) "tuple" .globalImplicit := by kernel_rfl
    have g_isinstance : KO (cE w L 210) "isinstance" .globalImplicit := by kernel_rfl
    show SsOk prog w B 0 _ (_ :: []) _
    refine (SsOk.cons ?_ SsOk.nil)
    · exact (SOk.ret (EOk.boolop (BoolOk.and (EOk.callB (f := .builtin "isinstance") G X isi_ok g_isinstance ns_isinstance bt_isinstance nb_isinstance kp_isinstance (EsOk.cons (EOk.local X.kind k_value nd_value) (EsOk.cons (EOk.typ (T := "tuple") G X g_tuple ns_tuple bt_tuple nb_tuple nd_tuple) EsOk.nil (by kernel_rfl)) (by kernel_rfl)) (ArgsOk.cons (by kernel_rfl) (by kernel_rfl)) nd_isinstance (arm_eval_Call_Name' _ _ _ _ _ _)) (BoolOk.one (EOk.cmp eq_ok (EOk.callB (f := .builtin "len") G X len_ok g_len ns_len bt_len nb_len kp_len (EsOk.cons (EOk.local X.kind k_value nd_value) EsOk.nil (by kernel_rfl)) (ArgsOk.cons (by kernel_rfl) (by kernel_rfl)) nd_len (arm_eval_Call_Name' _ _ _ _ _ _)) EOk.cint (by kernel_rfl))))))
noncomputable def d_is_constant (F_is_whole F_is_pair : FWP) : SWP :=
 (dSeq (dRet (dAndV (dCall F_is_pair (dCons (dName "value") dNil)) (dAndV (dCall F_is_whole (dCons (dOp getP (dName "value") (dVal (.int 1))) dNil)) (dOrV (dOp (eqP id) (dOp getP (dName "value") (dVal (.int 0))) (dVal (.int (5)))) (dAndV (dOp (eqP id) (dOp getP (dName "value") (dVal (.int 0))) (dVal (.int (4)))) (dOp geP (dOp getP (dName "value") (dVal (.int 1))) (dVal (.int 0))))))))
 dEnd)
theorem w_is_constant (G : Gd prog w (KH w) B) {F_is_whole : FWP} (h_is_whole : FnOk prog w B 1 203 F_is_whole) {F_is_pair : FWP} (h_is_pair : FnOk prog w B 1 210 F_is_pair) : FnOk prog w B 2 224 (fnP ["value"] (d_is_constant F_is_whole F_is_pair)) := by
  refine FnOk.def G (by kernel_rfl) (by kernel_rfl) (by decide) (fun vals h => ?_) (fun L X => ?_)
  · exact vals1 (P := fun vals => bindArgs (fdAt (KH w) 224) ⟨vals, []⟩ = pure ((["value"].map Str.ofString).zip vals)) (fun a0 => by kernel_rfl) h
  · have k_value : KO (cE w L 224) "value" .local := by kernel_rfl
    have g_CON : KO (cE w L 224) "CON" .globalImplicit := by kernel_rfl
    have g_INT : KO (cE w L 224) "INT" .globalImplicit := by kernel_rfl
    have g_is_whole : KO (cE w L 224) "is_whole" .globalImplicit := by kernel_rfl
    have g_is_pair : KO (cE w L 224) "is_pair" .globalImplicit := by kernel_rfl
    show SsOk prog w B 1 _ (_ :: []) _
    refine (SsOk.cons ?_ SsOk.nil)
    · exact (SOk.ret (EOk.boolop (BoolOk.and (EOk.callG (f := 210) G X h_is_pair (by decide) g_is_pair ns_is_pair kf_210 (EsOk.cons (EOk.local X.kind k_value nd_value) EsOk.nil (by kernel_rfl)) (ArgsOk.cons (by kernel_rfl) (by kernel_rfl)) nd_is_pair (arm_eval_Call_Name' _ _ _ _ _ _)) (BoolOk.and (EOk.callG (f := 203) G X h_is_whole (by decide) g_is_whole ns_is_whole kf_203 (EsOk.cons (EOk.sub (EOk.local X.kind k_value nd_value) EOk.cint (fun _ _ => by kernel_rfl)) EsOk.nil (by kernel_rfl)) (ArgsOk.cons (by kernel_rfl) (by kernel_rfl)) nd_is_whole (arm_eval_Call_Name' _ _ _ _ _ _)) (BoolOk.one (EOk.boolop (BoolOk.or (EOk.cmp eq_ok (EOk.sub (EOk.local X.kind k_value nd_value) EOk.cint (fun _ _ => by kernel_rfl)) (EOk.globInt G X g_INT gi_INT nd_INT) (by kernel_rfl)) (BoolOk.one (EOk.boolop (BoolOk.and (EOk.cmp eq_ok (EOk.sub (EOk.local X.kind k_value nd_value) EOk.cint (fun _ _ => by kernel_rfl)) (EOk.globInt G X g_CON gi_CON nd_CON) (by kernel_rfl)) (BoolOk.one (EOk.cmp ge_ok (EOk.sub (EOk.local X.kind k_value nd_value) EOk.cint (fun _ _ => by kernel_rfl)) EOk.cint (by kernel_rfl)))))))))))))
noncomputable def d_is_functor (F_is_whole : FWP) : SWP :=
 (dSeq (dRet (dAndV (dCall F_is_whole (dCons (dName "value") dNil)) (dOp geP (dName "value") (dVal (.int 0)))))
 dEnd)
theorem w_is_functor (G : Gd prog w (KH w) B) {F_is_whole : FWP} (h_is_whole : FnOk prog w B 1 203 F_is_whole) : FnOk prog w B 2 231 (fnP ["value"] (d_is_functor F_is_whole)) := by
  refine FnOk.def G (by kernel_rfl) (by kernel_rfl) (by decide) (fun vals h => ?_) (fun L X => ?_)
  · exact vals1 (P := fun vals => bindArgs (fdAt (KH w) 231) ⟨vals, []⟩ = pure ((["value"].map Str.ofString).zip vals)) (fun a0 => by kernel_rfl) h
  · have k_value : KO (cE w L 231) "value" .local := by kernel_rfl
    have g_is_whole : KO (cE w L 231) "is_whole" .globalImplicit := by kernel_rfl
    show SsOk prog w B 1 _ (_ :: []) _
    refine (SsOk.cons ?_ SsOk.nil)
    · exact (SOk.ret (EOk.boolop (BoolOk.and (EOk.callG (f := 203) G X h_is_whole (by decide) g_is_whole ns_is_whole kf_203 (EsOk.cons (EOk.local X.kind k_value nd_value) EsOk.nil (by kernel_rfl)) (ArgsOk.cons (by kernel_rfl) (by kernel_rfl)) nd_is_whole (arm_eval_Call_Name' _ _ _ _ _ _)) (BoolOk.one (EOk.cmp ge_ok (EOk.local X.kind k_value nd_value) EOk.cint (by kernel_rfl))))))
noncomputable def d_is_target (F_is_whole : FWP) : SWP :=
 (dSeq (dIf (dNotT (dTest (dCall F_is_whole (dCons (dName "value") dNil)))) (dSeq (dRet (dVal (.bool false)))
 dEnd) dEnd)
 (dSeq (dIf (dTest (dName "linked")) (dSeq (dRet (dOp geP (dName "value") (dVal (.int 0))))
 dEnd) dEnd)
 (dSeq (dRet (dOp geP (dName "value") (dNeg (dVal (.int 1)))))
 dEnd)))
theorem w_is_target (G : Gd prog w (KH w) B) {F_is_whole : FWP} (h_is_whole : FnOk prog w B 1 203 F_is_whole) : FnOk prog w B 2 238 (fnP ["value", "linked"] (d_is_target F_is_whole)) := by
  refine FnOk.def G (by kernel_rfl) (by kernel_rfl) (by decide) (fun vals h => ?_) (fun L X => ?_)
  · exact vals2 (P := fun vals => bindArgs (fdAt (KH w) 238) ⟨vals, []⟩ = pure ((["value", "linked"].map Str.ofString).zip vals)) (fun a0 a1 => by kernel_rfl) h
  · have k_value : KO (cE w L 238) "value" .local := by kernel_rfl
    have k_linked : KO (cE w L 238) "linked" .local := by kernel_rfl
    have g_is_whole : KO (cE w L 238) "is_whole" .globalImplicit := by kernel_rfl
    show SsOk prog w B 1 _ (_ :: _ :: _ :: []) _
    refine (SsOk.cons ?_ (SsOk.cons ?_ (SsOk.cons ?_ SsOk.nil)))
    · refine SOk.ite (TOk.not (TOk.plain (EOk.callG (f := 203) G X h_is_whole (by decide) g_is_whole ns_is_whole kf_203 (EsOk.cons (EOk.local X.kind k_value nd_value) EsOk.nil (by kernel_rfl)) (ArgsOk.cons (by kernel_rfl) (by kernel_rfl)) nd_is_whole (arm_eval_Call_Name' _ _ _ _ _ _)) (by kernel_rfl))) ?_ ?_
      · refine (SsOk.cons ?_ SsOk.nil)
        · exact (SOk.ret EOk.cbool)
      · exact SsOk.nil
    · refine SOk.ite (TOk.plain (EOk.local X.kind k_linked nd_linked) (by kernel_rfl)) ?_ ?_
      · refine (SsOk.cons ?_ SsOk.nil)
        · exact (SOk.ret (EOk.cmp ge_ok (EOk.local X.kind k_value nd_value) EOk.cint (by kernel_rfl)))
      · exact SsOk.nil
    · exact (SOk.ret (EOk.cmp ge_ok (EOk.local X.kind k_value nd_value) (EOk.neg EOk.cint) (by kernel_rfl)))
noncomputable def d_is_key (F_is_functor F_is_constant : FWP) : SWP :=
 (dSeq (dIf (dTest (dOp (eqP id) (dName "kind") (dVal (.str (Str.ofString "T"))))) (dSeq (dRet (dCall F_is_constant (dCons (dName "value") dNil)))
 dEnd) dEnd)
 (dSeq (dRet (dCall F_is_functor (dCons (dName "value") dNil)))
 dEnd))
theorem w_is_key (G : Gd prog w (KH w) B) {F_is_functor : FWP} (h_is_functor : FnOk prog w B 2 231 F_is_functor) {F_is_constant : FWP} (h_is_constant : FnOk prog w B 2 224 F_is_constant) : FnOk prog w B 3 245 (fnP ["value", "kind"] (d_is_key F_is_functor F_is_constant)) := by
  refine FnOk.def G (by kernel_rfl) (by kernel_rfl) (by decide) (fun vals h => ?_) (fun L X => ?_)
  · exact vals2 (P := fun vals => bindArgs (fdAt (KH w) 245) ⟨vals, []⟩ = pure ((["value", "kind"].map Str.ofString).zip vals)) (fun a0 a1 => by kernel_rfl) h
  · have k_value : KO (cE w L 245) "value" .local := by kernel_rfl
    have g_is_functor : KO (cE w L 245) "is_functor" .globalImplicit := by kernel_rfl
    have k_kind : KO (cE w L 245) "kind" .local := by kernel_rfl
    have g_is_constant : KO (cE w L 245) "is_constant" .globalImplicit := by kernel_rfl
    show SsOk prog w B 2 _ (_ :: _ :: []) _
    refine (SsOk.cons ?_ (SsOk.cons ?_ SsOk.nil))
    · refine SOk.ite (TOk.cmp eq_ok (EOk.local X.kind k_kind nd_kind) EOk.cstr (by kernel_rfl)) ?_ ?_
      · refine (SsOk.cons ?_ SsOk.nil)
        · exact (SOk.ret (EOk.callG (f := 224) G X h_is_constant (by decide) g_is_constant ns_is_constant kf_224 (EsOk.cons (EOk.local X.kind k_value nd_value) EsOk.nil (by kernel_rfl)) (ArgsOk.cons (by kernel_rfl) (by kernel_rfl)) nd_is_constant (arm_eval_Call_Name' _ _ _ _ _ _)))
      · exact SsOk.nil
    · exact (SOk.ret (EOk.callG (f := 231) G X h_is_functor (by decide) g_is_functor ns_is_functor kf_231 (EsOk.cons (EOk.local X.kind k_value nd_value) EsOk.nil (by kernel_rfl)) (ArgsOk.cons (by kernel_rfl) (by kernel_rfl)) nd_is_functor (arm_eval_Call_Name' _ _ _ _ _ _)))
noncomputable def d_is_table (F_is_target F_is_key F_is_pair : FWP) : SWP :=
 (dSeq (dIf (dTest (dName "linked")) (dSeq (dIf (dNotT (dTest (dCall isiP (dCons (dName "value") (dCons (dVal (.typ "dict")) dNil))))) (dSeq (dRet (dVal (.bool false)))
 dEnd) dEnd)
 (dSeq (dFor "key" (dName "value") (dSeq (dIf (dOrT (dNotT (dTest (dCall F_is_key (dCons (dName "key") (dCons (dName "kind") dNil))))) (dOrT (dNotT (dTest (dCall F_is_target (dCons (dOp getP (dName "value") (dName "key")) (dCons (dVal (.bool true)) dNil))))) dOrNil)) (dSeq (dRet (dVal (.bool false)))
 dEnd) dEnd)
 dEnd))
 (dSeq (dRet (dVal (.bool true)))
 dEnd))) dEnd)
 (dSeq (dIf (dNotT (dTest (dCall isiP (dCons (dName "value") (dCons (dVal (.typ "tuple")) dNil))))) (dSeq (dRet (dVal (.bool false)))
 dEnd) dEnd)
 (dSeq (dFor "pair" (dName "value") (dSeq (dIf (dOrT (dNotT (dTest (dCall F_is_pair (dCons (dName "pair") dNil)))) (dOrT (dNotT (dTest (dCall F_is_key (dCons (dOp getP (dName "pair") (dVal (.int 0))) (dCons (dName "kind") dNil))))) (dOrT (dNotT (dTest (dCall F_is_target (dCons (dOp getP (dName "pair") (dVal (.int 1))) (dCons (dVal (.bool false)) dNil))))) dOrNil))) (dSeq (dRet (dVal (.bool false)))
 dEnd) dEnd)
 dEnd))
 (dSeq (dRet (dVal (.bool true)))
 dEnd))))
theorem w_is_table (G : Gd prog w (KH w) B) {F_is_target : FWP} (h_is_target : FnOk prog w B 2 238 F_is_target) {F_is_key : FWP} (h_is_key : FnOk prog w B 3 245 F_is_key) {F_is_pair : FWP} (h_is_pair : FnOk prog w B 1 210 F_is_pair) : FnOk prog w B 4 252 (fnP ["value", "kind", "linked"] (d_is_table F_is_target F_is_key F_is_pair)) := by
  refine FnOk.def G (by kernel_rfl) (by kernel_rfl) (by decide) (fun vals h => ?_) (fun L X => ?_)
  · exact vals3 (P := fun vals => bindArgs (fdAt (KH w) 252) ⟨vals, []⟩ = pure ((["value", "kind", "linked"].map Str.ofString).zip vals)) (fun a0 a1 a2 => by kernel_rfl) h
  · have k_pair : KO (cE w L 252) "pair" .local := by kernel_rfl
    have g_is_target : KO (cE w L 252) "is_target" .globalImplicit := by kernel_rfl
    have k_kind : KO (cE w L 252) "kind" .local := by kernel_rfl
    have g_is_key : KO (cE w L 252) "is_key" .globalImplicit := by kernel_rfl
    have g_is_pair : KO (cE w L 252) "is_pair" .globalImplicit := by kernel_rfl
    have k_value : KO (cE w L 252) "value" .local := by kernel_rfl
    have g_tuple : KO (cE w L 252) "tuple" .globalImplicit := by kernel_rfl
    have g_isinstance : KO (cE w L 252) "isinstance" .globalImplicit := by kernel_rfl
    have k_linked : KO (cE w L 252) "linked" .local := by kernel_rfl
    have k_key : KO (cE w L 252) "key" .local := by kernel_rfl
    have g_dict : KO (cE w L 252) "dict" .globalImplicit := by kernel_rfl
    have st_pair : StoreOk (callEnv (fdAt (KH w) 252) L 252) "pair" := .loc k_pair (by kernel_rfl)
    have st_key : StoreOk (callEnv (fdAt (KH w) 252) L 252) "key" := .loc k_key (by kernel_rfl)
    show SsOk prog w B 3 _ (_ :: _ :: _ :: _ :: []) _
    refine (SsOk.cons ?_ (SsOk.cons ?_ (SsOk.cons ?_ (SsOk.cons ?_ SsOk.nil))))
    · refine SOk.ite (TOk.plain (EOk.local X.kind k_linked nd_linked) (by kernel_rfl)) ?_ ?_
      · refine (SsOk.cons ?_ (SsOk.cons ?_ (SsOk.cons ?_ SsOk.nil)))
        · refine SOk.ite (TOk.not (TOk.plain (EOk.callB (f := .builtin "isinstance") G X isi_ok g_isinstance ns_isinstance bt_isinstance nb_isinstance kp_isinstance (EsOk.cons (EOk.local X.kind k_value nd_value) (EsOk.cons (EOk.typ (T := "dict") G X g_dict ns_dict bt_dict nb_dict nd_dict) EsOk.nil (by kernel_rfl)) (by kernel_rfl)) (ArgsOk.cons (by kernel_rfl) (by kernel_rfl)) nd_isinstance (arm_eval_Call_Name' _ _ _ _ _ _)) (by kernel_rfl))) ?_ ?_
          · refine (SsOk.cons ?_ SsOk.nil)
            · exact (SOk.ret EOk.cbool)
          · exact SsOk.nil
        · refine SOk.for (EOk.local X.kind k_value nd_value) ?_ st_key X.kind (fun _ => by kernel_rfl)
          · refine (SsOk.cons ?_ SsOk.nil)
            · refine SOk.ite (TOk.bool (AllOk.or (TOk.not (TOk.plain (EOk.callG (f := 245) G X h_is_key (by decide) g_is_key ns_is_key kf_245 (EsOk.cons (EOk.local X.kind k_key nd_key) (EsOk.cons (EOk.local X.kind k_kind nd_kind) EsOk.nil (by kernel_rfl)) (by kernel_rfl)) (ArgsOk.cons (by kernel_rfl) (by kernel_rfl)) nd_is_key (arm_eval_Call_Name' _ _ _ _ _ _)) (by kernel_rfl))) (AllOk.or (TOk.not (TOk.plain (EOk.callG (f := 238) G X h_is_target (by decide) g_is_target ns_is_target kf_238 (EsOk.cons (EOk.sub (EOk.local X.kind k_value nd_value) (EOk.local X.kind k_key nd_key) (fun _ _ => by kernel_rfl)) (EsOk.cons EOk.cbool EsOk.nil (by kernel_rfl)) (by kernel_rfl)) (ArgsOk.cons (by kernel_rfl) (by kernel_rfl)) nd_is_target (arm_eval_Call_Name' _ _ _ _ _ _)) (by kernel_rfl))) AllOk.orNil))) ?_ ?_
              · refine (SsOk.cons ?_ SsOk.nil)
                · exact (SOk.ret EOk.cbool)
              · exact SsOk.nil
        · exact (SOk.ret EOk.cbool)
      · exact SsOk.nil
    · refine SOk.ite (TOk.not (TOk.plain (EOk.callB (f := .builtin "isinstance") G X isi_ok g_isinstance ns_isinstance bt_isinstance nb_isinstance kp_isinstance (EsOk.cons (EOk.local X.kind k_value nd_value) (EsOk.cons (EOk.typ (T := "tuple") G X g_tuple ns_tuple bt_tuple nb_tuple nd_tuple) EsOk.nil (by kernel_rfl)) (by kernel_rfl)) (ArgsOk.cons (by kernel_rfl) (by kernel_rfl)) nd_isinstance (arm_eval_Call_Name' _ _ _ _ _ _)) (by kernel_rfl))) ?_ ?_
      · refine (SsOk.cons ?_ SsOk.nil)
        · exact (SOk.ret EOk.cbool)
      · exact SsOk.nil
    · refine SOk.for (EOk.local X.kind k_value nd_value) ?_ st_pair X.kind (fun _ => by kernel_rfl)
      · refine (SsOk.cons ?_ SsOk.nil)
        · refine SOk.ite (TOk.bool (AllOk.or (TOk.not (TOk.plain (EOk.callG (f := 210) G X h_is_pair (by decide) g_is_pair ns_is_pair kf_210 (EsOk.cons (EOk.local X.kind k_pair nd_pair) EsOk.nil (by kernel_rfl)) (ArgsOk.cons (by kernel_rfl) (by kernel_rfl)) nd_is_pair (arm_eval_Call_Name' _ _ _ _ _ _)) (by kernel_rfl))) (AllOk.or (TOk.not (TOk.plain (EOk.callG (f := 245) G X h_is_key (by decide) g_is_key ns_is_key kf_245 (EsOk.cons (EOk.sub (EOk.local X.kind k_pair nd_pair) EOk.cint (fun _ _ => by kernel_rfl)) (EsOk.cons (EOk.local X.kind k_kind nd_kind) EsOk.nil (by kernel_rfl)) (by kernel_rfl)) (ArgsOk.cons (by kernel_rfl) (by kernel_rfl)) nd_is_key (arm_eval_Call_Name' _ _ _ _ _ _)) (by kernel_rfl))) (AllOk.or (TOk.not (TOk.plain (EOk.callG (f := 238) G X h_is_target (by decide) g_is_target ns_is_target kf_238 (EsOk.cons (EOk.sub (EOk.local X.kind k_pair nd_pair) EOk.cint (fun _ _ => by kernel_rfl)) (EsOk.cons EOk.cbool EsOk.nil (by kernel_rfl)) (by kernel_rfl)) (ArgsOk.cons (by kernel_rfl) (by kernel_rfl)) nd_is_target (arm_eval_Call_Name' _ _ _ _ _ _)) (by kernel_rfl))) AllOk.orNil)))) ?_ ?_
          · refine (SsOk.cons ?_ SsOk.nil)
            · exact (SOk.ret EOk.cbool)
          · exact SsOk.nil
    · exact (SOk.ret EOk.cbool)
noncomputable def d_is_operand (F_is_table F_is_target F_is_functor F_is_constant F_is_register : FWP) : SWP :=
 (dSeq (dIf (dTest (dOp (eqP id) (dName "kind") (dVal (.str (Str.ofString "R"))))) (dSeq (dRet (dCall F_is_register (dCons (dName "value") (dCons (dTup (dCons (dVal (.str (Str.ofString "x"))) (dCons (dVal (.str (Str.ofString "y"))) dNil))) dNil))))
 dEnd) dEnd)
 (dSeq (dIf (dTest (dOp (eqP id) (dName "kind") (dVal (.str (Str.ofString "X"))))) (dSeq (dRet (dCall F_is_register (dCons (dName "value") (dCons (dTup (dCons (dVal (.str (Str.ofString "x"))) dNil)) dNil))))
 dEnd) dEnd)
 (dSeq (dIf (dTest (dOp (eqP id) (dName "kind") (dVal (.str (Str.ofString "Y"))))) (dSeq (dRet (dCall F_is_register (dCons (dName "value") (dCons (dTup (dCons (dVal (.str (Str.ofString "y"))) dNil)) dNil))))
 dEnd) dEnd)
 (dSeq (dIf (dTest (dOp (eqP id) (dName "kind") (dVal (.str (Str.ofString "C"))))) (dSeq (dRet (dCall F_is_constant (dCons (dName "value") dNil)))
 dEnd) dEnd)
 (dSeq (dIf (dOrT (dTest (dOp (eqP id) (dName "kind") (dVal (.str (Str.ofString "F"))))) (dOrT (dTest (dOp (eqP id) (dName "kind") (dVal (.str (Str.ofString "N"))))) dOrNil)) (dSeq (dRet (dCall F_is_functor (dCons (dName "value") dNil)))
 dEnd) dEnd)
 (dSeq (dIf (dTest (dOp (eqP id) (dName "kind") (dVal (.str (Str.ofString "L"))))) (dSeq (dRet (dCall F_is_target (dCons (dName "value") (dCons (dName "linked") dNil))))
 dEnd) dEnd)
 (dSeq (dRet (dCall F_is_table (dCons (dName "value") (dCons (dName "kind") (dCons (dName "linked") dNil)))))
 dEnd)))))))
theorem w_is_operand (G : Gd prog w (KH w) B) {F_is_table : FWP} (h_is_table : FnOk prog w B 4 252 F_is_table) {F_is_target : FWP} (h_is_target : FnOk prog w B 2 238 F_is_target) {F_is_functor : FWP} (h_is_functor : FnOk prog w B 2 231 F_is_functor) {F_is_constant : FWP} (h_is_constant : FnOk prog w B 2 224 F_is_constant) {F_is_register : FWP} (h_is_register : FnOk prog w B 2 217 F_is_register) : FnOk prog w B 5 259 (fnP ["value", "kind", "linked"] (d_is_operand F_is_table F_is_target F_is_functor F_is_constant F_is_register)) := by
  refine FnOk.def G (by kernel_rfl) (by kernel_rfl) (by decide) (fun vals h => ?_) (fun L X => ?_)
  · exact vals3 (P := fun vals => bindArgs (fdAt (KH w) 259) ⟨vals, []⟩ = pure ((["value", "kind", "linked"].map Str.ofString).zip vals)) (fun a0 a1 a2 => by kernel_rfl) h
  · have k_linked : KO (cE w L 259) "linked" .local := by kernel_rfl
    have k_kind : KO (cE w L 259) "kind" .local := by kernel_rfl
    have k_value : KO (cE w L 259) "value" .local := by kernel_rfl
    have g_is_table : KO (cE w L 259) "is_table" .globalImplicit := by kernel_rfl
    have g_is_target : KO (cE w L 259) "is_target" .globalImplicit := by kernel_rfl
    have g_is_functor : KO (cE w L 259) "is_functor" .globalImplicit := by kernel_rfl
    have g_is_constant : KO (cE w L 259) "is_constant" .globalImplicit := by kernel_rfl
    have g_is_register : KO (cE w L 259) "is_register" .globalImplicit := by kernel_rfl
    show SsOk prog w B 4 _ (_ :: _ :: _ :: _ :: _ :: _ :: _ :: []) _
    refine (SsOk.cons ?_ (SsOk.cons ?_ (SsOk.cons ?_ (SsOk.cons ?_ (SsOk.cons ?_ (SsOk.cons ?_ (SsOk.cons ?_ SsOk.nil)))))))
    · refine SOk.ite (TOk.cmp eq_ok (EOk.local X.kind k_kind nd_kind) EOk.cstr (by kernel_rfl)) ?_ ?_
      · refine (SsOk.cons ?_ SsOk.nil)
        · exact (SOk.ret (EOk.callG (f := 217) G X h_is_register (by decide) g_is_register ns_is_register kf_217 (EsOk.cons (EOk.local X.kind k_value nd_value) (EsOk.cons (EOk.tup (EsOk.cons EOk.cstr (EsOk.cons EOk.cstr EsOk.nil (by kernel_rfl)) (by kernel_rfl))) EsOk.nil (by kernel_rfl)) (by kernel_rfl)) (ArgsOk.cons (by kernel_rfl) (by kernel_rfl)) nd_is_register (arm_eval_Call_Name' _ _ _ _ _ _)))
      · exact SsOk.nil
    · refine SOk.ite (TOk.cmp eq_ok (EOk.local X.kind k_kind nd_kind) EOk.cstr (by kernel_rfl)) ?_ ?_
      · refine (SsOk.cons ?_ SsOk.nil)
        · exact (SOk.ret (EOk.callG (f := 217) G X h_is_register (by decide) g_is_register ns_is_register kf_217 (EsOk.cons (EOk.local X.kind k_value nd_value) (EsOk.cons (EOk.tup (EsOk.cons EOk.cstr EsOk.nil (by kernel_rfl))) EsOk.nil (by kernel_rfl)) (by kernel_rfl)) (ArgsOk.cons (by kernel_rfl) (by kernel_rfl)) nd_is_register (arm_eval_Call_Name' _ _ _ _ _ _)))
      · exact SsOk.nil
    · refine SOk.ite (TOk.cmp eq_ok (EOk.local X.kind k_kind nd_kind) EOk.cstr (by kernel_rfl)) ?_ ?_
      · refine (SsOk.cons ?_ SsOk.nil)
        · exact (SOk.ret (EOk.callG (f := 217) G X h_is_register (by decide) g_is_register ns_is_register kf_217 (EsOk.cons (EOk.local X.kind k_value nd_value) (EsOk.cons (EOk.tup (EsOk.cons EOk.cstr EsOk.nil (by kernel_rfl))) EsOk.nil (by kernel_rfl)) (by kernel_rfl)) (ArgsOk.cons (by kernel_rfl) (by kernel_rfl)) nd_is_register (arm_eval_Call_Name' _ _ _ _ _ _)))
      · exact SsOk.nil
    · refine SOk.ite (TOk.cmp eq_ok (EOk.local X.kind k_kind nd_kind) EOk.cstr (by kernel_rfl)) ?_ ?_
      · refine (SsOk.cons ?_ SsOk.nil)
        · exact (SOk.ret (EOk.callG (f := 224) G X h_is_constant (by decide) g_is_constant ns_is_constant kf_224 (EsOk.cons (EOk.local X.kind k_value nd_value) EsOk.nil (by kernel_rfl)) (ArgsOk.cons (by kernel_rfl) (by kernel_rfl)) nd_is_constant (arm_eval_Call_Name' _ _ _ _ _ _)))
      · exact SsOk.nil
    · refine SOk.ite (TOk.bool (AllOk.or (TOk.cmp eq_ok (EOk.local X.kind k_kind nd_kind) EOk.cstr (by kernel_rfl)) (AllOk.or (TOk.cmp eq_ok (EOk.local X.kind k_kind nd_kind) EOk.cstr (by kernel_rfl)) AllOk.orNil))) ?_ ?_
      · refine (SsOk.cons ?_ SsOk.nil)
        · exact (SOk.ret (EOk.callG (f := 231) G X h_is_functor (by decide) g_is_functor ns_is_functor kf_231 (EsOk.cons (EOk.local X.kind k_value nd_value) EsOk.nil (by kernel_rfl)) (ArgsOk.cons (by kernel_rfl) (by kernel_rfl)) nd_is_functor (arm_eval_Call_Name' _ _ _ _ _ _)))
      · exact SsOk.nil
    · refine SOk.ite (TOk.cmp eq_ok (EOk.local X.kind k_kind nd_kind) EOk.cstr (by kernel_rfl)) ?_ ?_
      · refine (SsOk.cons ?_ SsOk.nil)
        · exact (SOk.ret (EOk.callG (f := 238) G X h_is_target (by decide) g_is_target ns_is_target kf_238 (EsOk.cons (EOk.local X.kind k_value nd_value) (EsOk.cons (EOk.local X.kind k_linked nd_linked) EsOk.nil (by kernel_rfl)) (by kernel_rfl)) (ArgsOk.cons (by kernel_rfl) (by kernel_rfl)) nd_is_target (arm_eval_Call_Name' _ _ _ _ _ _)))
      · exact SsOk.nil
    · exact (SOk.ret (EOk.callG (f := 252) G X h_is_table (by decide) g_is_table ns_is_table kf_252 (EsOk.cons (EOk.local X.kind k_value nd_value) (EsOk.cons (EOk.local X.kind k_kind nd_kind) (EsOk.cons (EOk.local X.kind k_linked nd_linked) EsOk.nil (by kernel_rfl)) (by kernel_rfl)) (by kernel_rfl)) (ArgsOk.cons (by kernel_rfl) (by kernel_rfl)) nd_is_table (arm_eval_Call_Name' _ _ _ _ _ _)))
noncomputable def d_check_row (F_is_operand : FWP) : SWP :=
 (dSeq (dIf (dOrT (dNotT (dTest (dCall isiP (dCons (dName "ins") (dCons (dVal (.typ "tuple")) dNil))))) (dOrT (dTest (dOp (eqP id) (dCall lenP (dCons (dName "ins") dNil)) (dVal (.int 0)))) (dOrT (dNotT (dTest (dCall isiP (dCons (dOp getP (dName "ins") (dVal (.int 0))) (dCons (dVal (.typ "str")) dNil))))) dOrNil))) (dSeq dNo
 dEnd) dEnd)
 (dSeq (dAssign "name" (dOp getP (dName "ins") (dVal (.int 0))))
 (dSeq (dIf (dTest (dOp (inP not) (dName "name") (dName "table"))) (dSeq dNo
 dEnd) dEnd)
 (dSeq (dAssign "kinds" (dOp getP (dName "table") (dName "name")))
 (dSeq (dIf (dTest (dOp (eqP not) (dCall lenP (dCons (dName "ins") dNil)) (dOp addP (dCall lenP (dCons (dName "kinds") dNil)) (dVal (.int 1))))) (dSeq dNo
 dEnd) dEnd)
 (dSeq (dForR "place" (dCons (dCall lenP (dCons (dName "kinds") dNil)) dNil) (dSeq (dIf (dNotT (dTest (dCall F_is_operand (dCons (dOp getP (dName "ins") (dOp addP (dName "place") (dVal (.int 1)))) (dCons (dOp getP (dName "kinds") (dName "place")) (dCons (dName "linked") dNil)))))) (dSeq dNo
 dEnd) dEnd)
 dEnd))
 dEnd))))))
theorem w_check_row (G : Gd prog w (KH w) B) {F_is_operand : FWP} (h_is_operand : FnOk prog w B 5 259 F_is_operand) : FnOk prog w B 6 266 (fnP ["table", "ins", "linked"] (d_check_row F_is_operand)) := by
  refine FnOk.def G (by kernel_rfl) (by kernel_rfl) (by decide) (fun vals h => ?_) (fun L X => ?_)
  · exact vals3 (P := fun vals => bindArgs (fdAt (KH w) 266) ⟨vals, []⟩ = pure ((["table", "ins", "linked"].map Str.ofString).zip vals)) (fun a0 a1 a2 => by kernel_rfl) h
  · have k_linked : KO (cE w L 266) "linked" .local := by kernel_rfl
    have k_kinds : KO (cE w L 266) "kinds" .local := by kernel_rfl
    have k_place : KO (cE w L 266) "place" .local := by kernel_rfl
    have k_ins : KO (cE w L 266) "ins" .local := by kernel_rfl
    have g_is_operand : KO (cE w L 266) "is_operand" .globalImplicit := by kernel_rfl
    have g_len : KO (cE w L 266) "len" .globalImplicit := by kernel_rfl
    have g_range : KO (cE w L 266) "range" .globalImplicit := by kernel_rfl
    have k_table : KO (cE w L 266) "table" .local := by kernel_rfl
    have k_name : KO (cE w L 266) "name" .local := by kernel_rfl
    have g_str : KO (cE w L 266) "str" .globalImplicit := by kernel_rfl
    have g_isinstance : KO (cE w L 266) "isinstance" .globalImplicit := by kernel_rfl
    have g_tuple : KO (cE w L 266) "tuple" .globalImplicit := by kernel_rfl
    have st_place : StoreOk (callEnv (fdAt (KH w) 266) L 266) "place" := .loc k_place (by kernel_rfl)
    have st_kinds : StoreOk (callEnv (fdAt (KH w) 266) L 266) "kinds" := .loc k_kinds (by kernel_rfl)
    have st_name : StoreOk (callEnv (fdAt (KH w) 266) L 266) "name" := .loc k_name (by kernel_rfl)
    show SsOk prog w B 5 _ (_ :: _ :: _ :: _ :: _ :: _ :: []) _
    refine (SsOk.cons ?_ (SsOk.cons ?_ (SsOk.cons ?_ (SsOk.cons ?_ (SsOk.cons ?_ (SsOk.cons ?_ SsOk.nil))))))
    · refine SOk.ite (TOk.bool (AllOk.or (TOk.not (TOk.plain (EOk.callB (f := .builtin "isinstance") G X isi_ok g_isinstance ns_isinstance bt_isinstance nb_isinstance kp_isinstance (EsOk.cons (EOk.local X.kind k_ins nd_ins) (EsOk.cons (EOk.typ (T := "tuple") G X g_tuple ns_tuple bt_tuple nb_tuple nd_tuple) EsOk.nil (by kernel_rfl)) (by kernel_rfl)) (ArgsOk.cons (by kernel_rfl) (by kernel_rfl)) nd_isinstance (arm_eval_Call_Name' _ _ _ _ _ _)) (by kernel_rfl))) (AllOk.or (TOk.cmp eq_ok (EOk.callB (f := .builtin "len") G X len_ok g_len ns_len bt_len nb_len kp_len (EsOk.cons (EOk.local X.kind k_ins nd_ins) EsOk.nil (by kernel_rfl)) (ArgsOk.cons (by kernel_rfl) (by kernel_rfl)) nd_len (arm_eval_Call_Name' _ _ _ _ _ _)) EOk.cint (by kernel_rfl)) (AllOk.or (TOk.not (TOk.plain (EOk.callB (f := .builtin "isinstance") G X isi_ok g_isinstance ns_isinstance bt_isinstance nb_isinstance kp_isinstance (EsOk.cons (EOk.sub (EOk.local X.kind k_ins nd_ins) EOk.cint (fun _ _ => by kernel_rfl)) (EsOk.cons (EOk.typ (T := "str") G X g_str ns_str bt_str nb_str nd_str) EsOk.nil (by kernel_rfl)) (by kernel_rfl)) (ArgsOk.cons (by kernel_rfl) (by kernel_rfl)) nd_isinstance (arm_eval_Call_Name' _ _ _ _ _ _)) (by kernel_rfl))) AllOk.orNil)))) ?_ ?_
      · refine (SsOk.cons ?_ SsOk.nil)
        · exact SOk.no
      · exact SsOk.nil
    · exact (SOk.assign (EOk.sub (EOk.local X.kind k_ins nd_ins) EOk.cint (fun _ _ => by kernel_rfl)) st_name X.kind (by kernel_rfl))
    · refine SOk.ite (TOk.cmp notIn_ok (EOk.local X.kind k_name nd_name) (EOk.local X.kind k_table nd_table) (by kernel_rfl)) ?_ ?_
      · refine (SsOk.cons ?_ SsOk.nil)
        · exact SOk.no
      · exact SsOk.nil
    · exact (SOk.assign (EOk.sub (EOk.local X.kind k_table nd_table) (EOk.local X.kind k_name nd_name) (fun _ _ => by kernel_rfl)) st_kinds X.kind (by kernel_rfl))
    · refine SOk.ite (TOk.cmp ne_ok (EOk.callB (f := .builtin "len") G X len_ok g_len ns_len bt_len nb_len kp_len (EsOk.cons (EOk.local X.kind k_ins nd_ins) EsOk.nil (by kernel_rfl)) (ArgsOk.cons (by kernel_rfl) (by kernel_rfl)) nd_len (arm_eval_Call_Name' _ _ _ _ _ _)) (EOk.bin add_ok (EOk.callB (f := .builtin "len") G X len_ok g_len ns_len bt_len nb_len kp_len (EsOk.cons (EOk.local X.kind k_kinds nd_kinds) EsOk.nil (by kernel_rfl)) (ArgsOk.cons (by kernel_rfl) (by kernel_rfl)) nd_len (arm_eval_Call_Name' _ _ _ _ _ _)) EOk.cint) (by kernel_rfl)) ?_ ?_
      · refine (SsOk.cons ?_ SsOk.nil)
        · exact SOk.no
      · exact SsOk.nil
    · refine SOk.forR G X rfl g_range ns_range (EsOk.cons (EOk.callB (f := .builtin "len") G X len_ok g_len ns_len bt_len nb_len kp_len (EsOk.cons (EOk.local X.kind k_kinds nd_kinds) EsOk.nil (by kernel_rfl)) (ArgsOk.cons (by kernel_rfl) (by kernel_rfl)) nd_len (arm_eval_Call_Name' _ _ _ _ _ _)) EsOk.nil (by kernel_rfl)) (ArgsOk.cons (by kernel_rfl) (by kernel_rfl)) ?_ st_place (arm_eval_Call_Name' _ _ _ _ _ _) (fun _ => by kernel_rfl)
      · refine (SsOk.cons ?_ SsOk.nil)
        · refine SOk.ite (TOk.not (TOk.plain (EOk.callG (f := 259) G X h_is_operand (by decide) g_is_operand ns_is_operand kf_259 (EsOk.cons (EOk.sub (EOk.local X.kind k_ins nd_ins) (EOk.bin add_ok (EOk.local X.kind k_place nd_place) EOk.cint) (fun _ _ => by kernel_rfl)) (EsOk.cons (EOk.sub (EOk.local X.kind k_kinds nd_kinds) (EOk.local X.kind k_place nd_place) (fun _ _ => by kernel_rfl)) (EsOk.cons (EOk.local X.kind k_linked nd_linked) EsOk.nil (by kernel_rfl)) (by kernel_rfl)) (by kernel_rfl)) (ArgsOk.cons (by kernel_rfl) (by kernel_rfl)) nd_is_operand (arm_eval_Call_Name' _ _ _ _ _ _)) (by kernel_rfl))) ?_ ?_
          · refine (SsOk.cons ?_ SsOk.nil)
            · exact SOk.no
          · exact SsOk.nil
noncomputable def d_is_label_row : SWP :=
 (dSeq (dRet (dAndV (dCall isiP (dCons (dName "row") (dCons (dVal (.typ "tuple")) dNil))) (dAndV (dOp gtP (dCall lenP (dCons (dName "row") dNil)) (dVal (.int 0))) (dOp (eqP id) (dOp getP (dName "row") (dVal (.int 0))) (dVal (.str (Str.ofString "label")))))))
 dEnd)
theorem w_is_label_row (G : Gd prog w (KH w) B) : FnOk prog w B 1 273 (fnP ["row"] (d_is_label_row)) := by
  refine FnOk.def G (by kernel_rfl) (by kernel_rfl) (by decide) (fun vals h => ?_) (fun L X => ?_)
  · exact vals1 (P := fun vals => bindArgs (fdAt (KH w) 273) ⟨vals, []⟩ = pure ((["row"].map Str.ofString).zip vals)) (fun a0 => by kernel_rfl) h
  · have k_row : KO (cE w L 273) "row" .local := by kernel_rfl
    have g_len : KO (cE w L 273) "len" .globalImplicit := by kernel_rfl
    have g_tuple : KO (cE w L 273) "tuple" .globalImplicit := by kernel_rfl
    have g_isinstance : KO (cE w L 273) "isinstance" .globalImplicit := by kernel_rfl
    show SsOk prog w B 0 _ (_ :: []) _
    refine (SsOk.cons ?_ SsOk.nil)
    · exact (SOk.ret (EOk.boolop (BoolOk.and (EOk.callB (f := .builtin "isinstance") G X isi_ok g_isinstance ns_isinstance bt_isinstance nb_isinstance kp_isinstance (EsOk.cons (EOk.local X.kind k_row nd_row) (EsOk.cons (EOk.typ (T := "tuple") G X g_tuple ns_tuple bt_tuple nb_tuple nd_tuple) EsOk.nil (by kernel_rfl)) (by kernel_rfl)) (ArgsOk.cons (by kernel_rfl) (by kernel_rfl)) nd_isinstance (arm_eval_Call_Name' _ _ _ _ _ _)) (BoolOk.and (EOk.cmp gt_ok (EOk.callB (f := .builtin "len") G X len_ok g_len ns_len bt_len nb_len kp_len (EsOk.cons (EOk.local X.kind k_row nd_row) EsOk.nil (by kernel_rfl)) (ArgsOk.cons (by kernel_rfl) (by kernel_rfl)) nd_len (arm_eval_Call_Name' _ _ _ _ _ _)) EOk.cint (by kernel_rfl)) (BoolOk.one (EOk.cmp eq_ok (EOk.sub (EOk.local X.kind k_row nd_row) EOk.cint (fun _ _ => by kernel_rfl)) EOk.cstr (by kernel_rfl)))))))
noncomputable def d_label_addresses (F_is_label_row F_is_whole : FWP) : SWP :=
 (dSeq (dAssign "addresses" dDict0)
 (dSeq (dAssign "address" (dName "base"))
 (dSeq (dFor "row" (dName "block") (dSeq (dIf (dTest (dCall F_is_label_row (dCons (dName "row") dNil))) (dSeq (dIf (dOrT (dTest (dOp (eqP not) (dCall lenP (dCons (dName "row") dNil)) (dVal (.int 2)))) (dOrT (dNotT (dTest (dCall F_is_whole (dCons (dOp getP (dName "row") (dVal (.int 1))) dNil)))) (dOrT (dTest (dOp ltP (dOp getP (dName "row") (dVal (.int 1))) (dVal (.int 0)))) dOrNil))) (dSeq dNo
 dEnd) dEnd)
 (dSeq (dIf (dTest (dOp (inP id) (dOp getP (dName "row") (dVal (.int 1))) (dName "addresses"))) (dSeq dNo
 dEnd) dEnd)
 (dSeq (dSetItem (dName "addresses") (dOp getP (dName "row") (dVal (.int 1))) (dName "address"))
 dEnd))) (dSeq (dAug iaddP "address" (dVal (.int 1)))
 dEnd))
 dEnd))
 (dSeq (dRet (dName "addresses"))
 dEnd))))
theorem w_label_addresses (G : Gd prog w (KH w) B) {F_is_label_row : FWP} (h_is_label_row : FnOk prog w B 1 273 F_is_label_row) {F_is_whole : FWP} (h_is_whole : FnOk prog w B 1 203 F_is_whole) : FnOk prog w B 2 280 (fnP ["block", "base"] (d_label_addresses F_is_label_row F_is_whole)) := by
  refine FnOk.def G (by kernel_rfl) (by kernel_rfl) (by decide) (fun vals h => ?_) (fun L X => ?_)
  · exact vals2 (P := fun vals => bindArgs (fdAt (KH w) 280) ⟨vals, []⟩ = pure ((["block", "base"].map Str.ofString).zip vals)) (fun a0 a1 => by kernel_rfl) h
  · have k_addresses : KO (cE w L 280) "addresses" .local := by kernel_rfl
    have k_row : KO (cE w L 280) "row" .local := by kernel_rfl
    have g_is_label_row : KO (cE w L 280) "is_label_row" .globalImplicit := by kernel_rfl
    have k_address : KO (cE w L 280) "address" .local := by kernel_rfl
    have g_is_whole : KO (cE w L 280) "is_whole" .globalImplicit := by kernel_rfl
    have g_len : KO (cE w L 280) "len" .globalImplicit := by kernel_rfl
    have k_block : KO (cE w L 280) "block" .local := by kernel_rfl
    have k_base : KO (cE w L 280) "base" .local := by kernel_rfl
    have st_address : StoreOk (callEnv (fdAt (KH w) 280) L 280) "address" := .loc k_address (by kernel_rfl)
    have st_row : StoreOk (callEnv (fdAt (KH w) 280) L 280) "row" := .loc k_row (by kernel_rfl)
    have st_addresses : StoreOk (callEnv (fdAt (KH w) 280) L 280) "addresses" := .loc k_addresses (by kernel_rfl)
    show SsOk prog w B 1 _ (_ :: _ :: _ :: _ :: []) _
    refine (SsOk.cons ?_ (SsOk.cons ?_ (SsOk.cons ?_ (SsOk.cons ?_ SsOk.nil))))
    · exact (SOk.assign EOk.dict0 st_addresses X.kind (by kernel_rfl))
    · exact (SOk.assign (EOk.local X.kind k_base nd_base) st_address X.kind (by kernel_rfl))
    · refine SOk.for (EOk.local X.kind k_block nd_block) ?_ st_row X.kind (fun _ => by kernel_rfl)
      · refine (SsOk.cons ?_ SsOk.nil)
        · refine SOk.ite (TOk.plain (EOk.callG (f := 273) G X h_is_label_row (by decide) g_is_label_row ns_is_label_row kf_273 (EsOk.cons (EOk.local X.kind k_row nd_row) EsOk.nil (by kernel_rfl)) (ArgsOk.cons (by kernel_rfl) (by kernel_rfl)) nd_is_label_row (arm_eval_Call_Name' _ _ _ _ _ _)) (by kernel_rfl)) ?_ ?_
          · refine (SsOk.cons ?_ (SsOk.cons ?_ (SsOk.cons ?_ SsOk.nil)))
            · refine SOk.ite (TOk.bool (AllOk.or (TOk.cmp ne_ok (EOk.callB (f := .builtin "len") G X len_ok g_len ns_len bt_len nb_len kp_len (EsOk.cons (EOk.local X.kind k_row nd_row) EsOk.nil (by kernel_rfl)) (ArgsOk.cons (by kernel_rfl) (by kernel_rfl)) nd_len (arm_eval_Call_Name' _ _ _ _ _ _)) EOk.cint (by kernel_rfl)) (AllOk.or (TOk.not (TOk.plain (EOk.callG (f := 203) G X h_is_whole (by decide) g_is_whole ns_is_whole kf_203 (EsOk.cons (EOk.sub (EOk.local X.kind k_row nd_row) EOk.cint (fun _ _ => by kernel_rfl)) EsOk.nil (by kernel_rfl)) (ArgsOk.cons (by kernel_rfl) (by kernel_rfl)) nd_is_whole (arm_eval_Call_Name' _ _ _ _ _ _)) (by kernel_rfl))) (AllOk.or (TOk.cmp lt_ok (EOk.sub (EOk.local X.kind k_row nd_row) EOk.cint (fun _ _ => by kernel_rfl)) EOk.cint (by kernel_rfl)) AllOk.orNil)))) ?_ ?_
              · refine (SsOk.cons ?_ SsOk.nil)
                · exact SOk.no
              · exact SsOk.nil
            · refine SOk.ite (TOk.cmp in_ok (EOk.sub (EOk.local X.kind k_row nd_row) EOk.cint (fun _ _ => by kernel_rfl)) (EOk.local X.kind k_addresses nd_addresses) (by kernel_rfl)) ?_ ?_
              · refine (SsOk.cons ?_ SsOk.nil)
                · exact SOk.no
              · exact SsOk.nil
            · exact (SOk.setItem (EOk.local X.kind k_addresses nd_addresses) (EOk.sub (EOk.local X.kind k_row nd_row) EOk.cint (fun _ _ => by kernel_rfl)) (EOk.local X.kind k_address nd_address) (by kernel_rfl))
          · refine (SsOk.cons ?_ SsOk.nil)
            · exact (SOk.aug iadd_ok EOk.cint k_address st_address X.kind)
    · exact (SOk.ret (EOk.local X.kind k_addresses nd_addresses))
noncomputable def d_resolve_label : SWP :=
 (dSeq (dIf (dTest (dOp (eqP id) (dName "label") (dNeg (dVal (.int 1))))) (dSeq (dRet (dVal (.int (2))))
 dEnd) dEnd)
 (dSeq (dIf (dTest (dOp (inP not) (dName "label") (dName "addresses"))) (dSeq dNo
 dEnd) dEnd)
 (dSeq (dIf (dTest (dOp geP (dOp getP (dName "addresses") (dName "label")) (dName "end"))) (dSeq dNo
 dEnd) dEnd)
 (dSeq (dRet (dOp getP (dName "addresses") (dName "label")))
 dEnd))))
theorem w_resolve_label (G : Gd prog w (KH w) B) : FnOk prog w B 1 287 (fnP ["label", "addresses", "end"] (d_resolve_label)) := by
  refine FnOk.def G (by kernel_rfl) (by kernel_rfl) (by decide) (fun vals h => ?_) (fun L X => ?_)
  · exact vals3 (P := fun vals => bindArgs (fdAt (KH w) 287) ⟨vals, []⟩ = pure ((["label", "addresses", "end"].map Str.ofString).zip vals)) (fun a0 a1 a2 => by kernel_rfl) h
  · have k_addresses : KO (cE w L 287) "addresses" .local := by kernel_rfl
    have k_label : KO (cE w L 287) "label" .local := by kernel_rfl
    have k_end : KO (cE w L 287) "end" .local := by kernel_rfl
    have g_FAIL_ADDRESS : KO (cE w L 287) "FAIL_ADDRESS" .globalImplicit := by kernel_rfl
    show SsOk prog w B 0 _ (_ :: _ :: _ :: _ :: []) _
    refine (SsOk.cons ?_ (SsOk.cons ?_ (SsOk.cons ?_ (SsOk.cons ?_ SsOk.nil))))
    · refine SOk.ite (TOk.cmp eq_ok (EOk.local X.kind k_label nd_label) (EOk.neg EOk.cint) (by kernel_rfl)) ?_ ?_
      · refine (SsOk.cons ?_ SsOk.nil)
        · exact (SOk.ret (EOk.globInt G X g_FAIL_ADDRESS gi_FAIL_ADDRESS nd_FAIL_ADDRESS))
      · exact SsOk.nil
    · refine SOk.ite (TOk.cmp notIn_ok (EOk.local X.kind k_label nd_label) (EOk.local X.kind k_addresses nd_addresses) (by kernel_rfl)) ?_ ?_
      · refine (SsOk.cons ?_ SsOk.nil)
        · exact SOk.no
      · exact SsOk.nil
    · refine SOk.ite (TOk.cmp ge_ok (EOk.sub (EOk.local X.kind k_addresses nd_addresses) (EOk.local X.kind k_label nd_label) (fun _ _ => by kernel_rfl)) (EOk.local X.kind k_end nd_end) (by kernel_rfl)) ?_ ?_
      · refine (SsOk.cons ?_ SsOk.nil)
        · exact SOk.no
      · exact SsOk.nil
    · exact (SOk.ret (EOk.sub (EOk.local X.kind k_addresses nd_addresses) (EOk.local X.kind k_label nd_label) (fun _ _ => by kernel_rfl)))
noncomputable def d_resolve_table (F_resolve_label : FWP) : SWP :=
 (dSeq (dAssign "table" dDict0)
 (dSeq (dFor "pair" (dName "pairs") (dSeq (dIf (dTest (dOp (inP id) (dOp getP (dName "pair") (dVal (.int 0))) (dName "table"))) (dSeq dNo
 dEnd) dEnd)
 (dSeq (dSetItem (dName "table") (dOp getP (dName "pair") (dVal (.int 0))) (dCall F_resolve_label (dCons (dOp getP (dName "pair") (dVal (.int 1))) (dCons (dName "addresses") (dCons (dName "end") dNil)))))
 dEnd)))
 (dSeq (dRet (dName "table"))
 dEnd)))
theorem w_resolve_table (G : Gd prog w (KH w) B) {F_resolve_label : FWP} (h_resolve_label : FnOk prog w B 1 287 F_resolve_label) : FnOk prog w B 2 294 (fnP ["pairs", "addresses", "end"] (d_resolve_table F_resolve_label)) := by
  refine FnOk.def G (by kernel_rfl) (by kernel_rfl) (by decide) (fun vals h => ?_) (fun L X => ?_)
  · exact vals3 (P := fun vals => bindArgs (fdAt (KH w) 294) ⟨vals, []⟩ = pure ((["pairs", "addresses", "end"].map Str.ofString).zip vals)) (fun a0 a1 a2 => by kernel_rfl) h
  · have k_table : KO (cE w L 294) "table" .local := by kernel_rfl
    have k_end : KO (cE w L 294) "end" .local := by kernel_rfl
    have k_addresses : KO (cE w L 294) "addresses" .local := by kernel_rfl
    have k_pair : KO (cE w L 294) "pair" .local := by kernel_rfl
    have g_resolve_label : KO (cE w L 294) "resolve_label" .globalImplicit := by kernel_rfl
    have k_pairs : KO (cE w L 294) "pairs" .local := by kernel_rfl
    have st_pair : StoreOk (callEnv (fdAt (KH w) 294) L 294) "pair" := .loc k_pair (by kernel_rfl)
    have st_table : StoreOk (callEnv (fdAt (KH w) 294) L 294) "table" := .loc k_table (by kernel_rfl)
    show SsOk prog w B 1 _ (_ :: _ :: _ :: []) _
    refine (SsOk.cons ?_ (SsOk.cons ?_ (SsOk.cons ?_ SsOk.nil)))
    · exact (SOk.assign EOk.dict0 st_table X.kind (by kernel_rfl))
    · refine SOk.for (EOk.local X.kind k_pairs nd_pairs) ?_ st_pair X.kind (fun _ => by kernel_rfl)
      · refine (SsOk.cons ?_ (SsOk.cons ?_ SsOk.nil))
        · refine SOk.ite (TOk.cmp in_ok (EOk.sub (EOk.local X.kind k_pair nd_pair) EOk.cint (fun _ _ => by kernel_rfl)) (EOk.local X.kind k_table nd_table) (by kernel_rfl)) ?_ ?_
          · refine (SsOk.cons ?_ SsOk.nil)
            · exact SOk.no
          · exact SsOk.nil
        · exact (SOk.setItem (EOk.local X.kind k_table nd_table) (EOk.sub (EOk.local X.kind k_pair nd_pair) EOk.cint (fun _ _ => by kernel_rfl)) (EOk.callG (f := 287) G X h_resolve_label (by decide) g_resolve_label ns_resolve_label kf_287 (EsOk.cons (EOk.sub (EOk.local X.kind k_pair nd_pair) EOk.cint (fun _ _ => by kernel_rfl)) (EsOk.cons (EOk.local X.kind k_addresses nd_addresses) (EsOk.cons (EOk.local X.kind k_end nd_end) EsOk.nil (by kernel_rfl)) (by kernel_rfl)) (by kernel_rfl)) (ArgsOk.cons (by kernel_rfl) (by kernel_rfl)) nd_resolve_label (arm_eval_Call_Name' _ _ _ _ _ _)) (by kernel_rfl))
    · exact (SOk.ret (EOk.local X.kind k_table nd_table))
noncomputable def d_resolve_instruction (F_resolve_label F_resolve_table F_check_row : FWP) : SWP :=
 (dSeq (dExpr (dCall F_check_row (dCons (dName "table") (dCons (dName "ins") (dCons (dVal (.bool false)) dNil)))))
 (dSeq (dAssign "kinds" (dOp getP (dName "table") (dOp getP (dName "ins") (dVal (.int 0)))))
 (dSeq (dAssign "parts" (dList (dCons (dOp getP (dName "ins") (dVal (.int 0))) dNil)))
 (dSeq (dForR "place" (dCons (dCall lenP (dCons (dName "kinds") dNil)) dNil) (dSeq (dAssign "value" (dOp getP (dName "ins") (dOp addP (dName "place") (dVal (.int 1)))))
 (dSeq (dIf (dTest (dOp (eqP id) (dOp getP (dName "kinds") (dName "place")) (dVal (.str (Str.ofString "L"))))) (dSeq (dAssign "value" (dCall F_resolve_label (dCons (dName "value") (dCons (dName "addresses") (dCons (dName "end") dNil)))))
 dEnd) (dSeq (dIf (dOrT (dTest (dOp (eqP id) (dOp getP (dName "kinds") (dName "place")) (dVal (.str (Str.ofString "T"))))) (dOrT (dTest (dOp (eqP id) (dOp getP (dName "kinds") (dName "place")) (dVal (.str (Str.ofString "U"))))) dOrNil)) (dSeq (dAssign "value" (dCall F_resolve_table (dCons (dName "value") (dCons (dName "addresses") (dCons (dName "end") dNil)))))
 dEnd) dEnd)
 dEnd))
 (dSeq (dExpr (dAppend (dName "parts") (dName "value")))
 dEnd))))
 (dSeq (dRet (dCall tupleP (dCons (dName "parts") dNil)))
 dEnd)))))
theorem w_resolve_instruction (G : Gd prog w (KH w) B) {F_resolve_label : FWP} (h_resolve_label : FnOk prog w B 1 287 F_resolve_label) {F_resolve_table : FWP} (h_resolve_table : FnOk prog w B 2 294 F_resolve_table) {F_check_row : FWP} (h_check_row : FnOk prog w B 6 266 F_check_row) : FnOk prog w B 7 301 (fnP ["table", "ins", "addresses", "end"] (d_resolve_instruction F_resolve_label F_resolve_table F_check_row)) := by
  refine FnOk.def G (by kernel_rfl) (by kernel_rfl) (by decide) (fun vals h => ?_) (fun L X => ?_)
  · exact vals4 (P := fun vals => bindArgs (fdAt (KH w) 301) ⟨vals, []⟩ = pure ((["table", "ins", "addresses", "end"].map Str.ofString).zip vals)) (fun a0 a1 a2 a3 => by kernel_rfl) h
  · have k_parts : KO (cE w L 301) "parts" .local := by kernel_rfl
    have g_tuple : KO (cE w L 301) "tuple" .globalImplicit := by kernel_rfl
    have k_value : KO (cE w L 301) "value" .local := by kernel_rfl
    have k_kinds : KO (cE w L 301) "kinds" .local := by kernel_rfl
    have k_place : KO (cE w L 301) "place" .local := by kernel_rfl
    have k_end : KO (cE w L 301) "end" .local := by kernel_rfl
    have k_addresses : KO (cE w L 301) "addresses" .local := by kernel_rfl
    have g_resolve_label : KO (cE w L 301) "resolve_label" .globalImplicit := by kernel_rfl
    have g_resolve_table : KO (cE w L 301) "resolve_table" .globalImplicit := by kernel_rfl
    have k_ins : KO (cE w L 301) "ins" .local := by kernel_rfl
    have g_len : KO (cE w L 301) "len" .globalImplicit := by kernel_rfl
    have g_range : KO (cE w L 301) "range" .globalImplicit := by kernel_rfl
    have k_table : KO (cE w L 301) "table" .local := by kernel_rfl
    have g_check_row : KO (cE w L 301) "check_row" .globalImplicit := by kernel_rfl
    have st_value : StoreOk (callEnv (fdAt (KH w) 301) L 301) "value" := .loc k_value (by kernel_rfl)
    have st_place : StoreOk (callEnv (fdAt (KH w) 301) L 301) "place" := .loc k_place (by kernel_rfl)
    have st_parts : StoreOk (callEnv (fdAt (KH w) 301) L 301) "parts" := .loc k_parts (by kernel_rfl)
    have st_kinds : StoreOk (callEnv (fdAt (KH w) 301) L 301) "kinds" := .loc k_kinds (by kernel_rfl)
    show SsOk prog w B 6 _ (_ :: _ :: _ :: _ :: _ :: []) _
    refine (SsOk.cons ?_ (SsOk.cons ?_ (SsOk.cons ?_ (SsOk.cons ?_ (SsOk.cons ?_ SsOk.nil)))))
    · exact (SOk.expr (EOk.callG (f := 266) G X h_check_row (by decide) g_check_row ns_check_row kf_266 (EsOk.cons (EOk.local X.kind k_table nd_table) (EsOk.cons (EOk.local X.kind k_ins nd_ins) (EsOk.cons EOk.cbool EsOk.nil (by kernel_rfl)) (by kernel_rfl)) (by kernel_rfl)) (ArgsOk.cons (by kernel_rfl) (by kernel_rfl)) nd_check_row (arm_eval_Call_Name' _ _ _ _ _ _)) X.kind (by kernel_rfl))
    · exact (SOk.assign (EOk.sub (EOk.local X.kind k_table nd_table) (EOk.sub (EOk.local X.kind k_ins nd_ins) EOk.cint (fun _ _ => by kernel_rfl)) (fun _ _ => by kernel_rfl)) st_kinds X.kind (by kernel_rfl))
    · exact (SOk.assign (EOk.list (EsOk.cons (EOk.sub (EOk.local X.kind k_ins nd_ins) EOk.cint (fun _ _ => by kernel_rfl)) EsOk.nil (by kernel_rfl))) st_parts X.kind (by kernel_rfl))
    · refine SOk.forR G X rfl g_range ns_range (EsOk.cons (EOk.callB (f := .builtin "len") G X len_ok g_len ns_len bt_len nb_len kp_len (EsOk.cons (EOk.local X.kind k_kinds nd_kinds) EsOk.nil (by kernel_rfl)) (ArgsOk.cons (by kernel_rfl) (by kernel_rfl)) nd_len (arm_eval_Call_Name' _ _ _ _ _ _)) EsOk.nil (by kernel_rfl)) (ArgsOk.cons (by kernel_rfl) (by kernel_rfl)) ?_ st_place (arm_eval_Call_Name' _ _ _ _ _ _) (fun _ => by kernel_rfl)
      · refine (SsOk.cons ?_ (SsOk.cons ?_ (SsOk.cons ?_ SsOk.nil)))
        · exact (SOk.assign (EOk.sub (EOk.local X.kind k_ins nd_ins) (EOk.bin add_ok (EOk.local X.kind k_place nd_place) EOk.cint) (fun _ _ => by kernel_rfl)) st_value X.kind (by kernel_rfl))
        · refine SOk.ite (TOk.cmp eq_ok (EOk.sub (EOk.local X.kind k_kinds nd_kinds) (EOk.local X.kind k_place nd_place) (fun _ _ => by kernel_rfl)) EOk.cstr (by kernel_rfl)) ?_ ?_
          · refine (SsOk.cons ?_ SsOk.nil)
            · exact (SOk.assign (EOk.callG (f := 287) G X h_resolve_label (by decide) g_resolve_label ns_resolve_label kf_287 (EsOk.cons (EOk.local X.kind k_value nd_value) (EsOk.cons (EOk.local X.kind k_addresses nd_addresses) (EsOk.cons (EOk.local X.kind k_end nd_end) EsOk.nil (by kernel_rfl)) (by kernel_rfl)) (by kernel_rfl)) (ArgsOk.cons (by kernel_rfl) (by kernel_rfl)) nd_resolve_label (arm_eval_Call_Name' _ _ _ _ _ _)) st_value X.kind (by kernel_rfl))
          · refine (SsOk.cons ?_ SsOk.nil)
            · refine SOk.ite (TOk.bool (AllOk.or (TOk.cmp eq_ok (EOk.sub (EOk.local X.kind k_kinds nd_kinds) (EOk.local X.kind k_place nd_place) (fun _ _ => by kernel_rfl)) EOk.cstr (by kernel_rfl)) (AllOk.or (TOk.cmp eq_ok (EOk.sub (EOk.local X.kind k_kinds nd_kinds) (EOk.local X.kind k_place nd_place) (fun _ _ => by kernel_rfl)) EOk.cstr (by kernel_rfl)) AllOk.orNil))) ?_ ?_
              · refine (SsOk.cons ?_ SsOk.nil)
                · exact (SOk.assign (EOk.callG (f := 294) G X h_resolve_table (by decide) g_resolve_table ns_resolve_table kf_294 (EsOk.cons (EOk.local X.kind k_value nd_value) (EsOk.cons (EOk.local X.kind k_addresses nd_addresses) (EsOk.cons (EOk.local X.kind k_end nd_end) EsOk.nil (by kernel_rfl)) (by kernel_rfl)) (by kernel_rfl)) (ArgsOk.cons (by kernel_rfl) (by kernel_rfl)) nd_resolve_table (arm_eval_Call_Name' _ _ _ _ _ _)) st_value X.kind (by kernel_rfl))
              · exact SsOk.nil
        · exact (SOk.expr (EOk.append (EOk.local X.kind k_parts nd_parts) (EOk.local X.kind k_value nd_value) (by kernel_rfl) (methForm (by kernel_rfl) (by kernel_rfl) (by kernel_rfl))) X.kind (by kernel_rfl))
    · exact (SOk.ret (EOk.callB (f := .type "tuple") G X tuple_ok g_tuple ns_tuple bt_tuple nb_tuple kp_tuple (EsOk.cons (EOk.local X.kind k_parts nd_parts) EsOk.nil (by kernel_rfl)) (ArgsOk.cons (by kernel_rfl) (by kernel_rfl)) nd_tuple (arm_eval_Call_Name' _ _ _ _ _ _)))
noncomputable def d_assemble (F_resolve_instruction F_is_label_row F_label_addresses F_shapes : FWP) : SWP :=
 (dSeq (dIf (dTest (dOp isP (dName "table") (dVal .none))) (dSeq (dAssign "table" (dCall F_shapes dNil))
 dEnd) dEnd)
 (dSeq (dAssign "addresses" (dCall F_label_addresses (dCons (dName "block") (dCons (dName "base") dNil))))
 (dSeq (dAssign "rows" (dComp "row" (dNotT (dTest (dCall F_is_label_row (dCons (dName "row") dNil)))) (dName "row") (dItL (dName "block"))))
 (dSeq (dAssign "end" (dOp addP (dName "base") (dCall lenP (dCons (dName "rows") dNil))))
 (dSeq (dRet (dComp "row" dAll (dCall F_resolve_instruction (dCons (dName "table") (dCons (dName "row") (dCons (dName "addresses") (dCons (dName "end") dNil))))) (dItL (dName "rows"))))
 dEnd)))))
theorem w_assemble (G : Gd prog w (KH w) B) {F_resolve_instruction : FWP} (h_resolve_instruction : FnOk prog w B 7 301 F_resolve_instruction) {F_is_label_row : FWP} (h_is_label_row : FnOk prog w B 1 273 F_is_label_row) {F_label_addresses : FWP} (h_label_addresses : FnOk prog w B 2 280 F_label_addresses) {F_shapes : FWP} (h_shapes : FnOk prog w B 1 196 F_shapes) : FnOk prog w B 8 307 (fnPD ["block", "base", "table"] [.none] (d_assemble F_resolve_instruction F_is_label_row F_label_addresses F_shapes)) := by
  refine FnOk.defC (cn := ["end", "addresses", "table"]) (dv := [.none]) G (by kernel_rfl) (fun L => by kernel_rfl) (by decide) (by kernel_rfl) (by decide) (by kernel_rfl) (fun h => .cons .none .nil) (fun s vals H h => ?_) (fun L X => ?_)
  · exact vals2 (P := fun vals => BindsTo s (fdAt (KH w) 307) ⟨vals, []⟩ ((["block", "base", "table"].map Str.ofString).zip (vals ++ [.none]))) (fun a0 a1 => assemble_binds H a0 a1) (Nat.succ.inj h)
  · have CO : CellsOk (callEnvC (fdAt (KH w) 307) L 307) := CellsOk.of (cn := ["end", "addresses", "table"]) (L := L) (by kernel_rfl)
    have k_rows : KO (callEnvC (fdAt (KH w) 307) L 307) "rows" .local := by kernel_rfl
    have c_addresses : (Env.cells (callEnvC (fdAt (KH w) 307) L 307)).lookup (Str.ofString "addresses") = some (L + 2) := by kernel_rfl
    have c_end : (Env.cells (callEnvC (fdAt (KH w) 307) L 307)).lookup (Str.ofString "end") = some (L + 3) := by kernel_rfl
    have c_table : (Env.cells (callEnvC (fdAt (KH w) 307) L 307)).lookup (Str.ofString "table") = some (L + 1) := by kernel_rfl
    have k_base : KO (callEnvC (fdAt (KH w) 307) L 307) "base" .local := by kernel_rfl
    have g_len : KO (callEnvC (fdAt (KH w) 307) L 307) "len" .globalImplicit := by kernel_rfl
    have k_end : KO (callEnvC (fdAt (KH w) 307) L 307) "end" .cell := by kernel_rfl
    have k_block : KO (callEnvC (fdAt (KH w) 307) L 307) "block" .local := by kernel_rfl
    have g_label_addresses : KO (callEnvC (fdAt (KH w) 307) L 307) "label_addresses" .globalImplicit := by kernel_rfl
    have k_addresses : KO (callEnvC (fdAt (KH w) 307) L 307) "addresses" .cell := by kernel_rfl
    have k_table : KO (callEnvC (fdAt (KH w) 307) L 307) "table" .cell := by kernel_rfl
    have g_shapes : KO (callEnvC (fdAt (KH w) 307) L 307) "shapes" .globalImplicit := by kernel_rfl
    have st_end : StoreOk (callEnvC (fdAt (KH w) 307) L 307) "end" := .cell k_end c_end CO
    have st_rows : StoreOk (callEnvC (fdAt (KH w) 307) L 307) "rows" := .loc k_rows (by kernel_rfl)
    have st_addresses : StoreOk (callEnvC (fdAt (KH w) 307) L 307) "addresses" := .cell k_addresses c_addresses CO
    have st_table : StoreOk (callEnvC (fdAt (KH w) 307) L 307) "table" := .cell k_table c_table CO
    show SsOk prog w B 7 _ (_ :: _ :: _ :: _ :: _ :: []) _
    refine (SsOk.cons ?_ (SsOk.cons ?_ (SsOk.cons ?_ (SsOk.cons ?_ (SsOk.cons ?_ SsOk.nil)))))
    · refine SOk.ite (TOk.cmp is_ok (EOk.cell (c := L + 1) X.kind k_table c_table nd_table) EOk.cnone (by kernel_rfl)) ?_ ?_
      · refine (SsOk.cons ?_ SsOk.nil)
        · exact (SOk.assign (EOk.callG (f := 196) G X h_shapes (by decide) g_shapes ns_shapes kf_196 EsOk.nil ArgsOk.nil nd_shapes (arm_eval_Call_Name' _ _ _ _ _ _)) st_table X.kind (by kernel_rfl))
      · exact SsOk.nil
    · exact (SOk.assign (EOk.callG (f := 280) G X h_label_addresses (by decide) g_label_addresses ns_label_addresses kf_280 (EsOk.cons (EOk.local X.kind k_block nd_block) (EsOk.cons (EOk.local X.kind k_base nd_base) EsOk.nil (by kernel_rfl)) (by kernel_rfl)) (ArgsOk.cons (by kernel_rfl) (by kernel_rfl)) nd_label_addresses (arm_eval_Call_Name' _ _ _ _ _ _)) st_addresses X.kind (by kernel_rfl))
    · exact (SOk.compX X (ItOk.list (EOk.local X.kind k_block nd_block)) (CompScope.of (cl := []) (by kernel_rfl) (by kernel_rfl) CL.nil) (fun C X => (TsOk.one (TOk.not (TOk.plain (EOk.callG (f := 273) G X h_is_label_row (by decide) (by kernel_rfl) ns_is_label_row kf_273 (EsOk.cons (EOk.local X.kind (by kernel_rfl) nd_row) EsOk.nil (by kernel_rfl)) (ArgsOk.cons (by kernel_rfl) (by kernel_rfl)) nd_is_label_row (arm_eval_Call_Name' _ _ _ _ _ _)) (by kernel_rfl))))) (fun C X => (EOk.local X.kind (by kernel_rfl) nd_row)) st_rows (by kernel_rfl) (fun _ => by kernel_rfl))
    · exact (SOk.assign (EOk.bin add_ok (EOk.local X.kind k_base nd_base) (EOk.callB (f := .builtin "len") G X len_ok g_len ns_len bt_len nb_len kp_len (EsOk.cons (EOk.local X.kind k_rows nd_rows) EsOk.nil (by kernel_rfl)) (ArgsOk.cons (by kernel_rfl) (by kernel_rfl)) nd_len (arm_eval_Call_Name' _ _ _ _ _ _))) st_end X.kind (by kernel_rfl))
    · exact (SOk.ret (EOk.compX X (ItOk.list (EOk.local X.kind k_rows nd_rows)) (CompScope.of (cl := ((Str.ofString "table", L + 1) :: ((Str.ofString "end", L + 3) :: ((Str.ofString "addresses", L + 2) :: [])))) (by kernel_rfl) (by kernel_rfl) (CL.cons c_table (CL.cons c_end (CL.cons c_addresses CL.nil)))) (fun C X => TsOk.nil) (fun C X => (EOk.callG (f := 301) G X h_resolve_instruction (by decide) (by kernel_rfl) ns_resolve_instruction kf_301 (EsOk.cons (EOk.cell (c := L + 1) X.kind (by kernel_rfl) (by kernel_rfl) nd_table) (EsOk.cons (EOk.local X.kind (by kernel_rfl) nd_row) (EsOk.cons (EOk.cell (c := L + 2) X.kind (by kernel_rfl) (by kernel_rfl) nd_addresses) (EsOk.cons (EOk.cell (c := L + 3) X.kind (by kernel_rfl) (by kernel_rfl) nd_end) EsOk.nil (by kernel_rfl)) (by kernel_rfl)) (by kernel_rfl)) (by kernel_rfl)) (ArgsOk.cons (by kernel_rfl) (by kernel_rfl)) nd_resolve_instruction (arm_eval_Call_Name' _ _ _ _ _ _))) (fun _ => by kernel_rfl)))
noncomputable def d_law_figures : SWP :=
 (dSeq (dAssign "figures" (dList dNil))
 (dSeq (dFor "cell" (dHead 30 (dName "script")) (dSeq (dAssign "whole" (dIte (dTest (dOp geP (dName "cell") (dVal (.int 0)))) (dName "cell") (dOp subP (dVal (.int 3)) (dOp mulP (dVal (.int 5)) (dName "cell")))))
 (dSeq (dForR "turn" (dCons (dVal (.int 24)) dNil) (dSeq (dExpr (dAppend (dName "figures") (dOp modP (dName "whole") (dVal (.int 997)))))
 (dSeq (dAssign "whole" (dOp divP (dName "whole") (dVal (.int 997))))
 (dSeq (dIf (dTest (dOp (eqP id) (dName "whole") (dVal (.int 0)))) (dSeq dBrk
 dEnd) dEnd)
 dEnd))))
 dEnd)))
 (dSeq (dAssign "figures" (dHead 90 (dName "figures")))
 (dSeq (dExpr (dRev (dName "figures")))
 (dSeq (dRet (dName "figures"))
 dEnd)))))
theorem w_law_figures (G : Gd prog w (KH w) B) : FnOk prog w B 1 314 (fnP ["script"] (d_law_figures)) := by
  refine FnOk.def G (by kernel_rfl) (by kernel_rfl) (by decide) (fun vals h => ?_) (fun L X => ?_)
  · exact vals1 (P := fun vals => bindArgs (fdAt (KH w) 314) ⟨vals, []⟩ = pure ((["script"].map Str.ofString).zip vals)) (fun a0 => by kernel_rfl) h
  · have k_figures : KO (cE w L 314) "figures" .local := by kernel_rfl
    have k_whole : KO (cE w L 314) "whole" .local := by kernel_rfl
    have g_range : KO (cE w L 314) "range" .globalImplicit := by kernel_rfl
    have k_turn : KO (cE w L 314) "turn" .local := by kernel_rfl
    have k_cell : KO (cE w L 314) "cell" .local := by kernel_rfl
    have k_script : KO (cE w L 314) "script" .local := by kernel_rfl
    have st_figures : StoreOk (callEnv (fdAt (KH w) 314) L 314) "figures" := .loc k_figures (by kernel_rfl)
    have st_whole : StoreOk (callEnv (fdAt (KH w) 314) L 314) "whole" := .loc k_whole (by kernel_rfl)
    have st_turn : StoreOk (callEnv (fdAt (KH w) 314) L 314) "turn" := .loc k_turn (by kernel_rfl)
    have st_cell : StoreOk (callEnv (fdAt (KH w) 314) L 314) "cell" := .loc k_cell (by kernel_rfl)
    show SsOk prog w B 0 _ (_ :: _ :: _ :: _ :: _ :: []) _
    refine (SsOk.cons ?_ (SsOk.cons ?_ (SsOk.cons ?_ (SsOk.cons ?_ (SsOk.cons ?_ SsOk.nil)))))
    · exact (SOk.assign (EOk.list EsOk.nil) st_figures X.kind (by kernel_rfl))
    · refine SOk.for (EOk.head (b := 30) (EOk.local X.kind k_script nd_script)) ?_ st_cell X.kind (fun _ => by kernel_rfl)
      · refine (SsOk.cons ?_ (SsOk.cons ?_ SsOk.nil))
        · exact (SOk.assign (EOk.ite (TOk.cmp ge_ok (EOk.local X.kind k_cell nd_cell) EOk.cint (by kernel_rfl)) (EOk.local X.kind k_cell nd_cell) (EOk.bin sub_ok EOk.cint (EOk.bin mul_ok EOk.cint (EOk.local X.kind k_cell nd_cell)))) st_whole X.kind (by kernel_rfl))
        · refine SOk.forR G X rfl g_range ns_range (EsOk.cons EOk.cint EsOk.nil (by kernel_rfl)) (ArgsOk.cons (by kernel_rfl) (by kernel_rfl)) ?_ st_turn (arm_eval_Call_Name' _ _ _ _ _ _) (fun _ => by kernel_rfl)
          · refine (SsOk.cons ?_ (SsOk.cons ?_ (SsOk.cons ?_ SsOk.nil)))
            · exact (SOk.expr (EOk.append (EOk.local X.kind k_figures nd_figures) (EOk.bin mod_ok (EOk.local X.kind k_whole nd_whole) EOk.cint) (by kernel_rfl) (methForm (by kernel_rfl) (by kernel_rfl) (by kernel_rfl))) X.kind (by kernel_rfl))
            · exact (SOk.assign (EOk.bin div_ok (EOk.local X.kind k_whole nd_whole) EOk.cint) st_whole X.kind (by kernel_rfl))
            · refine SOk.ite (TOk.cmp eq_ok (EOk.local X.kind k_whole nd_whole) EOk.cint (by kernel_rfl)) ?_ ?_
              · refine (SsOk.cons ?_ SsOk.nil)
                · exact SOk.brk
              · exact SsOk.nil
    · exact (SOk.assign (EOk.head (b := 90) (EOk.local X.kind k_figures nd_figures)) st_figures X.kind (by kernel_rfl))
    · exact (SOk.expr (EOk.reverse (EOk.local X.kind k_figures nd_figures) (methForm (by kernel_rfl) (by kernel_rfl) (by kernel_rfl))) X.kind (by kernel_rfl))
    · exact (SOk.ret (EOk.local X.kind k_figures nd_figures))
noncomputable def d_law_draw : SWP :=
 (dSeq (dIf (dTest (dOp (eqP id) (dName "figures") (dList dNil))) (dSeq (dRet (dVal (.int 0)))
 dEnd) dEnd)
 (dSeq (dRet (dOp modP (dPop (dName "figures")) (dName "many")))
 dEnd))
theorem w_law_draw (G : Gd prog w (KH w) B) : FnOk prog w B 1 321 (fnP ["figures", "many"] (d_law_draw)) := by
  refine FnOk.def G (by kernel_rfl) (by kernel_rfl) (by decide) (fun vals h => ?_) (fun L X => ?_)
  · exact vals2 (P := fun vals => bindArgs (fdAt (KH w) 321) ⟨vals, []⟩ = pure ((["figures", "many"].map Str.ofString).zip vals)) (fun a0 a1 => by kernel_rfl) h
  · have k_figures : KO (cE w L 321) "figures" .local := by kernel_rfl
    have k_many : KO (cE w L 321) "many" .local := by kernel_rfl
    show SsOk prog w B 0 _ (_ :: _ :: []) _
    refine (SsOk.cons ?_ (SsOk.cons ?_ SsOk.nil))
    · refine SOk.ite (TOk.cmp eq_ok (EOk.local X.kind k_figures nd_figures) (EOk.list EsOk.nil) (by kernel_rfl)) ?_ ?_
      · refine (SsOk.cons ?_ SsOk.nil)
        · exact (SOk.ret EOk.cint)
      · exact SsOk.nil
    · exact (SOk.ret (EOk.bin mod_ok (EOk.pop (EOk.local X.kind k_figures nd_figures) (methForm (by kernel_rfl) (by kernel_rfl) (by kernel_rfl))) (EOk.local X.kind k_many nd_many)))
noncomputable def d_law_key_drawn (F_law_draw : FWP) : SWP :=
 (dSeq (dAssign "kind" (dCall F_law_draw (dCons (dName "figures") (dCons (dVal (.int 5)) dNil))))
 (dSeq (dIf (dTest (dOp (eqP id) (dName "kind") (dVal (.int 1)))) (dSeq (dRet (dTup (dCons (dVal (.str (Str.ofString "var"))) dNil)))
 dEnd) dEnd)
 (dSeq (dIf (dTest (dOp (eqP id) (dName "kind") (dVal (.int 2)))) (dSeq (dRet (dTup (dCons (dVal (.str (Str.ofString "list"))) dNil)))
 dEnd) dEnd)
 (dSeq (dIf (dTest (dOp (eqP id) (dName "kind") (dVal (.int 3)))) (dSeq (dRet (dTup (dCons (dVal (.str (Str.ofString "struct"))) (dCons (dOp addP (dVal (.int 40)) (dCall F_law_draw (dCons (dName "figures") (dCons (dVal (.int 2)) dNil)))) dNil))))
 dEnd) dEnd)
 (dSeq (dRet (dTup (dCons (dVal (.str (Str.ofString "const"))) (dCons (dTup (dCons (dIte (dTest (dOp (eqP id) (dName "kind") (dVal (.int 0)))) (dVal (.int (5))) (dVal (.int (4)))) (dCons (dCall F_law_draw (dCons (dName "figures") (dCons (dVal (.int 2)) dNil))) dNil))) dNil))))
 dEnd)))))
theorem w_law_key_drawn (G : Gd prog w (KH w) B) {F_law_draw : FWP} (h_law_draw : FnOk prog w B 1 321 F_law_draw) : FnOk prog w B 2 328 (fnP ["figures"] (d_law_key_drawn F_law_draw)) := by
  refine FnOk.def G (by kernel_rfl) (by kernel_rfl) (by decide) (fun vals h => ?_) (fun L X => ?_)
  · exact vals1 (P := fun vals => bindArgs (fdAt (KH w) 328) ⟨vals, []⟩ = pure ((["figures"].map Str.ofString).zip vals)) (fun a0 => by kernel_rfl) h
  · have k_figures : KO (cE w L 328) "figures" .local := by kernel_rfl
    have g_law_draw : KO (cE w L 328) "_law_draw" .globalImplicit := by kernel_rfl
    have k_kind : KO (cE w L 328) "kind" .local := by kernel_rfl
    have g_INT : KO (cE w L 328) "INT" .globalImplicit := by kernel_rfl
    have g_CON : KO (cE w L 328) "CON" .globalImplicit := by kernel_rfl
    have st_kind : StoreOk (callEnv (fdAt (KH w) 328) L 328) "kind" := .loc k_kind (by kernel_rfl)
    show SsOk prog w B 1 _ (_ :: _ :: _ :: _ :: _ :: []) _
    refine (SsOk.cons ?_ (SsOk.cons ?_ (SsOk.cons ?_ (SsOk.cons ?_ (SsOk.cons ?_ SsOk.nil)))))
    · exact (SOk.assign (EOk.callG (f := 321) G X h_law_draw (by decide) g_law_draw ns_law_draw kf_321 (EsOk.cons (EOk.local X.kind k_figures nd_figures) (EsOk.cons EOk.cint EsOk.nil (by kernel_rfl)) (by kernel_rfl)) (ArgsOk.cons (by kernel_rfl) (by kernel_rfl)) nd_law_draw (arm_eval_Call_Name' _ _ _ _ _ _)) st_kind X.kind (by kernel_rfl))
    · refine SOk.ite (TOk.cmp eq_ok (EOk.local X.kind k_kind nd_kind) EOk.cint (by kernel_rfl)) ?_ ?_
      · refine (SsOk.cons ?_ SsOk.nil)
        · exact (SOk.ret (EOk.tup (EsOk.cons EOk.cstr EsOk.nil (by kernel_rfl))))
      · exact SsOk.nil
    · refine SOk.ite (TOk.cmp eq_ok (EOk.local X.kind k_kind nd_kind) EOk.cint (by kernel_rfl)) ?_ ?_
      · refine (SsOk.cons ?_ SsOk.nil)
        · exact (SOk.ret (EOk.tup (EsOk.cons EOk.cstr EsOk.nil (by kernel_rfl))))
      · exact SsOk.nil
    · refine SOk.ite (TOk.cmp eq_ok (EOk.local X.kind k_kind nd_kind) EOk.cint (by kernel_rfl)) ?_ ?_
      · refine (SsOk.cons ?_ SsOk.nil)
        · exact (SOk.ret (EOk.tup (EsOk.cons EOk.cstr (EsOk.cons (EOk.bin add_ok EOk.cint (EOk.callG (f := 321) G X h_law_draw (by decide) g_law_draw ns_law_draw kf_321 (EsOk.cons (EOk.local X.kind k_figures nd_figures) (EsOk.cons EOk.cint EsOk.nil (by kernel_rfl)) (by kernel_rfl)) (ArgsOk.cons (by kernel_rfl) (by kernel_rfl)) nd_law_draw (arm_eval_Call_Name' _ _ _ _ _ _))) EsOk.nil (by kernel_rfl)) (by kernel_rfl))))
      · exact SsOk.nil
    · exact (SOk.ret (EOk.tup (EsOk.cons EOk.cstr (EsOk.cons (EOk.tup (EsOk.cons (EOk.ite (TOk.cmp eq_ok (EOk.local X.kind k_kind nd_kind) EOk.cint (by kernel_rfl)) (EOk.globInt G X g_INT gi_INT nd_INT) (EOk.globInt G X g_CON gi_CON nd_CON)) (EsOk.cons (EOk.callG (f := 321) G X h_law_draw (by decide) g_law_draw ns_law_draw kf_321 (EsOk.cons (EOk.local X.kind k_figures nd_figures) (EsOk.cons EOk.cint EsOk.nil (by kernel_rfl)) (by kernel_rfl)) (ArgsOk.cons (by kernel_rfl) (by kernel_rfl)) nd_law_draw (arm_eval_Call_Name' _ _ _ _ _ _)) EsOk.nil (by kernel_rfl)) (by kernel_rfl))) EsOk.nil (by kernel_rfl)) (by kernel_rfl))))
noncomputable def d_law_goal : SWP :=
 (dSeq (dIf (dTest (dOp (eqP id) (dOp getP (dName "row") (dVal (.int 0))) (dVal (.str (Str.ofString "switch_on_term"))))) (dSeq (dRet (dOp getP (dName "row") (dOp addP (dIdx (dList (dCons (dVal (.str (Str.ofString "var"))) (dCons (dVal (.str (Str.ofString "const"))) (dCons (dVal (.str (Str.ofString "list"))) (dCons (dVal (.str (Str.ofString "struct"))) dNil))))) (dOp getP (dName "call") (dVal (.int 0)))) (dVal (.int 1)))))
 dEnd) dEnd)
 (dSeq (dIf (dTest (dOp (inP id) (dOp getP (dName "row") (dVal (.int 0))) (dTup (dCons (dVal (.str (Str.ofString "switch_on_constant"))) (dCons (dVal (.str (Str.ofString "switch_on_structure"))) dNil))))) (dSeq (dRet (dGet (dOp getP (dName "row") (dVal (.int 1))) (dCons (dOp getP (dName "call") (dVal (.int 1))) (dCons (dOp getP (dName "row") (dVal (.int 2))) dNil))))
 dEnd) dEnd)
 (dSeq (dRet (dOp getP (dName "row") (dVal (.int 1))))
 dEnd)))
theorem w_law_goal (G : Gd prog w (KH w) B) : FnOk prog w B 1 335 (fnP ["row", "call"] (d_law_goal)) := by
  refine FnOk.def G (by kernel_rfl) (by kernel_rfl) (by decide) (fun vals h => ?_) (fun L X => ?_)
  · exact vals2 (P := fun vals => bindArgs (fdAt (KH w) 335) ⟨vals, []⟩ = pure ((["row", "call"].map Str.ofString).zip vals)) (fun a0 a1 => by kernel_rfl) h
  · have k_row : KO (cE w L 335) "row" .local := by kernel_rfl
    have k_call : KO (cE w L 335) "call" .local := by kernel_rfl
    show SsOk prog w B 0 _ (_ :: _ :: _ :: []) _
    refine (SsOk.cons ?_ (SsOk.cons ?_ (SsOk.cons ?_ SsOk.nil)))
    · refine SOk.ite (TOk.cmp eq_ok (EOk.sub (EOk.local X.kind k_row nd_row) EOk.cint (fun _ _ => by kernel_rfl)) EOk.cstr (by kernel_rfl)) ?_ ?_
      · refine (SsOk.cons ?_ SsOk.nil)
        · exact (SOk.ret (EOk.sub (EOk.local X.kind k_row nd_row) (EOk.bin add_ok (EOk.index (EOk.list (EsOk.cons EOk.cstr (EsOk.cons EOk.cstr (EsOk.cons EOk.cstr (EsOk.cons EOk.cstr EsOk.nil (by kernel_rfl)) (by kernel_rfl)) (by kernel_rfl)) (by kernel_rfl))) (EOk.sub (EOk.local X.kind k_call nd_call) EOk.cint (fun _ _ => by kernel_rfl)) (by kernel_rfl) (methForm (by kernel_rfl) (by kernel_rfl) (by kernel_rfl))) EOk.cint) (fun _ _ => by kernel_rfl)))
      · exact SsOk.nil
    · refine SOk.ite (TOk.cmp in_ok (EOk.sub (EOk.local X.kind k_row nd_row) EOk.cint (fun _ _ => by kernel_rfl)) (EOk.tup (EsOk.cons EOk.cstr (EsOk.cons EOk.cstr EsOk.nil (by kernel_rfl)) (by kernel_rfl))) (by kernel_rfl)) ?_ ?_
      · refine (SsOk.cons ?_ SsOk.nil)
        · exact (SOk.ret (EOk.get (EOk.sub (EOk.local X.kind k_row nd_row) EOk.cint (fun _ _ => by kernel_rfl)) (EsOk.cons (EOk.sub (EOk.local X.kind k_call nd_call) EOk.cint (fun _ _ => by kernel_rfl)) (EsOk.cons (EOk.sub (EOk.local X.kind k_row nd_row) EOk.cint (fun _ _ => by kernel_rfl)) EsOk.nil (by kernel_rfl)) (by kernel_rfl)) (ArgsOk.cons (by kernel_rfl) (by kernel_rfl)) (methForm (by kernel_rfl) (by kernel_rfl) (by kernel_rfl))))
      · exact SsOk.nil
    · exact (SOk.ret (EOk.sub (EOk.local X.kind k_row nd_row) EOk.cint (fun _ _ => by kernel_rfl)))
noncomputable def d_law_met (F_law_goal : FWP) : SWP :=
 (dSeq (dAssign "met" (dList dNil))
 (dSeq (dAssign "saved" (dList dNil))
 (dSeq (dAssign "most" (dVal (.int 0)))
 (dSeq (dAssign "at" (dName "low"))
 (dSeq (dForR "turn" (dCons (dVal (.int 150)) dNil) (dSeq (dAssign "row" (dIte (dTest (dOp (eqP not) (dName "at") (dVal (.int 2)))) (dOp getP (dName "code") (dOp subP (dName "at") (dName "low"))) (dTup (dCons (dVal (.str (Str.ofString "fail"))) dNil))))
 (dSeq (dIf (dTest (dOp (inP id) (dOp getP (dName "row") (dVal (.int 0))) (dTup (dCons (dVal (.str (Str.ofString "execute"))) (dCons (dVal (.str (Str.ofString "fail"))) dNil))))) (dSeq (dIf (dTest (dOp (eqP id) (dOp getP (dName "row") (dVal (.int 0))) (dVal (.str (Str.ofString "execute"))))) (dSeq (dExpr (dAppend (dName "met") (dOp getP (dName "row") (dVal (.int 1)))))
 dEnd) dEnd)
 (dSeq (dIf (dTest (dOp (eqP id) (dName "saved") (dList dNil))) (dSeq (dRet (dTup (dCons (dName "met") (dCons (dName "most") dNil))))
 dEnd) dEnd)
 (dSeq (dAssign "at" (dOp getP (dName "saved") (dNeg (dVal (.int 1)))))
 (dSeq dCont
 dEnd)))) dEnd)
 (dSeq (dIf (dTest (dOp (eqP id) (dOp getP (dName "row") (dVal (.int 0))) (dVal (.str (Str.ofString "try"))))) (dSeq (dIf (dTest (dOp (eqP not) (dOp getP (dName "row") (dVal (.int 2))) (dName "wide"))) (dSeq (dRet (dVal .none))
 dEnd) dEnd)
 (dSeq (dExpr (dAppend (dName "saved") (dOp addP (dName "at") (dVal (.int 1)))))
 dEnd)) (dSeq (dIf (dTest (dOp (eqP id) (dOp getP (dName "row") (dVal (.int 0))) (dVal (.str (Str.ofString "retry"))))) (dSeq (dSetItem (dName "saved") (dNeg (dVal (.int 1))) (dOp addP (dName "at") (dVal (.int 1))))
 dEnd) (dSeq (dIf (dTest (dOp (eqP id) (dOp getP (dName "row") (dVal (.int 0))) (dVal (.str (Str.ofString "trust"))))) (dSeq (dExpr (dPop (dName "saved")))
 dEnd) (dSeq (dIf (dNotT (dTest (dStarts (dOp getP (dName "row") (dVal (.int 0))) (dVal (.str (Str.ofString "switch_on_")))))) (dSeq (dRet (dVal .none))
 dEnd) dEnd)
 dEnd))
 dEnd))
 dEnd))
 (dSeq (dAssign "most" (dCall maxP (dCons (dName "most") (dCons (dCall lenP (dCons (dName "saved") dNil)) dNil))))
 (dSeq (dAssign "at" (dCall F_law_goal (dCons (dName "row") (dCons (dName "call") dNil))))
 dEnd))))))
 (dSeq (dRet (dVal .none))
 dEnd))))))
theorem w_law_met (G : Gd prog w (KH w) B) {F_law_goal : FWP} (h_law_goal : FnOk prog w B 1 335 F_law_goal) : FnOk prog w B 2 342 (fnP ["code", "low", "wide", "call"] (d_law_met F_law_goal)) := by
  refine FnOk.def G (by kernel_rfl) (by kernel_rfl) (by decide) (fun vals h => ?_) (fun L X => ?_)
  · exact vals4 (P := fun vals => bindArgs (fdAt (KH w) 342) ⟨vals, []⟩ = pure ((["code", "low", "wide", "call"].map Str.ofString).zip vals)) (fun a0 a1 a2 a3 => by kernel_rfl) h
  · have k_call : KO (cE w L 342) "call" .local := by kernel_rfl
    have k_row : KO (cE w L 342) "row" .local := by kernel_rfl
    have g_law_goal : KO (cE w L 342) "_law_goal" .globalImplicit := by kernel_rfl
    have k_at : KO (cE w L 342) "at" .local := by kernel_rfl
    have k_saved : KO (cE w L 342) "saved" .local := by kernel_rfl
    have g_len : KO (cE w L 342) "len" .globalImplicit := by kernel_rfl
    have k_most : KO (cE w L 342) "most" .local := by kernel_rfl
    have g_max : KO (cE w L 342) "max" .globalImplicit := by kernel_rfl
    have k_wide : KO (cE w L 342) "wide" .local := by kernel_rfl
    have k_met : KO (cE w L 342) "met" .local := by kernel_rfl
    have k_code : KO (cE w L 342) "code" .local := by kernel_rfl
    have k_low : KO (cE w L 342) "low" .local := by kernel_rfl
    have g_range : KO (cE w L 342) "range" .globalImplicit := by kernel_rfl
    have k_turn : KO (cE w L 342) "turn" .local := by kernel_rfl
    have st_at : StoreOk (callEnv (fdAt (KH w) 342) L 342) "at" := .loc k_at (by kernel_rfl)
    have st_most : StoreOk (callEnv (fdAt (KH w) 342) L 342) "most" := .loc k_most (by kernel_rfl)
    have st_row : StoreOk (callEnv (fdAt (KH w) 342) L 342) "row" := .loc k_row (by kernel_rfl)
    have st_turn : StoreOk (callEnv (fdAt (KH w) 342) L 342) "turn" := .loc k_turn (by kernel_rfl)
    have st_saved : StoreOk (callEnv (fdAt (KH w) 342) L 342) "saved" := .loc k_saved (by kernel_rfl)
    have st_met : StoreOk (callEnv (fdAt (KH w) 342) L 342) "met" := .loc k_met (by kernel_rfl)
    show SsOk prog w B 1 _ (_ :: _ :: _ :: _ :: _ :: _ :: []) _
    refine (SsOk.cons ?_ (SsOk.cons ?_ (SsOk.cons ?_ (SsOk.cons ?_ (SsOk.cons ?_ (SsOk.cons ?_ SsOk.nil))))))
    · exact (SOk.assign (EOk.list EsOk.nil) st_met X.kind (by kernel_rfl))
    · exact (SOk.assign (EOk.list EsOk.nil) st_saved X.kind (by kernel_rfl))
    · exact (SOk.assign EOk.cint st_most X.kind (by kernel_rfl))
    · exact (SOk.assign (EOk.local X.kind k_low nd_low) st_at X.kind (by kernel_rfl))
    · refine SOk.forR G X rfl g_range ns_range (EsOk.cons EOk.cint EsOk.nil (by kernel_rfl)) (ArgsOk.cons (by kernel_rfl) (by kernel_rfl)) ?_ st_turn (arm_eval_Call_Name' _ _ _ _ _ _) (fun _ => by kernel_rfl)
      · refine (SsOk.cons ?_ (SsOk.cons ?_ (SsOk.cons ?_ (SsOk.cons ?_ (SsOk.cons ?_ SsOk.nil)))))
        · exact (SOk.assign (EOk.ite (TOk.cmp ne_ok (EOk.local X.kind k_at nd_at) EOk.cint (by kernel_rfl)) (EOk.sub (EOk.local X.kind k_code nd_code) (EOk.bin sub_ok (EOk.local X.kind k_at nd_at) (EOk.local X.kind k_low nd_low)) (fun _ _ => by kernel_rfl)) (EOk.tup (EsOk.cons EOk.cstr EsOk.nil (by kernel_rfl)))) st_row X.kind (by kernel_rfl))
        · refine SOk.ite (TOk.cmp in_ok (EOk.sub (EOk.local X.kind k_row nd_row) EOk.cint (fun _ _ => by kernel_rfl)) (EOk.tup (EsOk.cons EOk.cstr (EsOk.cons EOk.cstr EsOk.nil (by kernel_rfl)) (by kernel_rfl))) (by kernel_rfl)) ?_ ?_
          · refine (SsOk.cons ?_ (SsOk.cons ?_ (SsOk.cons ?_ (SsOk.cons ?_ SsOk.nil))))
            · refine SOk.ite (TOk.cmp eq_ok (EOk.sub (EOk.local X.kind k_row nd_row) EOk.cint (fun _ _ => by kernel_rfl)) EOk.cstr (by kernel_rfl)) ?_ ?_
              · refine (SsOk.cons ?_ SsOk.nil)
                · exact (SOk.expr (EOk.append (EOk.local X.kind k_met nd_met) (EOk.sub (EOk.local X.kind k_row nd_row) EOk.cint (fun _ _ => by kernel_rfl)) (by kernel_rfl) (methForm (by kernel_rfl) (by kernel_rfl) (by kernel_rfl))) X.kind (by kernel_rfl))
              · exact SsOk.nil
            · refine SOk.ite (TOk.cmp eq_ok (EOk.local X.kind k_saved nd_saved) (EOk.list EsOk.nil) (by kernel_rfl)) ?_ ?_
              · refine (SsOk.cons ?_ SsOk.nil)
                · exact (SOk.ret (EOk.tup (EsOk.cons (EOk.local X.kind k_met nd_met) (EsOk.cons (EOk.local X.kind k_most nd_most) EsOk.nil (by kernel_rfl)) (by kernel_rfl))))
              · exact SsOk.nil
            · exact (SOk.assign (EOk.sub (EOk.local X.kind k_saved nd_saved) (EOk.neg EOk.cint) (fun _ _ => by kernel_rfl)) st_at X.kind (by kernel_rfl))
            · exact SOk.cont
          · exact SsOk.nil
        · refine SOk.ite (TOk.cmp eq_ok (EOk.sub (EOk.local X.kind k_row nd_row) EOk.cint (fun _ _ => by kernel_rfl)) EOk.cstr (by kernel_rfl)) ?_ ?_
          · refine (SsOk.cons ?_ (SsOk.cons ?_ SsOk.nil))
            · refine SOk.ite (TOk.cmp ne_ok (EOk.sub (EOk.local X.kind k_row nd_row) EOk.cint (fun _ _ => by kernel_rfl)) (EOk.local X.kind k_wide nd_wide) (by kernel_rfl)) ?_ ?_
              · refine (SsOk.cons ?_ SsOk.nil)
                · exact (SOk.ret EOk.cnone)
              · exact SsOk.nil
            · exact (SOk.expr (EOk.append (EOk.local X.kind k_saved nd_saved) (EOk.bin add_ok (EOk.local X.kind k_at nd_at) EOk.cint) (by kernel_rfl) (methForm (by kernel_rfl) (by kernel_rfl) (by kernel_rfl))) X.kind (by kernel_rfl))
          · refine (SsOk.cons ?_ SsOk.nil)
            · refine SOk.ite (TOk.cmp eq_ok (EOk.sub (EOk.local X.kind k_row nd_row) EOk.cint (fun _ _ => by kernel_rfl)) EOk.cstr (by kernel_rfl)) ?_ ?_
              · refine (SsOk.cons ?_ SsOk.nil)
                · exact (SOk.setItem (EOk.local X.kind k_saved nd_saved) (EOk.neg EOk.cint) (EOk.bin add_ok (EOk.local X.kind k_at nd_at) EOk.cint) (by kernel_rfl))
              · refine (SsOk.cons ?_ SsOk.nil)
                · refine SOk.ite (TOk.cmp eq_ok (EOk.sub (EOk.local X.kind k_row nd_row) EOk.cint (fun _ _ => by kernel_rfl)) EOk.cstr (by kernel_rfl)) ?_ ?_
                  · refine (SsOk.cons ?_ SsOk.nil)
                    · exact (SOk.expr (EOk.pop (EOk.local X.kind k_saved nd_saved) (methForm (by kernel_rfl) (by kernel_rfl) (by kernel_rfl))) X.kind (by kernel_rfl))
                  · refine (SsOk.cons ?_ SsOk.nil)
                    · refine SOk.ite (TOk.not (TOk.plain (EOk.starts (EOk.sub (EOk.local X.kind k_row nd_row) EOk.cint (fun _ _ => by kernel_rfl)) EOk.cstr (by kernel_rfl) (methForm (by kernel_rfl) (by kernel_rfl) (by kernel_rfl))) (by kernel_rfl))) ?_ ?_
                      · refine (SsOk.cons ?_ SsOk.nil)
                        · exact (SOk.ret EOk.cnone)
                      · exact SsOk.nil
        · exact (SOk.assign (EOk.callB (f := .builtin "max") G X max_ok g_max ns_max bt_max nb_max kp_max (EsOk.cons (EOk.local X.kind k_most nd_most) (EsOk.cons (EOk.callB (f := .builtin "len") G X len_ok g_len ns_len bt_len nb_len kp_len (EsOk.cons (EOk.local X.kind k_saved nd_saved) EsOk.nil (by kernel_rfl)) (ArgsOk.cons (by kernel_rfl) (by kernel_rfl)) nd_len (arm_eval_Call_Name' _ _ _ _ _ _)) EsOk.nil (by kernel_rfl)) (by kernel_rfl)) (ArgsOk.cons (by kernel_rfl) (by kernel_rfl)) nd_max (arm_eval_Call_Name' _ _ _ _ _ _)) st_most X.kind (by kernel_rfl))
        · exact (SOk.assign (EOk.callG (f := 335) G X h_law_goal (by decide) g_law_goal ns_law_goal kf_335 (EsOk.cons (EOk.local X.kind k_row nd_row) (EsOk.cons (EOk.local X.kind k_call nd_call) EsOk.nil (by kernel_rfl)) (by kernel_rfl)) (ArgsOk.cons (by kernel_rfl) (by kernel_rfl)) nd_law_goal (arm_eval_Call_Name' _ _ _ _ _ _)) st_at X.kind (by kernel_rfl))
    · exact (SOk.ret EOk.cnone)
end
end Mine
namespace Mine
open PySem PySem.W PySem.Calls PyProof.Rows PySem.Spec
section
variable {prog : Program} {w : World} {B : Heap}
noncomputable def d_law (F_law_met F_tried_clauses F_assemble F_law_draw F_finish F_switch F_chain_rows F_fresh_label F_BlockBuilder_init F_ClauseCode_init F_law_key_drawn F_law_figures : FWP) : SWP :=
 (dSeq (dAssign "figures" (dCall F_law_figures (dCons (dName "script") dNil)))
 (dSeq (dAssign "wide" (dOp addP (dVal (.int 1)) (dCall F_law_draw (dCons (dName "figures") (dCons (dVal (.int 2)) dNil)))))
 (dSeq (dAssign "many" (dOp getP (dList (dCons (dVal (.int 3)) (dCons (dVal (.int 2)) (dCons (dVal (.int 4)) (dCons (dVal (.int 5)) (dCons (dVal (.int 1)) dNil)))))) (dCall F_law_draw (dCons (dName "figures") (dCons (dVal (.int 5)) dNil)))))
 (dSeq (dAssign "keys" (dComp "place" dAll (dCall F_law_key_drawn (dCons (dName "figures") dNil)) (dItR (dCons (dName "many") dNil))))
 (dSeq (dAssign "codes" (dList dNil))
 (dSeq (dForR "place" (dCons (dName "many") dNil) (dSeq (dExpr (dAppend (dName "codes") (dCall (newP 178 F_ClauseCode_init) (dCons (dVal (.int 6)) (dCons (dOp getP (dName "keys") (dName "place")) (dCons (dList (dCons (dTup (dCons (dVal (.str (Str.ofString "execute"))) (dCons (dName "place") dNil))) dNil)) (dCons (dName "wide") dNil)))))))
 dEnd))
 (dSeq (dAssign "shares" (dList dNil))
 (dSeq (dForR "turn" (dCons (dOp addP (dVal (.int 2)) (dCall F_law_draw (dCons (dName "figures") (dCons (dVal (.int 2)) dNil)))) dNil) (dSeq (dAssign "bits" (dOp subP (dVal (.int 31)) (dCall F_law_draw (dCons (dName "figures") (dCons (dVal (.int 32)) dNil)))))
 (dSeq (dExpr (dAppend (dName "shares") (dComp "place" (dTest (dOp (eqP id) (dOp andP (dOp shrP (dName "bits") (dName "place")) (dVal (.int 1))) (dVal (.int 1)))) (dName "place") (dItR (dCons (dName "many") dNil)))))
 dEnd)))
 (dSeq (dAssign "builder" (dCall (newP 129 F_BlockBuilder_init) (dCons (dName "wide") (dCons (dName "codes") dNil))))
 (dSeq (dAssign "marks" (dComp "share" dAll (dMeth 129 "fresh_label" F_fresh_label (dName "builder") dNil) (dItL (dName "shares"))))
 (dSeq (dFor "row" (dMeth 129 "chain_rows" F_chain_rows (dName "builder") (dCons (dName "marks") dNil)) (dSeq (dExpr (dAppend (dAttr 129 "rows" (dName "builder")) (dName "row")))
 dEnd))
 (dSeq (dForR "turn" (dCons (dCall lenP (dCons (dName "shares") dNil)) dNil) (dSeq (dExpr (dAppend (dAttr 129 "rows" (dName "builder")) (dTup (dCons (dVal (.str (Str.ofString "label"))) (dCons (dOp getP (dName "marks") (dName "turn")) dNil)))))
 (dSeq (dExpr (dMeth 129 "switch" F_switch (dName "builder") (dCons (dCall listP (dCons (dOp getP (dName "shares") (dName "turn")) dNil)) dNil)))
 dEnd)))
 (dSeq (dAssign "block" (dMeth 129 "finish" F_finish (dName "builder") dNil))
 (dSeq (dAssign "low" (dOp addP (dVal (.int 3)) (dCall F_law_draw (dCons (dName "figures") (dCons (dVal (.int 500)) dNil)))))
 (dSeq (dAssign "code" (dCall F_assemble (dCons (dName "block") (dCons (dName "low") dNil))))
 (dSeq (dAssign "calls" (dList (dCons (dTup (dCons (dVal (.str (Str.ofString "var"))) dNil)) (dCons (dTup (dCons (dVal (.str (Str.ofString "list"))) dNil)) (dCons (dTup (dCons (dVal (.str (Str.ofString "const"))) (dCons (dTup (dCons (dVal (.int (5))) (dCons (dOp powP (dVal (.int 10)) (dVal (.int 9))) dNil))) dNil))) (dCons (dTup (dCons (dVal (.str (Str.ofString "struct"))) (dCons (dVal (.int 50)) dNil))) dNil))))))
 (dSeq (dFor "key" (dName "keys") (dSeq (dIf (dTest (dOp (inP not) (dName "key") (dName "calls"))) (dSeq (dExpr (dAppend (dName "calls") (dName "key")))
 dEnd) dEnd)
 dEnd))
 (dSeq (dFor "call" (dName "calls") (dSeq (dAssign "due" (dList dNil))
 (dSeq (dAssign "most" (dVal (.int 1)))
 (dSeq (dForR "turn" (dCons (dCall lenP (dCons (dName "shares") dNil)) dNil) (dSeq (dAssign "fitting" (dList dNil))
 (dSeq (dFor "place" (dOp getP (dName "shares") (dName "turn")) (dSeq (dIf (dOrT (dTest (dOp (inP id) (dTup (dCons (dVal (.str (Str.ofString "var"))) dNil)) (dTup (dCons (dOp getP (dName "keys") (dName "place")) (dCons (dName "call") dNil))))) (dOrT (dTest (dOp (eqP id) (dOp getP (dName "keys") (dName "place")) (dName "call"))) dOrNil)) (dSeq (dExpr (dAppend (dName "fitting") (dName "place")))
 dEnd) dEnd)
 dEnd))
 (dSeq (dAssign "due" (dOp addP (dName "due") (dName "fitting")))
 (dSeq (dIf (dAndT (dTest (dOp gtP (dCall lenP (dCons (dName "fitting") dNil)) (dVal (.int 1)))) (dAndT (dTest (dOp ltP (dOp addP (dName "turn") (dVal (.int 1))) (dCall lenP (dCons (dName "shares") dNil)))) dAndNil)) (dSeq (dAssign "most" (dVal (.int 2)))
 dEnd) dEnd)
 dEnd)))))
 (dSeq (dIf (dAndT (dTest (dOp gtP (dName "many") (dVal (.int 1)))) (dAndT (dTest (dOp (eqP not) (dCall F_tried_clauses (dCons (dName "block") (dCons (dName "many") (dCons (dName "call") dNil)))) (dName "due"))) dAndNil)) (dSeq (dRet (dVal (.bool false)))
 dEnd) dEnd)
 (dSeq (dIf (dTest (dOp (eqP not) (dCall F_law_met (dCons (dName "code") (dCons (dName "low") (dCons (dName "wide") (dCons (dName "call") dNil))))) (dTup (dCons (dName "due") (dCons (dName "most") dNil))))) (dSeq (dRet (dVal (.bool false)))
 dEnd) dEnd)
 dEnd))))))
 (dSeq (dRet (dVal (.bool true)))
 dEnd)))))))))))))))))))
theorem w_law (G : Gd prog w (KH w) B) {F_law_met : FWP} (h_law_met : FnOk prog w B 2 342 F_law_met) {F_tried_clauses : FWP} (h_tried_clauses : FnOk prog w B 2 161 F_tried_clauses) {F_assemble : FWP} (h_assemble : FnOk prog w B 8 307 F_assemble) {F_law_draw : FWP} (h_law_draw : FnOk prog w B 1 321 F_law_draw) {F_finish : FWP} (h_finish : FnOk prog w B 2 126 F_finish) {F_switch : FWP} (h_switch : FnOk prog w B 4 119 F_switch) {F_chain_rows : FWP} (h_chain_rows : FnOk prog w B 1 84 F_chain_rows) {F_fresh_label : FWP} (h_fresh_label : FnOk prog w B 1 77 F_fresh_label) {F_BlockBuilder_init : FWP} (h_BlockBuilder_init : FnOk prog w B 1 70 F_BlockBuilder_init) {F_ClauseCode_init : FWP} (h_ClauseCode_init : FnOk prog w B 1 175 F_ClauseCode_init) {F_law_key_drawn : FWP} (h_law_key_drawn : FnOk prog w B 2 328 F_law_key_drawn) {F_law_figures : FWP} (h_law_figures : FnOk prog w B 1 314 F_law_figures) (nm : Str) (L a : Addr) (cd : Value) : SsOk prog w B 8 (envOfC nm (fdAt (KH w) 347).scope L a cd) (bodyOf (fdAt (KH w) 347)) (d_law F_law_met F_tried_clauses F_assemble F_law_draw F_finish F_switch F_chain_rows F_fresh_label F_BlockBuilder_init F_ClauseCode_init F_law_key_drawn F_law_figures) := by
  have X : EnvOk (envOfC nm (fdAt (KH w) 347).scope L a cd) := ⟨by kernel_rfl, rfl, rfl⟩
  have CO : CellsOk (envOfC nm (fdAt (KH w) 347).scope L a cd) := CellsOk.of (cn := ["builder", "bits", "figures"]) (L := L) (by kernel_rfl)
  have k_call : KO (envOfC nm (fdAt (KH w) 347).scope L a cd) "call" .local := by kernel_rfl
  have k_wide : KO (envOfC nm (fdAt (KH w) 347).scope L a cd) "wide" .local := by kernel_rfl
  have k_low : KO (envOfC nm (fdAt (KH w) 347).scope L a cd) "low" .local := by kernel_rfl
  have k_code : KO (envOfC nm (fdAt (KH w) 347).scope L a cd) "code" .local := by kernel_rfl
  have g_law_met : KO (envOfC nm (fdAt (KH w) 347).scope L a cd) "_law_met" .globalImplicit := by kernel_rfl
  have k_most : KO (envOfC nm (fdAt (KH w) 347).scope L a cd) "most" .local := by kernel_rfl
  have k_due : KO (envOfC nm (fdAt (KH w) 347).scope L a cd) "due" .local := by kernel_rfl
  have k_many : KO (envOfC nm (fdAt (KH w) 347).scope L a cd) "many" .local := by kernel_rfl
  have k_block : KO (envOfC nm (fdAt (KH w) 347).scope L a cd) "block" .local := by kernel_rfl
  have g_tried_clauses : KO (envOfC nm (fdAt (KH w) 347).scope L a cd) "tried_clauses" .globalImplicit := by kernel_rfl
  have k_turn : KO (envOfC nm (fdAt (KH w) 347).scope L a cd) "turn" .local := by kernel_rfl
  have k_shares : KO (envOfC nm (fdAt (KH w) 347).scope L a cd) "shares" .local := by kernel_rfl
  have g_len : KO (envOfC nm (fdAt (KH w) 347).scope L a cd) "len" .globalImplicit := by kernel_rfl
  have k_fitting : KO (envOfC nm (fdAt (KH w) 347).scope L a cd) "fitting" .local := by kernel_rfl
  have k_keys : KO (envOfC nm (fdAt (KH w) 347).scope L a cd) "keys" .local := by kernel_rfl
  have k_place : KO (envOfC nm (fdAt (KH w) 347).scope L a cd) "place" .local := by kernel_rfl
  have g_range : KO (envOfC nm (fdAt (KH w) 347).scope L a cd) "range" .globalImplicit := by kernel_rfl
  have k_calls : KO (envOfC nm (fdAt (KH w) 347).scope L a cd) "calls" .local := by kernel_rfl
  have k_key : KO (envOfC nm (fdAt (KH w) 347).scope L a cd) "key" .local := by kernel_rfl
  have g_INT : KO (envOfC nm (fdAt (KH w) 347).scope L a cd) "INT" .globalImplicit := by kernel_rfl
  have g_assemble : KO (envOfC nm (fdAt (KH w) 347).scope L a cd) "assemble" .globalImplicit := by kernel_rfl
  have k_figures : KO (envOfC nm (fdAt (KH w) 347).scope L a cd) "figures" .cell := by kernel_rfl
  have c_figures : (Env.cells (envOfC nm (fdAt (KH w) 347).scope L a cd)).lookup (Str.ofString "figures") = some (L + 1) := by kernel_rfl
  have g_law_draw : KO (envOfC nm (fdAt (KH w) 347).scope L a cd) "_law_draw" .globalImplicit := by kernel_rfl
  have k_builder : KO (envOfC nm (fdAt (KH w) 347).scope L a cd) "builder" .cell := by kernel_rfl
  have c_builder : (Env.cells (envOfC nm (fdAt (KH w) 347).scope L a cd)).lookup (Str.ofString "builder") = some (L + 3) := by kernel_rfl
  have g_list : KO (envOfC nm (fdAt (KH w) 347).scope L a cd) "list" .globalImplicit := by kernel_rfl
  have k_marks : KO (envOfC nm (fdAt (KH w) 347).scope L a cd) "marks" .local := by kernel_rfl
  have k_row : KO (envOfC nm (fdAt (KH w) 347).scope L a cd) "row" .local := by kernel_rfl
  have k_codes : KO (envOfC nm (fdAt (KH w) 347).scope L a cd) "codes" .local := by kernel_rfl
  have g_BlockBuilder : KO (envOfC nm (fdAt (KH w) 347).scope L a cd) "BlockBuilder" .globalImplicit := by kernel_rfl
  have c_bits : (Env.cells (envOfC nm (fdAt (KH w) 347).scope L a cd)).lookup (Str.ofString "bits") = some (L + 2) := by kernel_rfl
  have k_bits : KO (envOfC nm (fdAt (KH w) 347).scope L a cd) "bits" .cell := by kernel_rfl
  have g_ClauseCode : KO (envOfC nm (fdAt (KH w) 347).scope L a cd) "ClauseCode" .globalImplicit := by kernel_rfl
  have k_script : KO (envOfC nm (fdAt (KH w) 347).scope L a cd) "script" .local := by kernel_rfl
  have g_law_figures : KO (envOfC nm (fdAt (KH w) 347).scope L a cd) "_law_figures" .globalImplicit := by kernel_rfl
  have st_most : StoreOk (envOfC nm (fdAt (KH w) 347).scope L a cd) "most" := .loc k_most (by kernel_rfl)
  have st_due : StoreOk (envOfC nm (fdAt (KH w) 347).scope L a cd) "due" := .loc k_due (by kernel_rfl)
  have st_place : StoreOk (envOfC nm (fdAt (KH w) 347).scope L a cd) "place" := .loc k_place (by kernel_rfl)
  have st_fitting : StoreOk (envOfC nm (fdAt (KH w) 347).scope L a cd) "fitting" := .loc k_fitting (by kernel_rfl)
  have st_turn : StoreOk (envOfC nm (fdAt (KH w) 347).scope L a cd) "turn" := .loc k_turn (by kernel_rfl)
  have st_call : StoreOk (envOfC nm (fdAt (KH w) 347).scope L a cd) "call" := .loc k_call (by kernel_rfl)
  have st_key : StoreOk (envOfC nm (fdAt (KH w) 347).scope L a cd) "key" := .loc k_key (by kernel_rfl)
  have st_calls : StoreOk (envOfC nm (fdAt (KH w) 347).scope L a cd) "calls" := .loc k_calls (by kernel_rfl)
  have st_code : StoreOk (envOfC nm (fdAt (KH w) 347).scope L a cd) "code" := .loc k_code (by kernel_rfl)
  have st_low : StoreOk (envOfC nm (fdAt (KH w) 347).scope L a cd) "low" := .loc k_low (by kernel_rfl)
  have st_block : StoreOk (envOfC nm (fdAt (KH w) 347).scope L a cd) "block" := .loc k_block (by kernel_rfl)
  have st_row : StoreOk (envOfC nm (fdAt (KH w) 347).scope L a cd) "row" := .loc k_row (by kernel_rfl)
  have st_marks : StoreOk (envOfC nm (fdAt (KH w) 347).scope L a cd) "marks" := .loc k_marks (by kernel_rfl)
  have st_builder : StoreOk (envOfC nm (fdAt (KH w) 347).scope L a cd) "builder" := .cell k_builder c_builder CO
  have st_bits : StoreOk (envOfC nm (fdAt (KH w) 347).scope L a cd) "bits" := .cell k_bits c_bits CO
  have st_shares : StoreOk (envOfC nm (fdAt (KH w) 347).scope L a cd) "shares" := .loc k_shares (by kernel_rfl)
  have st_codes : StoreOk (envOfC nm (fdAt (KH w) 347).scope L a cd) "codes" := .loc k_codes (by kernel_rfl)
  have st_keys : StoreOk (envOfC nm (fdAt (KH w) 347).scope L a cd) "keys" := .loc k_keys (by kernel_rfl)
  have st_many : StoreOk (envOfC nm (fdAt (KH w) 347).scope L a cd) "many" := .loc k_many (by kernel_rfl)
  have st_wide : StoreOk (envOfC nm (fdAt (KH w) 347).scope L a cd) "wide" := .loc k_wide (by kernel_rfl)
  have st_figures : StoreOk (envOfC nm (fdAt (KH w) 347).scope L a cd) "figures" := .cell k_figures c_figures CO
  show SsOk prog w B 8 _ (_ :: _ :: _ :: _ :: _ :: _ :: _ :: _ :: _ :: _ :: _ :: _ :: _ :: _ :: _ :: _ :: _ :: _ :: _ :: []) _
  refine (SsOk.cons ?_ (SsOk.cons ?_ (SsOk.cons ?_ (SsOk.cons ?_ (SsOk.cons ?_ (SsOk.cons ?_ (SsOk.cons ?_ (SsOk.cons ?_ (SsOk.cons ?_ (SsOk.cons ?_ (SsOk.cons ?_ (SsOk.cons ?_ (SsOk.cons ?_ (SsOk.cons ?_ (SsOk.cons ?_ (SsOk.cons ?_ (SsOk.cons ?_ (SsOk.cons ?_ (SsOk.cons ?_ SsOk.nil)))))))))))))))))))
  · exact (SOk.assign (EOk.callG (f := 314) G X h_law_figures (by decide) g_law_figures ns_law_figures kf_314 (EsOk.cons (EOk.local X.kind k_script nd_script) EsOk.nil (by kernel_rfl)) (ArgsOk.cons (by kernel_rfl) (by kernel_rfl)) nd_law_figures (arm_eval_Call_Name' _ _ _ _ _ _)) st_figures X.kind (by kernel_rfl))
  · exact (SOk.assign (EOk.bin add_ok EOk.cint (EOk.callG (f := 321) G X h_law_draw (by decide) g_law_draw ns_law_draw kf_321 (EsOk.cons (EOk.cell (c := L + 1) X.kind k_figures c_figures nd_figures) (EsOk.cons EOk.cint EsOk.nil (by kernel_rfl)) (by kernel_rfl)) (ArgsOk.cons (by kernel_rfl) (by kernel_rfl)) nd_law_draw (arm_eval_Call_Name' _ _ _ _ _ _))) st_wide X.kind (by kernel_rfl))
  · exact (SOk.assign (EOk.sub (EOk.list (EsOk.cons EOk.cint (EsOk.cons EOk.cint (EsOk.cons EOk.cint (EsOk.cons EOk.cint (EsOk.cons EOk.cint EsOk.nil (by kernel_rfl)) (by kernel_rfl)) (by kernel_rfl)) (by kernel_rfl)) (by kernel_rfl))) (EOk.callG (f := 321) G X h_law_draw (by decide) g_law_draw ns_law_draw kf_321 (EsOk.cons (EOk.cell (c := L + 1) X.kind k_figures c_figures nd_figures) (EsOk.cons EOk.cint EsOk.nil (by kernel_rfl)) (by kernel_rfl)) (ArgsOk.cons (by kernel_rfl) (by kernel_rfl)) nd_law_draw (arm_eval_Call_Name' _ _ _ _ _ _)) (fun _ _ => by kernel_rfl)) st_many X.kind (by kernel_rfl))
  · exact (SOk.compX X (ItOk.range G X rfl g_range ns_range (EsOk.cons (EOk.local X.kind k_many nd_many) EsOk.nil (by kernel_rfl)) (ArgsOk.cons (by kernel_rfl) (by kernel_rfl)) (arm_eval_Call_Name' _ _ _ _ _ _)) (CompScope.of (cl := ((Str.ofString "figures", L + 1) :: [])) (by kernel_rfl) (by kernel_rfl) (CL.cons c_figures CL.nil)) (fun C X => TsOk.nil) (fun C X => (EOk.callG (f := 328) G X h_law_key_drawn (by decide) (by kernel_rfl) ns_law_key_drawn kf_328 (EsOk.cons (EOk.cell (c := L + 1) X.kind (by kernel_rfl) (by kernel_rfl) nd_figures) EsOk.nil (by kernel_rfl)) (ArgsOk.cons (by kernel_rfl) (by kernel_rfl)) nd_law_key_drawn (arm_eval_Call_Name' _ _ _ _ _ _))) st_keys (by kernel_rfl) (fun _ => by kernel_rfl))
  · exact (SOk.assign (EOk.list EsOk.nil) st_codes X.kind (by kernel_rfl))
  · refine SOk.forR G X rfl g_range ns_range (EsOk.cons (EOk.local X.kind k_many nd_many) EsOk.nil (by kernel_rfl)) (ArgsOk.cons (by kernel_rfl) (by kernel_rfl)) ?_ st_place (arm_eval_Call_Name' _ _ _ _ _ _) (fun _ => by kernel_rfl)
    · refine (SsOk.cons ?_ SsOk.nil)
      · exact (SOk.expr (EOk.append (EOk.local X.kind k_codes nd_codes) (EOk.callC (C := 178) G X h_ClauseCode_init (by decide) no_ClauseCode g_ClauseCode ns_ClauseCode kf_178 (EsOk.cons EOk.cint (EsOk.cons (EOk.sub (EOk.local X.kind k_keys nd_keys) (EOk.local X.kind k_place nd_place) (fun _ _ => by kernel_rfl)) (EsOk.cons (EOk.list (EsOk.cons (EOk.tup (EsOk.cons EOk.cstr (EsOk.cons (EOk.local X.kind k_place nd_place) EsOk.nil (by kernel_rfl)) (by kernel_rfl))) EsOk.nil (by kernel_rfl))) (EsOk.cons (EOk.local X.kind k_wide nd_wide) EsOk.nil (by kernel_rfl)) (by kernel_rfl)) (by kernel_rfl)) (by kernel_rfl)) (ArgsOk.cons (by kernel_rfl) (by kernel_rfl)) nd_ClauseCode (arm_eval_Call_Name' _ _ _ _ _ _)) (by kernel_rfl) (methForm (by kernel_rfl) (by kernel_rfl) (by kernel_rfl))) X.kind (by kernel_rfl))
  · exact (SOk.assign (EOk.list EsOk.nil) st_shares X.kind (by kernel_rfl))
  · refine SOk.forR G X rfl g_range ns_range (EsOk.cons (EOk.bin add_ok EOk.cint (EOk.callG (f := 321) G X h_law_draw (by decide) g_law_draw ns_law_draw kf_321 (EsOk.cons (EOk.cell (c := L + 1) X.kind k_figures c_figures nd_figures) (EsOk.cons EOk.cint EsOk.nil (by kernel_rfl)) (by kernel_rfl)) (ArgsOk.cons (by kernel_rfl) (by kernel_rfl)) nd_law_draw (arm_eval_Call_Name' _ _ _ _ _ _))) EsOk.nil (by kernel_rfl)) (ArgsOk.cons (by kernel_rfl) (by kernel_rfl)) ?_ st_turn (arm_eval_Call_Name' _ _ _ _ _ _) (fun _ => by kernel_rfl)
    · refine (SsOk.cons ?_ (SsOk.cons ?_ SsOk.nil))
      · exact (SOk.assign (EOk.bin sub_ok EOk.cint (EOk.callG (f := 321) G X h_law_draw (by decide) g_law_draw ns_law_draw kf_321 (EsOk.cons (EOk.cell (c := L + 1) X.kind k_figures c_figures nd_figures) (EsOk.cons EOk.cint EsOk.nil (by kernel_rfl)) (by kernel_rfl)) (ArgsOk.cons (by kernel_rfl) (by kernel_rfl)) nd_law_draw (arm_eval_Call_Name' _ _ _ _ _ _))) st_bits X.kind (by kernel_rfl))
      · exact (SOk.expr (EOk.append (EOk.local X.kind k_shares nd_shares) (EOk.compX X (ItOk.range G X rfl g_range ns_range (EsOk.cons (EOk.local X.kind k_many nd_many) EsOk.nil (by kernel_rfl)) (ArgsOk.cons (by kernel_rfl) (by kernel_rfl)) (arm_eval_Call_Name' _ _ _ _ _ _)) (CompScope.of (cl := ((Str.ofString "bits", L + 2) :: [])) (by kernel_rfl) (by kernel_rfl) (CL.cons c_bits CL.nil)) (fun C X => (TsOk.one (TOk.cmp eq_ok (EOk.bin and_ok (EOk.bin shr_ok (EOk.cell (c := L + 2) X.kind (by kernel_rfl) (by kernel_rfl) nd_bits) (EOk.local X.kind (by kernel_rfl) nd_place)) EOk.cint) EOk.cint (by kernel_rfl)))) (fun C X => (EOk.local X.kind (by kernel_rfl) nd_place)) (fun _ => by kernel_rfl)) (by kernel_rfl) (methForm (by kernel_rfl) (by kernel_rfl) (by kernel_rfl))) X.kind (by kernel_rfl))
  · exact (SOk.assign (EOk.callC (C := 129) G X h_BlockBuilder_init (by decide) no_BlockBuilder g_BlockBuilder ns_BlockBuilder kf_129 (EsOk.cons (EOk.local X.kind k_wide nd_wide) (EsOk.cons (EOk.local X.kind k_codes nd_codes) EsOk.nil (by kernel_rfl)) (by kernel_rfl)) (ArgsOk.cons (by kernel_rfl) (by kernel_rfl)) nd_BlockBuilder (arm_eval_Call_Name' _ _ _ _ _ _)) st_builder X.kind (by kernel_rfl))
  · exact (SOk.compX X (ItOk.list (EOk.local X.kind k_shares nd_shares)) (CompScope.of (cl := ((Str.ofString "builder", L + 3) :: [])) (by kernel_rfl) (by kernel_rfl) (CL.cons c_builder CL.nil)) (fun C X => TsOk.nil) (fun C X => (EOk.callM (C := 129) (f := 77) G h_fresh_label (by decide) mo_fresh_label (EOk.cell (c := L + 3) X.kind (by kernel_rfl) (by kernel_rfl) nd_builder) EsOk.nil ArgsOk.nil (methForm (by kernel_rfl) (by kernel_rfl) (by kernel_rfl)))) st_marks (by kernel_rfl) (fun _ => by kernel_rfl))
  · refine SOk.for (EOk.callM (C := 129) (f := 84) G h_chain_rows (by decide) mo_chain_rows (EOk.cell (c := L + 3) X.kind k_builder c_builder nd_builder) (EsOk.cons (EOk.local X.kind k_marks nd_marks) EsOk.nil (by kernel_rfl)) (ArgsOk.cons (by kernel_rfl) (by kernel_rfl)) (methForm (by kernel_rfl) (by kernel_rfl) (by kernel_rfl))) ?_ st_row X.kind (fun _ => by kernel_rfl)
    · refine (SsOk.cons ?_ SsOk.nil)
      · exact (SOk.expr (EOk.append (EOk.attr (C := 129) G (EOk.cell (c := L + 3) X.kind k_builder c_builder nd_builder) at_rows (by kernel_rfl)) (EOk.local X.kind k_row nd_row) (by kernel_rfl) (methForm (by kernel_rfl) (by kernel_rfl) (by kernel_rfl))) X.kind (by kernel_rfl))
  · refine SOk.forR G X rfl g_range ns_range (EsOk.cons (EOk.callB (f := .builtin "len") G X len_ok g_len ns_len bt_len nb_len kp_len (EsOk.cons (EOk.local X.kind k_shares nd_shares) EsOk.nil (by kernel_rfl)) (ArgsOk.cons (by kernel_rfl) (by kernel_rfl)) nd_len (arm_eval_Call_Name' _ _ _ _ _ _)) EsOk.nil (by kernel_rfl)) (ArgsOk.cons (by kernel_rfl) (by kernel_rfl)) ?_ st_turn (arm_eval_Call_Name' _ _ _ _ _ _) (fun _ => by kernel_rfl)
    · refine (SsOk.cons ?_ (SsOk.cons ?_ SsOk.nil))
      · exact (SOk.expr (EOk.append (EOk.attr (C := 129) G (EOk.cell (c := L + 3) X.kind k_builder c_builder nd_builder) at_rows (by kernel_rfl)) (EOk.tup (EsOk.cons EOk.cstr (EsOk.cons (EOk.sub (EOk.local X.kind k_marks nd_marks) (EOk.local X.kind k_turn nd_turn) (fun _ _ => by kernel_rfl)) EsOk.nil (by kernel_rfl)) (by kernel_rfl))) (by kernel_rfl) (methForm (by kernel_rfl) (by kernel_rfl) (by kernel_rfl))) X.kind (by kernel_rfl))
      · exact (SOk.expr (EOk.callM (C := 129) (f := 119) G h_switch (by decide) mo_switch (EOk.cell (c := L + 3) X.kind k_builder c_builder nd_builder) (EsOk.cons (EOk.callB (f := .type "list") G X list_ok g_list ns_list bt_list nb_list kp_list (EsOk.cons (EOk.sub (EOk.local X.kind k_shares nd_shares) (EOk.local X.kind k_turn nd_turn) (fun _ _ => by kernel_rfl)) EsOk.nil (by kernel_rfl)) (ArgsOk.cons (by kernel_rfl) (by kernel_rfl)) nd_list (arm_eval_Call_Name' _ _ _ _ _ _)) EsOk.nil (by kernel_rfl)) (ArgsOk.cons (by kernel_rfl) (by kernel_rfl)) (methForm (by kernel_rfl) (by kernel_rfl) (by kernel_rfl))) X.kind (by kernel_rfl))
  · exact (SOk.assign (EOk.callM (C := 129) (f := 126) G h_finish (by decide) mo_finish (EOk.cell (c := L + 3) X.kind k_builder c_builder nd_builder) EsOk.nil ArgsOk.nil (methForm (by kernel_rfl) (by kernel_rfl) (by kernel_rfl))) st_block X.kind (by kernel_rfl))
  · exact (SOk.assign (EOk.bin add_ok EOk.cint (EOk.callG (f := 321) G X h_law_draw (by decide) g_law_draw ns_law_draw kf_321 (EsOk.cons (EOk.cell (c := L + 1) X.kind k_figures c_figures nd_figures) (EsOk.cons EOk.cint EsOk.nil (by kernel_rfl)) (by kernel_rfl)) (ArgsOk.cons (by kernel_rfl) (by kernel_rfl)) nd_law_draw (arm_eval_Call_Name' _ _ _ _ _ _))) st_low X.kind (by kernel_rfl))
  · exact (SOk.assign (EOk.callG (f := 307) G X h_assemble (by decide) g_assemble ns_assemble kf_307 (EsOk.cons (EOk.local X.kind k_block nd_block) (EsOk.cons (EOk.local X.kind k_low nd_low) EsOk.nil (by kernel_rfl)) (by kernel_rfl)) (ArgsOk.cons (by kernel_rfl) (by kernel_rfl)) nd_assemble (arm_eval_Call_Name' _ _ _ _ _ _)) st_code X.kind (by kernel_rfl))
  · exact (SOk.assign (EOk.list (EsOk.cons (EOk.tup (EsOk.cons EOk.cstr EsOk.nil (by kernel_rfl))) (EsOk.cons (EOk.tup (EsOk.cons EOk.cstr EsOk.nil (by kernel_rfl))) (EsOk.cons (EOk.tup (EsOk.cons EOk.cstr (EsOk.cons (EOk.tup (EsOk.cons (EOk.globInt G X g_INT gi_INT nd_INT) (EsOk.cons (EOk.bin pow_ok EOk.cint EOk.cint) EsOk.nil (by kernel_rfl)) (by kernel_rfl))) EsOk.nil (by kernel_rfl)) (by kernel_rfl))) (EsOk.cons (EOk.tup (EsOk.cons EOk.cstr (EsOk.cons EOk.cint EsOk.nil (by kernel_rfl)) (by kernel_rfl))) EsOk.nil (by kernel_rfl)) (by kernel_rfl)) (by kernel_rfl)) (by kernel_rfl))) st_calls X.kind (by kernel_rfl))
  · refine SOk.for (EOk.local X.kind k_keys nd_keys) ?_ st_key X.kind (fun _ => by kernel_rfl)
    · refine (SsOk.cons ?_ SsOk.nil)
      · refine SOk.ite (TOk.cmp notIn_ok (EOk.local X.kind k_key nd_key) (EOk.local X.kind k_calls nd_calls) (by kernel_rfl)) ?_ ?_
        · refine (SsOk.cons ?_ SsOk.nil)
          · exact (SOk.expr (EOk.append (EOk.local X.kind k_calls nd_calls) (EOk.local X.kind k_key nd_key) (by kernel_rfl) (methForm (by kernel_rfl) (by kernel_rfl) (by kernel_rfl))) X.kind (by kernel_rfl))
        · exact SsOk.nil
  · refine SOk.for (EOk.local X.kind k_calls nd_calls) ?_ st_call X.kind (fun _ => by kernel_rfl)
    · refine (SsOk.cons ?_ (SsOk.cons ?_ (SsOk.cons ?_ (SsOk.cons ?_ (SsOk.cons ?_ SsOk.nil)))))
      · exact (SOk.assign (EOk.list EsOk.nil) st_due X.kind (by kernel_rfl))
      · exact (SOk.assign EOk.cint st_most X.kind (by kernel_rfl))
      · refine SOk.forR G X rfl g_range ns_range (EsOk.cons (EOk.callB (f := .builtin "len") G X len_ok g_len ns_len bt_len nb_len kp_len (EsOk.cons (EOk.local X.kind k_shares nd_shares) EsOk.nil (by kernel_rfl)) (ArgsOk.cons (by kernel_rfl) (by kernel_rfl)) nd_len (arm_eval_Call_Name' _ _ _ _ _ _)) EsOk.nil (by kernel_rfl)) (ArgsOk.cons (by kernel_rfl) (by kernel_rfl)) ?_ st_turn (arm_eval_Call_Name' _ _ _ _ _ _) (fun _ => by kernel_rfl)
        · refine (SsOk.cons ?_ (SsOk.cons ?_ (SsOk.cons ?_ (SsOk.cons ?_ SsOk.nil))))
          · exact (SOk.assign (EOk.list EsOk.nil) st_fitting X.kind (by kernel_rfl))
          · refine SOk.for (EOk.sub (EOk.local X.kind k_shares nd_shares) (EOk.local X.kind k_turn nd_turn) (fun _ _ => by kernel_rfl)) ?_ st_place X.kind (fun _ => by kernel_rfl)
            · refine (SsOk.cons ?_ SsOk.nil)
              · refine SOk.ite (TOk.bool (AllOk.or (TOk.cmp in_ok (EOk.tup (EsOk.cons EOk.cstr EsOk.nil (by kernel_rfl))) (EOk.tup (EsOk.cons (EOk.sub (EOk.local X.kind k_keys nd_keys) (EOk.local X.kind k_place nd_place) (fun _ _ => by kernel_rfl)) (EsOk.cons (EOk.local X.kind k_call nd_call) EsOk.nil (by kernel_rfl)) (by kernel_rfl))) (by kernel_rfl)) (AllOk.or (TOk.cmp eq_ok (EOk.sub (EOk.local X.kind k_keys nd_keys) (EOk.local X.kind k_place nd_place) (fun _ _ => by kernel_rfl)) (EOk.local X.kind k_call nd_call) (by kernel_rfl)) AllOk.orNil))) ?_ ?_
                · refine (SsOk.cons ?_ SsOk.nil)
                  · exact (SOk.expr (EOk.append (EOk.local X.kind k_fitting nd_fitting) (EOk.local X.kind k_place nd_place) (by kernel_rfl) (methForm (by kernel_rfl) (by kernel_rfl) (by kernel_rfl))) X.kind (by kernel_rfl))
                · exact SsOk.nil
          · exact (SOk.assign (EOk.bin add_ok (EOk.local X.kind k_due nd_due) (EOk.local X.kind k_fitting nd_fitting)) st_due X.kind (by kernel_rfl))
          · refine SOk.ite (TOk.bool (AllOk.and (TOk.cmp gt_ok (EOk.callB (f := .builtin "len") G X len_ok g_len ns_len bt_len nb_len kp_len (EsOk.cons (EOk.local X.kind k_fitting nd_fitting) EsOk.nil (by kernel_rfl)) (ArgsOk.cons (by kernel_rfl) (by kernel_rfl)) nd_len (arm_eval_Call_Name' _ _ _ _ _ _)) EOk.cint (by kernel_rfl)) (AllOk.and (TOk.cmp lt_ok (EOk.bin add_ok (EOk.local X.kind k_turn nd_turn) EOk.cint) (EOk.callB (f := .builtin "len") G X len_ok g_len ns_len bt_len nb_len kp_len (EsOk.cons (EOk.local X.kind k_shares nd_shares) EsOk.nil (by kernel_rfl)) (ArgsOk.cons (by kernel_rfl) (by kernel_rfl)) nd_len (arm_eval_Call_Name' _ _ _ _ _ _)) (by kernel_rfl)) AllOk.andNil))) ?_ ?_
            · refine (SsOk.cons ?_ SsOk.nil)
              · exact (SOk.assign EOk.cint st_most X.kind (by kernel_rfl))
            · exact SsOk.nil
      · refine SOk.ite (TOk.bool (AllOk.and (TOk.cmp gt_ok (EOk.local X.kind k_many nd_many) EOk.cint (by kernel_rfl)) (AllOk.and (TOk.cmp ne_ok (EOk.callG (f := 161) G X h_tried_clauses (by decide) g_tried_clauses ns_tried_clauses kf_161 (EsOk.cons (EOk.local X.kind k_block nd_block) (EsOk.cons (EOk.local X.kind k_many nd_many) (EsOk.cons (EOk.local X.kind k_call nd_call) EsOk.nil (by kernel_rfl)) (by kernel_rfl)) (by kernel_rfl)) (ArgsOk.cons (by kernel_rfl) (by kernel_rfl)) nd_tried_clauses (arm_eval_Call_Name' _ _ _ _ _ _)) (EOk.local X.kind k_due nd_due) (by kernel_rfl)) AllOk.andNil))) ?_ ?_
        · refine (SsOk.cons ?_ SsOk.nil)
          · exact (SOk.ret EOk.cbool)
        · exact SsOk.nil
      · refine SOk.ite (TOk.cmp ne_ok (EOk.callG (f := 342) G X h_law_met (by decide) g_law_met ns_law_met kf_342 (EsOk.cons (EOk.local X.kind k_code nd_code) (EsOk.cons (EOk.local X.kind k_low nd_low) (EsOk.cons (EOk.local X.kind k_wide nd_wide) (EsOk.cons (EOk.local X.kind k_call nd_call) EsOk.nil (by kernel_rfl)) (by kernel_rfl)) (by kernel_rfl)) (by kernel_rfl)) (ArgsOk.cons (by kernel_rfl) (by kernel_rfl)) nd_law_met (arm_eval_Call_Name' _ _ _ _ _ _)) (EOk.tup (EsOk.cons (EOk.local X.kind k_due nd_due) (EsOk.cons (EOk.local X.kind k_most nd_most) EsOk.nil (by kernel_rfl)) (by kernel_rfl))) (by kernel_rfl)) ?_ ?_
        · refine (SsOk.cons ?_ SsOk.nil)
          · exact (SOk.ret EOk.cbool)
        · exact SsOk.nil
  · exact (SOk.ret EOk.cbool)
end
end Mine
namespace Mine
open PySem PySem.W PySem.Calls PyProof.Rows PySem.Spec
section
variable {σ : Sto} {ρ : PEnv}
theorem truP_b {b : Bool} {Q : Bool → Sto → Prop} : truP (.bool b) σ Q = Q b σ := rfl
theorem addP_i {a b : Int} {Q : PV → Sto → Prop} : addP (.int a) (.int b) σ Q = Q (.int (a + b)) σ := rfl
theorem subP_i {a b : Int} {Q : PV → Sto → Prop} : subP (.int a) (.int b) σ Q = Q (.int (a - b)) σ := rfl
theorem ltP_i {a b : Int} {Q : PV → Sto → Prop} : ltP (.int a) (.int b) σ Q = Q (.bool (decide (a < b))) σ := rfl
theorem gtP_i {a b : Int} {Q : PV → Sto → Prop} : gtP (.int a) (.int b) σ Q = Q (.bool (decide (b < a))) σ := rfl
theorem geP_i {a b : Int} {Q : PV → Sto → Prop} : geP (.int a) (.int b) σ Q = Q (.bool (decide (b ≤ a))) σ := rfl
theorem iaddP_i {a b : Int} {Q : PV → Sto → Prop} : iaddP (.int a) (.int b) σ Q = Q (.int (a + b)) σ := rfl
theorem negP_i {a : Int} {Q : PV → Sto → Prop} : negP (.int a) σ Q = Q (.int (-a)) σ := rfl
theorem swP_s {x y : Str} {Q : PV → Sto → Prop} : swP (.str x) (.str y) σ Q = Q (.bool (Txt.startswith x y)) σ := rfl
theorem maxP_i {a b : Int} {Q : PV → Sto → Prop} : maxP [.int a, .int b] σ Q = Q (.int (if b > a then b else a)) σ := rfl
theorem isP_nn {Q : PV → Sto → Prop} : isP .none .none σ Q = Q (.bool true) σ := rfl
theorem isP_rn {a : Addr} {Q : PV → Sto → Prop} : isP (.ref a) .none σ Q = Q (.bool false) σ := rfl
theorem plainK_n {P : Prop} : plainK .none P = P := rfl
theorem plainK_b {b : Bool} {P : Prop} : plainK (.bool b) P = P := rfl
theorem plainK_i {b : Int} {P : Prop} : plainK (.int b) P = P := rfl
theorem plainK_s {b : Str} {P : Prop} : plainK (.str b) P = P := rfl
theorem fnEnd_r {v : PV} {Q : PV → Sto → Prop} : fnEnd Q (.ret v) ρ σ = Q v σ := rfl
theorem fnEnd_n {Q : PV → Sto → Prop} : fnEnd Q .next ρ σ = Q .none σ := rfl
end
inductive Key where
  | var | list
  | struct (n : Int)
  | const (t v : Int)
  deriving DecidableEq
noncomputable abbrev sv (x : String) : PV := .str (Str.ofString x)
noncomputable def kv : Key → PV
  | .var => .tup [sv "var"]
  | .list => .tup [sv "list"]
  | .struct n => .tup [sv "struct", .int n]
  | .const t v => .tup [sv "const", .tup [.int t, .int v]]
theorem kv_var : PV.tup [.str (Str.ofString "var")] = kv .var := rfl
theorem kv_list : PV.tup [.str (Str.ofString "list")] = kv .list := rfl
noncomputable abbrev sd (x : String) : PyData := .str (Str.ofString x)
noncomputable def kd : Key → PyData
  | .var => .tuple [sd "var"]
  | .list => .tuple [sd "list"]
  | .struct n => .tuple [sd "struct", .int n]
  | .const t v => .tuple [sd "const", .tuple [.int t, .int v]]
theorem so_var : PyData.strOk (Str.ofString "var") = true := by kernel_rfl
theorem so_list : PyData.strOk (Str.ofString "list") = true := by kernel_rfl
theorem so_struct : PyData.strOk (Str.ofString "struct") = true := by kernel_rfl
theorem so_const : PyData.strOk (Str.ofString "const") = true := by kernel_rfl
theorem deep_kv (σ : Sto) (k : Key) : deep σ (kv k) = some (kd k) := by
  cases k <;> simp [kv, kd, deep, deeps, so_var, so_list, so_struct, so_const]
theorem shal_int (n : Nat) (i : Int) : shal n (.int i) = true := by cases n <;> rfl
theorem shal_str (n : Nat) (i : Str) : shal n (.str i) = true := by cases n <;> rfl
theorem shal_ref (n : Nat) (i : Addr) : shal n (.ref i) = true := by cases n <;> rfl
theorem shal_kv (n : Nat) (k : Key) : shal (n + 2) (kv k) = true := by
  cases k with
  | const t v =>
    show (shal (n+1) (sv "const") && (shal (n + 1) (.tup [.int t, .int v]) && true)) = true
    show (shal (n+1) (sv "const") && ((shal n (.int t) && (shal n (.int v) && true)) && true)) = true
    rw [shal_int, shal_int, shal_str]; rfl
  | _ => rfl
theorem sbeq (a b : String) : (Str.ofString a == Str.ofString b) = decide (a = b) := by
  by_cases h : a = b
  · subst h; simp
  · rw [decide_eq_false h, beq_eq_false_iff_ne]; exact ofString_ne h
theorem eqv_kd (a b : Key) : PyData.eqv (kd a) (kd b) = decide (a = b) := by
  cases a <;> cases b <;> simp [kd, PyData.eqv, PyData.eqvAll, Bool.beq_eq_decide_eq, ofString_eq_iff]
theorem eqP_of {f : Bool → Bool} {a b : PV} {da db : PyData} {σ : Sto} {Q : PV → Sto → Prop} (h1 : deep σ a = some da) (h2 : deep σ b = some db) (h3 : shal 8 a = true) (h4 : shal 8 b = true) : eqP f a b σ Q = Q (.bool (f (PyData.eqv da db))) σ := by
  apply propext
  constructor
  · rintro ⟨x, y, e1, e2, _, _, q⟩
    rw [h1] at e1; rw [h2] at e2; cases e1; cases e2; exact q
  · exact fun q => ⟨da, db, h1, h2, h3, h4, q⟩
theorem eqP_kv {f : Bool → Bool} {a b : Key} {σ : Sto} {Q : PV → Sto → Prop} : eqP f (kv a) (kv b) σ Q = Q (.bool (f (decide (a = b)))) σ := by
  rw [eqP_of (deep_kv σ a) (deep_kv σ b) (shal_kv 6 a) (shal_kv 6 b), eqv_kd]
theorem eqP_int {f : Bool → Bool} {a b : Int} {σ : Sto} {Q : PV → Sto → Prop} : eqP f (.int a) (.int b) σ Q = Q (.bool (f (decide (a = b)))) σ := by
  rw [eqP_of (da := .int a) (db := .int b) (by simp [deep]) (by simp [deep]) rfl rfl]
  have : PyData.eqv (.int a) (.int b) = decide (a = b) := by simp [PyData.eqv, Bool.beq_eq_decide_eq]
  rw [this]
theorem seq_end (a : SWP) : dSeq a dEnd = a := by
  funext ρ σ K
  have : (fun (f : PFlow) (ρ : PEnv) (σ : Sto) => match f with
    | .next => dEnd ρ σ K
    | .brk => K .brk ρ σ
    | .cont => K .cont ρ σ
    | .ret v => K (.ret v) ρ σ) = K := by
    funext f ρ σ
    cases f <;> rfl
  show a ρ σ _ = a ρ σ K
  exact congrArg (a ρ σ) this
theorem seq_assign {x : String} {d : EWP} {b : SWP} {ρ : PEnv} {σ : Sto} {K : PFlow → PEnv → Sto → Prop} : dSeq (dAssign x d) b ρ σ K = d ρ σ fun v σ => b (ρ.set x v) σ K := rfl
theorem seq_expr {d : EWP} {b : SWP} {ρ : PEnv} {σ : Sto} {K : PFlow → PEnv → Sto → Prop} : dSeq (dExpr d) b ρ σ K = d ρ σ fun v σ => plainK v (b ρ σ K) := rfl
theorem seq_next {a b : SWP} {ρ ρ' : PEnv} {σ σ' : Sto} {K : PFlow → PEnv → Sto → Prop} (h : ∀ Q : PFlow → PEnv → Sto → Prop, Q .next ρ' σ' → a ρ σ Q) (h2 : b ρ' σ' K) : dSeq a b ρ σ K := h _ h2
theorem seq_if {t : TWP} {A B : SWP} {ρ : PEnv} {σ : Sto} {K : PFlow → PEnv → Sto → Prop} (c : Bool) (ht : ∀ Q : Bool → Sto → Prop, t ρ σ Q = Q c σ) : dSeq (dIf t A dEnd) B ρ σ K = if c = true then dSeq A B ρ σ K else B ρ σ K := by
  rw [dSeq, dIf, ht]; cases c <;> rfl
theorem seq_no {t : TWP} {A B : SWP} {ρ : PEnv} {σ : Sto} {K : PFlow → PEnv → Sto → Prop} (ht : ∀ Q : Bool → Sto → Prop, t ρ σ Q = Q false σ) : dSeq (dIf t A dEnd) B ρ σ K = B ρ σ K := by
  rw [dSeq, dIf, ht]; rfl
theorem seq_yes {t : TWP} {A B : SWP} {ρ : PEnv} {σ : Sto} {K : PFlow → PEnv → Sto → Prop} (ht : ∀ Q : Bool → Sto → Prop, t ρ σ Q = Q true σ) : dSeq (dIf t A dEnd) B ρ σ K = dSeq A B ρ σ K := by
  rw [dSeq, dIf, ht]; rfl
theorem ret_seq {d : EWP} {A B : SWP} {ρ : PEnv} {σ : Sto} {K : PFlow → PEnv → Sto → Prop} : dSeq (dSeq (dRet d) A) B ρ σ K = d ρ σ fun v σ => K (.ret v) ρ σ := rfl
theorem ret_seq1 {d : EWP} {A : SWP} {ρ : PEnv} {σ : Sto} {K : PFlow → PEnv → Sto → Prop} : dSeq (dRet d) A ρ σ K = d ρ σ fun v σ => K (.ret v) ρ σ := rfl
theorem name_at {x : String} {v : PV} {ρ : PEnv} {σ : Sto} {Q : PV → Sto → Prop} (e : ρ x = some v) : dName x ρ σ Q = Q v σ := by rw [dName, e]
theorem seqIndex_natI (i n : Nat) (h : i < n) : seqIndex? (i : Int) n = some i := by rw [seqIndex_nat, if_pos h]
theorem seqP_at {l : List PV} {i : Nat} {v : PV} (h : l[i]? = some v) (hi : i < 2 ^ 62) {σ : Sto} {Q : PV → Sto → Prop} : seqP l (i : Int) σ Q = Q v σ := by
  have hlt : i < l.length := (List.getElem?_eq_some_iff.mp h).1
  apply propext
  unfold seqP
  rw [seqIndex_natI i _ hlt]
  constructor
  · rintro ⟨_, _, u, hu, q⟩
    simp only [Option.bind_some, h, Option.some.injEq] at hu
    exact hu ▸ q
  · exact fun q => ⟨by lia, by lia, v, by simpa using h, q⟩
theorem seqP0 {a : PV} {l : List PV} {σ : Sto} {Q : PV → Sto → Prop} : seqP (a :: l) 0 σ Q = Q a σ := seqP_at (i := 0) rfl (by decide)
theorem seqP1 {a b : PV} {l : List PV} {σ : Sto} {Q : PV → Sto → Prop} : seqP (a :: b :: l) 1 σ Q = Q b σ := seqP_at (i := 1) rfl (by decide)
theorem seqP2 {a b c : PV} {l : List PV} {σ : Sto} {Q : PV → Sto → Prop} : seqP (a :: b :: c :: l) 2 σ Q = Q c σ := seqP_at (i := 2) rfl (by decide)
theorem seqP3 {a b c d : PV} {l : List PV} {σ : Sto} {Q : PV → Sto → Prop} : seqP (a :: b :: c :: d :: l) 3 σ Q = Q d σ := seqP_at (i := 3) rfl (by decide)
theorem seqP4 {a b c d e : PV} {l : List PV} {σ : Sto} {Q : PV → Sto → Prop} : seqP (a :: b :: c :: d :: e :: l) 4 σ Q = Q e σ := seqP_at (i := 4) rfl (by decide)
noncomputable def matchK (k c : Key) : Bool := k = .var || c = .var || k = c
inductive S_matching (args : List PV) (σ : Sto) (Q : PV → Sto → Prop) : Prop
  | mk : ∀ k c, (args = [kv k, kv c]) → (Q (.bool (matchK k c)) σ) → S_matching args σ Q
theorem s_matching : ∀ args σ Q, S_matching args σ Q → fnP ["key", "cell_key"] d_matching args σ Q := by
  rintro args σ Q ⟨k, c, rfl, h⟩
  refine ⟨rfl, ?_⟩
  simp only [d_matching, dSeq, dIf, dOrT, dOrNil, dTest, dOp, dName, dVal, dRet, dEnd, bindEnv, PEnv.set_b, if_true, if_false, fnEnd_r, truP_b, Bool.false_eq_true, String.reduceBEq, cond_true, cond_false, kv_var, eqP_kv, id]
  simp only [matchK] at h
  by_cases h1 : k = .var
  · simpa [h1] using h
  · by_cases h2 : c = .var
    · simpa [h1, h2] using h
    · simpa [h1, h2] using h
theorem forL_inv {x : String} {b : SWP} {items : List PV} {Q : PFlow → PEnv → Sto → Prop} (I : Nat → PEnv → Sto → Prop)
    (step : ∀ i v ρ σ (K : PFlow → PEnv → Sto → Prop), items[i]? = some v → I i ρ σ → (∀ ρ' σ', I (i + 1) ρ' σ' → K .next ρ' σ') → (∀ ρ' σ', I (i + 1) ρ' σ' → K .cont ρ' σ') → b (ρ.set x v) σ K)
    (fin : ∀ ρ σ, I items.length ρ σ → Q .next ρ σ) : ∀ ρ σ, I 0 ρ σ → forL x b items ρ σ Q := by
  have key : ∀ (r : List PV) (i : Nat) ρ σ, items.drop i = r → i ≤ items.length → I i ρ σ → forL x b r ρ σ Q := by
    intro r
    induction r with
    | nil =>
      intro i ρ σ hd hi h
      have : i = items.length := by
        have := congrArg List.length hd
        simp at this; lia
      subst this
      exact fin ρ σ h
    | cons v r ih =>
      intro i ρ σ hd hi h
      have hlt : i < items.length := by
        have := congrArg List.length hd
        simp at this; lia
      rw [List.drop_eq_getElem_cons hlt] at hd
      injection hd with h1 h2
      exact step i v ρ σ _ (by rw [List.getElem?_eq_getElem hlt, h1]) h (fun ρ' σ' h' => ih (i + 1) ρ' σ' h2 hlt h') (fun ρ' σ' h' => ih (i + 1) ρ' σ' h2 hlt h')
  exact fun ρ σ h => key items 0 ρ σ rfl (Nat.zero_le _) h
theorem forR_inv {x : String} {b : SWP} {a : Addr} {l : List PV} {Q : PFlow → PEnv → Sto → Prop} (I : Nat → PEnv → Sto → Prop) (hl : ∀ i ρ σ, I i ρ σ → σ a = some (.list l))
    (step : ∀ i v ρ σ (K : PFlow → PEnv → Sto → Prop), l[i]? = some v → I i ρ σ → (∀ ρ' σ', I (i + 1) ρ' σ' → K .next ρ' σ') → (∀ ρ' σ', I (i + 1) ρ' σ' → K .cont ρ' σ') → b (ρ.set x v) σ K)
    (fin : ∀ ρ σ, I l.length ρ σ → Q .next ρ σ) : ∀ ρ σ, I 0 ρ σ → forR x b a l l ρ σ Q := by
  have key : ∀ (r : List PV) (i : Nat) ρ σ, l.drop i = r → i ≤ l.length → I i ρ σ → forR x b a l r ρ σ Q := by
    intro r
    induction r with
    | nil =>
      intro i ρ σ hd hi h
      have : i = l.length := by
        have := congrArg List.length hd
        simp at this; lia
      subst this
      exact ⟨hl _ _ _ h, fin ρ σ h⟩
    | cons v r ih =>
      intro i ρ σ hd hi h
      have hlt : i < l.length := by
        have := congrArg List.length hd
        simp at this; lia
      rw [List.drop_eq_getElem_cons hlt] at hd
      injection hd with h1 h2
      exact ⟨hl _ _ _ h, step i v ρ σ _ (by rw [List.getElem?_eq_getElem hlt, h1]) h (fun ρ' σ' h' => ih (i + 1) ρ' σ' h2 hlt h') (fun ρ' σ' h' => ih (i + 1) ρ' σ' h2 hlt h')⟩
  exact fun ρ σ h => key l 0 ρ σ rfl (Nat.zero_le _) h
end Mine
namespace Mine
open PySem PySem.W PySem.Calls PyProof.Rows PySem.Spec
inductive KA where
  | i (n : Int)
  | p (t v : Int)
  deriving DecidableEq
noncomputable def kav : KA → PV
  | .i n => .int n
  | .p t v => .tup [.int t, .int v]
noncomputable def kadk : KA → DK
  | .i n => .int n
  | .p t v => .tup [t, v]
inductive Row where
  | try_ (l w : Int)
  | retry (l : Int)
  | trust (l : Int)
  | label (l : Int)
  | sterm (v c l s : Int)
  | stab (con : Bool) (t : List (KA × Int)) (d : Int)
  | exec (n : Int)
noncomputable def tv (t : List (KA × Int)) : PV := .tup (t.map fun p => .tup [kav p.1, .int p.2])
noncomputable def rv : Row → PV
  | .try_ l w => .tup [sv "try", .int l, .int w]
  | .retry l => .tup [sv "retry", .int l]
  | .trust l => .tup [sv "trust", .int l]
  | .label l => .tup [sv "label", .int l]
  | .sterm v c l s => .tup [sv "switch_on_term", .int v, .int c, .int l, .int s]
  | .stab true t d => .tup [sv "switch_on_constant", tv t, .int d]
  | .stab false t d => .tup [sv "switch_on_structure", tv t, .int d]
  | .exec n => .tup [sv "execute", .int n]
structure BState where
  rows : List Row
  chains : List (Int × List Int)
  next : Int
structure BA where
  (b d rows chains known codes : Addr)
noncomputable abbrev il (ns : List Int) : List PV := ns.map .int
noncomputable def cv (c : Int × List Int) : PV := .tup [.int c.1, .tup (il c.2)]
noncomputable def kn (c : Int × List Int) : DK × PV := (.tup c.2, .int c.1)
noncomputable def bAttrs (ar : Int) (A : BA) (nx : Int) : PEnv := ((((((PEnv.set (fun _ => none) "arity" (.int ar)).set "codes" (.ref A.codes)).set "rows" (.ref A.rows)).set "chains" (.ref A.chains)).set "known" (.ref A.known)).set "next_label" (.int nx))
structure BS (ar : Int) (A : BA) (st : BState) (σ : Sto) : Prop where
  b : σ A.b = some (.inst 129 A.d)
  d : σ A.d = some (.attrs (bAttrs ar A st.next))
  rows : σ A.rows = some (.list (st.rows.map rv))
  chains : σ A.chains = some (.list (st.chains.map cv))
  known : σ A.known = some (.dict (st.chains.map kn))
  ne : A.rows ≠ A.chains
noncomputable def mods (A : BA) (a : Addr) : Prop := a = A.d ∨ a = A.rows ∨ a = A.chains ∨ a = A.known
noncomputable def Ext (A : BA) (σ σ' : Sto) : Prop := ∀ a o, ¬ mods A a → σ a = some o → σ' a = some o
theorem Ext.refl {A : BA} {σ : Sto} : Ext A σ σ := fun _ _ _ h => h
theorem Ext.trans {A : BA} {σ σ₁ σ₂ : Sto} (x : Ext A σ σ₁) (y : Ext A σ₁ σ₂) : Ext A σ σ₂ := fun a o h e => y a o h (x a o h e)
theorem Ext.new {A : BA} {σ : Sto} {a : Addr} {o : AObj} (h : σ a = none) : Ext A σ (σ.set a o) := fun b p _ e => by
  have : b ≠ a := by rintro rfl; rw [h] at e; cases e
  rw [Sto.set_ne σ o this]; exact e
theorem Ext.put {A : BA} {σ : Sto} {a : Addr} {o : AObj} (h : mods A a) : Ext A σ (σ.set a o) := fun b p hb e => by
  have : b ≠ a := by rintro rfl; exact hb h
  rw [Sto.set_ne σ o this]; exact e
section
variable {ar : Int} {A : BA} {st : BState} {σ : Sto}
theorem BS.b_ne (H : BS ar A st σ) : ¬ mods A A.b := by
  have h := H.b
  rintro (e | e | e | e) <;> rw [e] at h
  · rw [H.d] at h; cases h
  · rw [H.rows] at h; cases h
  · rw [H.chains] at h; cases h
  · rw [H.known] at h; cases h
theorem BS.new (H : BS ar A st σ) {a : Addr} {o : AObj} (h : σ a = none) : BS ar A st (σ.set a o) := by
  have ne : ∀ b p, σ b = some p → (σ.set a o) b = some p := fun b p e => by
    have : b ≠ a := by rintro rfl; rw [h] at e; cases e
    rw [Sto.set_ne σ o this]; exact e
  exact ⟨ne _ _ H.b, ne _ _ H.d, ne _ _ H.rows, ne _ _ H.chains, ne _ _ H.known, H.ne⟩
theorem BS.other (H : BS ar A st σ) {a : Addr} {o : AObj} (h : ¬ mods A a) (hb : a ≠ A.b) : BS ar A st (σ.set a o) := by
  have ne : ∀ b p, b ≠ a → σ b = some p → (σ.set a o) b = some p := fun b p this e => by
    rw [Sto.set_ne σ o this]; exact e
  simp only [mods, not_or] at h
  exact ⟨ne _ _ hb.symm H.b, ne _ _ (Ne.symm h.1) H.d, ne _ _ (Ne.symm h.2.1) H.rows, ne _ _ (Ne.symm h.2.2.1) H.chains, ne _ _ (Ne.symm h.2.2.2) H.known, H.ne⟩
theorem BS.d_rows (H : BS ar A st σ) : A.d ≠ A.rows := fun e => by have h := H.d; rw [e, H.rows] at h; cases h
theorem BS.d_chains (H : BS ar A st σ) : A.d ≠ A.chains := fun e => by have h := H.d; rw [e, H.chains] at h; cases h
theorem BS.d_known (H : BS ar A st σ) : A.d ≠ A.known := fun e => by have h := H.d; rw [e, H.known] at h; cases h
theorem BS.rows_known (H : BS ar A st σ) : A.rows ≠ A.known := fun e => by have h := H.rows; rw [e, H.known] at h; cases h
theorem BS.chains_known (H : BS ar A st σ) : A.chains ≠ A.known := fun e => by have h := H.chains; rw [e, H.known] at h; cases h
theorem BS.b_d (H : BS ar A st σ) : A.b ≠ A.d := fun e => H.b_ne (.inl e)
theorem BS.b_rows (H : BS ar A st σ) : A.b ≠ A.rows := fun e => H.b_ne (.inr (.inl e))
theorem BS.b_chains (H : BS ar A st σ) : A.b ≠ A.chains := fun e => H.b_ne (.inr (.inr (.inl e)))
theorem BS.b_known (H : BS ar A st σ) : A.b ≠ A.known := fun e => H.b_ne (.inr (.inr (.inr e)))
theorem BS.setRows (H : BS ar A st σ) (rs : List Row) : BS ar A { st with rows := rs } (σ.set A.rows (.list (rs.map rv))) :=
  ⟨(Sto.set_ne σ _ H.b_rows).trans H.b, (Sto.set_ne σ _ H.d_rows).trans H.d, Sto.set_same .., (Sto.set_ne σ _ H.ne.symm).trans H.chains, (Sto.set_ne σ _ H.rows_known.symm).trans H.known, H.ne⟩
theorem bAttrs_set (nx k : Int) : (bAttrs ar A nx).set "next_label" (.int k) = bAttrs ar A k := by
  funext x
  unfold bAttrs
  by_cases h : x = "next_label"
  · rw [h, PEnv.set_same, PEnv.set_same]
  · rw [PEnv.set_ne _ _ h, PEnv.set_ne _ _ h, PEnv.set_ne _ _ h]
theorem BS.setNext (H : BS ar A st σ) (k : Int) : BS ar A { st with next := k } (σ.set A.d (.attrs (bAttrs ar A k))) :=
  ⟨(Sto.set_ne σ _ H.b_d).trans H.b, Sto.set_same .., (Sto.set_ne σ _ H.d_rows.symm).trans H.rows, (Sto.set_ne σ _ H.d_chains.symm).trans H.chains, (Sto.set_ne σ _ H.d_known.symm).trans H.known, H.ne⟩
theorem attrP_b (H : BS ar A st σ) {x : String} {v : PV} (h : bAttrs ar A st.next x = some v) {Q : PV → Sto → Prop} : attrP 129 x (.ref A.b) σ Q = Q v σ := by
  apply propext
  unfold attrP
  constructor
  · rintro ⟨d, m, u, e1, e2, e3, q⟩
    rw [H.b] at e1; cases e1
    rw [H.d] at e2; cases e2
    rw [h] at e3; cases e3
    exact q
  · exact fun q => ⟨_, _, _, H.b, H.d, h, q⟩
theorem attr_next (H : BS ar A st σ) {Q : PV → Sto → Prop} : attrP 129 "next_label" (.ref A.b) σ Q = Q (.int st.next) σ := attrP_b H rfl
theorem attr_arity (H : BS ar A st σ) {Q : PV → Sto → Prop} : attrP 129 "arity" (.ref A.b) σ Q = Q (.int ar) σ := attrP_b H rfl
theorem attr_codes (H : BS ar A st σ) {Q : PV → Sto → Prop} : attrP 129 "codes" (.ref A.b) σ Q = Q (.ref A.codes) σ := attrP_b H rfl
theorem attr_rows (H : BS ar A st σ) {Q : PV → Sto → Prop} : attrP 129 "rows" (.ref A.b) σ Q = Q (.ref A.rows) σ := attrP_b H rfl
theorem attr_chains (H : BS ar A st σ) {Q : PV → Sto → Prop} : attrP 129 "chains" (.ref A.b) σ Q = Q (.ref A.chains) σ := attrP_b H rfl
theorem attr_known (H : BS ar A st σ) {Q : PV → Sto → Prop} : attrP 129 "known" (.ref A.b) σ Q = Q (.ref A.known) σ := attrP_b H rfl
theorem meth_b (H : BS ar A st σ) {x : String} (h : bAttrs ar A st.next x = none) : methP 129 x (.ref A.b) σ := ⟨_, _, H.b, H.d, h⟩
inductive S_fresh (args : List PV) (σ : Sto) (Q : PV → Sto → Prop) : Prop
  | mk : ∀ ar A st, (args = [.ref A.b]) → (BS ar A st σ) → (∀ σ', BS ar A { st with next := st.next + 1 } σ' → Ext A σ σ' → Q (.int st.next) σ') → S_fresh args σ Q
theorem s_fresh : ∀ args σ Q, S_fresh args σ Q → fnP ["self"] d_fresh_label args σ Q := by
  rintro args σ Q ⟨ar, A, st, rfl, H, h⟩
  refine ⟨rfl, ?_⟩
  simp only [d_fresh_label, dSeq, dOp, dName, dVal, dRet, dAssign, dAttr, dSetAttr, bindEnv, PEnv.set_b, fnEnd_r, addP_i, String.reduceBEq, cond_true, cond_false, attr_next H]
  refine ⟨_, _, H.b, H.d, ?_⟩
  rw [bAttrs_set]
  exact h _ (H.setNext _) (.put (.inl rfl))
end
end Mine
namespace Mine
open PySem PySem.W PySem.Calls PyProof.Rows PySem.Spec
section
variable {σ : Sto} {a : Addr} {x v : PV} {k : DK} {l : List PV} {kvs : List (DK × PV)}
theorem getP_t {k : Int} {Q : PV → Sto → Prop} : getP (.tup l) (.int k) σ Q = seqP l k σ Q := rfl
theorem getP_l (e : σ a = some (.list l)) {k : Int} {Q : PV → Sto → Prop} : getP (.ref a) (.int k) σ Q = seqP l k σ Q := by delta getP; dsimp only; rw [e]
theorem lenP_t {Q : PV → Sto → Prop} : lenP [.tup l] σ Q = ((l.length : Int) < 2 ^ 63 ∧ Q (.int l.length) σ) := rfl
theorem lenP_x {x : Str} {Q : PV → Sto → Prop} : lenP [.str x] σ Q = ((x.length : Int) < 2 ^ 63 ∧ Q (.int x.length) σ) := rfl
theorem lenP_l (e : σ a = some (.list l)) {Q : PV → Sto → Prop} : lenP [.ref a] σ Q = ((l.length : Int) < 2 ^ 63 ∧ Q (.int l.length) σ) := by delta lenP; dsimp only; rw [e]
theorem tupleP_list (e : σ a = some (.list l)) (hl : l.length ≤ sizeLine) {Q : PV → Sto → Prop} : tupleP [.ref a] σ Q = Q (.tup l) σ := by
  delta tupleP; dsimp only; rw [e]
  exact propext ⟨fun h => h.2, fun q => ⟨hl, q⟩⟩
theorem getP_dict (e : σ a = some (.dict kvs)) (hk : toDK x = some k) (ho : kindOk kvs k) (hg : dget kvs k = some v) {Q : PV → Sto → Prop} : getP (.ref a) x σ Q = Q v σ := by
  delta getP; dsimp only; rw [e]
  refine propext ⟨fun h => ?_, fun q => ⟨k, v, hk, ho, hg, q⟩⟩
  obtain ⟨k', v', e1, _, e2, q⟩ := h
  rw [hk] at e1; cases e1; rw [hg] at e2; cases e2; exact q
theorem inP_dict (e : σ a = some (.dict kvs)) (hk : toDK x = some k) (ho : kindOk kvs k) {b : Bool} (hb : (dget kvs k).isSome = b) {f : Bool → Bool} {Q : PV → Sto → Prop} : inP f x (.ref a) σ Q = Q (.bool (f b)) σ := by
  delta inP; dsimp only; rw [e]
  refine propext ⟨fun h => ?_, fun q => ⟨k, hk, ho, by rw [hb]; exact q⟩⟩
  obtain ⟨k', e1, _, q⟩ := h
  rw [hk] at e1; cases e1; rw [hb] at q; exact q
theorem dput_new (hn : dget kvs k = none) : dput kvs k v = kvs ++ [(k, v)] := by
  unfold dput; rw [hn]; rfl
theorem setP_new (e : σ a = some (.dict kvs)) (hk : toDK x = some k) (ho : kindOk kvs k) (hl : kvs.length ≤ sizeLine) (hn : dget kvs k = none) {Q : Sto → Prop} : setP (.ref a) x v σ Q = Q (σ.set a (.dict (kvs ++ [(k, v)]))) := by
  delta setP; dsimp only; rw [e]
  rw [← dput_new (v := v) hn]
  refine propext ⟨fun h => ?_, fun q => ⟨k, hk, ho, hl, q⟩⟩
  obtain ⟨k', e1, _, _, q⟩ := h
  rw [hk] at e1; cases e1; exact q
theorem inP_any {c : PV} {f : Bool → Bool} {Q : PV → Sto → Prop} {d : PyData} {ds : List PyData} {b : Bool} (hc : inP f x c σ Q = ∃ d ds, deep σ x = some d ∧ deeps σ l = some ds ∧ shal 8 x = true ∧ shals 8 l = true ∧ Q (.bool (f (ds.any fun y => PyData.eqv y d))) σ)
    (h1 : deep σ x = some d) (h2 : deeps σ l = some ds) (h3 : shal 8 x = true) (h4 : shals 8 l = true) (h5 : (ds.any fun y => PyData.eqv y d) = b) : inP f x c σ Q = Q (.bool (f b)) σ := by
  rw [hc]
  refine propext ⟨fun h => ?_, fun q => ⟨d, ds, h1, h2, h3, h4, by rw [h5]; exact q⟩⟩
  obtain ⟨d', ds', e1, e2, _, _, q⟩ := h
  rw [h1] at e1; cases e1
  rw [h2] at e2; cases e2
  rw [h5] at q; exact q
end
theorem Sto.set_set (σ : Sto) (a : Addr) (x y : AObj) : (σ.set a x).set a y = σ.set a y := by
  funext b; unfold Sto.set; split <;> rfl
theorem Sto.get_new {σ : Sto} {a b : Addr} {o p : AObj} (h : σ a = none) (e : σ b = some p) : (σ.set a o) b = some p := by
  have : b ≠ a := by rintro rfl; rw [h] at e; cases e
  rw [Sto.set_ne σ o this]; exact e
noncomputable def SeqIs (σ : Sto) (v : PV) (ns : List Int) : Prop := v = .tup (il ns) ∨ ∃ a, v = .ref a ∧ σ a = some (.list (il ns))
theorem SeqIs.new {σ : Sto} {v : PV} {ns : List Int} (h : SeqIs σ v ns) {a : Addr} {o : AObj} (ha : σ a = none) : SeqIs (σ.set a o) v ns := by
  rcases h with h | ⟨b, h, e⟩
  · exact .inl h
  · exact .inr ⟨b, h, Sto.get_new ha e⟩
theorem SeqIs.get {σ : Sto} {v : PV} {ns : List Int} (h : SeqIs σ v ns) {i : Nat} {n : Int} (hn : ns[i]? = some n) (hi : i < 2 ^ 62) {Q : PV → Sto → Prop} : getP v (.int (i : Int)) σ Q = Q (.int n) σ := by
  have hv : (il ns)[i]? = some (.int n) := by simp [hn]
  rcases h with rfl | ⟨b, rfl, e⟩
  · exact seqP_at hv hi
  · rw [getP_l e]; exact seqP_at hv hi
theorem SeqIs.len {σ : Sto} {v : PV} {ns : List Int} (h : SeqIs σ v ns) {Q : PV → Sto → Prop} (hl : ns.length < 2 ^ 62) : lenP [v] σ Q = Q (.int ns.length) σ := by
  have h1 : ((ns.length : Nat) : Int) < 2 ^ 63 := by lia
  rcases h with rfl | ⟨b, rfl, e⟩
  · simp only [lenP_t, List.length_map, h1, true_and]
  · simp only [lenP_l e, List.length_map, h1, true_and]
theorem lenP_list {σ : Sto} {a : Addr} {l : List PV} (h : σ a = some (.list l)) (hl : l.length < 2 ^ 62) {Q : PV → Sto → Prop} : lenP [.ref a] σ Q = Q (.int l.length) σ := by
  have h1 : ((l.length : Nat) : Int) < 2 ^ 63 := by lia
  simp only [lenP_l h, h1, true_and]
theorem getP_list {σ : Sto} {a : Addr} {l : List PV} (h : σ a = some (.list l)) {i : Nat} {v : PV} (hv : l[i]? = some v) (hi : i < 2 ^ 62) {Q : PV → Sto → Prop} : getP (.ref a) (.int (i : Int)) σ Q = Q v σ := by
  rw [getP_l h]; exact seqP_at hv hi
theorem rngL1 {hi : Int} {P : Int → Int → Prop} (h1 : -(2 ^ 62) ≤ hi) (h2 : hi < 2 ^ 62) : rngL [.int hi] P = P 0 hi := propext ⟨fun h => And.right (And.right h), fun h => ⟨h1, h2, h⟩⟩
theorem rngL2 {lo hi : Int} {P : Int → Int → Prop} (h1 : -(2 ^ 62) ≤ hi) (h2 : hi < 2 ^ 62) (h3 : -(2 ^ 62) ≤ lo) (h4 : lo < 2 ^ 62) : rngL [.int lo, .int hi] P = P lo hi := propext ⟨fun h => And.right (And.right (And.right (And.right h))), fun h => ⟨h3, h4, h1, h2, h⟩⟩
theorem sizeLine_big : 2 ^ 20 ≤ sizeLine := by decide
noncomputable def chainRows (ar : Int) (ns : List Int) : List Row := .try_ (ns.headD 0) ar :: ((ns.drop 1).take (ns.length - 2)).map .retry ++ [.trust (ns.getD (ns.length - 1) 0)]
inductive S_chain_rows (args : List PV) (σ : Sto) (Q : PV → Sto → Prop) : Prop
  | mk : ∀ ar A st v ns, (args = [.ref A.b, v]) → (BS ar A st σ) → (SeqIs σ v ns) → (2 ≤ ns.length) → (ns.length ≤ 1000) → (∀ a, σ a = none → Q (.ref a) (σ.set a (.list ((chainRows ar ns).map rv)))) → S_chain_rows args σ Q
theorem sl0 : 0 ≤ sizeLine := Nat.zero_le _
theorem sl1 : 1 ≤ sizeLine := by decide
theorem sl2 : 2 ≤ sizeLine := by decide
theorem sl3 : 3 ≤ sizeLine := by decide
theorem sl4 : 4 ≤ sizeLine := by decide
theorem sl5 : 5 ≤ sizeLine := by decide
theorem SeqIs.get0 {σ : Sto} {v : PV} {ns : List Int} (h : SeqIs σ v ns) {n : Int} (hn : ns[0]? = some n) {Q : PV → Sto → Prop} : getP v (.int 0) σ Q = Q (.int n) σ := h.get (i := 0) hn (by decide)
theorem appP_at {σ : Sto} {a : Addr} {l : List PV} (h : σ a = some (.list l)) (hl : l.length ≤ sizeLine) {v : PV} {Q : PV → Sto → Prop} : appP (.ref a) v σ Q = Q .none (σ.set a (.list (l ++ [v]))) := by
  simp only [appP, h, hl, true_and]
theorem isListP_at {σ : Sto} {a : Addr} {l : List PV} (h : σ a = some (.list l)) : isListP (.ref a) σ := ⟨l, h⟩
theorem s_chain_rows : ∀ args σ Q, S_chain_rows args σ Q → fnP ["self", "labels"] d_chain_rows args σ Q := by
  rintro args σ Q ⟨ar, A, st, v, ns, rfl, H, hs, h2, hb, h⟩
  refine ⟨rfl, ?_⟩
  have sl := sizeLine_big
  have g0 : ns[0]? = some (ns.headD 0) := by cases ns with | nil => simp at h2 | cons => rfl
  simp only [d_chain_rows, dSeq, dOp, dName, dVal, dRet, dAssign, dExpr, dCall, dCons, dNil, dTup, dList, dAttr, dAppend, dForR, bindEnv, PEnv.set_b, fnEnd_r, true_and, String.reduceBEq, cond_true, cond_false, hs.get0 g0, attr_arity H, List.length_cons, List.length_nil, Nat.reduceAdd, sl3]
  refine ⟨sl1, fun a ha => ?_⟩
  have hs1 : SeqIs (σ.set a (.list [rv (.try_ (ns.headD 0) ar)])) v ns := hs.new ha
  show lenP [v] (σ.set a (.list [rv (.try_ (ns.headD 0) ar)])) _
  rw [hs1.len (by lia)]
  simp only [subP_i]
  rw [rngL2 (by lia) (by lia) (by decide) (by decide)]
  refine forL_inv (I := fun i ρ σ' => ρ "rows" = some (.ref a) ∧ ρ "labels" = some v ∧ ρ "last" = some (.int ((ns.length : Int) - 1)) ∧ σ' = σ.set a (.list ((Row.try_ (ns.headD 0) ar :: ((ns.drop 1).take i).map Row.retry).map rv))) ?_ ?_ _ _ ?_
  · rintro i u ρ σ' K hu ⟨e1, e2, e3, rfl⟩ hK _
    have hi : i < (((ns.length : Int) - 1) - 1).toNat := by
      have := (List.getElem?_eq_some_iff.mp hu).1
      rwa [rangeL_length] at this
    rw [rangeL_get _ _ _ hi] at hu
    cases hu
    have gi : ns[1 + i]? = some (ns[1 + i]'(by lia)) := List.getElem?_eq_getElem _
    have hs2 : SeqIs (σ.set a (.list ((Row.try_ (ns.headD 0) ar :: ((ns.drop 1).take i).map Row.retry).map rv))) v ns := hs.new ha
    have e : (1 : Int) + (i : Int) = ((1 + i : Nat) : Int) := by lia
    simp only [dSeq, dOp, dName, dVal, dEnd, dExpr, dCons, dNil, dTup, dAppend, PEnv.set_b, true_and, String.reduceBEq, cond_true, cond_false, e1, e2, e, isListP_at (Sto.set_same σ a _), hs2.get gi (by lia), List.length_cons, List.length_nil, Nat.reduceAdd, sl2]
    rw [appP_at (Sto.set_same σ a _) (by simp; lia), Sto.set_set]
    simp only [plainK_n]
    refine hK _ _ ⟨e1, e2, e3, ?_⟩
    congr 2
    rw [List.take_add_one]
    have : (ns.drop 1)[i]? = some (ns[1 + i]'(by lia)) := by rw [List.getElem?_drop]; exact gi
    rw [this]
    simp [rv]
  · rintro ρ σ' ⟨e1, e2, e3, rfl⟩
    rw [rangeL_length]
    have hk : (((ns.length : Int) - 1) - 1).toNat = ns.length - 2 := by lia
    rw [hk]
    have hs2 : SeqIs (σ.set a (.list ((Row.try_ (ns.headD 0) ar :: ((ns.drop 1).take (ns.length - 2)).map Row.retry).map rv))) v ns := hs.new ha
    have gl : ns[ns.length - 1]? = some (ns.getD (ns.length - 1) 0) := by
      rw [List.getD_eq_getElem?_getD, List.getElem?_eq_getElem (by lia)]; rfl
    have e : (ns.length : Int) - 1 = ((ns.length - 1 : Nat) : Int) := by lia
    simp only [true_and, e1, e2, e3, e, isListP_at (Sto.set_same σ a _), hs2.get gl (by lia), sl2]
    rw [appP_at (Sto.set_same σ a _) (by simp; lia), Sto.set_set]
    simp only [plainK_n]
    have := h a ha
    simpa [chainRows, rv] using this
  · refine ⟨rfl, rfl, rfl, ?_⟩
    simp
end Mine
namespace Mine
open PySem PySem.W PySem.Calls PyProof.Rows PySem.Spec
structure Old (A : BA) (σ₀ σ : Sto) : Prop where
  keep : ∀ a o, σ₀ a = some o → σ a = some o
  off : ∀ a, mods A a → σ₀ a = none
theorem Old.ext {A : BA} {σ₀ σ σ' : Sto} (O : Old A σ₀ σ) (x : Ext A σ σ') : Old A σ₀ σ' :=
  ⟨fun a o e => x a o (fun h => by rw [O.off a h] at e; cases e) (O.keep a o e), O.off⟩
theorem Old.not {A : BA} {σ₀ σ : Sto} (O : Old A σ₀ σ) {a : Addr} {o : AObj} (e : σ₀ a = some o) : ¬ mods A a := fun h => by rw [O.off a h] at e; cases e
noncomputable def CS (ca : Addr) (keys : List Key) (σ : Sto) : Prop := ∃ ps : List (Addr × Addr × Addr), ps.length = keys.length ∧ σ ca = some (.list (ps.map fun p => .ref p.1)) ∧
  ∀ (i : Nat) p k, ps[i]? = some p → keys[i]? = some k → σ p.1 = some (.inst 178 p.2.1) ∧ ∃ m, σ p.2.1 = some (.attrs m) ∧ m "key" = some (kv k) ∧ m "instrs" = some (.ref p.2.2) ∧ σ p.2.2 = some (.list [rv (.exec i)])
theorem CS.old {ca : Addr} {keys : List Key} {A : BA} {σ₀ σ : Sto} (C : CS ca keys σ₀) (O : Old A σ₀ σ) : CS ca keys σ := by
  obtain ⟨ps, h1, h2, h3⟩ := C
  refine ⟨ps, h1, O.keep _ _ h2, fun i p k hp hk => ?_⟩
  obtain ⟨e1, m, e2, e3, e4, e5⟩ := h3 i p k hp hk
  exact ⟨O.keep _ _ e1, m, O.keep _ _ e2, e3, e4, O.keep _ _ e5⟩
theorem CS.new {ca : Addr} {keys : List Key} {σ : Sto} (C : CS ca keys σ) {a : Addr} {o : AObj} (h : σ a = none) : CS ca keys (σ.set a o) := by
  obtain ⟨ps, h1, h2, h3⟩ := C
  refine ⟨ps, h1, Sto.get_new h h2, fun i p k hp hk => ?_⟩
  obtain ⟨e1, m, e2, e3, e4, e5⟩ := h3 i p k hp hk
  exact ⟨Sto.get_new h e1, m, Sto.get_new h e2, e3, e4, Sto.get_new h e5⟩
noncomputable def kAt (keys : List Key) (p : Int) : Key := keys.getD p.toNat .var
noncomputable def Valid (keys : List Key) (ps : List Int) : Prop := ∀ p ∈ ps, 0 ≤ p ∧ p < (keys.length : Int)
theorem attrP_at {C : Addr} {x : String} {a d : Addr} {m : PEnv} {v : PV} {σ : Sto} (h1 : σ a = some (.inst C d)) (h2 : σ d = some (.attrs m)) (h3 : m x = some v) {Q : PV → Sto → Prop} : attrP C x (.ref a) σ Q = Q v σ := by
  apply propext
  unfold attrP
  constructor
  · rintro ⟨d, m, u, e1, e2, e3, q⟩
    rw [h1] at e1; cases e1
    rw [h2] at e2; cases e2
    rw [h3] at e3; cases e3
    exact q
  · exact fun q => ⟨_, _, _, h1, h2, h3, q⟩
theorem CS.key {ca : Addr} {keys : List Key} {σ : Sto} (C : CS ca keys σ) (hb : keys.length ≤ 1000) {p : Int} (h0 : 0 ≤ p) (h1 : p < (keys.length : Int)) : ∃ q, (∀ Q, getP (.ref ca) (.int p) σ Q = Q (.ref q) σ) ∧ (∀ Q, attrP 178 "key" (.ref q) σ Q = Q (kv (kAt keys p)) σ) ∧ ∃ l, (∀ Q, attrP 178 "instrs" (.ref q) σ Q = Q (.ref l) σ) ∧ σ l = some (.list [rv (.exec p)]) := by
  obtain ⟨ps, e1, e2, e3⟩ := C
  obtain ⟨i, rfl⟩ : ∃ i : Nat, p = (i : Int) := ⟨p.toNat, by lia⟩
  have hi : i < keys.length := by lia
  have hp : ps[i]? = some (ps[i]'(by lia)) := List.getElem?_eq_getElem _
  have hk : keys[i]? = some (kAt keys i) := by
    unfold kAt
    rw [List.getD_eq_getElem?_getD]
    simp only [Int.toNat_natCast]
    rw [List.getElem?_eq_getElem hi]; rfl
  obtain ⟨a1, m, a2, a3, a4, a5⟩ := e3 i _ _ hp hk
  exact ⟨_, fun Q => getP_list e2 (by rw [List.getElem?_map, hp]; rfl) (by lia), fun Q => attrP_at a1 a2 a3, _, fun Q => attrP_at a1 a2 a4, a5⟩
inductive S_matching_places (args : List PV) (σ : Sto) (Q : PV → Sto → Prop) : Prop
  | mk : ∀ ar A st keys pa ps c, (args = [.ref A.b, .ref pa, kv c]) → (BS ar A st σ) → (CS A.codes keys σ) → (keys.length ≤ 1000) → (σ pa = some (.list (il ps))) → (ps.length ≤ 1000) → (Valid keys ps) → (∀ a, σ a = none → Q (.ref a) (σ.set a (.list (il (ps.filter fun p => matchK (kAt keys p) c))))) → S_matching_places args σ Q
theorem s_matching_places : ∀ args σ Q, S_matching_places args σ Q → fnP ["self", "places", "cell_key"] (d_matching_places S_matching) args σ Q := by
  rintro args σ Q ⟨ar, A, st, keys, pa, ps, c, rfl, H, C, hb, hp, hl, hv, h⟩
  refine ⟨rfl, ?_⟩
  have sl := sizeLine_big
  simp only [d_matching_places, dSeq, dName, dRet, dAssign, dNil, dList, dFor, bindEnv, PEnv.set_b, fnEnd_r, String.reduceBEq, cond_true, cond_false]
  refine ⟨sl0, fun a ha => ?_⟩
  have ne : pa ≠ a := by rintro rfl; rw [ha] at hp; cases hp
  have hpa : ∀ o, (σ.set a o) pa = some (.list (il ps)) := fun o => (Sto.set_ne σ o ne).trans hp
  simp only [forP, hpa]
  refine forR_inv (I := fun i ρ σ' => ρ "found" = some (.ref a) ∧ ρ "self" = some (.ref A.b) ∧ ρ "cell_key" = some (kv c) ∧ σ' = σ.set a (.list (il ((ps.take i).filter fun p => matchK (kAt keys p) c)))) (fun i ρ σ' hI => by rw [hI.2.2.2]; exact hpa _) ?_ ?_ _ _ ?_
  · rintro i v ρ σ' K hu ⟨e1, e2, e3, rfl⟩ hK _
    have hi : i < ps.length := by
      have := (List.getElem?_eq_some_iff.mp hu).1
      simpa using this
    have hpi : ps[i]? = some ps[i] := List.getElem?_eq_getElem hi
    rw [List.getElem?_map, hpi] at hu
    cases hu
    have hvi := hv ps[i] (List.getElem_mem hi)
    obtain ⟨q, k1, k2, _⟩ := (C.new (o := .list (il ((ps.take i).filter fun p => matchK (kAt keys p) c))) ha).key hb hvi.1 hvi.2
    have H1 := H.new (o := .list (il ((ps.take i).filter fun p => matchK (kAt keys p) c))) ha
    simp only [dSeq, dIf, dTest, dOp, dName, dEnd, dExpr, dCall, dCons, dNil, dAttr, dAppend, PEnv.set_b, String.reduceBEq, cond_true, cond_false, e1, e2, e3, attr_codes H1, k1, k2]
    refine ⟨_, _, rfl, ?_⟩
    have ht : ps.take (i + 1) = ps.take i ++ [ps[i]] := by rw [List.take_add_one, hpi]; rfl
    cases hm : matchK (kAt keys ps[i]) c with
    | true =>
      simp only [if_true, truP_b, true_and, isListP_at (Sto.set_same σ a _)]
      have hlen : (il ((ps.take i).filter fun p => matchK (kAt keys p) c)).length ≤ sizeLine := by
        have := List.length_filter_le (fun p => matchK (kAt keys p) c) (ps.take i)
        simp only [List.length_map]
        rw [List.length_take] at this
        lia
      rw [appP_at (Sto.set_same σ a _) hlen, Sto.set_set]
      simp only [plainK_n]
      refine hK _ _ ⟨e1, e2, e3, ?_⟩
      rw [ht, List.filter_append]
      simp [hm]
    | false =>
      simp only [if_false, truP_b, Bool.false_eq_true]
      refine hK _ _ ⟨e1, e2, e3, ?_⟩
      rw [ht, List.filter_append]
      simp [hm]
  · rintro ρ σ' ⟨e1, e2, e3, rfl⟩
    simp only [e1]
    have := h a ha
    rw [List.length_map, List.take_length]
    exact this
  · exact ⟨rfl, rfl, rfl, by simp⟩
inductive S_variable_places (args : List PV) (σ : Sto) (Q : PV → Sto → Prop) : Prop
  | mk : ∀ ar A st keys pa ps, (args = [.ref A.b, .ref pa]) → (BS ar A st σ) → (CS A.codes keys σ) → (keys.length ≤ 1000) → (σ pa = some (.list (il ps))) → (ps.length ≤ 1000) → (Valid keys ps) → (∀ a, σ a = none → Q (.ref a) (σ.set a (.list (il (ps.filter fun p => decide (kAt keys p = .var)))))) → S_variable_places args σ Q
theorem s_variable_places : ∀ args σ Q, S_variable_places args σ Q → fnP ["self", "places"] d_variable_places args σ Q := by
  rintro args σ Q ⟨ar, A, st, keys, pa, ps, rfl, H, C, hb, hp, hl, hv, h⟩
  refine ⟨rfl, ?_⟩
  have sl := sizeLine_big
  simp only [d_variable_places, dSeq, dName, dRet, dAssign, dNil, dList, dFor, bindEnv, PEnv.set_b, fnEnd_r, String.reduceBEq, cond_true, cond_false]
  refine ⟨sl0, fun a ha => ?_⟩
  have ne : pa ≠ a := by rintro rfl; rw [ha] at hp; cases hp
  have hpa : ∀ o, (σ.set a o) pa = some (.list (il ps)) := fun o => (Sto.set_ne σ o ne).trans hp
  simp only [forP, hpa]
  refine forR_inv (I := fun i ρ σ' => ρ "found" = some (.ref a) ∧ ρ "self" = some (.ref A.b) ∧ σ' = σ.set a (.list (il ((ps.take i).filter fun p => decide (kAt keys p = .var))))) (fun i ρ σ' hI => by rw [hI.2.2]; exact hpa _) ?_ ?_ _ _ ?_
  · rintro i v ρ σ' K hu ⟨e1, e2, rfl⟩ hK _
    have hi : i < ps.length := by
      have := (List.getElem?_eq_some_iff.mp hu).1
      simpa using this
    have hpi : ps[i]? = some ps[i] := List.getElem?_eq_getElem hi
    rw [List.getElem?_map, hpi] at hu
    cases hu
    have hvi := hv ps[i] (List.getElem_mem hi)
    obtain ⟨q, k1, k2, _⟩ := (C.new (o := .list (il ((ps.take i).filter fun p => decide (kAt keys p = .var)))) ha).key hb hvi.1 hvi.2
    have H1 := H.new (o := .list (il ((ps.take i).filter fun p => decide (kAt keys p = .var)))) ha
    have ht : ps.take (i + 1) = ps.take i ++ [ps[i]] := by rw [List.take_add_one, hpi]; rfl
    simp only [dSeq, dIf, dTest, dOp, dName, dVal, dEnd, dExpr, dAttr, dAppend, PEnv.set_b, truP_b, String.reduceBEq, cond_true, cond_false, e1, e2, attr_codes H1, k1, k2, kv_var, eqP_kv, id]
    by_cases hm : kAt keys ps[i] = .var
    · simp only [if_true, true_and, hm, decide_true, isListP_at (Sto.set_same σ a _)]
      have hlen : (il ((ps.take i).filter fun p => decide (kAt keys p = .var))).length ≤ sizeLine := by
        have := List.length_filter_le (fun p => decide (kAt keys p = .var)) (ps.take i)
        simp only [List.length_map]
        rw [List.length_take] at this
        lia
      rw [appP_at (Sto.set_same σ a _) hlen, Sto.set_set]
      simp only [plainK_n]
      refine hK _ _ ⟨e1, e2, ?_⟩
      rw [ht, List.filter_append]
      simp [hm]
    · simp only [if_false, Bool.false_eq_true, hm, decide_false]
      refine hK _ _ ⟨e1, e2, ?_⟩
      rw [ht, List.filter_append]
      simp [hm]
  · rintro ρ σ' ⟨e1, e2, rfl⟩
    simp only [e1]
    have := h a ha
    rw [List.length_map, List.take_length]
    exact this
  · exact ⟨rfl, rfl, by simp⟩
end Mine
namespace Mine
open PySem PySem.W PySem.Calls PyProof.Rows PySem.Spec
noncomputable def BState.chain (st : BState) (ps : List Int) : Int × BState := match ps with
  | [] => (-1, st)
  | [p] => (p, st)
  | _ => match st.chains.find? (fun c => decide (c.2 = ps)) with
    | some c => (c.1, st)
    | none => (st.next, { st with chains := st.chains ++ [(st.next, ps)], next := st.next + 1 })
theorem dget_kn (ps : List Int) : ∀ cs : List (Int × List Int), dget (cs.map kn) (.tup ps) = (cs.find? fun c => decide (c.2 = ps)).map fun c => .int c.1
  | [] => rfl
  | c :: r => by
    have ih := dget_kn ps r
    unfold dget at ih ⊢
    simp only [List.map_cons, List.find?_cons, kn, DK.tup.injEq]
    by_cases h : c.2 = ps
    · simp [h]
    · simp only [h, decide_false]
      exact ih
theorem kind_kn (ps : List Int) (cs : List (Int × List Int)) : kindOk (cs.map kn) (.tup ps) := by
  intro x hx
  obtain ⟨c, _, rfl⟩ := List.mem_map.mp hx
  exact ⟨c.2, rfl⟩
theorem toDK_tup (ps : List Int) : toDK (.tup (il ps)) = some (.tup ps) := by
  show (intsOf (ps.map PV.int)).map DK.tup = _
  rw [intsOf_map]; rfl
theorem inP_known {f : Bool → Bool} {ar : Int} {A : BA} {st : BState} {σ : Sto} (H : BS ar A st σ) {ps : List Int} {Q : PV → Sto → Prop} : inP f (.tup (il ps)) (.ref A.known) σ Q = Q (.bool (f (st.chains.find? fun c => decide (c.2 = ps)).isSome)) σ := by
  exact inP_dict H.known (toDK_tup ps) (kind_kn _ _) (by rw [dget_kn, Option.isSome_map])
theorem getP_known {ar : Int} {A : BA} {st : BState} {σ : Sto} (H : BS ar A st σ) {ps : List Int} {c : Int × List Int} (h : st.chains.find? (fun c => decide (c.2 = ps)) = some c) {Q : PV → Sto → Prop} : getP (.ref A.known) (.tup (il ps)) σ Q = Q (.int c.1) σ := by
  exact getP_dict H.known (toDK_tup ps) (kind_kn _ _) (by rw [dget_kn, h]; rfl)
theorem setP_known {A : BA} {σ : Sto} {cs : List (Int × List Int)} (hk : σ A.known = some (.dict (cs.map kn))) {ps : List Int} {l : Int} (h : cs.find? (fun c => decide (c.2 = ps)) = none) (hb : cs.length ≤ 1000) {Q : Sto → Prop} : setP (.ref A.known) (.tup (il ps)) (.int l) σ Q = Q (σ.set A.known (.dict ((cs ++ [(l, ps)]).map kn))) := by
  have sl := sizeLine_big
  rw [setP_new hk (toDK_tup ps) (kind_kn _ _) (by rw [List.length_map]; lia) (by rw [dget_kn, h]; rfl), List.map_append]; rfl
theorem BS.addChain {ar : Int} {A : BA} {st : BState} {σ : Sto} (H : BS ar A st σ) (c : Int × List Int) : BS ar A { st with chains := st.chains ++ [c] } ((σ.set A.known (.dict ((st.chains ++ [c]).map kn))).set A.chains (.list ((st.chains ++ [c]).map cv))) := by
  refine ⟨?_, ?_, ?_, Sto.set_same .., ?_, H.ne⟩
  · rw [Sto.set_ne _ _ H.b_chains, Sto.set_ne _ _ H.b_known]; exact H.b
  · rw [Sto.set_ne _ _ H.d_chains, Sto.set_ne _ _ H.d_known]; exact H.d
  · rw [Sto.set_ne _ _ H.ne, Sto.set_ne _ _ H.rows_known]; exact H.rows
  · rw [Sto.set_ne _ _ H.chains_known.symm, Sto.set_same]
inductive S_chain (args : List PV) (σ : Sto) (Q : PV → Sto → Prop) : Prop
  | mk : ∀ ar A st pa ps, (args = [.ref A.b, .ref pa]) → (BS ar A st σ) → (σ pa = some (.list (il ps))) → (ps.length ≤ 1000) → (st.chains.length ≤ 1000) → (∀ σ', BS ar A (st.chain ps).2 σ' → Ext A σ σ' → Q (.int (st.chain ps).1) σ') → S_chain args σ Q
theorem s_chain : ∀ args σ Q, S_chain args σ Q → fnP ["self", "places"] (d_chain S_fresh) args σ Q := by
  rintro args σ Q ⟨ar, A, st, pa, ps, rfl, H, hp, hl, hb, h⟩
  refine ⟨rfl, ?_⟩
  have sl := sizeLine_big
  simp only [d_chain, dSeq, dIf, dTest, dOp, dName, dVal, dRet, dEnd, dAssign, dExpr, dCall, dMeth, dCons, dNil, dTup, dAttr, dSetItem, dAppend, bindEnv, PEnv.set_b, fnEnd_r, truP_b, String.reduceBEq, cond_true, cond_false, lenP_list hp (by simp; lia), eqP_int, id, List.length_map]
  cases ps with
  | nil =>
    simp only [List.length_nil, if_true, Int.cast_ofNat_Int, decide_true]
    exact h σ H .refl
  | cons p r =>
    have e0 : ¬ (((p :: r).length : Nat) : Int) = 0 := by simp only [List.length_cons]; lia
    simp only [e0, decide_false, if_false, Bool.false_eq_true]
    cases r with
    | nil =>
      have e1 : ((([p] : List Int).length : Nat) : Int) = 1 := rfl
      simp only [e1, decide_true, if_true]
      rw [show PV.int 0 = PV.int ((0 : Nat) : Int) from rfl, getP_list hp (i := 0) rfl (by decide)]
      exact h σ H .refl
    | cons p2 r =>
      have e1 : ¬ (((p :: p2 :: r).length : Nat) : Int) = 1 := by simp only [List.length_cons]; lia
      simp only [e1, decide_false, if_false, Bool.false_eq_true]
      generalize hq : p :: p2 :: r = ps at *
      have hch : st.chain ps = match st.chains.find? (fun c => decide (c.2 = ps)) with
        | some c => (c.1, st)
        | none => (st.next, { st with chains := st.chains ++ [(st.next, ps)], next := st.next + 1 }) := by subst hq; rfl
      rw [tupleP_list hp (by simp; lia)]
      simp only [truP_b, attr_known H, inP_known H, id]
      cases hf : st.chains.find? (fun c => decide (c.2 = ps)) with
      | some c =>
        rw [hf] at hch
        simp only [Option.isSome_some, if_true, getP_known H hf]
        have := h σ
        rw [hch] at this
        exact this H .refl
      | none =>
        rw [hf] at hch
        simp only [Option.isSome_none, if_false, Bool.false_eq_true]
        refine ⟨meth_b H rfl, ar, A, st, rfl, H, fun σ₁ H₁ X₁ => ?_⟩
        have hk1 : σ₁ A.known = some (.dict (st.chains.map kn)) := H₁.known
        simp only [attr_known H₁, setP_known hk1 hf hb]
        have a1 : (σ₁.set A.known (.dict ((st.chains ++ [(st.next, ps)]).map kn))) A.b = some (.inst 129 A.d) := (Sto.set_ne _ _ H.b_known).trans H₁.b
        have a2 : (σ₁.set A.known (.dict ((st.chains ++ [(st.next, ps)]).map kn))) A.d = some (.attrs (bAttrs ar A (st.next + 1))) := (Sto.set_ne _ _ H.d_known).trans H₁.d
        have a3 : (σ₁.set A.known (.dict ((st.chains ++ [(st.next, ps)]).map kn))) A.chains = some (.list (st.chains.map cv)) := (Sto.set_ne _ _ H.chains_known).trans H₁.chains
        rw [attrP_at a1 a2 (x := "chains") (v := .ref A.chains) rfl]
        simp only [isListP_at a3, true_and, List.length_cons, List.length_nil, Nat.reduceAdd, sl2]
        rw [appP_at a3 (by simp; lia)]
        simp only [plainK_n]
        have := h ((σ₁.set A.known (.dict ((st.chains ++ [(st.next, ps)]).map kn))).set A.chains (.list ((st.chains ++ [(st.next, ps)]).map cv)))
        rw [hch] at this
        have q := this (H₁.addChain (st.next, ps)) (X₁.trans ((Ext.put (.inr (.inr (.inr rfl)))).trans (.put (.inr (.inr (.inl rfl))))))
        simpa [cv] using q
end Mine
namespace Mine
open PySem PySem.W PySem.Calls PyProof.Rows PySem.Spec
noncomputable def Key.arg : Key → KA
  | .struct n => .i n
  | .const t v => .p t v
  | _ => .i 0
noncomputable def Key.name : Key → String
  | .var => "var"
  | .list => "list"
  | .struct _ => "struct"
  | .const _ _ => "const"
noncomputable def Key.isKind (con : Bool) : Key → Bool
  | .const _ _ => con
  | .struct _ => !con
  | _ => false
noncomputable def KA.isKind (con : Bool) : KA → Bool
  | .p _ _ => con
  | .i _ => !con
noncomputable def kindStr (con : Bool) : String := if con then "const" else "struct"
theorem Key.arg_kind {con : Bool} {k : Key} (h : k.isKind con = true) : k.arg.isKind con = true := by cases k <;> first | exact h | cases h
theorem name_kind (k : Key) (con : Bool) : decide (k.name = kindStr con) = k.isKind con := by cases k <;> cases con <;> rfl
theorem so_name (k : Key) : PyData.strOk (Str.ofString k.name) = true := match k with | .var => so_var | .list => so_list | .struct _ => so_struct | .const _ _ => so_const
theorem so_kind (con : Bool) : PyData.strOk (Str.ofString (kindStr con)) = true := match con with | false => so_struct | true => so_const
theorem eqP_str {f : Bool → Bool} {a b : String} {σ : Sto} {Q : PV → Sto → Prop} (ha : PyData.strOk (Str.ofString a) = true) (hb : PyData.strOk (Str.ofString b) = true) : eqP f (sv a) (sv b) σ Q = Q (.bool (f (decide (a = b)))) σ := by
  rw [eqP_of (da := sd a) (db := sd b) (by simp [deep, ha]) (by simp [deep, hb]) rfl rfl]
  have : PyData.eqv (sd a) (sd b) = decide (a = b) := by simp [PyData.eqv, sbeq]
  rw [this]
theorem getP_kv0 (k : Key) {σ : Sto} {Q : PV → Sto → Prop} : getP (kv k) (.int 0) σ Q = Q (sv k.name) σ := by
  cases k <;> simp only [kv, getP_t, seqP0, Key.name]
theorem getP_kv1 {con : Bool} {k : Key} (h : k.isKind con = true) {σ : Sto} {Q : PV → Sto → Prop} : getP (kv k) (.int 1) σ Q = Q (kav k.arg) σ := by
  cases k with
  | var => cases h
  | list => cases h
  | struct n => simp only [kv, getP_t, seqP1, Key.arg, kav]
  | const t v => simp only [kv, getP_t, seqP1, Key.arg, kav]
theorem find_some_any {α : Type} (p : α → Bool) : ∀ l : List α, (l.find? p).isSome = l.any p
  | [] => rfl
  | x :: r => by
    simp only [List.find?_cons, List.any_cons]
    cases h : p x with
    | true => rfl
    | false => simpa using find_some_any p r
theorem toDK_kav (a : KA) : toDK (kav a) = some (kadk a) := by cases a <;> rfl
theorem kadk_inj {a b : KA} (h : kadk a = kadk b) : a = b := by
  cases a <;> cases b <;> simp [kadk] at h
  · rw [h]
  · rw [h.1, h.2]
noncomputable def kaD (t : List (KA × PV)) : List (DK × PV) := t.map fun p => (kadk p.1, p.2)
theorem kind_ka {con : Bool} {t : List (KA × PV)} (ht : ∀ p ∈ t, p.1.isKind con = true) {a : KA} (ha : a.isKind con = true) : kindOk (kaD t) (kadk a) := by
  cases a with
  | i n =>
    intro x hx
    obtain ⟨p, hp, rfl⟩ := List.mem_map.mp hx
    have := ht p hp
    obtain ⟨q, v⟩ := p
    cases q with
    | i m => exact ⟨m, rfl⟩
    | p t v => simp [KA.isKind] at this ha; rw [this] at ha; cases ha
  | p t1 v1 =>
    intro x hx
    obtain ⟨p, hp, rfl⟩ := List.mem_map.mp hx
    have := ht p hp
    obtain ⟨q, v⟩ := p
    cases q with
    | i m => simp [KA.isKind] at this ha; rw [this] at ha; cases ha
    | p t v => exact ⟨[t, v], rfl⟩
theorem dget_ka (a : KA) : ∀ t : List (KA × PV), dget (kaD t) (kadk a) = (t.find? fun p => decide (p.1 = a)).map (·.2)
  | [] => rfl
  | c :: r => by
    have ih := dget_ka a r
    unfold dget kaD at ih ⊢
    simp only [List.map_cons, List.find?_cons]
    by_cases h : c.1 = a
    · simp [h]
    · have h' : kadk c.1 ≠ kadk a := fun e => h (kadk_inj e)
      simp only [h, h', decide_false]
      exact ih
noncomputable def tabStep (keys : List Key) (ps : List Int) (con : Bool) (acc : BState × List (KA × Int)) (p : Int) : BState × List (KA × Int) :=
  if (kAt keys p).isKind con && !(acc.2.any fun x => decide (x.1 = (kAt keys p).arg)) then
    ((acc.1.chain (ps.filter fun q => matchK (kAt keys q) (kAt keys p))).2, acc.2 ++ [((kAt keys p).arg, (acc.1.chain (ps.filter fun q => matchK (kAt keys q) (kAt keys p))).1)])
  else acc
noncomputable def tableF (keys : List Key) (ps : List Int) (con : Bool) (st : BState) : BState × List (KA × Int) := ps.foldl (tabStep keys ps con) (st, [])
theorem chain_len (st : BState) (ps : List Int) : (st.chain ps).2.chains.length ≤ st.chains.length + 1 := by
  unfold BState.chain
  split
  · exact Nat.le_succ _
  · exact Nat.le_succ _
  · split
    · exact Nat.le_succ _
    · simp
theorem tab_len (keys : List Key) (ps : List Int) (con : Bool) (acc : BState × List (KA × Int)) (p : Int) : (tabStep keys ps con acc p).1.chains.length ≤ acc.1.chains.length + 1 ∧ (tabStep keys ps con acc p).2.length ≤ acc.2.length + 1 := by
  unfold tabStep
  split
  · exact ⟨chain_len _ _, by simp⟩
  · exact ⟨by lia, by lia⟩
theorem tab_lens (keys : List Key) (ps : List Int) (con : Bool) : ∀ (l : List Int) (acc : BState × List (KA × Int)), (l.foldl (tabStep keys ps con) acc).1.chains.length ≤ acc.1.chains.length + l.length ∧ (l.foldl (tabStep keys ps con) acc).2.length ≤ acc.2.length + l.length
  | [], acc => ⟨Nat.le_refl _, Nat.le_refl _⟩
  | p :: r, acc => by
    have h1 := tab_len keys ps con acc p
    have h2 := tab_lens keys ps con r (tabStep keys ps con acc p)
    simp only [List.foldl_cons, List.length_cons]
    lia
theorem tab_kinds (keys : List Key) (ps : List Int) (con : Bool) : ∀ (l : List Int) (acc : BState × List (KA × Int)), (∀ x ∈ acc.2, x.1.isKind con = true) → ∀ x ∈ (l.foldl (tabStep keys ps con) acc).2, x.1.isKind con = true
  | [], acc, h => h
  | p :: r, acc, h => by
    refine tab_kinds keys ps con r _ fun x hx => ?_
    unfold tabStep at hx
    split at hx
    · rename_i hc
      simp only [List.mem_append, List.mem_singleton] at hx
      rcases hx with hx | rfl
      · exact h x hx
      · simp only [Bool.and_eq_true] at hc
        exact Key.arg_kind hc.1
    · exact h x hx
theorem BS.not {ar : Int} {A : BA} {st : BState} {σ : Sto} (H : BS ar A st σ) {a : Addr} (h : σ a = none) : ¬ mods A a := by
  rintro (rfl | rfl | rfl | rfl)
  · rw [H.d] at h; cases h
  · rw [H.rows] at h; cases h
  · rw [H.chains] at h; cases h
  · rw [H.known] at h; cases h
noncomputable def trues (t : List (KA × Int)) : List (KA × PV) := t.map fun x => (x.1, .bool true)
noncomputable def tvs (t : List (KA × Int)) : List PV := t.map fun p => .tup [kav p.1, .int p.2]
inductive S_table (args : List PV) (σ : Sto) (Q : PV → Sto → Prop) : Prop
  | mk : ∀ ar A st σ₀ keys pa ps con, (args = [.ref A.b, .ref pa, sv (kindStr con)]) → (BS ar A st σ) → (Old A σ₀ σ) → (CS A.codes keys σ₀) → (keys.length ≤ 1000) → (σ pa = some (.list (il ps))) → (¬ mods A pa) → (st.chains.length + ps.length ≤ 1000) → (Valid keys ps) → (∀ σ', BS ar A (tableF keys ps con st).1 σ' → Ext A σ σ' → Q (tv (tableF keys ps con st).2) σ') → S_table args σ Q
noncomputable def d_tb_if (F_chain F_matching_places : FWP) : SWP := (dIf (dAndT (dTest (dOp (eqP id) (dOp getP (dName "key") (dVal (.int 0))) (dName "kind"))) (dAndT (dTest (dOp (inP not) (dOp getP (dName "key") (dVal (.int 1))) (dName "seen"))) dAndNil)) (dSeq (dSetItem (dName "seen") (dOp getP (dName "key") (dVal (.int 1))) (dVal (.bool true)))
 (dSeq (dExpr (dAppend (dName "pairs") (dTup (dCons (dOp getP (dName "key") (dVal (.int 1))) (dCons (dMeth 129 "chain" F_chain (dName "self") (dCons (dMeth 129 "matching_places" F_matching_places (dName "self") (dCons (dName "places") (dCons (dName "key") dNil))) dNil)) dNil)))))
 dEnd)) dEnd)
noncomputable def d_tb_body (F_chain F_matching_places : FWP) : SWP := (dSeq (dAssign "key" (dAttr 178 "key" (dOp getP (dAttr 129 "codes" (dName "self")) (dName "place"))))
 (dSeq (d_tb_if F_chain F_matching_places)
 dEnd))
theorem d_tb_eq (F_chain F_matching_places : FWP) : d_table F_chain F_matching_places =
 (dSeq (dAssign "pairs" (dList dNil))
 (dSeq (dAssign "seen" dDict0)
 (dSeq (dFor "place" (dName "places") (d_tb_body F_chain F_matching_places))
 (dSeq (dRet (dCall tupleP (dCons (dName "pairs") dNil)))
 dEnd)))) := rfl
structure TBI (A : BA) (pa a b : Addr) (con : Bool) (ρ : PEnv) : Prop where
  e1 : ρ "pairs" = some (.ref a)
  e2 : ρ "seen" = some (.ref b)
  e3 : ρ "self" = some (.ref A.b)
  e4 : ρ "places" = some (.ref pa)
  e5 : ρ "kind" = some (sv (kindStr con))
theorem trues_kind {con : Bool} {t : List (KA × Int)} (h : ∀ x ∈ t, x.1.isKind con = true) : ∀ p ∈ trues t, p.1.isKind con = true := by
  intro p hp
  obtain ⟨x, hx, rfl⟩ := List.mem_map.mp hp
  exact h x hx
theorem in_trues {con : Bool} {t : List (KA × Int)} (h : ∀ x ∈ t, x.1.isKind con = true) {σ : Sto} {b : Addr} (eb : σ b = some (.dict (kaD (trues t)))) {k : KA} (hk : k.isKind con = true) {Q : PV → Sto → Prop} : inP not (kav k) (.ref b) σ Q = Q (.bool (!(t.any fun x => decide (x.1 = k)))) σ := by
  have hd : (dget (kaD (trues t)) (kadk k)).isSome = t.any fun x => decide (x.1 = k) := by
    rw [dget_ka, Option.isSome_map, trues, List.find?_map, Option.isSome_map, find_some_any]
    rfl
  exact inP_dict eb (toDK_kav k) (kind_ka (trues_kind h) hk) hd
theorem put_trues {con : Bool} {t : List (KA × Int)} (h : ∀ x ∈ t, x.1.isKind con = true) (hl : t.length ≤ 1000) {σ : Sto} {b : Addr} (eb : σ b = some (.dict (kaD (trues t)))) {k : KA} (hk : k.isKind con = true) (hany : (t.any fun x => decide (x.1 = k)) = false) {Q : Sto → Prop} : setP (.ref b) (kav k) (.bool true) σ Q = Q (σ.set b (.dict (kaD (trues t ++ [(k, .bool true)])))) := by
  have sl := sizeLine_big
  have hn : dget (kaD (trues t)) (kadk k) = none := by
    rw [dget_ka, trues, List.find?_map]
    have : t.find? ((fun p => decide (p.1 = k)) ∘ fun x => (x.1, PV.bool true)) = none := by
      rw [List.find?_eq_none]
      intro x hx
      rw [List.any_eq_false] at hany
      exact hany x hx
    rw [this]; rfl
  rw [setP_new eb (toDK_kav k) (kind_ka (trues_kind h) hk) (by simp [kaD, trues]; lia) hn, kaD, kaD, List.map_append]; rfl
theorem tb_turn {ar : Int} {A : BA} {keys : List Key} {pa a b : Addr} {ps : List Int} {con : Bool} {acc : BState × List (KA × Int)} {p : Int} {σ σ₀ σ' : Sto} {ρ : PEnv} {K : PFlow → PEnv → Sto → Prop} (hb : keys.length ≤ 1000) (hp : σ pa = some (.list (il ps))) (hpm : ¬ mods A pa) (ha : σ a = none) (hb0 : σ b = none) (hab : b ≠ a) (ham : ¬ mods A a) (hbm : ¬ mods A b) (HA : σ A.b ≠ none) (hv : Valid keys ps) (hl : acc.1.chains.length + 1 ≤ 1000) (hl2 : acc.2.length ≤ 1000) (hl3 : ps.length ≤ 1000) (C : CS A.codes keys σ₀) (O : Old A σ₀ σ) (hp0 : 0 ≤ p) (hp1 : p < (keys.length : Int)) (kinds : ∀ x ∈ acc.2, x.1.isKind con = true)
    (E : TBI A pa a b con ρ) (ep : ρ "place" = some (.int p)) (H' : BS ar A acc.1 σ') (X' : Ext A σ σ') (ea : σ' a = some (.list (tvs acc.2))) (eb : σ' b = some (.dict (kaD (trues acc.2))))
    (hK : ∀ ρ' σ'', TBI A pa a b con ρ' → BS ar A (tabStep keys ps con acc p).1 σ'' → Ext A σ σ'' → σ'' a = some (.list (tvs (tabStep keys ps con acc p).2)) → σ'' b = some (.dict (kaD (trues (tabStep keys ps con acc p).2))) → K .next ρ' σ'') : d_tb_body S_chain S_matching_places ρ σ' K := by
  have sl := sizeLine_big
  have C' := C.old (O.ext X')
  obtain ⟨q, k1, k2, _⟩ := C'.key hb hp0 hp1
  generalize hk : kAt keys p = k at *
  have step : tabStep keys ps con acc p = if k.isKind con && !(acc.2.any fun x => decide (x.1 = k.arg)) then
      ((acc.1.chain (ps.filter fun q => matchK (kAt keys q) k)).2, acc.2 ++ [(k.arg, (acc.1.chain (ps.filter fun q => matchK (kAt keys q) k)).1)]) else acc := by unfold tabStep; rw [hk]
  rw [step] at hK
  have E1 : TBI A pa a b con (ρ.set "key" (kv k)) := ⟨E.e1, E.e2, E.e3, E.e4, E.e5⟩
  have ek : (ρ.set "key" (kv k)) "key" = some (kv k) := rfl
  rw [d_tb_body, seq_assign, dAttr, dOp, dAttr, name_at E.e3, attr_codes H', name_at ep, k1, k2, seq_end]
  generalize ρ.set "key" (kv k) = ρ₁ at *
  have skip : (k.isKind con && !(acc.2.any fun x => decide (x.1 = k.arg))) = false → K .next ρ₁ σ' := by
    intro hc
    rw [hc, if_neg Bool.false_ne_true] at hK
    exact hK _ _ E1 H' X' ea eb
  rw [d_tb_if, dIf, dAndT, dTest, dOp, dOp, name_at ek, dVal, getP_kv0, name_at E1.e5, eqP_str (so_name k) (so_kind con), id, name_kind, truP_b]
  cases hkk : k.isKind con with
  | false =>
    rw [if_neg Bool.false_ne_true, if_neg Bool.false_ne_true]
    exact skip (by rw [hkk]; rfl)
  | true =>
    rw [if_pos rfl, dAndT, dTest, dOp, dOp, name_at ek, dVal, getP_kv1 hkk, name_at E1.e2, in_trues kinds eb (Key.arg_kind hkk), truP_b]
    cases hany : (acc.2.any fun x => decide (x.1 = k.arg)) with
    | true =>
      rw [Bool.not_true, if_neg Bool.false_ne_true, if_neg Bool.false_ne_true]
      exact skip (by rw [hany]; simp)
    | false =>
      rw [hkk, hany, Bool.not_false, Bool.and_self, if_pos rfl] at hK
      rw [Bool.not_false, if_pos rfl, dAndNil, if_pos rfl, dSeq, dSetItem, dVal, name_at E1.e2, dOp, name_at ek, dVal, getP_kv1 hkk, put_trues kinds hl2 eb (Key.arg_kind hkk) hany]
      have bne : b ≠ A.b := fun e => HA (e ▸ hb0)
      have H1 : BS ar A acc.1 (σ'.set b (.dict (kaD (trues acc.2 ++ [(k.arg, .bool true)])))) := H'.other hbm bne
      have ea1 : (σ'.set b (.dict (kaD (trues acc.2 ++ [(k.arg, .bool true)])))) a = some (.list (tvs acc.2)) := (Sto.set_ne _ _ hab.symm).trans ea
      have X1 : Ext A σ (σ'.set b (.dict (kaD (trues acc.2 ++ [(k.arg, .bool true)])))) := fun x o hx e => by
        have : x ≠ b := by rintro rfl; rw [hb0] at e; cases e
        rw [Sto.set_ne _ _ this]; exact X' x o hx e
      have eb1 : (σ'.set b (.dict (kaD (trues acc.2 ++ [(k.arg, .bool true)])))) b = _ := Sto.set_same ..
      generalize σ'.set b (.dict (kaD (trues acc.2 ++ [(k.arg, .bool true)]))) = σ₁ at *
      dsimp only
      rw [seq_expr, dAppend, name_at E1.e1]
      refine ⟨isListP_at ea1, ?_⟩
      rw [dTup, dCons, dOp, name_at ek, dVal, getP_kv1 hkk, dCons, dMeth, name_at E1.e3]
      refine ⟨meth_b H1 rfl, ?_⟩
      rw [dCons, dMeth, name_at E1.e3]
      refine ⟨meth_b H1 rfl, ?_⟩
      rw [dCons, name_at E1.e4, dCons, name_at ek, dNil]
      refine ⟨ar, A, acc.1, keys, pa, ps, k, rfl, H1, C.old (O.ext X1), hb, X1 _ _ hpm hp, hl3, hv, fun c hc => ?_⟩
      rw [dNil]
      refine ⟨ar, A, acc.1, c, _, rfl, H1.new hc, Sto.set_same .., Nat.le_trans (List.length_filter_le _ _) hl3, by lia, fun σ₂ H₂ X₂ => ?_⟩
      have X02 : Ext A σ₁ σ₂ := (Ext.new hc).trans X₂
      have ea2 := X02 _ _ ham ea1
      have eb2 := X02 _ _ hbm eb1
      rw [dNil]
      refine ⟨sl2, ?_⟩
      rw [appP_at ea2 (by rw [tvs, List.length_map]; lia)]
      have ane : a ≠ A.b := fun e => HA (e ▸ ha)
      refine hK _ _ E1 (H₂.other ham ane) (fun x o hx e => ?_) ?_ ?_
      · have : x ≠ a := by rintro rfl; rw [ha] at e; cases e
        rw [Sto.set_ne _ _ this]; exact X02 x o hx (X1 x o hx e)
      · rw [Sto.set_same]; simp [tvs]
      · rw [Sto.set_ne _ _ hab, eb2]; simp [trues, kaD]
theorem s_table : ∀ args σ Q, S_table args σ Q → fnP ["self", "places", "kind"] (d_table S_chain S_matching_places) args σ Q := by
  rintro args σ Q ⟨ar, A, st, σ₀, keys, pa, ps, con, rfl, H, O, C, hb, hp, hpm, hl, hv, h⟩
  refine ⟨rfl, ?_⟩
  have sl := sizeLine_big
  rw [d_tb_eq, seq_assign, dList, dNil]
  refine ⟨sl0, fun a ha => ?_⟩
  dsimp only
  rw [seq_assign]
  intro b hb'
  have hab : b ≠ a := by rintro rfl; rw [Sto.set_same] at hb'; cases hb'
  have hb0 : σ b = none := by rwa [Sto.set_ne _ _ hab] at hb'
  have hpa : pa ≠ a := by rintro rfl; rw [ha] at hp; cases hp
  have hpb : pa ≠ b := by rintro rfl; rw [hb0] at hp; cases hp
  have ham : ¬ mods A a := H.not ha
  have hbm : ¬ mods A b := H.not hb0
  have hp1 : ((σ.set a (.list [])).set b (.dict [])) pa = some (.list (il ps)) := by rw [Sto.set_ne _ _ hpb, Sto.set_ne _ _ hpa]; exact hp
  have HA : σ A.b ≠ none := by rw [H.b]; simp
  rw [dSeq, dFor, name_at (v := .ref pa) rfl, forP, hp1]
  dsimp only
  refine forR_inv (I := fun i ρ σ' => TBI A pa a b con ρ ∧
    BS ar A ((ps.take i).foldl (tabStep keys ps con) (st, [])).1 σ' ∧ Ext A σ σ' ∧ σ' a = some (.list (tvs ((ps.take i).foldl (tabStep keys ps con) (st, [])).2)) ∧ σ' b = some (.dict (kaD (trues ((ps.take i).foldl (tabStep keys ps con) (st, [])).2))))
    (fun i ρ σ' hI => hI.2.2.1 _ _ hpm hp) ?_ ?_ _ _ ?_
  · rintro i v ρ σ' K hu ⟨E, H', X', ea, eb⟩ hK _
    have hi : i < ps.length := by
      have := (List.getElem?_eq_some_iff.mp hu).1
      simpa using this
    have hpi : ps[i]? = some ps[i] := List.getElem?_eq_getElem hi
    rw [List.getElem?_map, hpi] at hu
    cases hu
    have hvi := hv ps[i] (List.getElem_mem hi)
    have ht : ps.take (i + 1) = ps.take i ++ [ps[i]] := by rw [List.take_add_one, hpi]; rfl
    rw [ht, List.foldl_append, List.foldl_cons, List.foldl_nil] at hK
    have lens := tab_lens keys ps con (ps.take i) (st, [])
    have kinds := tab_kinds keys ps con (ps.take i) (st, []) (fun x hx => nomatch hx)
    have htl : (ps.take i).length = i := by rw [List.length_take]; lia
    rw [htl, List.length_nil] at lens
    generalize (ps.take i).foldl (tabStep keys ps con) (st, []) = acc at *
    dsimp only at lens
    exact tb_turn hb hp hpm ha hb0 hab ham hbm HA hv (by lia) (by lia) (by lia) C O hvi.1 hvi.2 kinds ⟨E.e1, E.e2, E.e3, E.e4, E.e5⟩ rfl H' X' ea eb fun ρ' σ'' E' H'' X'' ea' eb' => hK _ _ ⟨E', H'', X'', ea', eb'⟩
  · rintro ρ σ' ⟨E, H', X', ea, eb⟩
    rw [List.length_map, List.take_length] at *
    have lens := tab_lens keys ps con ps (st, [])
    simp only [List.length_nil] at lens
    dsimp only
    rw [seq_end, dRet, dCall, dCons, name_at E.e1, dNil, tupleP_list ea (by rw [tvs, List.length_map]; lia)]
    exact h σ' H' X'
  · refine ⟨⟨rfl, rfl, rfl, rfl, rfl⟩, (H.new ha).new hb', ?_, ?_, ?_⟩
    · exact (Ext.new ha).trans (Ext.new hb')
    · rw [Sto.set_ne _ _ hab.symm, Sto.set_same]; rfl
    · rw [Sto.set_same]; rfl
end Mine
namespace Mine
open PySem PySem.W PySem.Calls PyProof.Rows PySem.Spec
noncomputable def bump (c : Bool) (st : BState) : BState := if c then { st with next := st.next + 1 } else st
noncomputable def lab (c : Bool) (d : Int) (st : BState) : Int := if c then st.next else d
noncomputable def swRows (v c l s : Int) (t1 t2 : List (KA × Int)) (d : Int) : List Row :=
  [.sterm v c l s] ++ (if t1.isEmpty then [] else [.label c, .stab true t1 d]) ++ (if t2.isEmpty then [] else [.label s, .stab false t2 d])
noncomputable def switchT (keys : List Key) (ps : List Int) (cl sl d : Int) (t1 t2 : List (KA × Int)) (n3 : BState) : BState :=
  let rl := n3.chain (ps.filter fun p => matchK (kAt keys p) .list)
  let ra := rl.2.chain ps
  { ra.2 with rows := ra.2.rows ++ swRows ra.1 cl rl.1 sl t1 t2 d }
noncomputable def switchF (keys : List Key) (ps : List Int) (st : BState) : BState :=
  let r0 := st.chain (ps.filter fun p => decide (kAt keys p = .var))
  let tc := tableF keys ps true r0.2
  let ts := tableF keys ps false tc.1
  let n2 := bump (!tc.2.isEmpty) ts.1
  switchT keys ps (lab (!tc.2.isEmpty) r0.1 ts.1) (lab (!ts.2.isEmpty) r0.1 n2) r0.1 tc.2 ts.2 (bump (!ts.2.isEmpty) n2)
noncomputable def d_switch_tail (F_chain F_matching_places : FWP) : SWP :=
 (dSeq (dAssign "list_label" (dMeth 129 "chain" F_chain (dName "self") (dCons (dMeth 129 "matching_places" F_matching_places (dName "self") (dCons (dName "places") (dCons (dVal (.tup [.str (Str.ofString "list")])) dNil))) dNil)))
 (dSeq (dExpr (dAppend (dAttr 129 "rows" (dName "self")) (dTup (dCons (dVal (.str (Str.ofString "switch_on_term"))) (dCons (dMeth 129 "chain" F_chain (dName "self") (dCons (dName "places") dNil)) (dCons (dName "const_label") (dCons (dName "list_label") (dCons (dName "struct_label") dNil))))))))
 (dSeq (dIf (dTest (dOp gtP (dCall lenP (dCons (dName "constants") dNil)) (dVal (.int 0)))) (dSeq (dExpr (dAppend (dAttr 129 "rows" (dName "self")) (dTup (dCons (dVal (.str (Str.ofString "label"))) (dCons (dName "const_label") dNil)))))
 (dSeq (dExpr (dAppend (dAttr 129 "rows" (dName "self")) (dTup (dCons (dVal (.str (Str.ofString "switch_on_constant"))) (dCons (dName "constants") (dCons (dName "default") dNil))))))
 dEnd)) dEnd)
 (dSeq (dIf (dTest (dOp gtP (dCall lenP (dCons (dName "structures") dNil)) (dVal (.int 0)))) (dSeq (dExpr (dAppend (dAttr 129 "rows" (dName "self")) (dTup (dCons (dVal (.str (Str.ofString "label"))) (dCons (dName "struct_label") dNil)))))
 (dSeq (dExpr (dAppend (dAttr 129 "rows" (dName "self")) (dTup (dCons (dVal (.str (Str.ofString "switch_on_structure"))) (dCons (dName "structures") (dCons (dName "default") dNil))))))
 dEnd)) dEnd)
 dEnd))))
theorem d_switch_eq (F_chain F_matching_places F_fresh_label F_table F_variable_places : FWP) : d_switch F_chain F_matching_places F_fresh_label F_table F_variable_places =
 (dSeq (dAssign "default" (dMeth 129 "chain" F_chain (dName "self") (dCons (dMeth 129 "variable_places" F_variable_places (dName "self") (dCons (dName "places") dNil)) dNil)))
 (dSeq (dAssign "constants" (dMeth 129 "table" F_table (dName "self") (dCons (dName "places") (dCons (dVal (.str (Str.ofString "const"))) dNil))))
 (dSeq (dAssign "structures" (dMeth 129 "table" F_table (dName "self") (dCons (dName "places") (dCons (dVal (.str (Str.ofString "struct"))) dNil))))
 (dSeq (dAssign "const_label" (dName "default"))
 (dSeq (dAssign "struct_label" (dName "default"))
 (dSeq (dIf (dTest (dOp gtP (dCall lenP (dCons (dName "constants") dNil)) (dVal (.int 0)))) (dSeq (dAssign "const_label" (dMeth 129 "fresh_label" F_fresh_label (dName "self") dNil))
 dEnd) dEnd)
 (dSeq (dIf (dTest (dOp gtP (dCall lenP (dCons (dName "structures") dNil)) (dVal (.int 0)))) (dSeq (dAssign "struct_label" (dMeth 129 "fresh_label" F_fresh_label (dName "self") dNil))
 dEnd) dEnd)
 (d_switch_tail F_chain F_matching_places)))))))) := rfl
theorem tab_next (keys : List Key) (ps : List Int) (con : Bool) (st : BState) : (tableF keys ps con st).1.chains.length ≤ st.chains.length + ps.length ∧ (tableF keys ps con st).2.length ≤ ps.length := by
  have := tab_lens keys ps con ps (st, [])
  simp only [List.length_nil, Nat.zero_add] at this
  exact this
theorem chain_rows_eq (st : BState) (ps : List Int) : (st.chain ps).2.rows = st.rows := by
  unfold BState.chain
  split
  · rfl
  · rfl
  · split <;> rfl
theorem tab_rows_eq (keys : List Key) (ps : List Int) (con : Bool) : ∀ (l : List Int) (acc : BState × List (KA × Int)), (l.foldl (tabStep keys ps con) acc).1.rows = acc.1.rows
  | [], acc => rfl
  | p :: r, acc => by
    rw [List.foldl_cons, tab_rows_eq keys ps con r]
    unfold tabStep
    split
    · exact chain_rows_eq _ _
    · rfl
theorem app_rows {ar : Int} {A : BA} {st : BState} {σ : Sto} (H : BS ar A st σ) (hb : st.rows.length ≤ 1000) (r : Row) {Q : PV → Sto → Prop} : appP (.ref A.rows) (rv r) σ Q = Q .none (σ.set A.rows (.list ((st.rows ++ [r]).map rv))) := by
  have sl := sizeLine_big
  rw [appP_at H.rows (by rw [List.length_map]; lia)]
  simp
theorem BS.app {ar : Int} {A : BA} {st : BState} {σ : Sto} (H : BS ar A st σ) (r : Row) : BS ar A { st with rows := st.rows ++ [r] } (σ.set A.rows (.list ((st.rows ++ [r]).map rv))) := H.setRows _
theorem Ext.rows {A : BA} {σ : Sto} {o : AObj} : Ext A σ (σ.set A.rows o) := .put (.inr (.inl rfl))
theorem lenP_tv (t : List (KA × Int)) (h : t.length ≤ 1000) {σ : Sto} {Q : PV → Sto → Prop} : lenP [tv t] σ Q = Q (.int t.length) σ := by
  have h1 : ((t.length : Nat) : Int) < 2 ^ 63 := by lia
  simp only [tv, lenP_t, List.length_map, h1, true_and]
inductive S_switch (args : List PV) (σ : Sto) (Q : PV → Sto → Prop) : Prop
  | mk : ∀ ar A st σ₀ keys pa ps, (args = [.ref A.b, .ref pa]) → (BS ar A st σ) → (Old A σ₀ σ) → (CS A.codes keys σ₀) → (keys.length ≤ 1000) → (σ pa = some (.list (il ps))) → (¬ mods A pa) → (st.chains.length + 4 * ps.length + 4 ≤ 1000) → (st.rows.length ≤ 900) → (Valid keys ps) → (∀ σ', BS ar A (switchF keys ps st) σ' → Ext A σ σ' → Q .none σ') → S_switch args σ Q
theorem rvLabel (l : Int) : PV.tup [.str (Str.ofString "label"), .int l] = rv (.label l) := rfl
theorem rvSterm (a b c d : Int) : PV.tup [.str (Str.ofString "switch_on_term"), .int a, .int b, .int c, .int d] = rv (.sterm a b c d) := rfl
theorem rvCon (t : List (KA × Int)) (d : Int) : PV.tup [.str (Str.ofString "switch_on_constant"), tv t, .int d] = rv (.stab true t d) := rfl
theorem rvStr (t : List (KA × Int)) (d : Int) : PV.tup [.str (Str.ofString "switch_on_structure"), tv t, .int d] = rv (.stab false t d) := rfl
theorem isEmpty_len (t : List (KA × Int)) : decide ((0 : Int) < (t.length : Int)) = !t.isEmpty := by
  cases t with
  | nil => rfl
  | cons => simp
theorem if_tab {x : String} {t : List (KA × Int)} {A B : SWP} {ρ : PEnv} {σ : Sto} {K : PFlow → PEnv → Sto → Prop} (e : ρ x = some (tv t)) (ht : t.length ≤ 1000) : dIf (dTest (dOp gtP (dCall lenP (dCons (dName x) dNil)) (dVal (.int 0)))) A B ρ σ K = if t.isEmpty = true then B ρ σ K else A ρ σ K := by
  rw [dIf, dTest, dOp, dCall, dCons, name_at e, dNil, lenP_tv t ht, dVal, gtP_i, truP_b, isEmpty_len]
  cases t.isEmpty <;> simp
theorem row_app {ar : Int} {A : BA} {st : BState} {σ : Sto} {ρ : PEnv} {nm : String} {e : EWP} {r : Row} {b : SWP} {K : PFlow → PEnv → Sto → Prop} (H : BS ar A st σ) (e1 : ρ nm = some (.ref A.b)) (hr : st.rows.length ≤ 1000) (he : ∀ Q, Q (rv r) σ → e ρ σ Q)
    (hb : ∀ σ', BS ar A { st with rows := st.rows ++ [r] } σ' → Ext A σ σ' → b ρ σ' K) : dSeq (dExpr (dAppend (dAttr 129 "rows" (dName nm)) e)) b ρ σ K := by
  rw [seq_expr, dAppend, dAttr, name_at e1, attr_rows H]
  refine ⟨isListP_at H.rows, he _ ?_⟩
  rw [app_rows H hr]
  exact hb _ (H.app r) Ext.rows
theorem tup_lab {x : String} {l : Int} {ρ : PEnv} {σ : Sto} (e : ρ x = some (.int l)) : ∀ Q : PV → Sto → Prop, Q (rv (.label l)) σ → dTup (dCons (dVal (.str (Str.ofString "label"))) (dCons (dName x) dNil)) ρ σ Q := by
  intro Q q
  rw [dTup, dCons, dVal, dCons, name_at e, dNil]
  exact ⟨sl2, q⟩
theorem s_switch_tail {ar : Int} {A : BA} {n3 : BState} {σ : Sto} {keys : List Key} {pa : Addr} {ps : List Int} {ρ : PEnv} {cl sl d : Int} {t1 t2 : List (KA × Int)} {Q : PFlow → PEnv → Sto → Prop} (H : BS ar A n3 σ) (C : ∀ σ', Ext A σ σ' → CS A.codes keys σ') (hb : keys.length ≤ 1000) (hp : σ pa = some (.list (il ps))) (hpm : ¬ mods A pa) (hl : n3.chains.length + ps.length + 2 ≤ 1000) (hr : n3.rows.length ≤ 900) (hv : Valid keys ps) (ht1 : t1.length ≤ 1000) (ht2 : t2.length ≤ 1000)
    (e1 : ρ "self" = some (.ref A.b)) (e2 : ρ "places" = some (.ref pa)) (e3 : ρ "const_label" = some (.int cl)) (e4 : ρ "struct_label" = some (.int sl)) (e5 : ρ "default" = some (.int d)) (e6 : ρ "constants" = some (tv t1)) (e7 : ρ "structures" = some (tv t2))
    (h : ∀ ρ' σ', BS ar A (switchT keys ps cl sl d t1 t2 n3) σ' → Ext A σ σ' → Q .next ρ' σ') : d_switch_tail S_chain S_matching_places ρ σ Q := by
  rw [d_switch_tail, seq_assign, dMeth, name_at e1]
  refine ⟨meth_b H rfl, ?_⟩
  rw [dCons, dMeth, name_at e1]
  refine ⟨meth_b H rfl, ?_⟩
  rw [dCons, name_at e2, dCons, dVal, dNil]
  refine ⟨ar, A, n3, keys, pa, ps, .list, rfl, H, C σ .refl, hb, hp, by lia, hv, fun a ha => ?_⟩
  rw [dNil]
  refine ⟨ar, A, n3, a, _, rfl, H.new ha, Sto.set_same .., Nat.le_trans (List.length_filter_le _ _) (by lia), by lia, fun σ₁ H₁ X₁ => ?_⟩
  replace X₁ : Ext A σ σ₁ := (Ext.new ha).trans X₁
  have l0 := chain_len n3 (ps.filter fun p => matchK (kAt keys p) .list)
  have r0 := chain_rows_eq n3 (ps.filter fun p => matchK (kAt keys p) .list)
  unfold switchT at h
  generalize n3.chain (ps.filter fun p => matchK (kAt keys p) .list) = c0 at *
  dsimp only at h ⊢
  have f1 : (ρ.set "list_label" (.int c0.1)) "self" = some (.ref A.b) := e1
  have f2 : (ρ.set "list_label" (.int c0.1)) "places" = some (.ref pa) := e2
  have f3 : (ρ.set "list_label" (.int c0.1)) "const_label" = some (.int cl) := e3
  have f4 : (ρ.set "list_label" (.int c0.1)) "struct_label" = some (.int sl) := e4
  have f5 : (ρ.set "list_label" (.int c0.1)) "default" = some (.int d) := e5
  have f6 : (ρ.set "list_label" (.int c0.1)) "constants" = some (tv t1) := e6
  have f7 : (ρ.set "list_label" (.int c0.1)) "structures" = some (tv t2) := e7
  have f8 : (ρ.set "list_label" (.int c0.1)) "list_label" = some (.int c0.1) := rfl
  generalize ρ.set "list_label" (.int c0.1) = ρ₁ at *
  rw [seq_expr, dAppend, dAttr, name_at f1, attr_rows H₁]
  refine ⟨isListP_at H₁.rows, ?_⟩
  rw [dTup, dCons, dVal, dCons, dMeth, name_at f1]
  refine ⟨meth_b H₁ rfl, ?_⟩
  rw [dCons, name_at f2, dNil]
  refine ⟨ar, A, c0.2, pa, ps, rfl, H₁, X₁ _ _ hpm hp, by lia, by lia, fun σ₂ H₂ X₂ => ?_⟩
  replace X₂ : Ext A σ σ₂ := X₁.trans X₂
  have l1 := chain_len c0.2 ps
  have r1 := chain_rows_eq c0.2 ps
  generalize c0.2.chain ps = c1 at *
  rw [dCons, name_at f3, dCons, name_at f8, dCons, name_at f4, dNil]
  refine ⟨sl5, ?_⟩
  have hr2 : c1.2.rows.length ≤ 900 := by rw [r1, r0]; exact hr
  rw [rvSterm, app_rows H₂ (by lia)]
  have H₃ := H₂.app (Row.sterm c1.1 cl c0.1 sl)
  have X₃ : Ext A σ _ := X₂.trans (Ext.rows (o := .list ((c1.2.rows ++ [Row.sterm c1.1 cl c0.1 sl]).map rv)))
  generalize σ₂.set A.rows (.list ((c1.2.rows ++ [Row.sterm c1.1 cl c0.1 sl]).map rv)) = σ₃ at *
  have second : ∀ σ₄ rows₁, BS ar A { c1.2 with rows := rows₁ } σ₄ → Ext A σ σ₄ → rows₁ = (c1.2.rows ++ [Row.sterm c1.1 cl c0.1 sl]) ++ (if t1.isEmpty then [] else [Row.label cl, Row.stab true t1 d]) →
      (dSeq (dIf (dTest (dOp gtP (dCall lenP (dCons (dName "structures") dNil)) (dVal (.int 0)))) (dSeq (dExpr (dAppend (dAttr 129 "rows" (dName "self")) (dTup (dCons (dVal (.str (Str.ofString "label"))) (dCons (dName "struct_label") dNil))))) (dSeq (dExpr (dAppend (dAttr 129 "rows" (dName "self")) (dTup (dCons (dVal (.str (Str.ofString "switch_on_structure"))) (dCons (dName "structures") (dCons (dName "default") dNil)))))) dEnd)) dEnd) dEnd) ρ₁ σ₄ Q := by
    intro σ₄ rows₁ H₄ X₄ hrows
    have lr1 : rows₁.length ≤ 903 := by
      rw [hrows, List.length_append, List.length_append]
      split <;> simp only [List.length_cons, List.length_nil] <;> lia
    rw [seq_end, if_tab f7 ht2]
    cases h2 : t2.isEmpty with
    | true =>
      rw [if_pos rfl]
      refine h _ _ ?_ X₄
      rw [swRows, h2, if_pos rfl, List.append_nil, ← List.append_assoc, ← hrows]
      exact H₄
    | false =>
      rw [if_neg Bool.false_ne_true]
      refine row_app H₄ f1 (by dsimp only; lia) (tup_lab f4) fun σ₅ H₅ X₅ => ?_
      refine row_app (r := .stab false t2 d) H₅ f1 (by dsimp only; rw [List.length_append, List.length_singleton]; lia) (fun Q q => ?_) fun σ₆ H₆ X₆ => ?_
      · rw [dTup, dCons, dVal, dCons, name_at f7, dCons, name_at f5, dNil]
        exact ⟨sl3, q⟩
      · refine h _ _ ?_ ((X₄.trans X₅).trans X₆)
        rw [swRows, h2, if_neg Bool.false_ne_true, ← List.append_assoc, ← List.append_assoc, ← hrows]
        rw [show rows₁ ++ [Row.label sl, Row.stab false t2 d] = rows₁ ++ [Row.label sl] ++ [Row.stab false t2 d] by rw [List.append_assoc]; rfl]
        exact H₆
  simp only [plainK_n]
  rw [dSeq, if_tab f6 ht1]
  cases h1 : t1.isEmpty with
  | true =>
    rw [if_pos rfl]
    exact second σ₃ _ H₃ X₃ (by rw [h1, if_pos rfl, List.append_nil])
  | false =>
    rw [if_neg Bool.false_ne_true]
    refine row_app H₃ f1 (by dsimp only; rw [List.length_append, List.length_singleton]; lia) (tup_lab f3) fun σ₅ H₅ X₅ => ?_
    refine row_app (r := .stab true t1 d) H₅ f1 (by dsimp only; rw [List.length_append, List.length_append, List.length_singleton, List.length_singleton]; lia) (fun Q q => ?_) fun σ₆ H₆ X₆ => ?_
    · rw [dTup, dCons, dVal, dCons, name_at f6, dCons, name_at f5, dNil]
      exact ⟨sl3, q⟩
    · exact second σ₆ _ H₆ ((X₃.trans X₅).trans X₆) (by rw [h1, if_neg Bool.false_ne_true]; simp only [List.append_assoc]; rfl)
theorem s_switch : ∀ args σ Q, S_switch args σ Q → fnP ["self", "places"] (d_switch S_chain S_matching_places S_fresh S_table S_variable_places) args σ Q := by
  rintro args σ Q ⟨ar, A, st, σ₀, keys, pa, ps, rfl, H, O, C, hb, hp, hpm, hl, hr, hv, h⟩
  refine ⟨rfl, ?_⟩
  rw [d_switch_eq, seq_assign, dMeth, name_at (v := .ref A.b) rfl]
  refine ⟨meth_b H rfl, ?_⟩
  rw [dCons, dMeth, name_at (v := .ref A.b) rfl]
  refine ⟨meth_b H rfl, ?_⟩
  rw [dCons, name_at (v := .ref pa) rfl, dNil]
  refine ⟨ar, A, st, keys, pa, ps, rfl, H, C.old O, hb, hp, by lia, hv, fun a ha => ?_⟩
  rw [dNil]
  refine ⟨ar, A, st, a, _, rfl, H.new ha, Sto.set_same .., Nat.le_trans (List.length_filter_le _ _) (by lia), by lia, fun σ₁ H₁ X₁ => ?_⟩
  replace X₁ : Ext A σ σ₁ := (Ext.new ha).trans X₁
  have l0 := chain_len st (ps.filter fun p => decide (kAt keys p = .var))
  have r0 := chain_rows_eq st (ps.filter fun p => decide (kAt keys p = .var))
  unfold switchF at h
  generalize st.chain (ps.filter fun p => decide (kAt keys p = .var)) = c0 at *
  dsimp only at h ⊢
  rw [seq_assign, dMeth, name_at (v := .ref A.b) rfl]
  refine ⟨meth_b H₁ rfl, ?_⟩
  rw [dCons, name_at (v := .ref pa) rfl, dCons, dVal, dNil]
  refine ⟨ar, A, c0.2, σ₀, keys, pa, ps, true, rfl, H₁, O.ext X₁, C, hb, X₁ _ _ hpm hp, hpm, by lia, hv, fun σ₂ H₂ X₂ => ?_⟩
  replace X₂ : Ext A σ σ₂ := X₁.trans X₂
  have l1 := tab_next keys ps true c0.2
  have r1 : (tableF keys ps true c0.2).1.rows = c0.2.rows := tab_rows_eq keys ps true ps (c0.2, [])
  generalize tableF keys ps true c0.2 = tc at *
  rw [seq_assign, dMeth, name_at (v := .ref A.b) rfl]
  refine ⟨meth_b H₂ rfl, ?_⟩
  rw [dCons, name_at (v := .ref pa) rfl, dCons, dVal, dNil]
  refine ⟨ar, A, tc.1, σ₀, keys, pa, ps, false, rfl, H₂, O.ext X₂, C, hb, X₂ _ _ hpm hp, hpm, by lia, hv, fun σ₃ H₃ X₃ => ?_⟩
  replace X₃ : Ext A σ σ₃ := X₂.trans X₃
  have l2 := tab_next keys ps false tc.1
  have r2 : (tableF keys ps false tc.1).1.rows = tc.1.rows := tab_rows_eq keys ps false ps (tc.1, [])
  generalize tableF keys ps false tc.1 = ts at *
  rw [seq_assign, name_at (v := .int c0.1) rfl, seq_assign, name_at (v := .int c0.1) rfl]
  generalize hρ : (((((bindEnv ["self", "places"] [PV.ref A.b, PV.ref pa]).set "default" (.int c0.1)).set "constants" (tv tc.2)).set "structures" (tv ts.2)).set "const_label" (.int c0.1)).set "struct_label" (.int c0.1) = ρ
  have f1 : ρ "self" = some (.ref A.b) := by rw [← hρ]; rfl
  have f2 : ρ "places" = some (.ref pa) := by rw [← hρ]; rfl
  have f3 : ρ "const_label" = some (.int c0.1) := by rw [← hρ]; rfl
  have f4 : ρ "struct_label" = some (.int c0.1) := by rw [← hρ]; rfl
  have f5 : ρ "default" = some (.int c0.1) := by rw [← hρ]; rfl
  have f6 : ρ "constants" = some (tv tc.2) := by rw [← hρ]; rfl
  have f7 : ρ "structures" = some (tv ts.2) := by rw [← hρ]; rfl
  clear hρ
  have fin : ∀ ρ σ₄ n3 cl sl', ρ "self" = some (.ref A.b) → ρ "places" = some (.ref pa) → ρ "const_label" = some (.int cl) → ρ "struct_label" = some (.int sl') → ρ "default" = some (.int c0.1) → ρ "constants" = some (tv tc.2) → ρ "structures" = some (tv ts.2) → BS ar A n3 σ₄ → Ext A σ σ₄ → n3.chains = ts.1.chains → n3.rows = ts.1.rows →
      (∀ σ', BS ar A (switchT keys ps cl sl' c0.1 tc.2 ts.2 n3) σ' → Ext A σ σ' → Q .none σ') → d_switch_tail S_chain S_matching_places ρ σ₄ (fnEnd Q) := by
    intro ρ σ₄ n3 cl sl' f1 f2 f3 f4 f5 f6 f7 H₄ X₄ g1 g2 hq
    exact s_switch_tail H₄ (fun σ' X' => C.old (O.ext (X₄.trans X'))) hb (X₄ _ _ hpm hp) hpm (by rw [g1]; lia) (by rw [g2, r2, r1, r0]; lia) hv (by lia) (by lia) f1 f2 f3 f4 f5 f6 f7 fun ρ' σ' H' X' => hq σ' H' (X₄.trans X')
  have step2 : ∀ ρ σ₄ n2 cl, ρ "self" = some (.ref A.b) → ρ "places" = some (.ref pa) → ρ "const_label" = some (.int cl) → ρ "struct_label" = some (.int c0.1) → ρ "default" = some (.int c0.1) → ρ "constants" = some (tv tc.2) → ρ "structures" = some (tv ts.2) → BS ar A n2 σ₄ → Ext A σ σ₄ → n2.chains = ts.1.chains → n2.rows = ts.1.rows →
      (∀ σ', BS ar A (switchT keys ps cl (lab (!ts.2.isEmpty) c0.1 n2) c0.1 tc.2 ts.2 (bump (!ts.2.isEmpty) n2)) σ' → Ext A σ σ' → Q .none σ') →
      (dSeq (dIf (dTest (dOp gtP (dCall lenP (dCons (dName "structures") dNil)) (dVal (.int 0)))) (dSeq (dAssign "struct_label" (dMeth 129 "fresh_label" S_fresh (dName "self") dNil)) dEnd) dEnd) (d_switch_tail S_chain S_matching_places)) ρ σ₄ (fnEnd Q) := by
    intro ρ σ₄ n2 cl f1 f2 f3 f4 f5 f6 f7 H₄ X₄ g1 g2 hq
    rw [dSeq, if_tab f7 (by lia)]
    cases h2 : ts.2.isEmpty with
    | true =>
      rw [h2] at hq
      rw [if_pos rfl]
      exact fin _ _ _ _ _ f1 f2 f3 f4 f5 f6 f7 H₄ X₄ g1 g2 hq
    | false =>
      rw [h2] at hq
      rw [if_neg Bool.false_ne_true, seq_assign, dMeth, name_at f1]
      refine ⟨meth_b H₄ rfl, ?_⟩
      rw [dNil]
      refine ⟨ar, A, n2, rfl, H₄, fun σ₅ H₅ X₅ => ?_⟩
      exact fin _ _ _ _ _ f1 f2 f3 rfl f5 f6 f7 H₅ (X₄.trans X₅) g1 g2 hq
  rw [dSeq, if_tab f6 (by lia)]
  cases h1 : tc.2.isEmpty with
  | true =>
    rw [h1] at h
    rw [if_pos rfl]
    exact step2 _ σ₃ ts.1 c0.1 f1 f2 f3 f4 f5 f6 f7 H₃ X₃ rfl rfl h
  | false =>
    rw [h1] at h
    rw [if_neg Bool.false_ne_true, seq_assign, dMeth, name_at f1]
    refine ⟨meth_b H₃ rfl, ?_⟩
    rw [dNil]
    refine ⟨ar, A, ts.1, rfl, H₃, fun σ₄ H₄ X₄ => ?_⟩
    exact step2 _ σ₄ (bump true ts.1) ts.1.next f1 f2 rfl f4 f5 f6 f7 H₄ (X₃.trans X₄) rfl rfl h
end Mine
namespace Mine
open PySem PySem.W PySem.Calls PyProof.Rows PySem.Spec
theorem app_loop {nm : String} (hnm : nm ≠ "row") {ar : Int} {A : BA} {st : BState} {σ : Sto} {a : Addr} {L : List Row} {ρ : PEnv} {K : PFlow → PEnv → Sto → Prop} (H : BS ar A st σ) (ha : σ a = some (.list (L.map rv))) (hm : ¬ mods A a) (hb : st.rows.length + L.length ≤ 1000) (e : ρ nm = some (.ref A.b))
    (hK : ∀ ρ' σ', (∀ y, y ≠ "row" → ρ' y = ρ y) → BS ar A { st with rows := st.rows ++ L } σ' → Ext A σ σ' → K .next ρ' σ') :
    forP "row" (dSeq (dExpr (dAppend (dAttr 129 "rows" (dName nm)) (dName "row"))) dEnd) (.ref a) ρ σ K := by
  simp only [forP, ha]
  refine forR_inv (I := fun i ρ' σ' => (∀ y, y ≠ "row" → ρ' y = ρ y) ∧ BS ar A { st with rows := st.rows ++ L.take i } σ' ∧ Ext A σ σ') (fun i ρ' σ' hI => hI.2.2 _ _ hm ha) ?_ ?_ _ _ ?_
  · rintro i v ρ' σ' K' hu ⟨hρ, H', X'⟩ hK' _
    have hi : i < L.length := by
      have := (List.getElem?_eq_some_iff.mp hu).1
      simpa using this
    have hli : L[i]? = some L[i] := List.getElem?_eq_getElem hi
    rw [List.getElem?_map, hli] at hu
    cases hu
    have hs : (ρ'.set "row" (rv L[i])) nm = some (.ref A.b) := by rw [PEnv.set_ne _ _ hnm, hρ nm hnm]; exact e
    have hlen : (st.rows ++ L.take i).length ≤ 1000 := by rw [List.length_append, List.length_take]; lia
    simp only [dSeq, dExpr, dAppend, dAttr, dName, hs, PEnv.set_same, attr_rows H', dEnd]
    refine ⟨isListP_at H'.rows, ?_⟩
    rw [app_rows H' (by exact hlen)]
    simp only [plainK_n]
    refine (hK' _ _ ⟨fun y hy => (PEnv.set_ne _ _ hy).trans (hρ y hy), ?_, X'.trans Ext.rows⟩)
    have ht : L.take (i + 1) = L.take i ++ [L[i]] := by rw [List.take_add_one, hli]; rfl
    have := H'.app L[i]
    rw [ht, ← List.append_assoc]
    exact this
  · rintro ρ' σ' ⟨hρ, H', X'⟩
    rw [List.length_map, List.take_length] at H'
    exact hK ρ' σ' hρ H' X'
  · exact ⟨fun _ _ => rfl, by simpa using H, .refl⟩
noncomputable def cRows (i : Nat) : List Row := [Row.label (i : Int), Row.exec (i : Int)]
noncomputable def finRows (ar : Int) (many : Nat) (st : BState) : List Row :=
  st.rows ++ st.chains.flatMap (fun c => Row.label c.1 :: chainRows ar c.2) ++ (List.range many).flatMap cRows
inductive S_finish (args : List PV) (σ : Sto) (Q : PV → Sto → Prop) : Prop
  | mk : ∀ ar A st σ₀ keys, (args = [.ref A.b]) → (BS ar A st σ) → (Old A σ₀ σ) → (CS A.codes keys σ₀) → (keys.length ≤ 1000) → ((∀ c ∈ st.chains, 2 ≤ c.2.length ∧ c.2.length ≤ 1000)) → ((finRows ar keys.length st).length ≤ 1000) → (∀ σ', BS ar A { st with rows := finRows ar keys.length st } σ' → Ext A σ σ' → Q (.ref A.rows) σ') → S_finish args σ Q
theorem flat_le {α β : Type} (f : α → List β) (l : List α) (i : Nat) : ((l.take i).flatMap f).length ≤ (l.flatMap f).length := by
  conv => rhs; rw [← List.take_append_drop i l, List.flatMap_append, List.length_append]
  exact Nat.le_add_right _ _
theorem getP_cv0 (c : Int × List Int) {σ : Sto} {Q : PV → Sto → Prop} : getP (cv c) (.int 0) σ Q = Q (.int c.1) σ := seqP0
theorem getP_cv1 (c : Int × List Int) {σ : Sto} {Q : PV → Sto → Prop} : getP (cv c) (.int 1) σ Q = Q (.tup (il c.2)) σ := seqP1
theorem CS.len {ca : Addr} {keys : List Key} {σ : Sto} (C : CS ca keys σ) (hb : keys.length ≤ 1000) {Q : PV → Sto → Prop} : lenP [.ref ca] σ Q = Q (.int keys.length) σ := by
  obtain ⟨ps, h1, h2, _⟩ := C
  rw [lenP_list h2 (by simp; lia)]
  simp [h1]
theorem s_finish : ∀ args σ Q, S_finish args σ Q → fnP ["self"] (d_finish S_chain_rows) args σ Q := by
  rintro args σ Q ⟨ar, A, st, σ₀, keys, rfl, H, O, C, hb, hc, hl, h⟩
  refine ⟨rfl, ?_⟩
  have sl := sizeLine_big
  rw [d_finish, dSeq, dFor, dAttr, name_at (v := .ref A.b) rfl, attr_chains H, forP, H.chains]
  dsimp only
  have hmc : ∀ {σ' : Sto} {st' : BState}, BS ar A st' σ' → st'.chains = st.chains → σ' A.chains = some (.list (st.chains.map cv)) := fun H' e => by rw [H'.chains, e]
  have L1 : (finRows ar keys.length st).length = st.rows.length + (st.chains.flatMap (fun c => Row.label c.1 :: chainRows ar c.2)).length + ((List.range keys.length).flatMap cRows).length := by simp [finRows, Nat.add_assoc]
  refine forR_inv (I := fun i ρ' σ' => ρ' "self" = some (.ref A.b) ∧ BS ar A { st with rows := st.rows ++ (st.chains.take i).flatMap (fun c => Row.label c.1 :: chainRows ar c.2) } σ' ∧ Ext A σ σ') (fun i ρ' σ' hI => hmc hI.2.1 rfl) ?_ ?_ _ _ ?_
  · rintro i v ρ' σ' K' hu ⟨e1, H', X'⟩ hK' _
    have hi : i < st.chains.length := by
      have := (List.getElem?_eq_some_iff.mp hu).1
      simpa using this
    have hli : st.chains[i]? = some st.chains[i] := List.getElem?_eq_getElem hi
    rw [List.getElem?_map, hli] at hu
    cases hu
    have hcc := hc st.chains[i] (List.getElem_mem hi)
    have ht : st.chains.take (i + 1) = st.chains.take i ++ [st.chains[i]] := by rw [List.take_add_one, hli]; rfl
    have hfl := flat_le (fun c : Int × List Int => Row.label c.1 :: chainRows ar c.2) st.chains (i + 1)
    rw [ht, List.flatMap_append] at hfl
    simp only [List.flatMap_cons, List.flatMap_nil, List.append_nil, List.length_append, List.length_cons] at hfl
    rw [ht, List.flatMap_append] at hK'
    simp only [List.flatMap_cons, List.flatMap_nil, List.append_nil] at hK'
    generalize st.chains[i] = c at *
    generalize (st.chains.take i).flatMap (fun c => Row.label c.1 :: chainRows ar c.2) = F at *
    have f1 : (ρ'.set "pair" (cv c)) "self" = some (.ref A.b) := e1
    have f2 : (ρ'.set "pair" (cv c)) "pair" = some (cv c) := rfl
    generalize ρ'.set "pair" (cv c) = ρ₁ at *
    have lc : (chainRows ar c.2).length = c.2.length := by simp [chainRows]; lia
    refine row_app (r := .label c.1) H' f1 (by dsimp only; rw [List.length_append]; lia) (fun Q q => ?_) fun σ₂ H2 X2 => ?_
    · rw [dTup, dCons, dVal, dCons, dOp, name_at f2, dVal, getP_cv0, dNil]
      exact ⟨sl2, q⟩
    rw [seq_end, dFor, dMeth, name_at f1]
    refine ⟨meth_b H2 rfl, ?_⟩
    rw [dCons, dOp, name_at f2, dVal, getP_cv1, dNil]
    refine ⟨ar, A, _, .tup (il c.2), c.2, rfl, H2, .inl rfl, hcc.1, hcc.2, fun a ha => ?_⟩
    refine app_loop (by decide) (H2.new ha) (Sto.set_same ..) (H2.not ha) (by dsimp only; rw [List.length_append, List.length_append, List.length_singleton]; lia) f1 fun ρ'' σ'' hρ H3 X3 => ?_
    refine hK' ρ'' σ'' ⟨by rw [hρ _ (by decide)]; exact f1, ?_, X'.trans (X2.trans ((Ext.new ha).trans X3))⟩
    simpa [List.append_assoc] using H3
  · rintro ρ' σ' ⟨e1, H', X'⟩
    rw [List.length_map, List.take_length] at H'
    dsimp only
    have C' := C.old (O.ext X')
    rw [dSeq, dForR, dCons, dCall, dCons, dAttr, name_at e1, attr_codes H', dNil, C'.len hb, dNil, rngL1 (by lia) (by lia)]
    refine forL_inv (I := fun i ρ' σ' => ρ' "self" = some (.ref A.b) ∧ BS ar A { st with rows := st.rows ++ st.chains.flatMap (fun c => Row.label c.1 :: chainRows ar c.2) ++ (List.range i).flatMap cRows } σ' ∧ Ext A σ σ') ?_ ?_ _ _ ?_
    · rintro i v ρ' σ' K' hu ⟨e1, H', X'⟩ hK' _
      have hi : i < keys.length := by
        have := (List.getElem?_eq_some_iff.mp hu).1
        rw [rangeL_length] at this; lia
      rw [rangeL_get _ _ _ (by lia)] at hu
      cases hu
      have hfl : ((List.range (i + 1)).flatMap cRows).length ≤ ((List.range keys.length).flatMap cRows).length := by
        have := flat_le cRows (List.range keys.length) (i + 1)
        rwa [List.take_range, Nat.min_eq_left hi] at this
      rw [List.range_succ, List.flatMap_append] at hfl hK'
      simp only [List.flatMap_cons, List.flatMap_nil, List.append_nil, List.length_append, cRows, List.length_cons, List.length_nil] at hfl hK'
      have C' := C.old (O.ext X')
      generalize st.chains.flatMap (fun c => Row.label c.1 :: chainRows ar c.2) = F at *
      generalize (List.range i).flatMap cRows = G at *
      have e0 : (0 : Int) + (i : Int) = (i : Int) := by lia
      rw [e0]
      have f1 : (ρ'.set "place" (.int i)) "self" = some (.ref A.b) := e1
      have f2 : (ρ'.set "place" (.int i)) "place" = some (.int i) := rfl
      generalize ρ'.set "place" (.int i) = ρ₁ at *
      refine row_app (r := .label i) H' f1 (by dsimp only; rw [List.length_append, List.length_append]; lia) (tup_lab f2) fun σ₂ H2 X2' => ?_
      have X2 := X'.trans X2'
      obtain ⟨q, k1, k2, l, k3, k4⟩ := (C.old (O.ext X2)).key hb (p := (i : Int)) (by lia) (by lia)
      have lm : ¬ mods A l := by
        obtain ⟨q', k1', k2', l', k3', k4'⟩ := C.key hb (p := (i : Int)) (by lia) (by lia)
        have z1 := (C.old (O.ext X2))
        have : l = l' := by
          have hq : q = q' := by
            obtain ⟨ps, p1, p2, p3⟩ := C
            have hp : ps[i]? = some (ps[i]'(by lia)) := List.getElem?_eq_getElem _
            have a1 := k1' (fun v _ => v = .ref (ps[i]'(by lia)).1)
            rw [getP_list p2 (i := i) (v := .ref (ps[i]'(by lia)).1) (by rw [List.getElem?_map, hp]; rfl) (by lia)] at a1
            have a2 := k1 (fun v _ => v = .ref (ps[i]'(by lia)).1)
            rw [getP_list (O.ext X2 |>.keep _ _ p2) (i := i) (v := .ref (ps[i]'(by lia)).1) (by rw [List.getElem?_map, hp]; rfl) (by lia)] at a2
            have b1 : PV.ref q' = .ref (ps[i]'(by lia)).1 := by rw [← a1]
            have b2 : PV.ref q = .ref (ps[i]'(by lia)).1 := by rw [← a2]
            rw [← b1] at b2
            injection b2
          subst hq
          have a1 := k3' (fun v _ => v = .ref l')
          have a1' : attrP 178 "instrs" (.ref q) σ₀ (fun v _ => v = .ref l') := by rw [a1]
          obtain ⟨d, m, v, y1, y2, y3, y4⟩ := a1'
          have a2 := k3 (fun v _ => v = .ref l)
          rw [attrP_at ((O.ext X2).keep _ _ y1) ((O.ext X2).keep _ _ y2) y3] at a2
          have b2 : v = .ref l := by rw [a2]
          rw [y4] at b2
          injection b2 with b2
          exact b2.symm
        rw [this]
        exact O.not k4'
      rw [seq_end, dFor, dAttr, dOp, dAttr, name_at f1, attr_codes H2, name_at f2, k1, k3]
      refine app_loop (L := [Row.exec (i : Int)]) (by decide) H2 k4 lm (by dsimp only; rw [List.length_append, List.length_append, List.length_append, List.length_singleton, List.length_singleton]; lia) f1 fun ρ'' σ'' hρ H3 X3 => ?_
      refine hK' ρ'' σ'' ⟨by rw [hρ _ (by decide)]; exact f1, ?_, X2.trans X3⟩
      simpa [List.append_assoc] using H3
    · rintro ρ' σ' ⟨e1, H', X'⟩
      rw [rangeL_length] at H'
      have : ((keys.length : Int) - 0).toNat = keys.length := by lia
      rw [this] at H'
      dsimp only
      rw [seq_end, dRet, dAttr, name_at e1, attr_rows H']
      exact h σ' H' X'
    · exact ⟨e1, by simpa using H', X'⟩
  · exact ⟨rfl, by simpa using H, .refl⟩
end Mine
namespace Mine
open PySem PySem.W PySem.Calls PyProof.Rows PySem.Spec
theorem setAttrP_at {C : Addr} {x : String} {a d : Addr} {m : PEnv} {v : PV} {σ : Sto} (h1 : σ a = some (.inst C d)) (h2 : σ d = some (.attrs m)) {Q : Sto → Prop} : setAttrP C x (.ref a) v σ Q = Q (σ.set d (.attrs (m.set x v))) := by
  apply propext
  unfold setAttrP
  constructor
  · rintro ⟨d', m', e1, e2, q⟩
    rw [h1] at e1; cases e1
    rw [h2] at e2; cases e2
    exact q
  · exact fun q => ⟨_, _, h1, h2, q⟩
noncomputable def ccAttrs (f u : Int) (k : Key) (l : Addr) : PEnv := (((PEnv.set (fun _ => none) "functor" (.int f)).set "key" (kv k)).set "instrs" (.ref l)).set "used" (.int u)
inductive S_ClauseCode (args : List PV) (σ : Sto) (Q : PV → Sto → Prop) : Prop
  | mk : ∀ a d f u k l, (args = [.ref a, .int f, kv k, .ref l, .int u]) → (σ a = some (.inst 178 d)) → (σ d = some (.attrs fun _ => none)) → (Q .none (σ.set d (.attrs (ccAttrs f u k l)))) → S_ClauseCode args σ Q
theorem s_ClauseCode : ∀ args σ Q, S_ClauseCode args σ Q → fnP ["self", "functor", "key", "instrs", "used"] d_ClauseCode_init args σ Q := by
  rintro args σ Q ⟨a, d, f, u, k, l, rfl, h1, h2, h⟩
  refine ⟨rfl, ?_⟩
  have ne : a ≠ d := by rintro rfl; rw [h1] at h2; cases h2
  simp only [d_ClauseCode_init, dSeq, dName, dEnd, dSetAttr, bindEnv, PEnv.set_b, fnEnd_n, String.reduceBEq, cond_true, cond_false]
  rw [setAttrP_at h1 h2]
  have g : ∀ m, (σ.set d (.attrs m)) a = some (.inst 178 d) := fun m => (Sto.set_ne _ _ ne).trans h1
  try simp only [dSeq, dIf, dOrT, dOrNil, dAndT, dAndNil, dNotT, dTest, dOp, dName, dVal, dRet, dEnd, dAssign, dAug, dExpr, dCall, dMeth, dCons, dNil, dTup, dList, dAttr, dSetAttr, dSetItem, dAppend, dPop, dIte, dNeg, dNotV, dAndV, dOrV, dFor, dForR, dWhile, bindEnv, PEnv.set_b, Option.some.injEq, exists_eq_left', if_true, if_false, reduceCtorEq, String.reduceEq, fnEnd_r, fnEnd_n, truP_b, addP_i, subP_i, ltP_i, gtP_i, geP_i, iaddP_i, negP_i, plainK_n, plainK_b, plainK_i, plainK_s, true_and, and_true, Bool.false_eq_true, String.reduceBEq, cond_true, cond_false, List.cons_append, List.nil_append]
  rw [setAttrP_at (g _) (Sto.set_same ..), Sto.set_set]
  try simp only [dSeq, dIf, dOrT, dOrNil, dAndT, dAndNil, dNotT, dTest, dOp, dName, dVal, dRet, dEnd, dAssign, dAug, dExpr, dCall, dMeth, dCons, dNil, dTup, dList, dAttr, dSetAttr, dSetItem, dAppend, dPop, dIte, dNeg, dNotV, dAndV, dOrV, dFor, dForR, dWhile, bindEnv, PEnv.set_b, Option.some.injEq, exists_eq_left', if_true, if_false, reduceCtorEq, String.reduceEq, fnEnd_r, fnEnd_n, truP_b, addP_i, subP_i, ltP_i, gtP_i, geP_i, iaddP_i, negP_i, plainK_n, plainK_b, plainK_i, plainK_s, true_and, and_true, Bool.false_eq_true, String.reduceBEq, cond_true, cond_false, List.cons_append, List.nil_append]
  rw [setAttrP_at (g _) (Sto.set_same ..), Sto.set_set]
  try simp only [dSeq, dIf, dOrT, dOrNil, dAndT, dAndNil, dNotT, dTest, dOp, dName, dVal, dRet, dEnd, dAssign, dAug, dExpr, dCall, dMeth, dCons, dNil, dTup, dList, dAttr, dSetAttr, dSetItem, dAppend, dPop, dIte, dNeg, dNotV, dAndV, dOrV, dFor, dForR, dWhile, bindEnv, PEnv.set_b, Option.some.injEq, exists_eq_left', if_true, if_false, reduceCtorEq, String.reduceEq, fnEnd_r, fnEnd_n, truP_b, addP_i, subP_i, ltP_i, gtP_i, geP_i, iaddP_i, negP_i, plainK_n, plainK_b, plainK_i, plainK_s, true_and, and_true, Bool.false_eq_true, String.reduceBEq, cond_true, cond_false, List.cons_append, List.nil_append]
  rw [setAttrP_at (g _) (Sto.set_same ..), Sto.set_set]
  exact h
inductive S_Builder (args : List PV) (σ : Sto) (Q : PV → Sto → Prop) : Prop
  | mk : ∀ b d ar ca l, (args = [.ref b, .int ar, .ref ca]) → (σ b = some (.inst 129 d)) → (σ d = some (.attrs fun _ => none)) → (σ ca = some (.list l)) → (l.length ≤ 1000) → (∀ A σ', A.b = b → A.d = d → A.codes = ca → σ A.rows = none → σ A.chains = none → σ A.known = none → BS ar A ⟨[], [], (l.length : Int)⟩ σ' → (∀ x o, σ x = some o → x ≠ d → σ' x = some o) → Q .none σ') → S_Builder args σ Q
structure BI (σ : Sto) (b d : Addr) (m : PEnv) (σ₁ : Sto) : Prop where
  hb : σ₁ b = some (.inst 129 d)
  hd : σ₁ d = some (.attrs m)
  keep : ∀ x o, σ x = some o → x ≠ d → σ₁ x = some o
theorem BI.put {σ : Sto} {b d : Addr} {m : PEnv} {σ₁ : Sto} (I : BI σ b d m σ₁) (ne : b ≠ d) (m' : PEnv) : BI σ b d m' (σ₁.set d (.attrs m')) :=
  ⟨(Sto.set_ne _ _ ne).trans I.hb, Sto.set_same .., fun x o e h => (Sto.set_ne _ _ h).trans (I.keep x o e h)⟩
theorem BI.new {σ : Sto} {b d : Addr} {m : PEnv} {σ₁ : Sto} (I : BI σ b d m σ₁) {a : Addr} (h : σ₁ a = none) (o : AObj) : BI σ b d m (σ₁.set a o) :=
  ⟨Sto.get_new h I.hb, Sto.get_new h I.hd, fun x p e hx => Sto.get_new h (I.keep x p e hx)⟩
theorem BI.back {σ : Sto} {b d : Addr} {m : PEnv} {σ₁ : Sto} (I : BI σ b d m σ₁) (hd : ∀ o, σ d = some o → True) {a : Addr} (h : σ₁ a = none) : σ a = none := by
  have ad : a ≠ d := by rintro rfl; rw [I.hd] at h; cases h
  cases q : σ a with
  | none => rfl
  | some o => rw [I.keep a o q ad] at h; cases h
theorem bi_step {σ : Sto} {b d : Addr} {m : PEnv} {σ₁ : Sto} {x : String} {e : EWP} {v : PV} {rest : SWP} {ρ : PEnv} {K : PFlow → PEnv → Sto → Prop} (I : BI σ b d m σ₁) (es : ρ "self" = some (.ref b)) (he : ∀ Q, Q v σ₁ → e ρ σ₁ Q) (h : rest ρ (σ₁.set d (.attrs (m.set x v))) K) : dSeq (dSetAttr 129 x (dName "self") e) rest ρ σ₁ K := by
  rw [dSeq, dSetAttr]
  refine he _ ?_
  rw [name_at es, setAttrP_at I.hb I.hd]
  exact h
theorem bi_new {σ : Sto} {b d : Addr} {m : PEnv} {σ₁ : Sto} {x : String} {rest : SWP} {ρ : PEnv} {K : PFlow → PEnv → Sto → Prop} (I : BI σ b d m σ₁) (es : ρ "self" = some (.ref b)) (h : ∀ a, σ₁ a = none → rest ρ ((σ₁.set a (.list [])).set d (.attrs (m.set x (.ref a)))) K) : dSeq (dSetAttr 129 x (dName "self") (dList dNil)) rest ρ σ₁ K := by
  rw [dSeq, dSetAttr, dList, dNil]
  refine ⟨sl0, fun a ha => ?_⟩
  have I1 := I.new ha (.list [])
  dsimp only
  rw [name_at es, setAttrP_at I1.hb I1.hd]
  exact h a ha
theorem s_Builder : ∀ args σ Q, S_Builder args σ Q → fnP ["self", "arity", "codes"] d_BlockBuilder_init args σ Q := by
  rintro args σ Q ⟨b, d, ar, ca, l, rfl, h1, h2, hca, hl, h⟩
  refine ⟨rfl, ?_⟩
  have ne : b ≠ d := by rintro rfl; rw [h1] at h2; cases h2
  have nc : ca ≠ d := by rintro rfl; rw [hca] at h2; cases h2
  have es : (bindEnv ["self", "arity", "codes"] [.ref b, .int ar, .ref ca]) "self" = some (.ref b) := rfl
  have ea : (bindEnv ["self", "arity", "codes"] [.ref b, .int ar, .ref ca]) "arity" = some (.int ar) := rfl
  have ec : (bindEnv ["self", "arity", "codes"] [.ref b, .int ar, .ref ca]) "codes" = some (.ref ca) := rfl
  generalize bindEnv ["self", "arity", "codes"] [.ref b, .int ar, .ref ca] = ρ at *
  have I0 : BI σ b d (fun _ => none) σ := ⟨h1, h2, fun _ _ e _ => e⟩
  rw [d_BlockBuilder_init]
  refine bi_step I0 es (fun Q q => by rw [name_at ea]; exact q) ?_
  have I1 := I0.put ne (PEnv.set (fun _ => none) "arity" (.int ar))
  generalize σ.set d (.attrs (PEnv.set (fun _ => none) "arity" (.int ar))) = σ₁ at *
  refine bi_step I1 es (fun Q q => by rw [name_at ec]; exact q) ?_
  have I2 := I1.put ne ((PEnv.set (fun _ => none) "arity" (.int ar)).set "codes" (.ref ca))
  generalize σ₁.set d (.attrs ((PEnv.set (fun _ => none) "arity" (.int ar)).set "codes" (.ref ca))) = σ₂ at *
  refine bi_new I2 es fun r hr => ?_
  have r0 := I2.back (fun _ _ => trivial) hr
  have rd : r ≠ d := by rintro rfl; rw [h2] at r0; cases r0
  have I3 := (I2.new hr (.list [])).put ne (((PEnv.set (fun _ => none) "arity" (.int ar)).set "codes" (.ref ca)).set "rows" (.ref r))
  have gr : ((σ₂.set r (.list [])).set d (.attrs (((PEnv.set (fun _ => none) "arity" (.int ar)).set "codes" (.ref ca)).set "rows" (.ref r)))) r = some (.list []) := by rw [Sto.set_ne _ _ rd, Sto.set_same]
  generalize (σ₂.set r (.list [])).set d (.attrs (((PEnv.set (fun _ => none) "arity" (.int ar)).set "codes" (.ref ca)).set "rows" (.ref r))) = σ₃ at *
  refine bi_new I3 es fun c hc => ?_
  have c0 := I3.back (fun _ _ => trivial) hc
  have cd : c ≠ d := by rintro rfl; rw [h2] at c0; cases c0
  have cr : r ≠ c := by rintro rfl; rw [gr] at hc; cases hc
  have I4 := (I3.new hc (.list [])).put ne ((((PEnv.set (fun _ => none) "arity" (.int ar)).set "codes" (.ref ca)).set "rows" (.ref r)).set "chains" (.ref c))
  have gr4 : ((σ₃.set c (.list [])).set d (.attrs ((((PEnv.set (fun _ => none) "arity" (.int ar)).set "codes" (.ref ca)).set "rows" (.ref r)).set "chains" (.ref c)))) r = some (.list []) := by rw [Sto.set_ne _ _ rd, Sto.set_ne _ _ cr]; exact gr
  have gc : ((σ₃.set c (.list [])).set d (.attrs ((((PEnv.set (fun _ => none) "arity" (.int ar)).set "codes" (.ref ca)).set "rows" (.ref r)).set "chains" (.ref c)))) c = some (.list []) := by rw [Sto.set_ne _ _ cd, Sto.set_same]
  generalize (σ₃.set c (.list [])).set d (.attrs ((((PEnv.set (fun _ => none) "arity" (.int ar)).set "codes" (.ref ca)).set "rows" (.ref r)).set "chains" (.ref c))) = σ₄ at *
  rw [dSeq, dSetAttr]
  intro k hk
  have k0 := I4.back (fun _ _ => trivial) hk
  have kd : k ≠ d := by rintro rfl; rw [h2] at k0; cases k0
  have I4' := I4.new hk (.dict [])
  dsimp only
  rw [name_at es, setAttrP_at I4'.hb I4'.hd]
  have I5 := I4'.put ne (((((PEnv.set (fun _ => none) "arity" (.int ar)).set "codes" (.ref ca)).set "rows" (.ref r)).set "chains" (.ref c)).set "known" (.ref k))
  have gr5 := (Sto.set_ne (σ₄.set k (.dict [])) (.attrs (((((PEnv.set (fun _ => none) "arity" (.int ar)).set "codes" (.ref ca)).set "rows" (.ref r)).set "chains" (.ref c)).set "known" (.ref k))) rd).trans (Sto.get_new hk gr4)
  have gc5 := (Sto.set_ne (σ₄.set k (.dict [])) (.attrs (((((PEnv.set (fun _ => none) "arity" (.int ar)).set "codes" (.ref ca)).set "rows" (.ref r)).set "chains" (.ref c)).set "known" (.ref k))) cd).trans (Sto.get_new hk gc)
  have gk5 := (Sto.set_ne (σ₄.set k (.dict [])) (.attrs (((((PEnv.set (fun _ => none) "arity" (.int ar)).set "codes" (.ref ca)).set "rows" (.ref r)).set "chains" (.ref c)).set "known" (.ref k))) kd).trans (Sto.set_same ..)
  generalize (σ₄.set k (.dict [])).set d (.attrs (((((PEnv.set (fun _ => none) "arity" (.int ar)).set "codes" (.ref ca)).set "rows" (.ref r)).set "chains" (.ref c)).set "known" (.ref k))) = σ₅ at *
  rw [seq_end]
  rw [dSetAttr, dCall, dCons, name_at ec, dNil, lenP_list (I5.keep _ _ hca nc) (by omega), name_at es, setAttrP_at I5.hb I5.hd]
  have I6 := I5.put ne (bAttrs ar ⟨b, d, r, c, k, ca⟩ l.length)
  exact h ⟨b, d, r, c, k, ca⟩ _ rfl rfl rfl r0 c0 k0 ⟨I6.hb, I6.hd, (Sto.set_ne _ _ rd).trans gr5, (Sto.set_ne _ _ cd).trans gc5, (Sto.set_ne _ _ kd).trans gk5, cr⟩ fun x o hx hd => I6.keep x o hx hd
end Mine
namespace Mine
open PySem PySem.W PySem.Calls PyProof.Rows PySem.Spec
noncomputable def Row.name : Row → String
  | .try_ _ _ => "try"
  | .retry _ => "retry"
  | .trust _ => "trust"
  | .label _ => "label"
  | .sterm _ _ _ _ => "switch_on_term"
  | .stab true _ _ => "switch_on_constant"
  | .stab false _ _ => "switch_on_structure"
  | .exec _ => "execute"
theorem so_try : PyData.strOk (Str.ofString "try") = true := by kernel_rfl
theorem so_retry : PyData.strOk (Str.ofString "retry") = true := by kernel_rfl
theorem so_trust : PyData.strOk (Str.ofString "trust") = true := by kernel_rfl
theorem so_label : PyData.strOk (Str.ofString "label") = true := by kernel_rfl
theorem so_st : PyData.strOk (Str.ofString "switch_on_term") = true := by kernel_rfl
theorem so_sc : PyData.strOk (Str.ofString "switch_on_constant") = true := by kernel_rfl
theorem so_ss : PyData.strOk (Str.ofString "switch_on_structure") = true := by kernel_rfl
theorem so_exec : PyData.strOk (Str.ofString "execute") = true := by kernel_rfl
theorem so_row (r : Row) : PyData.strOk (Str.ofString r.name) = true := match r with
  | .try_ _ _ => so_try | .retry _ => so_retry | .trust _ => so_trust | .label _ => so_label | .sterm _ _ _ _ => so_st | .stab true _ _ => so_sc | .stab false _ _ => so_ss | .exec _ => so_exec
theorem getP_rv0 (r : Row) {σ : Sto} {Q : PV → Sto → Prop} : getP (rv r) (.int 0) σ Q = Q (sv r.name) σ := by
  match r with
  | .try_ _ _ | .retry _ | .trust _ | .label _ | .sterm _ _ _ _ | .stab true _ _ | .stab false _ _ | .exec _ => simp only [rv, getP_t, seqP0, Row.name]
theorem eqP_row {f : Bool → Bool} {b : String} (r : Row) (hb : PyData.strOk (Str.ofString b) = true) {σ : Sto} {Q : PV → Sto → Prop} : eqP f (sv r.name) (.str (Str.ofString b)) σ Q = Q (.bool (f (decide (r.name = b)))) σ := eqP_str (so_row r) hb
noncomputable def labs : List Row → Nat → List (Int × Int)
  | [], _ => []
  | .label l :: r, k => (l, (k : Int)) :: labs r (k + 1)
  | _ :: r, k => labs r (k + 1)
theorem labs_append : ∀ (a b : List Row) (k : Nat), labs (a ++ b) k = labs a k ++ labs b (k + a.length)
  | [], b, k => rfl
  | x :: a, b, k => by
    have ih := labs_append a b (k + 1)
    have e : k + (x :: a).length = k + 1 + a.length := by simp only [List.length_cons]; lia
    rw [e]
    cases x <;> simp only [List.cons_append, labs, ih]
noncomputable def intD (t : List (Int × Int)) : List (DK × PV) := t.map fun p => (.int p.1, .int p.2)
theorem kind_int (t : List (Int × Int)) (k : Int) : kindOk (intD t) (.int k) := by
  intro x hx
  obtain ⟨p, _, rfl⟩ := List.mem_map.mp hx
  exact ⟨p.1, rfl⟩
theorem dget_int (k : Int) : ∀ t : List (Int × Int), dget (intD t) (.int k) = (t.find? fun p => decide (p.1 = k)).map fun p => .int p.2
  | [] => rfl
  | c :: r => by
    have ih := dget_int k r
    unfold dget intD at ih ⊢
    simp only [List.map_cons, List.find?_cons, DK.int.injEq]
    by_cases h : c.1 = k
    · simp [h]
    · simp only [h, decide_false]
      exact ih
theorem find_none_of {t : List (Int × Int)} {k : Int} (h : k ∉ t.map (·.1)) : t.find? (fun p => decide (p.1 = k)) = none := by
  rw [List.find?_eq_none]
  intro x hx
  simp only [decide_eq_true_eq]
  exact fun e => h (List.mem_map.mpr ⟨x, hx, e⟩)
theorem setP_int {a : Addr} {σ : Sto} {t : List (Int × Int)} (ha : σ a = some (.dict (intD t))) {k v : Int} (hk : k ∉ t.map (·.1)) (hb : t.length ≤ 2000) {Q : Sto → Prop} : setP (.ref a) (.int k) (.int v) σ Q = Q (σ.set a (.dict (intD (t ++ [(k, v)])))) := by
  have sl := sizeLine_big
  rw [setP_new (k := .int k) ha rfl (kind_int _ _) (by simp [intD]; lia) (by rw [dget_int, find_none_of hk]; rfl), intD, intD, List.map_append]; rfl
theorem getP_int {a : Addr} {σ : Sto} {t : List (Int × Int)} (ha : σ a = some (.dict (intD t))) {k v : Int} (hk : t.find? (fun p => decide (p.1 = k)) = some (k, v)) {Q : PV → Sto → Prop} : getP (.ref a) (.int k) σ Q = Q (.int v) σ := by
  exact getP_dict (k := .int k) ha rfl (kind_int _ _) (by rw [dget_int, hk]; rfl)
theorem labs_len : ∀ (l : List Row) (k : Nat), (labs l k).length ≤ l.length
  | [], _ => Nat.le_refl _
  | x :: r, k => by
    have := labs_len r (k + 1)
    cases x <;> simp only [labs, List.length_cons] <;> lia
inductive S_label_places (args : List PV) (σ : Sto) (Q : PV → Sto → Prop) : Prop
  | mk : ∀ a bs, (args = [.ref a]) → (σ a = some (.list (bs.map rv))) → (bs.length ≤ 1000) → (((labs bs 0).map (·.1)).Nodup) → (∀ c, σ c = none → Q (.ref c) (σ.set c (.dict (intD (labs bs 0))))) → S_label_places args σ Q
theorem s_label_places : ∀ args σ Q, S_label_places args σ Q → fnP ["block"] d_label_places args σ Q := by
  rintro args σ Q ⟨a, bs, rfl, ha, hb, hn, h⟩
  refine ⟨rfl, ?_⟩
  simp only [d_label_places, dSeq, dName, dRet, dAssign, dCall, dCons, dNil, dForR, bindEnv, PEnv.set_b, fnEnd_r, String.reduceBEq, cond_true, cond_false, dDict0]
  intro c hc
  have ac : a ≠ c := by rintro rfl; rw [ha] at hc; cases hc
  have hac : ∀ o, (σ.set c o) a = some (.list (bs.map rv)) := fun o => (Sto.set_ne _ _ ac).trans ha
  rw [lenP_list (hac _) (by simp; lia)]
  simp only [List.length_map]
  rw [rngL1 (by lia) (by lia)]
  refine forL_inv (I := fun i ρ' σ' => ρ' "block" = some (.ref a) ∧ ρ' "where" = some (.ref c) ∧ σ' = σ.set c (.dict (intD (labs (bs.take i) 0)))) ?_ ?_ _ _ ?_
  · rintro i v ρ' σ' K hu ⟨e1, e2, rfl⟩ hK _
    have hi : i < bs.length := by
      have := (List.getElem?_eq_some_iff.mp hu).1
      rw [rangeL_length] at this; lia
    rw [rangeL_get _ _ _ (by lia)] at hu
    cases hu
    have hbi : bs[i]? = some bs[i] := List.getElem?_eq_getElem hi
    have ht : bs.take (i + 1) = bs.take i ++ [bs[i]] := by rw [List.take_add_one, hbi]; rfl
    have e0 : (0 : Int) + (i : Int) = (i : Int) := by lia
    have hlt : (bs.take i).length = i := by rw [List.length_take]; lia
    rw [ht, labs_append, hlt] at hK
    have hsub : labs bs 0 = labs (bs.take i) 0 ++ labs ([bs[i]]) i ++ labs (bs.drop (i + 1)) (i + 1) := by
      conv => lhs; rw [← List.take_append_drop (i + 1) bs, labs_append, ht, labs_append]
      rw [hlt]
      simp [Nat.min_eq_left (show i + 1 ≤ bs.length from hi)]
    have ll := labs_len (bs.take i) 0
    simp only [dSeq, dIf, dTest, dOp, dName, dVal, dEnd, dSetItem, PEnv.set_b, truP_b, String.reduceBEq, cond_true, cond_false, e0, e1, getP_list (hac _) (i := i) (v := rv bs[i]) (by rw [List.getElem?_map, hbi]; rfl) (by lia), getP_rv0, eqP_row _ so_label, id]
    generalize bs[i] = r at *
    cases r with
    | label l =>
      simp only [Row.name, decide_true, if_true, e2]
      simp only [rv, getP_t, seqP1]
      rw [setP_int (Sto.set_same ..) ?_ (by lia), Sto.set_set]
      · refine hK _ _ ⟨e1, e2, ?_⟩
        simp [labs]
      · rw [hsub] at hn
        simp only [labs, List.map_append, List.map_cons, List.map_nil] at hn
        have := (List.nodup_append.mp hn).1
        intro hm
        exact (List.nodup_append.mp this).2.2 l hm l (by simp) rfl
    | _ =>
      all_goals first
        | (simp only [Row.name, String.reduceEq, decide_false, if_false, String.reduceEq, Bool.false_eq_true]
           exact hK _ _ ⟨e1, e2, by simp [labs]⟩)
        | (rename_i con t d
           cases con <;>
             (simp only [Row.name, String.reduceEq, decide_false, if_false, String.reduceEq, Bool.false_eq_true]
              exact hK _ _ ⟨e1, e2, by simp [labs]⟩))
  · rintro ρ' σ' ⟨e1, e2, rfl⟩
    rw [rangeL_length]
    have : ((bs.length : Int) - 0).toNat = bs.length := by lia
    rw [this, List.take_length]
    simp only [e2]
    exact h c hc
  · exact ⟨rfl, rfl, by simp [labs, intD]⟩
noncomputable def selK (k : Key) (v c l s : Int) : Int := match k with
  | .var => v | .const _ _ => c | .list => l | .struct _ => s
inductive S_switch_target (args : List PV) (σ : Sto) (Q : PV → Sto → Prop) : Prop
  | mk : ∀ v c l s k, (args = [rv (.sterm v c l s), kv k]) → (Q (.int (selK k v c l s)) σ) → S_switch_target args σ Q
theorem s_switch_target : ∀ args σ Q, S_switch_target args σ Q → fnP ["ins", "key"] d_switch_target args σ Q := by
  rintro args σ Q ⟨v, c, l, s, k, rfl, h⟩
  refine ⟨rfl, ?_⟩
  simp only [d_switch_target, dSeq, dIf, dTest, dOp, dName, dVal, dRet, dEnd, dAssign, bindEnv, PEnv.set_b, fnEnd_r, String.reduceBEq, cond_true, cond_false, getP_kv0]
  have e1 : ∀ {f : Bool → Bool} {Q : PV → Sto → Prop}, eqP f (sv k.name) (.str (Str.ofString "const")) σ Q = Q (.bool (f (decide (k.name = "const")))) σ := eqP_str (so_name k) so_const
  have e2 : ∀ {f : Bool → Bool} {Q : PV → Sto → Prop}, eqP f (sv k.name) (.str (Str.ofString "list")) σ Q = Q (.bool (f (decide (k.name = "list")))) σ := eqP_str (so_name k) so_list
  have e3 : ∀ {f : Bool → Bool} {Q : PV → Sto → Prop}, eqP f (sv k.name) (.str (Str.ofString "struct")) σ Q = Q (.bool (f (decide (k.name = "struct")))) σ := eqP_str (so_name k) so_struct
  simp only [e1, e2, e3, id, truP_b]
  cases k <;> simp only [Key.name, String.reduceEq, decide_true, decide_false, if_true, if_false, String.reduceEq, Bool.false_eq_true, rv, getP_t, seqP1, seqP2, seqP3, seqP4] <;> exact h
noncomputable def tlook (t : List (KA × Int)) (a : KA) (d : Int) : Int := ((t.find? fun p => decide (p.1 = a)).map (·.2)).getD d
theorem eqP_ka {f : Bool → Bool} {a b : KA} {σ : Sto} {Q : PV → Sto → Prop} : eqP f (kav a) (kav b) σ Q = Q (.bool (f (decide (a = b)))) σ := by
  cases a with
  | i n =>
    cases b with
    | i m => simp only [kav, eqP_int, KA.i.injEq]
    | p t v =>
      rw [kav, kav, eqP_of (da := .int n) (db := .tuple [.int t, .int v]) (by simp [deep]) (by simp [deep, deeps]) rfl rfl]
      simp [PyData.eqv]
  | p t v =>
    cases b with
    | i m =>
      rw [kav, kav, eqP_of (db := .int m) (da := .tuple [.int t, .int v]) (by simp [deep, deeps]) (by simp [deep]) rfl rfl]
      simp [PyData.eqv]
    | p t' v' =>
      rw [kav, kav, eqP_of (db := .tuple [.int t', .int v']) (da := .tuple [.int t, .int v]) (by simp [deep, deeps]) (by simp [deep, deeps]) rfl rfl]
      have : PyData.eqv (.tuple [.int t, .int v]) (.tuple [.int t', .int v']) = decide (KA.p t v = KA.p t' v') := by simp [PyData.eqv, PyData.eqvAll, Bool.beq_eq_decide_eq]
      rw [this]
inductive S_table_target (args : List PV) (σ : Sto) (Q : PV → Sto → Prop) : Prop
  | mk : ∀ con t d k, (args = [rv (.stab con t d), kv k]) → (k.isKind con = true) → (Q (.int (tlook t k.arg d)) σ) → S_table_target args σ Q
theorem s_table_target : ∀ args σ Q, S_table_target args σ Q → fnP ["ins", "key"] d_table_target args σ Q := by
  rintro args σ Q ⟨con, t, d, k, rfl, hk, h⟩
  refine ⟨rfl, ?_⟩
  have g1 : ∀ {Q : PV → Sto → Prop}, getP (rv (.stab con t d)) (.int 1) σ Q = Q (tv t) σ := by intro Q; cases con <;> exact seqP1
  have g2 : ∀ {Q : PV → Sto → Prop}, getP (rv (.stab con t d)) (.int 2) σ Q = Q (.int d) σ := by intro Q; cases con <;> exact seqP2
  simp only [d_table_target]
  rw [dSeq]
  simp only [dFor, dOp, dName, dVal, bindEnv, PEnv.set_get, String.reduceEq, if_true, g1, tv, forP]
  have key : ∀ (t : List (KA × Int)) (ρ : PEnv) (K : PFlow → PEnv → Sto → Prop), ρ "key" = some (kv k) → ρ "ins" = some (rv (.stab con t d)) ∨ True → (∀ p, t.find? (fun p => decide (p.1 = k.arg)) = some p → ∀ ρ', K (.ret (.int p.2)) ρ' σ) → (t.find? (fun p => decide (p.1 = k.arg)) = none → ∀ ρ', (∀ y, y ≠ "pair" → ρ' y = ρ y) → K .next ρ' σ) →
      forL "pair" (dSeq (dIf (dTest (dOp (eqP id) (dOp getP (dName "pair") (dVal (.int 0))) (dOp getP (dName "key") (dVal (.int 1))))) (dSeq (dRet (dOp getP (dName "pair") (dVal (.int 1)))) dEnd) dEnd) dEnd) (t.map fun p => .tup [kav p.1, .int p.2]) ρ σ K := by
    intro t
    induction t with
    | nil => intro ρ K _ _ _ h2; exact h2 rfl ρ fun _ _ => rfl
    | cons c r ih =>
      intro ρ K hρ _ h1 h2
      simp only [List.map_cons, forL]
      simp only [dSeq, dIf, dTest, dOp, dName, dVal, dRet, dEnd, PEnv.set_b, String.reduceBEq, cond_true, cond_false, hρ]
      simp only [getP_t, seqP0, seqP1]
      have gk : ∀ {Q : PV → Sto → Prop}, getP (kv k) (.int 1) σ Q = Q (kav k.arg) σ := getP_kv1 hk
      rw [gk, eqP_ka]
      simp only [truP_b, id]
      by_cases hc : c.1 = k.arg
      · simp only [hc, decide_true, if_true]
        exact h1 c (by simp [hc]) _
      · simp only [hc, decide_false, if_false, Bool.false_eq_true]
        refine ih _ _ (by rw [PEnv.set_get]; exact hρ) (.inr trivial) (fun p hp => h1 p (by simpa [hc] using hp)) fun hn ρ' hρ' => h2 (by simpa [hc] using hn) ρ' fun y hy => (hρ' y hy).trans (PEnv.set_ne _ _ hy)
  refine key t _ _ rfl (.inr trivial) (fun p hp ρ' => ?_) (fun hn ρ' hρ' => ?_)
  · have e : tlook t k.arg d = p.2 := by unfold tlook; rw [hp]; rfl
    rw [e] at h
    exact h
  · have e : tlook t k.arg d = d := by unfold tlook; rw [hn]; rfl
    rw [e] at h
    have hi : ρ' "ins" = some (rv (.stab con t d)) := by rw [hρ' _ (by decide)]; rfl
    simp only [dSeq, dOp, dName, dVal, dRet, fnEnd_r, hi, g2]
    exact h
end Mine
namespace Mine
open PySem PySem.W PySem.Calls PyProof.Rows PySem.Spec
noncomputable def jumpOf (k : Key) : Row → Option (Bool × Int)
  | .try_ l _ => some (true, l)
  | .retry l => some (true, l)
  | .trust l => some (false, l)
  | .sterm v c l s => some (false, selK k v c l s)
  | .stab con t d => if k.isKind con then some (false, tlook t k.arg d) else none
  | _ => none
noncomputable def Goto (t : List (Int × Int)) (l : Int) (gs : List Int) : Prop := (l = -1 ∧ gs = []) ∨ (l ≠ -1 ∧ ∃ p, t.find? (fun p => decide (p.1 = l)) = some (l, p) ∧ gs = [p])
inductive TR (bs : List Row) (count : Int) (k : Key) : List Int → List Int → List Int → Prop
  | nil {f} : TR bs count k [] f f
  | lab {p : List Int} {i : Nat} {l : Int} {f r : List Int} : bs[i]? = some (.label l) → l < count → p.length ≤ 500 → f.length ≤ 500 → TR bs count k p (f ++ [l]) r → TR bs count k (p ++ [(i : Int)]) f r
  | skip {p : List Int} {i : Nat} {l : Int} {f r : List Int} : bs[i]? = some (.label l) → ¬ l < count → p.length ≤ 500 → f.length ≤ 500 → TR bs count k (p ++ [((i + 1 : Nat) : Int)]) f r → TR bs count k (p ++ [(i : Int)]) f r
  | jump {p : List Int} {i : Nat} {row : Row} {push : Bool} {l : Int} {gs f r : List Int} : bs[i]? = some row → jumpOf k row = some (push, l) → Goto (labs bs 0) l gs → p.length ≤ 500 → f.length ≤ 500 → TR bs count k ((p ++ if push then [((i + 1 : Nat) : Int)] else []) ++ gs) f r → TR bs count k (p ++ [(i : Int)]) f r
theorem popP_at {σ : Sto} {a : Addr} {p : List Int} {i : Int} (h : σ a = some (.list (il (p ++ [i])))) (hb : p.length ≤ 500) {Q : PV → Sto → Prop} : popP (.ref a) σ Q = Q (.int i) (σ.set a (.list (il p))) := by
  have sl := sizeLine_big
  have e1 : (il (p ++ [i])).length ≤ sizeLine := by simp; lia
  have e2 : (il (p ++ [i]))[(il (p ++ [i])).length - 1]? = some (.int i) := by simp
  have e3 : (il (p ++ [i])).dropLast = il p := by simp
  simp only [popP, h]
  apply propext
  constructor
  · rintro ⟨_, v, hv, q⟩
    rw [e2] at hv; cases hv
    rwa [e3] at q
  · exact fun q => ⟨e1, _, e2, by rwa [e3]⟩
theorem appI {σ : Sto} {a : Addr} {p : List Int} (h : σ a = some (.list (il p))) (hb : p.length ≤ 1000) {i : Int} {Q : PV → Sto → Prop} : appP (.ref a) (.int i) σ Q = Q .none (σ.set a (.list (il (p ++ [i])))) := by
  have sl := sizeLine_big
  rw [appP_at h (by simp; lia)]
  simp
theorem isListI {σ : Sto} {a : Addr} {p : List Int} (h : σ a = some (.list (il p))) : isListP (.ref a) σ := ⟨_, h⟩
noncomputable def d_tried_fin : SWP := dSeq (dIf (dTest (dOp (eqP not) (dName "target") (dVal (.int (-1))))) (dSeq (dExpr (dAppend (dName "pending") (dOp getP (dName "where") (dName "target")))) dEnd) dEnd) dEnd
noncomputable def d_tried_chain (F_switch_target F_table_target : FWP) : SWP :=
 (dIf (dTest (dOp (eqP id) (dName "name") (dVal (.str (Str.ofString "label"))))) (dSeq (dIf (dTest (dOp ltP (dOp getP (dName "ins") (dVal (.int 1))) (dName "count"))) (dSeq (dExpr (dAppend (dName "found") (dOp getP (dName "ins") (dVal (.int 1)))))
 dEnd) (dSeq (dExpr (dAppend (dName "pending") (dOp addP (dName "place") (dVal (.int 1)))))
 dEnd))
 dEnd) (dSeq (dIf (dOrT (dTest (dOp (eqP id) (dName "name") (dVal (.str (Str.ofString "try"))))) (dOrT (dTest (dOp (eqP id) (dName "name") (dVal (.str (Str.ofString "retry"))))) dOrNil)) (dSeq (dExpr (dAppend (dName "pending") (dOp addP (dName "place") (dVal (.int 1)))))
 (dSeq (dAssign "target" (dOp getP (dName "ins") (dVal (.int 1))))
 dEnd)) (dSeq (dIf (dTest (dOp (eqP id) (dName "name") (dVal (.str (Str.ofString "trust"))))) (dSeq (dAssign "target" (dOp getP (dName "ins") (dVal (.int 1))))
 dEnd) (dSeq (dIf (dTest (dOp (eqP id) (dName "name") (dVal (.str (Str.ofString "switch_on_term"))))) (dSeq (dAssign "target" (dCall F_switch_target (dCons (dName "ins") (dCons (dName "key") dNil))))
 dEnd) (dSeq (dIf (dOrT (dTest (dOp (eqP id) (dName "name") (dVal (.str (Str.ofString "switch_on_constant"))))) (dOrT (dTest (dOp (eqP id) (dName "name") (dVal (.str (Str.ofString "switch_on_structure"))))) dOrNil)) (dSeq (dAssign "target" (dCall F_table_target (dCons (dName "ins") (dCons (dName "key") dNil))))
 dEnd) (dSeq dNo
 dEnd))
 dEnd))
 dEnd))
 dEnd))
 dEnd))
noncomputable def d_tried_body (F_switch_target F_table_target : FWP) : SWP :=
(dSeq (dAssign "place" (dPop (dName "pending")))
 (dSeq (dAssign "ins" (dOp getP (dName "block") (dName "place")))
 (dSeq (dAssign "name" (dOp getP (dName "ins") (dVal (.int 0))))
 (dSeq (dAssign "target" (dVal (.int (-1))))
 (dSeq (d_tried_chain F_switch_target F_table_target) d_tried_fin)))))
theorem d_tried_eq (F_switch_target F_table_target F_label_places : FWP) : d_tried_clauses F_switch_target F_table_target F_label_places =
 (dSeq (dIf (dTest (dOp (eqP id) (dName "count") (dVal (.int 0)))) (dSeq (dRet (dList dNil))
 dEnd) dEnd)
 (dSeq (dIf (dTest (dOp (eqP id) (dName "count") (dVal (.int 1)))) (dSeq (dRet (dList (dCons (dVal (.int 0)) dNil)))
 dEnd) dEnd)
 (dSeq (dAssign "where" (dCall F_label_places (dCons (dName "block") dNil)))
 (dSeq (dAssign "found" (dList dNil))
 (dSeq (dAssign "pending" (dList (dCons (dVal (.int 0)) dNil)))
 (dSeq (dWhile (dTest (dOp gtP (dCall lenP (dCons (dName "pending") dNil)) (dVal (.int 0)))) (d_tried_body F_switch_target F_table_target))
 (dSeq (dRet (dName "found"))
 dEnd))))))) := rfl
structure TI (σ : Sto) (a w fa pa : Addr) (bs : List Row) (count : Int) (k : Key) (pend found : List Int) (ρ : PEnv) (σ' : Sto) : Prop where
  e1 : ρ "block" = some (.ref a)
  e2 : ρ "count" = some (.int count)
  e3 : ρ "key" = some (kv k)
  e4 : ρ "where" = some (.ref w)
  e5 : ρ "found" = some (.ref fa)
  e6 : ρ "pending" = some (.ref pa)
  old : ∀ x o, σ x = some o → σ' x = some o
  hw : σ' w = some (.dict (intD (labs bs 0)))
  hf : σ' fa = some (.list (il found))
  hp : σ' pa = some (.list (il pend))
theorem TI.setF {σ : Sto} {a w fa pa : Addr} {bs : List Row} {count : Int} {k : Key} {pend found : List Int} {ρ : PEnv} {σ' : Sto} (I : TI σ a w fa pa bs count k pend found ρ σ') (f0 : σ fa = none) (fp : fa ≠ pa) (f : List Int) : TI σ a w fa pa bs count k pend f ρ (σ'.set fa (.list (il f))) :=
  ⟨I.e1, I.e2, I.e3, I.e4, I.e5, I.e6, fun x o e => by
    have : x ≠ fa := by rintro rfl; rw [f0] at e; cases e
    rw [Sto.set_ne _ _ this]; exact I.old x o e, by
    have : w ≠ fa := by rintro rfl; have := I.hw; rw [I.hf] at this; cases this
    rw [Sto.set_ne _ _ this]; exact I.hw, Sto.set_same .., by rw [Sto.set_ne _ _ fp.symm]; exact I.hp⟩
theorem TI.setP {σ : Sto} {a w fa pa : Addr} {bs : List Row} {count : Int} {k : Key} {pend found : List Int} {ρ : PEnv} {σ' : Sto} (I : TI σ a w fa pa bs count k pend found ρ σ') (p0 : σ pa = none) (fp : fa ≠ pa) (f : List Int) : TI σ a w fa pa bs count k f found ρ (σ'.set pa (.list (il f))) :=
  ⟨I.e1, I.e2, I.e3, I.e4, I.e5, I.e6, fun x o e => by
    have : x ≠ pa := by rintro rfl; rw [p0] at e; cases e
    rw [Sto.set_ne _ _ this]; exact I.old x o e, by
    have : w ≠ pa := by rintro rfl; have := I.hw; rw [I.hp] at this; cases this
    rw [Sto.set_ne _ _ this]; exact I.hw, by rw [Sto.set_ne _ _ fp]; exact I.hf, Sto.set_same ..⟩
theorem TI.env {σ : Sto} {a w fa pa : Addr} {bs : List Row} {count : Int} {k : Key} {pend found : List Int} {ρ ρ' : PEnv} {σ' : Sto} (I : TI σ a w fa pa bs count k pend found ρ σ') (h : ∀ y, y ≠ "place" → y ≠ "ins" → y ≠ "name" → y ≠ "target" → ρ' y = ρ y) : TI σ a w fa pa bs count k pend found ρ' σ' :=
  ⟨(h _ (by decide) (by decide) (by decide) (by decide)).trans I.e1, (h _ (by decide) (by decide) (by decide) (by decide)).trans I.e2, (h _ (by decide) (by decide) (by decide) (by decide)).trans I.e3, (h _ (by decide) (by decide) (by decide) (by decide)).trans I.e4, (h _ (by decide) (by decide) (by decide) (by decide)).trans I.e5, (h _ (by decide) (by decide) (by decide) (by decide)).trans I.e6, I.old, I.hw, I.hf, I.hp⟩
theorem rowVal {row : Row} {k : Key} {push : Bool} {l : Int} {bs : List Row} {i : Nat} (hi : bs[i]? = some row) : (bs.map rv)[i]? = some (rv row) := by rw [List.getElem?_map, hi]; rfl
theorem tried_fin {σ : Sto} {a w fa pa : Addr} {bs : List Row} {count : Int} {k : Key} {pend found gs : List Int} {l : Int} {ρ : PEnv} {σ' : Sto} {K : PFlow → PEnv → Sto → Prop} (p0 : σ pa = none) (fp : fa ≠ pa) (I : TI σ a w fa pa bs count k pend found ρ σ') (et : ρ "target" = some (.int l)) (hg : Goto (labs bs 0) l gs) (hp : pend.length ≤ 501)
    (h : ∀ ρ' σ'', TI σ a w fa pa bs count k (pend ++ gs) found ρ' σ'' → K .next ρ' σ'') : d_tried_fin ρ σ' K := by
  simp only [d_tried_fin, dSeq, dIf, dTest, dOp, dName, dVal, dEnd, dExpr, dAppend, truP_b, et, eqP_int]
  rcases hg with ⟨rfl, rfl⟩ | ⟨hl, q, hq, rfl⟩
  · simp only [decide_true, Bool.not_true, if_false, Bool.false_eq_true]
    rw [List.append_nil] at h
    exact h _ _ I
  · simp only [hl, decide_false, Bool.not_false, if_true, I.e4, I.e6]
    rw [getP_int I.hw hq]
    refine ⟨isListI I.hp, ?_⟩
    try dsimp only
    rw [appI I.hp (by lia)]
    simp only [plainK_n]
    exact h _ _ (I.setP p0 fp _)
theorem g_try {l w : Int} {σ : Sto} {Q : PV → Sto → Prop} : getP (rv (.try_ l w)) (.int 1) σ Q = Q (.int l) σ := seqP1
theorem g_retry {l : Int} {σ : Sto} {Q : PV → Sto → Prop} : getP (rv (.retry l)) (.int 1) σ Q = Q (.int l) σ := seqP1
theorem g_trust {l : Int} {σ : Sto} {Q : PV → Sto → Prop} : getP (rv (.trust l)) (.int 1) σ Q = Q (.int l) σ := seqP1
theorem g_label {l : Int} {σ : Sto} {Q : PV → Sto → Prop} : getP (rv (.label l)) (.int 1) σ Q = Q (.int l) σ := seqP1
theorem if_nm {s nm : String} {A B : SWP} {ρ : PEnv} {σ : Sto} {K : PFlow → PEnv → Sto → Prop} (h1 : PyData.strOk (Str.ofString nm) = true) (h2 : PyData.strOk (Str.ofString s) = true) (e : ρ "name" = some (sv nm)) : dIf (dTest (dOp (eqP id) (dName "name") (dVal (.str (Str.ofString s))))) A B ρ σ K = if nm = s then A ρ σ K else B ρ σ K := by
  simp only [dIf, dTest, dOp, dName, dVal, e, eqP_str h1 h2, truP_b, id, decide_eq_true_eq]
theorem if_nm2 {s t nm : String} {A B : SWP} {ρ : PEnv} {σ : Sto} {K : PFlow → PEnv → Sto → Prop} (h1 : PyData.strOk (Str.ofString nm) = true) (h2 : PyData.strOk (Str.ofString s) = true) (h3 : PyData.strOk (Str.ofString t) = true) (e : ρ "name" = some (sv nm)) : dIf (dOrT (dTest (dOp (eqP id) (dName "name") (dVal (.str (Str.ofString s))))) (dOrT (dTest (dOp (eqP id) (dName "name") (dVal (.str (Str.ofString t))))) dOrNil)) A B ρ σ K = if nm = s ∨ nm = t then A ρ σ K else B ρ σ K := by
  simp only [dIf, dTest, dOp, dName, dVal, e, eqP_str h1 h2, eqP_str h1 h3, truP_b, id, dOrT, dOrNil]
  by_cases h : nm = s
  · simp [h]
  · by_cases h' : nm = t <;> simp [h, h']
theorem tried_pre {σ : Sto} {a w fa pa : Addr} {bs : List Row} {count : Int} {k : Key} {p found : List Int} {i : Nat} {row : Row} {ρ : PEnv} {σ' : Sto} {K : PFlow → PEnv → Sto → Prop} (ha : σ a = some (.list (bs.map rv))) (hb : bs.length ≤ 1000) (p0 : σ pa = none) (fp : fa ≠ pa) (I : TI σ a w fa pa bs count k (p ++ [(i : Int)]) found ρ σ') (hi : bs[i]? = some row) (hp : p.length ≤ 500)
    (h : ∀ ρ' σ'', TI σ a w fa pa bs count k p found ρ' σ'' → (∀ f, σ''.set pa f = σ'.set pa f) → ρ' "place" = some (.int i) → ρ' "ins" = some (rv row) → ρ' "name" = some (sv row.name) → ρ' "target" = some (.int (-1)) → dSeq (d_tried_chain S_switch_target S_table_target) d_tried_fin ρ' σ'' K) : d_tried_body S_switch_target S_table_target ρ σ' K := by
  have lt : i < bs.length := (List.getElem?_eq_some_iff.mp hi).1
  have I1 := I.setP p0 fp p
  rw [d_tried_body, seq_assign, dPop, name_at I.e6, popP_at I.hp hp, seq_assign, dOp, name_at ((PEnv.set_ne _ _ (by decide)).trans I.e1), name_at (PEnv.set_same ..), getP_list (I1.old _ _ ha) (rowVal (k := k) (push := true) (l := 0) hi) (by lia), seq_assign, dOp, name_at (PEnv.set_same ..), dVal, getP_rv0, seq_assign, dVal]
  exact h _ _ (I1.env fun y h1 h2 h3 h4 => by rw [PEnv.set_ne _ _ h4, PEnv.set_ne _ _ h3, PEnv.set_ne _ _ h2, PEnv.set_ne _ _ h1]) (fun f => Sto.set_set ..) rfl rfl rfl rfl
theorem tried_lab {σ : Sto} {a w fa pa : Addr} {bs : List Row} {count : Int} {k : Key} {p found : List Int} {i : Nat} {l : Int} {ρ : PEnv} {σ' : Sto} {K : PFlow → PEnv → Sto → Prop} (ha : σ a = some (.list (bs.map rv))) (hb : bs.length ≤ 1000) (f0 : σ fa = none) (p0 : σ pa = none) (fp : fa ≠ pa) (I : TI σ a w fa pa bs count k (p ++ [(i : Int)]) found ρ σ') (hi : bs[i]? = some (.label l)) (hp : p.length ≤ 500) (hf : found.length ≤ 500)
    (h : ∀ ρ' σ'', TI σ a w fa pa bs count k (if l < count then p else p ++ [((i + 1 : Nat) : Int)]) (if l < count then found ++ [l] else found) ρ' σ'' → K .next ρ' σ'') : d_tried_body S_switch_target S_table_target ρ σ' K := by
  refine tried_pre ha hb p0 fp I hi hp fun ρ₁ σ₁ I1 hset q1 q2 q3 q4 => ?_
  have fin : ∀ σ₂, K .next ρ₁ σ₂ → d_tried_fin ρ₁ σ₂ K := by
    intro σ₂ hK
    rw [d_tried_fin, seq_end, dIf, dTest, dOp, name_at q4, dVal, eqP_int]
    exact hK
  rw [d_tried_chain]
  by_cases hl : l < count
  · rw [if_pos hl, if_pos hl] at h
    have I2 := I1.setF f0 fp (found ++ [l])
    refine seq_next (ρ' := ρ₁) (σ' := σ₁.set fa (.list (il (found ++ [l])))) (fun Q hQ => ?_) (fin _ (h _ _ I2))
    rw [if_nm (so_row (.label l)) so_label q3, if_pos (show (Row.label l).name = "label" from rfl), seq_end, dIf, dTest, dOp, dOp, name_at q2, dVal, g_label, name_at I1.e2, ltP_i, truP_b, decide_eq_true hl, if_pos rfl, seq_expr, dAppend, name_at I1.e5]
    refine ⟨isListI I1.hf, ?_⟩
    rw [dOp, name_at q2, dVal, g_label, appI I1.hf (by lia)]
    exact hQ
  · rw [if_neg hl, if_neg hl] at h
    have e : (i : Int) + 1 = ((i + 1 : Nat) : Int) := by lia
    have I2 := I1.setP p0 fp (p ++ [((i + 1 : Nat) : Int)])
    refine seq_next (ρ' := ρ₁) (σ' := σ₁.set pa (.list (il (p ++ [((i + 1 : Nat) : Int)])))) (fun Q hQ => ?_) (fin _ (h _ _ I2))
    rw [if_nm (so_row (.label l)) so_label q3, if_pos (show (Row.label l).name = "label" from rfl), seq_end, dIf, dTest, dOp, dOp, name_at q2, dVal, g_label, name_at I1.e2, ltP_i, truP_b, decide_eq_false hl, if_neg Bool.false_ne_true, seq_expr, dAppend, name_at I1.e6]
    refine ⟨isListI I1.hp, ?_⟩
    rw [dOp, name_at q1, dVal, addP_i, e, appI I1.hp (by lia)]
    exact hQ
theorem tried_jump {σ : Sto} {a w fa pa : Addr} {bs : List Row} {count : Int} {k : Key} {p found gs : List Int} {i : Nat} {l : Int} {row : Row} {push : Bool} {ρ : PEnv} {σ' : Sto} {K : PFlow → PEnv → Sto → Prop} (ha : σ a = some (.list (bs.map rv))) (hb : bs.length ≤ 1000) (f0 : σ fa = none) (p0 : σ pa = none) (fp : fa ≠ pa) (I : TI σ a w fa pa bs count k (p ++ [(i : Int)]) found ρ σ') (hi : bs[i]? = some row) (hj : jumpOf k row = some (push, l)) (hg : Goto (labs bs 0) l gs) (hp : p.length ≤ 500)
    (h : ∀ ρ' σ'', TI σ a w fa pa bs count k ((p ++ if push then [((i + 1 : Nat) : Int)] else []) ++ gs) found ρ' σ'' → K .next ρ' σ'') : d_tried_body S_switch_target S_table_target ρ σ' K := by
  refine tried_pre ha hb p0 fp I hi hp fun ρ₁ σ₁ I1 hset q1 q2 q3 q4 => ?_
  have e : (i : Int) + 1 = ((i + 1 : Nat) : Int) := by lia
  have I2 := I1.setP p0 fp (p ++ [((i + 1 : Nat) : Int)])
  have fin1 : push = false → d_tried_fin (ρ₁.set "target" (.int l)) σ₁ K := fun hpush => tried_fin p0 fp (I1.env fun y _ _ _ h4 => PEnv.set_ne _ _ h4) (PEnv.set_same ..) hg (by lia) fun ρ'' σ'' I'' => h ρ'' σ'' (by rw [hpush]; simpa using I'')
  have fin2 : push = true → d_tried_fin (ρ₁.set "target" (.int l)) (σ₁.set pa (.list (il (p ++ [((i + 1 : Nat) : Int)])))) K := fun hpush => tried_fin p0 fp (I2.env fun y _ _ _ h4 => PEnv.set_ne _ _ h4) (PEnv.set_same ..) hg (by simp; lia) fun ρ'' σ'' I'' => h ρ'' σ'' (by rw [hpush]; simpa using I'')
  rw [d_tried_chain]
  cases row with
  | label _ => cases hj
  | exec _ => cases hj
  | try_ l' w' =>
    cases hj
    refine seq_next (fun Q hQ => ?_) (fin2 rfl)
    rw [if_nm (nm := "try") so_try so_label q3, if_neg (show ¬ "try" = "label" by decide), seq_end, if_nm2 (nm := "try") so_try so_try so_retry q3, if_pos (show "try" = "try" ∨ "try" = "retry" from .inl rfl), seq_expr, dAppend, name_at I1.e6]
    refine ⟨isListI I1.hp, ?_⟩
    rw [dOp, name_at q1, dVal, addP_i, e, appI I1.hp (by lia), plainK_n, seq_assign, dOp, name_at q2, dVal, g_try]
    exact hQ
  | retry l' =>
    cases hj
    refine seq_next (fun Q hQ => ?_) (fin2 rfl)
    rw [if_nm (nm := "retry") so_retry so_label q3, if_neg (show ¬ "retry" = "label" by decide), seq_end, if_nm2 (nm := "retry") so_retry so_try so_retry q3, if_pos (show "retry" = "try" ∨ "retry" = "retry" from .inr rfl), seq_expr, dAppend, name_at I1.e6]
    refine ⟨isListI I1.hp, ?_⟩
    rw [dOp, name_at q1, dVal, addP_i, e, appI I1.hp (by lia), plainK_n, seq_assign, dOp, name_at q2, dVal, g_retry]
    exact hQ
  | trust l' =>
    cases hj
    refine seq_next (fun Q hQ => ?_) (fin1 rfl)
    rw [if_nm (nm := "trust") so_trust so_label q3, if_neg (show ¬ "trust" = "label" by decide), seq_end, if_nm2 (nm := "trust") so_trust so_try so_retry q3, if_neg (show ¬ ("trust" = "try" ∨ "trust" = "retry") by decide), seq_end, if_nm (nm := "trust") so_trust so_trust q3, if_pos (show "trust" = "trust" from rfl), seq_assign, dOp, name_at q2, dVal, g_trust]
    exact hQ
  | sterm v c li s =>
    cases hj
    refine seq_next (fun Q hQ => ?_) (fin1 rfl)
    rw [if_nm (nm := "switch_on_term") so_st so_label q3, if_neg (show ¬ "switch_on_term" = "label" by decide), seq_end, if_nm2 (nm := "switch_on_term") so_st so_try so_retry q3, if_neg (show ¬ ("switch_on_term" = "try" ∨ "switch_on_term" = "retry") by decide), seq_end, if_nm (nm := "switch_on_term") so_st so_trust q3, if_neg (show ¬ "switch_on_term" = "trust" by decide), seq_end, if_nm (nm := "switch_on_term") so_st so_st q3, if_pos (show "switch_on_term" = "switch_on_term" from rfl), seq_assign, dCall, dCons, name_at q2, dCons, name_at I1.e3, dNil]
    exact ⟨v, c, li, s, k, rfl, hQ⟩
  | stab con t d =>
    replace hj : (if k.isKind con = true then some (false, tlook t k.arg d) else none) = some (push, l) := hj
    by_cases hk : k.isKind con = true
    · rw [if_pos hk] at hj
      cases hj
      refine seq_next (fun Q hQ => ?_) (fin1 rfl)
      have n1 : ¬ (Row.stab con t d).name = "label" := by cases con <;> simp [Row.name]
      have n2 : ¬ ((Row.stab con t d).name = "try" ∨ (Row.stab con t d).name = "retry") := by cases con <;> simp [Row.name]
      have n3 : ¬ (Row.stab con t d).name = "trust" := by cases con <;> simp [Row.name]
      have n4 : ¬ (Row.stab con t d).name = "switch_on_term" := by cases con <;> simp [Row.name]
      have n5 : (Row.stab con t d).name = "switch_on_constant" ∨ (Row.stab con t d).name = "switch_on_structure" := by cases con <;> simp [Row.name]
      rw [if_nm (so_row (.stab con t d)) so_label q3, if_neg n1, seq_end, if_nm2 (so_row (.stab con t d)) so_try so_retry q3, if_neg n2, seq_end, if_nm (so_row (.stab con t d)) so_trust q3, if_neg n3, seq_end, if_nm (so_row (.stab con t d)) so_st q3, if_neg n4, seq_end, if_nm2 (so_row (.stab con t d)) so_sc so_ss q3, if_pos n5, seq_assign, dCall, dCons, name_at q2, dCons, name_at I1.e3, dNil]
      exact ⟨con, t, d, k, rfl, hk, hQ⟩
    · rw [if_neg hk] at hj; cases hj
theorem tried_while {σ : Sto} {a w fa pa : Addr} {bs : List Row} {count : Int} {k : Key} (ha : σ a = some (.list (bs.map rv))) (hb : bs.length ≤ 1000) (f0 : σ fa = none) (p0 : σ pa = none) (fp : fa ≠ pa) {pend found due : List Int} (h : TR bs count k pend found due) :
    ∃ n, ∀ ρ σ' (K : PFlow → PEnv → Sto → Prop), TI σ a w fa pa bs count k pend found ρ σ' → (∀ ρ' σ'', TI σ a w fa pa bs count k [] due ρ' σ'' → K .next ρ' σ'') → whileN (dTest (dOp gtP (dCall lenP (dCons (dName "pending") dNil)) (dVal (.int 0)))) (d_tried_body S_switch_target S_table_target) n ρ σ' K := by
  have one : ∀ {pend found : List Int} {ρ : PEnv} {σ' : Sto} {K : PFlow → PEnv → Sto → Prop} {n : Nat} {i : Int} {p : List Int}, p.length ≤ 500 → TI σ a w fa pa bs count k (p ++ [i]) found ρ σ' → d_tried_body S_switch_target S_table_target ρ σ' (loopStep (fun ρ σ => whileN (dTest (dOp gtP (dCall lenP (dCons (dName "pending") dNil)) (dVal (.int 0)))) (d_tried_body S_switch_target S_table_target) n ρ σ K) K) →
      whileN (dTest (dOp gtP (dCall lenP (dCons (dName "pending") dNil)) (dVal (.int 0)))) (d_tried_body S_switch_target S_table_target) (n + 1) ρ σ' K := by
    intro pend found ρ σ' K n i p hp I hq
    unfold whileN
    have e0 : decide ((0 : Int) < (((il (p ++ [i])).length : Nat) : Int)) = true := by simp
    simp only [dTest, dOp, dName, dVal, dCall, dCons, dNil, if_true, truP_b, gtP_i, I.e6, lenP_list I.hp (by simp; lia), e0]
    exact hq
  induction h with
  | nil =>
    refine ⟨1, fun ρ σ' K I hK => ?_⟩
    unfold whileN
    simp only [dTest, dOp, dName, dVal, dCall, dCons, dNil, if_false, truP_b, gtP_i, Bool.false_eq_true, I.e6, lenP_list I.hp (by simp), List.map_nil, List.length_nil, Int.cast_ofNat_Int, Int.lt_irrefl, decide_false]
    exact hK _ _ I
  | lab hi hl hp hf _ ih =>
    obtain ⟨n, ih⟩ := ih
    refine ⟨n + 1, fun ρ σ' K I hK => one (pend := []) hp I (tried_lab ha hb f0 p0 fp I hi hp hf fun ρ' σ'' I' => ?_)⟩
    rw [if_pos hl, if_pos hl] at I'
    exact ih ρ' σ'' K I' hK
  | skip hi hl hp hf _ ih =>
    obtain ⟨n, ih⟩ := ih
    refine ⟨n + 1, fun ρ σ' K I hK => one (pend := []) hp I (tried_lab ha hb f0 p0 fp I hi hp hf fun ρ' σ'' I' => ?_)⟩
    rw [if_neg hl, if_neg hl] at I'
    exact ih ρ' σ'' K I' hK
  | jump hi hj hg hp hf _ ih =>
    obtain ⟨n, ih⟩ := ih
    exact ⟨n + 1, fun ρ σ' K I hK => one (pend := []) hp I (tried_jump ha hb f0 p0 fp I hi hj hg hp fun ρ' σ'' I' => ih ρ' σ'' K I' hK)⟩
inductive S_tried (args : List PV) (σ : Sto) (Q : PV → Sto → Prop) : Prop
  | mk : ∀ a bs count k due, (args = [.ref a, .int count, kv k]) → (σ a = some (.list (bs.map rv))) → (bs.length ≤ 1000) → (((labs bs 0).map (·.1)).Nodup) → (2 ≤ count) → (TR bs count k [0] [] due) → (∀ c σ', (∀ x o, σ x = some o → σ' x = some o) → σ c = none → σ' c = some (.list (il due)) → Q (.ref c) σ') → S_tried args σ Q
theorem s_tried : ∀ args σ Q, S_tried args σ Q → fnP ["block", "count", "key"] (d_tried_clauses S_switch_target S_table_target S_label_places) args σ Q := by
  rintro args σ Q ⟨a, bs, count, k, due, rfl, ha, hb, hn, hc, htr, h⟩
  refine ⟨rfl, ?_⟩
  have c0 : ¬ count = 0 := by lia
  have c1 : ¬ count = 1 := by lia
  rw [d_tried_eq]
  simp only [dSeq, dIf, dTest, dOp, dName, dVal, dRet, dEnd, dAssign, dCall, dCons, dNil, dList, dWhile, bindEnv, PEnv.set_b, if_false, fnEnd_r, truP_b, Bool.false_eq_true, String.reduceBEq, cond_true, cond_false, eqP_int, id, c0, c1, decide_false]
  refine ⟨a, bs, rfl, ha, hb, hn, fun w hw => ?_⟩
  refine ⟨sl0, fun fa hfa => ?_⟩
  dsimp only
  refine ⟨sl1, fun pa hpa => ?_⟩
  have fw : fa ≠ w := by rintro rfl; rw [Sto.set_same] at hfa; cases hfa
  have f0 : σ fa = none := by rwa [Sto.set_ne _ _ fw] at hfa
  have pf : pa ≠ fa := by rintro rfl; rw [Sto.set_same] at hpa; cases hpa
  rw [Sto.set_ne _ _ pf] at hpa
  have pw : pa ≠ w := by rintro rfl; rw [Sto.set_same] at hpa; cases hpa
  have p0 : σ pa = none := by rwa [Sto.set_ne _ _ pw] at hpa
  obtain ⟨n, hwh⟩ := tried_while (w := w) ha hb f0 p0 pf.symm htr
  refine ⟨n, hwh _ _ _ ⟨rfl, rfl, rfl, rfl, rfl, rfl, fun x o e => ?_, ?_, ?_, ?_⟩ fun ρ' σ'' I => ?_⟩
  · have x1 : x ≠ w := by rintro rfl; rw [hw] at e; cases e
    have x2 : x ≠ fa := by rintro rfl; rw [f0] at e; cases e
    have x3 : x ≠ pa := by rintro rfl; rw [p0] at e; cases e
    rw [Sto.set_ne _ _ x3, Sto.set_ne _ _ x2, Sto.set_ne _ _ x1]; exact e
  · rw [Sto.set_ne _ _ pw.symm, Sto.set_ne _ _ fw.symm, Sto.set_same]
  · rw [Sto.set_ne _ _ pf.symm, Sto.set_same]; rfl
  · rw [Sto.set_same]; rfl
  · simp only [I.e5]
    exact h fa σ'' I.old f0 I.hf
end Mine
namespace Mine
open PySem PySem.W PySem.Calls PyProof.Rows PySem.Spec
theorem isi_in {v : PV} {T : String} {σ : Sto} {Q : PV → Sto → Prop} {P : Prop} (h : isiT T σ Q v = P) : isiP [v, .typ T] σ Q = P := by
  refine (propext ⟨fun ⟨v', T', e, q⟩ => ?_, fun q => ⟨v, T, rfl, q⟩⟩).trans h
  cases e; exact q
theorem isi_int {n : Int} {σ : Sto} {Q : PV → Sto → Prop} : isiP [.int n, .typ "int"] σ Q = Q (.bool true) σ := isi_in (propext ⟨fun h => h.elim (·.2) fun z => absurd z.1 (by decide), fun q => .inl ⟨rfl, q⟩⟩)
theorem isi_bool {n : Int} {σ : Sto} {Q : PV → Sto → Prop} : isiP [.int n, .typ "bool"] σ Q = Q (.bool false) σ := isi_in (propext ⟨fun h => h.elim (fun z => absurd z.1 (by decide)) (·.2), fun q => .inr ⟨rfl, q⟩⟩)
theorem isi_str {n : Str} {σ : Sto} {Q : PV → Sto → Prop} : isiP [.str n, .typ "str"] σ Q = Q (.bool true) σ := isi_in (propext ⟨fun h => h.2, fun q => ⟨rfl, q⟩⟩)
theorem isi_tup {l : List PV} {σ : Sto} {Q : PV → Sto → Prop} : isiP [.tup l, .typ "tuple"] σ Q = Q (.bool true) σ := isi_in (propext ⟨fun h => h.2, fun q => ⟨rfl, q⟩⟩)
inductive S_is_whole (args : List PV) (σ : Sto) (Q : PV → Sto → Prop) : Prop
  | mk : ∀ n, (args = [.int n]) → (Q (.bool true) σ) → S_is_whole args σ Q
theorem s_is_whole : ∀ args σ Q, S_is_whole args σ Q → fnP ["value"] d_is_whole args σ Q := by
  rintro args σ Q ⟨n, rfl, h⟩
  refine ⟨rfl, ?_⟩
  simp only [d_is_whole, dSeq, dName, dVal, dRet, dCall, dCons, dNil, dNotV, dAndV, bindEnv, PEnv.set_b, if_true, fnEnd_r, truP_b, String.reduceBEq, cond_true, isi_int, isi_bool, Bool.not_false]
  exact h
inductive S_is_pair (args : List PV) (σ : Sto) (Q : PV → Sto → Prop) : Prop
  | mk : ∀ a b, (args = [.tup [a, b]]) → (Q (.bool true) σ) → S_is_pair args σ Q
theorem s_is_pair : ∀ args σ Q, S_is_pair args σ Q → fnP ["value"] d_is_pair args σ Q := by
  rintro args σ Q ⟨a, b, rfl, h⟩
  refine ⟨rfl, ?_⟩
  simp only [d_is_pair, dSeq, dOp, dName, dVal, dRet, dCall, dCons, dNil, dAndV, bindEnv, PEnv.set_b, if_true, fnEnd_r, truP_b, String.reduceBEq, cond_true, isi_tup]
  simp only [lenP_t, List.length_cons, List.length_nil, Nat.reduceAdd]
  refine ⟨by decide, ?_⟩
  rw [show PV.int ((2 : Nat) : Int) = PV.int 2 from rfl, eqP_int]
  exact h
noncomputable def conOk (t v : Int) : Bool := t = 5 || (t = 4 && 0 ≤ v)
inductive S_is_constant (args : List PV) (σ : Sto) (Q : PV → Sto → Prop) : Prop
  | mk : ∀ t v, (args = [.tup [.int t, .int v]]) → (conOk t v = true) → (Q (.bool true) σ) → S_is_constant args σ Q
theorem s_is_constant : ∀ args σ Q, S_is_constant args σ Q → fnP ["value"] (d_is_constant S_is_whole S_is_pair) args σ Q := by
  rintro args σ Q ⟨t, v, rfl, hc, h⟩
  refine ⟨rfl, ?_⟩
  simp only [d_is_constant, dSeq, dOp, dName, dVal, dRet, dCall, dCons, dNil, dAndV, dOrV, bindEnv, PEnv.set_b, fnEnd_r, String.reduceBEq, cond_true]
  refine ⟨_, _, rfl, ?_⟩
  simp only [if_true, truP_b, geP_i, getP_t, seqP0, seqP1]
  refine ⟨v, rfl, ?_⟩
  simp only [if_true, truP_b, eqP_int, id]
  simp only [conOk, Bool.or_eq_true, Bool.and_eq_true, decide_eq_true_eq] at hc
  by_cases h5 : t = 5
  · simp only [h5, decide_true, if_true]
    exact h
  · have h4 := hc.resolve_left h5
    simp only [h4.1, h4.2, decide_true, if_true]
    exact h
inductive S_is_functor (args : List PV) (σ : Sto) (Q : PV → Sto → Prop) : Prop
  | mk : ∀ n : Int, (args = [.int n]) → (0 ≤ n) → (Q (.bool true) σ) → S_is_functor args σ Q
theorem s_is_functor : ∀ args σ Q, S_is_functor args σ Q → fnP ["value"] (d_is_functor S_is_whole) args σ Q := by
  rintro args σ Q ⟨n, rfl, hn, h⟩
  refine ⟨rfl, ?_⟩
  simp only [d_is_functor, dSeq, dOp, dName, dVal, dRet, dCall, dCons, dNil, dAndV, bindEnv, PEnv.set_b, fnEnd_r, geP_i, String.reduceBEq, cond_true]
  refine ⟨n, rfl, ?_⟩
  simp only [if_true, truP_b, hn, decide_true]
  exact h
inductive S_is_target (args : List PV) (σ : Sto) (Q : PV → Sto → Prop) : Prop
  | mk : ∀ n : Int, (args = [.int n, .bool false]) → (-1 ≤ n) → (Q (.bool true) σ) → S_is_target args σ Q
theorem s_is_target : ∀ args σ Q, S_is_target args σ Q → fnP ["value", "linked"] (d_is_target S_is_whole) args σ Q := by
  rintro args σ Q ⟨n, rfl, hn, h⟩
  refine ⟨rfl, ?_⟩
  simp only [d_is_target, dSeq, dIf, dNotT, dTest, dOp, dName, dVal, dRet, dEnd, dCall, dCons, dNil, dNeg, bindEnv, PEnv.set_b, if_false, fnEnd_r, truP_b, geP_i, negP_i, Bool.false_eq_true, String.reduceBEq, cond_true, cond_false]
  refine ⟨n, rfl, ?_⟩
  simp only [if_false, truP_b, Bool.false_eq_true, Bool.not_true, hn, decide_true]
  exact h
noncomputable def kaOk : KA → Bool
  | .p t v => conOk t v
  | .i n => 0 ≤ n
noncomputable def tuStr (con : Bool) : String := if con then "T" else "U"
theorem so_R : PyData.strOk (Str.ofString "R") = true := by kernel_rfl
theorem so_X : PyData.strOk (Str.ofString "X") = true := by kernel_rfl
theorem so_Y : PyData.strOk (Str.ofString "Y") = true := by kernel_rfl
theorem so_C : PyData.strOk (Str.ofString "C") = true := by kernel_rfl
theorem so_F : PyData.strOk (Str.ofString "F") = true := by kernel_rfl
theorem so_N : PyData.strOk (Str.ofString "N") = true := by kernel_rfl
theorem so_L : PyData.strOk (Str.ofString "L") = true := by kernel_rfl
theorem so_T : PyData.strOk (Str.ofString "T") = true := by kernel_rfl
theorem so_U : PyData.strOk (Str.ofString "U") = true := by kernel_rfl
theorem eqS {f : Bool → Bool} {a b : String} (ha : PyData.strOk (Str.ofString a) = true) (hb : PyData.strOk (Str.ofString b) = true) {σ : Sto} {Q : PV → Sto → Prop} : eqP f (.str (Str.ofString a)) (.str (Str.ofString b)) σ Q = Q (.bool (f (decide (a = b)))) σ := eqP_str ha hb
inductive S_is_key (args : List PV) (σ : Sto) (Q : PV → Sto → Prop) : Prop
  | mk : ∀ con a, (args = [kav a, sv (tuStr con)]) → (a.isKind con = true) → (kaOk a = true) → (Q (.bool true) σ) → S_is_key args σ Q
theorem s_is_key : ∀ args σ Q, S_is_key args σ Q → fnP ["value", "kind"] (d_is_key S_is_functor S_is_constant) args σ Q := by
  rintro args σ Q ⟨con, a, rfl, hk, ho, h⟩
  refine ⟨rfl, ?_⟩
  cases con with
  | true =>
    simp only [d_is_key, dSeq, dIf, dTest, dOp, dName, dVal, dRet, dEnd, dCall, dCons, dNil, bindEnv, PEnv.set_b, if_true, fnEnd_r, truP_b, String.reduceBEq, cond_true, cond_false, tuStr, eqS so_T so_T, decide_true, id]
    cases a with
    | i n => cases hk
    | p t v => exact ⟨t, v, rfl, ho, h⟩
  | false =>
    simp only [d_is_key, dSeq, dIf, dTest, dOp, dName, dVal, dRet, dEnd, dCall, dCons, dNil, bindEnv, PEnv.set_b, if_false, String.reduceEq, fnEnd_r, truP_b, Bool.false_eq_true, String.reduceBEq, cond_true, cond_false, tuStr, eqS so_U so_T, decide_false, id]
    cases a with
    | p t v => cases hk
    | i n => exact ⟨n, rfl, by simpa [kaOk] using ho, h⟩
noncomputable def tabOk (con : Bool) (t : List (KA × Int)) : Prop := ∀ p ∈ t, p.1.isKind con = true ∧ kaOk p.1 = true ∧ -1 ≤ p.2
inductive S_is_table (args : List PV) (σ : Sto) (Q : PV → Sto → Prop) : Prop
  | mk : ∀ con t, (args = [tv t, sv (tuStr con), .bool false]) → (tabOk con t) → (Q (.bool true) σ) → S_is_table args σ Q
theorem s_is_table : ∀ args σ Q, S_is_table args σ Q → fnP ["value", "kind", "linked"] (d_is_table S_is_target S_is_key S_is_pair) args σ Q := by
  rintro args σ Q ⟨con, t, rfl, ht, h⟩
  refine ⟨rfl, ?_⟩
  have hi : ∀ {Q : PV → Sto → Prop}, isiP [tv t, .typ "tuple"] σ Q = Q (.bool true) σ := isi_tup
  simp only [d_is_table, dSeq, dIf, dNotT, dTest, dName, dVal, dRet, dEnd, dCall, dCons, dNil, dFor, bindEnv, PEnv.set_b, if_false, fnEnd_r, truP_b, Bool.false_eq_true, String.reduceBEq, cond_true, cond_false, hi, Bool.not_true]
  simp only [tv, forP]
  refine forL_inv (I := fun i ρ' σ' => ρ' "kind" = some (sv (tuStr con)) ∧ σ' = σ) ?_ ?_ _ _ ?_
  · rintro i v ρ' σ' K hu ⟨e1, rfl⟩ hK _
    rw [List.getElem?_map] at hu
    cases hti : t[i]? with
    | none => rw [hti] at hu; cases hu
    | some p =>
      rw [hti] at hu
      cases hu
      have hp := ht p (List.mem_of_getElem? hti)
      simp only [dSeq, dIf, dOrT, dOrNil, dNotT, dTest, dOp, dName, dVal, dRet, dEnd, dCall, dCons, dNil, PEnv.set_b, if_true, if_false, Bool.false_eq_true, String.reduceBEq, cond_true, cond_false, e1]
      refine ⟨_, _, rfl, ?_⟩
      simp only [if_false, truP_b, Bool.false_eq_true, Bool.not_true, getP_t, seqP0, seqP1]
      refine ⟨con, p.1, rfl, hp.1, hp.2.1, ?_⟩
      simp only [if_false, truP_b, Bool.false_eq_true, Bool.not_true]
      refine ⟨p.2, rfl, hp.2.2, ?_⟩
      simp only [if_false, truP_b, Bool.false_eq_true, Bool.not_true]
      exact hK _ _ ⟨e1, rfl⟩
  · rintro ρ' σ' ⟨e1, rfl⟩
    simp only [dSeq]
    exact h
  · exact ⟨rfl, rfl⟩
end Mine
namespace Mine
open PySem PySem.W PySem.Calls PyProof.Rows PySem.Spec
inductive OpV : PV → String → Prop
  | L {n : Int} : -1 ≤ n → OpV (.int n) "L"
  | N {n : Int} : 0 ≤ n → OpV (.int n) "N"
  | F {n : Int} : 0 ≤ n → OpV (.int n) "F"
  | tab {con : Bool} {t : List (KA × Int)} : tabOk con t → OpV (tv t) (tuStr con)
noncomputable def S_none : FWP := fun _ _ _ => False
inductive S_is_operand (args : List PV) (σ : Sto) (Q : PV → Sto → Prop) : Prop
  | mk : ∀ v k, (args = [v, sv k, .bool false]) → (OpV v k) → (Q (.bool true) σ) → S_is_operand args σ Q
theorem kd_eq {k t : String} {f : Bool → Bool} {ρ : PEnv} {σ : Sto} (hk : PyData.strOk (Str.ofString k) = true) (ht : PyData.strOk (Str.ofString t) = true) (e : ρ "kind" = some (sv k)) (Q : Bool → Sto → Prop) : dTest (dOp (eqP f) (dName "kind") (dVal (.str (Str.ofString t)))) ρ σ Q = Q (f (decide (k = t))) σ := by
  rw [dTest, dOp, name_at e, dVal, eqP_str hk ht]; rfl
theorem kd_eq2 {k t u : String} {ρ : PEnv} {σ : Sto} (hk : PyData.strOk (Str.ofString k) = true) (ht : PyData.strOk (Str.ofString t) = true) (hu : PyData.strOk (Str.ofString u) = true) (e : ρ "kind" = some (sv k)) (Q : Bool → Sto → Prop) : dOrT (dTest (dOp (eqP id) (dName "kind") (dVal (.str (Str.ofString t))))) (dOrT (dTest (dOp (eqP id) (dName "kind") (dVal (.str (Str.ofString u))))) dOrNil) ρ σ Q = Q (decide (k = t) || decide (k = u)) σ := by
  rw [dOrT, kd_eq hk ht e, id]
  cases h : decide (k = t)
  · simp only [Bool.false_eq_true, if_false]
    rw [dOrT, kd_eq hk hu e, id]
    cases h' : decide (k = u) <;> simp [dOrNil]
  · simp
theorem s_is_operand : ∀ args σ Q, S_is_operand args σ Q → fnP ["value", "kind", "linked"] (d_is_operand S_is_table S_is_target S_is_functor S_is_constant S_none) args σ Q := by
  rintro args σ Q ⟨v, k, rfl, ho, h⟩
  refine ⟨rfl, ?_⟩
  have ek : (bindEnv ["value", "kind", "linked"] [v, sv k, .bool false]) "kind" = some (sv k) := rfl
  have ev : (bindEnv ["value", "kind", "linked"] [v, sv k, .bool false]) "value" = some v := rfl
  have el : (bindEnv ["value", "kind", "linked"] [v, sv k, .bool false]) "linked" = some (.bool false) := rfl
  generalize bindEnv ["value", "kind", "linked"] [v, sv k, .bool false] = ρ at *
  rw [d_is_operand]
  have skip : ∀ {t : String} {A B : SWP} {K : PFlow → PEnv → Sto → Prop}, PyData.strOk (Str.ofString k) = true → PyData.strOk (Str.ofString t) = true → decide (k = t) = false → dSeq (dIf (dTest (dOp (eqP id) (dName "kind") (dVal (.str (Str.ofString t))))) A dEnd) B ρ σ K = B ρ σ K := fun hk ht hn => seq_no fun Q => by rw [kd_eq hk ht ek, hn]; rfl
  cases ho with
  | L hn =>
    rw [skip so_L so_R rfl, skip so_L so_X rfl, skip so_L so_Y rfl, skip so_L so_C rfl, seq_no (kd_eq2 so_L so_F so_N ek), seq_yes (kd_eq so_L so_L ek), ret_seq, dCall, dCons, name_at ev, dCons, name_at el, dNil]
    exact ⟨_, rfl, hn, h⟩
  | N hn =>
    rw [skip so_N so_R rfl, skip so_N so_X rfl, skip so_N so_Y rfl, skip so_N so_C rfl, seq_yes (kd_eq2 so_N so_F so_N ek), ret_seq, dCall, dCons, name_at ev, dNil]
    exact ⟨_, rfl, hn, h⟩
  | F hn =>
    rw [skip so_F so_R rfl, skip so_F so_X rfl, skip so_F so_Y rfl, skip so_F so_C rfl, seq_yes (kd_eq2 so_F so_F so_N ek), ret_seq, dCall, dCons, name_at ev, dNil]
    exact ⟨_, rfl, hn, h⟩
  | @tab con t ht =>
    have n0 : PyData.strOk (Str.ofString (tuStr con)) = true := by cases con; exact so_U; exact so_T
    have nk : ∀ x : String, x ≠ "T" → x ≠ "U" → decide (tuStr con = x) = false := fun x h1 h2 => by cases con <;> simp [tuStr, h1.symm, h2.symm]
    rw [skip n0 so_R (nk _ (by decide) (by decide)), skip n0 so_X (nk _ (by decide) (by decide)), skip n0 so_Y (nk _ (by decide) (by decide)), skip n0 so_C (nk _ (by decide) (by decide)), seq_no (fun Q => by rw [kd_eq2 n0 so_F so_N ek, nk _ (by decide) (by decide), nk _ (by decide) (by decide)]; rfl), skip n0 so_L (nk _ (by decide) (by decide)), ret_seq1, dCall, dCons, name_at ev, dCons, name_at ek, dCons, name_at el, dNil]
    exact ⟨con, t, rfl, ht, h⟩
noncomputable def Row.kinds : Row → String
  | .try_ _ _ => "LN" | .retry _ => "L" | .trust _ => "L" | .label _ => "" | .sterm _ _ _ _ => "LLLL" | .stab true _ _ => "TL" | .stab false _ _ => "UL" | .exec _ => "F"
noncomputable def Row.ops : Row → List (PV × String)
  | .try_ l w => [(.int l, "L"), (.int w, "N")]
  | .retry l => [(.int l, "L")]
  | .trust l => [(.int l, "L")]
  | .label _ => []
  | .sterm v c l s => [(.int v, "L"), (.int c, "L"), (.int l, "L"), (.int s, "L")]
  | .stab con t d => [(tv t, tuStr con), (.int d, "L")]
  | .exec n => [(.int n, "F")]
noncomputable def Row.isLabel : Row → Bool
  | .label _ => true
  | _ => false
theorem rv_ops (r : Row) (h : r.isLabel = false) : rv r = .tup (sv r.name :: r.ops.map (·.1)) := match r, h with
  | .try_ _ _, _ | .retry _, _ | .trust _, _ | .sterm _ _ _ _, _ | .stab true _ _, _ | .stab false _ _, _ | .exec _, _ => rfl
theorem chr {x k : Str} {i : Int} {c : Nat} (h1 : (seqIndex? i x.length).bind (x.cps[·]?) = some c) (h2 : (⟨#[c]⟩ : Str) = k) (h3 : 0 ≤ i) (h4 : i < 100) {σ : Sto} {Q : PV → Sto → Prop} : getP (.str x) (.int i) σ Q = Q (.str k) σ := by
  refine propext ⟨fun h => ?_, fun q => ⟨by lia, by lia, c, h1, by rwa [h2]⟩⟩
  obtain ⟨_, _, c', e, q⟩ := h
  rw [h1] at e; cases e
  rwa [h2] at q
theorem kinds_len (r : Row) (h : r.isLabel = false) : (Str.ofString r.kinds).length = r.ops.length := match r, h with
  | .try_ _ _, _ | .retry _, _ | .trust _, _ | .sterm _ _ _ _, _ | .stab true _ _, _ | .stab false _ _, _ | .exec _, _ => by kernel_rfl
theorem kinds_at (r : Row) (i : Nat) (v : PV) (k : String) (h : r.ops[i]? = some (v, k)) {σ : Sto} {Q : PV → Sto → Prop} : getP (.str (Str.ofString r.kinds)) (.int (i : Int)) σ Q = Q (sv k) σ := by
  match r, i, h with
  | .try_ _ _, 0, h => cases h; exact chr (i := 0) (c := 76) (by kernel_rfl) (by kernel_rfl) (by decide) (by decide)
  | .try_ _ _, 1, h => cases h; exact chr (i := 1) (c := 78) (by kernel_rfl) (by kernel_rfl) (by decide) (by decide)
  | .retry _, 0, h => cases h; exact chr (i := 0) (c := 76) (by kernel_rfl) (by kernel_rfl) (by decide) (by decide)
  | .trust _, 0, h => cases h; exact chr (i := 0) (c := 76) (by kernel_rfl) (by kernel_rfl) (by decide) (by decide)
  | .sterm _ _ _ _, 0, h => cases h; exact chr (i := 0) (c := 76) (by kernel_rfl) (by kernel_rfl) (by decide) (by decide)
  | .sterm _ _ _ _, 1, h => cases h; exact chr (i := 1) (c := 76) (by kernel_rfl) (by kernel_rfl) (by decide) (by decide)
  | .sterm _ _ _ _, 2, h => cases h; exact chr (i := 2) (c := 76) (by kernel_rfl) (by kernel_rfl) (by decide) (by decide)
  | .sterm _ _ _ _, 3, h => cases h; exact chr (i := 3) (c := 76) (by kernel_rfl) (by kernel_rfl) (by decide) (by decide)
  | .stab true _ _, 0, h => cases h; exact chr (i := 0) (c := 84) (by kernel_rfl) (by kernel_rfl) (by decide) (by decide)
  | .stab true _ _, 1, h => cases h; exact chr (i := 1) (c := 76) (by kernel_rfl) (by kernel_rfl) (by decide) (by decide)
  | .stab false _ _, 0, h => cases h; exact chr (i := 0) (c := 85) (by kernel_rfl) (by kernel_rfl) (by decide) (by decide)
  | .stab false _ _, 1, h => cases h; exact chr (i := 1) (c := 76) (by kernel_rfl) (by kernel_rfl) (by decide) (by decide)
  | .exec _, 0, h => cases h; exact chr (i := 0) (c := 70) (by kernel_rfl) (by kernel_rfl) (by decide) (by decide)
  | .try_ _ _, n + 2, h | .retry _, n + 1, h | .trust _, n + 1, h | .sterm _ _ _ _, n + 4, h | .stab true _ _, n + 2, h | .stab false _ _, n + 2, h | .exec _, n + 1, h | .label _, n, h => simp [Row.ops] at h
noncomputable def ShT (ta : Addr) (σ : Sto) : Prop := ∃ kvs, σ ta = some (.dict kvs) ∧ (∀ x ∈ kvs, ∃ s, x.1 = DK.str s) ∧ ∀ r : Row, r.isLabel = false → dget kvs (.str (Str.ofString r.name)) = some (sv r.kinds)
theorem ShT.keep {ta : Addr} {σ σ' : Sto} (h : ShT ta σ) (k : ∀ x o, σ x = some o → σ' x = some o) : ShT ta σ' := let ⟨kvs, h1, r⟩ := h; ⟨kvs, k _ _ h1, r⟩
theorem ShT.notIn {ta : Addr} {σ : Sto} (h : ShT ta σ) {r : Row} (hr : r.isLabel = false) {Q : PV → Sto → Prop} : inP not (sv r.name) (.ref ta) σ Q = Q (.bool false) σ := by
  obtain ⟨kvs, h1, h2, h3⟩ := h
  exact inP_dict (x := sv r.name) (b := true) (k := .str _) h1 rfl h2 (by rw [h3 r hr]; rfl)
theorem ShT.get {ta : Addr} {σ : Sto} (h : ShT ta σ) {r : Row} (hr : r.isLabel = false) {Q : PV → Sto → Prop} : getP (.ref ta) (sv r.name) σ Q = Q (sv r.kinds) σ := by
  obtain ⟨kvs, h1, h2, h3⟩ := h
  exact getP_dict (x := sv r.name) (k := .str _) h1 rfl h2 (h3 r hr)
theorem ops_len (r : Row) : r.ops.length ≤ 4 := by cases r <;> simp [Row.ops]
theorem lenP_rv (r : Row) (h : r.isLabel = false) {σ : Sto} {Q : PV → Sto → Prop} : lenP [rv r] σ Q = Q (.int (r.ops.length + 1)) σ := by
  have := ops_len r
  have h1 : (((r.ops.map (·.1)).length + 1 : Nat) : Int) < 2 ^ 63 := by simp; lia
  rw [rv_ops r h]
  simp only [lenP_t, List.length_cons, h1, true_and]
  simp
theorem lenP_kinds (r : Row) (h : r.isLabel = false) {σ : Sto} {Q : PV → Sto → Prop} : lenP [.str (Str.ofString r.kinds)] σ Q = Q (.int r.ops.length) σ := by
  have := ops_len r
  have h1 : ((r.ops.length : Nat) : Int) < 2 ^ 63 := by lia
  simp only [lenP_x, kinds_len r h, h1, true_and]
theorem rv_at (r : Row) (h : r.isLabel = false) {i : Nat} {v : PV} {k : String} (ho : r.ops[i]? = some (v, k)) {σ : Sto} {Q : PV → Sto → Prop} : getP (rv r) (.int ((i + 1 : Nat) : Int)) σ Q = Q v σ := by
  have := (List.getElem?_eq_some_iff.mp ho).1
  have h4 := ops_len r
  rw [rv_ops r h]
  exact seqP_at (by simp [ho]) (by lia)
noncomputable def Row.ok (r : Row) : Prop := r.isLabel = false ∧ ∀ p ∈ r.ops, OpV p.1 p.2
inductive S_check_row (args : List PV) (σ : Sto) (Q : PV → Sto → Prop) : Prop
  | mk : ∀ ta r, (args = [.ref ta, rv r, .bool false]) → (ShT ta σ) → (r.ok) → (Q .none σ) → S_check_row args σ Q
noncomputable def d_cr_body (F_is_operand : FWP) : SWP := (dSeq (dIf (dNotT (dTest (dCall F_is_operand (dCons (dOp getP (dName "ins") (dOp addP (dName "place") (dVal (.int 1)))) (dCons (dOp getP (dName "kinds") (dName "place")) (dCons (dName "linked") dNil)))))) (dSeq dNo
 dEnd) dEnd)
 dEnd)
theorem d_cr_eq (F_is_operand : FWP) : d_check_row F_is_operand =
 (dSeq (dIf (dOrT (dNotT (dTest (dCall isiP (dCons (dName "ins") (dCons (dVal (.typ "tuple")) dNil))))) (dOrT (dTest (dOp (eqP id) (dCall lenP (dCons (dName "ins") dNil)) (dVal (.int 0)))) (dOrT (dNotT (dTest (dCall isiP (dCons (dOp getP (dName "ins") (dVal (.int 0))) (dCons (dVal (.typ "str")) dNil))))) dOrNil))) (dSeq dNo
 dEnd) dEnd)
 (dSeq (dAssign "name" (dOp getP (dName "ins") (dVal (.int 0))))
 (dSeq (dIf (dTest (dOp (inP not) (dName "name") (dName "table"))) (dSeq dNo
 dEnd) dEnd)
 (dSeq (dAssign "kinds" (dOp getP (dName "table") (dName "name")))
 (dSeq (dIf (dTest (dOp (eqP not) (dCall lenP (dCons (dName "ins") dNil)) (dOp addP (dCall lenP (dCons (dName "kinds") dNil)) (dVal (.int 1))))) (dSeq dNo
 dEnd) dEnd)
 (dSeq (dForR "place" (dCons (dCall lenP (dCons (dName "kinds") dNil)) dNil) (d_cr_body F_is_operand))
 dEnd)))))) := rfl
theorem s_check_row : ∀ args σ Q, S_check_row args σ Q → fnP ["table", "ins", "linked"] (d_check_row S_is_operand) args σ Q := by
  rintro args σ Q ⟨ta, r, rfl, ht, ⟨hr, ho⟩, h⟩
  refine ⟨rfl, ?_⟩
  have hi : ∀ {Q : PV → Sto → Prop}, isiP [rv r, .typ "tuple"] σ Q = Q (.bool true) σ := by intro Q; rw [rv_ops r hr]; exact isi_tup
  have h0 : ¬ ((r.ops.length : Int) + 1 = 0) := by lia
  have h4 := ops_len r
  rw [d_cr_eq, seq_no (fun Q => ?t1), seq_assign, dOp, name_at (v := rv r) rfl, dVal, getP_rv0, seq_no (fun Q => ?t2), seq_assign, dOp, name_at (v := .ref ta) rfl, name_at (v := sv r.name) rfl, ht.get hr, seq_no (fun Q => ?t3), seq_end, dForR, dCons, dCall, dCons, name_at (v := sv r.kinds) rfl, dNil, lenP_kinds r hr, dNil, rngL1 (by lia) (by lia)]
  case t1 =>
    rw [dOrT, dNotT, dTest, dCall, dCons, name_at (v := rv r) rfl, dCons, dVal, dNil, hi, truP_b, Bool.not_true, if_neg Bool.false_ne_true, dOrT, dTest, dOp, dCall, dCons, name_at (v := rv r) rfl, dNil, lenP_rv r hr, dVal, eqP_int, decide_eq_false h0, truP_b, id, if_neg Bool.false_ne_true, dOrT, dNotT, dTest, dCall, dCons, dOp, name_at (v := rv r) rfl, dVal, getP_rv0, dCons, dVal, dNil, isi_str, truP_b, Bool.not_true, if_neg Bool.false_ne_true, dOrNil]
  case t2 =>
    rw [dTest, dOp, name_at (v := sv r.name) rfl, name_at (v := .ref ta) rfl, ht.notIn hr, truP_b]
  case t3 =>
    rw [dTest, dOp, dCall, dCons, name_at (v := rv r) rfl, dNil, lenP_rv r hr, dOp, dCall, dCons, name_at (v := sv r.kinds) rfl, dNil, lenP_kinds r hr, dVal, addP_i, eqP_int, decide_eq_true rfl, truP_b, Bool.not_true]
  refine forL_inv (I := fun i ρ' σ' => ρ' "ins" = some (rv r) ∧ ρ' "kinds" = some (sv r.kinds) ∧ ρ' "linked" = some (.bool false) ∧ σ' = σ) ?_ ?_ _ _ ?_
  · rintro i v ρ' σ' K hu ⟨e1, e2, e3, rfl⟩ hK _
    have hil : i < r.ops.length := by
      have := (List.getElem?_eq_some_iff.mp hu).1
      rw [rangeL_length] at this; lia
    rw [rangeL_get _ _ _ (by lia)] at hu
    cases hu
    have hoi : r.ops[i]? = some (r.ops[i].1, r.ops[i].2) := List.getElem?_eq_getElem hil
    have e0 : (0 : Int) + (i : Int) = (i : Int) := by lia
    have e : (i : Int) + 1 = ((i + 1 : Nat) : Int) := by lia
    rw [e0]
    have f1 : (ρ'.set "place" (.int i)) "ins" = some (rv r) := e1
    have f2 : (ρ'.set "place" (.int i)) "kinds" = some (sv r.kinds) := e2
    have f3 : (ρ'.set "place" (.int i)) "linked" = some (.bool false) := e3
    have f4 : (ρ'.set "place" (.int i)) "place" = some (.int i) := rfl
    generalize ρ'.set "place" (.int i) = ρ₁ at *
    rw [d_cr_body, seq_end, dIf, dNotT, dTest, dCall, dCons, dOp, name_at f1, dOp, name_at f4, dVal, addP_i, e, rv_at r hr hoi, dCons, dOp, name_at f2, name_at f4, kinds_at r i _ _ hoi, dCons, name_at f3, dNil]
    exact ⟨_, _, rfl, ho _ (List.getElem_mem hil), hK _ _ ⟨f1, f2, f3, rfl⟩⟩
  · rintro ρ' σ' ⟨e1, e2, e3, rfl⟩
    exact h
  · exact ⟨rfl, rfl, rfl, rfl⟩
end Mine
namespace Mine
open PySem PySem.W PySem.Calls PyProof.Rows PySem.Spec
inductive S_is_label_row (args : List PV) (σ : Sto) (Q : PV → Sto → Prop) : Prop
  | mk : ∀ r, (args = [rv r]) → (Q (.bool r.isLabel) σ) → S_is_label_row args σ Q
theorem rv_len (r : Row) : ∃ l, rv r = .tup (sv r.name :: l) ∧ l.length ≤ 4 := match r with
  | .try_ _ _ | .retry _ | .trust _ | .label _ | .sterm _ _ _ _ | .stab true _ _ | .stab false _ _ | .exec _ => ⟨_, rfl, by simp⟩
theorem label_name (r : Row) : decide (r.name = "label") = r.isLabel := match r with
  | .try_ _ _ | .retry _ | .trust _ | .label _ | .sterm _ _ _ _ | .stab true _ _ | .stab false _ _ | .exec _ => rfl
theorem s_is_label_row : ∀ args σ Q, S_is_label_row args σ Q → fnP ["row"] d_is_label_row args σ Q := by
  rintro args σ Q ⟨r, rfl, h⟩
  refine ⟨rfl, ?_⟩
  obtain ⟨l, e, hl⟩ := rv_len r
  have hi : ∀ {Q : PV → Sto → Prop}, isiP [rv r, .typ "tuple"] σ Q = Q (.bool true) σ := by intro Q; rw [e]; exact isi_tup
  have hn : ∀ {Q : PV → Sto → Prop}, lenP [rv r] σ Q = Q (.int (l.length + 1)) σ := by
    intro Q
    have h1 : ((l.length + 1 : Nat) : Int) < 2 ^ 63 := by lia
    rw [e]
    simp only [lenP_t, List.length_cons, h1, true_and]
    simp
  have h0 : decide ((0 : Int) < (l.length : Int) + 1) = true := by simp <;> lia
  simp only [d_is_label_row, dSeq, dOp, dName, dVal, dRet, dCall, dCons, dNil, dAndV, bindEnv, PEnv.set_b, if_true, fnEnd_r, truP_b, gtP_i, String.reduceBEq, cond_true, hi, hn, h0, getP_rv0, eqP_row _ so_label, id, label_name]
  exact h
noncomputable def adrs : List Row → Int → List (Int × Int)
  | [], _ => []
  | .label l :: r, a => (l, a) :: adrs r a
  | _ :: r, a => adrs r (a + 1)
noncomputable def nonL (bs : List Row) : Nat := (bs.filter fun r => !r.isLabel).length
theorem adrs_append : ∀ (a b : List Row) (k : Int), adrs (a ++ b) k = adrs a k ++ adrs b (k + (nonL a : Nat))
  | [], b, k => by simp [adrs, nonL]
  | x :: a, b, k => by
    cases x with
    | label l =>
      have ih := adrs_append a b k
      simp only [List.cons_append, adrs, ih, nonL, List.filter_cons, Row.isLabel, Bool.not_true, Bool.false_eq_true, if_false]
    | _ =>
      have ih := adrs_append a b (k + 1)
      have e : ∀ n : Nat, k + ((n + 1 : Nat) : Int) = k + 1 + (n : Int) := fun n => by lia
      simp only [List.cons_append, adrs, ih, nonL, List.filter_cons, Row.isLabel, Bool.not_false, if_true, List.length_cons, e]
theorem adrs_len : ∀ (l : List Row) (k : Int), (adrs l k).length ≤ l.length
  | [], _ => Nat.le_refl _
  | x :: r, k => by
    have h1 := adrs_len r k
    have h2 := adrs_len r (k + 1)
    cases x <;> simp only [adrs, List.length_cons] <;> lia
theorem inP_int {f : Bool → Bool} {a : Addr} {σ : Sto} {t : List (Int × Int)} (ha : σ a = some (.dict (intD t))) {k : Int} {Q : PV → Sto → Prop} : inP f (.int k) (.ref a) σ Q = Q (.bool (f (t.find? fun p => decide (p.1 = k)).isSome)) σ := by
  exact inP_dict (x := .int k) (k := .int k) ha rfl (kind_int _ _) (by rw [dget_int, Option.isSome_map])
noncomputable def AdrOk (t : List (Int × Int)) (en l v : Int) : Prop := (l = -1 ∧ v = 2) ∨ (l ≠ -1 ∧ t.find? (fun p => decide (p.1 = l)) = some (l, v) ∧ v < en)
inductive S_resolve_label (args : List PV) (σ : Sto) (Q : PV → Sto → Prop) : Prop
  | mk : ∀ l c en t v, (args = [.int l, .ref c, .int en]) → (σ c = some (.dict (intD t))) → (AdrOk t en l v) → (Q (.int v) σ) → S_resolve_label args σ Q
theorem s_resolve_label : ∀ args σ Q, S_resolve_label args σ Q → fnP ["label", "addresses", "end"] d_resolve_label args σ Q := by
  rintro args σ Q ⟨l, c, en, t, v, rfl, hc, ha, h⟩
  refine ⟨rfl, ?_⟩
  simp only [d_resolve_label, dSeq, dIf, dTest, dOp, dName, dVal, dRet, dEnd, dNeg, bindEnv, PEnv.set_b, fnEnd_r, truP_b, negP_i, String.reduceBEq, cond_true, cond_false, eqP_int, id]
  rcases ha with ⟨rfl, rfl⟩ | ⟨hl, hf, hv⟩
  · simp only [decide_true, if_true]
    exact h
  · have hv' : ¬ en ≤ v := by lia
    simp only [hl, decide_false, if_false, truP_b, geP_i, Bool.false_eq_true, inP_int hc, hf, Option.isSome_some, Bool.not_true, getP_int hc hf, hv']
    exact h
inductive S_label_addresses (args : List PV) (σ : Sto) (Q : PV → Sto → Prop) : Prop
  | mk : ∀ a bs base, (args = [.ref a, .int base]) → (σ a = some (.list (bs.map rv))) → (bs.length ≤ 1000) → (((adrs bs base).map (·.1)).Nodup) → ((∀ l, Row.label l ∈ bs → 0 ≤ l)) → (∀ c, σ c = none → Q (.ref c) (σ.set c (.dict (intD (adrs bs base))))) → S_label_addresses args σ Q
noncomputable def d_la_if (F_is_label_row F_is_whole : FWP) : SWP := (dIf (dTest (dCall F_is_label_row (dCons (dName "row") dNil))) (dSeq (dIf (dOrT (dTest (dOp (eqP not) (dCall lenP (dCons (dName "row") dNil)) (dVal (.int 2)))) (dOrT (dNotT (dTest (dCall F_is_whole (dCons (dOp getP (dName "row") (dVal (.int 1))) dNil)))) (dOrT (dTest (dOp ltP (dOp getP (dName "row") (dVal (.int 1))) (dVal (.int 0)))) dOrNil))) (dSeq dNo
 dEnd) dEnd)
 (dSeq (dIf (dTest (dOp (inP id) (dOp getP (dName "row") (dVal (.int 1))) (dName "addresses"))) (dSeq dNo
 dEnd) dEnd)
 (dSeq (dSetItem (dName "addresses") (dOp getP (dName "row") (dVal (.int 1))) (dName "address"))
 dEnd))) (dSeq (dAug iaddP "address" (dVal (.int 1)))
 dEnd))
theorem d_la_eq (F_is_label_row F_is_whole : FWP) : d_label_addresses F_is_label_row F_is_whole =
 (dSeq (dAssign "addresses" dDict0)
 (dSeq (dAssign "address" (dName "base"))
 (dSeq (dFor "row" (dName "block") (dSeq (d_la_if F_is_label_row F_is_whole) dEnd))
 (dSeq (dRet (dName "addresses"))
 dEnd)))) := rfl
theorem la_lab {c : Addr} {t : List (Int × Int)} {l ad : Int} {σ : Sto} {ρ : PEnv} {K : PFlow → PEnv → Sto → Prop} (hl0 : 0 ≤ l) (fresh : l ∉ t.map (·.1)) (hl : t.length ≤ 1000) (hc : σ c = some (.dict (intD t))) (er : ρ "row" = some (rv (.label l))) (e1 : ρ "addresses" = some (.ref c)) (e2 : ρ "address" = some (.int ad)) (hK : K .next ρ (σ.set c (.dict (intD (t ++ [(l, ad)]))))) : d_la_if S_is_label_row S_is_whole ρ σ K := by
  have hl2 : ∀ {σ : Sto} {Q : PV → Sto → Prop}, lenP [rv (.label l)] σ Q = Q (.int 2) σ := by
    intro σ Q
    have : ((2 : Nat) : Int) < 2 ^ 63 := by decide
    simp only [rv, lenP_t, List.length_cons, List.length_nil, Nat.reduceAdd, this, true_and]
    rfl
  have hg : ∀ {σ : Sto} {Q : PV → Sto → Prop}, getP (rv (.label l)) (.int 1) σ Q = Q (.int l) σ := seqP1
  rw [d_la_if, dIf, dTest, dCall, dCons, name_at er, dNil]
  refine ⟨.label l, rfl, ?_⟩
  simp only [Row.isLabel, truP_b, if_true]
  rw [dSeq, dIf, dOrT, dTest, dOp, dCall, dCons, name_at er, dNil, hl2, dVal, eqP_int, decide_eq_true rfl, truP_b, Bool.not_true, if_neg Bool.false_ne_true, dOrT, dNotT, dTest, dCall, dCons, dOp, name_at er, dVal, hg, dNil]
  refine ⟨l, rfl, ?_⟩
  simp only [truP_b, Bool.not_true, Bool.false_eq_true, if_false]
  rw [dOrT, dTest, dOp, dOp, name_at er, dVal, hg, dVal, ltP_i, decide_eq_false (Int.not_lt.mpr hl0), truP_b, if_neg Bool.false_ne_true, dOrNil, if_neg Bool.false_ne_true, dEnd]
  dsimp only
  rw [seq_no (fun Q => ?tst), seq_end, dSetItem, name_at e2, name_at e1, dOp, name_at er, dVal, hg, setP_int hc fresh (Nat.le_trans hl (by decide))]
  case tst => rw [dTest, dOp, dOp, name_at er, dVal, hg, name_at e1, inP_int hc, find_none_of fresh, truP_b]; rfl
  exact hK
theorem s_label_addresses : ∀ args σ Q, S_label_addresses args σ Q → fnP ["block", "base"] (d_label_addresses S_is_label_row S_is_whole) args σ Q := by
  rintro args σ Q ⟨a, bs, base, rfl, ha, hb, hn, hp, h⟩
  refine ⟨rfl, ?_⟩
  rw [d_la_eq, seq_assign]
  intro c hc
  have ac : a ≠ c := by rintro rfl; rw [ha] at hc; cases hc
  have hac : ∀ o, (σ.set c o) a = some (.list (bs.map rv)) := fun o => (Sto.set_ne _ _ ac).trans ha
  rw [seq_assign, name_at (v := .int base) rfl, dSeq, dFor, name_at (v := .ref a) rfl, forP, hac]
  dsimp only
  refine forR_inv (I := fun i ρ' σ' => ρ' "addresses" = some (.ref c) ∧ ρ' "address" = some (.int (base + (nonL (bs.take i) : Nat))) ∧ σ' = σ.set c (.dict (intD (adrs (bs.take i) base)))) (fun i ρ' σ' hI => by rw [hI.2.2]; exact hac _) ?_ ?_ _ _ ?_
  · rintro i v ρ' σ' K hu ⟨e1, e2, rfl⟩ hK _
    have hi : i < bs.length := by
      have := (List.getElem?_eq_some_iff.mp hu).1
      simpa using this
    have hbi : bs[i]? = some bs[i] := List.getElem?_eq_getElem hi
    rw [List.getElem?_map, hbi] at hu
    cases hu
    have ht : bs.take (i + 1) = bs.take i ++ [bs[i]] := by rw [List.take_add_one, hbi]; rfl
    have hsub : adrs bs base = adrs (bs.take i) base ++ adrs ([bs[i]] ++ bs.drop (i + 1)) (base + (nonL (bs.take i) : Nat)) := by
      conv => lhs; rw [← List.take_append_drop (i + 1) bs, ht, List.append_assoc, adrs_append]
    have hnl : nonL (bs.take (i + 1)) = nonL (bs.take i) + nonL [bs[i]] := by rw [ht]; simp only [nonL, List.filter_append, List.length_append]
    rw [hnl, ht, adrs_append] at hK
    have hmem : bs[i] ∈ bs := List.getElem_mem hi
    have ll := adrs_len (bs.take i) base
    have hll : (bs.take i).length ≤ 1000 := by rw [List.length_take]; lia
    generalize bs[i] = r at *
    have er : (ρ'.set "row" (rv r)) "row" = some (rv r) := rfl
    have f1 : (ρ'.set "row" (rv r)) "addresses" = some (.ref c) := e1
    have f2 : (ρ'.set "row" (rv r)) "address" = some (.int (base + (nonL (bs.take i) : Nat))) := e2
    generalize ρ'.set "row" (rv r) = ρ₁ at *
    rw [seq_end]
    cases hr : r.isLabel with
    | false =>
      have h1 : nonL [r] = 1 := by simp [nonL, hr]
      have h2 : adrs [r] (base + (nonL (bs.take i) : Nat)) = [] := by
        cases r with
        | label _ => cases hr
        | _ => rfl
      rw [h1, h2, List.append_nil] at hK
      rw [d_la_if, dIf, dTest, dCall, dCons, name_at er, dNil]
      refine ⟨r, rfl, ?_⟩
      simp only [hr, truP_b, Bool.false_eq_true, if_false]
      rw [seq_end, dAug, f2]
      refine hK _ _ ⟨f1, ?_, rfl⟩
      rw [PEnv.set_same]
      congr 2
      lia
    | true =>
      cases r with
      | label l =>
        have h1 : nonL [Row.label l] = 0 := rfl
        have h2 : adrs [Row.label l] (base + (nonL (bs.take i) : Nat)) = [(l, base + (nonL (bs.take i) : Nat))] := rfl
        rw [h1, h2, Nat.add_zero] at hK
        have fresh : l ∉ (adrs (bs.take i) base).map (·.1) := by
          rw [hsub] at hn
          simp only [List.cons_append, List.nil_append, adrs, List.map_append, List.map_cons] at hn
          intro hm
          exact (List.nodup_append.mp hn).2.2 l hm l (by simp) rfl
        refine la_lab (hp l hmem) fresh (by lia) (Sto.set_same ..) er f1 f2 ?_
        rw [Sto.set_set]
        exact hK _ _ ⟨f1, f2, rfl⟩
      | _ => cases hr
  · rintro ρ' σ' ⟨e1, e2, rfl⟩
    rw [List.length_map, List.take_length]
    dsimp only
    rw [seq_end, dRet, name_at e1]
    exact h c hc
  · exact ⟨rfl, by simp [PEnv.set_get, nonL], by simp [adrs, intD]⟩
end Mine
namespace Mine
open PySem PySem.W PySem.Calls PyProof.Rows PySem.Spec
noncomputable def resT (f : Int → Int) (t : List (KA × Int)) : List (KA × PV) := t.map fun p => (p.1, .int (f p.2))
inductive S_resolve_table (args : List PV) (σ : Sto) (Q : PV → Sto → Prop) : Prop
  | mk : ∀ con t c en lt f, (args = [tv t, .ref c, .int en]) → (σ c = some (.dict (intD lt))) → (t.length ≤ 1000) → ((∀ p ∈ t, p.1.isKind con = true)) → ((t.map (·.1)).Nodup) → ((∀ p ∈ t, AdrOk lt en p.2 (f p.2))) → (∀ d, σ d = none → Q (.ref d) (σ.set d (.dict (kaD (resT f t))))) → S_resolve_table args σ Q
theorem resT_kind {con : Bool} {f : Int → Int} {t : List (KA × Int)} (h : ∀ p ∈ t, p.1.isKind con = true) : ∀ p ∈ resT f t, p.1.isKind con = true := by
  intro p hp
  obtain ⟨x, hx, rfl⟩ := List.mem_map.mp hp
  exact h x hx
theorem resT_none {f : Int → Int} {t : List (KA × Int)} {a : KA} (h : a ∉ t.map (·.1)) : dget (kaD (resT f t)) (kadk a) = none := by
  rw [dget_ka, Option.map_eq_none_iff, List.find?_eq_none]
  intro x hx
  obtain ⟨y, hy, rfl⟩ := List.mem_map.mp hx
  simp only [decide_eq_true_eq]
  exact fun e => h (List.mem_map.mpr ⟨y, hy, e⟩)
theorem s_resolve_table : ∀ args σ Q, S_resolve_table args σ Q → fnP ["pairs", "addresses", "end"] (d_resolve_table S_resolve_label) args σ Q := by
  rintro args σ Q ⟨con, t, c, en, lt, f, rfl, hc, hl, hk, hn, ha, h⟩
  refine ⟨rfl, ?_⟩
  have sl := sizeLine_big
  simp only [d_resolve_table, dSeq, dName, dRet, dAssign, dFor, bindEnv, PEnv.set_b, fnEnd_r, String.reduceBEq, cond_true, cond_false, dDict0]
  intro d hd
  have cd : c ≠ d := by rintro rfl; rw [hc] at hd; cases hd
  have hcd : ∀ o, (σ.set d o) c = some (.dict (intD lt)) := fun o => (Sto.set_ne _ _ cd).trans hc
  simp only [tv, forP]
  refine forL_inv (I := fun i ρ' σ' => ρ' "table" = some (.ref d) ∧ ρ' "addresses" = some (.ref c) ∧ ρ' "end" = some (.int en) ∧ σ' = σ.set d (.dict (kaD (resT f (t.take i))))) ?_ ?_ _ _ ?_
  · rintro i v ρ' σ' K hu ⟨e1, e2, e3, rfl⟩ hK _
    have hi : i < t.length := by
      have := (List.getElem?_eq_some_iff.mp hu).1
      simpa using this
    have hti : t[i]? = some t[i] := List.getElem?_eq_getElem hi
    rw [List.getElem?_map, hti] at hu
    cases hu
    have ht : t.take (i + 1) = t.take i ++ [t[i]] := by rw [List.take_add_one, hti]; rfl
    have hmem : t[i] ∈ t := List.getElem_mem hi
    have hsub : ∀ p ∈ t.take i, p ∈ t := fun p hp => List.mem_of_mem_take hp
    have fresh : t[i].1 ∉ (t.take i).map (·.1) := by
      have e : t.map (·.1) = (t.take i).map (·.1) ++ (t.drop i).map (·.1) := by rw [← List.map_append, List.take_append_drop]
      have hn' := hn
      rw [e, List.nodup_append] at hn'
      intro hm
      exact hn'.2.2 _ hm _ (List.mem_map.mpr ⟨t[i], by rw [List.drop_eq_getElem_cons hi]; exact .head _, rfl⟩) rfl
    have hkp := hk _ hmem
    have hap := ha _ hmem
    have hlt : (t.take i).length ≤ 1000 := by rw [List.length_take]; lia
    rw [ht] at hK
    generalize t[i] = p at *
    have g0 : ∀ {σ : Sto} {Q : PV → Sto → Prop}, getP (.tup [kav p.1, .int p.2]) (.int 0) σ Q = Q (kav p.1) σ := seqP0
    have g1 : ∀ {σ : Sto} {Q : PV → Sto → Prop}, getP (.tup [kav p.1, .int p.2]) (.int 1) σ Q = Q (.int p.2) σ := seqP1
    have kinds := resT_kind (f := f) (t := t.take i) fun p hp => hk p (hsub p hp)
    have none := resT_none (f := f) fresh
    have hin : ∀ {Q : PV → Sto → Prop}, inP id (kav p.1) (.ref d) (σ.set d (.dict (kaD (resT f (t.take i))))) Q = Q (.bool false) (σ.set d (.dict (kaD (resT f (t.take i))))) := by
      intro Q
      exact inP_dict (Sto.set_same ..) (toDK_kav p.1) (kind_ka kinds hkp) (by rw [none]; rfl)
    have hset : ∀ {v : Int} {Q : Sto → Prop}, setP (.ref d) (kav p.1) (.int v) (σ.set d (.dict (kaD (resT f (t.take i))))) Q = Q (σ.set d (.dict (kaD (resT f (t.take i) ++ [(p.1, .int v)])))) := by
      intro v Q
      rw [setP_new (Sto.set_same ..) (toDK_kav p.1) (kind_ka kinds hkp) (by simp only [kaD, resT, List.length_map]; lia) none, Sto.set_set, kaD, kaD, List.map_append]; rfl
    simp only [dSeq, dIf, dTest, dOp, dName, dVal, dEnd, dCall, dCons, dNil, dSetItem, PEnv.set_b, if_false, truP_b, Bool.false_eq_true, String.reduceBEq, cond_true, cond_false, e1, e2, e3, g0, g1, hin]
    refine ⟨p.2, c, en, lt, f p.2, rfl, hcd _, hap, ?_⟩
    simp only [hset]
    refine hK _ _ ⟨e1, e2, e3, ?_⟩
    simp [resT]
  · rintro ρ' σ' ⟨e1, e2, e3, rfl⟩
    rw [List.length_map, List.take_length]
    simp only [e1]
    exact h d hd
  · exact ⟨rfl, rfl, rfl, by simp [resT, kaD]⟩
end Mine
namespace Mine
open PySem PySem.W PySem.Calls PyProof.Rows PySem.Spec
inductive ResV (σ : Sto) (f : Int → Int) : PV × String → PV → Prop
  | L {n : Int} : ResV σ f (.int n, "L") (.int (f n))
  | N {n : Int} : ResV σ f (.int n, "N") (.int n)
  | F {n : Int} : ResV σ f (.int n, "F") (.int n)
  | tab {con : Bool} {t : List (KA × Int)} {d : Addr} : σ d = some (.dict (kaD (resT f t))) → ResV σ f (tv t, tuStr con) (.ref d)
theorem ResV.keep {σ σ' : Sto} {f : Int → Int} {o : PV × String} {v : PV} (h : ResV σ f o v) (k : ∀ x o, σ x = some (.dict o) → σ' x = some (.dict o)) : ResV σ' f o v := by
  cases h with
  | L => exact .L
  | N => exact .N
  | F => exact .F
  | tab e => exact .tab (k _ _ e)
inductive ResVs (σ : Sto) (f : Int → Int) : List (PV × String) → List PV → Prop
  | nil : ResVs σ f [] []
  | cons {o v os vs} : ResV σ f o v → ResVs σ f os vs → ResVs σ f (o :: os) (v :: vs)
theorem ResVs.keep {σ σ' : Sto} {f : Int → Int} {o : List (PV × String)} {v : List PV} (h : ResVs σ f o v) (k : ∀ x o, σ x = some (.dict o) → σ' x = some (.dict o)) : ResVs σ' f o v := by
  induction h with
  | nil => exact .nil
  | cons a _ ih => exact .cons (a.keep k) ih
theorem ResVs.snoc {σ : Sto} {f : Int → Int} {os : List (PV × String)} {vs : List PV} {o : PV × String} {v : PV} (h : ResVs σ f os vs) (r : ResV σ f o v) : ResVs σ f (os ++ [o]) (vs ++ [v]) := by
  induction h with
  | nil => exact .cons r .nil
  | cons a _ ih => exact .cons a ih
theorem ResVs.length {σ : Sto} {f : Int → Int} {os : List (PV × String)} {vs : List PV} (h : ResVs σ f os vs) : vs.length = os.length := by
  induction h with
  | nil => rfl
  | cons _ _ ih => simp [ih]
noncomputable def OpA (lt : List (Int × Int)) (en : Int) (f : Int → Int) : PV × String → Prop := fun p => match p with
  | (.int n, k) => k = "L" → AdrOk lt en n (f n)
  | _ => True
structure RowOk (lt : List (Int × Int)) (en : Int) (f : Int → Int) (r : Row) : Prop where
  ok : r.ok
  adr : ∀ n, (PV.int n, "L") ∈ r.ops → AdrOk lt en n (f n)
  tab : ∀ con t, (tv t, tuStr con) ∈ r.ops → t.length ≤ 1000 ∧ (∀ p ∈ t, p.1.isKind con = true) ∧ (t.map (·.1)).Nodup ∧ ∀ p ∈ t, AdrOk lt en p.2 (f p.2)
inductive S_resolve_instruction (args : List PV) (σ : Sto) (Q : PV → Sto → Prop) : Prop
  | mk : ∀ ta c en lt f r, (args = [.ref ta, rv r, .ref c, .int en]) → (ShT ta σ) → (σ c = some (.dict (intD lt))) → (RowOk lt en f r) → (∀ vs σ', ResVs σ' f r.ops vs → (∀ x o, σ x = some o → σ' x = some o) → Q (.tup (sv r.name :: vs)) σ') → S_resolve_instruction args σ Q
noncomputable def d_ri_if (F_resolve_label F_resolve_table : FWP) : SWP :=
 (dIf (dTest (dOp (eqP id) (dOp getP (dName "kinds") (dName "place")) (dVal (.str (Str.ofString "L"))))) (dSeq (dAssign "value" (dCall F_resolve_label (dCons (dName "value") (dCons (dName "addresses") (dCons (dName "end") dNil)))))
 dEnd) (dSeq (dIf (dOrT (dTest (dOp (eqP id) (dOp getP (dName "kinds") (dName "place")) (dVal (.str (Str.ofString "T"))))) (dOrT (dTest (dOp (eqP id) (dOp getP (dName "kinds") (dName "place")) (dVal (.str (Str.ofString "U"))))) dOrNil)) (dSeq (dAssign "value" (dCall F_resolve_table (dCons (dName "value") (dCons (dName "addresses") (dCons (dName "end") dNil)))))
 dEnd) dEnd)
 dEnd))
noncomputable def d_ri_app : SWP := (dSeq (dExpr (dAppend (dName "parts") (dName "value"))) dEnd)
noncomputable def d_ri_body (F_resolve_label F_resolve_table : FWP) : SWP :=
 (dSeq (dAssign "value" (dOp getP (dName "ins") (dOp addP (dName "place") (dVal (.int 1)))))
 (dSeq (d_ri_if F_resolve_label F_resolve_table) d_ri_app))
theorem d_ri_eq (F_resolve_label F_resolve_table F_check_row : FWP) : d_resolve_instruction F_resolve_label F_resolve_table F_check_row =
 (dSeq (dExpr (dCall F_check_row (dCons (dName "table") (dCons (dName "ins") (dCons (dVal (.bool false)) dNil)))))
 (dSeq (dAssign "kinds" (dOp getP (dName "table") (dOp getP (dName "ins") (dVal (.int 0)))))
 (dSeq (dAssign "parts" (dList (dCons (dOp getP (dName "ins") (dVal (.int 0))) dNil)))
 (dSeq (dForR "place" (dCons (dCall lenP (dCons (dName "kinds") dNil)) dNil) (d_ri_body F_resolve_label F_resolve_table))
 (dSeq (dRet (dCall tupleP (dCons (dName "parts") dNil)))
 dEnd))))) := rfl
structure RI (r : Row) (c pa : Addr) (en : Int) (ρ : PEnv) : Prop where
  e1 : ρ "ins" = some (rv r)
  e2 : ρ "kinds" = some (sv r.kinds)
  e3 : ρ "addresses" = some (.ref c)
  e4 : ρ "end" = some (.int en)
  e5 : ρ "parts" = some (.ref pa)
theorem RI.set {r : Row} {c pa : Addr} {en : Int} {ρ : PEnv} (I : RI r c pa en ρ) {x : String} {v : PV} (h : x = "place" ∨ x = "value") : RI r c pa en (ρ.set x v) := by
  rcases h with rfl | rfl <;> exact ⟨I.e1, I.e2, I.e3, I.e4, I.e5⟩
theorem ri_if {r : Row} {c pa : Addr} {en : Int} {ρ : PEnv} {σ : Sto} {i : Nat} {k s : String} {A B : SWP} {K : PFlow → PEnv → Sto → Prop} (I : RI r c pa en ρ) (ep : ρ "place" = some (.int i)) (h2 : ∀ {σ : Sto} {Q : PV → Sto → Prop}, getP (.str (Str.ofString r.kinds)) (.int (i : Int)) σ Q = Q (sv k) σ) (hk : PyData.strOk (Str.ofString k) = true) (hs : PyData.strOk (Str.ofString s) = true) :
    dIf (dTest (dOp (eqP id) (dOp getP (dName "kinds") (dName "place")) (dVal (.str (Str.ofString s))))) A B ρ σ K = if k = s then A ρ σ K else B ρ σ K := by
  rw [dIf, dTest, dOp, dOp, name_at I.e2, name_at ep, h2, dVal, eqS hk hs]
  simp only [truP_b, id, decide_eq_true_eq]
theorem ri_if2 {r : Row} {c pa : Addr} {en : Int} {ρ : PEnv} {σ : Sto} {i : Nat} {k s t : String} {A B : SWP} {K : PFlow → PEnv → Sto → Prop} (I : RI r c pa en ρ) (ep : ρ "place" = some (.int i)) (h2 : ∀ {σ : Sto} {Q : PV → Sto → Prop}, getP (.str (Str.ofString r.kinds)) (.int (i : Int)) σ Q = Q (sv k) σ) (hk : PyData.strOk (Str.ofString k) = true) (hs : PyData.strOk (Str.ofString s) = true) (ht : PyData.strOk (Str.ofString t) = true) :
    dIf (dOrT (dTest (dOp (eqP id) (dOp getP (dName "kinds") (dName "place")) (dVal (.str (Str.ofString s))))) (dOrT (dTest (dOp (eqP id) (dOp getP (dName "kinds") (dName "place")) (dVal (.str (Str.ofString t))))) dOrNil)) A B ρ σ K = if k = s ∨ k = t then A ρ σ K else B ρ σ K := by
  rw [dIf, dOrT, dTest, dOp, dOp, name_at I.e2, name_at ep, h2, dVal, eqS hk hs]
  by_cases h : k = s
  · simp [h, truP_b]
  · rw [truP_b, decide_eq_false h, id]
    simp only [Bool.false_eq_true, if_false]
    rw [dOrT, dTest, dOp, dOp, name_at I.e2, name_at ep, h2, dVal, eqS hk ht]
    by_cases h' : k = t <;> simp [h, h', truP_b, dOrNil]
theorem ri_turn {c pa : Addr} {en : Int} {lt : List (Int × Int)} {f : Int → Int} {r : Row} {σ σ' : Sto} {ρ : PEnv} {i : Nat} {K : PFlow → PEnv → Sto → Prop} {vs : List PV} (hc : σ c = some (.dict (intD lt))) (hr : RowOk lt en f r) (old : ∀ x o, σ x = some o → σ' x = some o) (I : RI r c pa en ρ) (hp : σ' pa = some (.list (sv r.name :: vs))) (hl : vs.length ≤ 10) (hil : i < r.ops.length)
    (h : ∀ ρ' σ'' u, RI r c pa en ρ' → (∀ x o, σ' x = some o → σ'' x = some o) → ResV σ'' f r.ops[i] u → K .next ρ' (σ''.set pa (.list (sv r.name :: vs ++ [u])))) : d_ri_body S_resolve_label S_resolve_table (ρ.set "place" (.int i)) σ' K := by
  have sl := sizeLine_big
  have hl' := hr.ok.1
  have hmem : r.ops[i] ∈ r.ops := List.getElem_mem hil
  have hoi : r.ops[i]? = some (r.ops[i].1, r.ops[i].2) := List.getElem?_eq_getElem hil
  have hov := hr.ok.2 _ hmem
  have e : (i : Int) + 1 = ((i + 1 : Nat) : Int) := by lia
  have at2 : ∀ {σ : Sto} {Q : PV → Sto → Prop}, getP (.str (Str.ofString r.kinds)) (.int (i : Int)) σ Q = Q (sv r.ops[i].2) σ := fun {σ} {Q} => kinds_at r i _ _ hoi
  have I1 := I.set (x := "place") (v := .int i) (.inl rfl)
  have ep : (ρ.set "place" (.int i)) "place" = some (.int i) := rfl
  rw [d_ri_body, seq_assign, dOp, name_at I1.e1, dOp, name_at ep, dVal, addP_i, e, rv_at r hl' hoi]
  generalize ρ.set "place" (.int i) = ρ₁ at *
  have app : ∀ ρ'' σ'' u, RI r c pa en ρ'' → ρ'' "value" = some u → (∀ x o, σ' x = some o → σ'' x = some o) → ResV σ'' f r.ops[i] u → d_ri_app ρ'' σ'' K := by
    intro ρ'' σ'' u I2 ev k hres
    have hp' := k _ _ hp
    rw [d_ri_app, seq_expr, dAppend, name_at I2.e5]
    refine ⟨⟨_, hp'⟩, ?_⟩
    rw [name_at ev, appP_at hp' (by rw [List.length_cons]; lia)]
    exact h _ _ _ I2 k hres
  generalize hop : r.ops[i] = op at *
  obtain ⟨ov, ok⟩ := op
  have I2 := I1.set (x := "value") (v := ov) (.inr rfl)
  have ep2 : (ρ₁.set "value" ov) "place" = some (.int i) := ep
  have ev2 : (ρ₁.set "value" ov) "value" = some ov := rfl
  generalize ρ₁.set "value" ov = ρ₂ at *
  dsimp only at hov at2 ⊢
  rw [dSeq, d_ri_if]
  cases hov with
  | @L n hn =>
    rw [ri_if I2 ep2 at2 so_L so_L, if_pos rfl, seq_end, dAssign, dCall, dCons, name_at ev2, dCons, name_at I2.e3, dCons, name_at I2.e4, dNil]
    exact ⟨n, c, en, lt, f n, rfl, old _ _ hc, hr.adr n hmem, app _ _ _ (I2.set (.inr rfl)) rfl (fun _ _ e => e) .L⟩
  | @N n hn =>
    rw [ri_if I2 ep2 at2 so_N so_L, if_neg (by decide), seq_end, ri_if2 I2 ep2 at2 so_N so_T so_U, if_neg (by decide), dEnd]
    exact app _ _ _ I2 ev2 (fun _ _ e => e) .N
  | @F n hn =>
    rw [ri_if I2 ep2 at2 so_F so_L, if_neg (by decide), seq_end, ri_if2 I2 ep2 at2 so_F so_T so_U, if_neg (by decide), dEnd]
    exact app _ _ _ I2 ev2 (fun _ _ e => e) .F
  | @tab con t htab =>
    obtain ⟨q1, q2, q3, q4⟩ := hr.tab con t hmem
    have n1 : ¬ tuStr con = "L" := by cases con <;> decide
    have n2 : tuStr con = "T" ∨ tuStr con = "U" := by cases con <;> decide
    have n3 : PyData.strOk (Str.ofString (tuStr con)) = true := by cases con; exact so_U; exact so_T
    rw [ri_if I2 ep2 at2 n3 so_L, if_neg n1, seq_end, ri_if2 I2 ep2 at2 n3 so_T so_U, if_pos n2, seq_end, dAssign, dCall, dCons, name_at ev2, dCons, name_at I2.e3, dCons, name_at I2.e4, dNil]
    exact ⟨con, t, c, en, lt, f, rfl, old _ _ hc, q1, q2, q3, q4, fun d hd => app _ _ _ (I2.set (.inr rfl)) rfl (fun x o e => Sto.get_new hd e) (.tab (Sto.set_same ..))⟩
theorem s_resolve_instruction : ∀ args σ Q, S_resolve_instruction args σ Q → fnP ["table", "ins", "addresses", "end"] (d_resolve_instruction S_resolve_label S_resolve_table S_check_row) args σ Q := by
  rintro args σ Q ⟨ta, c, en, lt, f, r, rfl, ht, hc, hr, h⟩
  refine ⟨rfl, ?_⟩
  have sl := sizeLine_big
  have h4 := ops_len r
  have hl := hr.ok.1
  rw [d_ri_eq, seq_expr, dCall]
  refine ⟨ta, r, rfl, ht, hr.ok, ?_⟩
  simp only [plainK_n]
  rw [seq_assign, dOp, name_at (v := .ref ta) rfl, dOp, name_at (v := rv r) rfl, dVal, getP_rv0, ht.get hl, seq_assign, dList, dCons, dOp, name_at (v := rv r) rfl, dVal, getP_rv0, dNil]
  refine ⟨sl1, fun pa hpa => ?_⟩
  dsimp only
  rw [dSeq, dForR, dCons, dCall, dCons, name_at (v := sv r.kinds) rfl, dNil, lenP_kinds r hl, dNil, rngL1 (by lia) (by lia)]
  refine forL_inv (I := fun i ρ' σ' => RI r c pa en ρ' ∧ (∀ x o, σ x = some o → σ' x = some o) ∧ ∃ vs, ResVs σ' f (r.ops.take i) vs ∧ σ' pa = some (.list (sv r.name :: vs))) ?_ ?_ _ _ ?_
  · rintro i v ρ' σ' K hu ⟨I, old, vs, hvs, hp⟩ hK _
    have hil : i < r.ops.length := by
      have := (List.getElem?_eq_some_iff.mp hu).1
      rw [rangeL_length] at this; lia
    rw [rangeL_get _ _ _ (by lia)] at hu
    cases hu
    have hto : r.ops.take (i + 1) = r.ops.take i ++ [r.ops[i]] := by rw [List.take_add_one, List.getElem?_eq_getElem hil]; rfl
    have hvl := hvs.length
    rw [List.length_take] at hvl
    have e0 : (0 : Int) + (i : Int) = (i : Int) := by lia
    rw [e0]
    refine ri_turn hc hr old I hp (by lia) hil fun ρ'' σ'' u I2 k hres => ?_
    have hp' := k _ _ hp
    have k2 : ∀ x o, x ≠ pa → σ'' x = some o → (σ''.set pa (.list (sv r.name :: vs ++ [u]))) x = some o := fun x o hx e => (Sto.set_ne _ _ hx).trans e
    have kd : ∀ x o, σ'' x = some (.dict o) → (σ''.set pa (.list (sv r.name :: vs ++ [u]))) x = some (.dict o) := fun x o e => k2 x _ (by rintro rfl; rw [hp'] at e; cases e) e
    refine hK _ _ ⟨I2, fun x o ex => k2 x o (by rintro rfl; rw [hpa] at ex; cases ex) (k _ _ (old _ _ ex)), vs ++ [u], ?_, by rw [Sto.set_same]; rfl⟩
    rw [hto]
    exact ((hvs.keep fun x o e => k x _ e).keep kd).snoc (hres.keep kd)
  · rintro ρ' σ' ⟨I, old, vs, hvs, hp⟩
    rw [rangeL_length] at hvs
    have hn : ((r.ops.length : Int) - 0).toNat = r.ops.length := by lia
    rw [hn, List.take_length] at hvs
    have hvl := hvs.length
    dsimp only
    rw [seq_end, dRet, dCall, dCons, name_at I.e5, dNil, tupleP_list hp (by rw [List.length_cons]; lia)]
    exact h vs σ' hvs old
  · refine ⟨⟨rfl, rfl, rfl, rfl, rfl⟩, fun x o e => Sto.get_new hpa e, [], .nil, ?_⟩
    rw [Sto.set_same]
end Mine
namespace Mine
open PySem PySem.W PySem.Calls PyProof.Rows PySem.Spec
theorem compL_inv {side : Sto → Prop} {x : String} {t : TWP} {d : EWP} {items : List PV} {ρ : PEnv} {Q : PV → Sto → Prop} (I : Nat → List PV → Sto → Prop) (hside : ∀ i acc σ, I i acc σ → side σ)
    (step : ∀ i v acc σ (K : List PV → Sto → Prop), items[i]? = some v → I i acc σ → (∀ acc' σ', I (i + 1) acc' σ' → K acc' σ') → t (hide (ρ.set x v)) σ fun c σ => if c = true then d (hide (ρ.set x v)) σ fun u σ => acc.length ≤ sizeLine ∧ K (acc ++ [u]) σ else K acc σ)
    (fin : ∀ acc σ, I items.length acc σ → newList acc σ Q) : ∀ σ, I 0 [] σ → compL side x t d items [] ρ σ Q := by
  have key : ∀ (r : List PV) (i : Nat) acc σ, items.drop i = r → i ≤ items.length → I i acc σ → compL side x t d r acc ρ σ Q := by
    intro r
    induction r with
    | nil =>
      intro i acc σ hd hi h
      have : i = items.length := by
        have := congrArg List.length hd
        simp at this; lia
      subst this
      exact ⟨hside _ _ _ h, fin acc σ h⟩
    | cons v r ih =>
      intro i acc σ hd hi h
      have hlt : i < items.length := by
        have := congrArg List.length hd
        simp at this; lia
      rw [List.drop_eq_getElem_cons hlt] at hd
      injection hd with h1 h2
      exact ⟨hside _ _ _ h, step i v acc σ (fun acc σ => compL side x t d r acc ρ σ Q) (by rw [List.getElem?_eq_getElem hlt, h1]) h fun acc' σ' h' => ih (i + 1) acc' σ' h2 hlt h'⟩
  exact fun σ h => key items 0 [] σ rfl (Nat.zero_le _) h
end Mine
namespace Mine
open PySem PySem.W PySem.Calls PyProof.Rows PySem.Spec
noncomputable def shD (w : World) : (List (Option Expr) × List Expr) × (Pos × Pos) := dictOf (bodyOf (fdAt (KH w) 196))
noncomputable def shQ (w : World) : List RawC := rawOf (shD w).1.1 (shD w).1.2
noncomputable def shL (w : World) : List (Str × Str) := rawL (shQ w)
theorem shL_some {w : World} : bodyOf (fdAt (KH w) 196) = rawB (shQ w) (shD w).2 := by kernel_rfl
theorem shL_nodup {w : World} : ((shL w).map (·.1)).Nodup := of_decide_eq_true (by kernel_rfl)
theorem shL_len {w : World} : (shL w).length = 45 := by kernel_rfl
noncomputable def shLook (l : List (Str × Str)) (x : Str) : Option Str := (l.find? fun p => p.1 == x).map (·.2)
theorem sh_try {w : World} : shLook (shL w) (Str.ofString "try") = some (Str.ofString "LN") := by kernel_rfl
theorem sh_retry {w : World} : shLook (shL w) (Str.ofString "retry") = some (Str.ofString "L") := by kernel_rfl
theorem sh_trust {w : World} : shLook (shL w) (Str.ofString "trust") = some (Str.ofString "L") := by kernel_rfl
theorem sh_st {w : World} : shLook (shL w) (Str.ofString "switch_on_term") = some (Str.ofString "LLLL") := by kernel_rfl
theorem sh_sc {w : World} : shLook (shL w) (Str.ofString "switch_on_constant") = some (Str.ofString "TL") := by kernel_rfl
theorem sh_ss {w : World} : shLook (shL w) (Str.ofString "switch_on_structure") = some (Str.ofString "UL") := by kernel_rfl
theorem sh_exec {w : World} : shLook (shL w) (Str.ofString "execute") = some (Str.ofString "F") := by kernel_rfl
theorem sh_row {w : World} (r : Row) (h : r.isLabel = false) : shLook (shL w) (Str.ofString r.name) = some (Str.ofString r.kinds) := match r, h with
  | .try_ _ _, _ => sh_try | .retry _, _ => sh_retry | .trust _, _ => sh_trust | .sterm _ _ _ _, _ => sh_st | .stab true _ _, _ => sh_sc | .stab false _ _, _ => sh_ss | .exec _, _ => sh_exec
theorem dget_str (x : Str) : ∀ l : List (Str × Str), dget (l.map fun p => (DK.str p.1, PV.str p.2)) (.str x) = (shLook l x).map PV.str
  | [] => rfl
  | c :: r => by
    have ih := dget_str x r
    unfold dget shLook at ih ⊢
    simp only [List.map_cons, List.find?_cons, DK.str.injEq]
    by_cases h : c.1 = x
    · simp [h]
    · have h' : (c.1 == x) = false := beq_eq_false_iff_ne.mpr h
      simp only [h, h', decide_false]
      exact ih
theorem ShT.of {w : World} {a : Addr} {σ : Sto} (h : σ a = some (.dict ((shL w).map fun p => (DK.str p.1, PV.str p.2)))) : ShT a σ := by
  refine ⟨_, h, fun x hx => ?_, fun r hr => ?_⟩
  · obtain ⟨p, _, rfl⟩ := List.mem_map.mp hx
    exact ⟨p.1, rfl⟩
  · rw [dget_str, sh_row r hr]; rfl
inductive S_shapes (args : List PV) (σ : Sto) (Q : PV → Sto → Prop) : Prop
  | mk : (args = []) → (∀ a σ', σ a = none → (∀ x o, σ x = some o → σ' x = some o) → ShT a σ' → Q (.ref a) σ') → S_shapes args σ Q
theorem s_shapes {w : World} : ∀ args σ Q, S_shapes args σ Q → fnP [] (d_shapes (shL w)) args σ Q := by
  rintro args σ Q ⟨rfl, h⟩
  refine ⟨rfl, ?_⟩
  simp only [d_shapes, dSeq, dRet, bindEnv, fnEnd_r, dDictS]
  exact fun a ha => h a _ ha (fun x o e => Sto.get_new ha e) (ShT.of (w := w) (Sto.set_same ..))
theorem k_shapes {prog : Program} {w : World} {B : Heap} (G : Gd prog w (KH w) B) : FnOk prog w B 1 196 S_shapes :=
  (w_shapes G shL_some shL_nodup (by intro e; have := shL_len (w := w); rw [shL, e] at this; cases this) (by show (shL w).length ≤ _; rw [shL_len]; decide)).mono s_shapes
end Mine
namespace Mine
open PySem PySem.W PySem.Calls PyProof.Rows PySem.Spec
noncomputable def CRow (σ : Sto) (f : Int → Int) (r : Row) (v : PV) : Prop := ∃ vs, v = .tup (sv r.name :: vs) ∧ ResVs σ f r.ops vs
inductive CRows (σ : Sto) (f : Int → Int) : List Row → List PV → Prop
  | nil : CRows σ f [] []
  | cons {r v rs vs} : CRow σ f r v → CRows σ f rs vs → CRows σ f (r :: rs) (v :: vs)
theorem CRows.keep {σ σ' : Sto} {f : Int → Int} {o : List Row} {v : List PV} (h : CRows σ f o v) (k : ∀ x o, σ x = some o → σ' x = some o) : CRows σ' f o v := by
  induction h with
  | nil => exact .nil
  | cons a _ ih =>
    obtain ⟨vs, e, r⟩ := a
    exact .cons ⟨vs, e, r.keep fun x o e => k x _ e⟩ ih
theorem CRows.snoc {σ : Sto} {f : Int → Int} {os : List Row} {vs : List PV} {o : Row} {v : PV} (h : CRows σ f os vs) (r : CRow σ f o v) : CRows σ f (os ++ [o]) (vs ++ [v]) := by
  induction h with
  | nil => exact .cons r .nil
  | cons a _ ih => exact .cons a ih
theorem CRows.length {σ : Sto} {f : Int → Int} {os : List Row} {vs : List PV} (h : CRows σ f os vs) : vs.length = os.length := by
  induction h with
  | nil => rfl
  | cons _ _ ih => simp [ih]
noncomputable def codeRows (bs : List Row) : List Row := bs.filter fun r => !r.isLabel
inductive S_assemble (args : List PV) (σ : Sto) (Q : PV → Sto → Prop) : Prop
  | mk : ∀ a bs base f, (args = [.ref a, .int base]) → (σ a = some (.list (bs.map rv))) → (bs.length ≤ 1000) → (((adrs bs base).map (·.1)).Nodup) → ((∀ l, Row.label l ∈ bs → 0 ≤ l)) → ((∀ r ∈ codeRows bs, RowOk (adrs bs base) (base + ((codeRows bs).length : Nat)) f r)) → (∀ c σ' ps, (∀ x o, σ x = some o → σ' x = some o) → σ c = none → σ' c = some (.list ps) → CRows σ' f (codeRows bs) ps → Q (.ref c) σ') → S_assemble args σ Q
theorem s_assemble : ∀ args σ Q, S_assemble args σ Q → fnPD ["block", "base", "table"] [.none] (d_assemble S_resolve_instruction S_is_label_row S_label_addresses S_shapes) args σ Q := by
  rintro args σ Q ⟨a, bs, base, f, rfl, ha, hb, hn, hp, hr, h⟩
  refine ⟨rfl, ?_⟩
  have sl := sizeLine_big
  simp only [d_assemble, dSeq, dIf, dTest, dOp, dName, dVal, dRet, dEnd, dAssign, dCall, dCons, dNil, bindEnv, PEnv.set_b, if_true, fnEnd_r, truP_b, String.reduceBEq, cond_true, cond_false, List.cons_append, List.nil_append, isP_nn]
  refine ⟨rfl, fun ta σ₁ hta k₁ hsh => ?_⟩
  refine ⟨a, bs, base, rfl, k₁ _ _ ha, hb, hn, hp, fun ca hca => ?_⟩
  simp only [dName, PEnv.set_b, String.reduceBEq, cond_true, cond_false, dComp, dItL]
  have ka : ∀ x o, σ₁ x = some o → (σ₁.set ca (.dict (intD (adrs bs base)))) x = some o := fun x o e => Sto.get_new hca e
  have hac := ka _ _ (k₁ _ _ ha)
  have hcc : (σ₁.set ca (.dict (intD (adrs bs base)))) ca = some (.dict (intD (adrs bs base))) := Sto.set_same ..
  have hsh2 := hsh.keep ka
  generalize σ₁.set ca (.dict (intD (adrs bs base))) = σ₂ at *
  simp only [hac]
  refine compL_inv (I := fun i acc σ' => σ' = σ₂ ∧ acc = (codeRows (bs.take i)).map rv) (fun i acc σ' hI => by rw [hI.1]; exact hac) ?_ ?_ _ ?_
  · rintro i v acc σ' K hu ⟨rfl, rfl⟩ hK
    have hi : i < bs.length := by
      have := (List.getElem?_eq_some_iff.mp hu).1
      simpa using this
    have hbi : bs[i]? = some bs[i] := List.getElem?_eq_getElem hi
    rw [List.getElem?_map, hbi] at hu
    cases hu
    have ht : bs.take (i + 1) = bs.take i ++ [bs[i]] := by rw [List.take_add_one, hbi]; rfl
    have hle : (codeRows (bs.take i)).length ≤ 1000 := by
      have := List.length_filter_le (fun r : Row => !r.isLabel) (bs.take i)
      rw [List.length_take] at this
      unfold codeRows; lia
    rw [ht] at hK
    generalize bs[i] = r at *
    simp only [dNotT, dTest, dName, dCall, dCons, dNil, PEnv.set_b, if_false, String.reduceEq, String.reduceBEq, cond_true, cond_false, hide]
    refine ⟨r, rfl, ?_⟩
    simp only [truP_b]
    cases hr' : r.isLabel with
    | true =>
      simp only [Bool.not_true, if_false, Bool.false_eq_true]
      exact hK _ _ ⟨rfl, by simp [codeRows, List.filter_append, hr']⟩
    | false =>
      simp only [Bool.not_false, if_true]
      exact ⟨by rw [List.length_map]; lia, hK _ _ ⟨rfl, by simp [codeRows, List.filter_append, hr']⟩⟩
  · rintro acc σ' ⟨rfl, rfl⟩
    rw [List.length_map, List.take_length]
    have hle : (codeRows bs).length ≤ 1000 := Nat.le_trans (List.length_filter_le _ _) hb
    refine ⟨by rw [List.length_map]; lia, fun ra hra => ?_⟩
    have hrr : (σ'.set ra (.list ((codeRows bs).map rv))) ra = some (.list ((codeRows bs).map rv)) := Sto.set_same ..
    have kr : ∀ x o, σ' x = some o → (σ'.set ra (.list ((codeRows bs).map rv))) x = some o := fun x o e => Sto.get_new hra e
    dsimp only
    rw [lenP_list hrr (by rw [List.length_map]; lia)]
    simp only [addP_i, hrr]
    have hcc3 := kr _ _ hcc
    have hsh3 := hsh2.keep kr
    have k3 : ∀ x o, σ x = some o → (σ'.set ra (.list ((codeRows bs).map rv))) x = some o := fun x o e => kr _ _ (ka _ _ (k₁ _ _ e))
    generalize σ'.set ra (.list ((codeRows bs).map rv)) = σ₃ at *
    refine compL_inv (I := fun i acc σ' => (∀ x o, σ₃ x = some o → σ' x = some o) ∧ CRows σ' f ((codeRows bs).take i) acc) (fun i acc σ' hI => hI.1 _ _ hrr) ?_ ?_ _ ?_
    · rintro i v acc σ' K hu ⟨k, hc⟩ hK
      have hi : i < (codeRows bs).length := by
        have := (List.getElem?_eq_some_iff.mp hu).1
        simpa using this
      have hbi : (codeRows bs)[i]? = some (codeRows bs)[i] := List.getElem?_eq_getElem hi
      rw [List.getElem?_map, hbi] at hu
      cases hu
      have ht : (codeRows bs).take (i + 1) = (codeRows bs).take i ++ [(codeRows bs)[i]] := by rw [List.take_add_one, hbi]; rfl
      have hmem := hr _ (List.getElem_mem hi)
      have hcl := hc.length
      rw [List.length_take] at hcl
      rw [ht] at hK
      generalize (codeRows bs)[i] = r at *
      simp only [dAll, dName, dCall, dCons, dNil, PEnv.set_b, if_true, if_false, String.reduceEq, String.reduceBEq, cond_true, cond_false, hide, List.length_map]
      refine ⟨ta, ca, _, adrs bs base, f, r, rfl, hsh3.keep k, k _ _ hcc3, hmem, fun vs σ'' hv k2 => ?_⟩
      exact ⟨by lia, hK _ _ ⟨fun x o e => k2 _ _ (k _ _ e), (hc.keep k2).snoc ⟨vs, rfl, hv⟩⟩⟩
    · rintro acc σ' ⟨k, hc⟩
      rw [List.length_map, List.take_length] at hc
      refine ⟨by rw [hc.length]; lia, fun c hcn => ?_⟩
      have kc : ∀ x o, σ' x = some o → (σ'.set c (.list acc)) x = some o := fun x o e => Sto.get_new hcn e
      refine h c _ acc (fun x o e => kc _ _ (k _ _ (k3 _ _ e))) ?_ (Sto.set_same ..) (hc.keep kc)
      cases q : σ c with
      | none => rfl
      | some o => rw [k _ _ (k3 _ _ q)] at hcn; cases hcn
    · exact ⟨fun _ _ e => e, .nil⟩
  · exact ⟨rfl, rfl⟩
end Mine
namespace Mine
open PySem PySem.W PySem.Calls PyProof.Rows PySem.Spec
noncomputable def Figs (fa : Addr) (σ : Sto) : Prop := ∃ ns : List Int, ns.length ≤ 90 ∧ σ fa = some (.list (il ns))
noncomputable def Bar (fa : Addr) (σ σ' : Sto) : Prop := ∀ x o, x ≠ fa → σ x = some o → σ' x = some o
theorem Bar.trans {fa : Addr} {σ σ₁ σ₂ : Sto} (x : Bar fa σ σ₁) (y : Bar fa σ₁ σ₂) : Bar fa σ σ₂ := fun a o h e => y a o h (x a o h e)
theorem eqP_lists {f : Bool → Bool} {a b : Addr} {xs ys : List Int} {σ : Sto} (ha : σ a = some (.list (il xs))) (hb : σ b = some (.list (il ys))) {Q : PV → Sto → Prop} : eqP f (.ref a) (.ref b) σ Q = Q (.bool (f (decide (xs = ys)))) σ := by
  rw [eqP_of (da := .list (xs.map .int)) (db := .list (ys.map .int)) (by simp [deep, ha, intsOf_map]) (by simp [deep, hb, intsOf_map]) rfl rfl]
  have : ∀ xs ys : List Int, PyData.eqvAll (xs.map .int) (ys.map .int) = decide (xs = ys) := by
    intro xs
    induction xs with
    | nil => intro ys; cases ys <;> simp [PyData.eqvAll]
    | cons x r ih => intro ys; cases ys with
      | nil => simp [PyData.eqvAll]
      | cons y s => simp [PyData.eqvAll, PyData.eqv, ih, Bool.beq_eq_decide_eq]
  have e : PyData.eqv (.list (xs.map .int)) (.list (ys.map .int)) = decide (xs = ys) := by simp only [PyData.eqv]; exact this xs ys
  rw [e]
inductive S_draw (args : List PV) (σ : Sto) (Q : PV → Sto → Prop) : Prop
  | mk : ∀ fa m, (args = [.ref fa, .int m]) → (0 < m) → (Figs fa σ) → (∀ r σ', 0 ≤ r → r < m → Figs fa σ' → Bar fa σ σ' → Q (.int r) σ') → S_draw args σ Q
theorem s_draw : ∀ args σ Q, S_draw args σ Q → fnP ["figures", "many"] d_law_draw args σ Q := by
  rintro args σ Q ⟨fa, m, rfl, hm, ⟨ns, hb, hf⟩, h⟩
  refine ⟨rfl, ?_⟩
  have sl := sizeLine_big
  simp only [d_law_draw, dSeq, dIf, dTest, dOp, dName, dVal, dRet, dEnd, dNil, dList, dPop, bindEnv, PEnv.set_b, fnEnd_r, String.reduceBEq, cond_true, cond_false]
  refine ⟨sl0, fun e he => ?_⟩
  have hf1 : (σ.set e (.list [])) fa = some (.list (il ns)) := Sto.get_new he hf
  have he1 : (σ.set e (.list [])) e = some (.list (il [])) := Sto.set_same ..
  have k1 : ∀ x o, σ x = some o → (σ.set e (.list [])) x = some o := fun x o => Sto.get_new he
  dsimp only
  rw [eqP_lists hf1 he1]
  simp only [truP_b, id]
  rcases List.eq_nil_or_concat ns with rfl | ⟨p, i, rfl⟩
  · simp only [decide_true, if_true]
    exact h 0 _ (by lia) hm ⟨[], by simp, hf1⟩ fun x o _ e => k1 x o e
  · have hne : ¬ (p.concat i = []) := by simp
    rw [List.concat_eq_append] at *
    simp only [hne, decide_false, if_false, Bool.false_eq_true]
    rw [popP_at hf1 (by simp at hb; lia)]
    have m0 : m ≠ 0 := by lia
    simp only [true_and, modP, m0, ne_eq, not_false_eq_true]
    refine h _ _ (Int.fmod_nonneg_of_pos i hm) (Int.fmod_lt_of_pos i hm) ⟨p, by simp at hb; lia, Sto.set_same ..⟩ fun x o hx e => ?_
    rw [Sto.set_ne _ _ hx]
    exact k1 x o e
noncomputable def KeyGood (k : Key) : Prop := k = .var ∨ k = .list ∨ (∃ n, k = .struct (40 + n) ∧ 0 ≤ n ∧ n < 2) ∨ ∃ t v, k = .const t v ∧ (t = 5 ∨ t = 4) ∧ 0 ≤ v ∧ v < 2
inductive S_key_drawn (args : List PV) (σ : Sto) (Q : PV → Sto → Prop) : Prop
  | mk : ∀ fa, (args = [.ref fa]) → (Figs fa σ) → (∀ k σ', KeyGood k → Figs fa σ' → Bar fa σ σ' → Q (kv k) σ') → S_key_drawn args σ Q
theorem s_key_drawn : ∀ args σ Q, S_key_drawn args σ Q → fnP ["figures"] (d_law_key_drawn S_draw) args σ Q := by
  rintro args σ Q ⟨fa, rfl, hf, h⟩
  refine ⟨rfl, ?_⟩
  simp only [d_law_key_drawn, dSeq, dIf, dTest, dOp, dName, dVal, dRet, dEnd, dAssign, dCall, dCons, dNil, dTup, dIte, bindEnv, PEnv.set_b, fnEnd_r, String.reduceBEq, cond_true, cond_false]
  refine ⟨fa, 5, rfl, by decide, hf, fun r σ₁ h0 h5 f1 b1 => ?_⟩
  simp only [truP_b, true_and, eqP_int, id, List.length_cons, List.length_nil, Nat.reduceAdd, sl1, sl2]
  by_cases r1 : r = 1
  · simp only [r1, decide_true, if_true]
    exact h .var σ₁ (.inl rfl) f1 b1
  · by_cases r2 : r = 2
    · simp only [r2, decide_true, if_true]
      exact h .list σ₁ (.inr (.inl rfl)) f1 b1
    · by_cases r3 : r = 3
      · simp only [r3, decide_true, if_true]
        refine ⟨fa, 2, rfl, by decide, f1, fun n σ₂ n0 n2 f2 b2 => ?_⟩
        simp only [addP_i]
        exact h (.struct (40 + n)) σ₂ (.inr (.inr (.inl ⟨n, rfl, n0, n2⟩))) f2 (b1.trans b2)
      · simp only [r1, r2, r3, decide_false, if_false, Bool.false_eq_true]
        by_cases r0 : r = 0
        · simp only [r0, decide_true, if_true]
          refine ⟨fa, 2, rfl, by decide, f1, fun n σ₂ n0 n2 f2 b2 => ?_⟩
          exact h (.const 5 n) σ₂ (.inr (.inr (.inr ⟨5, n, rfl, .inl rfl, n0, n2⟩))) f2 (b1.trans b2)
        · simp only [r0, decide_false, if_false, Bool.false_eq_true]
          refine ⟨fa, 2, rfl, by decide, f1, fun n σ₂ n0 n2 f2 b2 => ?_⟩
          exact h (.const 4 n) σ₂ (.inr (.inr (.inr ⟨4, n, rfl, .inr rfl, n0, n2⟩))) f2 (b1.trans b2)
end Mine
namespace Mine
open PySem PySem.W PySem.Calls PyProof.Rows PySem.Spec
theorem forL_brk {x : String} {b : SWP} {items : List PV} {Q : PFlow → PEnv → Sto → Prop} (I : Nat → PEnv → Sto → Prop)
    (step : ∀ i v ρ σ (K : PFlow → PEnv → Sto → Prop), items[i]? = some v → I i ρ σ → (∀ ρ' σ', I (i + 1) ρ' σ' → K .next ρ' σ') → (∀ ρ' σ', I (i + 1) ρ' σ' → K .brk ρ' σ') → b (ρ.set x v) σ K)
    (fin : ∀ i ρ σ, i ≤ items.length → I i ρ σ → Q .next ρ σ) : ∀ ρ σ, I 0 ρ σ → forL x b items ρ σ Q := by
  have key : ∀ (r : List PV) (i : Nat) ρ σ, items.drop i = r → i ≤ items.length → I i ρ σ → forL x b r ρ σ Q := by
    intro r
    induction r with
    | nil => exact fun i ρ σ _ hi h => fin i ρ σ hi h
    | cons v r ih =>
      intro i ρ σ hd hi h
      have hlt : i < items.length := by
        have := congrArg List.length hd
        simp at this; lia
      rw [List.drop_eq_getElem_cons hlt] at hd
      injection hd with h1 h2
      exact step i v ρ σ _ (by rw [List.getElem?_eq_getElem hlt, h1]) h (fun ρ' σ' h' => ih (i + 1) ρ' σ' h2 hlt h') (fun ρ' σ' h' => fin (i + 1) ρ' σ' hlt h')
  exact fun ρ σ h => key items 0 ρ σ rfl (Nat.zero_le _) h
inductive S_figures (args : List PV) (σ : Sto) (Q : PV → Sto → Prop) : Prop
  | mk : ∀ ns, (args = [.scr ns]) → (∀ fa σ', σ fa = none → Figs fa σ' → (∀ x o, σ x = some o → σ' x = some o) → Q (.ref fa) σ') → S_figures args σ Q
theorem s_figures : ∀ args σ Q, S_figures args σ Q → fnP ["script"] d_law_figures args σ Q := by
  rintro args σ Q ⟨ns, rfl, h⟩
  refine ⟨rfl, ?_⟩
  have sl := sizeLine_big
  simp only [d_law_figures, dSeq, dName, dRet, dAssign, dExpr, dNil, dList, dFor, bindEnv, PEnv.set_b, fnEnd_r, String.reduceBEq, cond_true, cond_false, dHead]
  refine ⟨sl0, fun fa hfa => ?_⟩
  simp only [headP]
  have h30 : (ns.take 30).length ≤ 30 := List.length_take_le ..
  generalize ns.take 30 = cells at *
  refine ⟨by rw [List.length_map]; lia, fun sa hsa => ?_⟩
  have ne : sa ≠ fa := by rintro rfl; rw [Sto.set_same] at hsa; cases hsa
  have hs0 : σ sa = none := by rwa [Sto.set_ne _ _ ne] at hsa
  simp only [forP, Sto.set_same]
  refine forR_inv (I := fun i ρ' σ' => ρ' "figures" = some (.ref fa) ∧ (∃ fs : List Int, fs.length ≤ 24 * i ∧ σ' fa = some (.list (il fs))) ∧ σ' sa = some (.list (il cells)) ∧ ∀ x o, σ x = some o → σ' x = some o) (fun i ρ' σ' hI => hI.2.2.1) ?_ ?_ _ _ ?_
  · rintro i v ρ' σ' K hu ⟨e1, ⟨fs, hfl, hf⟩, hs, old⟩ hK _
    have hi : i < cells.length := by
      have := (List.getElem?_eq_some_iff.mp hu).1
      simpa using this
    rw [List.getElem?_map, List.getElem?_eq_getElem hi] at hu
    cases hu
    generalize cells[i] = c at *
    have rest : ∀ w : Int, (dSeq (dForR "turn" (dCons (dVal (.int 24)) dNil) (dSeq (dExpr (dAppend (dName "figures") (dOp modP (dName "whole") (dVal (.int 997))))) (dSeq (dAssign "whole" (dOp divP (dName "whole") (dVal (.int 997)))) (dSeq (dIf (dTest (dOp (eqP id) (dName "whole") (dVal (.int 0)))) (dSeq dBrk dEnd) dEnd) dEnd)))) dEnd) ((ρ'.set "cell" (.int c)).set "whole" (.int w)) σ' K := by
      intro w
      simp only [dSeq, dForR, dCons, dNil, dVal, dEnd]
      rw [rngL1 (by decide) (by decide)]
      refine forL_brk (I := fun j ρ' σ' => ρ' "figures" = some (.ref fa) ∧ (∃ w, ρ' "whole" = some (.int w)) ∧ (∃ fs : List Int, fs.length ≤ 24 * i + j ∧ σ' fa = some (.list (il fs))) ∧ σ' sa = some (.list (il cells)) ∧ ∀ x o, σ x = some o → σ' x = some o) ?_ ?_ _ _ ?_
      · rintro j v ρ'' σ'' K2 hu ⟨f1, ⟨w, f2⟩, ⟨gs, hgl, hg⟩, hs2, old2⟩ hn hbk
        have hj : j < 24 := by
          have := (List.getElem?_eq_some_iff.mp hu).1
          rw [rangeL_length] at this; lia
        rw [rangeL_get _ _ _ (by lia)] at hu
        cases hu
        have nz : (997 : Int) ≠ 0 := by decide
        have nb : (997 : Int).natAbs < 1073741824 := by decide
        simp only [dSeq, dIf, dTest, dOp, dName, dVal, dEnd, dAssign, dExpr, dAppend, PEnv.set_b, true_and, String.reduceBEq, cond_true, cond_false, f1, f2, modP, divP, nz, nb, ne_eq, not_false_eq_true]
        refine ⟨⟨_, hg⟩, ?_⟩
        rw [appI hg (by lia)]
        simp only [truP_b, plainK_n, eqP_int, id]
        have inv : (((ρ''.set "turn" (.int (0 + (j : Int)))).set "whole" (.int (Int.fdiv w 997))) "figures" = some (.ref fa) ∧ (∃ w', ((ρ''.set "turn" (.int (0 + (j : Int)))).set "whole" (.int (Int.fdiv w 997))) "whole" = some (.int w')) ∧ (∃ fs : List Int, fs.length ≤ 24 * i + (j + 1) ∧ (σ''.set fa (.list (il (gs ++ [Int.fmod w 997])))) fa = some (.list (il fs))) ∧ (σ''.set fa (.list (il (gs ++ [Int.fmod w 997])))) sa = some (.list (il cells)) ∧ ∀ x o, σ x = some o → (σ''.set fa (.list (il (gs ++ [Int.fmod w 997])))) x = some o) :=
          ⟨f1, ⟨_, rfl⟩, ⟨_, by simp; lia, Sto.set_same ..⟩, (Sto.set_ne _ _ ne).trans hs2, fun x o e => by
            have : x ≠ fa := by rintro rfl; rw [hfa] at e; cases e
            rw [Sto.set_ne _ _ this]; exact old2 x o e⟩
        by_cases hz : Int.fdiv w 997 = 0
        · rw [hz] at inv
          simp only [hz, decide_true, if_true, dBrk]
          exact hbk _ _ inv
        · simp only [hz, decide_false, if_false, Bool.false_eq_true]
          exact hn _ _ inv
      · rintro j ρ'' σ'' hj ⟨f1, _, ⟨gs, hgl, hg⟩, hs2, old2⟩
        rw [rangeL_length] at hj
        exact hK _ _ ⟨f1, ⟨gs, by lia, hg⟩, hs2, old2⟩
      · exact ⟨e1, ⟨w, rfl⟩, ⟨fs, by lia, hf⟩, hs, old⟩
    simp only [dSeq, dAssign, dIte, dTest, dOp, dName, dVal, PEnv.set_get, if_true, geP_i, truP_b] at rest ⊢
    by_cases hc : 0 ≤ c
    · simp only [hc, decide_true, if_true]
      exact rest c
    · simp only [hc, decide_false, Bool.false_eq_true, if_false, mulP, subP_i]
      exact ⟨by decide, rest _⟩
  · rintro ρ' σ' ⟨e1, ⟨fs, hfl, hf⟩, hs, old⟩
    rw [List.length_map] at hfl
    simp only [e1, hf]
    refine ⟨by rw [List.length_map]; lia, ?_⟩
    have ht : (il fs).take 90 = il (fs.take 90) := by simp
    rw [ht]
    refine ⟨by simp; lia, fun ga hga => ?_⟩
    simp only [dRev, dName, PEnv.set_b, plainK_n, String.reduceBEq, cond_true, revP, Sto.set_same]
    refine ⟨by simp; lia, ?_⟩
    rw [Sto.set_set]
    refine h ga _ ?_ ⟨(fs.take 90).reverse, by simp; lia, by rw [Sto.set_same]; simp⟩ fun x o e => Sto.get_new hga (old x o e)
    cases q : σ ga with
    | none => rfl
    | some o => rw [old _ _ q] at hga; cases hga
  · exact ⟨rfl, ⟨[], by simp, by rw [Sto.set_ne _ _ ne.symm, Sto.set_same]; rfl⟩, Sto.set_same .., fun x o e => Sto.get_new hsa (Sto.get_new hfa e)⟩
end Mine
namespace Mine
open PySem PySem.W PySem.Calls PyProof.Rows PySem.Spec
theorem ResVs.one {σ : Sto} {f : Int → Int} {o : PV × String} {vs : List PV} (h : ResVs σ f [o] vs) : ∃ v, vs = [v] ∧ ResV σ f o v := by
  cases h with
  | cons a r => cases r; exact ⟨_, rfl, a⟩
theorem ResV.lab {σ : Sto} {f : Int → Int} {n : Int} {v : PV} (h : ResV σ f (.int n, "L") v) : v = .int (f n) := by
  generalize ho : (PV.int n, "L") = o at h
  cases h with
  | L => cases ho; rfl
  | N => simp at ho
  | F => simp at ho
  | tab _ => simp [tv] at ho
theorem ResV.num {σ : Sto} {f : Int → Int} {n : Int} {v : PV} (h : ResV σ f (.int n, "N") v) : v = .int n := by
  generalize ho : (PV.int n, "N") = o at h
  cases h with
  | L => simp at ho
  | N => cases ho; rfl
  | F => simp at ho
  | tab _ => simp [tv] at ho
theorem ResV.fun {σ : Sto} {f : Int → Int} {n : Int} {v : PV} (h : ResV σ f (.int n, "F") v) : v = .int n := by
  generalize ho : (PV.int n, "F") = o at h
  cases h with
  | L => simp at ho
  | N => simp at ho
  | F => cases ho; rfl
  | tab _ => simp [tv] at ho
theorem kav_inj {a b : KA} (h : kav a = kav b) : a = b := by
  cases a <;> cases b <;> simp [kav] at h
  · rw [h]
  · rw [h.1, h.2]
theorem tv_inj : ∀ {a b : List (KA × Int)}, tv a = tv b → a = b := by
  intro a b h
  have h' : (a.map fun p => PV.tup [kav p.1, .int p.2]) = b.map fun p => PV.tup [kav p.1, .int p.2] := by simpa [tv] using h
  clear h
  induction a generalizing b with
  | nil => cases b with
    | nil => rfl
    | cons => cases h'
  | cons x r ih =>
    cases b with
    | nil => cases h'
    | cons y s =>
      simp only [List.map_cons, List.cons.injEq, PV.tup.injEq, PV.int.injEq, and_true] at h'
      obtain ⟨⟨h1, h2⟩, h3⟩ := h'
      rw [ih h3]
      obtain ⟨x1, x2⟩ := x
      obtain ⟨y1, y2⟩ := y
      rw [show x1 = y1 from kav_inj h1, show x2 = y2 from h2]
theorem tuStr_inj {a b : Bool} (h : tuStr a = tuStr b) : a = b := by cases a <;> cases b <;> simp [tuStr] at h ⊢
theorem ResV.dict {σ : Sto} {f : Int → Int} {con : Bool} {t : List (KA × Int)} {v : PV} (h : ResV σ f (tv t, tuStr con) v) : ∃ d, v = .ref d ∧ σ d = some (.dict (kaD (resT f t))) := by
  generalize ho : (tv t, tuStr con) = o at h
  cases h with
  | L => simp [tv] at ho
  | N => simp [tv] at ho
  | F => simp [tv] at ho
  | @tab con' t' d e =>
    simp only [Prod.mk.injEq] at ho
    rw [tv_inj ho.1]
    exact ⟨d, rfl, e⟩
inductive CV (σ : Sto) (f : Int → Int) : Row → PV → Prop
  | try_ {l w : Int} : CV σ f (.try_ l w) (.tup [sv "try", .int (f l), .int w])
  | retry {l : Int} : CV σ f (.retry l) (.tup [sv "retry", .int (f l)])
  | trust {l : Int} : CV σ f (.trust l) (.tup [sv "trust", .int (f l)])
  | sterm {v c l s : Int} : CV σ f (.sterm v c l s) (.tup [sv "switch_on_term", .int (f v), .int (f c), .int (f l), .int (f s)])
  | stab {con : Bool} {t : List (KA × Int)} {d : Int} {a : Addr} : σ a = some (.dict (kaD (resT f t))) → CV σ f (.stab con t d) (.tup [sv (Row.stab con t d).name, .ref a, .int (f d)])
  | exec {n : Int} : CV σ f (.exec n) (.tup [sv "execute", .int n])
theorem CRow.cv {σ : Sto} {f : Int → Int} {r : Row} {v : PV} (h : CRow σ f r v) (hr : r.isLabel = false) : CV σ f r v := by
  obtain ⟨vs, rfl, hv⟩ := h
  cases r with
  | label _ => cases hr
  | try_ l w =>
    cases hv with | cons a r => cases r with | cons b r => cases r; rw [a.lab, b.num]; exact .try_
  | retry l => obtain ⟨v, rfl, a⟩ := hv.one; rw [a.lab]; exact .retry
  | trust l => obtain ⟨v, rfl, a⟩ := hv.one; rw [a.lab]; exact .trust
  | exec l => obtain ⟨v, rfl, a⟩ := hv.one; rw [a.fun]; exact .exec
  | sterm v c l s =>
    cases hv with | cons a r => cases r with | cons b r => cases r with | cons c r => cases r with | cons d r => cases r; rw [a.lab, b.lab, c.lab, d.lab]; exact .sterm
  | stab con t d =>
    cases hv with | cons a r => cases r with | cons b r => cases r; obtain ⟨x, rfl, e⟩ := a.dict; rw [b.lab]; exact .stab e
end Mine
namespace Mine
open PySem PySem.W PySem.Calls PyProof.Rows PySem.Spec
theorem so_fail : PyData.strOk (Str.ofString "fail") = true := by kernel_rfl
theorem inP_two {f : Bool → Bool} {x a b : String} (hx : PyData.strOk (Str.ofString x) = true) (ha : PyData.strOk (Str.ofString a) = true) (hb : PyData.strOk (Str.ofString b) = true) {σ : Sto} {Q : PV → Sto → Prop} : inP f (sv x) (.tup [.str (Str.ofString a), .str (Str.ofString b)]) σ Q = Q (.bool (f (decide (x = a) || decide (x = b)))) σ := by
  have h1 : deep σ (sv x) = some (sd x) := by simp [deep, hx]
  have h2 : deeps σ [.str (Str.ofString a), .str (Str.ofString b)] = some [sd a, sd b] := by simp [deeps, deep, ha, hb]
  have h3 : ([sd a, sd b].any fun y => PyData.eqv y (sd x)) = (decide (x = a) || decide (x = b)) := by
    simp only [List.any_cons, List.any_nil, PyData.eqv, sbeq, Bool.or_false, eq_comm]
  exact inP_any rfl h1 h2 rfl rfl h3
noncomputable def Row.tabKind : Row → Prop
  | .stab con t _ => ∀ p ∈ t, p.1.isKind con = true
  | _ => True
inductive S_goal (args : List PV) (σ : Sto) (Q : PV → Sto → Prop) : Prop
  | mk : ∀ v k f r push l, (args = [v, kv k]) → (CV σ f r v) → (r.tabKind) → (jumpOf k r = some (push, l)) → (∀ σ', (∀ x o, σ x = some o → σ' x = some o) → Q (.int (f l)) σ') → S_goal args σ Q
theorem kindsL : [PV.str (Str.ofString "var"), .str (Str.ofString "const"), .str (Str.ofString "list"), .str (Str.ofString "struct")] = (([Str.ofString "var", Str.ofString "const", Str.ofString "list", Str.ofString "struct"] : List Str).map PV.str) := rfl
noncomputable def kIdx : Key → Nat
  | .var => 0 | .const _ _ => 1 | .list => 2 | .struct _ => 3
theorem kIdx_eq (k : Key) : ([Str.ofString "var", Str.ofString "const", Str.ofString "list", Str.ofString "struct"] : List Str).idxOf (Str.ofString k.name) = kIdx k := by
  cases k <;> simp [List.idxOf_cons, Key.name, kIdx, sbeq]
theorem kIdx_mem (k : Key) : Str.ofString k.name ∈ ([Str.ofString "var", Str.ofString "const", Str.ofString "list", Str.ofString "struct"] : List Str) := by
  cases k <;> simp [Key.name]
theorem map_str_inj : ∀ {a b : List Str}, a.map PV.str = b.map PV.str → a = b
  | [], [], _ => rfl
  | x :: a, y :: b, h => by
    simp only [List.map_cons, List.cons.injEq, PV.str.injEq] at h
    rw [h.1, map_str_inj h.2]
theorem idxP_kinds (k : Key) {a : Addr} {σ : Sto} (h : σ a = some (.list [PV.str (Str.ofString "var"), .str (Str.ofString "const"), .str (Str.ofString "list"), .str (Str.ofString "struct")])) {Q : PV → Sto → Prop} : idxP (.ref a) (sv k.name) σ Q = Q (.int (kIdx k : Nat)) σ := by
  simp only [idxP]
  apply propext
  constructor
  · rintro ⟨l, e1, e2, e3, q⟩
    rw [h, kindsL] at e1
    have : l = [Str.ofString "var", Str.ofString "const", Str.ofString "list", Str.ofString "struct"] := by
      have := (AObj.list.injEq _ _ ▸ (Option.some.injEq _ _ ▸ e1) : _ = _)
      exact (map_str_inj this).symm
    subst this
    rwa [kIdx_eq] at q
  · exact fun q => ⟨_, by rw [h, kindsL], by decide, kIdx_mem k, by rwa [kIdx_eq]⟩
theorem getDP_tab {con : Bool} {t : List (KA × Int)} {f : Int → Int} {d : Int} {a : Addr} {σ : Sto} (h : σ a = some (.dict (kaD (resT f t)))) (ht : ∀ p ∈ t, p.1.isKind con = true) {k : KA} (hk : k.isKind con = true) {Q : PV → Sto → Prop} : getDP [.ref a, kav k, .int (f d)] σ Q = Q (.int (f (tlook t k d))) σ := by
  have e : (dget (kaD (resT f t)) (kadk k)).getD (.int (f d)) = .int (f (tlook t k d)) := by
    rw [dget_ka, tlook, resT, List.find?_map]
    simp only [Function.comp_def]
    cases t.find? (fun p => decide (p.1 = k)) <;> rfl
  refine propext ⟨fun h' => ?_, fun q => ⟨_, h, _, toDK_kav k, kind_ka (resT_kind ht) hk, by rwa [e]⟩⟩
  obtain ⟨kvs, e1, x, e2, _, q⟩ := h'
  rw [h] at e1; cases e1
  rw [toDK_kav] at e2; cases e2
  rwa [e] at q
theorem CV.name {σ : Sto} {f : Int → Int} {r : Row} {v : PV} (h : CV σ f r v) {σ' : Sto} {Q : PV → Sto → Prop} : getP v (.int 0) σ' Q = Q (sv r.name) σ' := by
  cases h <;> exact seqP0
theorem s_goal : ∀ args σ Q, S_goal args σ Q → fnP ["row", "call"] d_law_goal args σ Q := by
  rintro args σ Q ⟨v, k, f, r, push, l, rfl, hv, ht, hj, h⟩
  refine ⟨rfl, ?_⟩
  simp only [d_law_goal, dSeq, dIf, dTest, dOp, dName, dVal, dRet, dEnd, dCons, dNil, dTup, bindEnv, PEnv.set_b, fnEnd_r, truP_b, String.reduceBEq, cond_true, cond_false, hv.name, eqP_row r so_st, inP_two (so_row r) so_sc so_ss, id]
  cases hv with
  | exec => cases hj
  | try_ =>
    simp only [Row.name, String.reduceEq, decide_false, Bool.or_false, if_false, String.reduceEq, Bool.false_eq_true, getP_t, seqP1]
    cases hj; exact ⟨sl2, h _ fun _ _ h => h⟩
  | retry =>
    simp only [Row.name, String.reduceEq, decide_false, Bool.or_false, if_false, String.reduceEq, Bool.false_eq_true, getP_t, seqP1]
    cases hj; exact ⟨sl2, h _ fun _ _ h => h⟩
  | trust =>
    simp only [Row.name, String.reduceEq, decide_false, Bool.or_false, if_false, String.reduceEq, Bool.false_eq_true, getP_t, seqP1]
    cases hj; exact ⟨sl2, h _ fun _ _ h => h⟩
  | @sterm sv_ sc sl_ ss =>
    simp only [Row.name, decide_true, if_true, String.reduceEq]
    cases hj
    refine ⟨sl4, fun a ha => ?_⟩
    refine ⟨⟨_, Sto.set_same ..⟩, ?_⟩
    simp only [dOp, dName, dVal, PEnv.set_get, String.reduceEq, if_true, if_false]
    rw [getP_kv0]
    rw [idxP_kinds k (Sto.set_same ..)]
    have g : ∀ {σ' : Sto} {Q : PV → Sto → Prop}, getP (.tup [sv "switch_on_term", .int (f sv_), .int (f sc), .int (f sl_), .int (f ss)]) (.int ((kIdx k : Nat) + 1)) σ' Q = Q (.int (f (selK k sv_ sc sl_ ss))) σ' := by
      intro σ' Q
      cases k with
      | var => exact seqP1
      | const => exact seqP2
      | list => exact seqP3
      | struct => exact seqP4
    rw [addP_i, g]
    exact h _ fun x o e => Sto.get_new ha e
  | @stab con t d a e =>
    replace hj : (if k.isKind con = true then some (false, tlook t k.arg d) else none) = some (push, l) := hj
    by_cases hk : k.isKind con = true
    · rw [if_pos hk, Option.some.injEq, Prod.mk.injEq] at hj
      obtain ⟨_, rfl⟩ := hj
      have g1 : ∀ {σ' : Sto} {Q : PV → Sto → Prop}, getP (.tup [sv (Row.stab con t d).name, .ref a, .int (f d)]) (.int 1) σ' Q = Q (.ref a) σ' := seqP1
      have g2 : ∀ {σ' : Sto} {Q : PV → Sto → Prop}, getP (.tup [sv (Row.stab con t d).name, .ref a, .int (f d)]) (.int 2) σ' Q = Q (.int (f d)) σ' := seqP2
      have n1 : decide ((Row.stab con t d).name = "switch_on_term") = false := by cases con <;> rfl
      have n2 : (decide ((Row.stab con t d).name = "switch_on_constant") || decide ((Row.stab con t d).name = "switch_on_structure")) = true := by cases con <;> rfl
      simp only [n1, n2, dOp, dName, dVal, dCons, dNil, PEnv.set_b, if_true, if_false, Bool.false_eq_true, String.reduceBEq, cond_true, cond_false, g1, g2, dGet]
      refine ⟨sl2, ⟨_, e⟩, ?_⟩
      rw [getP_kv1 hk]
      rw [getDP_tab e ht (Key.arg_kind hk)]
      exact h _ fun _ _ h => h
    · rw [if_neg hk] at hj; cases hj
end Mine
namespace Mine
open PySem PySem.W PySem.Calls PyProof.Rows PySem.Spec
noncomputable def Ends (code : List Row) (low pc : Int) (e : List Int) : Prop := (pc = 2 ∧ e = []) ∨ (pc ≠ 2 ∧ ∃ (i : Nat) (p : Int), pc = low + i ∧ code[i]? = some (.exec p) ∧ e = [p])
noncomputable def Upd (wide : Int) : Row → Int → List Int → List Int → Prop
  | .try_ _ w, pc, s, s' => w = wide ∧ s' = s ++ [pc + 1]
  | .retry _, pc, s, s' => ∃ t x, s = t ++ [x] ∧ s' = t ++ [pc + 1]
  | .trust _, _, s, s' => ∃ x, s = s' ++ [x]
  | .sterm _ _ _ _, _, s, s' => s' = s
  | .stab _ _ _, _, s, s' => s' = s
  | _, _, _, _ => False
noncomputable def mx (a b : Int) : Int := if b > a then b else a
inductive MR (code : List Row) (f : Int → Int) (low wide : Int) (k : Key) : Nat → Int → List Int → List Int → Int → List Int × Int → Prop
  | stop {n pc met most e} : Ends code low pc e → met.length ≤ 500 → MR code f low wide k (n + 1) pc [] met most (met ++ e, most)
  | back {n pc met most e s a r} : Ends code low pc e → met.length ≤ 500 → s.length ≤ 500 → MR code f low wide k n a (s ++ [a]) (met ++ e) most r → MR code f low wide k (n + 1) pc (s ++ [a]) met most r
  | jump {n pc i row push l s s' met most r} : pc ≠ 2 → pc = low + (i : Nat) → code[i]? = some row → jumpOf k row = some (push, l) → Upd wide row pc s s' → s.length ≤ 500 → MR code f low wide k n (f l) s' met (mx most s'.length) r → MR code f low wide k (n + 1) pc s met most r
noncomputable def CVR (σ : Sto) (f : Int → Int) (rows : List Row) (vs : List PV) : Prop := ∀ (i : Nat) row, rows[i]? = some row → ∃ v, vs[i]? = some v ∧ CV σ f row v ∧ row.tabKind
theorem CV.keep {σ σ' : Sto} {f : Int → Int} {r : Row} {v : PV} (h : CV σ f r v) (k : ∀ x o, σ x = some o → σ' x = some o) : CV σ' f r v := by
  cases h with
  | stab e => exact .stab (k _ _ e)
  | try_ => exact .try_
  | retry => exact .retry
  | trust => exact .trust
  | sterm => exact .sterm
  | exec => exact .exec
noncomputable def d_met_out : SWP :=
 (dSeq (dIf (dTest (dOp (eqP id) (dName "saved") (dList dNil))) (dSeq (dRet (dTup (dCons (dName "met") (dCons (dName "most") dNil))))
 dEnd) dEnd)
 (dSeq (dAssign "at" (dOp getP (dName "saved") (dNeg (dVal (.int 1)))))
 (dSeq dCont
 dEnd)))
noncomputable def d_met_fin (F_law_goal : FWP) : SWP :=
 (dSeq (dAssign "most" (dCall maxP (dCons (dName "most") (dCons (dCall lenP (dCons (dName "saved") dNil)) dNil))))
 (dSeq (dAssign "at" (dCall F_law_goal (dCons (dName "row") (dCons (dName "call") dNil))))
 dEnd))
noncomputable def d_met_rest (F_law_goal : FWP) : SWP :=
 (dSeq (dIf (dTest (dOp (eqP id) (dOp getP (dName "row") (dVal (.int 0))) (dVal (.str (Str.ofString "try"))))) (dSeq (dIf (dTest (dOp (eqP not) (dOp getP (dName "row") (dVal (.int 2))) (dName "wide"))) (dSeq (dRet (dVal .none))
 dEnd) dEnd)
 (dSeq (dExpr (dAppend (dName "saved") (dOp addP (dName "at") (dVal (.int 1)))))
 dEnd)) (dSeq (dIf (dTest (dOp (eqP id) (dOp getP (dName "row") (dVal (.int 0))) (dVal (.str (Str.ofString "retry"))))) (dSeq (dSetItem (dName "saved") (dNeg (dVal (.int 1))) (dOp addP (dName "at") (dVal (.int 1))))
 dEnd) (dSeq (dIf (dTest (dOp (eqP id) (dOp getP (dName "row") (dVal (.int 0))) (dVal (.str (Str.ofString "trust"))))) (dSeq (dExpr (dPop (dName "saved")))
 dEnd) (dSeq (dIf (dNotT (dTest (dStarts (dOp getP (dName "row") (dVal (.int 0))) (dVal (.str (Str.ofString "switch_on_")))))) (dSeq (dRet (dVal .none))
 dEnd) dEnd)
 dEnd))
 dEnd))
 dEnd))
 (d_met_fin F_law_goal))
noncomputable def d_met_two (F_law_goal : FWP) : SWP :=
 (dSeq (dIf (dTest (dOp (inP id) (dOp getP (dName "row") (dVal (.int 0))) (dTup (dCons (dVal (.str (Str.ofString "execute"))) (dCons (dVal (.str (Str.ofString "fail"))) dNil))))) (dSeq (dIf (dTest (dOp (eqP id) (dOp getP (dName "row") (dVal (.int 0))) (dVal (.str (Str.ofString "execute"))))) (dSeq (dExpr (dAppend (dName "met") (dOp getP (dName "row") (dVal (.int 1)))))
 dEnd) dEnd)
 d_met_out) dEnd)
 (d_met_rest F_law_goal))
noncomputable def d_met_body (F_law_goal : FWP) : SWP :=
 (dSeq (dAssign "row" (dIte (dTest (dOp (eqP not) (dName "at") (dVal (.int 2)))) (dOp getP (dName "code") (dOp subP (dName "at") (dName "low"))) (dTup (dCons (dVal (.str (Str.ofString "fail"))) dNil))))
 (d_met_two F_law_goal))
theorem d_met_eq (F_law_goal : FWP) : d_law_met F_law_goal =
 (dSeq (dAssign "met" (dList dNil))
 (dSeq (dAssign "saved" (dList dNil))
 (dSeq (dAssign "most" (dVal (.int 0)))
 (dSeq (dAssign "at" (dName "low"))
 (dSeq (dForR "turn" (dCons (dVal (.int 150)) dNil) (d_met_body F_law_goal))
 (dSeq (dRet (dVal .none))
 dEnd)))))) := rfl
structure MI (σ : Sto) (ca ma sa : Addr) (low wide : Int) (k : Key) (pc : Int) (saved met : List Int) (most : Int) (ρ : PEnv) (σ' : Sto) : Prop where
  e1 : ρ "code" = some (.ref ca)
  e2 : ρ "low" = some (.int low)
  e3 : ρ "wide" = some (.int wide)
  e4 : ρ "call" = some (kv k)
  e5 : ρ "met" = some (.ref ma)
  e6 : ρ "saved" = some (.ref sa)
  e7 : ρ "most" = some (.int most)
  e8 : ρ "at" = some (.int pc)
  old : ∀ x o, σ x = some o → σ' x = some o
  hm : σ' ma = some (.list (il met))
  hs : σ' sa = some (.list (il saved))
section
variable {σ : Sto} {ca ma sa : Addr} {low wide : Int} {k : Key} {pc : Int} {saved met : List Int} {most : Int} {ρ : PEnv} {σ' : Sto}
theorem MI.mono {σ'' : Sto} (I : MI σ ca ma sa low wide k pc saved met most ρ σ') (h : ∀ x o, σ' x = some o → σ'' x = some o) : MI σ ca ma sa low wide k pc saved met most ρ σ'' :=
  ⟨I.e1, I.e2, I.e3, I.e4, I.e5, I.e6, I.e7, I.e8, fun x o e => h _ _ (I.old x o e), h _ _ I.hm, h _ _ I.hs⟩
theorem MI.setM (I : MI σ ca ma sa low wide k pc saved met most ρ σ') (m0 : σ ma = none) (ms : ma ≠ sa) (m : List Int) : MI σ ca ma sa low wide k pc saved m most ρ (σ'.set ma (.list (il m))) :=
  ⟨I.e1, I.e2, I.e3, I.e4, I.e5, I.e6, I.e7, I.e8, fun x o e => by
    have : x ≠ ma := by rintro rfl; rw [m0] at e; cases e
    rw [Sto.set_ne _ _ this]; exact I.old x o e, Sto.set_same .., by rw [Sto.set_ne _ _ ms.symm]; exact I.hs⟩
theorem MI.setS (I : MI σ ca ma sa low wide k pc saved met most ρ σ') (s0 : σ sa = none) (ms : ma ≠ sa) (m : List Int) : MI σ ca ma sa low wide k pc m met most ρ (σ'.set sa (.list (il m))) :=
  ⟨I.e1, I.e2, I.e3, I.e4, I.e5, I.e6, I.e7, I.e8, fun x o e => by
    have : x ≠ sa := by rintro rfl; rw [s0] at e; cases e
    rw [Sto.set_ne _ _ this]; exact I.old x o e, by rw [Sto.set_ne _ _ ms]; exact I.hm, Sto.set_same ..⟩
theorem MI.env {ρ' : PEnv} (I : MI σ ca ma sa low wide k pc saved met most ρ σ') (h : ∀ y, y ≠ "row" → y ≠ "turn" → ρ' y = ρ y) : MI σ ca ma sa low wide k pc saved met most ρ' σ' :=
  ⟨(h _ (by decide) (by decide)).trans I.e1, (h _ (by decide) (by decide)).trans I.e2, (h _ (by decide) (by decide)).trans I.e3, (h _ (by decide) (by decide)).trans I.e4, (h _ (by decide) (by decide)).trans I.e5, (h _ (by decide) (by decide)).trans I.e6, (h _ (by decide) (by decide)).trans I.e7, (h _ (by decide) (by decide)).trans I.e8, I.old, I.hm, I.hs⟩
theorem MI.setAt {q : Int} (I : MI σ ca ma sa low wide k pc saved met most ρ σ') : MI σ ca ma sa low wide k q saved met most (ρ.set "at" (.int q)) σ' :=
  ⟨I.e1, I.e2, I.e3, I.e4, I.e5, I.e6, I.e7, rfl, I.old, I.hm, I.hs⟩
theorem MI.setMost {q : Int} (I : MI σ ca ma sa low wide k pc saved met most ρ σ') : MI σ ca ma sa low wide k pc saved met q (ρ.set "most" (.int q)) σ' :=
  ⟨I.e1, I.e2, I.e3, I.e4, I.e5, I.e6, rfl, I.e8, I.old, I.hm, I.hs⟩
end
theorem getP_last {σ : Sto} {a : Addr} {s : List Int} {x : Int} (h : σ a = some (.list (il (s ++ [x])))) (hb : s.length ≤ 500) {Q : PV → Sto → Prop} : getP (.ref a) (.int (-1)) σ Q = Q (.int x) σ := by
  have e1 : seqIndex? (-1) (il (s ++ [x])).length = some s.length := by
    rw [seqIndex_neg (by omega) (by simp <;> omega)]
    congr 1; simp <;> omega
  have e2 : (il (s ++ [x]))[s.length]? = some (.int x) := by simp
  rw [getP_l h]
  apply propext
  constructor
  · rintro ⟨_, _, v, hv, q⟩
    rw [e1, Option.bind_some, e2] at hv; cases hv; exact q
  · exact fun q => ⟨by omega, by omega, _, by rw [e1, Option.bind_some, e2], q⟩
theorem setP_last {σ : Sto} {a : Addr} {s : List Int} {x y : Int} (h : σ a = some (.list (il (s ++ [x])))) (hb : s.length ≤ 500) {Q : Sto → Prop} : setP (.ref a) (.int (-1)) (.int y) σ Q = Q (σ.set a (.list (il (s ++ [y])))) := by
  have e1 : seqIndex? (-1) (il (s ++ [x])).length = some s.length := by
    rw [seqIndex_neg (by omega) (by simp <;> omega)]
    congr 1; simp <;> omega
  have e2 : (il (s ++ [x])).set s.length (.int y) = il (s ++ [y]) := by simp
  simp only [setP, h]
  apply propext
  constructor
  · rintro ⟨_, _, j, hj, q⟩
    rw [e1] at hj; cases hj; rwa [e2] at q
  · exact fun q => ⟨by omega, by omega, _, e1, by rwa [e2]⟩
theorem getP_fail {σ : Sto} {Q : PV → Sto → Prop} : getP (.tup [.str (Str.ofString "fail")]) (.int 0) σ Q = Q (.str (Str.ofString "fail")) σ := seqP0
section
variable {σ : Sto} {ca ma sa : Addr} {low wide : Int} {k : Key} {pc : Int} {saved met : List Int} {most : Int} {ρ : PEnv} {σ' : Sto} {K : PFlow → PEnv → Sto → Prop}
theorem met_out (m0 : σ ma = none) (s0 : σ sa = none) (ms : ma ≠ sa) (I : MI σ ca ma sa low wide k pc saved met most ρ σ') (hl : saved.length ≤ 501)
    (h1 : saved = [] → ∀ ρ' σ'', MI σ ca ma sa low wide k pc saved met most ρ' σ'' → K (.ret (.tup [.ref ma, .int most])) ρ' σ'')
    (h2 : ∀ s a, saved = s ++ [a] → ∀ ρ' σ'', MI σ ca ma sa low wide k a saved met most ρ' σ'' → K .cont ρ' σ'') : d_met_out ρ σ' K := by
  simp only [d_met_out, dSeq, dIf, dTest, dOp, dName, dVal, dRet, dEnd, dAssign, dCons, dNil, dTup, dList, dNeg, negP_i, I.e6, dCont]
  refine ⟨sl0, fun b hb => ?_⟩
  have I1 := I.mono (fun x o e => Sto.get_new (o := .list []) hb e)
  have hb1 : (σ'.set b (.list [])) b = some (.list (il [])) := Sto.set_same ..
  dsimp only
  rw [eqP_lists I1.hs hb1]
  simp only [truP_b, id, I.e5, I.e7]
  rcases List.eq_nil_or_concat saved with rfl | ⟨s, a, rfl⟩
  · simp only [decide_true, if_true]
    exact ⟨sl2, h1 rfl _ _ I1⟩
  · have hne : ¬ (s.concat a = []) := by simp
    have hs := I1.hs
    rw [List.concat_eq_append] at hs
    simp only [hne, decide_false, if_false, Bool.false_eq_true]
    rw [getP_last hs (by simp at hl; omega)]
    exact h2 s a (by simp) _ _ I1.setAt
theorem row_in {v : PV} {nm a b : String} {ρ : PEnv} {σ : Sto} (r1 : ρ "row" = some v) (hn : ∀ {σ : Sto} {Q : PV → Sto → Prop}, getP v (.int 0) σ Q = Q (sv nm) σ) (hx : PyData.strOk (Str.ofString nm) = true) (ha : PyData.strOk (Str.ofString a) = true) (hb : PyData.strOk (Str.ofString b) = true) (Q : Bool → Sto → Prop) : dTest (dOp (inP id) (dOp getP (dName "row") (dVal (.int 0))) (dTup (dCons (dVal (.str (Str.ofString a))) (dCons (dVal (.str (Str.ofString b))) dNil)))) ρ σ Q = Q (decide (nm = a) || decide (nm = b)) σ := by
  rw [dTest, dOp, dOp, name_at r1, dVal, hn, dTup, dCons, dVal, dCons, dVal, dNil]
  simp only [List.length_cons, List.length_nil, Nat.reduceAdd, sl2, true_and]
  rw [inP_two hx ha hb]; rfl
theorem row_eq {v : PV} {nm a : String} {ρ : PEnv} {σ : Sto} (r1 : ρ "row" = some v) (hn : ∀ {σ : Sto} {Q : PV → Sto → Prop}, getP v (.int 0) σ Q = Q (sv nm) σ) (hx : PyData.strOk (Str.ofString nm) = true) (ha : PyData.strOk (Str.ofString a) = true) (Q : Bool → Sto → Prop) : dTest (dOp (eqP id) (dOp getP (dName "row") (dVal (.int 0))) (dVal (.str (Str.ofString a)))) ρ σ Q = Q (decide (nm = a)) σ := by
  rw [dTest, dOp, dOp, name_at r1, dVal, hn, dVal, eqP_str hx ha]; rfl
theorem met_row {code : List Row} {vs : List PV} {i : Nat} {v : PV} (hca : σ ca = some (.list vs)) (I : MI σ ca ma sa low wide k pc saved met most ρ σ') (hp : pc ≠ 2) (hpc : pc = low + (i : Nat)) (hv : vs[i]? = some v) (hi : i < 1000) : d_met_body S_goal ρ σ' K = d_met_two S_goal (ρ.set "row" v) σ' K := by
  have e : pc - low = (i : Int) := by omega
  rw [d_met_body, seq_assign, dIte, dTest, dOp, name_at I.e8, dVal, eqP_int, decide_eq_false hp, truP_b, Bool.not_false, if_pos rfl, dOp, name_at I.e1, dOp, name_at I.e8, name_at I.e2, subP_i, e, getP_list (I.old _ _ hca) hv (by omega)]
theorem met_end {f : Int → Int} {code : List Row} {vs : List PV} {e : List Int} (hca : σ ca = some (.list vs)) (hv : CVR σ f code vs) (hb : code.length ≤ 1000) (m0 : σ ma = none) (s0 : σ sa = none) (ms : ma ≠ sa) (I : MI σ ca ma sa low wide k pc saved met most ρ σ') (he : Ends code low pc e) (hm : met.length ≤ 500) (hl : saved.length ≤ 501)
    (h1 : saved = [] → ∀ ρ' σ'', MI σ ca ma sa low wide k pc saved (met ++ e) most ρ' σ'' → K (.ret (.tup [.ref ma, .int most])) ρ' σ'')
    (h2 : ∀ s a, saved = s ++ [a] → ∀ ρ' σ'', MI σ ca ma sa low wide k a saved (met ++ e) most ρ' σ'' → K .cont ρ' σ'') : d_met_body S_goal ρ σ' K := by
  rcases he with ⟨rfl, rfl⟩ | ⟨hp, i, p, rfl, hi, rfl⟩
  · rw [List.append_nil] at h1 h2
    rw [d_met_body, seq_assign, dIte, dTest, dOp, name_at I.e8, dVal, eqP_int, decide_eq_true rfl, truP_b, Bool.not_true, if_neg Bool.false_ne_true, dTup, dCons, dVal, dNil]
    refine ⟨sl1, ?_⟩
    have I1 := I.env (ρ' := ρ.set "row" (.tup [.str (Str.ofString "fail")])) fun y h1 h2 => PEnv.set_ne _ _ h1
    have r1 : (ρ.set "row" (.tup [.str (Str.ofString "fail")])) "row" = some (.tup [.str (Str.ofString "fail")]) := rfl
    generalize ρ.set "row" (.tup [.str (Str.ofString "fail")]) = ρ₁ at *
    rw [d_met_two, dSeq, dIf, row_in (nm := "fail") r1 getP_fail so_fail so_exec so_fail, if_pos (by decide), seq_no (row_eq (nm := "fail") r1 getP_fail so_fail so_exec)]
    exact met_out m0 s0 ms I1 hl h1 h2
  · obtain ⟨v, hv1, hv2, _⟩ := hv i _ hi
    have lt : i < code.length := (List.getElem?_eq_some_iff.mp hi).1
    rw [met_row (code := code) hca I hp rfl hv1 (by omega)]
    have I1 := I.env (ρ' := ρ.set "row" v) fun y h1 h2 => PEnv.set_ne _ _ h1
    have r1 : (ρ.set "row" v) "row" = some v := rfl
    generalize ρ.set "row" v = ρ₁ at *
    rw [d_met_two, dSeq, dIf, row_in (nm := "execute") r1 (hv2.name) so_exec so_exec so_fail, if_pos (by decide), seq_yes (row_eq (nm := "execute") r1 (hv2.name) so_exec so_exec), seq_end, seq_expr, dAppend, name_at I1.e5]
    refine ⟨isListI I1.hm, ?_⟩
    have g : ∀ {Q : PV → Sto → Prop}, getP v (.int 1) σ' Q = Q (.int p) σ' := by intro Q; cases hv2; exact seqP1
    rw [dOp, name_at r1, dVal, g, appI I1.hm (by omega)]
    exact met_out m0 s0 ms (I1.setM m0 ms _) hl h1 h2
theorem met_fin {f : Int → Int} {row : Row} {v : PV} {push : Bool} {l : Int} (I : MI σ ca ma sa low wide k pc saved met most ρ σ') (hr : ρ "row" = some v) (hv : CV σ f row v) (ht : row.tabKind) (hj : jumpOf k row = some (push, l)) (hl : saved.length ≤ 501)
    (h : ∀ ρ' σ'', MI σ ca ma sa low wide k (f l) saved met (mx most saved.length) ρ' σ'' → K .next ρ' σ'') : d_met_fin S_goal ρ σ' K := by
  have e1 := lenP_list (Q := fun v σ => maxP [.int most, v] σ fun v σ => dSeq (dAssign "at" (dCall S_goal (dCons (dName "row") (dCons (dName "call") dNil)))) dEnd (ρ.set "most" v) σ K) I.hs (by simp; omega)
  simp only [List.length_map] at e1
  simp only [d_met_fin, dSeq, dName, dEnd, dAssign, dCall, dCons, dNil, PEnv.set_b, String.reduceBEq, cond_false, I.e7, I.e6]
  simp only [dSeq, dName, dEnd, dAssign, dCall, dCons, dNil, PEnv.set_b, String.reduceBEq, cond_false] at e1
  rw [e1]
  simp only [maxP_i, hr, I.e4]
  refine ⟨v, k, f, row, push, l, rfl, hv.keep I.old, ht, hj, fun σ'' k2 => ?_⟩
  have I2 := ((I.mono k2).setMost (q := mx most saved.length)).setAt (q := f l)
  exact h _ _ I2
theorem sw_t : Txt.startswith (Str.ofString "switch_on_term") (Str.ofString "switch_on_") = true := by kernel_rfl
theorem sw_c : Txt.startswith (Str.ofString "switch_on_constant") (Str.ofString "switch_on_") = true := by kernel_rfl
theorem sw_s : Txt.startswith (Str.ofString "switch_on_structure") (Str.ofString "switch_on_") = true := by kernel_rfl
theorem met_jump {f : Int → Int} {code : List Row} {vs : List PV} {i : Nat} {row : Row} {push : Bool} {l : Int} {saved' : List Int} (hca : σ ca = some (.list vs)) (hv : CVR σ f code vs) (hb : code.length ≤ 1000) (m0 : σ ma = none) (s0 : σ sa = none) (ms : ma ≠ sa) (I : MI σ ca ma sa low wide k pc saved met most ρ σ') (hp : pc ≠ 2) (hpc : pc = low + (i : Nat)) (hi : code[i]? = some row) (hj : jumpOf k row = some (push, l)) (hu : Upd wide row pc saved saved') (hl : saved.length ≤ 500)
    (h : ∀ ρ' σ'', MI σ ca ma sa low wide k (f l) saved' met (mx most saved'.length) ρ' σ'' → K .next ρ' σ'') : d_met_body S_goal ρ σ' K := by
  obtain ⟨v, hv1, hv2, ht⟩ := hv i _ hi
  have lt : i < code.length := (List.getElem?_eq_some_iff.mp hi).1
  have n0 : (decide (row.name = "execute") || decide (row.name = "fail")) = false := by
    cases row with
    | exec => cases hj
    | stab con t d => cases con <;> rfl
    | _ => rfl
  rw [met_row (code := code) hca I hp hpc hv1 (by omega)]
  have I1 := I.env (ρ' := ρ.set "row" v) fun y h1 h2 => PEnv.set_ne _ _ h1
  have r1 : (ρ.set "row" v) "row" = some v := rfl
  generalize ρ.set "row" v = ρ₁ at I1 r1 ⊢
  rw [d_met_two, seq_no (fun Q => by rw [row_in r1 (hv2.name) (so_row row) so_exec so_fail, n0]), d_met_rest, dSeq, dIf]
  cases row with
  | label _ => cases hj
  | exec _ => cases hj
  | try_ l' w' =>
    obtain ⟨rfl, rfl⟩ := hu
    have hl2 : (saved ++ [pc + 1]).length ≤ 501 := by rw [List.length_append, List.length_singleton]; omega
    have g : ∀ {Q : PV → Sto → Prop}, getP v (.int 2) σ' Q = Q (.int w') σ' := by intro Q; cases hv2; exact seqP2
    rw [row_eq (nm := "try") r1 (hv2.name) so_try so_try, if_pos (by decide), seq_no (fun Q => by rw [dTest, dOp, dOp, name_at r1, dVal, g, name_at I1.e3, eqP_int, decide_eq_true rfl, truP_b]; rfl), seq_expr, dAppend, name_at I1.e6]
    refine ⟨isListI I1.hs, ?_⟩
    rw [dOp, name_at I1.e8, dVal, addP_i, appI I1.hs (by omega)]
    exact met_fin (I1.setS s0 ms _) r1 hv2 ht hj hl2 h
  | retry l' =>
    obtain ⟨t, x, rfl, rfl⟩ := hu
    have hl2 : (t ++ [pc + 1]).length ≤ 501 := by rw [List.length_append, List.length_singleton] at hl ⊢; omega
    rw [row_eq (nm := "retry") r1 (hv2.name) so_retry so_try, if_neg (by decide), seq_end, dIf, row_eq (nm := "retry") r1 (hv2.name) so_retry so_retry, if_pos (by decide), seq_end, dSetItem, dOp, name_at I1.e8, dVal, addP_i, name_at I1.e6, dNeg, dVal, negP_i, setP_last I1.hs (by rw [List.length_append] at hl; omega)]
    exact met_fin (I1.setS s0 ms _) r1 hv2 ht hj hl2 h
  | trust l' =>
    obtain ⟨x, rfl⟩ := hu
    have hl2 : saved'.length ≤ 501 := by rw [List.length_append] at hl; omega
    rw [row_eq (nm := "trust") r1 (hv2.name) so_trust so_try, if_neg (by decide), seq_end, dIf, row_eq (nm := "trust") r1 (hv2.name) so_trust so_retry, if_neg (by decide), seq_end, dIf, row_eq (nm := "trust") r1 (hv2.name) so_trust so_trust, if_pos (by decide), seq_end, dExpr, dPop, name_at I1.e6, popP_at I1.hs (by rw [List.length_append] at hl; omega)]
    exact met_fin (I1.setS s0 ms _) r1 hv2 ht hj hl2 h
  | sterm v' c' l' s' =>
    cases hu
    rw [row_eq (nm := "switch_on_term") r1 (hv2.name) so_st so_try, if_neg (by decide), seq_end, dIf, row_eq (nm := "switch_on_term") r1 (hv2.name) so_st so_retry, if_neg (by decide), seq_end, dIf, row_eq (nm := "switch_on_term") r1 (hv2.name) so_st so_trust, if_neg (by decide), seq_end, dIf, dNotT, dTest, dStarts, dOp, name_at r1, dVal, hv2.name]
    refine ⟨trivial, ?_⟩
    rw [dVal, swP_s, Row.name, sw_t]
    exact met_fin I1 r1 hv2 ht hj (by omega) h
  | stab con t d =>
    cases hu
    have n1 : ¬ (decide ((Row.stab con t d).name = "try") = true) := by cases con <;> simp [Row.name]
    have n2 : ¬ (decide ((Row.stab con t d).name = "retry") = true) := by cases con <;> simp [Row.name]
    have n3 : ¬ (decide ((Row.stab con t d).name = "trust") = true) := by cases con <;> simp [Row.name]
    have n4 : Txt.startswith (Str.ofString (Row.stab con t d).name) (Str.ofString "switch_on_") = true := by cases con; exact sw_s; exact sw_c
    rw [row_eq r1 (hv2.name) (so_row _) so_try, if_neg n1, seq_end, dIf, row_eq r1 (hv2.name) (so_row _) so_retry, if_neg n2, seq_end, dIf, row_eq r1 (hv2.name) (so_row _) so_trust, if_neg n3, seq_end, dIf, dNotT, dTest, dStarts, dOp, name_at r1, dVal, hv2.name]
    refine ⟨trivial, ?_⟩
    rw [dVal, swP_s, n4]
    exact met_fin I1 r1 hv2 ht hj (by omega) h
theorem met_for {f : Int → Int} {code : List Row} {vs : List PV} {n : Nat} {r : List Int × Int} (hca : σ ca = some (.list vs)) (hv : CVR σ f code vs) (hb : code.length ≤ 1000) (m0 : σ ma = none) (s0 : σ sa = none) (ms : ma ≠ sa) (hr : MR code f low wide k n pc saved met most r) :
    ∀ (items : List PV) (ρ : PEnv) (σ' : Sto), n ≤ items.length → MI σ ca ma sa low wide k pc saved met most ρ σ' → (∀ σ'' ρ', (∀ x o, σ x = some o → σ'' x = some o) → σ'' ma = some (.list (il r.1)) → K (.ret (.tup [.ref ma, .int r.2])) ρ' σ'') → forL "turn" (d_met_body S_goal) items ρ σ' K := by
  induction hr with
  | stop he hm =>
    intro items ρ σ' hn I h
    cases items with
    | nil => simp at hn
    | cons x items =>
      unfold forL
      refine met_end hca hv hb m0 s0 ms (I.env fun y h1 h2 => PEnv.set_ne _ _ h2) he hm (by simp) (fun _ ρ' σ'' I' => h _ _ I'.old I'.hm) fun s a e => by simp at e
  | back he hm hl _ ih =>
    intro items ρ σ' hn I h
    cases items with
    | nil => simp at hn
    | cons x items =>
      unfold forL
      refine met_end hca hv hb m0 s0 ms (I.env fun y h1 h2 => PEnv.set_ne _ _ h2) he hm (by simp; omega) (fun e => by simp at e) fun s a e ρ' σ'' I' => ?_
      obtain ⟨rfl, e2⟩ := List.append_inj' e rfl
      cases e2
      exact ih items ρ' σ'' (by simpa using hn) I' h
  | jump hp hpc hi hj hu hl _ ih =>
    intro items ρ σ' hn I h
    cases items with
    | nil => simp at hn
    | cons x items =>
      unfold forL
      exact met_jump hca hv hb m0 s0 ms (I.env fun y h1 h2 => PEnv.set_ne _ _ h2) hp hpc hi hj hu hl fun ρ' σ'' I' => ih items ρ' σ'' (by simpa using hn) I' h
end
inductive S_met (args : List PV) (σ : Sto) (Q : PV → Sto → Prop) : Prop
  | mk : ∀ ca low wide k code vs f r, (args = [.ref ca, .int low, .int wide, kv k]) → (σ ca = some (.list vs)) → (CVR σ f code vs) → (code.length ≤ 1000) → (MR code f low wide k 150 low [] [] 0 r) → (∀ ma σ', (∀ x o, σ x = some o → σ' x = some o) → σ' ma = some (.list (il r.1)) → Q (.tup [.ref ma, .int r.2]) σ') → S_met args σ Q
theorem s_met : ∀ args σ Q, S_met args σ Q → fnP ["code", "low", "wide", "call"] (d_law_met S_goal) args σ Q := by
  rintro args σ Q ⟨ca, low, wide, k, code, vs, f, r, rfl, hca, hv, hb, hr, h⟩
  refine ⟨rfl, ?_⟩
  rw [d_met_eq]
  simp only [dSeq, dName, dVal, dRet, dAssign, dCons, dNil, dList, dForR, bindEnv, PEnv.set_b, fnEnd_r, String.reduceBEq, cond_true, cond_false]
  refine ⟨sl0, fun ma hma => ?_⟩
  dsimp only
  refine ⟨sl0, fun sa hsa => ?_⟩
  have sm : sa ≠ ma := by rintro rfl; rw [Sto.set_same] at hsa; cases hsa
  have s0 : σ sa = none := by rwa [Sto.set_ne _ _ sm] at hsa
  dsimp only
  rw [rngL1 (by decide) (by decide)]
  refine met_for hca hv hb hma s0 sm.symm hr _ _ _ (by rw [rangeL_length]; decide) ⟨rfl, rfl, rfl, rfl, rfl, rfl, rfl, rfl, fun x o e => ?_, ?_, ?_⟩ fun σ'' ρ' k1 k2 => h _ _ k1 k2
  · exact Sto.get_new hsa (Sto.get_new hma e)
  · rw [Sto.set_ne _ _ sm.symm, Sto.set_same]; rfl
  · rw [Sto.set_same]; rfl
end Mine
namespace Mine
open PySem PySem.W PySem.Calls PyProof.Rows PySem.Spec
noncomputable def d_b6 : SWP :=
 (dSeq (dExpr (dAppend (dName "codes") (dCall (newP 178 S_ClauseCode) (dCons (dVal (.int 6)) (dCons (dOp getP (dName "keys") (dName "place")) (dCons (dList (dCons (dTup (dCons (dVal (.str (Str.ofString "execute"))) (dCons (dName "place") dNil))) dNil)) (dCons (dName "wide") dNil)))))))
 dEnd)
noncomputable def d_b8 : SWP :=
 (dSeq (dAssign "bits" (dOp subP (dVal (.int 31)) (dCall S_draw (dCons (dName "figures") (dCons (dVal (.int 32)) dNil)))))
 (dSeq (dExpr (dAppend (dName "shares") (dComp "place" (dTest (dOp (eqP id) (dOp andP (dOp shrP (dName "bits") (dName "place")) (dVal (.int 1))) (dVal (.int 1)))) (dName "place") (dItR (dCons (dName "many") dNil)))))
 dEnd))
noncomputable def d_b11 : SWP :=
 (dSeq (dExpr (dAppend (dAttr 129 "rows" (dName "builder")) (dName "row")))
 dEnd)
noncomputable def d_b12 : SWP :=
 (dSeq (dExpr (dAppend (dAttr 129 "rows" (dName "builder")) (dTup (dCons (dVal (.str (Str.ofString "label"))) (dCons (dOp getP (dName "marks") (dName "turn")) dNil)))))
 (dSeq (dExpr (dMeth 129 "switch" S_switch (dName "builder") (dCons (dCall listP (dCons (dOp getP (dName "shares") (dName "turn")) dNil)) dNil)))
 dEnd))
noncomputable def d_b17 : SWP :=
 (dSeq (dIf (dTest (dOp (inP not) (dName "key") (dName "calls"))) (dSeq (dExpr (dAppend (dName "calls") (dName "key")))
 dEnd) dEnd)
 dEnd)
noncomputable def d_bfit : SWP :=
 (dSeq (dIf (dOrT (dTest (dOp (inP id) (dTup (dCons (dVal (.str (Str.ofString "var"))) dNil)) (dTup (dCons (dOp getP (dName "keys") (dName "place")) (dCons (dName "call") dNil))))) (dOrT (dTest (dOp (eqP id) (dOp getP (dName "keys") (dName "place")) (dName "call"))) dOrNil)) (dSeq (dExpr (dAppend (dName "fitting") (dName "place")))
 dEnd) dEnd)
 dEnd)
noncomputable def d_bturn : SWP :=
 (dSeq (dAssign "fitting" (dList dNil))
 (dSeq (dFor "place" (dOp getP (dName "shares") (dName "turn")) d_bfit)
 (dSeq (dAssign "due" (dOp addP (dName "due") (dName "fitting")))
 (dSeq (dIf (dAndT (dTest (dOp gtP (dCall lenP (dCons (dName "fitting") dNil)) (dVal (.int 1)))) (dAndT (dTest (dOp ltP (dOp addP (dName "turn") (dVal (.int 1))) (dCall lenP (dCons (dName "shares") dNil)))) dAndNil)) (dSeq (dAssign "most" (dVal (.int 2)))
 dEnd) dEnd)
 dEnd))))
noncomputable def d_cmp : SWP :=
 (dSeq (dIf (dAndT (dTest (dOp gtP (dName "many") (dVal (.int 1)))) (dAndT (dTest (dOp (eqP not) (dCall S_tried (dCons (dName "block") (dCons (dName "many") (dCons (dName "call") dNil)))) (dName "due"))) dAndNil)) (dSeq (dRet (dVal (.bool false)))
 dEnd) dEnd)
 (dSeq (dIf (dTest (dOp (eqP not) (dCall S_met (dCons (dName "code") (dCons (dName "low") (dCons (dName "wide") (dCons (dName "call") dNil))))) (dTup (dCons (dName "due") (dCons (dName "most") dNil))))) (dSeq (dRet (dVal (.bool false)))
 dEnd) dEnd)
 dEnd))
noncomputable def d_b18 : SWP :=
 (dSeq (dAssign "due" (dList dNil))
 (dSeq (dAssign "most" (dVal (.int 1)))
 (dSeq (dForR "turn" (dCons (dCall lenP (dCons (dName "shares") dNil)) dNil) d_bturn)
 d_cmp)))
noncomputable def d_t16 : SWP :=
 (dSeq (dAssign "calls" (dList (dCons (dTup (dCons (dVal (.str (Str.ofString "var"))) dNil)) (dCons (dTup (dCons (dVal (.str (Str.ofString "list"))) dNil)) (dCons (dTup (dCons (dVal (.str (Str.ofString "const"))) (dCons (dTup (dCons (dVal (.int (5))) (dCons (dOp powP (dVal (.int 10)) (dVal (.int 9))) dNil))) dNil))) (dCons (dTup (dCons (dVal (.str (Str.ofString "struct"))) (dCons (dVal (.int 50)) dNil))) dNil))))))
 (dSeq (dFor "key" (dName "keys") d_b17)
 (dSeq (dFor "call" (dName "calls") d_b18)
 (dSeq (dRet (dVal (.bool true)))
 dEnd))))
noncomputable def d_t13 : SWP :=
 (dSeq (dAssign "block" (dMeth 129 "finish" S_finish (dName "builder") dNil))
 (dSeq (dAssign "low" (dOp addP (dVal (.int 3)) (dCall S_draw (dCons (dName "figures") (dCons (dVal (.int 500)) dNil)))))
 (dSeq (dAssign "code" (dCall S_assemble (dCons (dName "block") (dCons (dName "low") dNil))))
 d_t16)))
noncomputable def d_t9 : SWP :=
 (dSeq (dAssign "builder" (dCall (newP 129 S_Builder) (dCons (dName "wide") (dCons (dName "codes") dNil))))
 (dSeq (dAssign "marks" (dComp "share" dAll (dMeth 129 "fresh_label" S_fresh (dName "builder") dNil) (dItL (dName "shares"))))
 (dSeq (dFor "row" (dMeth 129 "chain_rows" S_chain_rows (dName "builder") (dCons (dName "marks") dNil)) d_b11)
 (dSeq (dForR "turn" (dCons (dCall lenP (dCons (dName "shares") dNil)) dNil) d_b12)
 d_t13))))
noncomputable def d_t7 : SWP :=
 (dSeq (dAssign "shares" (dList dNil))
 (dSeq (dForR "turn" (dCons (dOp addP (dVal (.int 2)) (dCall S_draw (dCons (dName "figures") (dCons (dVal (.int 2)) dNil)))) dNil) d_b8)
 d_t9))
noncomputable def d_t4 : SWP :=
 (dSeq (dAssign "keys" (dComp "place" dAll (dCall S_key_drawn (dCons (dName "figures") dNil)) (dItR (dCons (dName "many") dNil))))
 (dSeq (dAssign "codes" (dList dNil))
 (dSeq (dForR "place" (dCons (dName "many") dNil) d_b6)
 d_t7)))
theorem d_law_eq : d_law S_met S_tried S_assemble S_draw S_finish S_switch S_chain_rows S_fresh S_Builder S_ClauseCode S_key_drawn S_figures =
 (dSeq (dAssign "figures" (dCall S_figures (dCons (dName "script") dNil)))
 (dSeq (dAssign "wide" (dOp addP (dVal (.int 1)) (dCall S_draw (dCons (dName "figures") (dCons (dVal (.int 2)) dNil)))))
 (dSeq (dAssign "many" (dOp getP (dList (dCons (dVal (.int 3)) (dCons (dVal (.int 2)) (dCons (dVal (.int 4)) (dCons (dVal (.int 5)) (dCons (dVal (.int 1)) dNil)))))) (dCall S_draw (dCons (dName "figures") (dCons (dVal (.int 5)) dNil)))))
 d_t4))) := rfl
end Mine
namespace Mine
open PySem PySem.W PySem.Calls PyProof.Rows PySem.Spec
noncomputable abbrev Le (σ σ' : Sto) : Prop := ∀ x o, σ x = some o → σ' x = some o
theorem Le.new {σ : Sto} {a : Addr} {o : AObj} (h : σ a = none) : Le σ (σ.set a o) := fun _ _ e => Sto.get_new h e
theorem Le.tr {σ σ₁ σ₂ : Sto} (x : Le σ σ₁) (y : Le σ₁ σ₂) : Le σ σ₂ := fun a o e => y a o (x a o e)
theorem Le.back {σ σ' : Sto} (h : Le σ σ') {a : Addr} (e : σ' a = .none) : σ a = .none := by
  cases q : σ a with
  | none => rfl
  | some o => rw [h _ _ q] at e; cases e
theorem Le.setNew {σ σ' : Sto} (h : Le σ σ') {a : Addr} (e : σ a = none) (o : AObj) : Le σ (σ'.set a o) := fun x p q => by
  have : x ≠ a := by rintro rfl; rw [e] at q; cases q
  rw [Sto.set_ne _ _ this]; exact h x p q
noncomputable def fit (keys : List Key) (k : Key) (ps : List Int) : List Int := ps.filter fun p => matchK (kAt keys p) k
noncomputable def dueOf (keys : List Key) (k : Key) (shares : List (List Int)) : List Int := shares.flatMap (fit keys k)
noncomputable def mostN (keys : List Key) (k : Key) (shares : List (List Int)) : Nat → Int
  | 0 => 1
  | i + 1 => if 1 < (fit keys k (shares.getD i [])).length ∧ i + 1 < shares.length then 2 else mostN keys k shares i
theorem deeps_kv (σ : Sto) : ∀ ks : List Key, deeps σ (ks.map kv) = some (ks.map kd)
  | [] => by simp [deeps]
  | k :: r => by simp only [List.map_cons, deeps, deep_kv, deeps_kv σ r, Option.bind_some, Option.map_some]
theorem shals_kv : ∀ ks : List Key, shals 8 (ks.map kv) = true
  | [] => by simp [shals]
  | k :: r => by simp only [List.map_cons, shals, shal_kv 6, shals_kv r, Bool.and_true]
theorem any_kd (k : Key) (ks : List Key) : ((ks.map kd).any fun y => PyData.eqv y (kd k)) = ks.any fun y => decide (y = k) := by
  simp only [List.any_map, Function.comp_def, eqv_kd]
theorem inP_keys {f : Bool → Bool} {k : Key} {ks : List Key} {a : Addr} {σ : Sto} (h : σ a = some (.list (ks.map kv))) {Q : PV → Sto → Prop} : inP f (kv k) (.ref a) σ Q = Q (.bool (f (ks.any fun y => decide (y = k)))) σ := by
  exact inP_any (by delta inP; dsimp only; rw [h]) (deep_kv _ _) (deeps_kv _ _) (shal_kv 6 k) (shals_kv ks) (any_kd k ks)
theorem inP_keys2 {f : Bool → Bool} {k : Key} {ks : List Key} {σ : Sto} {Q : PV → Sto → Prop} : inP f (kv k) (.tup (ks.map kv)) σ Q = Q (.bool (f (ks.any fun y => decide (y = k)))) σ := by
  exact inP_any rfl (deep_kv _ _) (deeps_kv _ _) (shal_kv 6 k) (shals_kv ks) (any_kd k ks)
theorem inP_var {f : Bool → Bool} {a b : Key} {σ : Sto} {Q : PV → Sto → Prop} : inP f (.tup [.str (Str.ofString "var")]) (.tup [kv a, kv b]) σ Q = Q (.bool (f (decide (a = .var) || decide (b = .var)))) σ := by
  have := inP_keys2 (f := f) (k := .var) (ks := [a, b]) (σ := σ) (Q := Q)
  simp only [List.map_cons, List.map_nil, List.any_cons, List.any_nil, Bool.or_false] at this
  exact this
theorem eqv_ints : ∀ xs : List Int, PyData.eqvAll (xs.map .int) (xs.map .int) = true
  | [] => by simp [PyData.eqvAll]
  | x :: r => by simp [PyData.eqvAll, PyData.eqv, eqv_ints r]
theorem eqP_met {f : Bool → Bool} {a b : Addr} {xs : List Int} {x : Int} {σ : Sto} (ha : σ a = some (.list (il xs))) (hb : σ b = some (.list (il xs))) {Q : PV → Sto → Prop} : eqP f (.tup [.ref a, .int x]) (.tup [.ref b, .int x]) σ Q = Q (.bool (f true)) σ := by
  rw [eqP_of (da := .tuple [.list (xs.map .int), .int x]) (db := .tuple [.list (xs.map .int), .int x]) (by simp [deep, deeps, ha, intsOf_map]) (by simp [deep, deeps, hb, intsOf_map]) rfl rfl]
  have e : PyData.eqv (.tuple [.list (xs.map .int), .int x]) (.tuple [.list (xs.map .int), .int x]) = true := by
    simp only [PyData.eqv, PyData.eqvAll, eqv_ints, BEq.rfl, Bool.and_true]
  rw [e]
theorem kAt_get {keys : List Key} {p : Int} (h0 : 0 ≤ p) (h1 : p < (keys.length : Int)) : keys[p.toNat]? = some (kAt keys p) := by
  rw [kAt, List.getD_eq_getElem?_getD, List.getElem?_eq_getElem (by lia)]; rfl
theorem getP_key {keys : List Key} {ka : Addr} {σ : Sto} (hk : σ ka = some (.list (keys.map kv))) (hb : keys.length ≤ 1000) {p : Int} (h0 : 0 ≤ p) (h1 : p < (keys.length : Int)) {Q : PV → Sto → Prop} : getP (.ref ka) (.int p) σ Q = Q (kv (kAt keys p)) σ := by
  have := getP_list (Q := Q) hk (i := p.toNat) (v := kv (kAt keys p)) (by rw [List.getElem?_map, kAt_get h0 h1]; rfl) (by lia)
  rwa [Int.toNat_of_nonneg h0] at this
theorem fit_loop {keys : List Key} {k : Key} {ps : List Int} {ka a fi : Addr} {σ : Sto} {ρ : PEnv} {K : PFlow → PEnv → Sto → Prop} (hk : σ ka = some (.list (keys.map kv))) (hb : keys.length ≤ 1000) (hp : σ a = some (.list (il ps))) (hv : Valid keys ps) (hl : ps.length ≤ 1000) (hf : σ fi = none)
    (e1 : ρ "keys" = some (.ref ka)) (e2 : ρ "call" = some (kv k)) (e3 : ρ "fitting" = some (.ref fi))
    (h : ∀ ρ', (∀ y, y ≠ "place" → ρ' y = ρ y) → K .next ρ' (σ.set fi (.list (il (fit keys k ps))))) : forP "place" d_bfit (.ref a) ρ (σ.set fi (.list [])) K := by
  have sl := sizeLine_big
  have hp' : ∀ o, (σ.set fi o) a = some (.list (il ps)) := fun o => Sto.get_new hf hp
  simp only [forP, hp']
  refine forR_inv (I := fun j ρ' σ' => (∀ y, y ≠ "place" → ρ' y = ρ y) ∧ σ' = σ.set fi (.list (il (fit keys k (ps.take j))))) (fun j ρ' σ' hI => by rw [hI.2]; exact hp' _) ?_ ?_ _ _ ?_
  · rintro j v ρ' σ' K' hv' ⟨r1, rfl⟩ hK _
    have hj : j < ps.length := by
      have := (List.getElem?_eq_some_iff.mp hv').1
      simpa using this
    have hpj : ps[j]? = some ps[j] := List.getElem?_eq_getElem hj
    rw [List.getElem?_map, hpj] at hv'
    cases hv'
    have ht : ps.take (j + 1) = ps.take j ++ [ps[j]] := by rw [List.take_add_one, hpj]; rfl
    obtain ⟨p0, p1⟩ := hv _ (List.getElem_mem hj)
    have hle : (fit keys k (ps.take j)).length ≤ 1000 := Nat.le_trans (List.length_filter_le _ _) (by rw [List.length_take]; lia)
    rw [ht] at hK
    generalize ps[j] = p at *
    have hk' : ∀ o, (σ.set fi o) ka = some (.list (keys.map kv)) := fun o => Sto.get_new hf hk
    have r2 : ∀ y, y ≠ "place" → (ρ'.set "place" (.int p)) y = ρ y := fun y hy => (PEnv.set_ne _ _ hy).trans (r1 y hy)
    have q1 := (r2 "keys" (by decide)).trans e1
    have q2 := (r2 "call" (by decide)).trans e2
    have q3 := (r2 "fitting" (by decide)).trans e3
    have q4 : (ρ'.set "place" (.int p)) "place" = some (.int p) := rfl
    generalize ρ'.set "place" (.int p) = ρ₁ at *
    have hf' : (σ.set fi (.list (il (fit keys k (ps.take j))))) fi = some (.list (il (fit keys k (ps.take j)))) := Sto.set_same ..
    simp only [d_bfit, dSeq, dIf, dOrT, dOrNil, dTest, dOp, dName, dVal, dEnd, dExpr, dCons, dNil, dTup, dAppend, if_true, if_false, Bool.false_eq_true, q1, q2, q3, q4, getP_key (hk' _) hb p0 p1, List.length_cons, List.length_nil]
    refine ⟨sl1, sl2, ?_⟩
    rw [inP_var]
    simp only [truP_b, id]
    have key : ∀ c : Bool, matchK (kAt keys p) k = c → fit keys k (ps.take j ++ [p]) = fit keys k (ps.take j) ++ if c then [p] else [] := by
      intro c hc
      simp only [fit, List.filter_append, List.filter_cons, hc, List.filter_nil]
    cases hm : (decide (kAt keys p = .var) || decide (k = .var)) with
    | true =>
      have hc : matchK (kAt keys p) k = true := by
        unfold matchK
        simp only [Bool.or_eq_true, decide_eq_true_eq] at hm ⊢
        exact .inl hm
      rw [key _ hc] at hK
      simp only [if_true]
      refine ⟨isListI hf', ?_⟩
      rw [appI hf' hle, Sto.set_set]
      simp only [plainK_n]
      exact hK _ _ ⟨r2, by rw [if_pos rfl]⟩
    | false =>
      simp only [if_false, Bool.false_eq_true]
      rw [getP_key (hk' _) hb p0 p1]
      rw [eqP_kv]
      simp only [truP_b]
      by_cases he : kAt keys p = k
      · have hc : matchK (kAt keys p) k = true := by unfold matchK; simp [he]
        rw [key _ hc] at hK
        simp only [he, decide_true]
        refine ⟨isListI hf', ?_⟩
        rw [appI hf' hle, Sto.set_set]
        simp only [plainK_n]
        exact hK _ _ ⟨r2, by rw [if_pos rfl]⟩
      · have hc : matchK (kAt keys p) k = false := by
          unfold matchK
          simp only [Bool.or_eq_false_iff, decide_eq_false_iff_not] at hm ⊢
          exact ⟨hm, he⟩
        rw [key _ hc] at hK
        simp only [he, decide_false]
        exact hK _ _ ⟨r2, by simp⟩
  · rintro ρ' σ' ⟨r1, rfl⟩
    rw [List.length_map, List.take_length]
    exact h _ r1
  · exact ⟨fun _ _ => rfl, rfl⟩
end Mine
namespace Mine
open PySem PySem.W PySem.Calls PyProof.Rows PySem.Spec
structure GS (σ : Sto) (keys : List Key) (shares : List (List Int)) (bs : List Row) (low wide : Int) (ka sa co ra : Addr) : Prop where
  hk : σ ka = some (.list (keys.map kv))
  hs : ∃ sas : List Addr, sas.length = shares.length ∧ σ sa = some (.list (sas.map .ref)) ∧ ∀ i a, sas[i]? = some a → σ a = some (.list (il (shares.getD i [])))
  hr : σ ra = some (.list (bs.map rv))
  hc : ∃ vs f, σ co = some (.list vs) ∧ CVR σ f (codeRows bs) vs ∧ ∀ k, MR (codeRows bs) f low wide k 150 low [] [] 0 (dueOf keys k shares, mostN keys k shares shares.length)
  k1 : keys.length ≤ 5
  s1 : shares.length ≤ 3
  sv : ∀ ps ∈ shares, Valid keys ps ∧ ps.length ≤ 5
  b1 : bs.length ≤ 1000
  nd : ((labs bs 0).map (·.1)).Nodup
  tr : 2 ≤ keys.length → ∀ k, TR bs keys.length k [0] [] (dueOf keys k shares)
theorem CVR.keep {σ σ' : Sto} {f : Int → Int} {rows : List Row} {vs : List PV} (h : CVR σ f rows vs) (k : Le σ σ') : CVR σ' f rows vs := fun i row hi => by
  obtain ⟨v, h1, h2, h3⟩ := h i row hi
  exact ⟨v, h1, h2.keep k, h3⟩
theorem GS.keep {σ σ' : Sto} {keys : List Key} {shares : List (List Int)} {bs : List Row} {low wide : Int} {ka sa co ra : Addr} (g : GS σ keys shares bs low wide ka sa co ra) (k : Le σ σ') : GS σ' keys shares bs low wide ka sa co ra := by
  obtain ⟨hk, ⟨sas, s1, s2, s3⟩, hr, ⟨vs, f, c1, c2, c3⟩, a1, a2, a3, a4, a5, a6⟩ := g
  exact ⟨k _ _ hk, ⟨sas, s1, k _ _ s2, fun i a h => k _ _ (s3 i a h)⟩, k _ _ hr, ⟨vs, f, k _ _ c1, c2.keep k, c3⟩, a1, a2, a3, a4, a5, a6⟩
structure GE (ρ : PEnv) (keys : List Key) (low wide : Int) (ka sa co ra : Addr) : Prop where
  e1 : ρ "keys" = some (.ref ka)
  e2 : ρ "shares" = some (.ref sa)
  e3 : ρ "block" = some (.ref ra)
  e4 : ρ "many" = some (.int keys.length)
  e5 : ρ "code" = some (.ref co)
  e6 : ρ "low" = some (.int low)
  e7 : ρ "wide" = some (.int wide)
noncomputable def loopV (y : String) : Prop := y = "key" ∨ y = "call" ∨ y = "due" ∨ y = "most" ∨ y = "turn" ∨ y = "fitting" ∨ y = "place"
theorem GE.env {ρ ρ' : PEnv} {keys : List Key} {low wide : Int} {ka sa co ra : Addr} (g : GE ρ keys low wide ka sa co ra) (h : ∀ y, ¬ loopV y → ρ' y = ρ y) : GE ρ' keys low wide ka sa co ra :=
  ⟨(h _ (by unfold loopV; decide)).trans g.e1, (h _ (by unfold loopV; decide)).trans g.e2, (h _ (by unfold loopV; decide)).trans g.e3, (h _ (by unfold loopV; decide)).trans g.e4, (h _ (by unfold loopV; decide)).trans g.e5, (h _ (by unfold loopV; decide)).trans g.e6, (h _ (by unfold loopV; decide)).trans g.e7⟩
theorem set_loopV {ρ₀ ρ : PEnv} {x : String} {v : PV} (hx : loopV x) (h : ∀ y, ¬ loopV y → ρ y = ρ₀ y) : ∀ y, ¬ loopV y → (ρ.set x v) y = ρ₀ y := fun y hy => by
  have : y ≠ x := by rintro rfl; exact hy hx
  exact (PEnv.set_ne _ _ this).trans (h y hy)
theorem dueOf_succ (keys : List Key) (k : Key) (shares : List (List Int)) (i : Nat) (hi : i < shares.length) : dueOf keys k (shares.take (i + 1)) = dueOf keys k (shares.take i) ++ fit keys k (shares.getD i []) := by
  have : shares.take (i + 1) = shares.take i ++ [shares[i]] := by rw [List.take_add_one, List.getElem?_eq_getElem hi]; rfl
  rw [this, dueOf, List.flatMap_append, List.getD_eq_getElem?_getD, List.getElem?_eq_getElem hi]
  simp [dueOf]
theorem fit_len (keys : List Key) (k : Key) (ps : List Int) : (fit keys k ps).length ≤ ps.length := List.length_filter_le _ _
theorem due_len (keys : List Key) (k : Key) (shares : List (List Int)) (h : ∀ ps ∈ shares, ps.length ≤ 5) : (dueOf keys k shares).length ≤ 5 * shares.length := by
  induction shares with
  | nil => simp [dueOf]
  | cons ps r ih =>
    have := fit_len keys k ps
    have h1 := h ps (by simp)
    have h2 := ih fun q hq => h q (by simp [hq])
    simp only [dueOf, List.flatMap_cons, List.length_append, List.length_cons] at h2 ⊢
    lia
theorem turn_loop {keys : List Key} {shares : List (List Int)} {bs : List Row} {low wide : Int} {ka sa co ra : Addr} {σ₀ σ : Sto} {ρ : PEnv} {k : Key} {du : Addr} {K : PFlow → PEnv → Sto → Prop} (g : GS σ₀ keys shares bs low wide ka sa co ra) (k0 : Le σ₀ σ) (E : GE ρ keys low wide ka sa co ra) (ek : ρ "call" = some (kv k))
    (ed : ρ "due" = some (.ref du)) (hd : σ du = some (.list [])) (em : ρ "most" = some (.int 1))
    (h : ∀ ρ' σ' du, (∀ y, ¬ loopV y → ρ' y = ρ y) → ρ' "call" = some (kv k) → Le σ₀ σ' → ρ' "due" = some (.ref du) → σ' du = some (.list (il (dueOf keys k shares))) → ρ' "most" = some (.int (mostN keys k shares shares.length)) → K .next ρ' σ') :
    forL "turn" d_bturn (rangeL 0 shares.length) ρ σ K := by
  have sl := sizeLine_big
  have hlen : (rangeL 0 (shares.length : Int)).length = shares.length := by rw [rangeL_length]; lia
  refine forL_inv (I := fun i ρ' σ' => (∀ y, ¬ loopV y → ρ' y = ρ y) ∧ ρ' "call" = some (kv k) ∧ Le σ₀ σ' ∧ (∃ du, ρ' "due" = some (.ref du) ∧ σ' du = some (.list (il (dueOf keys k (shares.take i))))) ∧ ρ' "most" = some (.int (mostN keys k shares i))) ?_ ?_ _ _ ?_
  · rintro i v ρ' σ' K' hv ⟨r1, r2, r3, ⟨du, r4, r5⟩, r6⟩ hK _
    have hi : i < shares.length := by
      have := (List.getElem?_eq_some_iff.mp hv).1
      rwa [hlen] at this
    rw [rangeL_get _ _ _ (by lia)] at hv
    cases hv
    obtain ⟨sas, s1, s2, s3⟩ := g.hs
    have hsi : sas[i]? = some sas[i] := List.getElem?_eq_getElem _
    have hsa := s3 _ _ hsi
    generalize sas[i] = a at *
    have hps : shares.getD i [] ∈ shares := by
      rw [List.getD_eq_getElem?_getD, List.getElem?_eq_getElem hi]; exact List.getElem_mem hi
    obtain ⟨pv, pl⟩ := g.sv _ hps
    have ei : (0 : Int) + (i : Int) = (i : Int) := by lia
    rw [ei]
    have q1 : ∀ y, ¬ loopV y → (ρ'.set "turn" (.int i)) y = ρ y := set_loopV (by unfold loopV; decide) r1
    have E1 : GE (ρ'.set "turn" (.int i)) keys low wide ka sa co ra := E.env q1
    have q2 : (ρ'.set "turn" (.int i)) "call" = some (kv k) := r2
    have q4 : (ρ'.set "turn" (.int i)) "due" = some (.ref du) := r4
    have q6 : (ρ'.set "turn" (.int i)) "most" = some (.int (mostN keys k shares i)) := r6
    have q7 : (ρ'.set "turn" (.int i)) "turn" = some (.int i) := rfl
    generalize ρ'.set "turn" (.int i) = ρ₁ at *
    simp only [d_bturn, dSeq, dIf, dAndT, dAndNil, dTest, dOp, dName, dVal, dEnd, dAssign, dCall, dCons, dNil, dList, dFor, PEnv.set_b, if_true, if_false, Bool.false_eq_true, String.reduceBEq, cond_false]
    refine ⟨sl0, fun fi hfi => ?_⟩
    dsimp only
    have q1' := set_loopV (x := "fitting") (v := .ref fi) (by unfold loopV; decide) q1
    have E2 := E.env q1'
    have q2' : (ρ₁.set "fitting" (.ref fi)) "call" = some (kv k) := q2
    have q4' : (ρ₁.set "fitting" (.ref fi)) "due" = some (.ref du) := q4
    have q6' : (ρ₁.set "fitting" (.ref fi)) "most" = some (.int (mostN keys k shares i)) := q6
    have q7' : (ρ₁.set "fitting" (.ref fi)) "turn" = some (.int i) := q7
    have q8' : (ρ₁.set "fitting" (.ref fi)) "fitting" = some (.ref fi) := rfl
    generalize ρ₁.set "fitting" (.ref fi) = ρ₂ at *
    have ks := r3.tr (Le.new (o := .list []) hfi)
    simp only [E1.e2, q7]
    have hsl : (sas.map PV.ref)[i]? = some (.ref a) := by rw [List.getElem?_map, hsi]; rfl
    rw [getP_list (ks _ _ s2) hsl (by have := g.s1; lia)]
    refine fit_loop (r3 _ _ g.hk) (by have := g.k1; lia) (r3 _ _ hsa) pv (by lia) hfi E2.e1 q2' q8' fun ρ₃ t1 => ?_
    have hff : (σ'.set fi (.list (il (fit keys k (shares.getD i []))))) fi = some (.list (il (fit keys k (shares.getD i [])))) := Sto.set_same ..
    have hdu := Sto.get_new (o := .list (il (fit keys k (shares.getD i [])))) hfi r5
    have k3 := r3.tr (Le.new (o := .list (il (fit keys k (shares.getD i [])))) hfi)
    generalize σ'.set fi (.list (il (fit keys k (shares.getD i [])))) = σ₃ at *
    have u1 : ∀ y, ¬ loopV y → ρ₃ y = ρ y := fun y hy => (t1 y (by rintro rfl; exact hy (by unfold loopV; decide))).trans (q1' y hy)
    have E3 := E.env u1
    have u2 := (t1 "call" (by decide)).trans q2'
    have u4 := (t1 "due" (by decide)).trans q4'
    have u6 := (t1 "most" (by decide)).trans q6'
    have u7 := (t1 "turn" (by decide)).trans q7'
    have u8 := (t1 "fitting" (by decide)).trans q8'
    simp only [u4, u8]
    refine ⟨_, _, hdu, hff, ?_⟩
    have hdl := due_len keys k (shares.take i) fun ps hps => (g.sv ps (List.mem_of_mem_take hps)).2
    have hfl := fit_len keys k (shares.getD i [])
    have hs1 := g.s1
    refine ⟨by rw [List.length_append, List.length_map, List.length_map]; rw [List.length_take] at hdl; lia, fun dn hdn => ?_⟩
    have hdd : (σ₃.set dn (.list (il (dueOf keys k (shares.take i)) ++ il (fit keys k (shares.getD i []))))) dn = some (.list (il (dueOf keys k (shares.take (i + 1))))) := by
      rw [Sto.set_same, dueOf_succ keys k shares i hi]
      exact congrArg (fun l => some (AObj.list l)) List.map_append.symm
    have hf4 := Sto.get_new (o := .list (il (dueOf keys k (shares.take i)) ++ il (fit keys k (shares.getD i [])))) hdn hff
    have k4 := k3.tr (Le.new (o := .list (il (dueOf keys k (shares.take i)) ++ il (fit keys k (shares.getD i [])))) hdn)
    generalize σ₃.set dn (.list (il (dueOf keys k (shares.take i)) ++ il (fit keys k (shares.getD i [])))) = σ₄ at *
    dsimp only
    rw [lenP_list hf4 (by rw [List.length_map]; lia)]
    have s4 := k4 _ _ s2
    have w1 := set_loopV (x := "due") (v := .ref dn) (by unfold loopV; decide) u1
    have fin : ∀ c : Bool, c = decide (1 < (fit keys k (shares.getD i [])).length ∧ i + 1 < shares.length) → K' .next (if c then (ρ₃.set "due" (.ref dn)).set "most" (.int 2) else ρ₃.set "due" (.ref dn)) σ₄ := by
      intro c hc
      cases c with
      | true =>
        have hc' := of_decide_eq_true hc.symm
        exact hK _ _ ⟨set_loopV (by unfold loopV; decide) w1, u2, k4, ⟨dn, rfl, hdd⟩, by rw [mostN, if_pos hc']; rfl⟩
      | false =>
        have hc' := of_decide_eq_false hc.symm
        exact hK _ _ ⟨w1, u2, k4, ⟨dn, rfl, hdd⟩, by rw [mostN, if_neg hc']; exact u6⟩
    simp only [truP_b, addP_i, gtP_i, u7, E3.e2, List.length_map]
    by_cases h1 : 1 < (fit keys k (shares.getD i [])).length
    · have h1' : (1 : Int) < (((fit keys k (shares.getD i [])).length : Nat) : Int) := by lia
      simp only [h1', decide_true, if_true]
      rw [lenP_list s4 (by rw [List.length_map]; lia)]
      simp only [truP_b, ltP_i, List.length_map]
      by_cases h2 : i + 1 < shares.length
      · have h2' : (i : Int) + 1 < (sas.length : Int) := by lia
        simp only [h2', decide_true, if_true]
        exact fin true (decide_eq_true ⟨h1, h2⟩).symm
      · have h2' : ¬ (i : Int) + 1 < (sas.length : Int) := by lia
        simp only [h2', decide_false, if_false, Bool.false_eq_true]
        exact fin false (decide_eq_false fun h => h2 h.2).symm
    · have h1' : ¬ (1 : Int) < (((fit keys k (shares.getD i [])).length : Nat) : Int) := by lia
      simp only [h1', decide_false, if_false, Bool.false_eq_true]
      exact fin false (decide_eq_false fun h => h1 h.1).symm
  · rintro ρ' σ' ⟨r1, r2, r3, ⟨du, r4, r5⟩, r6⟩
    rw [hlen] at r5 r6
    rw [List.take_length] at r5
    exact h _ _ _ r1 r2 r3 r4 r5 r6
  · exact ⟨fun _ _ => rfl, ek, k0, ⟨du, ed, by simpa [dueOf] using hd⟩, em⟩
end Mine
namespace Mine
open PySem PySem.W PySem.Calls PyProof.Rows PySem.Spec
theorem cmp_ok {keys : List Key} {shares : List (List Int)} {bs : List Row} {low wide : Int} {ka sa co ra : Addr} {σ₀ σ : Sto} {ρ : PEnv} {k : Key} {du : Addr} {K : PFlow → PEnv → Sto → Prop} (g : GS σ₀ keys shares bs low wide ka sa co ra) (k0 : Le σ₀ σ) (E : GE ρ keys low wide ka sa co ra) (ek : ρ "call" = some (kv k))
    (ed : ρ "due" = some (.ref du)) (hd : σ du = some (.list (il (dueOf keys k shares)))) (em : ρ "most" = some (.int (mostN keys k shares shares.length)))
    (h : ∀ σ', Le σ₀ σ' → K .next ρ σ') : d_cmp ρ σ K := by
  have last : ∀ σ₁, Le σ σ₁ → dSeq (dIf (dTest (dOp (eqP not) (dCall S_met (dCons (dName "code") (dCons (dName "low") (dCons (dName "wide") (dCons (dName "call") dNil))))) (dTup (dCons (dName "due") (dCons (dName "most") dNil))))) (dSeq (dRet (dVal (.bool false))) dEnd) dEnd) dEnd ρ σ₁ K := by
    intro σ₁ k1
    have k01 := k0.tr k1
    obtain ⟨vs, f, c1, c2, c3⟩ := g.hc
    simp only [dSeq, dIf, dTest, dOp, dName, dVal, dRet, dEnd, dCall, dCons, dNil, dTup, E.e5, E.e6, E.e7, ek]
    refine ⟨co, low, wide, k, codeRows bs, vs, f, _, rfl, k01 _ _ c1, c2.keep k01, Nat.le_trans (List.length_filter_le _ _) g.b1, c3 k, fun ma σ₂ k2 hm => ?_⟩
    dsimp only
    simp only [ed, em, List.length_cons, List.length_nil]
    refine ⟨sl2, ?_⟩
    rw [eqP_met hm (k2 _ _ (k1 _ _ hd))]
    simp only [if_false, truP_b, Bool.false_eq_true, Bool.not_true]
    exact h _ (k01.tr k2)
  simp only [d_cmp]
  rw [dSeq]
  by_cases hm : 1 < keys.length
  · have hm' : (1 : Int) < (keys.length : Int) := by lia
    simp only [dSeq, dIf, dTest, dOp, dName, dVal, dRet, dEnd, dCall, dCons, dNil, dTup, ek, ed] at last
    simp only [E.e4, E.e3, ek, ed, dSeq, dIf, dAndT, dAndNil, dTest, dOp, dName, dVal, dRet, dEnd, dCall, dCons, dNil, dTup, if_true, if_false, truP_b, gtP_i, Bool.false_eq_true, hm', decide_true]
    refine ⟨ra, bs, keys.length, k, _, rfl, k0 _ _ g.hr, g.b1, g.nd, by lia, g.tr hm k, fun c σ₁ k1 hc hc1 => ?_⟩
    rw [eqP_lists hc1 (k1 _ _ hd)]
    simp only [if_false, truP_b, Bool.false_eq_true, decide_true, Bool.not_true]
    exact last σ₁ k1
  · have hm' : ¬ (1 : Int) < (keys.length : Int) := by lia
    simp only [dSeq, dIf, dTest, dOp, dName, dVal, dRet, dEnd, dCall, dCons, dNil, dTup, ek, ed] at last
    simp only [E.e4, E.e3, ek, ed, dSeq, dIf, dAndT, dAndNil, dTest, dOp, dName, dVal, dRet, dEnd, dCall, dCons, dNil, dTup, if_true, if_false, truP_b, gtP_i, Bool.false_eq_true, hm', decide_false]
    exact last σ fun _ _ e => e
theorem call_ok {keys : List Key} {shares : List (List Int)} {bs : List Row} {low wide : Int} {ka sa co ra : Addr} {σ₀ σ : Sto} {ρ : PEnv} {k : Key} {K : PFlow → PEnv → Sto → Prop} (g : GS σ₀ keys shares bs low wide ka sa co ra) (k0 : Le σ₀ σ) (E : GE ρ keys low wide ka sa co ra) (ek : ρ "call" = some (kv k))
    (h : ∀ ρ' σ', (∀ y, ¬ loopV y → ρ' y = ρ y) → Le σ₀ σ' → K .next ρ' σ') : d_b18 ρ σ K := by
  simp only [d_b18, dSeq, dName, dVal, dAssign, dCall, dCons, dNil, dList, dForR, PEnv.set_b, String.reduceBEq, cond_false]
  refine ⟨sl0, fun du hdu => ?_⟩
  dsimp only
  have k1 := k0.tr (Le.new (o := .list []) hdu)
  obtain ⟨sas, s1, s2, s3⟩ := g.hs
  have s4 := k1 _ _ s2
  have hs1 := g.s1
  simp only [E.e2]
  rw [lenP_list s4 (by rw [List.length_map]; lia)]
  have w1 : ∀ y, ¬ loopV y → ((ρ.set "due" (.ref du)).set "most" (.int 1)) y = ρ y := set_loopV (by unfold loopV; decide) (set_loopV (by unfold loopV; decide) fun _ _ => rfl)
  rw [List.length_map, s1, rngL1 (by lia) (by lia)]
  refine turn_loop g k1 (E.env w1) ek (du := du) rfl (Sto.set_same ..) rfl fun ρ' σ' du' r1 r2 r3 r4 r5 r6 => ?_
  have w2 : ∀ y, ¬ loopV y → ρ' y = ρ y := fun y hy => (r1 y hy).trans (w1 y hy)
  exact cmp_ok g r3 (E.env w2) r2 r4 r5 r6 fun σ'' k2 => h _ _ w2 k2
theorem key_in {ks : List Key} {cl : Addr} {σ : Sto} {ρ : PEnv} {k : Key} {K : PFlow → PEnv → Sto → Prop} (hc : σ cl = some (.list (ks.map kv))) (hb : ks.length ≤ 500) (e1 : ρ "calls" = some (.ref cl)) (e2 : ρ "key" = some (kv k))
    (h : ∀ ks' : List Key, ks'.length ≤ ks.length + 1 → K .next ρ (σ.set cl (.list (ks'.map kv)))) : d_b17 ρ σ K := by
  have sl := sizeLine_big
  simp only [d_b17, dSeq, dIf, dTest, dOp, dName, dEnd, dExpr, dAppend, truP_b, e1, e2, inP_keys hc]
  cases hh : ks.any fun y => decide (y = k) with
  | true =>
    simp only [Bool.not_true, if_false, Bool.false_eq_true]
    have : σ.set cl (.list (ks.map kv)) = σ := by
      funext x; unfold Sto.set; split
      · rename_i hx; rw [hx, hc]
      · rfl
    have h1 := h ks (by lia)
    rwa [this] at h1
  | false =>
    simp only [Bool.not_false, if_true]
    refine ⟨⟨_, hc⟩, ?_⟩
    rw [appP_at hc (by rw [List.length_map]; lia)]
    simp only [plainK_n]
    have h1 := h (ks ++ [k]) (by simp)
    simpa using h1
theorem t16_ok {keys : List Key} {shares : List (List Int)} {bs : List Row} {low wide : Int} {ka sa co ra : Addr} {σ : Sto} {ρ : PEnv} {K : PFlow → PEnv → Sto → Prop} (g : GS σ keys shares bs low wide ka sa co ra) (E : GE ρ keys low wide ka sa co ra)
    (h : ∀ ρ' σ', K (.ret (.bool true)) ρ' σ') : d_t16 ρ σ K := by
  have sl := sizeLine_big
  have e4 : [PV.tup [.str (Str.ofString "var")], .tup [.str (Str.ofString "list")], .tup [.str (Str.ofString "const"), .tup [.int 5, .int 1000000000]], .tup [.str (Str.ofString "struct"), .int 50]] = ([Key.var, .list, .const 5 1000000000, .struct 50] : List Key).map kv := rfl
  simp only [d_t16, dSeq, dOp, dName, dVal, dRet, dAssign, dCons, dNil, dTup, dList, dFor, PEnv.set_b, true_and, String.reduceBEq, cond_false, powP, List.length_cons, List.length_nil, Nat.reduceAdd, sl1, sl2]
  refine ⟨sl4, fun cl hcl => ?_⟩
  dsimp only
  rw [e4]
  have k1 := Le.new (o := .list (([Key.var, .list, .const 5 1000000000, .struct 50] : List Key).map kv)) hcl
  have hc0 : (σ.set cl (.list (([Key.var, .list, .const 5 1000000000, .struct 50] : List Key).map kv))) cl = some (.list (([Key.var, .list, .const 5 1000000000, .struct 50] : List Key).map kv)) := Sto.set_same ..
  have w0 : ∀ y, ¬ loopV y → y ≠ "calls" → (ρ.set "calls" (.ref cl)) y = ρ y := fun y _ hy => PEnv.set_ne _ _ hy
  have E1 : GE (ρ.set "calls" (.ref cl)) keys low wide ka sa co ra := ⟨E.e1, E.e2, E.e3, E.e4, E.e5, E.e6, E.e7⟩
  have c1 : (ρ.set "calls" (.ref cl)) "calls" = some (.ref cl) := rfl
  simp only [E.e1]
  generalize ρ.set "calls" (.ref cl) = ρ₁ at *
  have hk1 := k1 _ _ g.hk
  have nca : cl ≠ ka := by rintro rfl; rw [g.hk] at hcl; cases hcl
  simp only [forP, hk1]
  have hb := g.k1
  refine forR_inv (I := fun i ρ' σ' => (∀ y, ¬ loopV y → ρ' y = ρ₁ y) ∧ Le σ σ' ∧ ∃ ks : List Key, ks.length ≤ 4 + i ∧ σ' cl = some (.list (ks.map kv))) (fun i ρ' σ' hI => hI.2.1 _ _ g.hk) ?_ ?_ _ _ ?_
  · rintro i v ρ' σ' K' hv ⟨r1, r2, ks, r3, r4⟩ hK _
    have hi : i < keys.length := by
      have := (List.getElem?_eq_some_iff.mp hv).1
      simpa using this
    rw [List.getElem?_map, List.getElem?_eq_getElem hi] at hv
    cases hv
    refine key_in r4 (by lia) (e1 := (r1 "calls" (by unfold loopV; decide)).trans c1) rfl fun ks' hks => ?_
    exact hK _ _ ⟨set_loopV (by unfold loopV; decide) r1, r2.setNew hcl _, ks', by lia, Sto.set_same ..⟩
  · rintro ρ' σ' ⟨r1, r2, ks, r3, r4⟩
    rw [List.length_map] at r3
    have E2 := E1.env r1
    have c2 : ρ' "calls" = some (.ref cl) := (r1 "calls" (by unfold loopV; decide)).trans c1
    have g2 := g.keep r2
    dsimp only
    simp only [c2, r4]
    refine forR_inv (I := fun i ρ'' σ'' => (∀ y, ¬ loopV y → ρ'' y = ρ' y) ∧ Le σ' σ'') (fun i ρ'' σ'' hI => hI.2 _ _ r4) ?_ ?_ _ _ ?_
    · rintro i v ρ'' σ'' K' hv ⟨t1, t2⟩ hK _
      have hi : i < ks.length := by
        have := (List.getElem?_eq_some_iff.mp hv).1
        simpa using this
      rw [List.getElem?_map, List.getElem?_eq_getElem hi] at hv
      cases hv
      have w := set_loopV (x := "call") (v := kv ks[i]) (by unfold loopV; decide) t1
      exact call_ok g2 t2 (E2.env w) rfl fun ρ₃ σ₃ u1 u2 => hK _ _ ⟨fun y hy => (u1 y hy).trans (w y hy), u2⟩
    · rintro ρ'' σ'' ⟨t1, t2⟩
      exact h _ _
    · exact ⟨fun _ _ => rfl, fun _ _ e => e⟩
  · exact ⟨fun _ _ => rfl, k1, _, Nat.le_refl _, hc0⟩
end Mine
namespace Mine
open PySem PySem.W PySem.Calls PyProof.Rows PySem.Spec
structure PL (keys : List Key) (shares : List (List Int)) (ar : Int) (st : BState) : Prop where
  ch : ∀ c ∈ st.chains, 2 ≤ c.2.length ∧ c.2.length ≤ 1000
  len : (finRows ar keys.length st).length ≤ 1000
  nd : ((labs (finRows ar keys.length st) 0).map (·.1)).Nodup
  na : ∀ base, ((adrs (finRows ar keys.length st) base).map (·.1)).Nodup
  nn : ∀ l, Row.label l ∈ finRows ar keys.length st → 0 ≤ l
  tr : 2 ≤ keys.length → ∀ k, TR (finRows ar keys.length st) keys.length k [0] [] (dueOf keys k shares)
  mr : ∀ low : Int, 3 ≤ low → ∃ f, (∀ r ∈ codeRows (finRows ar keys.length st), RowOk (adrs (finRows ar keys.length st) low) (low + ((codeRows (finRows ar keys.length st)).length : Nat)) f r) ∧
    ∀ k, MR (codeRows (finRows ar keys.length st)) f low ar k 150 low [] [] 0 (dueOf keys k shares, mostN keys k shares shares.length)
theorem RowOk.tabKind {lt : List (Int × Int)} {en : Int} {f : Int → Int} {r : Row} (h : RowOk lt en f r) : r.tabKind := by
  cases r with
  | stab con t d => exact (h.tab con t (by simp [Row.ops])).2.1
  | _ => trivial
theorem CRows.get {σ : Sto} {f : Int → Int} : ∀ {rows : List Row} {vs : List PV}, CRows σ f rows vs → ∀ (i : Nat) row, rows[i]? = some row → ∃ v, vs[i]? = some v ∧ CRow σ f row v
  | _, _, .nil, i, row, h => by simp at h
  | _, _, .cons a r, 0, row, h => by simp at h; subst h; exact ⟨_, rfl, a⟩
  | _, _, .cons a r, i + 1, row, h => by
    obtain ⟨v, h1, h2⟩ := r.get i row (by simpa using h)
    exact ⟨v, by simpa using h1, h2⟩
theorem CVR.of {σ : Sto} {f : Int → Int} {bs : List Row} {vs : List PV} (h : CRows σ f (codeRows bs) vs) (ht : ∀ r ∈ codeRows bs, r.tabKind) : CVR σ f (codeRows bs) vs := fun i row hi => by
  obtain ⟨v, h1, h2⟩ := h.get i row hi
  have hm := List.mem_of_getElem? hi
  have hl : row.isLabel = false := by
    have := (List.mem_filter.mp hm).2
    simpa using this
  exact ⟨v, h1, h2.cv hl, ht _ hm⟩
structure ShS (σ : Sto) (shares : List (List Int)) (sa : Addr) : Prop where
  sh : ∃ sas : List Addr, sas.length = shares.length ∧ σ sa = some (.list (sas.map .ref)) ∧ ∀ i a, sas[i]? = some a → σ a = some (.list (il (shares.getD i [])))
theorem ShS.keep {σ σ' : Sto} {shares : List (List Int)} {sa : Addr} (h : ShS σ shares sa) (k : Le σ σ') : ShS σ' shares sa := by
  obtain ⟨sas, s1, s2, s3⟩ := h.sh
  exact ⟨sas, s1, k _ _ s2, fun i a e => k _ _ (s3 i a e)⟩
structure Shares (keys : List Key) (shares : List (List Int)) : Prop where
  k0 : 1 ≤ keys.length
  k1 : keys.length ≤ 5
  kg : ∀ k ∈ keys, KeyGood k
  s0 : 2 ≤ shares.length
  s1 : shares.length ≤ 3
  sv : ∀ ps ∈ shares, Valid keys ps ∧ ps.length ≤ 5 ∧ ps.Nodup
theorem t13_ok {keys : List Key} {shares : List (List Int)} {ar : Int} {st : BState} {A : BA} {ka sa fa : Addr} {σ₀ σ : Sto} {ρ : PEnv} {K : PFlow → PEnv → Sto → Prop} (P : PL keys shares ar st) (S : Shares keys shares) (H : BS ar A st σ) (O : Old A σ₀ σ) (C : CS A.codes keys σ₀) (f0 : σ₀ fa = none) (fm : ¬ mods A fa) (hf : Figs fa σ) (hk : σ₀ ka = some (.list (keys.map kv))) (hs : ShS σ₀ shares sa)
    (e1 : ρ "keys" = some (.ref ka)) (e2 : ρ "shares" = some (.ref sa)) (e3 : ρ "builder" = some (.ref A.b)) (e4 : ρ "many" = some (.int keys.length)) (e5 : ρ "figures" = some (.ref fa)) (e6 : ρ "wide" = some (.int ar))
    (h : ∀ ρ' σ', K (.ret (.bool true)) ρ' σ') : d_t13 ρ σ K := by
  have sk1 := S.k1
  simp only [d_t13, dSeq, dOp, dName, dVal, dAssign, dCall, dMeth, dCons, dNil, PEnv.set_b, String.reduceBEq, cond_true, cond_false, e3]
  refine ⟨meth_b H rfl, ar, A, st, σ₀, keys, rfl, H, O, C, by lia, P.ch, P.len, fun σ₁ H₁ X₁ => ?_⟩
  have O₁ := O.ext X₁
  have hf1 : Figs fa σ₁ := by
    obtain ⟨ns, n1, n2⟩ := hf
    exact ⟨ns, n1, X₁ _ _ fm n2⟩
  simp only [e5]
  refine ⟨fa, 500, rfl, by decide, hf1, fun r σ₂ hr0 hr1 hf2 B2 => ?_⟩
  have k2 : Le σ₀ σ₂ := fun x o e => B2 x o (by rintro rfl; rw [f0] at e; cases e) (O₁.keep _ _ e)
  have hrow : σ₂ A.rows = some (.list ((finRows ar keys.length st).map rv)) := B2 _ _ (by rintro e; exact fm (e ▸ .inr (.inl rfl))) H₁.rows
  obtain ⟨f, p1, p2⟩ := P.mr (3 + r) (by lia)
  refine ⟨A.rows, finRows ar keys.length st, 3 + r, f, rfl, hrow, P.len, P.na _, P.nn, p1, fun co σ₃ vs k3 hco hc hrs => ?_⟩
  have k03 := k2.tr k3
  refine t16_ok (shares := shares) (bs := finRows ar keys.length st) (low := 3 + r) (wide := ar) (ka := ka) (sa := sa) (co := co) (ra := A.rows) ⟨k03 _ _ hk, (hs.keep k03).sh, k3 _ _ hrow, ⟨vs, f, hc, CVR.of hrs fun r hr => (p1 r hr).tabKind, p2⟩, S.k1, S.s1, fun ps hps => ⟨(S.sv ps hps).1, (S.sv ps hps).2.1⟩, P.len, P.nd, P.tr⟩ ⟨e1, e2, rfl, e4, rfl, rfl, e6⟩ h
end Mine
namespace Mine
open PySem PySem.W PySem.Calls PyProof.Rows PySem.Spec
noncomputable def marksOf (many m : Nat) : List Int := (List.range m).map fun j => ((many + j : Nat) : Int)
noncomputable def stN (keys : List Key) (ar : Int) (shares : List (List Int)) : Nat → BState
  | 0 => ⟨chainRows ar (marksOf keys.length shares.length), [], ((keys.length + shares.length : Nat) : Int)⟩
  | i + 1 => switchF keys (shares.getD i []) { stN keys ar shares i with rows := (stN keys ar shares i).rows ++ [.label ((keys.length + i : Nat) : Int)] }
theorem bump_rows (c : Bool) (st : BState) : (bump c st).rows = st.rows ∧ (bump c st).chains = st.chains := by cases c <;> exact ⟨rfl, rfl⟩
theorem tableF_rows (keys : List Key) (ps : List Int) (con : Bool) (st : BState) : (tableF keys ps con st).1.rows = st.rows := tab_rows_eq keys ps con ps (st, [])
theorem switch_lens (keys : List Key) (ps : List Int) (st : BState) : (switchF keys ps st).chains.length ≤ st.chains.length + 2 * ps.length + 3 ∧ (switchF keys ps st).rows.length ≤ st.rows.length + 5 := by
  simp only [switchF, switchT]
  generalize hr0 : st.chain (ps.filter fun p => decide (kAt keys p = .var)) = r0
  generalize htc : tableF keys ps true r0.2 = tc
  generalize hts : tableF keys ps false tc.1 = ts
  have a0 := chain_len st (ps.filter fun p => decide (kAt keys p = .var))
  have a1 := (tab_next keys ps true r0.2).1
  have a2 := (tab_next keys ps false tc.1).1
  have b0 := chain_rows_eq st (ps.filter fun p => decide (kAt keys p = .var))
  have b1 := tableF_rows keys ps true r0.2
  have b2 := tableF_rows keys ps false tc.1
  rw [hr0] at a0 b0
  rw [htc] at a1 b1
  rw [hts] at a2 b2
  have c1 := bump_rows (!tc.2.isEmpty) ts.1
  have c2 := bump_rows (!ts.2.isEmpty) (bump (!tc.2.isEmpty) ts.1)
  generalize hn3 : bump (!ts.2.isEmpty) (bump (!tc.2.isEmpty) ts.1) = n3 at *
  have d1 := chain_len n3 (ps.filter fun p => matchK (kAt keys p) .list)
  have d2 := chain_rows_eq n3 (ps.filter fun p => matchK (kAt keys p) .list)
  generalize n3.chain (ps.filter fun p => matchK (kAt keys p) .list) = rl at *
  have e1 := chain_len rl.2 ps
  have e2 := chain_rows_eq rl.2 ps
  generalize rl.2.chain ps = ra at *
  have f1 : n3.chains.length = ts.1.chains.length := by rw [c2.2, c1.2]
  have f2 : n3.rows.length = st.rows.length := by rw [c2.1, c1.1, b2, b1, b0]
  refine ⟨by lia, ?_⟩
  rw [List.length_append, e2, d2, f2]
  simp only [swRows, List.length_append, List.length_cons, List.length_nil]
  split <;> split <;> simp <;> lia
theorem chainRows_len (ar : Int) (ns : List Int) (h : 2 ≤ ns.length) : (chainRows ar ns).length = ns.length := by
  simp only [chainRows, List.length_append, List.length_cons, List.length_map, List.length_nil, List.length_take, List.length_drop]
  lia
theorem marks_len (many m : Nat) : (marksOf many m).length = m := by simp [marksOf]
theorem marks_at {many m i : Nat} (h : i < m) : (marksOf many m)[i]? = some ((many + i : Nat) : Int) := by
  simp [marksOf, h]
theorem stN_lens {keys : List Key} {ar : Int} {shares : List (List Int)} (S : Shares keys shares) : ∀ i, i ≤ shares.length → (stN keys ar shares i).chains.length ≤ 13 * i ∧ (stN keys ar shares i).rows.length ≤ 3 + 6 * i
  | 0, _ => by
    have := chainRows_len ar (marksOf keys.length shares.length) (by rw [marks_len]; exact S.s0)
    rw [marks_len] at this
    have := S.s1
    simp only [stN, List.length_nil]
    lia
  | i + 1, h => by
    obtain ⟨h1, h2⟩ := stN_lens (ar := ar) S i (by lia)
    have hp : (shares.getD i []).length ≤ 5 := by
      rw [List.getD_eq_getElem?_getD, List.getElem?_eq_getElem (by lia)]
      exact (S.sv _ (List.getElem_mem _)).2.1
    obtain ⟨a, b⟩ := switch_lens keys (shares.getD i []) { stN keys ar shares i with rows := (stN keys ar shares i).rows ++ [.label ((keys.length + i : Nat) : Int)] }
    simp only [List.length_append, List.length_cons, List.length_nil] at a b
    simp only [stN]
    lia
theorem switch_loop {keys : List Key} {shares : List (List Int)} {ar : Int} {A : BA} {ka sa ma : Addr} {σ₀ σ : Sto} {ρ : PEnv} {K : PFlow → PEnv → Sto → Prop} (S : Shares keys shares) (H : BS ar A (stN keys ar shares 0) σ) (O : Old A σ₀ σ) (C : CS A.codes keys σ₀) (hs : ShS σ₀ shares sa) (hm : σ ma = some (.list (il (marksOf keys.length shares.length)))) (mm : ¬ mods A ma)
    (e2 : ρ "shares" = some (.ref sa)) (e3 : ρ "builder" = some (.ref A.b)) (e4 : ρ "marks" = some (.ref ma))
    (h : ∀ ρ' σ', (∀ y, y ≠ "turn" → ρ' y = ρ y) → BS ar A (stN keys ar shares shares.length) σ' → Ext A σ σ' → K .next ρ' σ') : forL "turn" d_b12 (rangeL 0 shares.length) ρ σ K := by
  have sl := sizeLine_big
  have sk1 := S.k1
  have ss1 := S.s1
  have hlen : (rangeL 0 (shares.length : Int)).length = shares.length := by rw [rangeL_length]; lia
  refine forL_inv (I := fun i ρ' σ' => (∀ y, y ≠ "turn" → ρ' y = ρ y) ∧ BS ar A (stN keys ar shares i) σ' ∧ Ext A σ σ') ?_ ?_ _ _ ?_
  · rintro i v ρ' σ' K' hv ⟨r1, H', X'⟩ hK _
    have hi : i < shares.length := by
      have := (List.getElem?_eq_some_iff.mp hv).1
      rwa [hlen] at this
    rw [rangeL_get _ _ _ (by lia)] at hv
    cases hv
    have ei : (0 : Int) + (i : Int) = (i : Int) := by lia
    rw [ei]
    have q1 : ∀ y, y ≠ "turn" → (ρ'.set "turn" (.int i)) y = ρ y := fun y hy => (PEnv.set_ne _ _ hy).trans (r1 y hy)
    have q7 : (ρ'.set "turn" (.int i)) "turn" = some (.int i) := rfl
    have q2 := (q1 "shares" (by decide)).trans e2
    have q3 := (q1 "builder" (by decide)).trans e3
    have q4 := (q1 "marks" (by decide)).trans e4
    generalize ρ'.set "turn" (.int i) = ρ₁ at *
    obtain ⟨sas, s1, s2, s3⟩ := hs.sh
    have hsi : sas[i]? = some sas[i] := List.getElem?_eq_getElem _
    have hsa := s3 _ _ hsi
    have hsl : (sas.map PV.ref)[i]? = some (.ref sas[i]) := by rw [List.getElem?_map, hsi]; rfl
    generalize sas[i] = a at *
    obtain ⟨l1, l2⟩ := stN_lens (ar := ar) S i (by lia)
    have hp : Valid keys (shares.getD i []) ∧ (shares.getD i []).length ≤ 5 ∧ (shares.getD i []).Nodup := by
      rw [List.getD_eq_getElem?_getD, List.getElem?_eq_getElem hi]
      exact S.sv _ (List.getElem_mem hi)
    simp only [d_b12, dSeq, dOp, dName, dVal, dEnd, dExpr, dCall, dMeth, dCons, dNil, dTup, dAttr, dAppend, q2, q3, q4, q7, attr_rows H', List.length_cons, List.length_nil]
    refine ⟨isListP_at H'.rows, ?_⟩
    have hml : (il (marksOf keys.length shares.length))[i]? = some (.int ((keys.length + i : Nat) : Int)) := by rw [List.getElem?_map, marks_at hi]; rfl
    rw [getP_list (X' _ _ mm hm) hml (by lia)]
    refine ⟨sl2, ?_⟩
    rw [rvLabel, app_rows H' (by lia)]
    have H2 := H'.app (.label ((keys.length + i : Nat) : Int))
    have X2 : Ext A σ (σ'.set A.rows (.list (((stN keys ar shares i).rows ++ [Row.label ((keys.length + i : Nat) : Int)]).map rv))) := X'.trans Ext.rows
    generalize σ'.set A.rows (.list (((stN keys ar shares i).rows ++ [Row.label ((keys.length + i : Nat) : Int)]).map rv)) = σ₂ at *
    have O2 := O.ext X2
    simp only [plainK_n]
    refine ⟨meth_b H2 rfl, ?_⟩
    rw [getP_list (O2.keep _ _ s2) hsl (by lia)]
    simp only [listP, O2.keep _ _ hsa]
    refine ⟨by rw [List.length_map]; lia, fun pa hpa => ?_⟩
    have Hn := H2.new (o := .list (il (shares.getD i []))) hpa
    have Xn : Ext A σ₂ (σ₂.set pa (.list (il (shares.getD i [])))) := Ext.new hpa
    have hpn : ¬ mods A pa := H2.not hpa
    dsimp only
    refine ⟨ar, A, _, σ₀, keys, pa, shares.getD i [], rfl, Hn, O2.ext Xn, C, by lia, Sto.set_same .., hpn, by dsimp only; lia, by rw [List.length_append]; simp; lia, hp.1, fun σ₃ H₃ X₃ => ?_⟩
    simp only [plainK_n]
    exact hK _ _ ⟨q1, H₃, X2.trans (Xn.trans X₃)⟩
  · rintro ρ' σ' ⟨r1, H', X'⟩
    rw [hlen] at H'
    exact h _ _ r1 H' X'
  · exact ⟨fun _ _ => rfl, H, .refl⟩
end Mine
namespace Mine
open PySem PySem.W PySem.Calls PyProof.Rows PySem.Spec
noncomputable def wo (fa : Addr) (σ : Sto) : Sto := fun x => if x = fa then none else σ x
theorem wo_le (fa : Addr) (σ : Sto) : Le (wo fa σ) σ := fun x o e => by
  unfold wo at e; split at e
  · cases e
  · exact e
theorem wo_some {fa : Addr} {σ : Sto} {x : Addr} {o : AObj} (h : σ x = some o) (hx : x ≠ fa) : wo fa σ x = some o := by unfold wo; rw [if_neg hx]; exact h
theorem wo_bar {fa : Addr} {σ σ' : Sto} (B : Bar fa σ σ') : Le (wo fa σ) (wo fa σ') := fun x o e => by
  unfold wo at e ⊢; split at e
  · cases e
  · rename_i h; rw [if_neg h]; exact B x o h e
theorem wo_mono {fa : Addr} {σ σ' : Sto} (B : Le σ σ') : Le (wo fa σ) (wo fa σ') := wo_bar fun x o _ e => B x o e
theorem t9_ok {keys : List Key} {shares : List (List Int)} {ar : Int} {ka sa ca fa : Addr} {σ : Sto} {ρ : PEnv} {K : PFlow → PEnv → Sto → Prop} (S : Shares keys shares) (P : PL keys shares ar (stN keys ar shares shares.length)) (hf : Figs fa σ) (C : CS ca keys (wo fa σ)) (hk : wo fa σ ka = some (.list (keys.map kv))) (hs : ShS (wo fa σ) shares sa)
    (e1 : ρ "keys" = some (.ref ka)) (e2 : ρ "shares" = some (.ref sa)) (e3 : ρ "codes" = some (.ref ca)) (e4 : ρ "many" = some (.int keys.length)) (e5 : ρ "figures" = some (.ref fa)) (e6 : ρ "wide" = some (.int ar))
    (h : ∀ ρ' σ', K (.ret (.bool true)) ρ' σ') : d_t9 ρ σ K := by
  have sl := sizeLine_big
  have sk1 := S.k1
  have ss1 := S.s1
  have ss0 := S.s0
  simp only [d_t9, dSeq, dName, dAssign, dCall, dMeth, dCons, dNil, dFor, dForR, PEnv.set_b, String.reduceBEq, cond_true, cond_false, e6, e3, newP]
  intro b d hb hd hbd
  have k1 : Le σ ((σ.set d (.attrs fun _ => none)).set b (.inst 129 d)) := (Le.new hd).tr (Le.new (by rw [Sto.set_ne _ _ hbd]; exact hb))
  have fb : ((σ.set d (.attrs fun _ => none)).set b (.inst 129 d)) b = some (.inst 129 d) := Sto.set_same ..
  have fd : ((σ.set d (.attrs fun _ => none)).set b (.inst 129 d)) d = some (.attrs fun _ => none) := by rw [Sto.set_ne _ _ hbd.symm, Sto.set_same]
  generalize hσ1 : (σ.set d (.attrs fun _ => none)).set b (.inst 129 d) = σ₁ at *
  obtain ⟨ps, c1, c2, c3⟩ := C
  refine ⟨b, d, ar, ca, _, rfl, fb, fd, k1 _ _ (wo_le _ _ _ _ c2), by rw [List.length_map]; lia, ?_⟩
  rintro A σ₂ rfl rfl rfl n1 n2 n3 H k2
  refine ⟨rfl, ?_⟩
  have C : CS A.codes keys (wo fa σ) := ⟨ps, c1, c2, c3⟩
  rw [List.length_map, c1] at H
  have O : Old A (wo fa σ) σ₂ := by
    refine ⟨fun x o e => k2 _ _ (k1 _ _ (wo_le _ _ _ _ e)) ?_, fun x hx => ?_⟩
    · rintro rfl; rw [wo_le _ _ _ _ e] at hd; cases hd
    · have key : ∀ y, σ y = none → wo fa σ y = none := fun y hy => by
        unfold wo
        split
        · rfl
        · exact hy
      rcases hx with rfl | rfl | rfl | rfl
      · exact key _ hd
      · exact key _ (Le.back k1 n1)
      · exact key _ (Le.back k1 n2)
      · exact key _ (Le.back k1 n3)
  have hfm : ¬ mods A fa := by
    obtain ⟨ns, _, e⟩ := hf
    rintro (rfl | rfl | rfl | rfl)
    · rw [hd] at e; cases e
    · rw [Le.back k1 n1] at e; cases e
    · rw [Le.back k1 n2] at e; cases e
    · rw [Le.back k1 n3] at e; cases e
  have hf2 : Figs fa σ₂ := by
    obtain ⟨ns, n, e⟩ := hf
    exact ⟨ns, n, k2 _ _ (k1 _ _ e) (by rintro rfl; exact hfm (.inl rfl))⟩
  have f0 : wo fa σ fa = none := by unfold wo; rw [if_pos rfl]
  -- from here σ₀ := wo fa σ
  generalize hσ0 : wo fa σ = σ₀ at *
  clear k1 k2 fb fd hσ1 hb hd c1 c2 c3 n1 n2 n3 hf hσ0
  obtain ⟨sas, s1, s2, s3⟩ := hs.sh
  have hs2 := O.keep _ _ s2
  simp only [dComp, dItL, dName, PEnv.set_get, String.reduceEq, if_false, e2, hs2]
  refine compL_inv (I := fun i acc σ' => BS ar A ⟨[], [], ((keys.length + i : Nat) : Int)⟩ σ' ∧ Ext A σ₂ σ' ∧ acc = il (marksOf keys.length i)) (fun i acc σ' hI => (O.ext hI.2.1).keep _ _ s2) ?_ ?_ _ ?_
  · rintro i v acc σ' K' hv ⟨H', X', rfl⟩ hK
    have hi : i < sas.length := by
      have := (List.getElem?_eq_some_iff.mp hv).1
      simpa using this
    simp only [dAll, dName, dMeth, dNil, PEnv.set_b, if_true, if_false, String.reduceEq, String.reduceBEq, cond_true, cond_false, hide]
    refine ⟨meth_b H' rfl, ar, A, _, rfl, H', fun σ₃ H₃ X₃ => ?_⟩
    refine ⟨by rw [List.length_map, marks_len]; lia, hK _ _ ⟨H₃, X'.trans X₃, ?_⟩⟩
    simp [marksOf, List.range_succ]
  · rintro acc σ' ⟨H', X', rfl⟩
    rw [List.length_map, s1] at H' ⊢
    refine ⟨by rw [List.length_map, marks_len]; lia, fun ma hma => ?_⟩
    have Hn := H'.new (o := .list (il (marksOf keys.length shares.length))) hma
    have Xn := X'.trans (Ext.new (A := A) (o := .list (il (marksOf keys.length shares.length))) hma)
    have hmm : (σ'.set ma (.list (il (marksOf keys.length shares.length)))) ma = some (.list (il (marksOf keys.length shares.length))) := Sto.set_same ..
    have mn : ¬ mods A ma := H'.not hma
    generalize σ'.set ma (.list (il (marksOf keys.length shares.length))) = σ₃ at *
    dsimp only
    refine ⟨meth_b Hn rfl, ar, A, _, _, marksOf keys.length shares.length, rfl, Hn, .inr ⟨ma, rfl, hmm⟩, by rw [marks_len]; lia, by rw [marks_len]; lia, fun ra hra => ?_⟩
    have Hr := Hn.new (o := .list ((chainRows ar (marksOf keys.length shares.length)).map rv)) hra
    have Xr := Xn.trans (Ext.new (A := A) (o := .list ((chainRows ar (marksOf keys.length shares.length)).map rv)) hra)
    have hrr : (σ₃.set ra (.list ((chainRows ar (marksOf keys.length shares.length)).map rv))) ra = some (.list ((chainRows ar (marksOf keys.length shares.length)).map rv)) := Sto.set_same ..
    have rn : ¬ mods A ra := Hn.not hra
    have hmm2 := Sto.get_new (o := .list ((chainRows ar (marksOf keys.length shares.length)).map rv)) hra hmm
    generalize σ₃.set ra (.list ((chainRows ar (marksOf keys.length shares.length)).map rv)) = σ₄ at *
    have lc := chainRows_len ar (marksOf keys.length shares.length) (by rw [marks_len]; lia)
    rw [marks_len] at lc
    refine app_loop (nm := "builder") (by decide) Hr hrr rn (by simp only [List.length_nil]; lia) rfl fun ρ' σ₅ r1 H₅ X₅ => ?_
    have r2 := r1 "shares" (by decide)
    have r3 := r1 "builder" (by decide)
    have r4 := r1 "marks" (by decide)
    have r5 := r1 "keys" (by decide)
    have r6 := r1 "many" (by decide)
    have r7 := r1 "figures" (by decide)
    have r8 := r1 "wide" (by decide)
    simp only [PEnv.set_get, String.reduceEq, if_true, if_false, e1, e2, e4, e5, e6] at r2 r3 r4 r5 r6 r7 r8
    have X5 := Xr.trans X₅
    have O5 := O.ext X5
    dsimp only
    simp only [r2]
    rw [lenP_list (O5.keep _ _ s2) (by rw [List.length_map]; lia), List.length_map, s1, rngL1 (by lia) (by lia)]
    refine switch_loop (ka := ka) S (ma := ma) (σ₀ := σ₀) (by simpa [stN] using H₅) O5 C hs (X₅ _ _ mn hmm2) mn r2 r3 r4 fun ρ'' σ₆ t1 H₆ X₆ => ?_
    have X6 := X5.trans X₆
    have hf6 : Figs fa σ₆ := by
      obtain ⟨ns, n, e⟩ := hf2
      exact ⟨ns, n, X6 _ _ hfm e⟩
    exact t13_ok P S H₆ (O.ext X6) C f0 hfm hf6 hk hs ((t1 _ (by decide)).trans r5) ((t1 _ (by decide)).trans r2) ((t1 _ (by decide)).trans r3) ((t1 _ (by decide)).trans r6) ((t1 _ (by decide)).trans r7) ((t1 _ (by decide)).trans r8) h
  · exact ⟨by simpa using H, .refl, rfl⟩
end Mine
namespace Mine
open PySem PySem.W PySem.Calls PyProof.Rows PySem.Spec
noncomputable def bitC (bits : Int) (p : Nat) : Bool := decide (Builtin.bitAnd (Int.fdiv bits (2 ^ p)) 1 = 1)
noncomputable def shareOf (bits : Int) (n : Nat) : List Int := ((List.range n).filter (bitC bits)).map fun i => ((i : Nat) : Int)
theorem share_succ (bits : Int) (n : Nat) : shareOf bits (n + 1) = shareOf bits n ++ if bitC bits n then [(n : Int)] else [] := by
  simp only [shareOf, List.range_succ, List.filter_append, List.filter_cons, List.filter_nil, List.map_append]
  cases bitC bits n <;> rfl
theorem share_len (bits : Int) (n : Nat) : (shareOf bits n).length ≤ n := by
  have := List.length_filter_le (bitC bits) (List.range n)
  rw [List.length_range] at this
  rw [shareOf, List.length_map]; exact this
theorem share_nd (bits : Int) (n : Nat) : (shareOf bits n).Nodup := by
  rw [shareOf, List.nodup_iff_pairwise_ne, List.pairwise_map]
  have := List.nodup_iff_pairwise_ne.mp ((List.nodup_range (n := n)).filter (bitC bits))
  exact this.imp fun h e => h (by lia)
theorem share_mem {bits : Int} {n : Nat} {p : Int} (h : p ∈ shareOf bits n) : 0 ≤ p ∧ p < (n : Int) := by
  obtain ⟨i, hi, rfl⟩ := List.mem_map.mp h
  have := List.mem_range.mp (List.mem_filter.mp hi).1
  lia
structure ShI (keys : List Key) (fa sa : Addr) (i : Nat) (σ' : Sto) : Prop where
  ex : ∃ (shares : List (List Int)) (sas : List Addr), shares.length = i ∧ sas.length = i ∧ σ' sa = some (.list (sas.map .ref)) ∧ (∀ ps ∈ shares, Valid keys ps ∧ ps.length ≤ 5 ∧ ps.Nodup) ∧ ∀ (j : Nat) a, sas[j]? = some a → a ≠ fa ∧ a ≠ sa ∧ σ' a = some (.list (il (shares.getD j [])))
theorem t7_ok (PP : ∀ (keys : List Key) (shares : List (List Int)) (ar : Int), Shares keys shares → 1 ≤ ar → ar ≤ 2 → PL keys shares ar (stN keys ar shares shares.length)) {keys : List Key} {ar : Int} {ka ca fa : Addr} {σ : Sto} {ρ : PEnv} {K : PFlow → PEnv → Sto → Prop} (k0 : 1 ≤ keys.length) (k1 : keys.length ≤ 5) (kg : ∀ k ∈ keys, KeyGood k) (a1 : 1 ≤ ar) (a2 : ar ≤ 2) (hf : Figs fa σ) (C : CS ca keys (wo fa σ)) (hk : wo fa σ ka = some (.list (keys.map kv)))
    (e1 : ρ "keys" = some (.ref ka)) (e3 : ρ "codes" = some (.ref ca)) (e4 : ρ "many" = some (.int keys.length)) (e5 : ρ "figures" = some (.ref fa)) (e6 : ρ "wide" = some (.int ar))
    (h : ∀ ρ' σ', K (.ret (.bool true)) ρ' σ') : d_t7 ρ σ K := by
  have sl := sizeLine_big
  simp only [d_t7, dSeq, dOp, dName, dVal, dAssign, dCall, dCons, dNil, dList, dForR, PEnv.set_b, String.reduceBEq, cond_false]
  refine ⟨sl0, fun sa hsa => ?_⟩
  dsimp only
  have l1 : Le σ (σ.set sa (.list [])) := Le.new hsa
  have sf : sa ≠ fa := by
    obtain ⟨ns, _, e⟩ := hf
    rintro rfl; rw [hsa] at e; cases e
  have hf1 : Figs fa (σ.set sa (.list [])) := by
    obtain ⟨ns, n, e⟩ := hf
    exact ⟨ns, n, l1 _ _ e⟩
  simp only [e5]
  refine ⟨fa, 2, rfl, by decide, hf1, fun r σ₁ hr0 hr1 hf2 B1 => ?_⟩
  have hs1 : σ₁ sa = some (.list []) := B1 _ _ sf (Sto.set_same ..)
  have w1 : Le (wo fa σ) (wo fa σ₁) := (wo_mono l1).tr (wo_bar B1)
  have hw : wo fa σ sa = none := by unfold wo; rw [if_neg sf]; exact hsa
  rw [addP_i, rngL1 (by lia) (by lia)]
  have hlen : (rangeL 0 (2 + r)).length = (2 + r).toNat := by rw [rangeL_length]; lia
  refine forL_inv (I := fun i ρ' σ' => (∀ y, y ≠ "turn" → y ≠ "bits" → ρ' y = (ρ.set "shares" (.ref sa)) y) ∧ Figs fa σ' ∧ Le (wo fa σ) (wo fa σ') ∧ ShI keys fa sa i σ') ?_ ?_ _ _ ?_
  · rintro i v ρ' σ' K' hv ⟨r1, f1, w, ⟨shares, sas, h1, h2, h3, h4, h5⟩⟩ hK _
    have hi : i < (2 + r).toNat := by
      have := (List.getElem?_eq_some_iff.mp hv).1
      rwa [hlen] at this
    rw [rangeL_get _ _ _ (by lia)] at hv
    cases hv
    have q1 := r1 "figures" (by decide) (by decide)
    have q2 := r1 "shares" (by decide) (by decide)
    have q3 := r1 "many" (by decide) (by decide)
    simp only [PEnv.set_get, String.reduceEq, if_true, if_false, e5, e4] at q1 q2 q3
    have t1 : ∀ (bits : Int) y, y ≠ "turn" → y ≠ "bits" → ((ρ'.set "turn" (.int (0 + (i : Int)))).set "bits" (.int bits)) y = (ρ.set "shares" (.ref sa)) y := fun bits y h1 h2 => (PEnv.set_ne _ _ h2).trans ((PEnv.set_ne _ _ h1).trans (r1 y h1 h2))
    simp only [d_b8, dSeq, dOp, dName, dVal, dEnd, dAssign, dExpr, dCall, dCons, dNil, dAppend, PEnv.set_b, String.reduceBEq, cond_false, q1]
    refine ⟨fa, 32, rfl, by decide, f1, fun rb σ₂ _ _ f2 B2 => ?_⟩
    have w2 := w.tr (wo_bar B2)
    simp only [q2]
    have h3' := B2 _ _ sf h3
    refine ⟨⟨_, h3'⟩, ?_⟩
    have t2 := t1 (31 - rb)
    generalize hρ₂ : (ρ'.set "turn" (.int (0 + (i : Int)))).set "bits" (.int (31 - rb)) = ρ₂ at *
    have qm := (t2 "many" (by decide) (by decide))
    have qb : ρ₂ "bits" = some (.int (31 - rb)) := by rw [← hρ₂]; rfl
    simp only [PEnv.set_get, String.reduceEq, if_false, e4] at qm
    simp only [dComp, dItR, dName, dCons, dNil, qm]
    rw [rngL1 (by lia) (by lia)]
    have hlen2 : (rangeL 0 (keys.length : Int)).length = keys.length := by rw [rangeL_length]; lia
    refine compL_inv (I := fun j acc σ'' => σ'' = σ₂ ∧ acc = il (shareOf (31 - rb) j)) (fun _ _ _ _ => trivial) ?_ ?_ _ ⟨rfl, rfl⟩
    · rintro j v acc σ'' K'' hv ⟨rfl, rfl⟩ hK2
      have hj : j < keys.length := by
        have := (List.getElem?_eq_some_iff.mp hv).1
        rwa [hlen2] at this
      rw [rangeL_get _ _ _ (by lia)] at hv
      cases hv
      have ej : (0 : Int) + (j : Int) = (j : Int) := by lia
      have hj0 : (0 : Int) ≤ (j : Int) := by lia
      have hle := share_len (31 - rb) j
      rw [ej]
      simp only [dTest, dOp, dName, dVal, PEnv.set_b, if_false, String.reduceEq, truP_b, true_and, String.reduceBEq, cond_true, cond_false, hide, qb, shrP, andP, eqP_int, id, hj0, Int.toNat_natCast]
      have hc : decide (Builtin.bitAnd (Int.fdiv (31 - rb) (2 ^ j)) 1 = 1) = bitC (31 - rb) j := rfl
      rw [hc]
      cases hb : bitC (31 - rb) j with
      | true =>
        simp only [if_true]
        exact ⟨by rw [List.length_map]; lia, hK2 _ _ ⟨rfl, by rw [share_succ, hb]; simp⟩⟩
      | false =>
        simp only [if_false, Bool.false_eq_true]
        exact hK2 _ _ ⟨rfl, by rw [share_succ, hb]; simp⟩
    · rintro acc σ'' ⟨rfl, rfl⟩
      rw [hlen2]
      have hle := share_len (31 - rb) keys.length
      refine ⟨by rw [List.length_map]; lia, fun na hna => ?_⟩
      have g1 : (σ''.set na (.list (il (shareOf (31 - rb) keys.length)))) sa = some (.list (sas.map .ref)) := Sto.get_new hna h3'
      have n1 : na ≠ fa := by
        obtain ⟨ns, _, e⟩ := f2
        rintro rfl; rw [hna] at e; cases e
      have n2 : na ≠ sa := by rintro rfl; rw [hna] at h3'; cases h3'
      dsimp only
      rw [appP_at g1 (by rw [List.length_map]; lia)]
      simp only [plainK_n]
      refine hK _ _ ⟨t2, ?_, ?_, ⟨shares ++ [shareOf (31 - rb) keys.length], sas ++ [na], by simp [h1], by simp [h2], ?_, ?_, ?_⟩⟩
      · obtain ⟨ns, n, e⟩ := f2
        exact ⟨ns, n, by rw [Sto.set_ne _ _ sf.symm]; exact Sto.get_new hna e⟩
      · intro x o e
        have xs : x ≠ sa := by rintro rfl; rw [hw] at e; cases e
        have e2 := w2 _ _ e
        have xf : x ≠ fa := by rintro rfl; unfold wo at e2; simp at e2
        exact wo_some (by rw [Sto.set_ne _ _ xs]; exact Sto.get_new hna (wo_le _ _ _ _ e2)) xf
      · rw [Sto.set_same]; simp
      · intro ps hps
        rcases List.mem_append.mp hps with hps | hps
        · exact h4 ps hps
        · cases List.mem_singleton.mp hps
          exact ⟨fun p hp => share_mem hp, by lia, share_nd _ _⟩
      · intro j a hj
        by_cases hjl : j < sas.length
        · rw [List.getElem?_append_left hjl] at hj
          obtain ⟨x1, x2, x3⟩ := h5 j a hj
          have : (shares ++ [shareOf (31 - rb) keys.length]).getD j [] = shares.getD j [] := by
            simp only [List.getD_eq_getElem?_getD]
            rw [List.getElem?_append_left (by lia)]
          rw [this]
          refine ⟨x1, x2, ?_⟩
          rw [Sto.set_ne _ _ x2]
          exact Sto.get_new hna (B2 _ _ x1 x3)
        · have hje : j = sas.length := by
            have := (List.getElem?_eq_some_iff.mp hj).1
            simp at this; lia
          subst hje
          simp only [List.getElem?_concat_length, Option.some.injEq] at hj
          subst hj
          refine ⟨n1, n2, ?_⟩
          rw [Sto.set_ne _ _ n2, Sto.set_same]
          have : (shares ++ [shareOf (31 - rb) keys.length]).getD sas.length [] = shareOf (31 - rb) keys.length := by
            rw [h2, ← h1]; simp
          rw [this]
  · rintro ρ' σ' ⟨r1, f1, w, ⟨shares, sas, h1, h2, h3, h4, h5⟩⟩
    rw [hlen] at h1 h2
    have S : Shares keys shares := ⟨k0, k1, kg, by lia, by lia, h4⟩
    have hs : ShS (wo fa σ') shares sa := ⟨sas, by lia, wo_some h3 sf, fun i a e => wo_some (h5 i a e).2.2 (h5 i a e).1⟩
    have q1 := r1 "figures" (by decide) (by decide)
    have q2 := r1 "shares" (by decide) (by decide)
    have q3 := r1 "many" (by decide) (by decide)
    have q4 := r1 "keys" (by decide) (by decide)
    have q5 := r1 "codes" (by decide) (by decide)
    have q6 := r1 "wide" (by decide) (by decide)
    simp only [PEnv.set_get, String.reduceEq, if_true, if_false, e1, e3, e5, e4, e6] at q1 q2 q3 q4 q5 q6
    refine t9_ok S (PP _ _ _ S a1 a2) f1 ?_ (w _ _ hk) hs q4 q2 q5 q3 q1 q6 h
    obtain ⟨ps, c1, c2, c3⟩ := C
    refine ⟨ps, c1, w _ _ c2, fun i p k hp hk' => ?_⟩
    obtain ⟨x1, m, x2, x3, x4, x5⟩ := c3 i p k hp hk'
    exact ⟨w _ _ x1, m, w _ _ x2, x3, x4, w _ _ x5⟩
  · exact ⟨fun _ _ _ => rfl, hf2, w1, ⟨[], [], rfl, rfl, hs1, fun _ h => by simp at h, fun j a h => by simp at h⟩⟩
end Mine
namespace Mine
open PySem PySem.W PySem.Calls PyProof.Rows PySem.Spec
structure CSI (σ : Sto) (ca : Addr) (keys : List Key) (i : Nat) (σ' : Sto) : Prop where
  ex : ∃ ps : List (Addr × Addr × Addr), ps.length = i ∧ σ' ca = some (.list (ps.map fun p => .ref p.1)) ∧
    ∀ (j : Nat) p k, ps[j]? = some p → keys[j]? = some k → (σ p.1 = none ∧ σ p.2.1 = none ∧ σ p.2.2 = none) ∧ σ' p.1 = some (.inst 178 p.2.1) ∧ ∃ m, σ' p.2.1 = some (.attrs m) ∧ m "key" = some (kv k) ∧ m "instrs" = some (.ref p.2.2) ∧ σ' p.2.2 = some (.list [rv (.exec j)])
noncomputable abbrev PlainLaw : Prop := ∀ (keys : List Key) (shares : List (List Int)) (ar : Int), Shares keys shares → 1 ≤ ar → ar ≤ 2 → PL keys shares ar (stN keys ar shares shares.length)
theorem codes_loop {keys : List Key} {ar : Int} {ka ca : Addr} {σ : Sto} {ρ : PEnv} {K : PFlow → PEnv → Sto → Prop} (k1 : keys.length ≤ 5) (hc : σ ca = some (.list [])) (hk : σ ka = some (.list (keys.map kv)))
    (e1 : ρ "keys" = some (.ref ka)) (e3 : ρ "codes" = some (.ref ca)) (e6 : ρ "wide" = some (.int ar))
    (h : ∀ ρ' σ', (∀ y, y ≠ "place" → ρ' y = ρ y) → (∀ x o, x ≠ ca → σ x = some o → σ' x = some o) → CSI σ ca keys keys.length σ' → K .next ρ' σ') : forL "place" d_b6 (rangeL 0 keys.length) ρ σ K := by
  have sl := sizeLine_big
  have nka : ka ≠ ca ∨ keys = [] := by
    by_cases hh : ka = ca
    · rw [hh, hc] at hk
      right
      have : [] = keys.map kv := by injection hk with e; injection e
      exact List.map_eq_nil_iff.mp this.symm
    · exact .inl hh
  have hlen : (rangeL 0 (keys.length : Int)).length = keys.length := by rw [rangeL_length]; lia
  refine forL_inv (I := fun i ρ' σ' => (∀ y, y ≠ "place" → ρ' y = ρ y) ∧ (∀ x o, x ≠ ca → σ x = some o → σ' x = some o) ∧ CSI σ ca keys i σ') ?_ ?_ _ _ ?_
  · rintro i v ρ' σ' K' hv ⟨r1, r2, ⟨ps, p1, p2, p3⟩⟩ hK _
    have hi : i < keys.length := by
      have := (List.getElem?_eq_some_iff.mp hv).1
      rwa [hlen] at this
    rw [rangeL_get _ _ _ (by lia)] at hv
    cases hv
    have ei : (0 : Int) + (i : Int) = (i : Int) := by lia
    rw [ei]
    have nk : ka ≠ ca := nka.resolve_right (by rintro rfl; simp at hi)
    have hk' := r2 _ _ nk hk
    have q1 := (r1 "keys" (by decide)).trans e1
    have q3 := (r1 "codes" (by decide)).trans e3
    have q6 := (r1 "wide" (by decide)).trans e6
    have hki : keys[i]? = some keys[i] := List.getElem?_eq_getElem hi
    have hkl : (keys.map kv)[i]? = some (kv keys[i]) := by rw [List.getElem?_map, hki]; rfl
    have back : ∀ x, σ' x = none → x ≠ ca → σ x = none := fun x hx hxc => by
      cases q : σ x with
      | none => rfl
      | some o => rw [r2 _ _ hxc q] at hx; cases hx
    generalize keys[i] = k at *
    simp only [d_b6, dSeq, dOp, dName, dVal, dEnd, dExpr, dCall, dCons, dNil, dTup, dList, dAppend, PEnv.set_b, String.reduceBEq, cond_true, cond_false, q1, q3, q6]
    refine ⟨⟨_, p2⟩, ?_⟩
    rw [getP_list hk' hkl (by lia)]
    simp only [List.length_cons, List.length_nil, Nat.reduceAdd, sl2, true_and]
    refine ⟨sl1, fun l hl => ?_⟩
    dsimp only
    simp only [newP]
    intro a d ha hd had
    have la : l ≠ a := by rintro rfl; rw [Sto.set_same] at ha; cases ha
    have ld : l ≠ d := by rintro rfl; rw [Sto.set_same] at hd; cases hd
    rw [Sto.set_ne _ _ la.symm] at ha
    rw [Sto.set_ne _ _ ld.symm] at hd
    have cl : ca ≠ l := by rintro rfl; rw [p2] at hl; cases hl
    have cca : ca ≠ a := by rintro rfl; rw [p2] at ha; cases ha
    have cd : ca ≠ d := by rintro rfl; rw [p2] at hd; cases hd
    refine ⟨a, d, 6, ar, k, l, rfl, Sto.set_same .., by rw [Sto.set_ne _ _ had.symm, Sto.set_same], rfl, ?_⟩
    generalize hσ₂ : (((σ'.set l (.list [.tup [.str (Str.ofString "execute"), .int i]])).set d (.attrs fun _ => none)).set a (.inst 178 d)).set d (.attrs (ccAttrs 6 ar k l)) = σ₂
    have old : ∀ x o, σ' x = some o → σ₂ x = some o := fun x o e => by
      have x1 : x ≠ l := by rintro rfl; rw [hl] at e; cases e
      have x2 : x ≠ d := by rintro rfl; rw [hd] at e; cases e
      have x3 : x ≠ a := by rintro rfl; rw [ha] at e; cases e
      rw [← hσ₂, Sto.set_ne _ _ x2, Sto.set_ne _ _ x3, Sto.set_ne _ _ x2, Sto.set_ne _ _ x1]; exact e
    have ga : σ₂ a = some (.inst 178 d) := by rw [← hσ₂, Sto.set_ne _ _ had, Sto.set_same]
    have gd : σ₂ d = some (.attrs (ccAttrs 6 ar k l)) := by rw [← hσ₂, Sto.set_same]
    have gl : σ₂ l = some (.list [rv (.exec i)]) := by rw [← hσ₂, Sto.set_ne _ _ ld, Sto.set_ne _ _ la, Sto.set_ne _ _ ld, Sto.set_same]; rfl
    rw [appP_at (old _ _ p2) (by rw [List.length_map]; lia)]
    simp only [plainK_n]
    refine hK _ _ ⟨fun y hy => (PEnv.set_ne _ _ hy).trans (r1 y hy), fun x o hx e => ?_, ⟨ps ++ [(a, d, l)], by simp [p1], by rw [Sto.set_same]; simp, ?_⟩⟩
    · rw [Sto.set_ne _ _ hx]; exact old _ _ (r2 x o hx e)
    · intro j p k' hj hk2
      by_cases hjl : j < ps.length
      · rw [List.getElem?_append_left hjl] at hj
        obtain ⟨⟨n1, n2, n3⟩, x1, m, x2, x3, x4, x5⟩ := p3 j p k' hj hk2
        have f : ∀ x, σ x = none → x ≠ ca := fun x hx => by rintro rfl; rw [hc] at hx; cases hx
        refine ⟨⟨n1, n2, n3⟩, ?_, m, ?_, x3, x4, ?_⟩
        · rw [Sto.set_ne _ _ (f _ n1)]; exact old _ _ x1
        · rw [Sto.set_ne _ _ (f _ n2)]; exact old _ _ x2
        · rw [Sto.set_ne _ _ (f _ n3)]; exact old _ _ x5
      · have hje : j = ps.length := by
          have := (List.getElem?_eq_some_iff.mp hj).1
          simp at this; lia
        subst hje
        simp only [List.getElem?_concat_length, Option.some.injEq] at hj
        subst hj
        rw [p1, hki] at hk2
        cases hk2
        refine ⟨⟨back _ ha cca.symm, back _ hd cd.symm, back _ hl cl.symm⟩, ?_, ccAttrs 6 ar k l, ?_, rfl, rfl, ?_⟩
        · rw [Sto.set_ne _ _ cca.symm]; exact ga
        · rw [Sto.set_ne _ _ cd.symm]; exact gd
        · rw [Sto.set_ne _ _ cl.symm, p1]; exact gl
  · rintro ρ' σ' ⟨r1, r2, r3⟩
    rw [hlen] at r3
    exact h _ _ r1 r2 r3
  · exact ⟨fun _ _ => rfl, fun _ _ _ e => e, ⟨[], rfl, hc, fun j p k h => by simp at h⟩⟩
end Mine
namespace Mine
open PySem PySem.W PySem.Calls PyProof.Rows PySem.Spec
theorem t4_ok (PP : PlainLaw) {n : Nat} {ar : Int} {fa : Addr} {σ : Sto} {ρ : PEnv} {K : PFlow → PEnv → Sto → Prop} (k0 : 1 ≤ n) (k1 : n ≤ 5) (a1 : 1 ≤ ar) (a2 : ar ≤ 2) (hf : Figs fa σ)
    (e4 : ρ "many" = some (.int n)) (e5 : ρ "figures" = some (.ref fa)) (e6 : ρ "wide" = some (.int ar))
    (h : ∀ ρ' σ', K (.ret (.bool true)) ρ' σ') : d_t4 ρ σ K := by
  have sl := sizeLine_big
  have hlen : (rangeL 0 (n : Int)).length = n := by rw [rangeL_length]; lia
  simp only [d_t4, dSeq, dName, dAssign, dCons, dNil, dList, dForR, PEnv.set_b, String.reduceBEq, cond_false, dComp, dItR, e4]
  rw [rngL1 (by lia) (by lia)]
  refine compL_inv (I := fun i acc σ' => Figs fa σ' ∧ ∃ keys : List Key, keys.length = i ∧ acc = keys.map kv ∧ ∀ k ∈ keys, KeyGood k) (fun _ _ _ _ => trivial) ?_ ?_ _ ⟨hf, [], rfl, rfl, fun _ h => by simp at h⟩
  · rintro i v acc σ' K' hv ⟨f1, keys, h1, rfl, h3⟩ hK
    have hi : i < n := by
      have := (List.getElem?_eq_some_iff.mp hv).1
      rwa [hlen] at this
    rw [rangeL_get _ _ _ (by lia)] at hv
    cases hv
    simp only [dAll, dName, dCall, dCons, dNil, PEnv.set_b, if_true, if_false, String.reduceEq, String.reduceBEq, cond_false, hide, e5]
    refine ⟨fa, rfl, f1, fun k σ₂ hk f2 _ => ⟨by rw [List.length_map]; lia, hK _ _ ⟨f2, keys ++ [k], by simp [h1], by simp, fun q hq => ?_⟩⟩⟩
    rcases List.mem_append.mp hq with hq | hq
    · exact h3 q hq
    · cases List.mem_singleton.mp hq; exact hk
  · rintro acc σ' ⟨⟨ns, n1, n2⟩, keys, h1, rfl, h3⟩
    rw [hlen] at h1
    refine ⟨by rw [List.length_map]; lia, fun ka hka => ?_⟩
    have nka : ka ≠ fa := by rintro rfl; rw [hka] at n2; cases n2
    have g1 : (σ'.set ka (.list (keys.map kv))) ka = some (.list (keys.map kv)) := Sto.set_same ..
    have g2 := Sto.get_new (o := .list (keys.map kv)) hka n2
    generalize σ'.set ka (.list (keys.map kv)) = σ₁ at *
    refine ⟨sl0, fun ca hca => ?_⟩
    have g3 := Sto.get_new (o := .list []) hca g1
    have g4 := Sto.get_new (o := .list []) hca g2
    have g5 : (σ₁.set ca (.list [])) ca = some (.list []) := Sto.set_same ..
    have nca : ca ≠ fa := by rintro rfl; rw [hca] at g2; cases g2
    have nck : ka ≠ ca := by rintro rfl; rw [hca] at g1; cases g1
    generalize σ₁.set ca (.list []) = σ₂ at *
    dsimp only
    rw [rngL1 (by lia) (by lia), ← h1]
    refine codes_loop (ar := ar) (ka := ka) (ca := ca) (by lia) g5 g3 rfl rfl e6 fun ρ' σ₃ r1 r2 ⟨ps, p1, p2, p3⟩ => ?_
    have q1 := r1 "keys" (by decide)
    have q2 := r1 "codes" (by decide)
    have q3 := r1 "many" (by decide)
    have q4 := r1 "figures" (by decide)
    have q5 := r1 "wide" (by decide)
    simp only [PEnv.set_get, String.reduceEq, if_true, if_false, e4, e5, e6] at q1 q2 q3 q4 q5
    have ff : ∀ x, σ₂ x = none → x ≠ fa := fun x hx => by rintro rfl; rw [g4] at hx; cases hx
    refine t7_ok PP (keys := keys) (by lia) (by lia) h3 a1 a2 ⟨ns, n1, r2 _ _ nca.symm g4⟩ ⟨ps, p1, wo_some p2 nca, fun i p k hp hk => ?_⟩ (wo_some (r2 _ _ nck g3) nka) q1 q2 (by rw [q3, h1]) q4 q5 h
    obtain ⟨⟨x1, x2, x3⟩, y1, m, y2, y3, y4, y5⟩ := p3 i p k hp hk
    exact ⟨wo_some y1 (ff _ x1), m, wo_some y2 (ff _ x2), y3, y4, wo_some y5 (ff _ x3)⟩
theorem law_ok (PP : PlainLaw) {ns : List Int} {σ : Sto} {ρ : PEnv} {K : PFlow → PEnv → Sto → Prop} (e : ρ "script" = some (.scr ns)) (h : ∀ ρ' σ', K (.ret (.bool true)) ρ' σ') : d_law S_met S_tried S_assemble S_draw S_finish S_switch S_chain_rows S_fresh S_Builder S_ClauseCode S_key_drawn S_figures ρ σ K := by
  have sl := sizeLine_big
  rw [d_law_eq]
  simp only [dSeq, dOp, dName, dVal, dAssign, dCall, dCons, dNil, dList, PEnv.set_b, String.reduceBEq, cond_true, cond_false, e]
  refine ⟨ns, rfl, fun fa σ₁ _ f1 _ => ?_⟩
  refine ⟨fa, 2, rfl, by decide, f1, fun r σ₂ r0 r1 f2 _ => ?_⟩
  refine ⟨sl5, fun la hla => ?_⟩
  have hl : (σ₂.set la (.list [.int 3, .int 2, .int 4, .int 5, .int 1])) la = some (.list [.int 3, .int 2, .int 4, .int 5, .int 1]) := Sto.set_same ..
  have nla : la ≠ fa := by obtain ⟨ns, _, e⟩ := f2; rintro rfl; rw [hla] at e; cases e
  have f3 : Figs fa (σ₂.set la (.list [.int 3, .int 2, .int 4, .int 5, .int 1])) := by
    obtain ⟨ns, n, e⟩ := f2
    exact ⟨ns, n, Sto.get_new hla e⟩
  generalize σ₂.set la (.list [.int 3, .int 2, .int 4, .int 5, .int 1]) = σ₃ at *
  refine ⟨fa, 5, rfl, by decide, f3, fun q σ₄ q0 q1 f4 B4 => ?_⟩
  have hl4 := B4 _ _ nla hl
  have hq : ∃ n : Nat, 1 ≤ n ∧ n ≤ 5 ∧ [PV.int 3, .int 2, .int 4, .int 5, .int 1][q.toNat]? = some (.int (n : Int)) := by
    have : q = 0 ∨ q = 1 ∨ q = 2 ∨ q = 3 ∨ q = 4 := by lia
    rcases this with rfl | rfl | rfl | rfl | rfl
    · exact ⟨3, by lia, by lia, rfl⟩
    · exact ⟨2, by lia, by lia, rfl⟩
    · exact ⟨4, by lia, by lia, rfl⟩
    · exact ⟨5, by lia, by lia, rfl⟩
    · exact ⟨1, by lia, by lia, rfl⟩
  obtain ⟨n, n1, n2, n3⟩ := hq
  have eq : q = (q.toNat : Int) := by lia
  rw [eq, getP_list hl4 n3 (by lia)]
  exact t4_ok PP n1 n2 (by lia) (by lia) f4 rfl rfl rfl h
end Mine
namespace Mine
open PySem PySem.W PySem.Calls PyProof.Rows PySem.Spec
noncomputable def Den (n : Nat) (cs : List (Int × List Int)) (l : Int) (ps : List Int) : Prop :=
  (ps = [] ∧ l = -1) ∨ (ps = [l] ∧ 0 ≤ l ∧ l < (n : Int)) ∨ (2 ≤ ps.length ∧ (l, ps) ∈ cs)
theorem Den.mono {n : Nat} {cs cs' : List (Int × List Int)} {l : Int} {ps : List Int} (h : Den n cs l ps) (s : ∀ c ∈ cs, c ∈ cs') : Den n cs' l ps := by
  rcases h with h | h | ⟨h1, h2⟩
  · exact .inl h
  · exact .inr (.inl h)
  · exact .inr (.inr ⟨h1, s _ h2⟩)
noncomputable def VP (n : Nat) (ps : List Int) : Prop := ps.length ≤ 5 ∧ ∀ p ∈ ps, 0 ≤ p ∧ p < (n : Int)
theorem VP.filter {n : Nat} {ps : List Int} (h : VP n ps) (f : Int → Bool) : VP n (ps.filter f) :=
  ⟨Nat.le_trans (List.length_filter_le _ _) h.1, fun p hp => h.2 p (List.mem_filter.mp hp).1⟩
structure Inv (n : Nat) (used : List Int) (st : BState) : Prop where
  nd : (st.chains.map (·.1) ++ used).Nodup
  rng : ∀ x ∈ st.chains.map (·.1) ++ used, (n : Int) ≤ x ∧ x < st.next
  ch : ∀ c ∈ st.chains, 2 ≤ c.2.length ∧ VP n c.2
  nx : (n : Int) ≤ st.next
theorem Inv.rows {n : Nat} {used : List Int} {st : BState} (I : Inv n used st) (r : List Row) : Inv n used { st with rows := r } := ⟨I.nd, I.rng, I.ch, I.nx⟩
theorem Inv.perm {n : Nat} {used used' : List Int} {st : BState} (I : Inv n used st) (p : used.Perm used') : Inv n used' st :=
  ⟨(p.append_left _).nodup_iff.mp I.nd, fun x hx => I.rng x ((p.append_left _).mem_iff.mpr hx), I.ch, I.nx⟩
theorem Inv.next_new {n : Nat} {used : List Int} {st : BState} (I : Inv n used st) : st.next ∉ st.chains.map (·.1) ++ used := fun h => by
  have := (I.rng _ h).2
  lia
theorem Inv.fresh {n : Nat} {used : List Int} {st : BState} (I : Inv n used st) : Inv n (used ++ [st.next]) { st with next := st.next + 1 } := by
  have p : (st.chains.map (·.1) ++ (used ++ [st.next])).Perm (st.next :: (st.chains.map (·.1) ++ used)) := by
    rw [← List.append_assoc]; exact List.perm_append_singleton _ _
  refine ⟨p.nodup_iff.mpr (List.nodup_cons.mpr ⟨I.next_new, I.nd⟩), fun x hx => ?_, I.ch, by have := I.nx; dsimp only; lia⟩
  rcases List.mem_cons.mp (p.mem_iff.mp hx) with rfl | hx
  · have := I.nx; dsimp only; lia
  · have := I.rng x hx; dsimp only; lia
theorem chain_ok {n : Nat} {used : List Int} {st : BState} {ps : List Int} (I : Inv n used st) (v : VP n ps) : Inv n used (st.chain ps).2 ∧ Den n (st.chain ps).2.chains (st.chain ps).1 ps ∧ ∀ c ∈ st.chains, c ∈ (st.chain ps).2.chains := by
  match ps, v with
  | [], _ => exact ⟨I, .inl ⟨rfl, rfl⟩, fun _ h => h⟩
  | [p], v => exact ⟨I, .inr (.inl ⟨rfl, v.2 p (by simp)⟩), fun _ h => h⟩
  | p :: q :: r, v =>
    unfold BState.chain
    dsimp only
    split
    · rename_i c hc
      have h1 := List.find?_some hc
      simp only [decide_eq_true_eq] at h1
      exact ⟨I, .inr (.inr ⟨by simp, h1 ▸ List.mem_of_find?_eq_some hc⟩), fun _ h => h⟩
    · refine ⟨⟨?_, ?_, ?_, ?_⟩, .inr (.inr ⟨by simp, by simp⟩), fun c h => by simp [h]⟩
      · have pm : (((st.chains ++ [(st.next, p :: q :: r)]).map (·.1)) ++ used).Perm (st.next :: (st.chains.map (·.1) ++ used)) := by
          rw [List.map_append, List.append_assoc]
          exact List.perm_middle
        exact pm.nodup_iff.mpr (List.nodup_cons.mpr ⟨I.next_new, I.nd⟩)
      · intro x hx
        have nx := I.nx
        have : x = st.next ∨ x ∈ st.chains.map (·.1) ++ used := by
          simp only [List.map_append, List.mem_append, List.map_cons, List.map_nil, List.mem_singleton] at hx ⊢
          rcases hx with (h | h) | h
          · exact .inr (.inl h)
          · exact .inl h
          · exact .inr (.inr h)
        rcases this with rfl | h
        · dsimp only; lia
        · have := I.rng x h; dsimp only; lia
      · intro c hc
        rcases List.mem_append.mp hc with hc | hc
        · exact I.ch c hc
        · cases List.mem_singleton.mp hc
          exact ⟨by simp, v⟩
      · have := I.nx; dsimp only; lia
structure Tab (n : Nat) (keys : List Key) (ps : List Int) (con : Bool) (cs : List (Int × List Int)) (done : List Int) (t : List (KA × Int)) : Prop where
  nd : (t.map (·.1)).Nodup
  mem : ∀ x ∈ t, ∃ q ∈ ps, (kAt keys q).isKind con = true ∧ x.1 = (kAt keys q).arg ∧ Den n cs x.2 (fit keys (kAt keys q) ps)
  all : ∀ q ∈ done, (kAt keys q).isKind con = true → ∃ x ∈ t, x.1 = (kAt keys q).arg
theorem Tab.mono {n : Nat} {keys : List Key} {ps : List Int} {con : Bool} {cs cs' : List (Int × List Int)} {done : List Int} {t : List (KA × Int)} (h : Tab n keys ps con cs done t) (s : ∀ c ∈ cs, c ∈ cs') : Tab n keys ps con cs' done t :=
  ⟨h.nd, fun x hx => let ⟨q, h1, h2, h3, h4⟩ := h.mem x hx; ⟨q, h1, h2, h3, h4.mono s⟩, h.all⟩
theorem tab_step {n : Nat} {used : List Int} {keys : List Key} {ps : List Int} {con : Bool} {acc : BState × List (KA × Int)} {done : List Int} {p : Int} (hp : p ∈ ps) (v : VP n ps) (I : Inv n used acc.1) (T : Tab n keys ps con acc.1.chains done acc.2) :
    Inv n used (tabStep keys ps con acc p).1 ∧ Tab n keys ps con (tabStep keys ps con acc p).1.chains (done ++ [p]) (tabStep keys ps con acc p).2 ∧ ∀ c ∈ acc.1.chains, c ∈ (tabStep keys ps con acc p).1.chains := by
  unfold tabStep
  split
  · rename_i hc
    simp only [Bool.and_eq_true, Bool.not_eq_true', List.any_eq_false, decide_eq_true_eq] at hc
    obtain ⟨c1, c2⟩ := hc
    obtain ⟨i1, i2, i3⟩ := chain_ok I (v.filter fun q => matchK (kAt keys q) (kAt keys p))
    refine ⟨i1, ⟨?_, ?_, ?_⟩, i3⟩
    · rw [List.map_append, List.map_cons, List.map_nil, (List.perm_append_singleton _ _).nodup_iff, List.nodup_cons]
      refine ⟨fun h => ?_, T.nd⟩
      obtain ⟨x, hx, e⟩ := List.mem_map.mp h
      exact c2 x hx e
    · intro x hx
      rcases List.mem_append.mp hx with hx | hx
      · obtain ⟨q, h1, h2, h3, h4⟩ := T.mem x hx
        exact ⟨q, h1, h2, h3, h4.mono i3⟩
      · cases List.mem_singleton.mp hx
        exact ⟨p, hp, c1, rfl, i2⟩
    · intro q hq hk
      rcases List.mem_append.mp hq with hq | hq
      · obtain ⟨x, h1, h2⟩ := T.all q hq hk
        exact ⟨x, by simp [h1], h2⟩
      · cases List.mem_singleton.mp hq
        exact ⟨_, List.mem_append_right _ (List.mem_singleton.mpr rfl), rfl⟩
  · rename_i hc
    refine ⟨I, ⟨T.nd, T.mem, fun q hq hk => ?_⟩, fun _ h => h⟩
    rcases List.mem_append.mp hq with hq | hq
    · exact T.all q hq hk
    · cases List.mem_singleton.mp hq
      simp only [hk, Bool.true_and, Bool.not_eq_true', Bool.not_eq_false, List.any_eq_true, decide_eq_true_eq] at hc
      exact hc
theorem tab_fold {n : Nat} {used : List Int} {keys : List Key} {ps : List Int} {con : Bool} (v : VP n ps) : ∀ (l : List Int) (acc : BState × List (KA × Int)) (done : List Int), (∀ p ∈ l, p ∈ ps) → Inv n used acc.1 → Tab n keys ps con acc.1.chains done acc.2 →
    Inv n used (l.foldl (tabStep keys ps con) acc).1 ∧ Tab n keys ps con (l.foldl (tabStep keys ps con) acc).1.chains (done ++ l) (l.foldl (tabStep keys ps con) acc).2 ∧ ∀ c ∈ acc.1.chains, c ∈ (l.foldl (tabStep keys ps con) acc).1.chains
  | [], acc, done, _, I, T => by simpa using ⟨I, T⟩
  | p :: l, acc, done, hl, I, T => by
    obtain ⟨a, b, c⟩ := tab_step (hl p (by simp)) v I T
    obtain ⟨d, e, f⟩ := tab_fold v l _ (done ++ [p]) (fun q hq => hl q (by simp [hq])) a b
    rw [List.foldl_cons]
    refine ⟨d, ?_, fun x hx => f x (c x hx)⟩
    simpa using e
theorem table_ok {n : Nat} {used : List Int} {keys : List Key} {ps : List Int} (con : Bool) {st : BState} (v : VP n ps) (I : Inv n used st) :
    Inv n used (tableF keys ps con st).1 ∧ Tab n keys ps con (tableF keys ps con st).1.chains ps (tableF keys ps con st).2 ∧ ∀ c ∈ st.chains, c ∈ (tableF keys ps con st).1.chains := by
  have := tab_fold (keys := keys) (con := con) v ps (st, []) [] (fun _ h => h) I ⟨by simp, fun x h => by simp at h, fun q h => by simp at h⟩
  simpa [tableF] using this
structure Sw (n : Nat) (keys : List Key) (cs : List (Int × List Int)) (ps : List Int) (v c l s : Int) (t1 t2 : List (KA × Int)) (d : Int) : Prop where
  hv : Den n cs v ps
  hl : Den n cs l (fit keys .list ps)
  hd : Den n cs d (ps.filter fun p => decide (kAt keys p = .var))
  h1 : Tab n keys ps true cs ps t1
  h2 : Tab n keys ps false cs ps t2
  hc : t1 = [] → c = d
  hs : t2 = [] → s = d
  n1 : t1.length ≤ 5
  n2 : t2.length ≤ 5
theorem Sw.mono {n : Nat} {keys : List Key} {cs cs' : List (Int × List Int)} {ps : List Int} {v c l s d : Int} {t1 t2 : List (KA × Int)} (h : Sw n keys cs ps v c l s t1 t2 d) (m : ∀ c ∈ cs, c ∈ cs') : Sw n keys cs' ps v c l s t1 t2 d :=
  ⟨h.hv.mono m, h.hl.mono m, h.hd.mono m, h.h1.mono m, h.h2.mono m, h.hc, h.hs, h.n1, h.n2⟩
noncomputable def swLabs (c s : Int) (t1 t2 : List (KA × Int)) : List Int := (if t1.isEmpty then [] else [c]) ++ (if t2.isEmpty then [] else [s])
theorem bump_ok {n : Nat} {used : List Int} {st : BState} (b : Bool) (d : Int) (I : Inv n used st) : Inv n (used ++ if b then [lab b d st] else []) (bump b st) := by
  cases b with
  | false => simpa [bump] using I
  | true => exact I.fresh
theorem switch_ok {n : Nat} {used : List Int} {keys : List Key} {ps : List Int} {st : BState} (vp : VP n ps) (I : Inv n used st) :
    ∃ v c l s t1 t2 d, (switchF keys ps st).rows = st.rows ++ swRows v c l s t1 t2 d ∧ Sw n keys (switchF keys ps st).chains ps v c l s t1 t2 d ∧ Inv n (used ++ swLabs c s t1 t2) (switchF keys ps st) ∧ ∀ c ∈ st.chains, c ∈ (switchF keys ps st).chains := by
  obtain ⟨i0, d0, m0⟩ := chain_ok I (vp.filter fun p => decide (kAt keys p = .var))
  have b0 := chain_rows_eq st (ps.filter fun p => decide (kAt keys p = .var))
  simp only [switchF, switchT]
  generalize st.chain (ps.filter fun p => decide (kAt keys p = .var)) = r0 at *
  obtain ⟨i1, d1, m1⟩ := table_ok (keys := keys) true vp i0
  have b1 := tableF_rows keys ps true r0.2
  have l1 := (tab_next keys ps true r0.2).2
  generalize tableF keys ps true r0.2 = tc at *
  obtain ⟨i2, d2, m2⟩ := table_ok (keys := keys) false vp i1
  have b2 := tableF_rows keys ps false tc.1
  have l2 := (tab_next keys ps false tc.1).2
  generalize tableF keys ps false tc.1 = ts at *
  have i3 := bump_ok (!tc.2.isEmpty) r0.1 i2
  have c1 := bump_rows (!tc.2.isEmpty) ts.1
  generalize hl1 : lab (!tc.2.isEmpty) r0.1 ts.1 = cl at *
  have hc1 : tc.2 = [] → cl = r0.1 := fun h => by rw [← hl1, h]; rfl
  generalize bump (!tc.2.isEmpty) ts.1 = n2 at *
  have i4 := bump_ok (!ts.2.isEmpty) r0.1 i3
  have c2 := bump_rows (!ts.2.isEmpty) n2
  generalize hl2 : lab (!ts.2.isEmpty) r0.1 n2 = sl at *
  have hc2 : ts.2 = [] → sl = r0.1 := fun h => by rw [← hl2, h]; rfl
  generalize bump (!ts.2.isEmpty) n2 = n3 at *
  obtain ⟨i5, d5, m5⟩ := chain_ok i4 (vp.filter fun p => matchK (kAt keys p) .list)
  have b5 := chain_rows_eq n3 (ps.filter fun p => matchK (kAt keys p) .list)
  generalize n3.chain (ps.filter fun p => matchK (kAt keys p) .list) = rl at *
  obtain ⟨i6, d6, m6⟩ := chain_ok i5 vp
  have b6 := chain_rows_eq rl.2 ps
  generalize rl.2.chain ps = ra at *
  have m23 : ∀ c ∈ ts.1.chains, c ∈ ra.2.chains := fun c h => m6 c (m5 c (by rw [c2.2, c1.2]; exact h))
  refine ⟨ra.1, cl, rl.1, sl, tc.2, ts.2, r0.1, ?_, ⟨d6, d5.mono m6, d0.mono fun c h => m23 c (m2 c (m1 c h)), d1.mono fun c h => m23 c (m2 c h), d2.mono m23, hc1, hc2, Nat.le_trans l1 vp.1, Nat.le_trans l2 vp.1⟩, ?_, fun c h => m23 c (m2 c (m1 c (m0 c h)))⟩
  · rw [b6, b5, c2.1, c1.1, b2, b1, b0]
  · have e : used ++ swLabs cl sl tc.2 ts.2 = (used ++ if (!tc.2.isEmpty) = true then [cl] else []) ++ if (!ts.2.isEmpty) = true then [sl] else [] := by
      unfold swLabs
      cases tc.2.isEmpty <;> cases ts.2.isEmpty <;> simp
    rw [e]
    exact i6.rows _
end Mine
namespace Mine
open PySem PySem.W PySem.Calls PyProof.Rows PySem.Spec
noncomputable def lbl : List Row → List Int
  | [] => []
  | .label l :: r => l :: lbl r
  | _ :: r => lbl r
theorem lbl_append : ∀ a b : List Row, lbl (a ++ b) = lbl a ++ lbl b
  | [], b => rfl
  | x :: a, b => by
    have ih := lbl_append a b
    cases x <;> simp [lbl, ih]
theorem lbl_none : ∀ a : List Row, (∀ r ∈ a, r.isLabel = false) → lbl a = []
  | [], _ => rfl
  | x :: a, h => by
    have ih := lbl_none a fun r hr => h r (by simp [hr])
    have hx := h x (by simp)
    cases x <;> first | exact ih | cases hx
theorem chainRows_lab {ar : Int} {ns : List Int} : ∀ r ∈ chainRows ar ns, r.isLabel = false := by
  intro r hr
  simp only [chainRows, List.mem_append, List.mem_cons, List.mem_map, List.not_mem_nil, or_false] at hr
  rcases hr with (rfl | ⟨x, _, rfl⟩) | rfl <;> rfl
theorem lbl_sw (v c l s : Int) (t1 t2 : List (KA × Int)) (d : Int) : lbl (swRows v c l s t1 t2 d) = swLabs c s t1 t2 := by
  unfold swRows swLabs
  cases t1.isEmpty <;> cases t2.isEmpty <;> rfl
theorem Key.arg_inj {con : Bool} {a b : Key} (ha : a.isKind con = true) (hb : b.isKind con = true) (h : a.arg = b.arg) : a = b := by
  cases a <;> cases b <;> cases con <;> simp_all [Key.isKind, Key.arg]
theorem tab_look {n : Nat} {keys : List Key} {ps : List Int} {con : Bool} {cs : List (Int × List Int)} {t : List (KA × Int)} {d : Int} {k : Key} (T : Tab n keys ps con cs ps t) (hd : Den n cs d (ps.filter fun p => decide (kAt keys p = .var))) (hk : k.isKind con = true) : Den n cs (tlook t k.arg d) (fit keys k ps) := by
  unfold tlook
  cases hf : t.find? (fun p => decide (p.1 = k.arg)) with
  | some x =>
    have h1 := List.find?_some hf
    simp only [decide_eq_true_eq] at h1
    obtain ⟨q, q1, q2, q3, q4⟩ := T.mem x (List.mem_of_find?_eq_some hf)
    have : kAt keys q = k := Key.arg_inj q2 hk (q3.symm.trans h1)
    rw [this] at q4
    exact q4
  | none =>
    have hn : ∀ q ∈ ps, kAt keys q ≠ k := fun q hq e => by
      obtain ⟨x, hx, h2⟩ := T.all q hq (e ▸ hk)
      have := List.find?_eq_none.mp hf x hx
      simp only [decide_eq_true_eq] at this
      exact this (h2.trans (by rw [e]))
    have hv : k ≠ .var := by rintro rfl; cases hk
    have : fit keys k ps = ps.filter fun p => decide (kAt keys p = .var) := by
      refine List.filter_congr fun q hq => ?_
      simp [matchK, hn q hq, hv]
    rw [this]
    exact hd
theorem sw_sel {n : Nat} {keys : List Key} {cs : List (Int × List Int)} {ps : List Int} {v c l s d : Int} {t1 t2 : List (KA × Int)} (S : Sw n keys cs ps v c l s t1 t2 d) (k : Key) :
    Den n cs (selK k v c l s) (fit keys k ps) ∨ (k.isKind true = true ∧ t1.isEmpty = false ∧ selK k v c l s = c ∧ Den n cs (tlook t1 k.arg d) (fit keys k ps)) ∨ (k.isKind false = true ∧ t2.isEmpty = false ∧ selK k v c l s = s ∧ Den n cs (tlook t2 k.arg d) (fit keys k ps)) := by
  cases k with
  | var =>
    left
    have : fit keys .var ps = ps := by
      unfold fit
      rw [List.filter_eq_self]
      intro q _
      simp [matchK]
    rw [this]; exact S.hv
  | list => exact .inl S.hl
  | const t x =>
    have := tab_look (k := .const t x) S.h1 S.hd rfl
    cases h : t1.isEmpty with
    | true =>
      have e : t1 = [] := List.isEmpty_iff.mp h
      left
      rw [e] at this
      have hc := S.hc e
      show Den n cs c _
      rw [hc]; exact this
    | false => exact .inr (.inl ⟨rfl, rfl, rfl, this⟩)
  | struct x =>
    have := tab_look (k := .struct x) S.h2 S.hd rfl
    cases h : t2.isEmpty with
    | true =>
      have e : t2 = [] := List.isEmpty_iff.mp h
      left
      rw [e] at this
      have hc := S.hs e
      show Den n cs s _
      rw [hc]; exact this
    | false => exact .inr (.inr ⟨rfl, rfl, rfl, this⟩)
noncomputable def RowG (T : Int → Prop) : Row → Prop
  | .try_ l w => T l ∧ 0 ≤ w
  | .retry l => T l
  | .trust l => T l
  | .label _ => True
  | .sterm v c l s => T v ∧ T c ∧ T l ∧ T s
  | .stab con t d => T d ∧ t.length ≤ 1000 ∧ (t.map (·.1)).Nodup ∧ ∀ p ∈ t, T p.2 ∧ p.1.isKind con = true ∧ kaOk p.1 = true
  | .exec n => 0 ≤ n
theorem RowG.mono {T T' : Int → Prop} (h : ∀ l, T l → T' l) : ∀ {r : Row}, RowG T r → RowG T' r
  | .try_ _ _, g => ⟨h _ g.1, g.2⟩
  | .retry _, g => h _ g
  | .trust _, g => h _ g
  | .label _, g => g
  | .sterm _ _ _ _, g => ⟨h _ g.1, h _ g.2.1, h _ g.2.2.1, h _ g.2.2.2⟩
  | .stab _ _ _, g => ⟨h _ g.1, g.2.1, g.2.2.1, fun p hp => ⟨h _ (g.2.2.2 p hp).1, (g.2.2.2 p hp).2⟩⟩
  | .exec _, g => g
noncomputable def AtL (rows : List Row) (l : Int) : Prop := ∃ pre r post, rows = pre ++ .label l :: r :: post ∧ r.isLabel = false
theorem AtL.app {rows : List Row} {l : Int} (h : AtL rows l) (x : List Row) : AtL (rows ++ x) l := by
  obtain ⟨pre, r, post, e, hr⟩ := h
  exact ⟨pre, r, post ++ x, by rw [e]; simp, hr⟩
theorem AtL.pre {rows : List Row} {l : Int} (h : AtL rows l) (x : List Row) : AtL (x ++ rows) l := by
  obtain ⟨pre, r, post, e, hr⟩ := h
  exact ⟨x ++ pre, r, post, by rw [e]; simp, hr⟩
noncomputable def Tst (n : Nat) (marks : List Int) (st : BState) (l : Int) : Prop := l = -1 ∨ (0 ≤ l ∧ l < (n : Int)) ∨ (∃ ps, (l, ps) ∈ st.chains) ∨ l ∈ marks ∨ AtL st.rows l
theorem Den.tst {n : Nat} {marks : List Int} {st : BState} {l : Int} {ps : List Int} (h : Den n st.chains l ps) : Tst n marks st l := by
  rcases h with ⟨_, h⟩ | ⟨_, h⟩ | ⟨_, h⟩
  · exact .inl h
  · exact .inr (.inl h)
  · exact .inr (.inr (.inl ⟨_, h⟩))
theorem KeyGood.ka {k : Key} (h : KeyGood k) {con : Bool} (hk : k.isKind con = true) : kaOk k.arg = true := by
  rcases h with rfl | rfl | ⟨m, rfl, h1, h2⟩ | ⟨t, v, rfl, h1, h2, h3⟩
  · cases hk
  · cases hk
  · simp only [Key.arg, kaOk, decide_eq_true_eq]; lia
  · rcases h1 with rfl | rfl <;> simp [Key.arg, kaOk, conOk, h2]
theorem kAt_mem {keys : List Key} {q : Int} (h0 : 0 ≤ q) (h1 : q < (keys.length : Int)) : kAt keys q ∈ keys := List.mem_of_getElem? (kAt_get h0 h1)
theorem Tab.good {keys : List Key} {marks : List Int} {st : BState} {ps : List Int} {con : Bool} {t : List (KA × Int)} {d : Int} (kg : ∀ k ∈ keys, KeyGood k) (vp : VP keys.length ps) (T : Tab keys.length keys ps con st.chains ps t) (hd : Tst keys.length marks st d) (hl : t.length ≤ 1000) : RowG (Tst keys.length marks st) (.stab con t d) := by
  refine ⟨hd, hl, T.nd, fun p hp => ?_⟩
  obtain ⟨q, h1, h2, h3, h4⟩ := T.mem p hp
  have hq := vp.2 q h1
  refine ⟨h4.tst, h3 ▸ Key.arg_kind h2, h3 ▸ (kg _ (kAt_mem hq.1 hq.2)).ka h2⟩
end Mine
namespace Mine
open PySem PySem.W PySem.Calls PyProof.Rows PySem.Spec
structure StF (keys : List Key) (shares : List (List Int)) (ar : Int) (i : Nat) (st : BState) : Prop where
  inv : Inv keys.length (lbl st.rows ++ (marksOf keys.length shares.length).drop i) st
  pre : ∃ post, st.rows = chainRows ar (marksOf keys.length shares.length) ++ post
  sw : ∀ j, j < i → ∃ v c l s t1 t2 d pre post, Sw keys.length keys st.chains (shares.getD j []) v c l s t1 t2 d ∧ st.rows = pre ++ .label ((keys.length + j : Nat) : Int) :: (swRows v c l s t1 t2 d ++ post)
  good : ∀ r ∈ st.rows, RowG (Tst keys.length (marksOf keys.length shares.length) st) r
theorem marks_nd (many m : Nat) : (marksOf many m).Nodup := by
  rw [marksOf, List.nodup_iff_pairwise_ne, List.pairwise_map]
  have := List.nodup_iff_pairwise_ne.mp (List.nodup_range (n := m))
  exact this.imp fun h e => h (by lia)
theorem marks_mem {many m : Nat} {x : Int} (h : x ∈ marksOf many m) : (many : Int) ≤ x ∧ x < ((many + m : Nat) : Int) := by
  obtain ⟨i, hi, rfl⟩ := List.mem_map.mp h
  have := List.mem_range.mp hi
  lia
theorem mem_retry {ar : Int} {ns : List Int} {P : Int → Prop} (h2 : 2 ≤ ns.length) (h : ∀ x ∈ ns, P x) (ha : 0 ≤ ar) : ∀ r ∈ chainRows ar ns, RowG P r := by
  intro r hr
  simp only [chainRows, List.mem_append, List.mem_cons, List.mem_map, List.not_mem_nil, or_false] at hr
  rcases hr with (rfl | ⟨x, hx, rfl⟩) | rfl
  · refine ⟨?_, ha⟩
    cases ns with
    | nil => simp at h2
    | cons a r => exact h a (by simp)
  · exact h x (List.mem_of_mem_drop (List.mem_of_mem_take hx))
  · show P _
    rw [List.getD_eq_getElem?_getD, List.getElem?_eq_getElem (by lia)]
    exact h _ (List.getElem_mem _)
theorem swRows_get {v c l s : Int} {t1 t2 : List (KA × Int)} {d : Int} : ∃ x, swRows v c l s t1 t2 d = .sterm v c l s :: x := ⟨_, rfl⟩
theorem swr_c {v c l s : Int} {t1 t2 : List (KA × Int)} {d : Int} (h : t1.isEmpty = false) : ∃ pre post, swRows v c l s t1 t2 d = pre ++ .label c :: .stab true t1 d :: post := by
  refine ⟨[.sterm v c l s], if t2.isEmpty then [] else [.label s, .stab false t2 d], ?_⟩
  simp [swRows, h]
theorem swr_s {v c l s : Int} {t1 t2 : List (KA × Int)} {d : Int} (h : t2.isEmpty = false) : ∃ pre post, swRows v c l s t1 t2 d = pre ++ .label s :: .stab false t2 d :: post := by
  refine ⟨[.sterm v c l s] ++ (if t1.isEmpty then [] else [.label c, .stab true t1 d]), [], ?_⟩
  simp [swRows, h]
theorem Tst.mono {n : Nat} {marks : List Int} {st st' : BState} {l : Int} (h : Tst n marks st l) (hc : ∀ c ∈ st.chains, c ∈ st'.chains) (hr : ∃ x, st'.rows = st.rows ++ x) : Tst n marks st' l := by
  obtain ⟨x, hx⟩ := hr
  rcases h with h | h | ⟨ps, h⟩ | h | h
  · exact .inl h
  · exact .inr (.inl h)
  · exact .inr (.inr (.inl ⟨ps, hc _ h⟩))
  · exact .inr (.inr (.inr (.inl h)))
  · exact .inr (.inr (.inr (.inr (hx ▸ h.app x))))
theorem stF {keys : List Key} {shares : List (List Int)} {ar : Int} (S : Shares keys shares) (ha : 0 ≤ ar) : ∀ i, i ≤ shares.length → StF keys shares ar i (stN keys ar shares i) := by
  intro i
  induction i with
  | zero =>
    intro _
    have h2 : 2 ≤ (marksOf keys.length shares.length).length := by rw [marks_len]; exact S.s0
    refine ⟨⟨?_, ?_, fun c h => by simp [stN] at h, by simp only [stN]; lia⟩, ⟨[], by simp [stN]⟩, fun j h => by lia, ?_⟩
    · simp only [stN, lbl_none _ chainRows_lab, List.map_nil, List.nil_append, List.drop_zero]
      exact marks_nd _ _
    · intro x hx
      simp only [stN, lbl_none _ chainRows_lab, List.map_nil, List.nil_append, List.drop_zero] at hx ⊢
      exact marks_mem hx
    · exact mem_retry h2 (fun x hx => .inr (.inr (.inr (.inl hx)))) ha
  | succ i ih =>
    intro hi
    have F := ih (by lia)
    have hp := S.sv (shares.getD i []) (by rw [List.getD_eq_getElem?_getD, List.getElem?_eq_getElem (by lia)]; exact List.getElem_mem _)
    have vp : VP keys.length (shares.getD i []) := ⟨hp.2.1, hp.1⟩
    have hm : (marksOf keys.length shares.length).drop i = ((keys.length + i : Nat) : Int) :: (marksOf keys.length shares.length).drop (i + 1) := by
      rw [List.drop_eq_getElem_cons (by rw [marks_len]; lia)]
      congr 1
      have := marks_at (many := keys.length) (m := shares.length) (i := i) (by lia)
      exact (List.getElem?_eq_some_iff.mp this).2
    simp only [stN]
    generalize stN keys ar shares i = st at *
    have I1 : Inv keys.length (lbl (st.rows ++ [.label ((keys.length + i : Nat) : Int)]) ++ (marksOf keys.length shares.length).drop (i + 1)) { st with rows := st.rows ++ [.label ((keys.length + i : Nat) : Int)] } := by
      have e : lbl (st.rows ++ [.label ((keys.length + i : Nat) : Int)]) ++ (marksOf keys.length shares.length).drop (i + 1) = lbl st.rows ++ (marksOf keys.length shares.length).drop i := by
        rw [hm, lbl_append]; simp [lbl]
      rw [e]
      exact F.inv.rows _
    obtain ⟨v, c, l, s, t1, t2, d, w1, w2, w3, w4⟩ := switch_ok (keys := keys) (ps := shares.getD i []) vp I1
    generalize switchF keys (shares.getD i []) { st with rows := st.rows ++ [.label ((keys.length + i : Nat) : Int)] } = st' at *
    dsimp only at w1 w4
    have hx : ∃ x, st'.rows = st.rows ++ x := ⟨[.label ((keys.length + i : Nat) : Int)] ++ swRows v c l s t1 t2 d, by rw [w1]; simp⟩
    have up : ∀ l, Tst keys.length (marksOf keys.length shares.length) st l → Tst keys.length (marksOf keys.length shares.length) st' l := fun l h => h.mono w4 hx
    refine ⟨?_, ?_, ?_, ?_⟩
    · refine w3.perm ?_
      rw [w1, lbl_append (st.rows ++ _), lbl_sw, List.append_assoc, List.append_assoc]
      exact List.Perm.append_left _ List.perm_append_comm
    · obtain ⟨post, e⟩ := F.pre
      exact ⟨post ++ ([.label ((keys.length + i : Nat) : Int)] ++ swRows v c l s t1 t2 d), by rw [w1, e]; simp⟩
    · intro j hj
      by_cases hji : j = i
      · subst hji
        exact ⟨v, c, l, s, t1, t2, d, st.rows, [], w2, by rw [w1]; simp⟩
      · obtain ⟨v', c', l', s', t1', t2', d', pre, post, h1, h2⟩ := F.sw j (by lia)
        exact ⟨v', c', l', s', t1', t2', d', pre, post ++ ([.label ((keys.length + i : Nat) : Int)] ++ swRows v c l s t1 t2 d), h1.mono w4, by rw [w1, h2]; simp⟩
    · intro r hr
      rw [w1, List.append_assoc, List.mem_append] at hr
      have hd := w2.hd.tst (marks := marksOf keys.length shares.length)
      have atc : t1.isEmpty = false → AtL st'.rows c := fun h => by
        obtain ⟨pre, post, e⟩ := swr_c (v := v) (c := c) (l := l) (s := s) (t2 := t2) (d := d) h
        rw [w1]
        exact (show AtL (swRows v c l s t1 t2 d) c from ⟨pre, _, post, e, rfl⟩).pre _
      have ats : t2.isEmpty = false → AtL st'.rows s := fun h => by
        obtain ⟨pre, post, e⟩ := swr_s (v := v) (c := c) (l := l) (s := s) (t1 := t1) (d := d) h
        rw [w1]
        exact (show AtL (swRows v c l s t1 t2 d) s from ⟨pre, _, post, e, rfl⟩).pre _
      rcases hr with hr | hr
      · exact (F.good r hr).mono up
      · rcases List.mem_append.mp hr with hr | hr
        · cases List.mem_singleton.mp hr; trivial
        · have ec : Tst keys.length (marksOf keys.length shares.length) st' c := by
            cases h : t1.isEmpty with
            | true => rw [w2.hc (List.isEmpty_iff.mp h)]; exact hd
            | false => exact .inr (.inr (.inr (.inr (atc h))))
          have es : Tst keys.length (marksOf keys.length shares.length) st' s := by
            cases h : t2.isEmpty with
            | true => rw [w2.hs (List.isEmpty_iff.mp h)]; exact hd
            | false => exact .inr (.inr (.inr (.inr (ats h))))
          simp only [swRows, List.mem_append, List.mem_singleton] at hr
          rcases hr with (rfl | hr) | hr
          · exact ⟨w2.hv.tst, ec, w2.hl.tst, es⟩
          · split at hr
            · simp at hr
            · simp only [List.mem_cons, List.not_mem_nil, or_false] at hr
              rcases hr with rfl | rfl
              · trivial
              · exact w2.h1.good S.kg vp hd (by have := w2.n1; lia)
          · split at hr
            · simp at hr
            · simp only [List.mem_cons, List.not_mem_nil, or_false] at hr
              rcases hr with rfl | rfl
              · trivial
              · exact w2.h2.good S.kg vp hd (by have := w2.n2; lia)
end Mine
namespace Mine
open PySem PySem.W PySem.Calls PyProof.Rows PySem.Spec
theorem labs_fst : ∀ (bs : List Row) (k : Nat), (labs bs k).map (·.1) = lbl bs
  | [], _ => rfl
  | x :: r, k => by
    have ih := labs_fst r (k + 1)
    cases x <;> simp [labs, lbl, ih]
theorem adrs_fst : ∀ (bs : List Row) (k : Int), (adrs bs k).map (·.1) = lbl bs
  | [], _ => rfl
  | x :: r, k => by
    have ih := adrs_fst r (k + 1)
    have ih' := adrs_fst r k
    cases x <;> simp [adrs, lbl, ih, ih']
theorem find_fst {t : List (Int × Int)} {u : List (Int × Int)} {l v : Int} (h : l ∉ t.map (·.1)) : (t ++ (l, v) :: u).find? (fun p => decide (p.1 = l)) = some (l, v) := by
  rw [List.find?_append]
  have : t.find? (fun p => decide (p.1 = l)) = none := by
    rw [List.find?_eq_none]
    intro x hx
    simp only [decide_eq_true_eq]
    rintro rfl
    exact h (List.mem_map.mpr ⟨x, hx, rfl⟩)
  rw [this]; simp
theorem lbl_notin {pre post : List Row} {l : Int} (nd : (lbl (pre ++ .label l :: post)).Nodup) : l ∉ lbl pre := by
  rw [lbl_append, List.nodup_append] at nd
  intro h
  exact nd.2.2 l h l (by simp [lbl]) rfl
theorem at_lab {bs pre post : List Row} {l : Int} (nd : (lbl bs).Nodup) (e : bs = pre ++ .label l :: post) : (labs bs 0).find? (fun p => decide (p.1 = l)) = some (l, (pre.length : Int)) := by
  subst e
  have h : labs (pre ++ .label l :: post) 0 = labs pre 0 ++ (l, (pre.length : Int)) :: labs post (pre.length + 1) := by
    rw [labs_append, Nat.zero_add]; rfl
  rw [h]
  exact find_fst (by rw [labs_fst]; exact lbl_notin nd)
theorem at_adr {bs pre post : List Row} {l : Int} (nd : (lbl bs).Nodup) (e : bs = pre ++ .label l :: post) (low : Int) : (adrs bs low).find? (fun p => decide (p.1 = l)) = some (l, low + (nonL pre : Nat)) := by
  subst e
  rw [adrs_append]
  show (adrs pre low ++ (l, low + (nonL pre : Nat)) :: adrs post (low + (nonL pre : Nat))).find? _ = _
  exact find_fst (by rw [adrs_fst]; exact lbl_notin nd)
theorem at_row {bs pre post : List Row} {l : Int} (e : bs = pre ++ .label l :: post) : bs[pre.length]? = some (.label l) := by
  subst e; simp
theorem at_rowj {bs pre post rows : List Row} {l : Int} (e : bs = pre ++ .label l :: (rows ++ post)) {j : Nat} {r : Row} (h : rows[j]? = some r) : bs[pre.length + 1 + j]? = some r := by
  subst e
  have hj := (List.getElem?_eq_some_iff.mp h).1
  rw [List.getElem?_append_right (by lia), show pre.length + 1 + j - pre.length = j + 1 by lia, List.getElem?_cons_succ, List.getElem?_append_left hj]
  exact h
theorem at_code {bs pre post rows : List Row} {l : Int} (e : bs = pre ++ .label l :: (rows ++ post)) (hr : ∀ r ∈ rows, r.isLabel = false) {j : Nat} {r : Row} (h : rows[j]? = some r) : (codeRows bs)[nonL pre + j]? = some r := by
  subst e
  have hj := (List.getElem?_eq_some_iff.mp h).1
  have h1 : codeRows (pre ++ .label l :: (rows ++ post)) = codeRows pre ++ (rows ++ codeRows post) := by
    have h3 : codeRows rows = rows := by
      unfold codeRows
      rw [List.filter_eq_self]
      intro r hr'
      rw [hr r hr']; rfl
    have h2 : codeRows (.label l :: (rows ++ post)) = codeRows rows ++ codeRows post := List.filter_append ..
    rw [show codeRows (pre ++ .label l :: (rows ++ post)) = codeRows pre ++ codeRows (.label l :: (rows ++ post)) from List.filter_append .., h2, h3]
  rw [h1]
  have h2 : nonL pre = (codeRows pre).length := rfl
  rw [h2, List.getElem?_append_right (by lia), show (codeRows pre).length + j - (codeRows pre).length = j by lia, List.getElem?_append_left hj]
  exact h
theorem flat_split {α β : Type} (f : α → List β) {l : List α} {a : α} (h : a ∈ l) : ∃ x y, l.flatMap f = x ++ f a ++ y := by
  obtain ⟨s, t, rfl⟩ := List.append_of_mem h
  exact ⟨s.flatMap f, t.flatMap f, by simp⟩
theorem lbl_chains (ar : Int) : ∀ cs : List (Int × List Int), lbl (cs.flatMap fun c => Row.label c.1 :: chainRows ar c.2) = cs.map (·.1)
  | [] => rfl
  | c :: r => by
    rw [List.flatMap_cons, List.cons_append, lbl, lbl_append, lbl_none _ chainRows_lab, lbl_chains ar r]; rfl
theorem lbl_clauses : ∀ n : Nat, lbl ((List.range n).flatMap cRows) = (List.range n).map fun i => ((i : Nat) : Int)
  | 0 => rfl
  | n + 1 => by
    rw [List.range_succ, List.flatMap_append, List.map_append, lbl_append, lbl_clauses n]; rfl
theorem AtL.mem {rows : List Row} {l : Int} (h : AtL rows l) : l ∈ lbl rows := by
  obtain ⟨pre, r, post, rfl, _⟩ := h
  rw [lbl_append]; simp [lbl]
structure FB (keys : List Key) (shares : List (List Int)) (ar : Int) (cs : List (Int × List Int)) (bs : List Row) : Prop where
  nd : (lbl bs).Nodup
  nn : ∀ l ∈ lbl bs, 0 ≤ l
  pre : ∃ post, bs = chainRows ar (marksOf keys.length shares.length) ++ post
  sw : ∀ j, j < shares.length → ∃ v c l s t1 t2 d pre post, Sw keys.length keys cs (shares.getD j []) v c l s t1 t2 d ∧ bs = pre ++ .label ((keys.length + j : Nat) : Int) :: (swRows v c l s t1 t2 d ++ post) ∧ (t1.isEmpty = false → (keys.length : Int) ≤ c) ∧ (t2.isEmpty = false → (keys.length : Int) ≤ s)
  ch : ∀ c ∈ cs, 2 ≤ c.2.length ∧ VP keys.length c.2 ∧ (keys.length : Int) ≤ c.1 ∧ ∃ pre post, bs = pre ++ .label c.1 :: (chainRows ar c.2 ++ post)
  cl : ∀ p : Int, 0 ≤ p → p < (keys.length : Int) → ∃ pre post, bs = pre ++ .label p :: ([.exec p] ++ post)
  good : ∀ r ∈ bs, RowG (fun l => l = -1 ∨ AtL bs l) r
  len : bs.length ≤ 1000
theorem flat_len {α β : Type} (f : α → List β) (b : Nat) : ∀ l : List α, (∀ x ∈ l, (f x).length ≤ b) → (l.flatMap f).length ≤ b * l.length
  | [], _ => by simp
  | x :: r, h => by
    have h1 := h x (by simp)
    have h2 := flat_len f b r fun y hy => h y (by simp [hy])
    rw [List.flatMap_cons, List.length_append, List.length_cons, Nat.mul_succ]
    lia
theorem fb {keys : List Key} {shares : List (List Int)} {ar : Int} (S : Shares keys shares) (ha : 0 ≤ ar) : FB keys shares ar (stN keys ar shares shares.length).chains (finRows ar keys.length (stN keys ar shares shares.length)) := by
  have F := stF S ha shares.length (Nat.le_refl _)
  obtain ⟨l1, l2⟩ := stN_lens (ar := ar) S shares.length (Nat.le_refl _)
  have k1 := S.k1
  have s1 := S.s1
  generalize stN keys ar shares shares.length = st at *
  have I := F.inv
  have hdrop : (marksOf keys.length shares.length).drop shares.length = [] := by
    rw [List.drop_eq_nil_iff, marks_len]; lia
  rw [hdrop, List.append_nil] at I
  have el : lbl (finRows ar keys.length st) = lbl st.rows ++ st.chains.map (·.1) ++ (List.range keys.length).map fun i => ((i : Nat) : Int) := by
    rw [finRows, lbl_append, lbl_append, lbl_chains, lbl_clauses]
  have hch : ∀ c ∈ st.chains, ∃ pre post, finRows ar keys.length st = pre ++ .label c.1 :: (chainRows ar c.2 ++ post) := by
    intro c hc
    obtain ⟨x, y, e⟩ := flat_split (fun c : Int × List Int => Row.label c.1 :: chainRows ar c.2) hc
    exact ⟨st.rows ++ x, y ++ (List.range keys.length).flatMap cRows, by rw [finRows, e]; simp⟩
  have hcl : ∀ p : Int, 0 ≤ p → p < (keys.length : Int) → ∃ pre post, finRows ar keys.length st = pre ++ .label p :: ([.exec p] ++ post) := by
    intro p h0 h1
    obtain ⟨x, y, e⟩ := flat_split cRows (List.mem_range.mpr (show p.toNat < keys.length by lia))
    have hp : ((p.toNat : Nat) : Int) = p := by lia
    refine ⟨st.rows ++ st.chains.flatMap (fun c => Row.label c.1 :: chainRows ar c.2) ++ x, y, ?_⟩
    rw [finRows, e, cRows, hp]; simp
  have hrows : ∃ x, finRows ar keys.length st = st.rows ++ x := ⟨_, by rw [finRows, List.append_assoc]⟩
  have hsw : ∀ j, j < shares.length → ∃ v c l s t1 t2 d pre post, Sw keys.length keys st.chains (shares.getD j []) v c l s t1 t2 d ∧ finRows ar keys.length st = pre ++ .label ((keys.length + j : Nat) : Int) :: (swRows v c l s t1 t2 d ++ post) ∧ (t1.isEmpty = false → (keys.length : Int) ≤ c) ∧ (t2.isEmpty = false → (keys.length : Int) ≤ s) := by
    intro j hj
    obtain ⟨v, c, l, s, t1, t2, d, pre, post, w, e⟩ := F.sw j hj
    obtain ⟨x, hx⟩ := hrows
    refine ⟨v, c, l, s, t1, t2, d, pre, post ++ x, w, by rw [hx, e]; simp, fun h => ?_, fun h => ?_⟩
    · refine (I.rng c (List.mem_append_right _ ?_)).1
      obtain ⟨p, q, e2⟩ := swr_c (v := v) (c := c) (l := l) (s := s) (t2 := t2) (d := d) h
      rw [e, lbl_append, lbl, lbl_append, e2, lbl_append]; simp [lbl]
    · refine (I.rng s (List.mem_append_right _ ?_)).1
      obtain ⟨p, q, e2⟩ := swr_s (v := v) (c := c) (l := l) (s := s) (t1 := t1) (d := d) h
      rw [e, lbl_append, lbl, lbl_append, e2, lbl_append]; simp [lbl]
  have first : ∀ {ns : List Int}, 2 ≤ ns.length → ∃ r y, chainRows ar ns = r :: y ∧ r.isLabel = false := fun _ => ⟨_, _, rfl, rfl⟩
  have tgt : ∀ l, Tst keys.length (marksOf keys.length shares.length) st l → l = -1 ∨ AtL (finRows ar keys.length st) l := by
    rintro l (h | ⟨h0, h1⟩ | ⟨ps, h⟩ | h | h)
    · exact .inl h
    · obtain ⟨pre, post, e⟩ := hcl l h0 h1
      exact .inr ⟨pre, _, post, e, rfl⟩
    · obtain ⟨pre, post, e⟩ := hch _ h
      exact .inr ⟨pre, _, _, e, rfl⟩
    · obtain ⟨i, hi, rfl⟩ := List.mem_map.mp h
      obtain ⟨v, c, l, s, t1, t2, d, pre, post, w, e, _⟩ := hsw i (List.mem_range.mp hi)
      exact .inr ⟨pre, _, _, e, rfl⟩
    · obtain ⟨x, hx⟩ := hrows
      exact .inr (hx ▸ h.app x)
  refine ⟨?_, ?_, ?_, hsw, fun c hc => ⟨(I.ch c hc).1, (I.ch c hc).2, (I.rng c.1 (List.mem_append_left _ (List.mem_map.mpr ⟨c, hc, rfl⟩))).1, hch c hc⟩, hcl, ?_, ?_⟩
  · rw [el, List.nodup_append]
    refine ⟨(List.perm_append_comm.nodup_iff).mp I.nd, ?_, ?_⟩
    · rw [List.nodup_iff_pairwise_ne, List.pairwise_map]
      exact (List.nodup_iff_pairwise_ne.mp (List.nodup_range (n := keys.length))).imp fun h e => h (by lia)
    · intro a ha' b hb
      obtain ⟨i, hi, rfl⟩ := List.mem_map.mp hb
      have h1 := (I.rng a (List.perm_append_comm.mem_iff.mp ha')).1
      have h2 := List.mem_range.mp hi
      lia
  · intro l hl
    rw [el] at hl
    rcases List.mem_append.mp hl with h | h
    · have h1 := (I.rng l (List.perm_append_comm.mem_iff.mp h)).1
      lia
    · obtain ⟨i, hi, rfl⟩ := List.mem_map.mp h
      lia
  · obtain ⟨post, e⟩ := F.pre
    obtain ⟨x, hx⟩ := hrows
    exact ⟨post ++ x, by rw [hx, e]; simp⟩
  · intro r hr
    rw [finRows, List.mem_append, List.mem_append] at hr
    rcases hr with (hr | hr) | hr
    · exact (F.good r hr).mono tgt
    · obtain ⟨c, hc, hr⟩ := List.mem_flatMap.mp hr
      rcases List.mem_cons.mp hr with rfl | hr
      · trivial
      · have hI := I.ch c hc
        exact mem_retry hI.1 (fun x hx => tgt x (.inr (.inl (hI.2.2 x hx)))) ha r hr
    · obtain ⟨i, hi, hr⟩ := List.mem_flatMap.mp hr
      simp only [cRows, List.mem_cons, List.not_mem_nil, or_false] at hr
      rcases hr with rfl | rfl
      · trivial
      · show (0 : Int) ≤ _
        lia
  · have h1 := flat_len (fun c : Int × List Int => Row.label c.1 :: chainRows ar c.2) 6 st.chains fun c hc => by
      have hI := I.ch c hc
      have h2 := hI.2.1
      rw [List.length_cons, chainRows_len ar c.2 hI.1]; lia
    have h2 := flat_len cRows 2 (List.range keys.length) fun i _ => Nat.le_refl _
    rw [List.length_range] at h2
    rw [finRows, List.length_append, List.length_append]
    lia
end Mine
namespace Mine
open PySem PySem.W PySem.Calls PyProof.Rows PySem.Spec
noncomputable def chTail : List Int → List Row
  | [] => []
  | [n] => [.trust n]
  | n :: m :: r => .retry n :: chTail (m :: r)
theorem chTail_eq : ∀ (b : Int) (r : List Int), chTail (b :: r) = (((b :: r).take r.length).map .retry) ++ [.trust ((b :: r).getD r.length 0)]
  | b, [] => rfl
  | b, c :: r => by
    rw [chTail, chTail_eq c r]
    simp
theorem chainRows_eq (ar a b : Int) (r : List Int) : chainRows ar (a :: b :: r) = .try_ a ar :: chTail (b :: r) := by
  rw [chTail_eq]
  simp [chainRows]
theorem chTail_lab : ∀ (ns : List Int), ∀ r ∈ chTail ns, r.isLabel = false
  | [], _, h => by simp [chTail] at h
  | [n], r, h => by simp [chTail] at h; subst h; rfl
  | n :: m :: x, r, h => by
    rw [chTail] at h
    rcases List.mem_cons.mp h with rfl | h
    · rfl
    · exact chTail_lab (m :: x) r h
noncomputable def R1 (bs : List Row) (n : Int) (k : Key) (b : Nat) (l : Int) (res : List Int) : Prop :=
  ∃ gs, Goto (labs bs 0) l gs ∧ ∀ p f r, p.length ≤ b → f.length + res.length ≤ 400 → TR bs n k p (f ++ res) r → TR bs n k (p ++ gs) f r
section
variable {bs : List Row} {n : Int} {k : Key} {b : Nat}
theorem R1.fail : R1 bs n k b (-1) [] := ⟨[], .inl ⟨rfl, rfl⟩, fun p f r _ _ h => by simpa using h⟩
theorem R1.mono {b' : Nat} {l : Int} {res : List Int} (h : R1 bs n k b l res) (hb : b' ≤ b) : R1 bs n k b' l res :=
  let ⟨gs, g, h⟩ := h; ⟨gs, g, fun p f r hp => h p f r (by lia)⟩
theorem R1.clause (nd : (lbl bs).Nodup) {l : Int} {pre post : List Row} (e : bs = pre ++ .label l :: post) (h0 : 0 ≤ l) (h1 : l < n) (hb : b ≤ 400) : R1 bs n k b l [l] :=
  ⟨[(pre.length : Int)], .inr ⟨by lia, _, at_lab nd e, rfl⟩, fun p f r hp hf h => .lab (at_row e) h1 (by lia) (by simp at hf; lia) h⟩
theorem R1.skip (nd : (lbl bs).Nodup) {l : Int} {pre post : List Row} {res : List Int} (e : bs = pre ++ .label l :: post) (h0 : 0 ≤ n) (h1 : n ≤ l) (hb : b ≤ 400)
    (h : ∀ p f r, p.length ≤ b → f.length + res.length ≤ 400 → TR bs n k p (f ++ res) r → TR bs n k (p ++ [((pre.length + 1 : Nat) : Int)]) f r) : R1 bs n k b l res :=
  ⟨[(pre.length : Int)], .inr ⟨by lia, _, at_lab nd e, rfl⟩, fun p f r hp hf q => .skip (at_row e) (by lia) (by lia) (by lia) (h p f r hp hf q)⟩
theorem two_cons {α : Type} {ns : List α} (h : 2 ≤ ns.length) : ∃ x y t, ns = x :: y :: t := by
  rcases ns with _ | ⟨x, _ | ⟨y, t⟩⟩
  · exact absurd h (Nat.not_succ_le_zero 1)
  · exact absurd h (Nat.not_succ_le_self 1)
  · exact ⟨x, y, t, rfl⟩
theorem tail1 {g : Int → List Int} (hb : b ≤ 300) : ∀ (ns : List Int), ns ≠ [] → ∀ i : Nat, (∀ j r, (chTail ns)[j]? = some r → bs[i + j]? = some r) → (∀ x ∈ ns, R1 bs n k (b + 1) x (g x)) →
    ∀ p f r, p.length ≤ b → f.length + (ns.flatMap g).length ≤ 400 → TR bs n k p (f ++ ns.flatMap g) r → TR bs n k (p ++ [(i : Int)]) f r := by
  intro ns
  induction ns with
  | nil => exact fun h => absurd rfl h
  | cons x t ih =>
   intro _ i hr hx p f r hp hf h
   cases t with
   | nil =>
    obtain ⟨gs, g1, g2⟩ := hx x (by simp)
    have e : [x].flatMap g = g x := by simp
    rw [e] at hf h
    refine .jump (hr 0 _ rfl) rfl g1 (by lia) (by lia) ?_
    have := g2 p f r (by lia) hf h
    simpa using this
   | cons y t =>
    obtain ⟨gs, g1, g2⟩ := hx x (by simp)
    have e : (x :: y :: t).flatMap g = g x ++ (y :: t).flatMap g := by rw [List.flatMap_cons]
    rw [e, List.length_append] at hf
    rw [e, ← List.append_assoc] at h
    refine .jump (hr 0 _ rfl) rfl g1 (by lia) (by lia) ?_
    rw [if_pos rfl]
    refine g2 _ f r (by simp; lia) (by lia) ?_
    exact ih (List.cons_ne_nil _ _) (i + 1) (fun j r hj => by
      have := hr (j + 1) r (by simpa [chTail] using hj)
      rwa [show i + (j + 1) = i + 1 + j by lia] at this) (fun z hz => hx z (by simp [hz])) p (f ++ g x) r hp (by rw [List.length_append]; lia) h
theorem chain1 {ar : Int} {g : Int → List Int} (hb : b ≤ 300) {ns : List Int} (h2 : 2 ≤ ns.length) (i : Nat) (hr : ∀ j r, (chainRows ar ns)[j]? = some r → bs[i + j]? = some r) (hx : ∀ x ∈ ns, R1 bs n k (b + 1) x (g x)) :
    ∀ p f r, p.length ≤ b → f.length + (ns.flatMap g).length ≤ 400 → TR bs n k p (f ++ ns.flatMap g) r → TR bs n k (p ++ [(i : Int)]) f r := by
  intro p f r hp hf h
  obtain ⟨x, y, t, rfl⟩ := two_cons h2
  rw [chainRows_eq] at hr
  obtain ⟨gs, g1, g2⟩ := hx x (by simp)
  have e : (x :: y :: t).flatMap g = g x ++ (y :: t).flatMap g := by rw [List.flatMap_cons]
  rw [e, List.length_append] at hf
  rw [e, ← List.append_assoc] at h
  refine .jump (hr 0 _ rfl) rfl g1 (by lia) (by lia) ?_
  rw [if_pos rfl]
  refine g2 _ f r (by simp; lia) (by lia) ?_
  exact tail1 hb (y :: t) (by simp) (i + 1) (fun j r hj => by
    have := hr (j + 1) r (by simpa using hj)
    rwa [show i + (j + 1) = i + 1 + j by lia] at this) (fun z hz => hx z (by simp [hz])) p (f ++ g x) r hp (by rw [List.length_append]; lia) h
end
section
variable {keys : List Key} {shares : List (List Int)} {ar : Int} {cs : List (Int × List Int)} {bs : List Row} {k : Key}
theorem flat_self (ps : List Int) : ps.flatMap (fun x => [x]) = ps := by induction ps with | nil => rfl | cons x r ih => rw [List.flatMap_cons, ih]; rfl
theorem R1.den (B : FB keys shares ar cs bs) {l : Int} {ps : List Int} (h : Den keys.length cs l ps) : R1 bs keys.length k 50 l ps := by
  rcases h with ⟨rfl, rfl⟩ | ⟨rfl, h0, h1⟩ | ⟨h2, hc⟩
  · exact .fail
  · obtain ⟨pre, post, e⟩ := B.cl l h0 h1
    exact .clause B.nd e h0 h1 (by lia)
  · obtain ⟨_, vp, hn, pre, post, e⟩ := B.ch _ hc
    refine .skip B.nd e (by lia) hn (by lia) fun p f r hp hf q => ?_
    have es := flat_self ps
    refine chain1 (g := fun x => [x]) (b := 50) (by lia) h2 _ (fun j r hj => at_rowj e hj) (fun x hx => ?_) p f r hp (by rw [es]; exact hf) (by rw [es]; exact q)
    obtain ⟨x0, x1⟩ := vp.2 x hx
    obtain ⟨pre, post, e⟩ := B.cl x x0 x1
    exact .clause B.nd e x0 x1 (by lia)
theorem go1 {i : Nat} {row : Row} {l : Int} {res : List Int} {b : Nat} (hi : bs[i]? = some row) (hj : jumpOf k row = some (false, l)) (h : R1 bs keys.length k b l res) (hb : b ≤ 400) :
    ∀ p f r, p.length ≤ b → f.length + res.length ≤ 400 → TR bs keys.length k p (f ++ res) r → TR bs keys.length k (p ++ [(i : Int)]) f r := by
  intro p f r hp hf q
  obtain ⟨gs, g1, g2⟩ := h
  refine .jump hi hj g1 (by lia) (by lia) ?_
  have := g2 p f r hp hf q
  simpa using this
theorem R1.mark (B : FB keys shares ar cs bs) {j : Nat} (hj : j < shares.length) : R1 bs keys.length k 50 ((keys.length + j : Nat) : Int) (fit keys k (shares.getD j [])) := by
  obtain ⟨v, c, l, s, t1, t2, d, pre, post, w, e, hc, hs⟩ := B.sw j hj
  refine .skip B.nd e (by lia) (by lia) (by lia) (go1 (at_rowj e (j := 0) (r := .sterm v c l s) rfl) rfl ?_ (by lia))
  rcases sw_sel w k with h | ⟨hk, ht, hsel, h⟩ | ⟨hk, ht, hsel, h⟩
  · exact .den B h
  · rw [hsel]
    obtain ⟨p, q, e2⟩ := swr_c (v := v) (c := c) (l := l) (s := s) (t2 := t2) (d := d) ht
    have e3 : bs = (pre ++ .label ((keys.length + j : Nat) : Int) :: p) ++ .label c :: ([.stab true t1 d] ++ (q ++ post)) := by rw [e, e2]; simp
    exact .skip B.nd e3 (by lia) (hc ht) (by lia) (go1 (at_rowj e3 (j := 0) (r := .stab true t1 d) rfl) (if_pos hk) (.den B h) (by lia))
  · rw [hsel]
    obtain ⟨p, q, e2⟩ := swr_s (v := v) (c := c) (l := l) (s := s) (t1 := t1) (d := d) ht
    have e3 : bs = (pre ++ .label ((keys.length + j : Nat) : Int) :: p) ++ .label s :: ([.stab false t2 d] ++ (q ++ post)) := by rw [e, e2]; simp
    exact .skip B.nd e3 (by lia) (hs ht) (by lia) (go1 (at_rowj e3 (j := 0) (r := .stab false t2 d) rfl) (if_pos hk) (.den B h) (by lia))
theorem marks_flat (keys : List Key) (k : Key) (shares : List (List Int)) : ∀ i, i ≤ shares.length → (marksOf keys.length i).flatMap (fun x : Int => fit keys k (shares.getD (x - keys.length).toNat [])) = dueOf keys k (shares.take i)
  | 0, _ => by simp [marksOf, dueOf]
  | i + 1, h => by
    have ih := marks_flat keys k shares i (by lia)
    rw [dueOf_succ keys k shares i (by lia), ← ih]
    have e : marksOf keys.length (i + 1) = marksOf keys.length i ++ [((keys.length + i : Nat) : Int)] := by simp [marksOf, List.range_succ]
    rw [e, List.flatMap_append]
    congr 1
    have e2 : (((keys.length + i : Nat) : Int) - keys.length).toNat = i := by lia
    simp only [List.flatMap_cons, List.flatMap_nil, List.append_nil, e2]
theorem tried_due (B : FB keys shares ar cs bs) (S : Shares keys shares) : TR bs keys.length k [0] [] (dueOf keys k shares) := by
  have e := marks_flat keys k shares shares.length (Nat.le_refl _)
  rw [List.take_length] at e
  have hl := due_len keys k shares fun ps h => (S.sv ps h).2.1
  have s1 := S.s1
  obtain ⟨post, hp⟩ := B.pre
  have := chain1 (bs := bs) (n := keys.length) (k := k) (b := 0) (ar := ar) (g := fun x : Int => fit keys k (shares.getD (x - keys.length).toNat [])) (by lia) (ns := marksOf keys.length shares.length) (by rw [marks_len]; exact S.s0) 0 (fun j r hj => by
    have hlt := (List.getElem?_eq_some_iff.mp hj).1
    rw [hp, Nat.zero_add, List.getElem?_append_left hlt]; exact hj) (fun x hx => ?_) [] [] (dueOf keys k shares) (by simp) (by rw [e]; simp; lia) (by rw [e, List.nil_append]; exact .nil)
  · simpa using this
  · obtain ⟨i, hi, rfl⟩ := List.mem_map.mp hx
    have e2 : (((keys.length + i : Nat) : Int) - keys.length).toNat = i := by lia
    rw [e2]
    exact (R1.mark B (List.mem_range.mp hi)).mono (by lia)
end
end Mine
namespace Mine
open PySem PySem.W PySem.Calls PyProof.Rows PySem.Spec
noncomputable def Back (code : List Row) (f : Int → Int) (low wide : Int) (k : Key) (s m : List Int) (mo : Int) (N : Nat) (r : List Int × Int) : Prop := (s = [] ∧ r = (m, mo)) ∨ ∃ s' a, s = s' ++ [a] ∧ MR code f low wide k N a s m mo r
noncomputable def R2 (code : List Row) (f : Int → Int) (low wide : Int) (k : Key) (b : Nat) (l : Int) (res : List Int) (d : Int) (n : Nat) : Prop :=
  ∀ s m mo N r, s.length ≤ b → m.length + res.length ≤ 400 → (s.length : Int) ≤ mo → Back code f low wide k s (m ++ res) (mx mo (s.length + d)) N r → MR code f low wide k (N + n) (f l) s m mo r
theorem mx_le {a b : Int} (h : b ≤ a) : mx a b = a := by unfold mx; rw [if_neg (by lia)]
theorem mx_ge {a b : Int} (h : a ≤ b) : mx a b = b := by unfold mx; split <;> lia
theorem le_mx {a b : Int} : a ≤ mx a b := by unfold mx; split <;> lia
section
variable {code : List Row} {f : Int → Int} {low wide : Int} {k : Key}
theorem MR.mono {n n' : Nat} {pc : Int} {s m : List Int} {mo : Int} {r : List Int × Int} (h : MR code f low wide k n pc s m mo r) (hn : n ≤ n') : MR code f low wide k n' pc s m mo r := by
  induction h generalizing n' with
  | stop a b =>
    obtain ⟨q, rfl⟩ : ∃ q, n' = q + 1 := ⟨n' - 1, by lia⟩
    exact .stop a b
  | back a b c _ ih =>
    obtain ⟨q, rfl⟩ : ∃ q, n' = q + 1 := ⟨n' - 1, by lia⟩
    exact .back a b c (ih (by lia))
  | jump a b c d e g _ ih =>
    obtain ⟨q, rfl⟩ : ∃ q, n' = q + 1 := ⟨n' - 1, by lia⟩
    exact .jump a b c d e g (ih (by lia))
theorem R2.mono {b b' : Nat} {l : Int} {res : List Int} {d : Int} {n n' : Nat} (h : R2 code f low wide k b l res d n) (hb : b' ≤ b) (hn : n ≤ n') : R2 code f low wide k b' l res d n' :=
  fun s m mo N r h1 h2 h3 h4 => (h s m mo N r (by lia) h2 h3 h4).mono (by lia)
theorem R2.ends {l : Int} {e : List Int} (h : Ends code low (f l) e) : R2 code f low wide k 400 l e 0 1 := by
  intro s m mo N r h1 h2 h3 h4
  rw [mx_le (by lia)] at h4
  rcases h4 with ⟨rfl, rfl⟩ | ⟨s', a, rfl, h⟩
  · exact .stop ‹_› (by lia)
  · exact .back ‹_› (by lia) (by simp at h1; lia) h
theorem R2.jump {b : Nat} (hb : b ≤ 400) {i : Nat} {row : Row} {l l' : Int} {res : List Int} {d : Int} {n : Nat} (hlow : 3 ≤ low) (hf : f l = low + (i : Nat)) (hi : code[i]? = some row) (hj : jumpOf k row = some (false, l')) (hu : ∀ pc s, Upd wide row pc s s) (h : R2 code f low wide k b l' res d n) : R2 code f low wide k b l res d (n + 1) := by
  intro s m mo N r h1 h2 h3 h4
  refine .jump (by lia) hf hi hj (hu _ _) (by lia) ?_
  rw [mx_le h3]
  exact h s m mo N r h1 h2 h3 h4
noncomputable def mT (s1 : Int) (dg : Int → Int) : List Int → Int → Int
  | [], mo => mo
  | [_], mo => mo
  | x :: y :: t, mo => mT s1 dg (y :: t) (mx mo (s1 + dg x))
theorem tail2 {g : Int → List Int} {dg : Int → Int} {b c : Nat} (hb : b ≤ 300) (hlow : 3 ≤ low) : ∀ (ns : List Int), ns ≠ [] → ∀ i : Nat, (∀ j r, (chTail ns)[j]? = some r → code[i + j]? = some r) → (∀ x ∈ ns, R2 code f low wide k (b + 1) x (g x) (dg x) c ∧ 0 ≤ dg x ∧ dg x ≤ 1) →
    ∀ s m mo N r, s.length ≤ b → m.length + (ns.flatMap g).length ≤ 400 → (s.length : Int) + 1 ≤ mo → Back code f low wide k s (m ++ ns.flatMap g) (mT (s.length + 1) dg ns mo) N r → MR code f low wide k (N + ns.length * (c + 1)) (low + (i : Nat)) (s ++ [low + (i : Nat)]) m mo r := by
  intro ns
  induction ns with
  | nil => exact fun h => absurd rfl h
  | cons x t ih =>
   intro _ i hr hx s m mo N r h1 h2 h3 h4
   cases t with
   | nil =>
    obtain ⟨x1, x2, x3⟩ := hx x (by simp)
    have e : [x].flatMap g = g x := by simp
    rw [e] at h2 h4
    have en : N + [x].length * (c + 1) = (N + c) + 1 := by simp; lia
    rw [en]
    refine .jump (s' := s) (by lia) rfl (hr 0 _ rfl) rfl ⟨_, rfl⟩ (by simp; lia) ?_
    rw [mx_le (by lia)]
    refine x1 s m mo N r (by lia) h2 (by lia) ?_
    rw [mx_le (by lia)]
    exact h4
   | cons y t =>
    obtain ⟨x1, x2, x3⟩ := hx x (by simp)
    have e : (x :: y :: t).flatMap g = g x ++ (y :: t).flatMap g := by rw [List.flatMap_cons]
    rw [e, List.length_append] at h2
    rw [e, ← List.append_assoc, mT] at h4
    have en : N + (x :: y :: t).length * (c + 1) = (N + (y :: t).length * (c + 1) + c) + 1 := by
      rw [List.length_cons, Nat.succ_mul]; lia
    rw [en]
    have ei : low + (i : Int) + 1 = low + ((i + 1 : Nat) : Int) := by lia
    refine .jump (s' := s ++ [low + (i : Int) + 1]) (by lia) rfl (hr 0 _ rfl) rfl ⟨s, _, rfl, rfl⟩ (by simp; lia) ?_
    have el : ((s ++ [low + (i : Int) + 1]).length : Int) = s.length + 1 := by simp
    rw [el, mx_le (by lia)]
    refine x1 _ m mo _ r (by simp; lia) (by lia) (by rw [el]; lia) (.inr ⟨s, _, rfl, ?_⟩)
    rw [el, ei]
    refine ih (List.cons_ne_nil _ _) (i + 1) (fun j r hj => by
      have := hr (j + 1) r (by simpa [chTail] using hj)
      rwa [show i + (j + 1) = i + 1 + j by lia] at this) (fun z hz => hx z (by simp [hz])) s (m ++ g x) _ N r h1 (by rw [List.length_append]; lia) ?_ h4
    have := le_mx (a := mo) (b := (s.length : Int) + 1 + dg x)
    lia
theorem chain2 {g : Int → List Int} {dg : Int → Int} {b c : Nat} (hb : b ≤ 300) (hlow : 3 ≤ low) {ns : List Int} (hn : 2 ≤ ns.length) (i : Nat) (hr : ∀ j r, (chainRows wide ns)[j]? = some r → code[i + j]? = some r) (hx : ∀ x ∈ ns, R2 code f low wide k (b + 1) x (g x) (dg x) c ∧ 0 ≤ dg x ∧ dg x ≤ 1) :
    ∀ s m mo N r, s.length ≤ b → m.length + (ns.flatMap g).length ≤ 400 → (s.length : Int) ≤ mo → Back code f low wide k s (m ++ ns.flatMap g) (mT (s.length + 1) dg ns (mx mo (s.length + 1))) N r → MR code f low wide k (N + ns.length * (c + 1)) (low + (i : Nat)) s m mo r := by
  intro s m mo N r h1 h2 h3 h4
  obtain ⟨x, y, t, rfl⟩ := two_cons hn
  rw [chainRows_eq] at hr
  obtain ⟨x1, x2, x3⟩ := hx x (by simp)
  have e : (x :: y :: t).flatMap g = g x ++ (y :: t).flatMap g := by rw [List.flatMap_cons]
  rw [e, List.length_append] at h2
  rw [e, ← List.append_assoc, mT] at h4
  have en : N + (x :: y :: t).length * (c + 1) = (N + (y :: t).length * (c + 1) + c) + 1 := by
    rw [List.length_cons, Nat.succ_mul]; lia
  rw [en]
  have ei : low + (i : Int) + 1 = low + ((i + 1 : Nat) : Int) := by lia
  refine .jump (s' := s ++ [low + (i : Int) + 1]) (by lia) rfl (hr 0 _ rfl) rfl ⟨rfl, rfl⟩ (by lia) ?_
  have el : ((s ++ [low + (i : Int) + 1]).length : Int) = s.length + 1 := by simp
  have hm : (s.length : Int) + 1 ≤ mx mo (s.length + 1) := by unfold mx; split <;> lia
  rw [el]
  refine x1 _ m _ _ r (by simp; lia) (by lia) (by rw [el]; lia) (.inr ⟨s, _, rfl, ?_⟩)
  rw [el, ei]
  refine tail2 hb hlow (y :: t) (by simp) (i + 1) (fun j r hj => by
    have := hr (j + 1) r (by simpa using hj)
    rwa [show i + (j + 1) = i + 1 + j by lia] at this) (fun z hz => hx z (by simp [hz])) s (m ++ g x) _ N r h1 (by rw [List.length_append]; lia) ?_ h4
  have := le_mx (a := mx mo (s.length + 1)) (b := (s.length : Int) + 1 + dg x)
  lia
theorem mT_zero {s1 : Int} (ns : List Int) (mo : Int) (h : s1 ≤ mo) : mT s1 (fun _ => 0) ns mo = mo := by
  induction ns with
  | nil => rfl
  | cons x t ih =>
    cases t with
    | nil => rfl
    | cons y t => rw [mT, mx_le (by lia)]; exact ih
end
noncomputable def fA (bs : List Row) (low l : Int) : Int := if l = -1 then 2 else (((adrs bs low).find? fun p => decide (p.1 = l)).map (·.2)).getD 0
theorem fA_at {bs pre post : List Row} {l : Int} (nd : (lbl bs).Nodup) (e : bs = pre ++ .label l :: post) (h : l ≠ -1) (low : Int) : fA bs low l = low + (nonL pre : Nat) := by
  rw [fA, if_neg h, at_adr nd e]; rfl
noncomputable def dd (ps : List Int) : Int := if 2 ≤ ps.length then 1 else 0
section
variable {keys : List Key} {shares : List (List Int)} {ar low : Int} {cs : List (Int × List Int)} {bs : List Row} {k : Key}
theorem R2.clause (B : FB keys shares ar cs bs) (hlow : 3 ≤ low) {l : Int} (h0 : 0 ≤ l) (h1 : l < keys.length) : R2 (codeRows bs) (fA bs low) low ar k 400 l [l] 0 1 := by
  obtain ⟨pre, post, e⟩ := B.cl l h0 h1
  have hf := fA_at B.nd e (by lia) low
  refine .ends (.inr ⟨by lia, nonL pre, l, hf, ?_, rfl⟩)
  exact at_code e (fun r hr => by cases List.mem_singleton.mp hr; rfl) (j := 0) rfl
theorem R2.den (B : FB keys shares ar cs bs) (hlow : 3 ≤ low) {l : Int} {ps : List Int} (h : Den keys.length cs l ps) : R2 (codeRows bs) (fA bs low) low ar k 100 l ps (dd ps) 10 := by
  rcases h with ⟨rfl, rfl⟩ | ⟨rfl, h0, h1⟩ | ⟨h2, hc⟩
  · exact (R2.ends (.inl ⟨by simp [fA], rfl⟩)).mono (by lia) (by lia)
  · exact (R2.clause B hlow h0 h1).mono (by lia) (by lia)
  · obtain ⟨_, vp, hn, pre, post, e⟩ := B.ch _ hc
    have hn' : (keys.length : Int) ≤ l := hn
    have v1 : ps.length ≤ 5 := vp.1
    have hf := fA_at B.nd e (by show l ≠ -1; lia) low
    have es := flat_self ps
    intro s m mo N r q1 q2 q3 q4
    rw [show fA bs low l = _ from hf]
    refine MR.mono (chain2 (wide := ar) (g := fun x => [x]) (dg := fun _ => 0) (b := 100) (c := 1) (by lia) hlow h2 (nonL pre) (fun j r hj => at_code e chainRows_lab hj) (fun x hx => ⟨(R2.clause B hlow (vp.2 x hx).1 (vp.2 x hx).2).mono (by lia) (by lia), by lia, by lia⟩) s m mo N r q1 (by rw [es]; exact q2) q3 ?_) (by lia)
    rw [es, mT_zero _ _ (by unfold mx; split <;> lia)]
    rw [dd, if_pos h2] at q4
    exact q4
theorem R2.mark (B : FB keys shares ar cs bs) (hlow : 3 ≤ low) {j : Nat} (hj : j < shares.length) : R2 (codeRows bs) (fA bs low) low ar k 100 ((keys.length + j : Nat) : Int) (fit keys k (shares.getD j [])) (dd (fit keys k (shares.getD j []))) 12 := by
  obtain ⟨v, c, l, s, t1, t2, d, pre, post, w, e, hc, hs⟩ := B.sw j hj
  have e1 : bs = pre ++ .label ((keys.length + j : Nat) : Int) :: ([.sterm v c l s] ++ ((if t1.isEmpty then [] else [.label c, .stab true t1 d]) ++ (if t2.isEmpty then [] else [.label s, .stab false t2 d]) ++ post)) := by rw [e]; simp [swRows]
  have hf := fA_at B.nd e (by lia) low
  have one : ∀ {l' : Int} {n : Nat}, selK k v c l s = l' → n + 1 ≤ 12 → R2 (codeRows bs) (fA bs low) low ar k 100 l' (fit keys k (shares.getD j [])) (dd (fit keys k (shares.getD j []))) n → R2 (codeRows bs) (fA bs low) low ar k 100 ((keys.length + j : Nat) : Int) (fit keys k (shares.getD j [])) (dd (fit keys k (shares.getD j []))) 12 := by
    intro l' n hsel hn h
    refine (R2.jump (by lia) hlow hf (i := nonL pre) (row := .sterm v c l s) ?_ (by rw [← hsel]; rfl) (fun _ _ => rfl) h).mono (by lia) hn
    exact at_code e1 (fun r hr => by cases List.mem_singleton.mp hr; rfl) (j := 0) rfl
  rcases sw_sel w k with h | ⟨hk, ht, hsel, h⟩ | ⟨hk, ht, hsel, h⟩
  · exact one rfl (by lia) (.den B hlow h)
  · obtain ⟨p, q, e2⟩ := swr_c (v := v) (c := c) (l := l) (s := s) (t2 := t2) (d := d) ht
    have e3 : bs = (pre ++ .label ((keys.length + j : Nat) : Int) :: p) ++ .label c :: ([.stab true t1 d] ++ (q ++ post)) := by rw [e, e2]; simp
    have hc' := hc ht
    have hf2 := fA_at B.nd e3 (by lia) low
    refine one hsel (by lia) (R2.jump (by lia) hlow hf2 (i := nonL _) (row := .stab true t1 d) ?_ (if_pos hk) (fun _ _ => rfl) (.den B hlow h))
    exact at_code e3 (fun r hr => by cases List.mem_singleton.mp hr; rfl) (j := 0) rfl
  · obtain ⟨p, q, e2⟩ := swr_s (v := v) (c := c) (l := l) (s := s) (t1 := t1) (d := d) ht
    have e3 : bs = (pre ++ .label ((keys.length + j : Nat) : Int) :: p) ++ .label s :: ([.stab false t2 d] ++ (q ++ post)) := by rw [e, e2]; simp
    have hs' := hs ht
    have hf2 := fA_at B.nd e3 (by lia) low
    refine one hsel (by lia) (R2.jump (by lia) hlow hf2 (i := nonL _) (row := .stab false t2 d) ?_ (if_pos hk) (fun _ _ => rfl) (.den B hlow h))
    exact at_code e3 (fun r hr => by cases List.mem_singleton.mp hr; rfl) (j := 0) rfl
theorem most_eq (S : Shares keys shares) : mT 1 (fun x : Int => dd (fit keys k (shares.getD (x - keys.length).toNat []))) (marksOf keys.length shares.length) (mx 0 1) = mostN keys k shares shares.length := by
  have s0 := S.s0
  have s1 := S.s1
  clear S
  have e0 : (((keys.length + 0 : Nat) : Int) - keys.length).toNat = 0 := by lia
  have e1 : (((keys.length + 1 : Nat) : Int) - keys.length).toNat = 1 := by lia
  have e2 : (((keys.length + 2 : Nat) : Int) - keys.length).toNat = 2 := by lia
  obtain ⟨a, b, t, rfl⟩ := two_cons s0
  rcases t with _ | ⟨c, _ | ⟨d, t⟩⟩
  ·
    have em : marksOf keys.length [a, b].length = [((keys.length + 0 : Nat) : Int), ((keys.length + 1 : Nat) : Int)] := rfl
    rw [em]
    simp only [mT, e0]
    simp only [mostN, List.length_cons, List.length_nil, List.getD_cons_zero, List.getD_cons_succ, dd, mx]
    split <;> split <;> split <;> split <;> simp_all <;> lia
  ·
    have em : marksOf keys.length [a, b, c].length = [((keys.length + 0 : Nat) : Int), ((keys.length + 1 : Nat) : Int), ((keys.length + 2 : Nat) : Int)] := rfl
    rw [em]
    simp only [mT, e0, e1]
    simp only [mostN, List.length_cons, List.length_nil, List.getD_cons_zero, List.getD_cons_succ, dd]
    by_cases h1 : 2 ≤ (fit keys k a).length <;> by_cases h2 : 2 ≤ (fit keys k b).length
    all_goals
      have g1 : (1 < (fit keys k a).length) = (2 ≤ (fit keys k a).length) := rfl
      have g2 : (1 < (fit keys k b).length) = (2 ≤ (fit keys k b).length) := rfl
      simp only [g1, g2, h1, h2, if_true, if_false, true_and, false_and]
      simp [mx]
  · exact absurd s1 (by simp)
theorem met_due (B : FB keys shares ar cs bs) (S : Shares keys shares) (hlow : 3 ≤ low) : MR (codeRows bs) (fA bs low) low ar k 150 low [] [] 0 (dueOf keys k shares, mostN keys k shares shares.length) := by
  have e := marks_flat keys k shares shares.length (Nat.le_refl _)
  rw [List.take_length] at e
  have hl := due_len keys k shares fun ps h => (S.sv ps h).2.1
  have s1 := S.s1
  obtain ⟨post, hp⟩ := B.pre
  have hc : codeRows bs = chainRows ar (marksOf keys.length shares.length) ++ codeRows post := by
    have h3 : codeRows (chainRows ar (marksOf keys.length shares.length)) = chainRows ar (marksOf keys.length shares.length) := by
      unfold codeRows
      rw [List.filter_eq_self]
      intro r hr
      rw [chainRows_lab r hr]; rfl
    rw [hp, show codeRows (chainRows ar (marksOf keys.length shares.length) ++ post) = codeRows (chainRows ar (marksOf keys.length shares.length)) ++ codeRows post from List.filter_append .., h3]
  have := chain2 (code := codeRows bs) (f := fA bs low) (low := low) (wide := ar) (k := k) (g := fun x : Int => fit keys k (shares.getD (x - keys.length).toNat [])) (dg := fun x : Int => dd (fit keys k (shares.getD (x - keys.length).toNat []))) (b := 0) (c := 12) (by lia) hlow (ns := marksOf keys.length shares.length) (by rw [marks_len]; exact S.s0) 0 (fun j r hj => by
    have hlt := (List.getElem?_eq_some_iff.mp hj).1
    rw [hc, Nat.zero_add, List.getElem?_append_left hlt]; exact hj) (fun x hx => ?_) [] [] 0 0 (dueOf keys k shares, mostN keys k shares shares.length) (by simp) (by rw [e]; simp; lia) (by simp) (.inl ⟨rfl, ?_⟩)
  · rw [marks_len] at this
    have e0 : low + ((0 : Nat) : Int) = low := by lia
    rw [e0] at this
    exact this.mono (by lia)
  · obtain ⟨i, hi, rfl⟩ := List.mem_map.mp hx
    have e2 : (((keys.length + i : Nat) : Int) - keys.length).toNat = i := by lia
    rw [e2]
    refine ⟨(R2.mark B hlow (List.mem_range.mp hi)).mono (by lia) (by lia), ?_, ?_⟩ <;> unfold dd <;> split <;> lia
  · rw [e, List.nil_append]
    exact congrArg (Prod.mk _) (most_eq S).symm
end
end Mine
namespace Mine
open PySem PySem.W PySem.Calls PyProof.Rows PySem.Spec
theorem mem_lbl : ∀ {bs : List Row} {l : Int}, Row.label l ∈ bs → l ∈ lbl bs
  | x :: r, l, h => by
    rcases List.mem_cons.mp h with e | h
    · subst e; simp [lbl]
    · have ih := mem_lbl h
      cases x <;> simp [lbl, ih]
section
variable {keys : List Key} {shares : List (List Int)} {ar low : Int} {cs : List (Int × List Int)} {bs : List Row}
theorem adr_ok (B : FB keys shares ar cs bs) (low : Int) {l : Int} (h : l = -1 ∨ AtL bs l) : AdrOk (adrs bs low) (low + ((codeRows bs).length : Nat)) l (fA bs low l) ∧ -1 ≤ l := by
  rcases h with rfl | h
  · exact ⟨.inl ⟨rfl, by simp [fA]⟩, by lia⟩
  · have h0 := B.nn l h.mem
    obtain ⟨pre, r, post, e, hr⟩ := h
    refine ⟨.inr ⟨by lia, ?_, ?_⟩, by lia⟩
    · rw [at_adr B.nd e low, fA_at B.nd e (by lia) low]
    · rw [fA_at B.nd e (by lia) low]
      have : (codeRows bs)[nonL pre + 0]? = some r := at_code (rows := [r]) (post := post) (by rw [e]; rfl) (fun x hx => by cases List.mem_singleton.mp hx; exact hr) (j := 0) rfl
      have := (List.getElem?_eq_some_iff.mp this).1
      lia
theorem row_ok (B : FB keys shares ar cs bs) (low : Int) {r : Row} (hm : r ∈ codeRows bs) : RowOk (adrs bs low) (low + ((codeRows bs).length : Nat)) (fA bs low) r := by
  obtain ⟨h1, h2⟩ := List.mem_filter.mp hm
  have hl : r.isLabel = false := by simpa using h2
  have g := B.good r h1
  have A := fun {l : Int} (h : l = -1 ∨ AtL bs l) => adr_ok B low h
  have noTab : ∀ {t : List (KA × Int)} {con : Bool} {n : Int} {x : String}, (tv t, tuStr con) ≠ (PV.int n, x) := by
    intro t con n x h; simp [tv] at h
  cases r with
  | label l => cases hl
  | try_ l w =>
    refine ⟨⟨rfl, fun p hp => ?_⟩, fun m h => ?_, fun con t h => ?_⟩
    · simp only [Row.ops, List.mem_cons, List.not_mem_nil, or_false] at hp
      rcases hp with rfl | rfl
      · exact .L (A g.1).2
      · exact .N g.2
    · simp only [Row.ops, List.mem_cons, List.not_mem_nil, or_false, Prod.mk.injEq, PV.int.injEq] at h
      rcases h with ⟨rfl, _⟩ | ⟨_, h⟩
      · exact (A g.1).1
      · simp at h
    · simp [Row.ops, tv] at h
  | retry l =>
    refine ⟨⟨rfl, fun p hp => ?_⟩, fun m h => ?_, fun con t h => ?_⟩
    · simp only [Row.ops, List.mem_cons, List.not_mem_nil, or_false] at hp
      subst hp
      exact .L (A g).2
    · simp only [Row.ops, List.mem_cons, List.not_mem_nil, or_false, Prod.mk.injEq, PV.int.injEq] at h
      obtain ⟨rfl, _⟩ := h
      exact (A g).1
    · simp [Row.ops, tv] at h
  | trust l =>
    refine ⟨⟨rfl, fun p hp => ?_⟩, fun m h => ?_, fun con t h => ?_⟩
    · simp only [Row.ops, List.mem_cons, List.not_mem_nil, or_false] at hp
      subst hp
      exact .L (A g).2
    · simp only [Row.ops, List.mem_cons, List.not_mem_nil, or_false, Prod.mk.injEq, PV.int.injEq] at h
      obtain ⟨rfl, _⟩ := h
      exact (A g).1
    · simp [Row.ops, tv] at h
  | sterm v c l s =>
    obtain ⟨g1, g2, g3, g4⟩ := g
    refine ⟨⟨rfl, fun p hp => ?_⟩, fun m h => ?_, fun con t h => ?_⟩
    · simp only [Row.ops, List.mem_cons, List.not_mem_nil, or_false] at hp
      rcases hp with rfl | rfl | rfl | rfl
      · exact .L (A g1).2
      · exact .L (A g2).2
      · exact .L (A g3).2
      · exact .L (A g4).2
    · simp only [Row.ops, List.mem_cons, List.not_mem_nil, or_false, Prod.mk.injEq, PV.int.injEq, and_true] at h
      rcases h with rfl | rfl | rfl | rfl
      · exact (A g1).1
      · exact (A g2).1
      · exact (A g3).1
      · exact (A g4).1
    · simp [Row.ops, tv] at h
  | stab con t d =>
    obtain ⟨g1, g2, g3, g4⟩ := g
    refine ⟨⟨rfl, fun p hp => ?_⟩, fun m h => ?_, fun con' t' h => ?_⟩
    · simp only [Row.ops, List.mem_cons, List.not_mem_nil, or_false] at hp
      rcases hp with rfl | rfl
      · exact .tab fun p hp => ⟨(g4 p hp).2.1, (g4 p hp).2.2, (A (g4 p hp).1).2⟩
      · exact .L (A g1).2
    · simp only [Row.ops, List.mem_cons, List.not_mem_nil, or_false, Prod.mk.injEq, PV.int.injEq, and_true] at h
      rcases h with ⟨h, _⟩ | rfl
      · simp [tv] at h
      · exact (A g1).1
    · simp only [Row.ops, List.mem_cons, List.not_mem_nil, or_false] at h
      rcases h with h | h
      · simp only [Prod.mk.injEq] at h
        have e1 := tv_inj h.1
        have e2 := tuStr_inj h.2
        subst e1; subst e2
        exact ⟨g2, fun p hp => (g4 p hp).2.1, g3, fun p hp => (A (g4 p hp).1).1⟩
      · exact absurd h noTab
  | exec n =>
    refine ⟨⟨rfl, fun p hp => ?_⟩, fun m h => ?_, fun con t h => ?_⟩
    · simp only [Row.ops, List.mem_cons, List.not_mem_nil, or_false] at hp
      subst hp
      exact .F g
    · simp [Row.ops] at h
    · simp [Row.ops, tv] at h
end
theorem plain_law : PlainLaw := by
  intro keys shares ar S a1 a2
  have B := fb S (ar := ar) (by lia)
  refine ⟨fun c hc => ?_, B.len, by rw [labs_fst]; exact B.nd, fun base => by rw [adrs_fst]; exact B.nd, fun l h => B.nn l (mem_lbl h), fun _ k => tried_due B S, fun low hlow => ⟨fA _ low, fun r hr => row_ok B low hr, fun k => met_due B S hlow⟩⟩
  obtain ⟨h1, h2, _⟩ := B.ch c hc
  have := h2.1
  exact ⟨h1, by lia⟩
end Mine
namespace Mine
open PySem PySem.W PySem.Calls PyProof.Rows PySem.Spec
section
variable {prog : Program} {w : World} {B : Heap}
theorem law_walk (G : Gd prog w (KH w) B) (nm : Str) (L a : Addr) (cd : Value) : SsOk prog w B 8 (envOfC nm (fdAt (KH w) 347).scope L a cd) (bodyOf (fdAt (KH w) 347)) (d_law S_met S_tried S_assemble S_draw S_finish S_switch S_chain_rows S_fresh S_Builder S_ClauseCode S_key_drawn S_figures) := by
  have h_matching := (w_matching G).mono s_matching
  have h_Builder := (w_BlockBuilder_init G).mono s_Builder
  have h_fresh := (w_fresh_label G).mono s_fresh
  have h_chain_rows := (w_chain_rows G).mono s_chain_rows
  have h_chain := (w_chain G h_fresh).mono s_chain
  have h_matching_places := (w_matching_places G h_matching).mono s_matching_places
  have h_variable_places := (w_variable_places G).mono s_variable_places
  have h_table := (w_table G h_chain h_matching_places).mono s_table
  have h_switch := (w_switch G h_chain h_matching_places h_fresh h_table h_variable_places).mono s_switch
  have h_finish := (w_finish G h_chain_rows).mono s_finish
  have h_label_places := (w_label_places G).mono s_label_places
  have h_switch_target := (w_switch_target G).mono s_switch_target
  have h_table_target := (w_table_target G).mono s_table_target
  have h_tried := (w_tried_clauses G h_switch_target h_table_target h_label_places).mono s_tried
  have h_ClauseCode := (w_ClauseCode_init G).mono s_ClauseCode
  have h_is_whole := (w_is_whole G).mono s_is_whole
  have h_is_pair := (w_is_pair G).mono s_is_pair
  have h_is_constant := (w_is_constant G h_is_whole h_is_pair).mono s_is_constant
  have h_is_functor := (w_is_functor G h_is_whole).mono s_is_functor
  have h_is_target := (w_is_target G h_is_whole).mono s_is_target
  have h_is_key := (w_is_key G h_is_functor h_is_constant).mono s_is_key
  have h_is_table := (w_is_table G h_is_target h_is_key h_is_pair).mono s_is_table
  have h_none : FnOk prog w B 2 217 S_none := fun _ _ _ _ _ _ _ _ h => h.elim
  have h_is_operand := (w_is_operand G h_is_table h_is_target h_is_functor h_is_constant h_none).mono s_is_operand
  have h_check_row := (w_check_row G h_is_operand).mono s_check_row
  have h_is_label_row := (w_is_label_row G).mono s_is_label_row
  have h_label_addresses := (w_label_addresses G h_is_label_row h_is_whole).mono s_label_addresses
  have h_resolve_label := (w_resolve_label G).mono s_resolve_label
  have h_resolve_table := (w_resolve_table G h_resolve_label).mono s_resolve_table
  have h_resolve_instruction := (w_resolve_instruction G h_resolve_label h_resolve_table h_check_row).mono s_resolve_instruction
  have h_assemble := (w_assemble G h_resolve_instruction h_is_label_row h_label_addresses (k_shapes G)).mono s_assemble
  have h_figures := (w_law_figures G).mono s_figures
  have h_draw := (w_law_draw G).mono s_draw
  have h_key_drawn := (w_law_key_drawn G h_draw).mono s_key_drawn
  have h_goal := (w_law_goal G).mono s_goal
  have h_met := (w_law_met G h_goal).mono s_met
  exact w_law G h_met h_tried h_assemble h_draw h_finish h_switch h_chain_rows h_fresh h_Builder h_ClauseCode h_key_drawn h_figures nm L a cd
end
end Mine
namespace Mine
open PySem PySem.W PySem.Calls PyProof.Rows PySem.Spec
theorem cells_at {cm : Str → Option Value} {h : Heap} : ∀ {cs : List (Str × Addr)} {cells : List (Addr × Obj)}, CellsAre cm cs cells → (∀ p ∈ cells, h.get? p.1 = some p.2) → ∀ p ∈ cs, ∃ o, h.get? p.2 = some o ∧ o.data = .cell (cm p.1)
  | _, _, .nil, _, p, hp => by cases hp
  | _, _, .cons hd r, hg, p, hp => by
    rcases List.mem_cons.mp hp with rfl | hp
    · exact ⟨_, hg _ List.mem_cons_self, hd⟩
    · exact cells_at r (fun q hq => hg q (List.mem_cons_of_mem _ hq)) p hp
theorem mkC_gt : ∀ {cn : List String} {L : Nat} {p : Str × Addr}, p ∈ mkC cn L → L < p.2
  | x :: r, L, _, .head _ => by show L < L + r.length + 1; lia
  | x :: r, L, _, .tail _ h => mkC_gt h
theorem law_bridge {prog : Program} {w : World} {s₁ : Shared} {h₁ : Heap} {tk : Nat} {nm : Str} {sc : Scope} {body : List Stmt} {a : Addr} {cd : Value} {m : Str → Option Value} {l : Addr} {vs : List Value} {ns : List Int} {cells : List (Addr × Obj)} {Q : Flow → Shared → Prop} {E : Value → Shared → Prop}
    (hsc : (fdAt (KH w) 347).scope = sc) (hbody : bodyOf (fdAt (KH w) 347) = body)
    (KX : (KH w).In s₁.heap) (nl : s₁.heap.NoLimit) (hg : ∃ mg, s₁.heap.Ns mainGlobals mg) (hb : ∃ mb, s₁.heap.Ns builtinsNs mb ∧ ∀ x : Str, x ≠ "__name__" → mb x = bootBuiltins x)
    (F : Fr s₁.heap s₁.heap.objs.size h₁ m) (N : News s₁.heap s₁.heap.objs.size h₁ cells) (X : ∃ cm, CellsAre cm (mkC ["builder", "bits", "figures"] s₁.heap.objs.size) cells)
    (hm : m (Str.ofString "script") = some (.ref l)) (hL : s₁.heap.IsList l vs.toArray) (hI : IntsAre vs ns) (hn : ns.length ≤ 63)
    (hQ : ∀ h' tk' m', Fr s₁.heap s₁.heap.objs.size h' m' → Q (.ret (.bool true)) { s₁ with heap := h', toks := tk' }) :
    wpAny (model prog w) (callerA.deeper (envOfC nm sc s₁.heap.objs.size a cd)) (execs body (envOfC nm sc s₁.heap.objs.size a cd)) Q E { s₁ with heap := h₁, toks := tk } := by
  subst hsc; subst hbody
  have G : Gd prog w (KH w) s₁.heap := ⟨KX, nl, hg, hb⟩
  have hcells : (envOfC nm (fdAt (KH w) 347).scope s₁.heap.objs.size a cd).cells = mkC ["builder", "bits", "figures"] s₁.heap.objs.size := by kernel_rfl
  have hmain : ∃ o, s₁.heap.get? mainGlobals = some o := let ⟨_, o, _, _, h, _⟩ := hg; ⟨o, h⟩
  have S : St prog w s₁.heap h₁ (fun _ => none) := ⟨F.keep, fun a h => absurd rfl h, hmain, fun a o h => by cases h⟩
  have hA : AOk 8 (callerA.deeper (envOfC nm (fdAt (KH w) 347).scope s₁.heap.objs.size a cd)) := ⟨by show 1 + claimMargin + 1 + 4 * 8 + 4 ≤ recursionLimit; decide, by show 4 + 3 + 100 * 8 + 200 ≤ cLine; decide, rfl⟩
  obtain ⟨cm, X⟩ := X
  have ka : ∀ p ∈ mkC ["builder", "bits", "figures"] s₁.heap.objs.size, ∃ o, h₁.get? p.2 = some o ∧ o.data = .cell (cm p.1) := cells_at X fun p hp => (N p hp).1
  have FR0 : FR s₁.heap h₁ (fun _ => none) (envOfC nm (fdAt (KH w) 347).scope s₁.heap.objs.size a cd) (PEnv.set (fun _ => none) "script" (.scr ns)) := by
    refine ⟨⟨m, F.ns, fun x pv _ hx => ?_⟩, fun x c hc => ?_, ⟨rfl, get?_size _⟩, fun p hp => ?_⟩
    · rw [PEnv.set_get] at hx
      split at hx
      · rename_i e; subst e; cases hx
        exact ⟨_, hm, .scr hL hI hn⟩
      · cases hx
    · rw [hcells] at hc
      have hp := Mine.mem_of_lookup hc
      obtain ⟨o, h1, h2⟩ := ka _ hp
      refine ⟨_, ⟨o, h1, h2⟩, fun pv hx => ?_⟩
      rw [PEnv.set_get] at hx
      split at hx
      · rename_i e; subst e
        have : (mkC ["builder", "bits", "figures"] s₁.heap.objs.size).lookup (Str.ofString "script") = none := by
          have n1 : (Str.ofString "script" == Str.ofString "builder") = false := by kernel_rfl
          have n2 : (Str.ofString "script" == Str.ofString "bits") = false := by kernel_rfl
          have n3 : (Str.ofString "script" == Str.ofString "figures") = false := by kernel_rfl
          simp only [mkC, List.lookup, n1, n2, n3]
        rw [this] at hc; cases hc
      · cases hx
    · rw [hcells] at hp
      obtain ⟨o, h1, h2⟩ := ka _ hp
      have gt := mkC_gt hp
      refine ⟨rfl, Heap.get?_none_of_le (Nat.le_of_lt gt), fun o' e => ?_, by rw [h1]; simp, Nat.ne_of_gt gt⟩
      rw [h1] at e; cases e
      rintro ⟨_, vs, k, e⟩
      rw [h2] at e; cases e
  refine wpAny_mono ((law_walk G nm s₁.heap.objs.size a cd _ _ _ (fun fl _ _ => fl = .ret (.bool true)) { s₁ with heap := h₁, toks := tk } hA (law_ok plain_law (PEnv.set_same ..) fun _ _ => rfl) S FR0).run E) (fun fl s' p => ?_) fun _ _ e => e
  obtain ⟨⟨pf, ρ₁⟩, σ₁, h₂, tk₂, rfl, S₁, y, ⟨rf, F₁⟩, q⟩ := p
  dsimp only at q
  subst q
  cases rf with
  | ret r =>
    cases r with
    | bool b =>
      obtain ⟨m', hm', _⟩ := F₁.ns
      exact hQ h₂ tk₂ m' ⟨hm', S₁.base, Nat.le_refl _⟩
end Mine
open PySem PySem.W PySem.Calls PyProof.Rows PySem.Spec Mine
local macro_rules
  | `(tactic| k_qdec) => `(tactic| decide +kernel)
theorem PySem.Challenge.cw_rr0021_01_holds : PySem.Challenge.rw_rr0021_01.Holds := by
  exact hd (by
    k_go0
    refine law_bridge ?hsc ?hbody ?KX ?nl ?hg ?hb (by assumption) (by assumption) ?X ?hm (by assumption) (by assumption) ?hn ?hQ
    case KX => assumption
    case nl => exact Top.nolimit (by assumption)
    case hg => exact ⟨_, Top.g (by assumption)⟩
    case hb => exact ⟨_, Top.b (by assumption), Top.builtins (by assumption)⟩
    case hsc => kernel_rfl
    case hbody => kernel_rfl
    case X => exact ⟨_, by assumption⟩
    case hm => rfl
    case hn => omega
    case hQ =>
      intro h' tk' m' F'
      refine goodW_bool F' (by assumption) (raisesW_false ?_) ?_
      · wrow_none_raised
      · wrow_post)
