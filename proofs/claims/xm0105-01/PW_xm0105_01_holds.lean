import PyProof.Rows.All
import Wide.All
import OpenK.AllK
import Wide.FinOn
import PySem.Challenge.RW_xm0105_01

set_option maxRecDepth 100000
set_option autoImplicit false
set_option Elab.async false
set_option linter.unusedVariables false

set_option maxHeartbeats 0
namespace Mine
open PySem PySem.W PySem.Spec PySem.Calls PyProof.Rows

noncomputable def keepSt : Stmt → Bool
  | .Assign [.Name x _] _ _ => !(x == "__name__")
  | _ => true
noncomputable def viewQ : Program := { PySem.Challenge.pw_xm0105_01 with main := { PySem.Challenge.pw_xm0105_01.main with body := PySem.Challenge.pw_xm0105_01.main.body.filter keepSt } }

noncomputable def r0O : Obj := { cls := .type "tuple", data := .seq #[.int 0 251, .int 1 252] 0 }
noncomputable def r1O : Obj := { cls := .type "tuple", data := .seq #[.int 1 254, .int 1 255] 0 }
noncomputable def RSays (h : Heap) : Prop := (∃ mg, h.Ns mainGlobals mg ∧ mg "R0" = some (.ref 56) ∧ mg "R1" = some (.ref 57)) ∧ h.get? 56 = some r0O ∧ h.get? 57 = some r1O
noncomputable def rHook : Hook where
  α := Bool × Option Value × Option Value × Option Obj × Option Obj
  obs := fun s => (s.heap.isNs mainGlobals, s.heap.nsMap mainGlobals "R0", s.heap.nsMap mainGlobals "R1", s.heap.get? 56, s.heap.get? 57)
  val := fun _ => (true, some (.ref 56), some (.ref 57), some r0O, some r1O)
  says := fun _ h => RSays h
  of := fun _ s e => by
    simp only [Prod.mk.injEq] at e
    obtain ⟨e1, e2, e3, e4, e5⟩ := e
    exact ⟨⟨_, Heap.Ns.of_isNs e1, e2, e3⟩, e4, e5⟩
  keeps := fun _ h h' x k => by
    obtain ⟨⟨mg, x1, x2, x3⟩, x4, x5⟩ := x
    exact ⟨⟨mg, x1.keeps k, x2, x3⟩, k _ _ x4, k _ _ x5⟩
theorem recs_view : recsOf viewQ = recsOf PySem.Challenge.pw_xm0105_01 := by kernel_rfl
end Mine

open PySem PySem.W PySem.Spec PySem.Calls PyProof.Rows
namespace Mine
noncomputable def topRunG (ok : Thread → Bool) (st : SharedT → Thread → Option (SharedT × Thread)) : Nat → SharedT → Thread → Option SharedT
  | 0, _, _ => none
  | n + 1, s, t => match through t with
    | true => some s
    | false => match ok t with
      | false => none
      | true => match st s t with
        | some (s', t') => topRunG ok st n s' t'
        | none => none
theorem topRun_of {tb : String → Option Builtin} {p : Program} {w : World} {n₀ : Nat} {ann : Option Value} : ∀ {n : Nat} {s s' : SharedT} {t : Thread}, topRunG (stepOk n₀ ann) (stepT (denote tb) p w) n s t = some s' → topRun tb p w n₀ ann n s.abs t = some s'.abs
  | 0, _, _, _, h => by cases h
  | n + 1, s, s', t, h => by
    unfold topRunG at h
    unfold topRun
    cases ht : through t with
    | true => rw [ht] at h; cases h; rfl
    | false =>
      rw [ht] at h
      cases hk : stepOk n₀ ann t with
      | false => rw [hk] at h; cases h
      | true =>
        rw [hk] at h
        cases hs : stepT (denote tb) p w s t with
        | none => rw [hs] at h; cases h
        | some r => obtain ⟨s₂, t₂⟩ := r; rw [hs] at h; dsimp only; rw [stepT_spec hs]; exact topRun_of h
noncomputable def btOf : List Obj → Nat → BT → BT
  | [], _, t => t
  | o :: l, n, t => btOf l (n + 1) (t.ins n o)
theorem open_is (w : World) : (fencedOpening treeTable PySem.Challenge.pw_xm0105_01 w 4866).map (fun s => (s.heap, s.gens, s.drawn, s.toks)) = some (boot_heap w.params, Array.mk [], boot_drawn, boot_toks) :=
  boot_open (by kernel_rfl) (by decide) (fun s => by rfl) w
theorem boot_size (w : World) : ((boot_heap w.params).isNs mainGlobals && (Array.mk [] : Array GenState).size == 0, (boot_heap w.params).objs.size, (boot_heap w.params).nsMap mainGlobals "__annotations__") = (true, 11, some (.ref 6)) := by kernel_rfl
noncomputable def bootT (P : Params) : BT := btOf (boot_heap P).objs.toList 0 .nil
theorem boot_abs (w : World) : boot_heap w.params = absHeap (bootT w.params) 11 (boot_heap w.params).life := by kernel_rfl
noncomputable abbrev P0 : Program := PySem.Challenge.pw_xm0105_01
noncomputable abbrev XtQ : Shared → Bool := fun s => xlAt viewQ [] s && recOk (RowW.records (OpenRow.toRowW PySem.Challenge.rw_xm0105_01.row)) s
noncomputable def runQ (w : World) (os : OsState) : Option SharedT := topRunG (Fast.tw6613529449190102663 11 (some (.ref 6))) (Fast.tw10156331382660048174 (Fast.tw11892475500146522536 Fast.tw14364793385576792824) P0 w) 4866 ⟨bootT w.params, 11, (boot_heap w.params).life, #[], boot_drawn, boot_toks, os⟩ (topStub P0)
theorem topFrom_of {p : Program} {w : World} {N n₀ : Nat} {ann : Option Value} {s₀ s₁ : Shared} (z1 : (s₀.heap.isNs mainGlobals && s₀.gens.size == 0) = true) (z2 : s₀.heap.objs.size = n₀) (z3 : s₀.heap.nsMap mainGlobals "__annotations__" = ann)
    (r : topRun treeTable p w n₀ ann N s₀ (topStub p) = some s₁) (l : (staticsOk (importedModules p.main.body) s₀.heap s₁.heap && namesBound p s₁.heap && gensDone s₁ && laidKept s₀.heap s₁.heap) = true) : topFrom treeTable p w N s₀ = some s₁ := by
  unfold topFrom
  rw [z1, z2, z3, r]
  show (match staticsOk (importedModules p.main.body) s₀.heap s₁.heap && namesBound p s₁.heap && gensDone s₁ && laidKept s₀.heap s₁.heap with | true => _ | false => _) = _
  rw [l]
theorem ends_of {p : Program} {w : World} {N : Nat} {s₀ s₁ : Shared} (e : fencedOpening treeTable p w N = some s₀) (t : topFrom treeTable p w N s₀ = some s₁) : openEnds treeTable p w N = some s₁ := by
  unfold openEnds
  rw [e]
  exact t
theorem map_ends {p : Program} {w : World} {N : Nat} {s₁ : Shared} {α : Type} {F : Shared → α} {y : α} (e : openEnds treeTable p w N = some s₁) (h : F s₁ = y) : (openEnds treeTable p w N).map F = some y := by
  rw [e]
  exact congrArg some h
theorem run_top {p : Program} {w : World} {n₀ : Nat} {ann : Option Value} {N : Nat} {σ₀ σ : SharedT} (r : topRunG (Fast.tw6613529449190102663 n₀ ann) (Fast.tw10156331382660048174 (Fast.tw11892475500146522536 Fast.tw14364793385576792824) p w) N σ₀ (topStub p) = some σ) :
    topRun treeTable p w n₀ ann N σ₀.abs (topStub p) = some σ.abs := by
  rw [← Fast.te6613529449190102663, ← Fast.te10156331382660048174, ← Fast.te11892475500146522536, ← Fast.te14364793385576792824] at r
  exact topRun_of r
theorem abs_is {t : BT} {n : Nat} {life : Life} {gens : Array GenState} {drawn : Drawn} {toks : Nat} {os : OsState} {h : Heap} (e : h = absHeap t n life) : SharedT.abs ⟨t, n, life, gens, drawn, toks, os⟩ = ⟨h, gens, drawn, toks, os⟩ := by rw [e]; rfl
theorem left_of_run {Ya : World → rHook.α}
    (look : ∀ w os, ∃ σ, runQ w os = some σ ∧ (staticsOk (importedModules P0.main.body) (boot_heap w.params) σ.abs.heap && namesBound P0 σ.abs.heap && gensDone σ.abs && laidKept (boot_heap w.params) σ.abs.heap) = true ∧
      openSeen viewQ [] (importedModules P0.main.body) XtQ true σ.abs = openGood viewQ [] ∧ rHook.obs σ.abs = Ya w) : LeftO P0 viewQ [] XtQ rHook.obs Ya 4866 := fun w => by
  obtain ⟨⟨h, gs, d, k, os⟩, e, e'⟩ := Option.map_eq_some_iff.mp (open_is w)
  simp only [Prod.mk.injEq] at e'
  obtain ⟨rfl, rfl, rfl, rfl⟩ := e'
  have z := boot_size w
  simp only [Prod.mk.injEq] at z
  obtain ⟨z1, z2, z3⟩ := z
  obtain ⟨σ, r, l1, l2, l3⟩ := look w os
  have r := run_top r
  rw [abs_is (boot_abs w)] at r
  exact map_ends (ends_of e (topFrom_of z1 z2 z3 r l1)) (Prod.ext l2 l3)
end Mine

open PySem PySem.W PySem.Spec PySem.Calls PyProof.Rows
namespace Mine
theorem look_join {p q : Program} {Xt : Shared → Bool} {α : Type} {Yf : Shared → α} {ya : α} {H : Heap} {x : Option SharedT}
    (h1 : x.map (fun σ => ((staticsOk (importedModules p.main.body) H σ.abs.heap && namesBound p σ.abs.heap && gensDone σ.abs && laidKept H σ.abs.heap, Yf σ.abs), σ.abs.heap.bltView,
      (Fast.tw14722251495701143533 σ.abs.heap (importedModules p.main.body), σ.abs.heap.isNs mainGlobals, σ.abs.heap.isNs builtinsNs, Fast.tw10994771534591457954 q σ.abs.heap, Xt σ.abs, σ.abs.gens.size == 0))) = some ((true, ya), bltViewBooted, true, true, true, true, true, true))
    (h2 : x.map (fun σ => Fast.tw5160383126252970620 ((recsOf q).map (·.name)) (ownsOf q) [] { σ.abs with gens := #[] }) = some (expectedOf q))
    (h3 : x.map (fun σ => Fast.tw10880121769531294198 σ.abs.heap (looseW q []) ((recsOf q).map (·.name)) ((litsOf q).map (·.1)) ((clssOf q (looseW q [])).map (·.name))) = some true)
    (h4 : x.map (fun σ => (Fast.tw479339242167458305 q σ.abs, Fast.tw16090120013241838585 q (drecsOf q) σ.abs)) = some (true, pinGoodD (drecsOf q)))
    (h5 : x.map (fun σ => (Fast.tw2386780881361962483 q (looseW q []) σ.abs, Fast.tw11698064438423848299 q [] σ.abs)) = some (plainGoodE q (looseW q []), plainGoodD q []))
    (h6 : x.map (fun σ => (Fast.tw7317090234206586261 q σ.abs, Fast.tw7369524293546568484 q [] σ.abs)) = some (wideGood q, clsGoodW q [])) :
    ∃ σ, x = some σ ∧ (staticsOk (importedModules p.main.body) H σ.abs.heap && namesBound p σ.abs.heap && gensDone σ.abs && laidKept H σ.abs.heap) = true ∧
      openSeen q [] (importedModules p.main.body) Xt true σ.abs = openGood q [] ∧ Yf σ.abs = ya := by
  cases x with
  | none => cases h3
  | some σ =>
    have a1 := Option.some.inj h1
    have a2 := Option.some.inj h2
    have a3 := Option.some.inj h3
    have a4 := Option.some.inj h4
    have a5 := Option.some.inj h5
    have a6 := Option.some.inj h6
    dsimp only at a1 a2 a3 a4 a5 a6
    simp only [Prod.mk.injEq] at a1 a4 a5 a6
    obtain ⟨⟨b1, b2⟩, b3, b4, b5, b6, b7, b8, b9⟩ := a1
    obtain ⟨c1, c2⟩ := a4
    obtain ⟨d1, d2⟩ := a5
    obtain ⟨e1, e2⟩ := a6
    refine ⟨σ, rfl, b1, ?_, b2⟩
    rw [← Fast.te14722251495701143533] at b4
    rw [← Fast.te10994771534591457954] at b7
    rw [← Fast.te5160383126252970620] at a2
    rw [← Fast.te10880121769531294198] at a3
    rw [← Fast.te479339242167458305] at c1
    rw [← Fast.te16090120013241838585] at c2
    rw [← Fast.te2386780881361962483] at d1
    rw [← Fast.te11698064438423848299] at d2
    rw [← Fast.te7317090234206586261] at e1
    rw [← Fast.te7369524293546568484] at e2
    unfold openSeen openGood
    rw [a2, b3, a3, b4, b5, b6, b7, b8, if_pos rfl, b9, c1, c2, d1, d2, e1, e2]
    rfl
theorem look1 (w : World) (os : OsState) : (runQ w os).map (fun σ => ((staticsOk (importedModules P0.main.body) (boot_heap w.params) σ.abs.heap && namesBound P0 σ.abs.heap && gensDone σ.abs && laidKept (boot_heap w.params) σ.abs.heap, rHook.obs σ.abs), σ.abs.heap.bltView,
      (Fast.tw14722251495701143533 σ.abs.heap (importedModules P0.main.body), σ.abs.heap.isNs mainGlobals, σ.abs.heap.isNs builtinsNs, Fast.tw10994771534591457954 viewQ σ.abs.heap, XtQ σ.abs, σ.abs.gens.size == 0))) = some ((true, rHook.val w), bltViewBooted, true, true, true, true, true, true) := by kernel_rfl
theorem look2 (w : World) (os : OsState) : (runQ w os).map (fun σ => Fast.tw5160383126252970620 ((recsOf viewQ).map (·.name)) (ownsOf viewQ) [] { σ.abs with gens := #[] }) = some (expectedOf viewQ) := by kernel_rfl
theorem look3 (w : World) (os : OsState) : (runQ w os).map (fun σ => Fast.tw10880121769531294198 σ.abs.heap (looseW viewQ []) ((recsOf viewQ).map (·.name)) ((litsOf viewQ).map (·.1)) ((clssOf viewQ (looseW viewQ [])).map (·.name))) = some true := by kernel_rfl
theorem look4 (w : World) (os : OsState) : (runQ w os).map (fun σ => (Fast.tw479339242167458305 viewQ σ.abs, Fast.tw16090120013241838585 viewQ (drecsOf viewQ) σ.abs)) = some (true, pinGoodD (drecsOf viewQ)) := by kernel_rfl
theorem look5 (w : World) (os : OsState) : (runQ w os).map (fun σ => (Fast.tw2386780881361962483 viewQ (looseW viewQ []) σ.abs, Fast.tw11698064438423848299 viewQ [] σ.abs)) = some (plainGoodE viewQ (looseW viewQ []), plainGoodD viewQ []) := by kernel_rfl
theorem look6 (w : World) (os : OsState) : (runQ w os).map (fun σ => (Fast.tw7317090234206586261 viewQ σ.abs, Fast.tw7369524293546568484 viewQ [] σ.abs)) = some (wideGood viewQ, clsGoodW viewQ []) := by kernel_rfl
theorem leftQ : LeftO P0 viewQ [] XtQ rHook.obs rHook.val 4866 := left_of_run fun w os => look_join (look1 w os) (look2 w os) (look3 w os) (look4 w os) (look5 w os) (look6 w os)
end Mine

open PySem PySem.W PySem.Spec PySem.Calls PyProof.Rows
namespace Mine
theorem k_saidT : Fast.tw9446332074065402090 PySem.Challenge.rw_xm0105_01 = true := by kernel_rfl
theorem said_of {l : OpenLaw} (h : Fast.tw9446332074065402090 l = true) : l.wellSaid = true := by rw [Fast.te9446332074065402090]; exact h
theorem k_said : PySem.Challenge.rw_xm0105_01.wellSaid = true := said_of k_saidT
theorem k_chain : chainsOk viewQ = true := by kernel_rfl
theorem k_opens : opensWell PySem.Challenge.rw_xm0105_01.row.prog = true := by kernel_rfl
theorem k_frees : frees PySem.Challenge.rw_xm0105_01.row.toRowW = true := by kernel_rfl
theorem k_within : PySem.Challenge.rw_xm0105_01.row.within.isEmpty = true := by kernel_rfl
theorem k_tables : PySem.Challenge.rw_xm0105_01.row.prog.tablesWhole = true := by kernel_rfl
theorem k_bare : PySem.Challenge.rw_xm0105_01.row.prog.bare := ⟨rfl, rfl, rfl, rfl, rfl, k_tables⟩
theorem k_prom : PySem.Challenge.rw_xm0105_01.row.toRowW.promised := by w_witness2
end Mine

set_option maxHeartbeats 200000
namespace Mine
open PySem PySem.W PySem.Spec PySem.Calls PyProof.Rows

noncomputable abbrev lstO (vs : List Value) (n : Nat) : Obj := { cls := .type "list", data := .seq vs.toArray n }
noncomputable abbrev tupO (vs : List Value) (n : Nat) : Obj := { cls := .type "tuple", data := .seq vs.toArray n }

mutual
inductive Enc (N : Addr → Prop) (h : Heap) : Value → PyData → Prop
  | none : Enc N h .none .none
  | bool (b : Bool) : Enc N h (.bool b) (.bool b)
  | int (i : Int) (t : Tok) : Enc N h (.int i t) (.int i)
  | str (x : Str) (t : Tok) : Enc N h (.str x t) (.str x)
  | list {a : Addr} {vs : List Value} {n : Nat} {ds : List PyData} : ¬ N a → h.get? a = some (lstO vs n) → EncL N h vs ds → Enc N h (.ref a) (.list ds)
  | tuple {a : Addr} {vs : List Value} {n : Nat} {ds : List PyData} : h.get? a = some (tupO vs n) → EncL N h vs ds → Enc N h (.ref a) (.tuple ds)
inductive EncL (N : Addr → Prop) (h : Heap) : List Value → List PyData → Prop
  | nil : EncL N h [] []
  | cons {v : Value} {d : PyData} {vs : List Value} {ds : List PyData} : Enc N h v d → EncL N h vs ds → EncL N h (v :: vs) (d :: ds)
end

/-- like Enc, but the outermost list may be private -/
noncomputable def EncR (N : Addr → Prop) (h : Heap) (v : Value) (d : PyData) : Prop :=
  Enc N h v d ∨ ∃ a vs n ds, v = .ref a ∧ d = .list ds ∧ h.get? a = some (lstO vs n) ∧ EncL N h vs ds

noncomputable def Kp (h h' : Heap) : Prop := ∀ b o, h.get? b = some o → h'.get? b = some o
theorem Kp.refl (h : Heap) : Kp h h := fun _ _ e => e
theorem Kp.trans {h h' h'' : Heap} (a : Kp h h') (b : Kp h' h'') : Kp h h'' := fun _ _ e => b _ _ (a _ _ e)
theorem Kp.push (h : Heap) (o : Obj) : Kp h (h.push o) := fun _ _ e => Heap.get?_push_of_some _ e

structure Mv (N N' : Addr → Prop) (h h' : Heap) : Prop where
  l : ∀ a vs n, h.get? a = some (lstO vs n) → ¬ N a → h'.get? a = some (lstO vs n) ∧ ¬ N' a
  t : ∀ a vs n, h.get? a = some (tupO vs n) → h'.get? a = some (tupO vs n)

section
variable {N N' : Addr → Prop} {h h' : Heap}
mutual
theorem Enc.mv (k : Mv N N' h h') : ∀ {v : Value} {d : PyData}, Enc N h v d → Enc N' h' v d
  | _, _, .none => .none
  | _, _, .bool b => .bool b
  | _, _, .int i t => .int i t
  | _, _, .str x t => .str x t
  | _, _, .list hn e r => .list (k.l _ _ _ e hn).2 (k.l _ _ _ e hn).1 (EncL.mv k r)
  | _, _, .tuple e r => .tuple (k.t _ _ _ e) (EncL.mv k r)
theorem EncL.mv (k : Mv N N' h h') : ∀ {vs : List Value} {ds : List PyData}, EncL N h vs ds → EncL N' h' vs ds
  | _, _, .nil => .nil
  | _, _, .cons a b => .cons (Enc.mv k a) (EncL.mv k b)
end
theorem Mv.kp (k : Kp h h') : Mv N N h h' := ⟨fun _ _ _ e hn => ⟨k _ _ e, hn⟩, fun _ _ _ e => k _ _ e⟩
theorem Enc.kp {v : Value} {d : PyData} (x : Enc N h v d) (k : Kp h h') : Enc N h' v d := x.mv (Mv.kp k)
theorem EncL.kp {v : List Value} {d : List PyData} (x : EncL N h v d) (k : Kp h h') : EncL N h' v d := x.mv (Mv.kp k)
theorem EncR.kp {v : Value} {d : PyData} (x : EncR N h v d) (k : Kp h h') : EncR N h' v d := by
  rcases x with x | ⟨a, vs, n, ds, h1, h2, h3, h4⟩
  · exact .inl (x.kp k)
  · exact .inr ⟨a, vs, n, ds, h1, h2, k _ _ h3, h4.kp k⟩
theorem Enc.r {v : Value} {d : PyData} (x : Enc N h v d) : EncR N h v d := .inl x
/-- fewer private lists -/
theorem Enc.sub {v : Value} {d : PyData} (x : Enc N h v d) (k : ∀ a, N' a → N a) : Enc N' h v d :=
  x.mv ⟨fun _ _ _ e hn => ⟨e, fun q => hn (k _ q)⟩, fun _ _ _ e => e⟩
theorem EncL.sub {v : List Value} {d : List PyData} (x : EncL N h v d) (k : ∀ a, N' a → N a) : EncL N' h v d :=
  x.mv ⟨fun _ _ _ e hn => ⟨e, fun q => hn (k _ q)⟩, fun _ _ _ e => e⟩
/-- a list that is not in the heap may become private -/
theorem Mv.fresh (k : Kp h h') {a : Addr} (ha : h.get? a = none) : Mv N (fun b => N b ∨ b = a) h h' :=
  ⟨fun _ _ _ e hn => ⟨k _ _ e, fun q => q.elim hn fun q => by rw [q, ha] at e; cases e⟩, fun _ _ _ e => k _ _ e⟩
theorem EncL.length {vs : List Value} {ds : List PyData} (x : EncL N h vs ds) : vs.length = ds.length := by
  induction vs generalizing ds with
  | nil => cases x; rfl
  | cons v vs ih => cases x with | cons _ r => rw [List.length_cons, List.length_cons, ih r]
theorem EncL.append {vs ws : List Value} {ds es : List PyData} (x : EncL N h vs ds) (y : EncL N h ws es) : EncL N h (vs ++ ws) (ds ++ es) := by
  induction vs generalizing ds with
  | nil => cases x; exact y
  | cons v vs ih => cases x with | cons a r => exact .cons a (ih r)
theorem EncL.get {vs : List Value} {ds : List PyData} (x : EncL N h vs ds) {k : Nat} {d : PyData} (e : ds[k]? = some d) : ∃ v, vs[k]? = some v ∧ Enc N h v d := by
  induction vs generalizing ds k with
  | nil => cases x; cases e
  | cons v vs ih =>
    cases x with
    | cons a r =>
      cases k with
      | zero => cases e; exact ⟨v, rfl, a⟩
      | succ k => exact ih r (by simpa using e)
theorem EncL.set {vs : List Value} {ds : List PyData} (x : EncL N h vs ds) (k : Nat) {v : Value} {d : PyData} (y : Enc N h v d) : EncL N h (vs.set k v) (ds.set k d) := by
  induction vs generalizing ds k with
  | nil => cases x; exact .nil
  | cons w vs ih =>
    cases x with
    | cons a r =>
      cases k with
      | zero => exact .cons y r
      | succ k => exact .cons a (ih r k)
theorem EncL.take {vs : List Value} {ds : List PyData} (x : EncL N h vs ds) (k : Nat) : EncL N h (vs.take k) (ds.take k) := by
  induction vs generalizing ds k with
  | nil => cases x; simp; exact .nil
  | cons w vs ih =>
    cases x with
    | cons a r =>
      cases k with
      | zero => exact .nil
      | succ k => exact .cons a (ih r k)
theorem EncL.drop {vs : List Value} {ds : List PyData} (x : EncL N h vs ds) (k : Nat) : EncL N h (vs.drop k) (ds.drop k) := by
  induction vs generalizing ds k with
  | nil => cases x; simp; exact .nil
  | cons w vs ih =>
    cases x with
    | cons a r =>
      cases k with
      | zero => exact .cons a r
      | succ k => exact ih r k
theorem EncL.replicate {v : Value} {d : PyData} (x : Enc N h v d) (k : Nat) : EncL N h (List.replicate k v) (List.replicate k d) := by
  induction k with
  | zero => exact .nil
  | succ k ih => exact .cons x ih
mutual
theorem Enc.reads : ∀ {v : Value} {d : PyData}, Enc N h v d → ∃ as, Reads h v d as
  | _, _, .none => ⟨_, .none⟩
  | _, _, .bool b => ⟨_, .bool b⟩
  | _, _, .int i t => ⟨_, .int i t⟩
  | _, _, .str x t => ⟨_, .str x t⟩
  | _, _, .list _ e r => by
    obtain ⟨as, q⟩ := EncL.reads r
    exact ⟨_, reads_list_at e rfl rfl (by simpa using q)⟩
  | _, _, .tuple e r => by
    obtain ⟨as, q⟩ := EncL.reads r
    exact ⟨_, reads_tuple_at e rfl rfl (by simpa using q)⟩
theorem EncL.reads : ∀ {vs : List Value} {ds : List PyData}, EncL N h vs ds → ∃ as, ReadsAll h vs ds as
  | _, _, .nil => ⟨_, .nil⟩
  | _, _, .cons a b => by
    obtain ⟨as, p⟩ := Enc.reads a
    obtain ⟨bs, q⟩ := EncL.reads b
    exact ⟨_, .cons p q⟩
end
theorem EncR.reads {v : Value} {d : PyData} (x : EncR N h v d) : ∃ as, Reads h v d as := by
  rcases x with x | ⟨a, vs, n, ds, rfl, rfl, e, r⟩
  · exact x.reads
  · obtain ⟨as, q⟩ := r.reads
    exact ⟨_, reads_list_at e rfl rfl (by simpa using q)⟩
end

/-- what stays of the program: its globals, its builtins, its defs -/
structure Base where
  prog : Program
  w : World
  mg : Str → Option Value
  mb : Str → Option Value

noncomputable def bltOf : List (Str × Value) := [("abs", .builtin "abs"), ("max", .builtin "max"), ("min", .builtin "min"), ("len", .builtin "len"), ("isinstance", .builtin "isinstance"),
  ("range", .type "range"), ("list", .type "list"), ("enumerate", .type "enumerate"), ("reversed", .type "reversed"), ("int", .type "int"), ("str", .type "str")]

structure G0 (B : Base) (h : Heap) : Prop where
  g : h.Ns mainGlobals B.mg
  b : h.Ns builtinsNs B.mb
  nolimit : h.NoLimit
  fn : ∀ d ∈ recsOf PySem.Challenge.pw_xm0105_01, ∃ a o pm code doc, B.mg d.name = some (.ref a) ∧ h.get? a = some o ∧ o.data = .func (docDef d.name d.params d.body d.scope pm code doc) ∧ h.CodeRec code d.name
  blt : ∀ p ∈ bltOf, B.mg p.1 = none ∧ B.mb p.1 = some p.2
  r0 : ∃ v, B.mg "R0" = some v ∧ ∀ N, Enc N h v (.tuple [.int 0, .int 1])
  r1 : ∃ v, B.mg "R1" = some v ∧ ∀ N, Enc N h v (.tuple [.int 1, .int 1])

theorem G0.kp {B : Base} {h h' : Heap} (x : G0 B h) (k : Kp h h') : G0 B h' where
  g := x.g.keeps k
  b := x.b.keeps k
  nolimit := x.nolimit.keeps k
  fn := fun d hd => let ⟨a, o, pm, c, dc, h1, h2, h3, h4⟩ := x.fn d hd; ⟨a, o, pm, c, dc, h1, k _ _ h2, h3, h4.keeps k⟩
  blt := x.blt
  r0 := let ⟨v, e, q⟩ := x.r0; ⟨v, e, fun N => (q N).kp k⟩
  r1 := let ⟨v, e, q⟩ := x.r1; ⟨v, e, fun N => (q N).kp k⟩

structure EX where
  L : Addr
  cells : List (Str × Addr)
  qual : Str
  fn : Option Addr
  code : Value
  fr : Option Addr
noncomputable abbrev EX.env (X : EX) (sc : Scope) : Env := { scope := sc, locals := X.L, globals := mainGlobals, cells := X.cells, qual := X.qual, func := X.fn, code := X.code, frame := X.fr, builtins := builtinsNs }

noncomputable def Rd (env : Env) (h : Heap) (x : Str) (v : Value) : Prop :=
  (env.kindOf x = some .local ∧ ∃ m, h.Ns env.locals m ∧ m x = some v) ∨ (env.kindOf x = some .cell ∧ ∃ c, env.cells.lookup x = some c ∧ h.IsCell c (some v))
theorem Rd.kp {env : Env} {h h' : Heap} {x : Str} {v : Value} (r : Rd env h x v) (k : Kp h h') : Rd env h' x v := by
  rcases r with ⟨a, m, b, c⟩ | ⟨a, c, b, d⟩
  · exact .inl ⟨a, m, b.keeps k, c⟩
  · exact .inr ⟨a, c, b, d.keeps k⟩
theorem Heap.Ns.uniq {h : Heap} {a : Addr} {m m' : Str → Option Value} (x : h.Ns a m) (y : h.Ns a m') : m = m' := by
  obtain ⟨o, es, ep, e1, e2, _, e3⟩ := x
  obtain ⟨o', es', ep', f1, f2, _, f3⟩ := y
  rw [e1] at f1; cases f1
  rw [e2] at f2; cases f2
  funext n; rw [← e3, f3]
theorem Rd.uniq {env : Env} {h : Heap} {x : Str} {v v' : Value} (r : Rd env h x v) (r' : Rd env h x v') : v = v' := by
  rcases r with ⟨a, m, b, c⟩ | ⟨a, c, b, d⟩ <;> rcases r' with ⟨a', m', b', c'⟩ | ⟨a', c', b', d'⟩
  · rw [Heap.Ns.uniq b b'] at c; rw [c] at c'; exact Option.some.inj c'
  · rw [a] at a'; cases a'
  · rw [a] at a'; cases a'
  · rw [b] at b'; cases b'
    obtain ⟨o, e1, e2⟩ := d
    obtain ⟨o', e1', e2'⟩ := d'
    rw [e1] at e1'; cases e1'
    rw [e2] at e2'; cases e2'; rfl

structure Room (A : Around) (lev : Nat) : Prop where
  hh : A.handled = none
  dp : A.depth + lev < recursionLimit
  un : A.units + 4 * lev + 100 < cLine

noncomputable abbrev Sto := List (Option PyData)
noncomputable def vg : Sto → Nat → Option PyData
  | [], _ => none
  | x :: _, 0 => x
  | _ :: r, n + 1 => vg r n
noncomputable def vput : Sto → Nat → PyData → Sto
  | [], _, _ => []
  | _ :: r, 0, d => some d :: r
  | x :: r, n + 1, d => x :: vput r n d
inductive At {α : Type} : List α → Nat → α → Prop
  | here {x : α} {l : List α} : At (x :: l) 0 x
  | there {x y : α} {l : List α} {n : Nat} : At l n x → At (y :: l) (n + 1) x

theorem vg_vput : ∀ (r : Sto) (i j : Nat) (d e : PyData), vg (vput r i d) j = some e → (j = i ∧ d = e) ∨ (j ≠ i ∧ vg r j = some e)
  | [], _, _, _, _, h => by cases h
  | x :: r, 0, 0, d, e, h => .inl ⟨rfl, Option.some.inj h⟩
  | x :: r, 0, j + 1, d, e, h => .inr ⟨Nat.succ_ne_zero _, h⟩
  | x :: r, i + 1, 0, d, e, h => .inr ⟨(Nat.succ_ne_zero _).symm, h⟩
  | x :: r, i + 1, j + 1, d, e, h => by
    rcases vg_vput r i j d e h with ⟨a, b⟩ | ⟨a, b⟩
    · exact .inl ⟨by rw [a], b⟩
    · exact .inr ⟨fun q => a (Nat.succ.inj q), b⟩
theorem At.uniq {α : Type} {l : List α} {i : Nat} {x y : α} (a : At l i x) (b : At l i y) : x = y := by
  induction a with
  | here => cases b; rfl
  | there _ ih => cases b with | there b => exact ih b
theorem At.mem {α : Type} {l : List α} {i : Nat} {x : α} (a : At l i x) : x ∈ l := by
  induction a with
  | here => exact .head _
  | there _ ih => exact .tail _ ih
theorem At.inj {α : Type} {l : List α} (hn : l.Nodup) {i j : Nat} {x : α} (a : At l i x) (b : At l j x) : i = j := by
  induction a generalizing j with
  | here => cases b with
    | here => rfl
    | there b => exact absurd b.mem (List.nodup_cons.mp hn).1
  | there a ih => cases b with
    | here => exact absurd a.mem (List.nodup_cons.mp hn).1
    | there b => rw [ih (List.nodup_cons.mp hn).2 b]

structure In (B : Base) (env : Env) (names : List Str) (o : Option Nat) (N : Addr → Prop) (ρ : Sto) (s : Shared) : Prop where
  g0 : G0 B s.heap
  nl : ∀ a, N a → ∃ vs n, s.heap.get? a = some (lstO vs n)
  rd : ∀ i x d, At names i x → vg ρ i = some d → ∃ v, Rd env s.heap x v ∧ EncR N s.heap v d ∧ (o ≠ some i → Enc N s.heap v d)
  cov : ∀ x, env.kindOf x = some .cell → ∃ c, env.cells.lookup x = some c
theorem In.kp {B : Base} {env : Env} {names : List Str} {o : Option Nat} {N : Addr → Prop} {ρ : Sto} {s : Shared} (x : In B env names o N ρ s) {h' : Heap} {tk : Nat} (k : Kp s.heap h') :
    In B env names o N ρ { s with heap := h', toks := tk } where
  g0 := x.g0.kp k
  nl := fun a ha => let ⟨vs, n, e⟩ := x.nl a ha; ⟨vs, n, k _ _ e⟩
  rd := fun i y d hi hd => let ⟨v, r, e, f⟩ := x.rd i y d hi hd; ⟨v, r.kp k, e.kp k, fun q => (f q).kp k⟩
  cov := x.cov

section
variable (B : Base) (sc : Scope) (names : List Str) (lev : Nat) (o : Option Nat)

/-- an expression's value, wholly public -/
noncomputable def Ev (e : Expr) (f : Sto → Option PyData) : Prop :=
  ∀ (X : EX) (A : Around) (N : Addr → Prop) (ρ : Sto) (d : PyData) (s : Shared) (E : Value → Shared → Prop) (Q : Value → Shared → Prop),
    Room A lev → In B (X.env sc) names o N ρ s → f ρ = some d →
    (∀ v h' tk, Kp s.heap h' → Enc N h' v d → Q v { s with heap := h', toks := tk }) → wpAny (model B.prog B.w) A (eval e (X.env sc)) Q E s
/-- an expression's value, its outermost list may be private -/
noncomputable def EvR (e : Expr) (f : Sto → Option PyData) : Prop :=
  ∀ (X : EX) (A : Around) (N : Addr → Prop) (ρ : Sto) (d : PyData) (s : Shared) (E : Value → Shared → Prop) (Q : Value → Shared → Prop),
    Room A lev → In B (X.env sc) names o N ρ s → f ρ = some d →
    (∀ v h' tk, Kp s.heap h' → EncR N h' v d → Q v { s with heap := h', toks := tk }) → wpAny (model B.prog B.w) A (eval e (X.env sc)) Q E s
/-- a list that is new -/
noncomputable def EvNew (e : Expr) (f : Sto → Option PyData) : Prop :=
  ∀ (X : EX) (A : Around) (N : Addr → Prop) (ρ : Sto) (d : PyData) (s : Shared) (E : Value → Shared → Prop) (Q : Value → Shared → Prop),
    Room A lev → In B (X.env sc) names o N ρ s → f ρ = some d →
    (∀ a vs n ds h' tk, Kp s.heap h' → s.heap.get? a = none → d = .list ds → h'.get? a = some (lstO vs n) → EncL (fun b => N b ∨ b = a) h' vs ds → Q (.ref a) { s with heap := h', toks := tk }) → wpAny (model B.prog B.w) A (eval e (X.env sc)) Q E s
/-- a test -/
noncomputable def EvT (e : Expr) (f : Sto → Option Bool) : Prop :=
  ∀ (X : EX) (A : Around) (N : Addr → Prop) (ρ : Sto) (d : Bool) (s : Shared) (E : Value → Shared → Prop) (Q : Bool → Shared → Prop),
    Room A lev → In B (X.env sc) names o N ρ s → f ρ = some d →
    (∀ h' tk, Kp s.heap h' → Q d { s with heap := h', toks := tk }) → wpAny (model B.prog B.w) A (isTrue e (X.env sc) (eval e (X.env sc))) Q E s
/-- several values, one after the other -/
noncomputable def EvL (es : List Expr) (f : Sto → Option (List PyData)) : Prop :=
  ∀ (X : EX) (A : Around) (N : Addr → Prop) (ρ : Sto) (ds : List PyData) (s : Shared) (E : Value → Shared → Prop) (Q : List Value → Shared → Prop) (pos : Pos),
    Room A lev → In B (X.env sc) names o N ρ s → f ρ = some ds →
    (∀ vs h' tk, Kp s.heap h' → EncL N h' vs ds → Q vs { s with heap := h', toks := tk }) → wpAny (model B.prog B.w) A (spliced (backTo pos (starEach es (X.env sc)))) Q E s
end

theorem list_new {M : Model} {A : Around} {E : Value → Shared → Prop} {s : Shared} {vs : List Value} {Q : Value → Shared → Prop} (hsz : vs.length ≤ sizeLine)
    (h : Q (.ref s.heap.objs.size) { s with heap := s.heap.push (lstO vs 0) }) : wpAny M A (newList vs) Q E s :=
  wpAny_newObj_type h (by show vs.toArray.size ≤ sizeLine; rw [List.size_toArray]; exact hsz)
theorem tup_new {M : Model} {A : Around} {E : Value → Shared → Prop} {s : Shared} {vs : List Value} {Q : Value → Shared → Prop} (hsz : vs.length ≤ sizeLine)
    (h : Q (.ref s.heap.objs.size) { s with heap := s.heap.push (tupO vs 0) }) : wpAny M A (newTuple vs) Q E s :=
  wpAny_newObj_type h (by show vs.toArray.size ≤ sizeLine; rw [List.size_toArray]; exact hsz)

theorem get_size (h : Heap) : h.get? h.objs.size = none := by
  cases q : h.get? h.objs.size with
  | none => rfl
  | some o => exact absurd (Heap.lt_size q) (Nat.lt_irrefl _)
end Mine

namespace Mine
open PySem PySem.W PySem.Spec PySem.Calls PyProof.Rows

theorem name_rd {M : Model} {A : Around} {E : Value → Shared → Prop} {s : Shared} {env : Env} {x : Str} {v : Value} {pos : Pos} {Q : Value → Shared → Prop}
    (hk : env.scope.kind = .function) (r : Rd env s.heap x v) (hd : (x == ("__debug__" : Str)) = false) (h : Q v s) : wpAny M A (eval (.Name x pos) env) Q E s := by
  rcases r with ⟨a, m, b, c⟩ | ⟨a, c, b, d⟩
  · exact wpAny_Name (wpAny_loadName_local hk a b c h) hd
  · exact wpAny_Name (wpAny_loadName_cell hk a b d h) hd

section
variable {B : Base} {sc : Scope} {names : List Str} {lev : Nat} {o : Option Nat}

theorem Ev.r {e : Expr} {f : Sto → Option PyData} (x : Ev B sc names lev o e f) : EvR B sc names lev o e f :=
  fun X A N ρ d s E Q R I hf h => x X A N ρ d s E Q R I hf fun v h' tk k e => h v h' tk k e.r
theorem EvNew.ev {e : Expr} {f : Sto → Option PyData} (x : EvNew B sc names lev o e f) : Ev B sc names lev o e f :=
  fun X A N ρ d s E Q R I hf h => x X A N ρ d s E Q R I hf fun a vs n ds h' tk k ha hd he hl => h _ h' tk k (by
    subst hd
    refine .list (fun q => ?_) he (hl.sub fun b hb => .inl hb)
    obtain ⟨vs', n', e'⟩ := I.nl a q
    rw [ha] at e'; cases e')

theorem EvR.var {i : Nat} {x : Str} {pos : Pos} (hi : At names i x) (hk : sc.kind = .function := by rfl) (hd : (x == ("__debug__" : Str)) = false := by decide) : EvR B sc names lev o (.Name x pos) (fun ρ => vg ρ i) :=
  fun X A N ρ d s E Q R I hf h => by
    obtain ⟨v, r, e, _⟩ := I.rd i x d hi hf
    exact name_rd hk r hd (h v s.heap s.toks (Kp.refl _) e)
theorem Ev.var {i : Nat} {x : Str} {pos : Pos} (hi : At names i x) (ho : o ≠ some i) (hk : sc.kind = .function := by rfl) (hd : (x == ("__debug__" : Str)) = false := by decide) : Ev B sc names lev o (.Name x pos) (fun ρ => vg ρ i) :=
  fun X A N ρ d s E Q R I hf h => by
    obtain ⟨v, r, _, e⟩ := I.rd i x d hi hf
    exact name_rd hk r hd (h v s.heap s.toks (Kp.refl _) (e ho))
theorem Ev.int {i : Int} {k : Nat} {pos : Pos} : Ev B sc names lev o (.Constant (.int i) k pos) (fun _ => some (.int i)) :=
  fun X A N ρ d s E Q R I hf h => by cases hf; exact wpAny_Constant_int (h _ s.heap _ (Kp.refl _) (.int _ _))
theorem Ev.none {k : Nat} {pos : Pos} : Ev B sc names lev o (.Constant .none k pos) (fun _ => some .none) :=
  fun X A N ρ d s E Q R I hf h => by cases hf; exact wpAny_Constant_none (h _ s.heap _ (Kp.refl _) .none)
theorem Ev.bool {b : Bool} {k : Nat} {pos : Pos} : Ev B sc names lev o (.Constant (.bool b) k pos) (fun _ => some (.bool b)) :=
  fun X A N ρ d s E Q R I hf h => by cases hf; exact wpAny_Constant_bool (h _ s.heap _ (Kp.refl _) (.bool _))
theorem Ev.str {x : Str} {k : Nat} {pos : Pos} : Ev B sc names lev o (.Constant (.str x) k pos) (fun _ => some (.str x)) :=
  fun X A N ρ d s E Q R I hf h => by cases hf; exact wpAny_Constant_str (h _ s.heap _ (Kp.refl _) (.str _ _))
theorem Ev.dead {e : Expr} : Ev B sc names lev o e (fun _ => Option.none) := fun X A N ρ d s E Q R I hf h => by cases hf
theorem EvT.dead {e : Expr} : EvT B sc names lev o e (fun _ => Option.none) := fun X A N ρ d s E Q R I hf h => by cases hf
theorem EvL.dead {e : List Expr} : EvL B sc names lev o e (fun _ => Option.none) := fun X A N ρ d s E Q p R I hf h => by cases hf

theorem glb {X : EX} {M : Model} {A : Around} {E : Value → Shared → Prop} {s : Shared} {x : Str} {v : Value} {pos : Pos} {Q : Value → Shared → Prop}
    (G : G0 B s.heap) (e : B.mg x = some v) (hk : sc.kind = .function) (hx : sc.names.lookup x = some .globalImplicit) (hd : (x == ("__debug__" : Str)) = false) (h : Q v s) : wpAny M A (eval (.Name x pos) (X.env sc)) Q E s :=
  Name_function_global hk hx (loadGlobal_global (env := X.env sc) G.g e h) hd
theorem blt {X : EX} {M : Model} {A : Around} {E : Value → Shared → Prop} {s : Shared} {x : Str} {v : Value} {pos : Pos} {Q : Value → Shared → Prop}
    (G : G0 B s.heap) (e : (x, v) ∈ bltOf) (hk : sc.kind = .function) (hx : sc.names.lookup x = some .globalImplicit) (hd : (x == ("__debug__" : Str)) = false) (h : Q v s) : wpAny M A (eval (.Name x pos) (X.env sc)) Q E s :=
  Name_function_global hk hx (loadGlobal_builtin (env := X.env sc) G.g (G.blt _ e).1 G.b (G.blt _ e).2 h) hd
theorem Ev.r0 {pos : Pos} (hk : sc.kind = .function := by rfl) (hx : sc.names.lookup ("R0" : Str) = some .globalImplicit := by rfl) : Ev B sc names lev o (.Name "R0" pos) (fun _ => some (.tuple [.int 0, .int 1])) :=
  fun X A N ρ d s E Q R I hf h => by
    cases hf
    obtain ⟨v, e, q⟩ := I.g0.r0
    exact glb I.g0 e hk hx (by decide) (h v s.heap s.toks (Kp.refl _) (q N))
theorem Ev.r1 {pos : Pos} (hk : sc.kind = .function := by rfl) (hx : sc.names.lookup ("R1" : Str) = some .globalImplicit := by rfl) : Ev B sc names lev o (.Name "R1" pos) (fun _ => some (.tuple [.int 1, .int 1])) :=
  fun X A N ρ d s E Q R I hf h => by
    cases hf
    obtain ⟨v, e, q⟩ := I.g0.r1
    exact glb I.g0 e hk hx (by decide) (h v s.heap s.toks (Kp.refl _) (q N))

/-! ### ints -/
noncomputable def sm (i : Int) : Bool := Nat.blt i.natAbs 1606938044258990275541962092341162602522202993782792835301376
theorem sm_bits {i : Int} (h : sm i = true) : Builtin.Int.intBits i ≤ 200 := by
  have h1 : i.natAbs < 2 ^ 200 := by
    have := Nat.le_of_ble_eq_true h
    have e : (2 : Nat) ^ 200 = 1606938044258990275541962092341162602522202993782792835301376 := by decide +kernel
    rw [e]; exact this
  unfold Builtin.Int.intBits
  split
  · omega
  · rename_i h0
    have := (Nat.log2_lt (by simpa using h0)).mpr h1
    omega
theorem sm_log {i : Int} (h : sm i = true) : i.natAbs.log2 < 9000 := by
  have h1 : i.natAbs < 2 ^ 200 := by
    have := Nat.le_of_ble_eq_true h
    have e : (2 : Nat) ^ 200 = 1606938044258990275541962092341162602522202993782792835301376 := by decide +kernel
    rw [e]; exact this
  by_cases h0 : i.natAbs = 0
  · rw [h0]; decide +kernel
  · have := (Nat.log2_lt h0).mpr h1
    omega

noncomputable def nz (b : Int) : Bool := !(Nat.beq b.natAbs 0)
theorem nz_ne {b : Int} (h : nz b = true) : b ≠ 0 := by
  rintro rfl; cases h

noncomputable def oInt (op : Operator) (a b : Int) : Option Int := match op with
  | .Add => some (a + b)
  | .Sub => some (a - b)
  | .Mult => bif sm a && sm b then some (a * b) else Option.none
  | .FloorDiv => bif sm b && nz b then some (a.fdiv b) else Option.none
  | .Mod => bif nz b then some (a.fmod b) else Option.none
  | .Pow => match b with
    | .ofNat n => bif sm a && Nat.ble n 1000 then some (a ^ n) else Option.none
    | .negSucc _ => Option.none
  | _ => Option.none

theorem cond_some {α : Type} {b : Bool} {x y : α} (h : (bif b then some x else Option.none) = some y) : b = true ∧ x = y := by
  cases b
  · cases h
  · exact ⟨rfl, Option.some.inj h⟩

theorem int_op {A : Around} {E : Value → Shared → Prop} {s : Shared} {op : Operator} {a b c : Int} {t u : Tok} {Q : Value → Shared → Prop} (e : oInt op a b = some c)
    (h : ∀ t tk, Q (.int c t) { s with toks := tk }) : wpAny (model B.prog B.w) A (binaryOp op (.int a t) (.int b u)) Q E s := by
  cases op <;> simp only [oInt] at e
  case Add => cases e; exact PyProof.Rows.add_int (h _ _)
  case Sub => cases e; exact PyProof.Rows.sub_int (h _ _)
  case Mult =>
    obtain ⟨q, rfl⟩ := cond_some e
    rw [Bool.and_eq_true] at q
    exact PyProof.Rows.mul_int (h _ _) (IntMulOk.of_le (sm_bits q.1) (sm_bits q.2) (by omega))
  case FloorDiv =>
    obtain ⟨q, rfl⟩ := cond_some e
    rw [Bool.and_eq_true] at q
    exact PyProof.Rows.floordiv_int (nz_ne q.2) (h _ _) (Or.inl (PyProof.noPylong_of_log2 (sm_log q.1)))
  case Mod =>
    obtain ⟨q, rfl⟩ := cond_some e
    exact PyProof.Rows.mod_int' (nz_ne q) (h _ _)
  case Pow =>
    cases b with
    | negSucc n => cases e
    | ofNat n =>
      obtain ⟨q, rfl⟩ := cond_some e
      rw [Bool.and_eq_true] at q
      have hn := Nat.le_of_ble_eq_true q.2
      have hb := sm_bits q.1
      refine PyProof.Rows.pow_int (Int.natCast_nonneg n) ?_ (h _ _)
      have : (Builtin.Int.intBits a) * n ≤ 200 * 1000 := Nat.mul_le_mul hb hn
      show ((Builtin.Int.intBits a : Int) * (n : Int)) ≤ 2 ^ 27
      omega
  all_goals cases e

noncomputable def szOk (n : Nat) : Bool := Nat.ble n 1000
noncomputable def ieq : Int → Int → Bool
  | .ofNat m, .ofNat n => Nat.beq m n
  | .negSucc m, .negSucc n => Nat.beq m n
  | _, _ => false
noncomputable def ile (a b : Int) : Bool := match b - a with
  | .ofNat _ => true
  | .negSucc _ => false
noncomputable def ilt (a b : Int) : Bool := ile (a + 1) b
theorem nbeq (m n : Nat) : Nat.beq m n = decide (m = n) := by
  cases h : Nat.beq m n with
  | true => exact (decide_eq_true (Nat.eq_of_beq_eq_true h)).symm
  | false => exact (decide_eq_false (fun q => by rw [q, Nat.beq_refl] at h; cases h)).symm
theorem ieq_is (a b : Int) : ieq a b = (a == b) := by
  show _ = decide (a = b)
  cases a <;> cases b <;> simp [ieq, nbeq] <;> omega
theorem ile_is (a b : Int) : ile a b = decide (a ≤ b) := by
  unfold ile
  split <;> rename_i n h
  · have h' : b - a = (n : Int) := h
    have : a ≤ b := by omega
    simp [this]
  · have : ¬ a ≤ b := by omega
    simp [this]
theorem ilt_is (a b : Int) : ilt a b = decide (a < b) := by
  unfold ilt; rw [ile_is]; rfl

noncomputable def binD (op : Operator) : PyData → PyData → Option PyData
  | .int a, .int b => (oInt op a b).map .int
  | .list xs, .list ys => match op with
    | .Add => bif szOk (xs.length + ys.length) then some (.list (xs ++ ys)) else Option.none
    | _ => Option.none
  | .list xs, .int n => match op, xs with
    | .Mult, [x] => bif szOk n.natAbs then some (.list (List.replicate n.toNat x)) else Option.none
    | _, _ => Option.none
  | .bool a, .bool b => match op with
    | .Sub => some (.int (b2i a - b2i b))
    | _ => Option.none
  | _, _ => Option.none

theorem EncL.sz {N : Addr → Prop} {h : Heap} {vs : List Value} {ds : List PyData} (x : EncL N h vs ds) {n : Nat} (e : szOk (ds.length + n) = true) : vs.length + n ≤ 1000 := by
  rw [x.length]; exact Nat.le_of_ble_eq_true e
theorem isList_of {h : Heap} {a : Addr} {vs : List Value} {n : Nat} (e : h.get? a = some (lstO vs n)) : h.IsList a vs.toArray := ⟨_, e, rfl, _, rfl⟩
theorem EncR.lst {N : Addr → Prop} {h : Heap} {v : Value} {ds : List PyData} (x : EncR N h v (.list ds)) : ∃ a vs n, v = .ref a ∧ h.get? a = some (lstO vs n) ∧ EncL N h vs ds := by
  rcases x with x | ⟨a, vs, n, ds', h1, h2, h3, h4⟩
  · cases x with | list hn e r => exact ⟨_, _, _, rfl, e, r⟩
  · cases h2; exact ⟨a, vs, n, h1, h3, h4⟩
theorem EncR.int {N : Addr → Prop} {h : Heap} {v : Value} {i : Int} (x : EncR N h v (.int i)) : ∃ t, v = .int i t := by
  rcases x with x | ⟨a, vs, n, ds', h1, h2, h3, h4⟩
  · cases x; exact ⟨_, rfl⟩
  · cases h2
theorem EncR.bool {N : Addr → Prop} {h : Heap} {v : Value} {i : Bool} (x : EncR N h v (.bool i)) : v = .bool i := by
  rcases x with x | ⟨a, vs, n, ds', h1, h2, h3, h4⟩
  · cases x; rfl
  · cases h2
theorem EncR.tup {N : Addr → Prop} {h : Heap} {v : Value} {ds : List PyData} (x : EncR N h v (.tuple ds)) : ∃ a vs n, v = .ref a ∧ h.get? a = some (tupO vs n) ∧ EncL N h vs ds := by
  rcases x with x | ⟨a, vs, n, ds', h1, h2, h3, h4⟩
  · cases x with | tuple e r => exact ⟨_, _, _, rfl, e, r⟩
  · cases h2

/-- what a rule hands on: a value that is new where it is a list -/
noncomputable def GivesD (N : Addr → Prop) (s : Shared) (d : PyData) (Q : Value → Shared → Prop) : Prop :=
  (∀ a vs n ds h' tk, Kp s.heap h' → s.heap.get? a = Option.none → d = .list ds → h'.get? a = some (lstO vs n) → EncL (fun b => N b ∨ b = a) h' vs ds → Q (.ref a) { s with heap := h', toks := tk }) ∧
  ((∀ ds, d ≠ .list ds) → ∀ v h' tk, Kp s.heap h' → Enc N h' v d → Q v { s with heap := h', toks := tk })

theorem bin_op {A : Around} {E : Value → Shared → Prop} {s : Shared} {op : Operator} {N : Addr → Prop} {va vb : Value} {a b d : PyData} {Q : Value → Shared → Prop}
    (xa : EncR N s.heap va a) (xb : EncR N s.heap vb b) (e : binD op a b = some d) (h : GivesD N s d Q) : wpAny (model B.prog B.w) A (binaryOp op va vb) Q E s := by
  unfold binD at e
  split at e
  · obtain ⟨t, rfl⟩ := xa.int
    obtain ⟨u, rfl⟩ := xb.int
    obtain ⟨c, hc, rfl⟩ := Option.map_eq_some_iff.mp e
    exact int_op hc fun t tk => h.2 (fun _ q => by cases q) _ s.heap _ (Kp.refl _) (.int _ _)
  · split at e
    · obtain ⟨la, vs, n, rfl, ea, ra⟩ := xa.lst
      obtain ⟨lb, ws, m, rfl, eb, rb⟩ := xb.lst
      obtain ⟨q, rfl⟩ := cond_some e
      have hz : vs.length + ws.length ≤ 1000 := by rw [ra.length, rb.length]; exact Nat.le_of_ble_eq_true q
      refine concat_meets ⟨_, ea, rfl⟩ ⟨_, eb, rfl⟩ noFill_list_add seq_list_add PySem.F.slot_list_add PySem.F.entry_list_add (PySem.F.args_list_add_2 _ _) (list_addW la lb vs.toArray ws.toArray n m Option.none Option.none #[] #[] (by simp only [List.size_toArray, sizeLine]; omega)) ⟨ea, eb, ?_⟩
      rw [show vs.toArray ++ ws.toArray = (vs ++ ws).toArray by simp]
      exact h.1 s.heap.objs.size (vs ++ ws) 0 _ _ s.toks (Kp.push _ _) (get_size _) rfl (Heap.get?_push_size _ rfl) ((ra.append rb).mv (Mv.fresh (Kp.push _ _) (get_size _)))
    · cases e
  · split at e
    · obtain ⟨la, vs, n, rfl, ea, ra⟩ := xa.lst
      obtain ⟨u, rfl⟩ := xb.int
      obtain ⟨q, rfl⟩ := cond_some e
      rename_i xx yy n0 op0 k1 x
      generalize n0 = k at *
      have hq : k.natAbs ≤ 1000 := Nat.le_of_ble_eq_true q
      have hl1 := ra.length
      match vs, ra, hl1 with
      | [v], ra, _ =>
        have e1 : List.foldl (fun x1 x2 => x1 ++ x2) #[] (List.replicate (if ([v].toArray : Array Value).isEmpty = true then 0 else k.toNat) [v].toArray) = (List.replicate k.toNat v).toArray := by
          rw [show ([v].toArray : Array Value).isEmpty = false from rfl]
          simp only [Bool.false_eq_true, if_false]
          rw [listMul_foldl]
          simp only [List.nil_append, lm_rep_flat_one]
        have hx : Enc N s.heap v x := by cases ra with | cons a _ => exact a
        refine wpAny_binaryOp_repeat_ref (T := "list") (U := "int") (by decide) ⟨_, ea, rfl⟩ (fun s' => typeIs_int s' k u) noFill_list_mul F.fills_int_mul F.slot_int_rmul repeat_list F.slot_int_index.lookup
          (call_meets F.slot_int_rmul (typeIs_int s k u) F.entry_int_rmul (F.args_int_rmul_2 _ _) (int___rmul___int_list k u la [v].toArray n)
            ⟨ea, rfl, ⟨_, ea, rfl⟩, call_meets F.slot_list_mul ⟨_, ea, rfl⟩ F.entry_list_mul (F.args_list_mul_2 _ _)
              (AutoListH.list___mul___list_int_3 la [v].toArray n k u (by simp [Builtin.List.listFitsIndex]; omega) (by simp; omega) (by simp [Builtin.List.listTooLong, sizeLine]; omega))
              ⟨ea, ?_⟩⟩)
        rw [e1]
        exact h.1 s.heap.objs.size _ 0 _ _ s.toks (Kp.push _ _) (get_size _) rfl (Heap.get?_push_size _ rfl) ((EncL.replicate hx k.toNat).mv (Mv.fresh (Kp.push _ _) (get_size _)))
    · cases e
  · split at e
    · obtain rfl := xa.bool
      obtain rfl := xb.bool
      cases e
      exact PyProof.Rows.sub_bool (h.2 (fun _ q => by cases q) _ s.heap _ (Kp.refl _) (.int _ _))
    · cases e
  · cases e

noncomputable def onlyL : Option PyData → Option PyData
  | some (.list ds) => some (.list ds)
  | _ => Option.none
theorem onlyL_some {x : Option PyData} {d : PyData} (e : onlyL x = some d) : ∃ ds, x = some (.list ds) ∧ d = .list ds := by
  unfold onlyL at e
  split at e
  · exact ⟨_, rfl, (Option.some.inj e).symm⟩
  · cases e
noncomputable def bind2 (f g : Sto → Option PyData) (k : PyData → PyData → Option PyData) (ρ : Sto) : Option PyData := match f ρ with
  | some a => match g ρ with
    | some b => k a b
    | Option.none => Option.none
  | Option.none => Option.none
theorem bind2_some {f g : Sto → Option PyData} {k : PyData → PyData → Option PyData} {ρ : Sto} {d : PyData} (e : bind2 f g k ρ = some d) : ∃ a b, f ρ = some a ∧ g ρ = some b ∧ k a b = some d := by
  unfold bind2 at e
  split at e
  · split at e
    · exact ⟨_, _, by assumption, by assumption, e⟩
    · cases e
  · cases e

theorem Bin_gives {l r : Expr} {op : Operator} {pos : Pos} {f g : Sto → Option PyData} (hl : EvR B sc names lev o l f) (hr : EvR B sc names lev o r g) {X : EX} {A : Around} {N : Addr → Prop} {ρ : Sto} {d : PyData} {s : Shared} {E Q : Value → Shared → Prop}
    (R : Room A lev) (I : In B (X.env sc) names o N ρ s) (hf : bind2 f g (binD op) ρ = some d) (h : ∀ h' tk, Kp s.heap h' → GivesD N { s with heap := h', toks := tk } d Q) :
    wpAny (model B.prog B.w) A (eval (.BinOp l op r pos) (X.env sc)) Q E s := by
  obtain ⟨a, b, ha, hb, hk⟩ := bind2_some hf
  refine wpAny_BinOp (hl X A N ρ a s E _ R I ha fun va h1 t1 k1 e1 => ?_)
  refine hr X A N ρ b _ E _ R (I.kp k1) hb fun vb h2 t2 k2 e2 => ?_
  exact bin_op (s := { s with heap := h2, toks := t2 }) (e1.kp k2) e2 hk (h h2 t2 (k1.trans k2))
theorem Ev.bin {l r : Expr} {op : Operator} {pos : Pos} {f g : Sto → Option PyData} (hl : EvR B sc names lev o l f) (hr : EvR B sc names lev o r g) : Ev B sc names lev o (.BinOp l op r pos) (bind2 f g (binD op)) :=
  fun X A N ρ d s E Q R I hf h => Bin_gives hl hr R I hf fun h1 t1 k1 =>
    ⟨fun a vs n ds h' tk k ha hd he hl => h _ h' tk (k1.trans k) (by
      subst hd
      refine .list (fun q => ?_) he (hl.sub fun b hb => .inl hb)
      obtain ⟨vs', n', e'⟩ := I.nl a q
      rw [show h1.get? a = _ from k1 _ _ e'] at ha; cases ha), fun _ v h' tk k e => h v h' tk (k1.trans k) e⟩
theorem EvNew.bin {l r : Expr} {op : Operator} {pos : Pos} {f g : Sto → Option PyData} (hl : EvR B sc names lev o l f) (hr : EvR B sc names lev o r g) : EvNew B sc names lev o (.BinOp l op r pos) (fun ρ => onlyL (bind2 f g (binD op) ρ)) :=
  fun X A N ρ d s E Q R I hf h => by
    obtain ⟨ds, hds, rfl⟩ := onlyL_some hf
    · exact Bin_gives hl hr R I hds fun h1 t1 k1 =>
        ⟨fun a vs n ds h' tk k ha hd he hl => h a vs n ds h' tk (k1.trans k) (by
          cases q : s.heap.get? a with
          | none => rfl
          | some o => rw [show h1.get? a = _ from k1 _ _ q] at ha; cases ha) hd he hl, fun q => absurd rfl (q ds)⟩

/-! ### comparisons -/
noncomputable def cmpD (op : CmpOp) : PyData → PyData → Option Bool
  | .int a, .int b => match op with
    | .Eq => some (ieq a b)
    | .NotEq => some (!(ieq a b))
    | .Lt => some (ilt a b)
    | .LtE => some (ile a b)
    | .Gt => some (ilt b a)
    | .GtE => some (ile b a)
    | _ => Option.none
  | a, b => match op with
    | .Eq => bif SeqAt.shaped a && SeqAt.shaped b then some (PyData.eqv a b) else Option.none
    | .NotEq => bif SeqAt.shaped a && SeqAt.shaped b then some (!(PyData.eqv a b)) else Option.none
    | _ => Option.none
theorem cmp_op {A : Around} {E : Value → Shared → Prop} {s : Shared} {op : CmpOp} {N : Addr → Prop} {va vb : Value} {a b : PyData} {c : Bool} {Q : Value → Shared → Prop} (hu : A.units + 64 < cLine)
    (xa : EncR N s.heap va a) (xb : EncR N s.heap vb b) (e : cmpD op a b = some c) (h : ∀ tk, Q (.bool c) { s with toks := tk }) : wpAny (model B.prog B.w) A (compareOp op va vb) Q E s := by
  unfold cmpD at e
  split at e
  · obtain ⟨t, rfl⟩ := xa.int
    obtain ⟨u, rfl⟩ := xb.int
    split at e <;> cases e
    · exact PyProof.Rows.eq_int (by rw [← ieq_is]; exact h _)
    · refine PyProof.Rows.ne_int ?_
      rw [(fun i j => by rw [ieq_is]; rfl : ∀ i j : Int, (i != j) = !(ieq i j))]; exact h _
    · exact PyProof.Rows.lt_int (by rw [← ilt_is]; exact h _)
    · exact PyProof.Rows.le_int (by rw [← ile_is]; exact h _)
    · exact PyProof.Rows.gt_int (by rw [← ilt_is]; exact h _)
    · exact PyProof.Rows.ge_int (by rw [← ile_is]; exact h _)
  · obtain ⟨as, ra⟩ := xa.reads
    obtain ⟨bs, rb⟩ := xb.reads
    split at e
    · obtain ⟨q, rfl⟩ := cond_some e
      rw [Bool.and_eq_true] at q
      exact eq_dataH ra rb q.1 q.2 hu (h _)
    · obtain ⟨q, rfl⟩ := cond_some e
      rw [Bool.and_eq_true] at q
      exact ne_dataH ra rb q.1 q.2 hu (h _)
    · cases e
noncomputable def bind2b (f g : Sto → Option PyData) (k : PyData → PyData → Option Bool) (ρ : Sto) : Option Bool := match f ρ with
  | some a => match g ρ with
    | some b => k a b
    | Option.none => Option.none
  | Option.none => Option.none
theorem bind2b_some {f g : Sto → Option PyData} {k : PyData → PyData → Option Bool} {ρ : Sto} {d : Bool} (e : bind2b f g k ρ = some d) : ∃ a b, f ρ = some a ∧ g ρ = some b ∧ k a b = some d := by
  unfold bind2b at e
  split at e
  · split at e
    · exact ⟨_, _, by assumption, by assumption, e⟩
    · cases e
  · cases e
theorem Room.u64 {A : Around} {lev : Nat} (R : Room A lev) : A.units + 64 < cLine := by have := R.un; omega
theorem EvT.cmp {l r : Expr} {op : CmpOp} {pos : Pos} {f g : Sto → Option PyData} (hl : EvR B sc names lev o l f) (hr : EvR B sc names lev o r g) (hm : behindInMarks op r = false := by with_unfolding_all rfl) : EvT B sc names lev o (.Compare l [op] [r] pos) (bind2b f g (cmpD op)) :=
  fun X A N ρ d s E Q R I hf h => by
    obtain ⟨a, b, ha, hb, hk⟩ := bind2b_some hf
    refine wpAny_isTrue_Compare1 (hl X A N ρ a s E _ R I ha fun va h1 t1 k1 e1 => ?_) hm
    refine hr X A N ρ b _ E _ R (I.kp k1) hb fun vb h2 t2 k2 e2 => ?_
    refine cmp_op (s := { s with heap := h2, toks := t2 }) R.u64 (e1.kp k2) e2 hk fun tk => ?_
    exact wpAny_truthy_bool (h h2 tk (k1.trans k2))
theorem Ev.cmp {l r : Expr} {op : CmpOp} {pos : Pos} {f g : Sto → Option PyData} (hl : EvR B sc names lev o l f) (hr : EvR B sc names lev o r g) (hm : behindInMarks op r = false := by with_unfolding_all rfl) : Ev B sc names lev o (.Compare l [op] [r] pos) (fun ρ => (bind2b f g (cmpD op) ρ).map .bool) :=
  fun X A N ρ d s E Q R I hf h => by
    obtain ⟨c, hc, rfl⟩ := Option.map_eq_some_iff.mp hf
    obtain ⟨a, b, ha, hb, hk⟩ := bind2b_some hc
    refine wpAny_Compare1 (hl X A N ρ a s E _ R I ha fun va h1 t1 k1 e1 => ?_) hm
    refine hr X A N ρ b _ E _ R (I.kp k1) hb fun vb h2 t2 k2 e2 => ?_
    exact cmp_op (s := { s with heap := h2, toks := t2 }) R.u64 (e1.kp k2) e2 hk fun tk => h _ h2 tk (k1.trans k2) (.bool _)
end
end Mine

namespace Mine
open PySem PySem.W PySem.Spec PySem.Calls PyProof.Rows

section
variable {B : Base} {sc : Scope} {names : List Str} {lev : Nat} {o : Option Nat}

theorem In.enc {B : Base} {env : Env} {names : List Str} {o : Option Nat} {N : Addr → Prop} {ρ : Sto} {s : Shared} (I : In B env names o N ρ s) {a : Addr} {vs : List Value} {n : Nat} {ds : List PyData} {h' : Heap}
    (_k : Kp s.heap h') (ha : s.heap.get? a = none) (he : h'.get? a = some (lstO vs n)) (hl : EncL (fun b => N b ∨ b = a) h' vs ds) : Enc N h' (.ref a) (.list ds) :=
  .list (fun q => by obtain ⟨vs', n', e'⟩ := I.nl a q; rw [ha] at e'; cases e') he (hl.sub fun b hb => .inl hb)

noncomputable def o1 {α β : Type} (f : Sto → Option α) (k : α → Option β) (ρ : Sto) : Option β := match f ρ with
  | some a => k a
  | none => none
theorem o1_some {α β : Type} {f : Sto → Option α} {k : α → Option β} {ρ : Sto} {d : β} (e : o1 f k ρ = some d) : ∃ a, f ρ = some a ∧ k a = some d := by
  unfold o1 at e
  split at e
  · exact ⟨_, by assumption, e⟩
  · cases e

/-! ### tests -/
noncomputable def andT (f g : Sto → Option Bool) (ρ : Sto) : Option Bool := match f ρ with
  | some true => g ρ
  | some false => some false
  | none => none
noncomputable def orT (f g : Sto → Option Bool) (ρ : Sto) : Option Bool := match f ρ with
  | some true => some true
  | some false => g ρ
  | none => none
noncomputable def notT (f : Sto → Option Bool) (ρ : Sto) : Option Bool := match f ρ with
  | some b => some (!b)
  | none => none
theorem EvT.and {x y : Expr} {pos : Pos} {f g : Sto → Option Bool} (hx : EvT B sc names lev o x f) (hy : EvT B sc names lev o y g) : EvT B sc names lev o (.BoolOp .And [x, y] pos) (andT f g) :=
  fun X A N ρ d s E Q R I hf h => by
    unfold andT at hf
    split at hf
    · refine isTrue_and (hx X A N ρ true s E _ R I (by assumption) fun h1 t1 k1 => ?_)
      rw [if_pos rfl]
      refine isTrue_and (hy X A N ρ d _ E _ R (I.kp k1) hf fun h2 t2 k2 => ?_)
      cases d
      · exact h h2 t2 (k1.trans k2)
      · exact isTrue_and_nil (h h2 t2 (k1.trans k2))
    · cases hf
      refine isTrue_and (hx X A N ρ false s E _ R I (by assumption) fun h1 t1 k1 => ?_)
      exact h h1 t1 k1
    · cases hf
theorem EvT.or {x y : Expr} {pos : Pos} {f g : Sto → Option Bool} (hx : EvT B sc names lev o x f) (hy : EvT B sc names lev o y g) : EvT B sc names lev o (.BoolOp .Or [x, y] pos) (orT f g) :=
  fun X A N ρ d s E Q R I hf h => by
    unfold orT at hf
    split at hf
    · cases hf
      refine isTrue_or (hx X A N ρ true s E _ R I (by assumption) fun h1 t1 k1 => ?_)
      exact h h1 t1 k1
    · refine isTrue_or (hx X A N ρ false s E _ R I (by assumption) fun h1 t1 k1 => ?_)
      rw [if_neg Bool.false_ne_true]
      refine isTrue_or (hy X A N ρ d _ E _ R (I.kp k1) hf fun h2 t2 k2 => ?_)
      cases d
      · exact isTrue_or_nil (h h2 t2 (k1.trans k2))
      · exact h h2 t2 (k1.trans k2)
    · cases hf
theorem EvT.not {x : Expr} {pos : Pos} {f : Sto → Option Bool} (hx : EvT B sc names lev o x f) : EvT B sc names lev o (.UnaryOp .Not x pos) (notT f) :=
  fun X A N ρ d s E Q R I hf h => by
    unfold notT at hf
    split at hf
    · cases hf
      exact isTrue_not (hx X A N ρ _ s E _ R I (by assumption) fun h1 t1 k1 => h h1 t1 k1)
    · cases hf
noncomputable def asB : PyData → Option Bool
  | .bool b => some b
  | _ => none
theorem asB_some {d : PyData} {b : Bool} (e : asB d = some b) : d = .bool b := by cases d <;> simp [asB] at e; rw [e]
theorem EvT.val {e : Expr} {f : Sto → Option PyData} (hx : Ev B sc names lev o e f)
    (he : ∀ (env : Env) (w : Sem Value), isTrue e env w = (do let v ← w; standAt e.pos; holding [v] (truthy v)) := by intro _ _; rfl) : EvT B sc names lev o e (o1 f asB) :=
  fun X A N ρ d s E Q R I hf h => by
    obtain ⟨a, ha, hk⟩ := o1_some hf
    obtain rfl := asB_some hk
    refine isTrue_plain (hx X A N ρ _ s E _ R I ha fun v h1 t1 k1 e1 => ?_) (he _ _)
    cases e1
    exact wpAny_truthy_bool (h h1 t1 k1)

/-! ### choices -/
noncomputable def iteD {α : Type} (t : Sto → Option Bool) (f g : Sto → Option α) (ρ : Sto) : Option α := match t ρ with
  | some true => f ρ
  | some false => g ρ
  | none => none
theorem Ev.ite {t b c : Expr} {pos : Pos} {tt : Sto → Option Bool} {f g : Sto → Option PyData} (ht : EvT B sc names lev o t tt) (hb : Ev B sc names lev o b f) (hc : Ev B sc names lev o c g) :
    Ev B sc names lev o (.IfExp t b c pos) (iteD tt f g) :=
  fun X A N ρ d s E Q R I hf h => by
    unfold iteD at hf
    split at hf
    · refine IfExp_ (ht X A N ρ true s E _ R I (by assumption) fun h1 t1 k1 => ?_)
      rw [if_pos rfl]
      exact hb X A N ρ d _ E _ R (I.kp k1) hf fun v h2 t2 k2 e2 => h v h2 t2 (k1.trans k2) e2
    · refine IfExp_ (ht X A N ρ false s E _ R I (by assumption) fun h1 t1 k1 => ?_)
      rw [if_neg Bool.false_ne_true]
      exact hc X A N ρ d _ E _ R (I.kp k1) hf fun v h2 t2 k2 e2 => h v h2 t2 (k1.trans k2) e2
    · cases hf
noncomputable def andV (f g : Sto → Option PyData) (ρ : Sto) : Option PyData := match f ρ with
  | some (.bool true) => g ρ
  | some (.bool false) => some (.bool false)
  | _ => none
theorem Ev.and {x y : Expr} {pos : Pos} {f g : Sto → Option PyData} (hx : Ev B sc names lev o x f) (hy : Ev B sc names lev o y g) : Ev B sc names lev o (.BoolOp .And [x, y] pos) (andV f g) :=
  fun X A N ρ d s E Q R I hf h => by
    unfold andV at hf
    split at hf
    · refine wpAny_And2 (hx X A N ρ _ s E _ R I (by assumption) fun v h1 t1 k1 e1 => ?_)
      cases e1
      refine wpAny_truthy_bool ?_
      rw [if_pos rfl]
      exact hy X A N ρ d _ E _ R (I.kp k1) hf fun v h2 t2 k2 e2 => h v h2 t2 (k1.trans k2) e2
    · cases hf
      refine wpAny_And2 (hx X A N ρ _ s E _ R I (by assumption) fun v h1 t1 k1 e1 => ?_)
      cases e1
      refine wpAny_truthy_bool ?_
      exact h _ h1 t1 k1 (.bool _)
    · cases hf

noncomputable def negD : PyData → Option PyData
  | .int i => some (.int (-i))
  | _ => none
theorem Ev.neg {e : Expr} {pos : Pos} {f : Sto → Option PyData} (hx : Ev B sc names lev o e f) : Ev B sc names lev o (.UnaryOp .USub e pos) (o1 f negD) :=
  fun X A N ρ d s E Q R I hf h => by
    obtain ⟨a, ha, hk⟩ := o1_some hf
    refine wpAny_UnaryOp (hx X A N ρ a s E _ R I ha fun v h1 t1 k1 e1 => ?_)
    unfold negD at hk
    split at hk
    · cases hk; cases e1
      exact PyProof.Rows.neg_int (h _ h1 _ k1 (.int _ _))
    · cases hk

/-! ### displays -/
theorem EvL.nil : EvL B sc names lev o [] (fun _ => some []) :=
  fun X A N ρ d s E Q p R I hf h => by cases hf; exact wpAny_items_nil (h [] s.heap s.toks (Kp.refl _) .nil)
noncomputable def consD (f : Sto → Option PyData) (g : Sto → Option (List PyData)) (ρ : Sto) : Option (List PyData) := match f ρ with
  | some d => match g ρ with
    | some ds => some (d :: ds)
    | none => none
  | none => none
theorem EvL.cons {e : Expr} {es : List Expr} {f : Sto → Option PyData} {g : Sto → Option (List PyData)} (hx : Ev B sc names lev o e f) (hs : EvL B sc names lev o es g)
    (he : ∀ env, starEach (e :: es) env = (false, eval e env) :: starEach es env := by intro _; rfl) : EvL B sc names lev o (e :: es) (consD f g) :=
  fun X A N ρ d s E Q p R I hf h => by
    unfold consD at hf
    split at hf
    · split at hf
      · cases hf
        refine wpAny_items_cons (hx X A N ρ _ s E _ R I (by assumption) fun v h1 t1 k1 e1 => ?_) (he _)
        exact hs X A N ρ _ _ E _ p R (I.kp k1) (by assumption) fun vs h2 t2 k2 e2 => h _ h2 t2 (k1.trans k2) (.cons (e1.kp k2) e2)
      · cases hf
    · cases hf
noncomputable def lstD (ds : List PyData) : Option PyData := bif szOk ds.length then some (.list ds) else none
noncomputable def tupD (ds : List PyData) : Option PyData := bif szOk ds.length then some (.tuple ds) else none
theorem EvNew.lst {es : List Expr} {pos : Pos} {g : Sto → Option (List PyData)} (hs : EvL B sc names lev o es g) : EvNew B sc names lev o (.List es pos) (o1 g lstD) :=
  fun X A N ρ d s E Q R I hf h => by
    obtain ⟨ds, hd, hk⟩ := o1_some hf
    obtain ⟨q, rfl⟩ := cond_some hk
    refine List_ (hs X A N ρ ds s E _ pos R I hd fun vs h1 t1 k1 e1 => ?_)
    have hz : vs.length ≤ 1000 := by rw [e1.length]; exact Nat.le_of_ble_eq_true q
    refine list_new (by simp only [sizeLine]; omega) ?_
    refine h _ vs 0 ds _ t1 (k1.trans (Kp.push _ _)) ?_ rfl (Heap.get?_push_size _ rfl) (e1.mv (Mv.fresh (Kp.push _ _) (get_size _)))
    cases q : s.heap.get? h1.objs.size with
    | none => rfl
    | some o => exact absurd (Heap.lt_size (k1 _ _ q)) (Nat.lt_irrefl _)
theorem Ev.tup {es : List Expr} {k : Nat} {pos : Pos} {g : Sto → Option (List PyData)} (hs : EvL B sc names lev o es g) : Ev B sc names lev o (.Tuple es k pos) (o1 g tupD) :=
  fun X A N ρ d s E Q R I hf h => by
    obtain ⟨ds, hd, hk⟩ := o1_some hf
    obtain ⟨q, rfl⟩ := cond_some hk
    refine Tuple_ (hs X A N ρ ds s E _ pos R I hd fun vs h1 t1 k1 e1 => ?_)
    have hz : vs.length ≤ 1000 := by rw [e1.length]; exact Nat.le_of_ble_eq_true q
    exact tup_new (by simp only [sizeLine]; omega) (h _ _ t1 (k1.trans (Kp.push _ _)) (.tuple (Heap.get?_push_size _ rfl) (e1.kp (Kp.push _ _))))

/-! ### places -/
noncomputable def nth {α : Type} : List α → Nat → Option α
  | [], _ => none
  | x :: _, 0 => some x
  | _ :: r, n + 1 => nth r n
theorem nth_is {α : Type} : ∀ (l : List α) (i : Nat), nth l i = l[i]?
  | [], _ => rfl
  | _ :: _, 0 => rfl
  | _ :: r, n + 1 => by simpa [nth] using nth_is r n
noncomputable def nthI {α : Type} (l : List α) : Int → Option α
  | .ofNat n => bif szOk n then nth l n else none
  | .negSucc n => bif szOk n && Nat.ble (n + 1) l.length then nth l (l.length - (n + 1)) else none
noncomputable def idxD : PyData → PyData → Option PyData
  | .list ds, .int i => nthI ds i
  | .tuple ds, .int i => nthI ds i
  | _, _ => none
theorem cond_n {α : Type} {b : Bool} {x : Option α} {y : α} (h : (bif b then x else none) = some y) : b = true ∧ x = some y := by
  cases b
  · cases h
  · exact ⟨rfl, h⟩
theorem getItem_D {A : Around} {E : Value → Shared → Prop} {s : Shared} {N : Addr → Prop} {va : Value} {vi : Value} {a i d : PyData} {Q : Value → Shared → Prop}
    (xa : EncR N s.heap va a) (xi : EncR N s.heap vi i) (e : idxD a i = some d) (h : ∀ v, Enc N s.heap v d → Q v s) : wpAny (model B.prog B.w) A (getItem va vi) Q E s := by
  unfold idxD at e
  split at e
  · obtain ⟨l, vs, n, rfl, el, rl⟩ := xa.lst
    obtain ⟨t, rfl⟩ := xi.int
    rename_i ds k
    unfold nthI at e
    split at e
    · rename_i m
      obtain ⟨q, e⟩ := cond_n e
      rw [nth_is] at e
      obtain ⟨v, hv, xv⟩ := rl.get e
      have hm : m ≤ 1000 := Nat.le_of_ble_eq_true q
      refine wpAny_getItem_list (isList_of el) (Int.natCast_nonneg m) (by show (m : Int) < 2 ^ 63; omega) ?_ (h v xv)
      show vs.toArray[((m : Int)).toNat]? = some v
      simpa using hv
    · rename_i m
      obtain ⟨q, e⟩ := cond_n e
      rw [nth_is] at e
      rw [Bool.and_eq_true] at q
      obtain ⟨v, hv, xv⟩ := rl.get e
      have hm : m ≤ 1000 := Nat.le_of_ble_eq_true q.1
      have hz : m + 1 ≤ vs.length := by rw [rl.length]; exact Nat.le_of_ble_eq_true q.2
      have hlen := rl.length
      refine wpAny_getItem_list_neg (isList_of el) (Int.negSucc_lt_zero m) (by simp only [List.size_toArray]; omega) (by omega) ?_ (h v xv)
      have e1 : (Int.negSucc m + ((vs.toArray.size : Nat) : Int)).toNat = ds.length - (m + 1) := by simp only [List.size_toArray]; omega
      rw [e1]; simpa using hv
  · obtain ⟨l, vs, n, rfl, el, rl⟩ := xa.tup
    obtain ⟨t, rfl⟩ := xi.int
    rename_i ds k
    have ht : IsTup s.heap l vs.toArray := ⟨_, el, rfl, _, rfl⟩
    have hlen := rl.length
    unfold nthI at e
    split at e
    · rename_i m
      obtain ⟨q, e⟩ := cond_n e
      rw [nth_is] at e
      obtain ⟨v, hv, xv⟩ := rl.get e
      have hm : m ≤ 1000 := Nat.le_of_ble_eq_true q
      have hlt : m < vs.length := (List.getElem?_eq_some_iff.mp hv).1
      refine PyProof.Rows.getItem_tuple (j := m) ht (by show -(2 ^ 63 : Int) ≤ (m : Int); omega) (by show (m : Int) < 2 ^ 63; omega) ?_ (by simpa using hv) (h v xv)
      unfold seqIndex?
      have h1 : ¬ ((m : Int) < 0) := by omega
      have h2 : ((m : Int) < (vs.toArray.size : Int)) := by simp only [List.size_toArray]; omega
      show (let j := if (m : Int) < 0 then (m : Int) + vs.toArray.size else (m : Int); if (decide (0 ≤ j) && decide (j < (vs.toArray.size : Int))) = true then some j.toNat else none) = some m
      simp only [if_neg h1, decide_eq_true h2, Bool.and_true]
      simp
    · rename_i m
      obtain ⟨q, e⟩ := cond_n e
      rw [nth_is] at e
      rw [Bool.and_eq_true] at q
      obtain ⟨v, hv, xv⟩ := rl.get e
      have hm : m ≤ 1000 := Nat.le_of_ble_eq_true q.1
      have hz : m + 1 ≤ vs.length := by rw [rl.length]; exact Nat.le_of_ble_eq_true q.2
      refine PyProof.Rows.getItem_tuple (j := ds.length - (m + 1)) ht (by omega) (by omega) ?_ (by simpa using hv) (h v xv)
      unfold seqIndex?
      have h1 : (Int.negSucc m < 0) := Int.negSucc_lt_zero m
      simp only [if_pos h1, List.size_toArray]
      have h2 : 0 ≤ Int.negSucc m + (vs.length : Int) := by omega
      have h3 : Int.negSucc m + (vs.length : Int) < (vs.length : Int) := by omega
      have h4 : (Int.negSucc m + (vs.length : Int)).toNat = ds.length - (m + 1) := by omega
      simp [h2, h3, h4]
  · cases e
theorem idx_type {N : Addr → Prop} {s : Shared} {va : Value} {a i d : PyData} (xa : EncR N s.heap va a) (e : idxD a i = some d) : ∃ T id, s.TypeIs va T ∧ typeLookup (.type T) "__getitem__" = pure (some (.builtin id)) := by
  unfold idxD at e
  split at e
  · obtain ⟨l, vs, n, rfl, el, rl⟩ := xa.lst
    exact ⟨_, _, ⟨_, el, rfl⟩, slot_list_getitem.lookup⟩
  · obtain ⟨l, vs, n, rfl, el, rl⟩ := xa.tup
    exact ⟨_, _, ⟨_, el, rfl⟩, slot_tuple_getitem.lookup⟩
  · cases e
theorem Ev.idx {v i : Expr} {pos : Pos} {f g : Sto → Option PyData} (hv : EvR B sc names lev o v f) (hi : EvR B sc names lev o i g)
    (hs : ∀ a b, subscripted i false a b = operate [a, b] (getItem a b) := by intro _ _; with_unfolding_all rfl) : Ev B sc names lev o (.Subscript v i pos) (bind2 f g idxD) :=
  fun X A N ρ d s E Q R I hf h => by
    obtain ⟨a, b, ha, hb, hk⟩ := bind2_some hf
    refine Subscript_ (hv X A N ρ a s E _ R I ha fun va h1 t1 k1 e1 => ?_)
    refine hi X A N ρ b _ E _ R (I.kp k1) hb fun vb h2 t2 k2 e2 => ?_
    obtain ⟨T, id, hT, hl⟩ := idx_type (s := { s with heap := h2, toks := t2 }) (e1.kp k2) hk
    exact tail_any hT hl (getItem_D (s := { s with heap := h2, toks := t2 }) (e1.kp k2) e2 hk fun v hv => h v h2 t2 (k1.trans k2) hv) (hs _ _)

/-! ### slices -/
noncomputable def EvP (B : Base) (sc : Scope) (names : List Str) (lev : Nat) (o : Option Nat) (e : Option Expr) (f : Sto → Option (Option Int)) : Prop :=
  ∀ (X : EX) (A : Around) (N : Addr → Prop) (ρ : Sto) (d : Option Int) (s : Shared) (E : Value → Shared → Prop) (Q : Value → Shared → Prop),
    Room A lev → In B (X.env sc) names o N ρ s → f ρ = some d →
    (∀ v h' tk, Kp s.heap h' → IsPart v d → Q v { s with heap := h', toks := tk }) → wpAny (model B.prog B.w) A (evalPart e (X.env sc)) Q E s
theorem EvP.none : EvP B sc names lev o none (fun _ => some none) :=
  fun X A N ρ d s E Q R I hf h => by cases hf; exact wpAny_evalPart_none (h _ s.heap s.toks (Kp.refl _) .none)
noncomputable def asI : PyData → Option (Option Int)
  | .int i => some (some i)
  | _ => none
theorem EvP.some {e : Expr} {f : Sto → Option PyData} (he : EvR B sc names lev o e f) : EvP B sc names lev o (some e) (o1 f asI) :=
  fun X A N ρ d s E Q R I hf h => by
    obtain ⟨a, ha, hk⟩ := o1_some hf
    refine wpAny_evalPart_some (he X A N ρ a s E _ R I ha fun v h1 t1 k1 e1 => ?_)
    unfold asI at hk
    split at hk
    · cases hk
      obtain ⟨t, rfl⟩ := e1.int
      exact h _ h1 t1 k1 (.int _ _)
    · cases hk
noncomputable def cutLo (n : Nat) : Option Int → Nat
  | none => 0
  | some (.ofNat k) => min k n
  | some (.negSucc k) => n - (k + 1)
noncomputable def cutHi (n : Nat) : Option Int → Nat
  | none => n
  | some (.ofNat k) => min k n
  | some (.negSucc k) => n - (k + 1)
noncomputable def pick {α : Type} (l : List α) (lo hi : Option Int) : List α := (l.drop (cutLo l.length lo)).take (cutHi l.length hi - cutLo l.length lo)
theorem pick_is (vs : List Value) (lo hi : Option Int) : slicePick vs.toArray lo hi none = (pick vs lo hi).toArray := by
  have e : sliceBounds lo hi none vs.toArray.size = (((cutLo vs.length lo : Nat) : Int), ((cutHi vs.length hi : Nat) : Int), 1) := by
    have h1 : (1 : Int) > 0 := by decide
    rw [List.size_toArray]
    rcases lo with _ | (a | a) <;> rcases hi with _ | (b | b) <;> simp only [sliceBounds, cutLo, cutHi, Option.getD_none, h1, if_true, Int.ofNat_eq_natCast, Prod.mk.injEq] <;> (try trivial) <;> (try refine ⟨?_, ?_, ?_⟩) <;> (try trivial) <;> (repeat' split) <;> (try simp only [and_true]) <;> omega
  unfold slicePick
  rw [e]
  simp only [sliceRange_one, pick_run]
  rfl
noncomputable def sliceD (f : Sto → Option PyData) (lo hi : Sto → Option (Option Int)) (ρ : Sto) : Option PyData := match f ρ with
  | some (.list ds) => match lo ρ with
    | some a => match hi ρ with
      | some b => bif szOk ds.length then some (.list (pick ds a b)) else none
      | none => none
    | none => none
  | _ => none
theorem EvNew.slice {v : Expr} {lo hi : Option Expr} {p pos : Pos} {f : Sto → Option PyData} {l u : Sto → Option (Option Int)} (hv : EvR B sc names lev o v f) (hl : EvP B sc names lev o lo l) (hu : EvP B sc names lev o hi u) :
    EvNew B sc names lev o (.Subscript v (.Slice lo hi none p) pos) (sliceD f l u) :=
  fun X A N ρ d s E Q R I hf h => by
    unfold sliceD at hf
    split at hf
    · split at hf
      · split at hf
        · obtain ⟨q, rfl⟩ := cond_some hf
          rename_i ds hds _ ia hia _ ib hib
          refine Subscript_ (hv X A N ρ _ s E _ R I hds fun va h1 t1 k1 e1 => ?_)
          refine wpAny_Slice (hl X A N ρ _ _ E _ R (I.kp k1) hia fun vl h2 t2 k2 e2 => ?_)
          refine hu X A N ρ _ _ E _ R ((I.kp k1).kp k2) hib fun vu h3 t3 k3 e3 => ?_
          refine wpAny_evalPart_none ?_
          obtain ⟨a, vs, n, rfl, ea, ra⟩ := e1.lst
          have ea' := Heap.get?_push_of_some { cls := .type "slice", data := .fields #[vl, vu, .none] } (k3 _ _ (k2 _ _ ea))
          have hz : vs.length ≤ 1000 := by rw [ra.length]; exact Nat.le_of_ble_eq_true q
          refine tail_any (T := "list") ⟨_, ea', rfl⟩ slot_list_getitem.lookup (wpAny_getItem_list_slice (isList_of ea') (Heap.IsSliceOf.new h3 vl vu .none) e2 e3 .none (by intro x; cases x) ?_ (by simp only [List.size_toArray, sizeLine]; omega)) (by with_unfolding_all rfl)
          rw [pick_is]
          have kk : Kp s.heap (h3.push { cls := .type "slice", data := .fields #[vl, vu, .none] }) := ((k1.trans k2).trans k3).trans (Kp.push _ _)
          refine h _ (pick vs ia ib) 0 (pick ds ia ib) _ t3 (kk.trans (Kp.push _ _)) ?_ rfl (Heap.get?_push_size _ rfl) ?_
          · cases q : s.heap.get? (h3.push { cls := .type "slice", data := .fields #[vl, vu, .none] }).objs.size with
            | none => rfl
            | some o => exact absurd (Heap.lt_size (kk _ _ q)) (Nat.lt_irrefl _)
          · refine EncL.mv (Mv.fresh (Kp.push _ _) (get_size _)) (EncL.kp (h := h1) ?_ ((k2.trans k3).trans (Kp.push _ _)))
            unfold pick
            rw [ra.length]
            exact (ra.drop _).take _
        · cases hf
      · cases hf
    · cases hf
end
end Mine

namespace Mine
open PySem PySem.W PySem.Spec PySem.Calls PyProof.Rows

noncomputable def FnOk (B : Base) (lev : Nat) (name : Str) (F : List PyData → Option PyData) : Prop :=
  (∃ d ∈ recsOf PySem.Challenge.pw_xm0105_01, d.name = name) ∧
  ∀ (A : Around) (N : Addr → Prop) (vs : List Value) (ds : List PyData) (d : PyData) (f : Addr) (s : Shared) (E Q : Value → Shared → Prop),
    Room A lev → G0 B s.heap → (∀ a, N a → ∃ vs n, s.heap.get? a = some (lstO vs n)) → B.mg name = some (.ref f) → EncL N s.heap vs ds → F ds = some d →
    (∀ v h' tk, Kp s.heap h' → Enc N h' v d → Q v { s with heap := h', toks := tk }) → wpAny (model B.prog B.w) A (call (.ref f) vs) Q E s

theorem Room.mono {A : Around} {lev lev' : Nat} (R : Room A lev) (h : lev' ≤ lev) : Room A lev' := ⟨R.hh, by have := R.dp; omega, by have := R.un; omega⟩

section
variable {B : Base} {sc : Scope} {names : List Str} {lev : Nat} {o : Option Nat}

theorem Ev.call {lev' : Nat} {name : Str} {p pos : Pos} {e : Expr} {es : List Expr} {F : List PyData → Option PyData} {g : Sto → Option (List PyData)} (hF : FnOk B lev' name F) (hl : lev' ≤ lev) (hs : EvL B sc names lev o (e :: es) g)
    (he : ∀ env, starEach (e :: es) env = (false, eval e env) :: starEach es env := by intro _; rfl) (hk : sc.kind = .function := by rfl) (hx : sc.names.lookup name = some .globalImplicit := by rfl) (hd : (name == ("__debug__" : Str)) = false := by decide) :
    Ev B sc names lev o (.Call (.Name name p) (e :: es) [] pos) (o1 g F) :=
  fun X A N ρ d s E Q R I hf h => by
    obtain ⟨ds, hds, hk'⟩ := o1_some hf
    obtain ⟨⟨r, hr, rfl⟩, hF⟩ := hF
    obtain ⟨a, ob, pm, code, doc, h1, h2, h3, h4⟩ := I.g0.fn r hr
    refine Call_ (glb I.g0 h1 hk hx hd ?_)
    refine callWith_def h3 (hs X A N ρ ds s E _ pos R I hds fun vs h' tk k e' => ⟨k _ _ h2, ?_⟩) (he _)
    exact hF A N vs ds d a _ E _ (R.mono hl) (I.g0.kp k) (fun b hb => let ⟨vs, n, e⟩ := I.nl b hb; ⟨vs, n, k _ _ e⟩) h1 e' hk' fun v h'' tk' k' e'' => h v h'' tk' (k.trans k') e''

/-! ### builtins -/
theorem blt1 {name : Str} {id : String} {p pos : Pos} {e : Expr} {f : Sto → Option PyData} {X : EX} {A : Around} {N : Addr → Prop} {ρ : Sto} {a : PyData} {s : Shared} {E Q : Value → Shared → Prop} (hb : (name, Value.builtin id) ∈ bltOf) (hv : EvR B sc names lev o e f)
    (R : Room A lev) (I : In B (X.env sc) names o N ρ s) (ha : f ρ = some a) (he : ∀ env, starEach [e] env = (false, eval e env) :: starEach [] env) (hk : sc.kind = .function) (hx : sc.names.lookup name = some .globalImplicit) (hd : (name == ("__debug__" : Str)) = false)
    (h : ∀ v h' tk, Kp s.heap h' → EncR N h' v a → wpAny (model B.prog B.w) A (call (.builtin id) [v]) Q E { s with heap := h', toks := tk }) :
    wpAny (model B.prog B.w) A (eval (.Call (.Name name p) [e] [] pos) (X.env sc)) Q E s := by
  refine Call_ (blt I.g0 hb hk hx hd ?_)
  refine callWith_builtin1 ?_ (he _)
  exact wpAny_items_cons (hv X A N ρ a s E _ R I ha fun v h1 t1 k1 e1 => wpAny_items_nil (h v h1 t1 k1 e1)) (he _)
theorem typ1 {name : Str} {id : String} {p pos : Pos} {e : Expr} {f : Sto → Option PyData} {X : EX} {A : Around} {N : Addr → Prop} {ρ : Sto} {a : PyData} {s : Shared} {E Q : Value → Shared → Prop} (hb : (name, Value.type id) ∈ bltOf) (hv : EvR B sc names lev o e f)
    (R : Room A lev) (I : In B (X.env sc) names o N ρ s) (ha : f ρ = some a) (he : ∀ env, starEach [e] env = (false, eval e env) :: starEach [] env) (hk : sc.kind = .function) (hx : sc.names.lookup name = some .globalImplicit) (hd : (name == ("__debug__" : Str)) = false)
    (h : ∀ v h' tk, Kp s.heap h' → EncR N h' v a → wpAny (model B.prog B.w) A (call (.type id) [v]) Q E { s with heap := h', toks := tk }) :
    wpAny (model B.prog B.w) A (eval (.Call (.Name name p) [e] [] pos) (X.env sc)) Q E s := by
  refine Call_ (blt I.g0 hb hk hx hd ?_)
  refine PyProof.Rows.callWith_type1 ?_ (he _)
  exact wpAny_items_cons (hv X A N ρ a s E _ R I ha fun v h1 t1 k1 e1 => wpAny_items_nil (h v h1 t1 k1 e1)) (he _)
theorem blt2 {name : Str} {id : String} {p pos : Pos} {e e₂ : Expr} {f g : Sto → Option PyData} {X : EX} {A : Around} {N : Addr → Prop} {ρ : Sto} {a b : PyData} {s : Shared} {E Q : Value → Shared → Prop} (hb : (name, Value.builtin id) ∈ bltOf) (hv : EvR B sc names lev o e f) (hv₂ : EvR B sc names lev o e₂ g)
    (R : Room A lev) (I : In B (X.env sc) names o N ρ s) (ha : f ρ = some a) (hb' : g ρ = some b) (he : ∀ env, starEach [e, e₂] env = (false, eval e env) :: starEach [e₂] env) (he₂ : ∀ env, starEach [e₂] env = (false, eval e₂ env) :: starEach [] env)
    (hk : sc.kind = .function) (hx : sc.names.lookup name = some .globalImplicit) (hd : (name == ("__debug__" : Str)) = false)
    (h : ∀ v w h' tk, Kp s.heap h' → EncR N h' v a → EncR N h' w b → wpAny (model B.prog B.w) A (call (.builtin id) [v, w]) Q E { s with heap := h', toks := tk }) :
    wpAny (model B.prog B.w) A (eval (.Call (.Name name p) [e, e₂] [] pos) (X.env sc)) Q E s := by
  refine Call_ (blt I.g0 hb hk hx hd ?_)
  refine callWith_builtin1 ?_ (he _) (by rw [he₂]; rfl)
  exact wpAny_items_cons (hv X A N ρ a s E _ R I ha fun v h1 t1 k1 e1 => wpAny_items_cons (hv₂ X A N ρ b _ E _ R (I.kp k1) hb' fun w h2 t2 k2 e2 => wpAny_items_nil (h v w h2 t2 (k1.trans k2) (e1.kp k2) e2)) (he₂ _)) (he _)

noncomputable def lenD : PyData → Option PyData
  | .list ds => bif szOk ds.length then some (.int ds.length) else none
  | _ => none
theorem Ev.len {e : Expr} {p pos : Pos} {f : Sto → Option PyData} (hv : EvR B sc names lev o e f)
    (he : ∀ env, starEach [e] env = (false, eval e env) :: starEach [] env := by intro _; rfl) (hk : sc.kind = .function := by rfl) (hx : sc.names.lookup ("len" : Str) = some .globalImplicit := by rfl) : Ev B sc names lev o (.Call (.Name "len" p) [e] [] pos) (o1 f lenD) :=
  fun X A N ρ d s E Q R I hf h => by
    obtain ⟨a, ha, hk'⟩ := o1_some hf
    refine blt1 (name := "len") (id := "len") (by simp [bltOf]) hv R I ha he hk hx (by decide) fun v h1 t1 k1 e1 => ?_
    unfold lenD at hk'
    split at hk'
    · obtain ⟨q, rfl⟩ := cond_some hk'
      obtain ⟨l, vs, n, rfl, el, rl⟩ := e1.lst
      have hz : vs.length ≤ 1000 := by rw [rl.length]; exact Nat.le_of_ble_eq_true q
      refine PyProof.Rows.len_list (isList_of el) (by simp only [List.size_toArray]; omega) (h _ h1 _ k1 ?_)
      simp only [List.size_toArray, rl.length]
      exact .int _ _
    · cases hk'
noncomputable def iabs (a : Int) : Int := (a.natAbs : Int)
noncomputable def absD : PyData → Option PyData
  | .int a => some (.int (iabs a))
  | _ => none
theorem Ev.abs {e : Expr} {p pos : Pos} {f : Sto → Option PyData} (hv : EvR B sc names lev o e f)
    (he : ∀ env, starEach [e] env = (false, eval e env) :: starEach [] env := by intro _; rfl) (hk : sc.kind = .function := by rfl) (hx : sc.names.lookup ("abs" : Str) = some .globalImplicit := by rfl) : Ev B sc names lev o (.Call (.Name "abs" p) [e] [] pos) (o1 f absD) :=
  fun X A N ρ d s E Q R I hf h => by
    obtain ⟨a, ha, hk'⟩ := o1_some hf
    refine blt1 (name := "abs") (id := "abs") (by simp [bltOf]) hv R I ha he hk hx (by decide) fun v h1 t1 k1 e1 => ?_
    unfold absD at hk'
    split at hk'
    · cases hk'
      obtain ⟨t, rfl⟩ := e1.int
      refine call_abs_int fun u tk => h _ h1 tk k1 ?_
      rename_i i
      rw [show (if i < 0 then -i else i) = iabs i by unfold iabs; split <;> omega]
      exact .int _ _
    · cases hk'
noncomputable def maxD : PyData → PyData → Option PyData
  | .int a, .int b => some (.int (bif ilt a b then b else a))
  | _, _ => none
noncomputable def minD : PyData → PyData → Option PyData
  | .int a, .int b => some (.int (bif ilt b a then b else a))
  | _, _ => none
theorem Ev.max {e e₂ : Expr} {p pos : Pos} {f g : Sto → Option PyData} (hv : EvR B sc names lev o e f) (hv₂ : EvR B sc names lev o e₂ g)
    (he : ∀ env, starEach [e, e₂] env = (false, eval e env) :: starEach [e₂] env := by intro _; rfl) (he₂ : ∀ env, starEach [e₂] env = (false, eval e₂ env) :: starEach [] env := by intro _; rfl)
    (hk : sc.kind = .function := by rfl) (hx : sc.names.lookup ("max" : Str) = some .globalImplicit := by rfl) : Ev B sc names lev o (.Call (.Name "max" p) [e, e₂] [] pos) (bind2 f g maxD) :=
  fun X A N ρ d s E Q R I hf h => by
    obtain ⟨a, b, ha, hb, hk'⟩ := bind2_some hf
    refine blt2 (name := "max") (id := "max") (by simp [bltOf]) hv hv₂ R I ha hb he he₂ hk hx (by decide) fun v w h1 t1 k1 e1 e2 => ?_
    unfold maxD at hk'
    split at hk'
    · cases hk'
      obtain ⟨t, rfl⟩ := e1.int
      obtain ⟨u, rfl⟩ := e2.int
      refine max_two_ints R.hh fun h2 tk k2 => h _ h2 tk (k1.trans k2) ?_
      rename_i i j
      rw [ilt_is]
      by_cases c : i < j
      · rw [if_pos c, decide_eq_true c]; exact .int _ _
      · rw [if_neg c, decide_eq_false c]; exact .int _ _
    · cases hk'
theorem Ev.min {e e₂ : Expr} {p pos : Pos} {f g : Sto → Option PyData} (hv : EvR B sc names lev o e f) (hv₂ : EvR B sc names lev o e₂ g)
    (he : ∀ env, starEach [e, e₂] env = (false, eval e env) :: starEach [e₂] env := by intro _; rfl) (he₂ : ∀ env, starEach [e₂] env = (false, eval e₂ env) :: starEach [] env := by intro _; rfl)
    (hk : sc.kind = .function := by rfl) (hx : sc.names.lookup ("min" : Str) = some .globalImplicit := by rfl) : Ev B sc names lev o (.Call (.Name "min" p) [e, e₂] [] pos) (bind2 f g minD) :=
  fun X A N ρ d s E Q R I hf h => by
    obtain ⟨a, b, ha, hb, hk'⟩ := bind2_some hf
    refine blt2 (name := "min") (id := "min") (by simp [bltOf]) hv hv₂ R I ha hb he he₂ hk hx (by decide) fun v w h1 t1 k1 e1 e2 => ?_
    unfold minD at hk'
    split at hk'
    · cases hk'
      obtain ⟨t, rfl⟩ := e1.int
      obtain ⟨u, rfl⟩ := e2.int
      refine min_two_ints R.hh fun h2 tk k2 => h _ h2 tk (k1.trans k2) ?_
      rename_i i j
      rw [ilt_is]
      by_cases c : j < i
      · rw [if_pos c, decide_eq_true c]; exact .int _ _
      · rw [if_neg c, decide_eq_false c]; exact .int _ _
    · cases hk'
noncomputable def cpyD : PyData → Option PyData
  | .list ds => bif szOk ds.length then some (.list ds) else none
  | _ => none
theorem EvNew.copy {e : Expr} {p pos : Pos} {f : Sto → Option PyData} (hv : EvR B sc names lev o e f)
    (he : ∀ env, starEach [e] env = (false, eval e env) :: starEach [] env := by intro _; rfl) (hk : sc.kind = .function := by rfl) (hx : sc.names.lookup ("list" : Str) = some .globalImplicit := by rfl) : EvNew B sc names lev o (.Call (.Name "list" p) [e] [] pos) (o1 f cpyD) :=
  fun X A N ρ d s E Q R I hf h => by
    obtain ⟨a, ha, hk'⟩ := o1_some hf
    refine typ1 (name := "list") (id := "list") (by simp [bltOf]) hv R I ha he hk hx (by decide) fun v h1 t1 k1 e1 => ?_
    unfold cpyD at hk'
    split at hk'
    · obtain ⟨q, rfl⟩ := cond_some hk'
      obtain ⟨l, vs, n, rfl, el, rl⟩ := e1.lst
      have hz : vs.length ≤ 1000 := by rw [rl.length]; exact Nat.le_of_ble_eq_true q
      refine call_list_seq (s := { s with heap := h1, toks := t1 }) (hsz := by simp only [List.size_toArray, sizeLine]; omega) l (.inl rfl) el rfl rfl fun h' c' k2 hD => ?_
      refine h _ vs c' _ h' t1 (k1.trans k2) ?_ rfl hD (rl.mv (Mv.fresh k2 (get_size _)))
      cases q : s.heap.get? h1.objs.size with
      | none => rfl
      | some o => exact absurd (Heap.lt_size (k1 _ _ q)) (Nat.lt_irrefl _)
    · cases hk'
noncomputable def isStr : PyData → Option PyData
  | .str _ => some (.bool true)
  | .tuple _ => some (.bool false)
  | _ => none
theorem Ev.isstr {e : Expr} {p p2 pos : Pos} {f : Sto → Option PyData} (hv : Ev B sc names lev o e f)
    (he : ∀ env, starEach [e, .Name "str" p2] env = (false, eval e env) :: starEach [.Name "str" p2] env := by intro _; rfl) (hk : sc.kind = .function := by rfl) (hx : sc.names.lookup ("isinstance" : Str) = some .globalImplicit := by rfl)
    (hx2 : sc.names.lookup ("str" : Str) = some .globalImplicit := by rfl) : Ev B sc names lev o (.Call (.Name "isinstance" p) [e, .Name "str" p2] [] pos) (o1 f isStr) :=
  fun X A N ρ d s E Q R I hf h => by
    obtain ⟨a, ha, hk'⟩ := o1_some hf
    refine Call_ (blt I.g0 (x := "isinstance") (v := .builtin "isinstance") (by simp [bltOf]) hk hx (by decide) ?_)
    refine callWith_builtin1 ?_ (he _) rfl
    refine wpAny_items_cons (hv X A N ρ a s E _ R I ha fun v h1 t1 k1 e1 => wpAny_items_cons (blt (I.g0.kp k1) (x := "str") (v := .type "str") (by simp [bltOf]) hk hx2 (by decide) (wpAny_items_nil ?_)) rfl) (he _)
    unfold isStr at hk'
    split at hk'
    · cases hk'; cases e1
      exact IsiPair.str_str (h _ h1 _ k1 (.bool _))
    · cases hk'
      cases e1 with
      | tuple e1 _ => exact IsiPair.tuple_str e1 rfl (h _ h1 _ k1 (.bool _))
    · cases hk'
end
end Mine

namespace Mine
open PySem PySem.W PySem.Spec PySem.Calls PyProof.Rows

structure Fm (env : Env) (h₀ h : Heap) : Prop where
  ns : ∃ m, h.Ns env.locals m
  cell : ∀ x c, env.cells.lookup x = some c → ∃ v, h.IsCell c v
  apart : env.cells.Pairwise fun x y => x.2 ≠ y.2
  cov : ∀ x, env.kindOf x = some .cell → ∃ c, env.cells.lookup x = some c
  keep : Kp h₀ h
  l0 : h₀.get? env.locals = none
  c0 : ∀ x c, env.cells.lookup x = some c → h₀.get? c = none

noncomputable def NN (N₀ : Addr → Prop) (o : Option Nat) (a : Addr) : Addr → Prop := match o with
  | none => N₀
  | some _ => fun b => N₀ b ∨ b = a

structure FSt (B : Base) (env : Env) (names : List Str) (h₀ : Heap) (N₀ : Addr → Prop) (o : Option Nat) (a : Addr) (ρ : Sto) (s : Shared) : Prop where
  inn : In B env names o (NN N₀ o a) ρ s
  g : G0 B h₀
  fm : Fm env h₀ s.heap
  own : ∀ i, o = some i → (h₀.get? a = none ∧ ¬ N₀ a) ∧ ∃ x vs n, At names i x ∧ Rd env s.heap x (.ref a) ∧ s.heap.get? a = some (lstO vs n) ∧ ∀ d, vg ρ i = some d → ∃ ds, d = .list ds ∧ EncL (NN N₀ o a) s.heap vs ds

structure Tr (env : Env) (N N' : Addr → Prop) (h h' : Heap) : Prop where
  kf : ∀ b o, h.get? b = some o → b ≠ env.locals → (∀ x, env.cells.lookup x ≠ some b) → ¬ N b → h'.get? b = some o
  nn : ∀ b, N' b → N b ∨ h.get? b = none
  up : ∀ b o, h.get? b = some o → ∃ o', h'.get? b = some o'

theorem Tr.trans {env : Env} {N N' N'' : Addr → Prop} {h h' h'' : Heap} (x : Tr env N N' h h') (y : Tr env N' N'' h' h'') : Tr env N N'' h h'' where
  kf := fun b o e hL hc hn => y.kf b o (x.kf b o e hL hc hn) hL hc fun q => (x.nn b q).elim hn fun q => by rw [e] at q; cases q
  nn := fun b q => by
    rcases y.nn b q with q | q
    · exact x.nn b q
    · cases e : h.get? b with
      | none => exact .inr rfl
      | some o => obtain ⟨o', e'⟩ := x.up b o e; rw [q] at e'; cases e'
  up := fun b o e => by obtain ⟨o', e'⟩ := x.up b o e; exact y.up b o' e'
theorem Tr.kp {env : Env} {N : Addr → Prop} {h h' : Heap} (k : Kp h h') : Tr env N N h h' := ⟨fun b o e _ _ _ => k b o e, fun _ q => .inl q, fun b o e => ⟨o, k b o e⟩⟩
theorem Tr.refl {env : Env} {N : Addr → Prop} {h : Heap} : Tr env N N h h := Tr.kp (Kp.refl _)

theorem Fm.kp {env : Env} {h₀ h h' : Heap} (x : Fm env h₀ h) (k : Kp h h') : Fm env h₀ h' where
  ns := let ⟨m, e⟩ := x.ns; ⟨m, e.keeps k⟩
  cell := fun y c e => let ⟨v, q⟩ := x.cell y c e; ⟨v, q.keeps k⟩
  apart := x.apart
  cov := x.cov
  keep := x.keep.trans k
  l0 := x.l0
  c0 := x.c0
theorem FSt.kp {B : Base} {env : Env} {names : List Str} {h₀ : Heap} {N₀ : Addr → Prop} {o : Option Nat} {a : Addr} {ρ : Sto} {s : Shared} (x : FSt B env names h₀ N₀ o a ρ s) {h' : Heap} {tk : Nat} (k : Kp s.heap h') :
    FSt B env names h₀ N₀ o a ρ { s with heap := h', toks := tk } where
  inn := x.inn.kp k
  g := x.g
  fm := x.fm.kp k
  own := fun i hi => let ⟨h1, y, vs, n, h2, h3, h4, h5⟩ := x.own i hi; ⟨h1, y, vs, n, h2, h3.kp k, k _ _ h4, fun d hd => let ⟨ds, e, q⟩ := h5 d hd; ⟨ds, e, q.kp k⟩⟩

/-- a list or a tuple is no frame and no cell -/
theorem Fm.mv {env : Env} {h₀ h h' : Heap} {N N' : Addr → Prop} (x : Fm env h₀ h) (t : Tr env N N' h h') (hN : ∀ b, N b → ∃ vs n, h.get? b = some (lstO vs n)) : Mv N N' h h' where
  l := fun a vs n e hn => by
    refine ⟨t.kf a _ e (fun q => ?_) (fun y q => ?_) hn, fun q => (t.nn a q).elim hn fun q => by rw [e] at q; cases q⟩
    · obtain ⟨m, ob, es, ep, e1, e2, _⟩ := x.ns
      rw [← q, e] at e1; cases e1; cases e2
    · obtain ⟨v, ob, e1, e2⟩ := x.cell y a q
      rw [e] at e1; cases e1; cases e2
  t := fun a vs n e => by
    refine t.kf a _ e (fun q => ?_) (fun y q => ?_) (fun q => ?_)
    · obtain ⟨m, ob, es, ep, e1, e2, _⟩ := x.ns
      rw [← q, e] at e1; cases e1; cases e2
    · obtain ⟨v, ob, e1, e2⟩ := x.cell y a q
      rw [e] at e1; cases e1; cases e2
    · obtain ⟨vs', n', e'⟩ := hN a q
      have q := congrArg Obj.cls (Option.some.inj (e.symm.trans e'))
      exact absurd (show Value.type "tuple" = Value.type "list" from q) (by decide)

inductive Out where
  | next (ρ : Sto)
  | ret (d : PyData)

noncomputable def Post (B : Base) (env : Env) (names : List Str) (h₀ : Heap) (N₀ : Addr → Prop) (o o' : Option Nat) (a : Addr) (s : Shared) (Q : Flow → Shared → Prop) : Out → Prop
  | .next ρ' => ∀ h' tk a', FSt B env names h₀ N₀ o' a' ρ' { s with heap := h', toks := tk } → Tr env (NN N₀ o a) (NN N₀ o' a') s.heap h' → Q .next { s with heap := h', toks := tk }
  | .ret d => ∀ v h' tk, Kp h₀ h' → Enc N₀ h' v d → Q (.ret v) { s with heap := h', toks := tk }

theorem Post.after {B : Base} {env : Env} {names : List Str} {h₀ : Heap} {N₀ : Addr → Prop} {o o₁ o₂ : Option Nat} {a a₁ : Addr} {s : Shared} {Q : Flow → Shared → Prop} {out : Out} (p : Post B env names h₀ N₀ o o₂ a s Q out) {h' : Heap} {tk : Nat}
    (t : Tr env (NN N₀ o a) (NN N₀ o₁ a₁) s.heap h') : Post B env names h₀ N₀ o₁ o₂ a₁ { s with heap := h', toks := tk } Q out := by
  cases out with
  | next ρ' => exact fun h'' tk' a' F t' => p h'' tk' a' F (t.trans t')
  | ret d => exact p

section
variable (B : Base) (sc : Scope) (names : List Str) (lev : Nat) (o : Option Nat)
noncomputable def ExS (st : Stmt) (f : Sto → Option Out) (o' : Option Nat) : Prop :=
  ∀ (X : EX) (A : Around) (h₀ : Heap) (N₀ : Addr → Prop) (a : Addr) (ρ : Sto) (out : Out) (s : Shared) (E : Value → Shared → Prop) (Q : Flow → Shared → Prop),
    Room A lev → FSt B (X.env sc) names h₀ N₀ o a ρ s → f ρ = some out → Post B (X.env sc) names h₀ N₀ o o' a s Q out →
    wpAny (model B.prog B.w) A (exec st (X.env sc)) Q E s
noncomputable def Ex (sts : List Stmt) (f : Sto → Option Out) (o' : Option Nat) : Prop :=
  ∀ (X : EX) (A : Around) (h₀ : Heap) (N₀ : Addr → Prop) (a : Addr) (ρ : Sto) (out : Out) (s : Shared) (E : Value → Shared → Prop) (Q : Flow → Shared → Prop),
    Room A lev → FSt B (X.env sc) names h₀ N₀ o a ρ s → f ρ = some out → Post B (X.env sc) names h₀ N₀ o o' a s Q out →
    wpAny (model B.prog B.w) A (execs sts (X.env sc)) Q E s
end

section
variable {B : Base} {sc : Scope} {names : List Str} {lev : Nat} {o : Option Nat}

theorem Ex.nil : Ex B sc names lev o [] (fun ρ => some (.next ρ)) o :=
  fun X A h₀ N₀ a ρ out s E Q R F hf p => by cases hf; exact wpAny_execs_nil (p s.heap s.toks a F Tr.refl)
noncomputable def seqO (f g : Sto → Option Out) (ρ : Sto) : Option Out := match f ρ with
  | some (.next ρ') => g ρ'
  | some (.ret d) => some (.ret d)
  | none => none
theorem Ex.cons {o₁ o₂ : Option Nat} {st : Stmt} {rest : List Stmt} {f g : Sto → Option Out} (h1 : ExS B sc names lev o st f o₁) (h2 : Ex B sc names lev o₁ rest g o₂) : Ex B sc names lev o (st :: rest) (seqO f g) o₂ :=
  fun X A h₀ N₀ a ρ out s E Q R F hf p => by
    unfold seqO at hf
    refine wpAny_execs_cons ?_
    split at hf
    · rename_i ρ' hρ
      refine h1 X A h₀ N₀ a ρ _ s E _ R F hρ fun h' tk a' F' t => ?_
      exact h2 X A h₀ N₀ a' ρ' out _ E Q R F' hf (p.after t)
    · rename_i d hd
      cases hf
      exact h1 X A h₀ N₀ a ρ _ s E _ R F hd p
    · cases hf
theorem Ex.of_dead {sts : List Stmt} : Ex B sc names lev o sts (fun _ => none) o := fun X A h₀ N₀ a ρ out s E Q R F hf p => by cases hf
theorem ExS.dead {st : Stmt} : ExS B sc names lev o st (fun _ => none) o := fun X A h₀ N₀ a ρ out s E Q R F hf p => by cases hf
/-- what has no successor may end anyhow -/
theorem Ex.ends {o' o'' : Option Nat} {sts : List Stmt} {f : Sto → Option Out} (x : Ex B sc names lev o sts f o') (h : ∀ ρ ρ', f ρ ≠ some (.next ρ')) : Ex B sc names lev o sts f o'' :=
  fun X A h₀ N₀ a ρ out s E Q R F hf p => by
    cases out with
    | next ρ' => exact absurd hf (h ρ ρ')
    | ret d => exact x X A h₀ N₀ a ρ _ s E Q R F hf p

noncomputable def retO (f : Sto → Option PyData) (ρ : Sto) : Option Out := match f ρ with
  | some d => some (.ret d)
  | none => none
theorem retO_some {f : Sto → Option PyData} {ρ : Sto} {out : Out} (e : retO f ρ = some out) : ∃ d, f ρ = some d ∧ out = .ret d := by
  unfold retO at e
  split at e
  · cases e; exact ⟨_, by assumption, rfl⟩
  · cases e
theorem ExS.ret {o' : Option Nat} {e : Expr} {pos : Pos} {f : Sto → Option PyData} (he : Ev B sc names lev o e f) : ExS B sc names lev o (.Return (some e) pos) (retO f) o' :=
  fun X A h₀ N₀ a ρ out s E Q R F hf p => by
    obtain ⟨d, hd, rfl⟩ := retO_some hf
    refine wpAny_Return_some (he X A _ ρ d s E _ R F.inn hd fun v h' tk k e' => p v h' tk (F.fm.keep.trans k) ?_)
    refine e'.sub fun b hb => ?_
    cases o with
    | none => exact hb
    | some _ => exact .inl hb
/-- handing back the list that was private -/
theorem ExS.retOwn {o' : Option Nat} {i : Nat} {x : Str} {p pos : Pos} (hi : At names i x) (hk : sc.kind = .function := by rfl) (hd : (x == ("__debug__" : Str)) = false := by decide) : ExS B sc names lev (some i) (.Return (some (.Name x p)) pos) (retO fun ρ => vg ρ i) o' :=
  fun X A h₀ N₀ a ρ out s E Q R F hf p => by
    obtain ⟨d, hd', rfl⟩ := retO_some hf
    obtain ⟨h1, y, vs, n, h2, h3, h4, h5⟩ := F.own i rfl
    obtain rfl := hi.uniq h2
    obtain ⟨ds, rfl, h6⟩ := h5 d hd'
    refine wpAny_Return_some (name_rd hk h3 hd (p _ s.heap s.toks F.fm.keep ?_))
    exact .list h1.2 h4 (h6.sub fun b hb => .inl hb)

/-! ### storing -/
theorem store_var {A : Around} {M : Model} {E : Value → Shared → Prop} {env : Env} {h₀ : Heap} {x : Str} {v : Value} {s : Shared} {Q : Unit → Shared → Prop} (F : Fm env h₀ s.heap) (hk : env.scope.kind = .function) (hx : env.kindOf x = some .local ∨ env.kindOf x = some .cell)
    (h : ∀ h' tk, Fm env h₀ h' → Rd env h' x v → (∀ y w, y ≠ x → Rd env s.heap y w → Rd env h' y w) → (∀ b o, s.heap.get? b = some o → b ≠ env.locals → (∀ x, env.cells.lookup x ≠ some b) → h'.get? b = some o) →
      (∀ b o, s.heap.get? b = some o → ∃ o', h'.get? b = some o') → Q () { s with heap := h', toks := tk }) : wpAny M A (storeName env x v) Q E s := by
  obtain ⟨m, hm⟩ := F.ns
  rcases hx with hx | hx
  · refine wpAny_storeName_local hx hm (fun h' hn hs => ?_) (by rw [hk]; rfl)
    have cellNe : ∀ y c, env.cells.lookup y = some c → c ≠ env.locals := fun y c e q => by
      obtain ⟨w, ob, e1, e2⟩ := F.cell y c e
      obtain ⟨ob', es, ep, e3, e4, _⟩ := hm
      rw [q, e3] at e1; cases e1; rw [e4] at e2; cases e2
    refine h h' _ ⟨⟨_, hn⟩, fun y c e => ?_, F.apart, F.cov, fun b ob e => ?_, F.l0, F.c0⟩ (.inl ⟨hx, _, hn, by simp⟩) (fun y w hy r => ?_) (fun b ob e hL _ => (hs.2 b hL).trans e) fun b ob e => ?_
    · obtain ⟨w, q⟩ := F.cell y c e
      exact ⟨w, q.sameBut hs (cellNe y c e)⟩
    · have : b ≠ env.locals := fun q => by rw [q, F.l0] at e; cases e
      exact (hs.2 b this).trans (F.keep b ob e)
    · rcases r with ⟨a1, m1, a2, a3⟩ | ⟨a1, c, a2, a3⟩
      · refine .inl ⟨a1, _, hn, ?_⟩
        rw [if_neg hy, ← a3, Heap.Ns.uniq a2 hm]
      · exact .inr ⟨a1, c, a2, a3.sameBut hs (cellNe y c a2)⟩
    · by_cases q : b = env.locals
      · obtain ⟨o', _, _, e', _⟩ := hn
        exact ⟨o', q ▸ e'⟩
      · exact ⟨ob, (hs.2 b q).trans e⟩
  · obtain ⟨c, hc⟩ := F.cov x hx
    obtain ⟨w₀, hw⟩ := F.cell x c hc
    refine wpAny_storeName_cell hk hx hc hw fun h' hv hs => ?_
    have cL : env.locals ≠ c := fun q => by
      obtain ⟨ob, e1, e2⟩ := hw
      obtain ⟨ob', es, ep, e3, e4, _⟩ := hm
      rw [← q, e3] at e1; cases e1; rw [e4] at e2; cases e2
    have other : ∀ y c', env.cells.lookup y = some c' → y ≠ x → c' ≠ c := fun y c' e hy q => hy (name_of_addr F.apart (mem_of_lookup e) (q ▸ mem_of_lookup hc))
    refine h h' s.toks ⟨⟨m, hm.sameBut hs cL⟩, fun y c' e => ?_, F.apart, F.cov, fun b ob e => ?_, F.l0, F.c0⟩ (.inr ⟨hx, c, hc, hv⟩) (fun y w hy r => ?_) (fun b ob e _ hcs => (hs.2 b fun q => hcs x (q ▸ hc)).trans e) fun b ob e => ?_
    · by_cases hy : y = x
      · subst hy; rw [hc] at e; cases e; exact ⟨_, hv⟩
      · obtain ⟨w, q⟩ := F.cell y c' e
        exact ⟨w, q.sameBut hs (other y c' e hy)⟩
    · have : b ≠ c := fun q => by rw [q, F.c0 x c hc] at e; cases e
      exact (hs.2 b this).trans (F.keep b ob e)
    · rcases r with ⟨a1, m1, a2, a3⟩ | ⟨a1, c', a2, a3⟩
      · exact .inl ⟨a1, m1, a2.sameBut hs cL, a3⟩
      · exact .inr ⟨a1, c', a2, a3.sameBut hs (other y c' a2 hy)⟩
    · by_cases q : b = c
      · obtain ⟨o', e', _⟩ := hv
        exact ⟨o', q ▸ e'⟩
      · exact ⟨ob, (hs.2 b q).trans e⟩

noncomputable def Lk (h h' : Heap) : Prop := ∀ b vs n, h.get? b = some (lstO vs n) → h'.get? b = some (lstO vs n)
theorem Lk.trans {h h' h'' : Heap} (x : Lk h h') (y : Lk h' h'') : Lk h h'' := fun _ _ _ e => y _ _ _ (x _ _ _ e)
theorem Lk.kp {h h' : Heap} (x : Kp h h') : Lk h h' := fun _ _ _ e => x _ _ e

noncomputable def isVar (sc : Scope) (x : Str) : Bool := sc.names.lookup x == some .local || sc.names.lookup x == some .cell
theorem isVar_of {sc : Scope} {x : Str} (h : isVar sc x = true) (X : EX) : (X.env sc).kindOf x = some .local ∨ (X.env sc).kindOf x = some .cell := by
  rcases Bool.or_eq_true_iff.mp h with h | h
  · exact .inl (beq_iff_eq.mp h)
  · exact .inr (beq_iff_eq.mp h)

theorem put {A : Around} {M : Model} {X : EX} {E : Value → Shared → Prop} {h₀ : Heap} {N₀ : Addr → Prop} {a : Addr} {ρ : Sto} {i : Nat} {x : Str} {v : Value} {d : PyData} {s : Shared} {Q : Unit → Shared → Prop}
    (F : FSt B (X.env sc) names h₀ N₀ o a ρ s) (hi : At names i x) (hn : names.Nodup) (ho : o ≠ some i) (hk : sc.kind = .function) (hx : isVar sc x = true) (hv : Enc (NN N₀ o a) s.heap v d)
    (h : ∀ h' tk, FSt B (X.env sc) names h₀ N₀ o a (vput ρ i d) { s with heap := h', toks := tk } → Tr (X.env sc) (NN N₀ o a) (NN N₀ o a) s.heap h' → Lk s.heap h' → Q () { s with heap := h', toks := tk }) : wpAny M A (storeName (X.env sc) x v) Q E s := by
  refine store_var F.fm hk (isVar_of hx X) fun h' tk F' r other kf up => ?_
  have t : Tr (X.env sc) (NN N₀ o a) (NN N₀ o a) s.heap h' := ⟨fun b ob e hL hc _ => kf b ob e hL hc, fun _ q => .inl q, up⟩
  have mv := F.fm.mv t F.inn.nl
  have lk : ∀ b vs n, s.heap.get? b = some (lstO vs n) → h'.get? b = some (lstO vs n) := fun b vs n e => by
    refine kf b _ e (fun q => ?_) (fun y q => ?_)
    · obtain ⟨m, ob, es, ep, e1, e2, _⟩ := F.fm.ns
      rw [← q, e] at e1; cases e1; cases e2
    · obtain ⟨v, ob, e1, e2⟩ := F.fm.cell y b q
      rw [e] at e1; cases e1; cases e2
  refine h h' tk ⟨⟨?_, fun b hb => ?_, fun j y e hj he => ?_, F.inn.cov⟩, F.g, F', fun j hj => ?_⟩ t lk
  · exact F.g.kp F'.keep
  · obtain ⟨vs, n, e⟩ := F.inn.nl b hb
    exact ⟨vs, n, lk b vs n e⟩
  · rcases vg_vput _ _ _ _ _ he with ⟨rfl, rfl⟩ | ⟨hji, he⟩
    · obtain rfl := hi.uniq hj
      exact ⟨v, r, (hv.mv mv).r, fun _ => hv.mv mv⟩
    · obtain ⟨w, r', q1, q2⟩ := F.inn.rd j y e hj he
      have hyx : y ≠ x := fun q => hji (At.inj hn (q ▸ hj) hi)
      refine ⟨w, other y w hyx r', ?_, fun q => (q2 q).mv mv⟩
      rcases q1 with q1 | ⟨b, vs, n, ds, c1, c2, c3, c4⟩
      · exact .inl (q1.mv mv)
      · exact .inr ⟨b, vs, n, ds, c1, c2, lk b vs n c3, c4.mv mv⟩
  · obtain ⟨h1, y, vs, n, h2, h3, h4, h5⟩ := F.own j hj
    have hji : j ≠ i := fun q => ho (q ▸ hj)
    have hyx : y ≠ x := fun q => hji (At.inj hn (q ▸ h2) hi)
    refine ⟨h1, y, vs, n, h2, other y _ hyx h3, lk _ _ _ h4, fun d' hd' => ?_⟩
    rcases vg_vput _ _ _ _ _ hd' with ⟨q, _⟩ | ⟨_, hd'⟩
    · exact absurd q hji
    · obtain ⟨ds, e, q⟩ := h5 d' hd'
      exact ⟨ds, e, q.mv mv⟩
end
end Mine

namespace Mine
open PySem PySem.W PySem.Spec PySem.Calls PyProof.Rows

section
variable {B : Base} {sc : Scope} {names : List Str} {lev : Nat} {o : Option Nat}

noncomputable def asgO (i : Nat) (f : Sto → Option PyData) (ρ : Sto) : Option Out := match f ρ with
  | some d => some (.next (vput ρ i d))
  | none => none
theorem asgO_some {i : Nat} {f : Sto → Option PyData} {ρ : Sto} {out : Out} (e : asgO i f ρ = some out) : ∃ d, f ρ = some d ∧ out = .next (vput ρ i d) := by
  unfold asgO at e
  split at e
  · cases e; exact ⟨_, by assumption, rfl⟩
  · cases e
theorem ExS.asg {i : Nat} {x : Str} {p pos : Pos} {e : Expr} {f : Sto → Option PyData} (he : Ev B sc names lev o e f) (hi : At names i x) (ho : o ≠ some i) (hn : names.Nodup) (hx : isVar sc x = true := by decide)
    (hs : ∀ X : EX, swapsWith e (some (.Name x p)) pos.line (X.env sc) = pure false := by intro _; rfl) (hk : sc.kind = .function := by rfl) : ExS B sc names lev o (.Assign [.Name x p] e pos) (asgO i f) o :=
  fun X A h₀ N₀ a ρ out s E Q R F hf p => by
    obtain ⟨d, hd, rfl⟩ := asgO_some hf
    refine wpAny_Assign_Name (he X A _ ρ d s E _ R F.inn hd fun v h' tk k e' => ?_) (hs X)
    exact put (F.kp k) hi hn ho hk hx e' fun h2 t2 F2 tr _ => p h2 t2 a F2 ((Tr.kp k).trans tr)

theorem In.fresh {env : Env} {N : Addr → Prop} {ρ : Sto} {s : Shared} (I : In B env names none N ρ s) {h' : Heap} {tk : Nat} {a : Addr} {vs : List Value} {n : Nat} (k : Kp s.heap h') (ha : s.heap.get? a = none) (he : h'.get? a = some (lstO vs n)) :
    In B env names none (fun b => N b ∨ b = a) ρ { s with heap := h', toks := tk } where
  g0 := I.g0.kp k
  nl := fun b hb => by
    rcases hb with hb | rfl
    · obtain ⟨vs, n, e⟩ := I.nl b hb
      exact ⟨vs, n, k _ _ e⟩
    · exact ⟨_, _, he⟩
  rd := fun i y d hi hd => by
    obtain ⟨v, r, _, f⟩ := I.rd i y d hi hd
    have q := (f (fun x => by cases x)).mv (Mv.fresh (N := N) k ha)
    exact ⟨v, r.kp k, q.r, fun _ => q⟩
  cov := I.cov

/-- a name gets a list that nothing else holds -/
theorem putOwn {A : Around} {M : Model} {X : EX} {E : Value → Shared → Prop} {h₀ : Heap} {N₀ : Addr → Prop} {a a₀ : Addr} {ρ : Sto} {i : Nat} {x : Str} {vs : List Value} {n : Nat} {ds : List PyData} {s : Shared} {Q : Unit → Shared → Prop}
    (F : FSt B (X.env sc) names h₀ N₀ none a₀ ρ s) (I : In B (X.env sc) names none (fun b => N₀ b ∨ b = a) ρ s) (h0 : h₀.get? a = none ∧ ¬ N₀ a) (hi : At names i x) (hn : names.Nodup) (hk : sc.kind = .function) (hx : isVar sc x = true)
    (he : s.heap.get? a = some (lstO vs n)) (hl : EncL (fun b => N₀ b ∨ b = a) s.heap vs ds)
    (h : ∀ h' tk, FSt B (X.env sc) names h₀ N₀ (some i) a (vput ρ i (.list ds)) { s with heap := h', toks := tk } → Tr (X.env sc) (fun b => N₀ b ∨ b = a) (fun b => N₀ b ∨ b = a) s.heap h' → Q () { s with heap := h', toks := tk }) : wpAny M A (storeName (X.env sc) x (.ref a)) Q E s := by
  refine store_var F.fm hk (isVar_of hx X) fun h' tk F' r other kf up => ?_
  have t : Tr (X.env sc) (fun b => N₀ b ∨ b = a) (fun b => N₀ b ∨ b = a) s.heap h' := ⟨fun b ob e hL hc _ => kf b ob e hL hc, fun _ q => .inl q, up⟩
  have mv := F.fm.mv t I.nl
  have lk : ∀ b vs n, s.heap.get? b = some (lstO vs n) → h'.get? b = some (lstO vs n) := fun b vs n e => by
    refine kf b _ e (fun q => ?_) (fun y q => ?_)
    · obtain ⟨m, ob, es, ep, e1, e2, _⟩ := F.fm.ns
      rw [← q, e] at e1; cases e1; cases e2
    · obtain ⟨v, ob, e1, e2⟩ := F.fm.cell y b q
      rw [e] at e1; cases e1; cases e2
  refine h h' tk ⟨⟨F.g.kp F'.keep, fun b hb => ?_, fun j y e hj hje => ?_, F.inn.cov⟩, F.g, F', fun j hj => ?_⟩ t
  · obtain ⟨vs, n, e⟩ := I.nl b hb
    exact ⟨vs, n, lk b vs n e⟩
  · rcases vg_vput _ _ _ _ _ hje with ⟨rfl, rfl⟩ | ⟨hji, hje⟩
    · obtain rfl := hi.uniq hj
      exact ⟨_, r, .inr ⟨a, vs, n, ds, rfl, rfl, lk _ _ _ he, hl.mv mv⟩, fun q => absurd rfl q⟩
    · obtain ⟨w, r', q1, q2⟩ := I.rd j y e hj hje
      have hyx : y ≠ x := fun q => hji (At.inj hn (q ▸ hj) hi)
      have q := (q2 (fun x => by cases x)).mv mv
      exact ⟨w, other y w hyx r', q.r, fun _ => q⟩
  · cases hj
    refine ⟨h0, x, vs, n, hi, r, lk _ _ _ he, fun d' hd' => ?_⟩
    rcases vg_vput _ _ _ _ _ hd' with ⟨_, rfl⟩ | ⟨q, _⟩
    · exact ⟨ds, rfl, hl.mv mv⟩
    · exact absurd rfl q
theorem kp_none {h h' : Heap} (k : Kp h h') {a : Addr} (e : h'.get? a = none) : h.get? a = none := by
  cases q : h.get? a with
  | none => rfl
  | some o => rw [k _ _ q] at e; cases e
theorem Tr.own {env : Env} {N : Addr → Prop} {h h' h'' : Heap} {a : Addr} (k : Kp h h') (ha : h.get? a = none) (t : Tr env (fun b => N b ∨ b = a) (fun b => N b ∨ b = a) h' h'') : Tr env N (fun b => N b ∨ b = a) h h'' where
  kf := fun b o e hL hc hn => t.kf b o (k _ _ e) hL hc fun q => q.elim hn fun q => by rw [q, ha] at e; cases e
  nn := fun b q => by
    rcases t.nn b q with (q | q) | q
    · exact .inl q
    · exact .inr (by rw [q]; exact ha)
    · exact .inr (kp_none k q)
  up := fun b o e => t.up b o (k _ _ e)
theorem ExS.asgOwn {i : Nat} {x : Str} {p pos : Pos} {e : Expr} {f : Sto → Option PyData} (he : EvNew B sc names lev none e f) (hi : At names i x) (hn : names.Nodup) (hx : isVar sc x = true := by decide)
    (hs : ∀ X : EX, swapsWith e (some (.Name x p)) pos.line (X.env sc) = pure false := by intro _; rfl) (hk : sc.kind = .function := by rfl) : ExS B sc names lev none (.Assign [.Name x p] e pos) (asgO i f) (some i) :=
  fun X A h₀ N₀ a₀ ρ out s E Q R F hf p => by
    obtain ⟨d, hd, rfl⟩ := asgO_some hf
    refine wpAny_Assign_Name (he X A _ ρ d s E _ R F.inn hd fun a vs n ds h' tk k ha hd' he' hl => ?_) (hs X)
    subst hd'
    exact putOwn (F.kp k) (In.fresh F.inn k ha he') ⟨kp_none F.fm.keep ha, fun q => by obtain ⟨vs', n', e'⟩ := F.inn.nl a q; rw [ha] at e'; cases e'⟩ hi hn hk hx he' hl fun h2 t2 F2 tr => p h2 t2 a F2 (Tr.own k ha tr)

/-! ### unpacking -/
inductive Ats (names : List Str) : List Nat → List Str → Prop
  | nil : Ats names [] []
  | cons {i : Nat} {x : Str} {is : List Nat} {xs : List Str} : At names i x → Ats names is xs → Ats names (i :: is) (x :: xs)
noncomputable def vputs : Sto → List Nat → List PyData → Sto
  | ρ, i :: is, d :: ds => vputs (vput ρ i d) is ds
  | ρ, _, _ => ρ
inductive Tgs {A : Around} {M : Model} {X : EX} {E : Value → Shared → Prop} : List Str → List (Value → Sem Unit) → Prop
  | nil : Tgs [] []
  | cons {x : Str} {t : Value → Sem Unit} {xs : List Str} {ts : List (Value → Sem Unit)} : (∀ v (s : Shared) (Q : Unit → Shared → Prop), wpAny M A (storeName (X.env sc) x v) Q E s → wpAny M A (t v) Q E s) → Tgs xs ts → Tgs (x :: xs) (t :: ts)
theorem putAll {A : Around} {M : Model} {X : EX} {E : Value → Shared → Prop} {h₀ : Heap} {N₀ : Addr → Prop} {a : Addr} (hn : names.Nodup) (hk : sc.kind = .function) :
    ∀ {xs : List Str} {ts : List (Value → Sem Unit)} (_ : Tgs (sc := sc) (A := A) (M := M) (X := X) (E := E) xs ts) {is : List Nat} (_ : Ats names is xs) (_ : ∀ i ∈ is, o ≠ some i) (_ : xs.all (isVar sc) = true) {ws : List Value} {ds : List PyData} {ρ : Sto} {s : Shared} {Q : Unit → Shared → Prop} (_ : FSt B (X.env sc) names h₀ N₀ o a ρ s) (_ : EncL (NN N₀ o a) s.heap ws ds) (_ : ds.length = is.length)
      {ts' : List (Value → Sem Unit)} {ws' : List Value} (_ : ∀ h' tk, FSt B (X.env sc) names h₀ N₀ o a (vputs ρ is ds) { s with heap := h', toks := tk } → Tr (X.env sc) (NN N₀ o a) (NN N₀ o a) s.heap h' → Lk s.heap h' → wpAny M A (assignInOrder ts' ws') Q E { s with heap := h', toks := tk }),
      wpAny M A (assignInOrder (ts ++ ts') (ws ++ ws')) Q E s := by
  intro xs ts ht
  induction ht with
  | nil =>
    intro is hi _ _ ws ds ρ s Q F hl hlen ts' ws' h
    cases hi
    cases ds with
    | nil => cases hl; exact h s.heap s.toks F Tr.refl fun _ _ _ e => e
    | cons d ds => cases hlen
  | cons htg _ ih =>
    rename_i x t xs ts _
    intro is hi ho hx ws ds ρ s Q F hl hlen ts' ws' h
    rw [List.all_cons, Bool.and_eq_true] at hx
    cases hi with
    | cons h1 hi =>
      rename_i i is
      cases ds with
      | nil => cases hlen
      | cons d ds =>
        cases ws with
        | nil => cases hl
        | cons v ws =>
          obtain ⟨hv, hw⟩ : Enc (NN N₀ o a) s.heap v d ∧ EncL (NN N₀ o a) s.heap ws ds := by cases hl with | cons p q => exact ⟨p, q⟩
          show wpAny M A (do holding (ws ++ ws') (t v); assignInOrder (ts ++ ts') (ws ++ ws')) Q E s
          refine wpAny_bind (wpAny_holding (htg _ _ _ (put F h1 hn (ho i (.head _)) hk hx.1 hv fun h' tk F' t lk => ?_)))
          have mv := F.fm.mv t F.inn.nl
          exact ih hi (fun j hj => ho j (.tail _ hj)) hx.2 F' (hw.mv mv) (by simpa using hlen) fun h2 t2 F2 tr lk2 => h h2 t2 F2 (t.trans tr) (lk.trans lk2)

inductive Nms : List Expr → List Str → Prop
  | nil : Nms [] []
  | cons {x : Str} {p : Pos} {es : List Expr} {xs : List Str} : Nms es xs → Nms (.Name x p :: es) (x :: xs)
theorem Nms.each {env : Env} {es : List Expr} {xs : List Str} (h : Nms es xs) : (assignEach es env).findIdx? (·.1) = none ∧ (assignEach es env).length = xs.length := by
  have q : ∀ y ∈ assignEach es env, y.1 = false := by
    induction h with
    | nil => intro y hy; cases hy
    | cons h ih =>
      intro y hy
      rcases List.mem_cons.mp hy with rfl | hy
      · rfl
      · exact ih y hy
  refine ⟨List.findIdx?_eq_none_iff.mpr q, ?_⟩
  clear q
  induction h with
  | nil => rfl
  | cons h ih => exact congrArg (· + 1) ih
theorem Nms.tgs {A : Around} {M : Model} {X : EX} {E : Value → Shared → Prop} {es : List Expr} {xs : List Str} (h : Nms es xs) : Tgs (sc := sc) (A := A) (M := M) (X := X) (E := E) xs ((assignEach es (X.env sc)).map (·.2)) := by
  induction h with
  | nil => exact .nil
  | cons h ih => exact .cons (fun v s Q h => wpAny_assign_Name h) ih
theorem tgs_bind {A : Around} {M : Model} {X : EX} {E : Value → Shared → Prop} : ∀ xs : List Str, Tgs (sc := sc) (A := A) (M := M) (X := X) (E := E) xs (xs.map fun x => bindName (X.env sc) x)
  | [] => .nil
  | _ :: xs => .cons (fun v s Q h => wpAny_bindName h) (tgs_bind xs)

noncomputable def unpO (is : List Nat) (rev : Bool) (f : Sto → Option PyData) (ρ : Sto) : Option Out := match f ρ with
  | some (.tuple ds) => bif Nat.beq ds.length is.length then some (.next (bif rev then vputs ρ is.reverse ds.reverse else vputs ρ is ds)) else none
  | _ => none
theorem unpO_some {is : List Nat} {rev : Bool} {f : Sto → Option PyData} {ρ : Sto} {out : Out} (e : unpO is rev f ρ = some out) : ∃ ds, f ρ = some (.tuple ds) ∧ ds.length = is.length ∧ out = .next (bif rev then vputs ρ is.reverse ds.reverse else vputs ρ is ds) := by
  unfold unpO at e
  split at e
  · obtain ⟨q, rfl⟩ := cond_some e
    exact ⟨_, by assumption, Nat.eq_of_beq_eq_true q, rfl⟩
  · cases e
theorem Ats.reverse {names : List Str} : ∀ {is : List Nat} {xs : List Str}, Ats names is xs → Ats names is.reverse xs.reverse := by
  have app : ∀ {is : List Nat} {xs : List Str} {js : List Nat} {ys : List Str}, Ats names is xs → Ats names js ys → Ats names (is ++ js) (xs ++ ys) := by
    intro is xs js ys h k
    induction h with
    | nil => exact k
    | cons a _ ih => exact .cons a ih
  intro is xs h
  induction h with
  | nil => exact .nil
  | cons a _ ih => rw [List.reverse_cons, List.reverse_cons]; exact app ih (.cons a .nil)
theorem EncL.reverse {N : Addr → Prop} {h : Heap} : ∀ {vs : List Value} {ds : List PyData}, EncL N h vs ds → EncL N h vs.reverse ds.reverse
  | _, _, .nil => .nil
  | _, _, .cons a b => by rw [List.reverse_cons, List.reverse_cons]; exact (EncL.reverse b).append (.cons a .nil)
theorem Ats.len {names : List Str} {is : List Nat} {xs : List Str} (h : Ats names is xs) : is.length = xs.length := by
  induction h with
  | nil => rfl
  | cons _ _ ih => rw [List.length_cons, List.length_cons, ih]

theorem ext_kp {s : Shared} {h' : Heap} (he : Heap.ExtBut s.heap.objs.size s.heap h') : Kp s.heap h' := fun b o e => he b o (Nat.ne_of_lt (Heap.lt_size e)) e

/-- a tuple's items to names, the stores in the written order -/
theorem ExS.unp {is : List Nat} {xs : List Str} {elts : List Expr} {k : Nat} {tp pos : Pos} {e : Expr} {f : Sto → Option PyData} (he : Ev B sc names lev o e f) (hm : Nms elts xs) (hi : Ats names is xs) (ho : ∀ i ∈ is, o ≠ some i) (hn : names.Nodup) (hx : xs.all (isVar sc) = true := by decide)
    (hs : ∀ X : EX, swapsWithSole [.Tuple elts k tp] e pos.line (X.env sc) = pure false := by intro _; rfl) (hw : ∀ X : EX, swappedStores [.Tuple elts k tp] e (X.env sc) = pure none := by intro _; rfl)
    (hk : sc.kind = .function := by rfl) : ExS B sc names lev o (.Assign [.Tuple elts k tp] e pos) (unpO is false f) o :=
  fun X A h₀ N₀ a ρ out s E Q R F hf p => by
    obtain ⟨ds, hd, hlen, rfl⟩ := unpO_some hf
    refine Assign_Tuple (he X A _ ρ _ s E _ R F.inn hd fun v h1 t1 k1 e1 => ?_) (hs X) (hw X)
    cases e1 with
    | tuple e1 r1 =>
      rename_i t ws n
      rw [assign_Tuple]
      refine wpAny_bind (wpAny_standAt ?_)
      have hlx : xs.length = is.length := hi.len.symm
      obtain ⟨q1, q2⟩ := hm.each (env := X.env sc)
      have hlz : (assignEach elts (X.env sc)).length = ws.toArray.size := by rw [q2, List.size_toArray, r1.length, hlen, hlx]
      unfold unpack
      rw [q1, hlz]
      refine wpAny_bind (wpAny_holding (unpackItems_tuple (s := { s with heap := h1, toks := t1 }) R.hh ⟨_, e1, rfl, _, rfl⟩ fun h2 x2 => ?_))
      have k2 : Kp h1 h2 := ext_kp (s := { s with heap := h1, toks := t1 }) x2
      rw [← List.append_nil ((assignEach elts (X.env sc)).map (·.2)), ← List.append_nil (ws.toArray.toList)]
      refine putAll hn hk hm.tgs hi ho hx (F.kp (k1.trans k2)) (r1.kp k2) hlen fun h3 t3 F3 tr _ => ?_
      refine wpAny_pure ?_
      exact p h3 t3 a F3 ((Tr.kp (k1.trans k2)).trans tr)
/-- two or three names: the stores from behind -/
theorem ExS.unpS {is : List Nat} {xs : List Str} {elts : List Expr} {k : Nat} {tp pos : Pos} {e : Expr} {f : Sto → Option PyData} (he : Ev B sc names lev o e f) (hi : Ats names is xs) (ho : ∀ i ∈ is, o ≠ some i) (hn : names.Nodup)
    (hw : ∀ X : EX, swappedStores [.Tuple elts k tp] e (X.env sc) = pure (some xs)) (hx : xs.all (isVar sc) = true := by decide)
    (hs : ∀ X : EX, swapsWithSole [.Tuple elts k tp] e pos.line (X.env sc) = pure false := by intro _; rfl) 
    (hk : sc.kind = .function := by rfl) : ExS B sc names lev o (.Assign [.Tuple elts k tp] e pos) (unpO is true f) o :=
  fun X A h₀ N₀ a ρ out s E Q R F hf p => by
    obtain ⟨ds, hd, hlen, rfl⟩ := unpO_some hf
    refine Assign_Tuple_swapped (he X A _ ρ _ s E _ R F.inn hd fun v h1 t1 k1 e1 => ?_) (hs X) (hw X)
    cases e1 with
    | tuple e1 r1 =>
      rename_i t ws n
      have hlx : xs.length = is.length := hi.len.symm
      have hlz : xs.length = ws.toArray.size := by rw [List.size_toArray, r1.length, hlen, hlx]
      rw [hlz]
      refine unpackItems_tuple (s := { s with heap := h1, toks := t1 }) R.hh ⟨_, e1, rfl, _, rfl⟩ fun h2 x2 => ?_
      have k2 : Kp h1 h2 := ext_kp (s := { s with heap := h1, toks := t1 }) x2
      rw [← List.append_nil (xs.reverse.map fun n => bindName (X.env sc) n), ← List.append_nil (ws.toArray.toList.reverse)]
      refine putAll hn hk (tgs_bind xs.reverse) hi.reverse (fun i hi' => ho i (List.mem_reverse.mp hi')) (by rw [List.all_reverse]; exact hx) (F.kp (k1.trans k2)) (r1.kp k2).reverse (by rw [List.length_reverse, List.length_reverse]; exact hlen) fun h3 t3 F3 tr _ => ?_
      refine wpAny_pure ?_
      exact p h3 t3 a F3 ((Tr.kp (k1.trans k2)).trans tr)

noncomputable def unpN (i : Nat) (is : List Nat) (f : Sto → Option PyData) (g : Sto → Option (List PyData)) (ρ : Sto) : Option Out := match f ρ with
  | some (.list d) => match g ρ with
    | some ds => bif Nat.beq ds.length is.length && szOk ds.length then some (.next (vput (vputs ρ is.reverse ds.reverse) i (.list d))) else none
    | none => none
  | _ => none
/-- two or three names, the first a list that nothing else holds -/
theorem ExS.unpOwn {i : Nat} {is : List Nat} {x : Str} {xs : List Str} {elts : List Expr} {k kk : Nat} {tp pos pp : Pos} {e : Expr} {es : List Expr} {f : Sto → Option PyData} {g : Sto → Option (List PyData)} (he : EvNew B sc names lev none e f) (hes : EvL B sc names lev none es g) (hi : At names i x) (his : Ats names is xs) (hn : names.Nodup)
    (hw : ∀ X : EX, swappedStores [.Tuple elts k tp] (.Tuple (e :: es) kk pp) (X.env sc) = pure (some (x :: xs))) (hx : isVar sc x = true := by decide) (hxs : xs.all (isVar sc) = true := by decide)
    (hse : ∀ env, starEach (e :: es) env = (false, eval e env) :: starEach es env := by intro _; rfl)
    (hs : ∀ X : EX, swapsWithSole [.Tuple elts k tp] (.Tuple (e :: es) kk pp) pos.line (X.env sc) = pure false := by intro _; rfl) 
    (hk : sc.kind = .function := by rfl) : ExS B sc names lev none (.Assign [.Tuple elts k tp] (.Tuple (e :: es) kk pp) pos) (unpN i is f g) (some i) :=
  fun X A h₀ N₀ a₀ ρ out s E Q R F hf p => by
    unfold unpN at hf
    split at hf
    · split at hf
      · obtain ⟨q, rfl⟩ := cond_some hf
        rename_i d hd _ ds hds
        rw [Bool.and_eq_true] at q
        have hlen : ds.length = is.length := Nat.eq_of_beq_eq_true q.1
        have hz := Nat.le_of_ble_eq_true q.2
        refine Assign_Tuple_swapped (Tuple_ (wpAny_items_cons (he X A _ ρ _ s E _ R F.inn hd fun a vs n ds' h1 t1 k1 ha hd' he' hl => ?_) (hse _))) (hs X) (hw X)
        cases hd'
        have I1 : In B (X.env sc) names none (fun b => N₀ b ∨ b = a) ρ { s with heap := h1, toks := t1 } := In.fresh F.inn k1 ha he'
        refine hes X A _ ρ ds _ E _ pp R I1 hds fun ws h2 t2 k2 e2 => ?_
        have hzw : (Value.ref a :: ws).length ≤ 1001 := by rw [List.length_cons, e2.length]; omega
        refine tup_new (by simp only [sizeLine]; omega) ?_
        have hlz : (x :: xs).length = (Value.ref a :: ws).toArray.size := by rw [List.length_cons, List.size_toArray, List.length_cons, e2.length, hlen, his.len]
        rw [hlz]
        refine unpackItems_tuple (s := { s with heap := h2.push (tupO (.ref a :: ws) 0), toks := t2 }) R.hh ⟨_, Heap.get?_push_size _ rfl, rfl, _, rfl⟩ fun h3 x3 => ?_
        have k3 : Kp h2 h3 := (Kp.push _ _).trans (ext_kp (s := { s with heap := h2.push (tupO (.ref a :: ws) 0), toks := t2 }) x3)
        have kk' : Kp h1 h3 := k2.trans k3
        have hna : ¬ N₀ a := fun q => by obtain ⟨vs', n', e'⟩ := F.inn.nl a q; rw [ha] at e'; cases e'
        have F3 : FSt B (X.env sc) names h₀ (fun b => N₀ b ∨ b = a) none a ρ { s with heap := h3, toks := t2 } := ⟨I1.kp kk', F.g, F.fm.kp (k1.trans kk'), fun _ q => by cases q⟩
        show wpAny _ _ (assignInOrder ((x :: xs).reverse.map fun n => bindName (X.env sc) n) ((Value.ref a :: ws).toArray.toList.reverse)) _ _ _
        rw [List.reverse_cons, List.map_append, show (Value.ref a :: ws).toArray.toList.reverse = ws.reverse ++ [.ref a] from List.reverse_cons]
        refine putAll hn hk (tgs_bind xs.reverse) his.reverse (fun i hi' => by simp) (by rw [List.all_reverse]; exact hxs) F3 (e2.kp k3).reverse (by rw [List.length_reverse, List.length_reverse]; exact hlen) fun h4 t4 F4 tr lk => ?_
        have mv := F3.fm.mv tr F3.inn.nl
        show wpAny _ _ (do holding [] (bindName (X.env sc) x (.ref a)); assignInOrder [] []) _ _ _
        refine wpAny_bind (wpAny_holding (wpAny_bindName ?_))
        have he4 : h4.get? a = some (lstO vs n) := lk _ _ _ (kk' _ _ he')
        have F4' : FSt B (X.env sc) names h₀ N₀ none a (vputs ρ is.reverse ds.reverse) { s with heap := h4, toks := t4 } := ⟨⟨F4.inn.g0, fun b hb => F4.inn.nl b (.inl hb), fun j y e hj hje => by
          obtain ⟨v, r, q1, q2⟩ := F4.inn.rd j y e hj hje
          have q := (q2 (fun x => by cases x)).sub (N' := N₀) fun b hb => .inl hb
          exact ⟨v, r, q.r, fun _ => q⟩, F4.inn.cov⟩, F4.g, F4.fm, fun _ q => by cases q⟩
        refine putOwn F4' F4.inn ⟨kp_none F.fm.keep ha, hna⟩ hi hn hk hx he4 ((hl.kp kk').mv mv) fun h5 t5 F5 tr5 => wpAny_pure ?_
        exact p h5 t5 a F5 ((Tr.own (k1.trans kk') ha tr).trans tr5)
      · cases hf
    · cases hf
end
end Mine

namespace Mine
open PySem PySem.W PySem.Spec PySem.Calls PyProof.Rows

section
variable {prog : Program} {w : World} {A : Around} {E : Value → Shared → Prop} {s : Shared}
theorem append_pl {l : Addr} {vs : List Value} {n : Nat} {x : Value} {Q : Value → Shared → Prop} (hl : s.heap.get? l = some (lstO vs n)) (hz : vs.length ≤ 1000)
    (hQ : ∀ h' n', h'.get? l = some (lstO (vs ++ [x]) n') → Heap.SameBut l s.heap h' → Q .none { s with heap := h' }) : wpAny (model prog w) A (call (.builtin "list.append") [.ref l, x]) Q E s := by
  refine wpAny_list_append_plain (items := vs.toArray) ⟨n, hl⟩ (fun h' hp hs => ?_) (by simp only [List.size_toArray, sizeLine]; omega)
  obtain ⟨n', e⟩ := hp
  rw [show vs.toArray.push x = (vs ++ [x]).toArray by simp] at e
  exact hQ h' n' e hs
theorem setItem_pl {l : Addr} {vs : List Value} {n k : Nat} {i : Int} {t : Tok} {v : Value} {Q : Unit → Shared → Prop} (hi : i = (k : Int)) (hl : s.heap.get? l = some (lstO vs n)) (hk : k < vs.length) (hz : k ≤ 1000)
    (hQ : ∀ h' n', h'.get? l = some (lstO (vs.set k v) n') → Heap.SameBut l s.heap h' → Q () { s with heap := h' }) : wpAny (model prog w) A (setItem (.ref l) (.int i t) v) Q E s := by
  have hL := isList_of hl
  unfold setItem
  refine wpAny_holding ?_
  refine wpAny_bind (wpAny_sequenceKey hL.typeIs (by decide) ?_)
  refine wpAny_bind (wpAny_callSpecial?_slot (name := Str.ofString "__setitem__") hL.typeIs slot_list_setitem (wpAny_call_entry slot_list_setitem hL.typeIs entry_list_setitem ?_ (args_list_setitem _ _ _)))
  show wpAny _ _ (Builtin.List.listSubscript? (.int i t) >>= _) _ _ s
  refine wpAny_bind (wpAny_listSubscript_int (fitsIndex_of (by omega) (by omega)) ?_)
  subst hi
  show wpAny _ _ ((seqItemAt l k >>= fun r => pure (r.map (k, ·))) >>= _) _ _ s
  refine wpAny_bind (wpAny_bind (wpAny_seqItemAt hl rfl (wpAny_pure ?_)))
  rw [show vs.toArray[k]? = some vs[k] by simp [hk]]
  show wpAny _ _ (setSeqItemAt l k v >>= _) _ _ s
  refine wpAny_bind (wpAny_setSeqItemAt hl rfl ?_)
  have fin : ∃ n', (s.heap.update l (Obj.mapSeq (·.setIfInBounds k v))).get? l = some (lstO (vs.set k v) n') := by
    have q := Heap.get?_update_self (f := Obj.mapSeq (·.setIfInBounds k v)) (h := s.heap) (a := l) hl rfl
    have e2 : vs.toArray.setIfInBounds k v = (vs.set k v).toArray := by simp
    refine ⟨?n, q.trans ?_⟩
    rotate_left
    · simp only [Obj.mapSeq, e2]
      rfl
  obtain ⟨n', e⟩ := fin
  first
    | exact wpAny_bind (wpAny_pure (wpAny_pure ⟨.none, rfl, wpAny_pure (hQ _ n' e (Heap.SameBut.update ..))⟩))
    | exact wpAny_pure ⟨.none, rfl, wpAny_pure (hQ _ n' e (Heap.SameBut.update ..))⟩
end

section
variable {B : Base} {sc : Scope} {names : List Str} {lev : Nat} {o : Option Nat}

/-- the private list's object is changed -/
theorem FSt.chg {X : EX} {h₀ : Heap} {N₀ : Addr → Prop} {a : Addr} {ρ : Sto} {i : Nat} {s : Shared} {h' : Heap} {ws : List Value} {n : Nat} {es : List PyData} {tk : Nat} (F : FSt B (X.env sc) names h₀ N₀ (some i) a ρ s) (hs : Heap.SameBut a s.heap h') (e : h'.get? a = some (lstO ws n))
    (hl : EncL (fun b => N₀ b ∨ b = a) s.heap ws es) : FSt B (X.env sc) names h₀ N₀ (some i) a (vput ρ i (.list es)) { s with heap := h', toks := tk } ∧ Tr (X.env sc) (NN N₀ (some i) a) (NN N₀ (some i) a) s.heap h' := by
  obtain ⟨⟨h1, h1'⟩, y, vs, n0, h2, h3, h4, h5⟩ := F.own i rfl
  have up : ∀ b o, s.heap.get? b = some o → ∃ o', h'.get? b = some o' := fun b ob eb => by
    by_cases q : b = a
    · exact ⟨_, q ▸ e⟩
    · exact ⟨ob, (hs.2 b q).trans eb⟩
  have t : Tr (X.env sc) (NN N₀ (some i) a) (NN N₀ (some i) a) s.heap h' := ⟨fun b ob eb _ _ hn => (hs.2 b fun q => hn (.inr q)).trans eb, fun _ q => .inl q, up⟩
  have mv := F.fm.mv t F.inn.nl
  obtain ⟨m, hm⟩ := F.fm.ns
  have aL : (X.env sc).locals ≠ a := fun q => by
    obtain ⟨ob, es, ep, e1, e2, _⟩ := hm
    rw [q, h4] at e1; cases e1; cases e2
  have aC : ∀ x c, (X.env sc).cells.lookup x = some c → c ≠ a := fun x c hc q => by
    obtain ⟨v, ob, e1, e2⟩ := F.fm.cell x c hc
    rw [q, h4] at e1; cases e1; cases e2
  have F' : Fm (X.env sc) h₀ h' := ⟨⟨m, hm.sameBut hs aL⟩, fun x c hc => let ⟨v, q⟩ := F.fm.cell x c hc; ⟨v, q.sameBut hs (aC x c hc)⟩, F.fm.apart, F.fm.cov, fun b ob eb => by
    have : b ≠ a := fun q => by rw [q, h1] at eb; cases eb
    exact (hs.2 b this).trans (F.fm.keep b ob eb), F.fm.l0, F.fm.c0⟩
  have rd : ∀ y v, Rd (X.env sc) s.heap y v → Rd (X.env sc) h' y v := fun y v r => by
    rcases r with ⟨p, m', q, r⟩ | ⟨p, c, q, r⟩
    · exact .inl ⟨p, m', q.sameBut hs aL, r⟩
    · exact .inr ⟨p, c, q, r.sameBut hs (aC y c q)⟩
  have hl' : EncL (NN N₀ (some i) a) h' ws es := EncL.mv mv hl
  refine ⟨⟨⟨F.g.kp F'.keep, fun b hb => ?_, fun j z d hj hd => ?_, F.inn.cov⟩, F.g, F', fun j hj => ?_⟩, t⟩
  · by_cases q : b = a
    · exact ⟨ws, n, q ▸ e⟩
    · obtain ⟨vs', n', e'⟩ := F.inn.nl b hb
      exact ⟨vs', n', (hs.2 b q).trans e'⟩
  · rcases vg_vput _ _ _ _ _ hd with ⟨rfl, rfl⟩ | ⟨hji, hd⟩
    · obtain rfl := h2.uniq hj
      exact ⟨_, rd _ _ h3, .inr ⟨a, ws, n, es, rfl, rfl, e, hl'⟩, fun q => absurd rfl q⟩
    · obtain ⟨v, r, _, q2⟩ := F.inn.rd j z d hj hd
      have q := (q2 (fun x => hji (Option.some.inj x).symm)).mv mv
      exact ⟨v, rd _ _ r, q.r, fun _ => q⟩
  · cases hj
    refine ⟨⟨h1, h1'⟩, y, ws, n, h2, rd _ _ h3, e, fun d hd => ?_⟩
    rcases vg_vput _ _ _ _ _ hd with ⟨_, rfl⟩ | ⟨q, _⟩
    · exact ⟨es, rfl, hl'⟩
    · exact absurd rfl q

/-! ### the private list: one more item, another item -/
noncomputable def appO (i : Nat) (f : Sto → Option PyData) (ρ : Sto) : Option Out := match f ρ with
  | some d => match vg ρ i with
    | some (.list ds) => bif szOk ds.length then some (.next (vput ρ i (.list (ds ++ [d])))) else none
    | _ => none
  | none => none
theorem ExS.app {i : Nat} {x : Str} {p apos cp ep : Pos} {e : Expr} {f : Sto → Option PyData} (he : Ev B sc names lev (some i) e f) (hi : At names i x)
    (hfew : ∀ X : EX, ((backTo cp (starEach [e] (X.env sc))).all (fun x => !x.1) && (backToKw cp (keywordEach [] (X.env sc))).all (fun x => x.1.isSome) && decide (([e] : List Expr).length + ([] : List Keyword).length + (if ([] : List Keyword).isEmpty then 0 else 1) < 30)) = true := by intro _; rfl)
    (hline : (apos.endLine == cp.line) = true := by rfl) (htrees : ∀ X : EX, backTo cp (starEach [e] (X.env sc)) = [(false, eval e (X.env sc))] := by intro _; rfl)
    (hint : ∀ X : EX, interactive (X.env sc) = false := by intro _; rfl) (hs : ∀ X : EX, swapsWith (.Call (.Attribute (.Name x p) "append" apos) [e] [] cp) none ep.line (X.env sc) = pure false := by intro _; rfl)
    (hb : ∀ X : EX, attributeBase (.Name x p) "append" (X.env sc) (eval (.Name x p) (X.env sc)) = eval (.Name x p) (X.env sc) := by intro _; rfl)
    (hk : sc.kind = .function := by rfl) (hd : (x == ("__debug__" : Str)) = false := by decide) :
    ExS B sc names lev (some i) (.Expr (.Call (.Attribute (.Name x p) "append" apos) [e] [] cp) ep) (appO i f) (some i) :=
  fun X A h₀ N₀ a ρ out s E Q R F hf pq => by
    unfold appO at hf
    split at hf
    · rename_i d hd'
      split at hf
      · rename_i ds hds
        obtain ⟨q, rfl⟩ := cond_some hf
        obtain ⟨h1, y, vs, n, h2, h3, h4, h5⟩ := F.own i rfl
        obtain rfl := hi.uniq h2
        obtain ⟨ds', e', hl⟩ := h5 _ hds
        cases e'
        refine wpAny_Expr (wpAny_Call_append (hb X) (hfew X) hline (htrees X) (name_rd hk h3 hd ⟨a, vs.toArray, rfl, ⟨_, n, h4, rfl, rfl, rfl⟩, ?_⟩)) (hint X) (hs X)
        refine he X A _ ρ d s _ _ R F.inn hd' fun v h' tk k ev => ?_
        have hz : vs.length ≤ 1000 := by rw [hl.length]; exact Nat.le_of_ble_eq_true q
        refine append_pl (s := { s with heap := h', toks := tk }) (k _ _ h4) hz fun h'' n' e1 hs' => ?_
        obtain ⟨F2, t2⟩ := FSt.chg (tk := tk) (F.kp k) hs' e1 ((hl.kp k).append (.cons ev .nil))
        exact pq h'' tk a F2 ((Tr.kp k).trans t2)
      · cases hf
    · cases hf
noncomputable def setO (i : Nat) (f g : Sto → Option PyData) (ρ : Sto) : Option Out := match f ρ with
  | some d => match vg ρ i with
    | some (.list ds) => match g ρ with
      | some (.int (.ofNat k)) => bif Nat.blt k ds.length && szOk k then some (.next (vput ρ i (.list (ds.set k d)))) else none
      | _ => none
    | _ => none
  | none => none
theorem ExS.set {i : Nat} {x : Str} {p p' pos : Pos} {e j : Expr} {f g : Sto → Option PyData} (he : Ev B sc names lev (some i) e f) (hj : Ev B sc names lev (some i) j g) (hi : At names i x)
    (hs : ∀ X : EX, swapsWith e (some (.Subscript (.Name x p) j p')) pos.line (X.env sc) = pure false := by intro _; rfl)
    (hk : sc.kind = .function := by rfl) (hd : (x == ("__debug__" : Str)) = false := by decide) :
    ExS B sc names lev (some i) (.Assign [.Subscript (.Name x p) j p'] e pos) (setO i f g) (some i) :=
  fun X A h₀ N₀ a ρ out s E Q R F hf pq => by
    unfold setO at hf
    split at hf
    · rename_i d hd'
      split at hf
      · rename_i ds hds
        split at hf
        · rename_i k hkk
          obtain ⟨q, rfl⟩ := cond_some hf
          rw [Bool.and_eq_true] at q
          obtain ⟨h1, y, vs, n, h2, h3, h4, h5⟩ := F.own i rfl
          obtain rfl := hi.uniq h2
          obtain ⟨ds', e', hl⟩ := h5 _ hds
          cases e'
          refine wpAny_Assign_Subscript (he X A _ ρ d s _ _ R F.inn hd' fun v h' tk k1 ev => ?_) (hs X)
          refine name_rd hk (h3.kp k1) hd ?_
          refine hj X A _ ρ _ _ _ _ R (F.inn.kp k1) hkk fun vi h'' tk2 k2 ei => ?_
          cases ei
          have hlt : k < vs.length := by rw [hl.length]; exact Nat.le_of_ble_eq_true q.1
          have kk := k1.trans k2
          refine setItem_pl (s := { s with heap := h'', toks := tk2 }) rfl (kk _ _ h4) hlt (Nat.le_of_ble_eq_true q.2) fun h3' n' e1 hs' => ?_
          obtain ⟨F2, t2⟩ := FSt.chg (tk := tk2) (F.kp kk) hs' e1 ((hl.kp kk).set k (ev.kp k2))
          exact pq h3' tk2 a F2 ((Tr.kp kk).trans t2)
        · cases hf
      · cases hf
    · cases hf

/-! ### a value dropped, a name lessened -/
noncomputable def dropO (f : Sto → Option PyData) (ρ : Sto) : Option Out := match f ρ with
  | some _ => some (.next ρ)
  | none => none
theorem ExS.drop {e : Expr} {pos : Pos} {f : Sto → Option PyData} (he : Ev B sc names lev o e f) (hint : ∀ X : EX, interactive (X.env sc) = false := by intro _; rfl)
    (hs : ∀ X : EX, swapsWith e none pos.line (X.env sc) = pure false := by intro _; rfl) : ExS B sc names lev o (.Expr e pos) (dropO f) o :=
  fun X A h₀ N₀ a ρ out s E Q R F hf p => by
    unfold dropO at hf
    split at hf
    · cases hf
      exact wpAny_Expr_any (he X A _ ρ _ s E _ R F.inn (by assumption) fun v h' tk k e' => p h' tk a (F.kp k) (Tr.kp k)) (hint X) (hs X)
    · cases hf
noncomputable def subO (i : Nat) (f : Sto → Option PyData) (ρ : Sto) : Option Out := match vg ρ i with
  | some (.int a) => match f ρ with
    | some (.int b) => some (.next (vput ρ i (.int (a - b))))
    | _ => none
  | _ => none
theorem ExS.aug {i : Nat} {x : Str} {p pos : Pos} {e : Expr} {f : Sto → Option PyData} (he : Ev B sc names lev o e f) (hi : At names i x) (ho : o ≠ some i) (hn : names.Nodup) (hx : isVar sc x = true := by decide) (hk : sc.kind = .function := by rfl) :
    ExS B sc names lev o (.AugAssign (.Name x p) .Sub e pos) (subO i f) o :=
  fun X A h₀ N₀ a ρ out s E Q R F hf pq => by
    unfold subO at hf
    split at hf
    · rename_i c hc
      split at hf
      · rename_i b hb
        cases hf
        obtain ⟨v, r, e1, _⟩ := F.inn.rd i x _ hi hc
        obtain ⟨t, rfl⟩ := e1.int
        have ld : ∀ Q' : Value → Shared → Prop, Q' (.int c t) s → wpAny (model B.prog B.w) A (loadName (X.env sc) x) Q' E s := fun Q' h => by
          rcases r with ⟨p1, m, p2, p3⟩ | ⟨p1, c', p2, p3⟩
          · exact wpAny_loadName_local hk p1 p2 p3 h
          · exact wpAny_loadName_cell hk p1 p2 p3 h
        refine wpAny_AugAssign_Name (ld _ (he X A _ ρ _ s _ _ R F.inn hb fun v h' tk k e' => ?_))
        cases e'
        refine PyProof.Rows.isub_int ?_
        exact put (s := { s with heap := h', toks := tk + 1 }) (F.kp k) hi hn ho hk hx (.int _ _) fun h2 t2 F2 tr _ => pq h2 t2 a F2 ((Tr.kp k).trans tr)
      · cases hf
    · cases hf

/-! ### if, while -/
theorem ExS.ite {o' : Option Nat} {t : Expr} {b c : List Stmt} {pos : Pos} {tt : Sto → Option Bool} {f g : Sto → Option Out} (ht : EvT B sc names lev o t tt) (hb : Ex B sc names lev o b f o') (hc : Ex B sc names lev o c g o') :
    ExS B sc names lev o (.If t b c pos) (iteD tt f g) o' :=
  fun X A h₀ N₀ a ρ out s E Q R F hf p => by
    unfold iteD at hf
    split at hf
    · refine wpAny_If (ht X A _ ρ true s E _ R F.inn (by assumption) fun h1 t1 k1 => ?_)
      rw [if_pos rfl]
      exact hb X A h₀ N₀ a ρ out _ E Q R (F.kp k1) hf (p.after (Tr.kp k1))
    · refine wpAny_If (ht X A _ ρ false s E _ R F.inn (by assumption) fun h1 t1 k1 => ?_)
      rw [if_neg Bool.false_ne_true]
      exact hc X A h₀ N₀ a ρ out _ E Q R (F.kp k1) hf (p.after (Tr.kp k1))
    · cases hf
noncomputable def whileO (t : Sto → Option Bool) (f : Sto → Option Out) : Nat → Sto → Option Out
  | 0, _ => none
  | n + 1, ρ => match t ρ with
    | some true => match f ρ with
      | some (.next ρ') => whileO t f n ρ'
      | some (.ret d) => some (.ret d)
      | none => none
    | some false => some (.next ρ)
    | none => none
theorem shared_eta (s : Shared) : s = { s with heap := s.heap, toks := s.toks } := rfl
theorem ExS.while {t : Expr} {b : List Stmt} {pos : Pos} {tt : Sto → Option Bool} {f : Sto → Option Out} (fuel : Nat) (ht : EvT B sc names lev o t tt) (hb : Ex B sc names lev o b f o) : ExS B sc names lev o (.While t b [] pos) (whileO tt f fuel) o :=
  fun X A h₀ N₀ a ρ out s E Q R F hf p => by
    refine wpAny_While ?_
    refine codeAny_whileLoop (fun n s' => ∃ h' tk a' ρ', s' = { s with heap := h', toks := tk } ∧ FSt B (X.env sc) names h₀ N₀ o a' ρ' s' ∧ Tr (X.env sc) (NN N₀ o a) (NN N₀ o a') s.heap h' ∧ whileO tt f n ρ' = some out) ?_ fuel ⟨s.heap, s.toks, a, ρ, rfl, F, Tr.refl, hf⟩
    rintro n s' ⟨h', tk, a', ρ', rfl, F', tr, hw⟩
    cases n with
    | zero => cases hw
    | succ n =>
      unfold whileO at hw
      split at hw
      · refine ht X A _ ρ' true _ _ _ R F'.inn (by assumption) fun h1 t1 k1 => ?_
        rw [if_pos rfl]
        have F1 := F'.kp (tk := t1) k1
        have tr1 := tr.trans (Tr.kp (N := NN N₀ o a') k1)
        split at hw
        · rename_i ρ2 hρ2
          refine hb X A h₀ N₀ a' ρ' (.next ρ2) _ _ _ R F1 hρ2 ?_
          intro h2 t2 a2 F2 tr2
          exact ⟨n, Nat.lt_succ_self _, h2, t2, a2, _, rfl, F2, tr1.trans tr2, hw⟩
        · rename_i d2 hd2
          cases hw
          refine hb X A h₀ N₀ a' ρ' (.ret d2) _ _ _ R F1 hd2 ?_
          intro v h2 t2 k e
          exact p v h2 t2 k e
        · cases hw
      · cases hw
        refine ht X A _ ρ' false _ _ _ R F'.inn (by assumption) fun h1 t1 k1 => ?_
        rw [if_neg Bool.false_ne_true]
        exact wpAny_execs_nil (p h1 t1 a' (F'.kp k1) (tr.trans (Tr.kp k1)))
      · cases hw
end
end Mine

namespace Mine
open PySem PySem.W PySem.Spec PySem.Calls PyProof.Rows

section
variable {B : Base} {sc : Scope} {names : List Str} {lev : Nat} {o : Option Nat}

/-- iterators move; nothing else sees them -/
theorem FSt.wr {env : Env} {h₀ : Heap} {N₀ : Addr → Prop} {a : Addr} {ρ : Sto} {s : Shared} {h' : Heap} {tk : Nat} {wr : List Addr} (F : FSt B env names h₀ N₀ o a ρ s) (k : ∀ b ob, b ∉ wr → s.heap.get? b = some ob → h'.get? b = some ob)
    (hw : ∀ b ∈ wr, ∃ ob vs, s.heap.get? b = some ob ∧ ob.data = .fields vs) (h0 : ∀ b ∈ wr, h₀.get? b = none) : FSt B env names h₀ N₀ o a ρ { s with heap := h', toks := tk } := by
  have off : ∀ b ob, s.heap.get? b = some ob → (∀ vs, ob.data ≠ .fields vs) → h'.get? b = some ob := fun b ob e hd => k b ob (fun q => by
    obtain ⟨ob', vs, e1, e2⟩ := hw b q
    rw [e] at e1; cases e1
    exact hd vs e2) e
  have mvN : ∀ N : Addr → Prop, Mv N N s.heap h' := fun N => ⟨fun b vs n e hn => ⟨off b _ e (fun _ q => by cases q), hn⟩, fun b vs n e => off b _ e (fun _ q => by cases q)⟩
  have lk : Lk s.heap h' := fun b vs n e => off b _ e (fun _ q => by cases q)
  have ns : ∀ b m, s.heap.Ns b m → h'.Ns b m := fun b m x => let ⟨ob, es, ep, e1, e2, e3⟩ := x; ⟨ob, es, ep, off b ob e1 (fun _ q => by rw [e2] at q; cases q), e2, e3⟩
  have cl : ∀ c v, s.heap.IsCell c v → h'.IsCell c v := fun c v x => let ⟨ob, e1, e2⟩ := x; ⟨ob, off c ob e1 (fun _ q => by rw [e2] at q; cases q), e2⟩
  have rd : ∀ y v, Rd env s.heap y v → Rd env h' y v := fun y v r => by
    rcases r with ⟨p, m', q, r⟩ | ⟨p, c, q, r⟩
    · exact .inl ⟨p, m', ns _ _ q, r⟩
    · exact .inr ⟨p, c, q, cl _ _ r⟩
  have F' : Fm env h₀ h' := ⟨let ⟨m, e⟩ := F.fm.ns; ⟨m, ns _ _ e⟩, fun x c e => let ⟨v, q⟩ := F.fm.cell x c e; ⟨v, cl _ _ q⟩, F.fm.apart, F.fm.cov, fun b ob e => k b ob (fun q => by rw [h0 b q] at e; cases e) (F.fm.keep b ob e), F.fm.l0, F.fm.c0⟩
  refine ⟨⟨F.g.kp F'.keep, fun b hb => let ⟨vs, n, e⟩ := F.inn.nl b hb; ⟨vs, n, lk _ _ _ e⟩, fun i y d hi hd => ?_, F.inn.cov⟩, F.g, F', fun i hi => ?_⟩
  · obtain ⟨v, r, q1, q2⟩ := F.inn.rd i y d hi hd
    refine ⟨v, rd _ _ r, ?_, fun q => (q2 q).mv (mvN _)⟩
    rcases q1 with q1 | ⟨b, vs, n, ds, c1, c2, c3, c4⟩
    · exact .inl (q1.mv (mvN _))
    · exact .inr ⟨b, vs, n, ds, c1, c2, lk b vs n c3, c4.mv (mvN _)⟩
  · obtain ⟨h1, y, vs, n, h2, h3, h4, h5⟩ := F.own i hi
    exact ⟨h1, y, vs, n, h2, rd _ _ h3, lk _ _ _ h4, fun d hd => let ⟨ds, e, q⟩ := h5 d hd; ⟨ds, e, q.mv (mvN _)⟩⟩
theorem Tr.wr {env : Env} {N N' : Addr → Prop} {h₁ h h' : Heap} {wr : List Addr} (t : Tr env N N' h₁ h) (k : ∀ b ob, b ∉ wr → h.get? b = some ob → h'.get? b = some ob) (h0 : ∀ b ∈ wr, h₁.get? b = none) : Tr env N N' h₁ h' where
  kf := fun b ob e hL hc hn => k b ob (fun q => by rw [h0 b q] at e; cases e) (t.kf b ob e hL hc hn)
  nn := t.nn
  up := fun b ob e => by
    obtain ⟨o', e'⟩ := t.up b ob e
    exact ⟨o', k b o' (fun q => by rw [h0 b q] at e; cases e) e'⟩

/-- a thing that an iterator stands on is no frame, no cell, no private list -/
structure Stand (env : Env) (N : Addr → Prop) (h : Heap) (I : Addr) (fp wr : List Addr) (n : Nat) (St : Nat → Heap → Prop) : Prop where
  ex : ∀ i h, St i h → ∀ b ∈ fp, ∃ o, h.get? b = some o
  fl : ∀ i h, St i h → ∀ b ∈ wr, ∃ ob vs, h.get? b = some ob ∧ ob.data = .fields vs
  fp : ∀ b ∈ fp, b ∉ wr → (∃ o, h.get? b = some o) ∧ b ≠ env.locals ∧ (∀ x, env.cells.lookup x ≠ some b) ∧ ¬ N b
  wr : ∀ b ∈ wr, h.get? b = none

theorem Stand.off {X : EX} {h₀ : Heap} {N₀ : Addr → Prop} {a a' : Addr} {ρ : Sto} {s s' : Shared} {I : Addr} {fp wr : List Addr} {n : Nat} {St : Nat → Heap → Prop} (Z : Stand (X.env sc) (NN N₀ o a) s.heap I fp wr n St)
    (F : FSt B (X.env sc) names h₀ N₀ o a' ρ s') (t : Tr (X.env sc) (NN N₀ o a) (NN N₀ o a') s.heap s'.heap) {i : Nat} (hst : St i s'.heap) : ∀ b ∈ fp, b ≠ (X.env sc).locals ∧ (∀ x, (X.env sc).cells.lookup x ≠ some b) ∧ ¬ NN N₀ o a' b := by
  intro b hb
  by_cases hw : b ∈ wr
  · obtain ⟨ob, vs, e1, e2⟩ := Z.fl i _ hst b hw
    refine ⟨fun q => ?_, fun x q => ?_, fun q => ?_⟩
    · obtain ⟨m, ob', es, ep, f1, f2, _⟩ := F.fm.ns
      rw [← q, e1] at f1; cases f1; rw [e2] at f2; cases f2
    · obtain ⟨v, ob', f1, f2⟩ := F.fm.cell x b q
      rw [e1] at f1; cases f1; rw [e2] at f2; cases f2
    · obtain ⟨ws, n, f1⟩ := F.inn.nl b q
      rw [e1] at f1; cases f1; cases e2
  · obtain ⟨⟨ob, e⟩, c1, c2, c3⟩ := Z.fp b hb hw
    refine ⟨c1, c2, fun q => (t.nn b q).elim c3 fun q => by rw [e] at q; cases q⟩

theorem Stand.go {X : EX} {h₀ : Heap} {N₀ : Addr → Prop} {a a' a'' : Addr} {ρ : Sto} {s s' : Shared} {h'' : Heap} {A : Around} {I : Addr} {fp wr : List Addr} {n : Nat} {P : Nat → Value → Prop} {St : Nat → Heap → Prop} (Z : Stand (X.env sc) (NN N₀ o a) s.heap I fp wr n St)
    (W : Walks B.prog B.w A I fp wr n P St) (F : FSt B (X.env sc) names h₀ N₀ o a' ρ s') (t : Tr (X.env sc) (NN N₀ o a) (NN N₀ o a') s.heap s'.heap) {i : Nat} (hst : St i s'.heap) (t2 : Tr (X.env sc) (NN N₀ o a') (NN N₀ o a'') s'.heap h'') : St i h'' :=
  W.frame i _ _ hst fun b hb ob e => by
    obtain ⟨c1, c2, c3⟩ := Z.off F t hst b hb
    exact t2.kf b ob e c1 c2 c3

noncomputable def forO (ix : Nat) (f : Sto → Option Out) : List PyData → Sto → Option Out
  | [], ρ => some (.next ρ)
  | d :: ds, ρ => match f (vput ρ ix d) with
    | some (.next ρ') => forO ix f ds ρ'
    | some (.ret r) => some (.ret r)
    | none => none

theorem for_core {X : EX} {A : Around} {h₀ : Heap} {N₀ : Addr → Prop} {a : Addr} {ρ : Sto} {out : Out} {s : Shared} {E : Value → Shared → Prop} {Q : Flow → Shared → Prop} {I : Addr} {fp wr : List Addr} {n : Nat} {P : Nat → Value → Prop} {St : Nat → Heap → Prop} {h2 : Heap} {tk2 : Nat} {ds : List PyData}
    {ix : Nat} {x : Str} {px : Pos} {body : List Stmt} {f : Sto → Option Out}
    (W : Walks B.prog B.w A I fp wr n P St) (R : Room A lev) (F : FSt B (X.env sc) names h₀ N₀ o a ρ s) (kb : Kp s.heap h2) (Z : Stand (X.env sc) (NN N₀ o a) s.heap I fp wr n St) (hst : St 0 h2)
    (hP : ∀ i v N' h', P i v → Mv (NN N₀ o a) N' s.heap h' → ∃ d, ds[i]? = some d ∧ Enc N' h' v d) (hlen : n = ds.length)
    (hb : Ex B sc names lev o body f o) (hi : At names ix x) (ho : o ≠ some ix) (hn : names.Nodup) (hk : sc.kind = .function) (hx : isVar sc x = true)
    (hf : forO ix f ds ρ = some out) (p : Post B (X.env sc) names h₀ N₀ o o a s Q out) :
    codeAny (model B.prog B.w) A (.forLoop (.Name x px) (.ref I) body [] (X.env sc)) (fun r s' => match r with | .ok f => Q f s' | .error e => cameBackBy (model B.prog B.w) A (X.env sc) E e s') { s with heap := h2, toks := tk2 } := by
  subst hlen
  have h0 : ∀ b ∈ wr, h₀.get? b = none := fun b hb => kp_none F.fm.keep (Z.wr b hb)
  refine codeAny_forLoop (fun k s' => ∃ h' tk a' ρ' j, s' = { s with heap := h', toks := tk } ∧ FSt B (X.env sc) names h₀ N₀ o a' ρ' { s with heap := h', toks := tk } ∧ Tr (X.env sc) (NN N₀ o a) (NN N₀ o a') s.heap h' ∧ St j h' ∧ j ≤ ds.length ∧ k = ds.length + 1 - j ∧ forO ix f (ds.drop j) ρ' = some out) ?_ (ds.length + 1)
    ⟨h2, tk2, a, ρ, 0, rfl, F.kp kb, Tr.kp kb, hst, Nat.zero_le _, rfl, hf⟩
  rintro k s' ⟨h', tk, a', ρ', j, rfl, F', tr, hst', hj, rfl, hw⟩
  by_cases hlt : j < ds.length
  · refine W.item j _ _ _ hlt hst' fun v h1 tk1 hPv hst1 hk1 => ?_
    have F1 := F'.wr (tk := tk1) hk1 (Z.fl j _ hst') h0
    have tr1 := tr.wr hk1 Z.wr
    obtain ⟨d, hd, hv⟩ := hP j v _ _ hPv (F.fm.mv tr1 F.inn.nl)
    refine wpAny_assign_Name (put F1 hi hn ho hk hx hv fun h3 t3 F3 tr3 _ => ?_)
    have hst3 : St (j + 1) h3 := Z.go W F1 tr1 hst1 tr3
    rw [List.drop_eq_getElem_cons hlt] at hw
    have hde : ds[j] = d := by rw [List.getElem?_eq_getElem hlt] at hd; exact Option.some.inj hd
    rw [hde] at hw
    unfold forO at hw
    split at hw
    · rename_i ρ4 hρ4
      refine hb X A h₀ N₀ a' _ (.next ρ4) _ _ _ R F3 hρ4 ?_
      intro h4 t4 a4 F4 tr4
      exact ⟨ds.length + 1 - (j + 1), by omega, h4, t4, a4, ρ4, j + 1, rfl, F4, (tr1.trans tr3).trans tr4, Z.go W F3 (tr1.trans tr3) hst3 tr4, hlt, rfl, hw⟩
    · rename_i r hr
      cases hw
      refine hb X A h₀ N₀ a' _ (.ret r) _ _ _ R F3 hr ?_
      intro w h4 t4 k4 e4
      exact p w h4 t4 k4 e4
    · cases hw
  · have hjn : j = ds.length := by omega
    subst hjn
    rw [List.drop_length] at hw
    cases hw
    refine W.done _ _ _ hst' fun h1 tk1 hk1 => wpAny_execs_nil ?_
    exact p h1 tk1 a' (F'.wr hk1 (Z.fl _ _ hst') h0) (tr.wr hk1 Z.wr)

/-! ### what is gone through -/
structure Stn (N : Addr → Prop) (h : Heap) (fp wr : List Addr) (St : Nat → Heap → Prop) : Prop where
  ex : ∀ i h, St i h → ∀ b ∈ fp, ∃ o, h.get? b = some o
  fl : ∀ i h, St i h → ∀ b ∈ wr, ∃ ob vs, h.get? b = some ob ∧ ob.data = .fields vs
  fp : ∀ b ∈ fp, b ∉ wr → ∃ vs n, h.get? b = some (lstO vs n) ∧ ¬ N b
  wr : ∀ b ∈ wr, h.get? b = none
theorem Stn.stand {env : Env} {h₀ h : Heap} {N : Addr → Prop} {fp wr : List Addr} {St : Nat → Heap → Prop} (z : Stn N h fp wr St) (F : Fm env h₀ h) (I : Addr) (n : Nat) : Stand env N h I fp wr n St where
  ex := z.ex
  fl := z.fl
  wr := z.wr
  fp := fun b hb hw => by
    obtain ⟨vs, k, e, hn⟩ := z.fp b hb hw
    refine ⟨⟨_, e⟩, fun q => ?_, fun x q => ?_, hn⟩
    · obtain ⟨m, ob', es, ep, f1, f2, _⟩ := F.ns
      rw [← q, e] at f1; cases f1; cases f2
    · obtain ⟨v, ob', f1, f2⟩ := F.cell x b q
      rw [e] at f1; cases f1; cases f2

theorem walks_len {prog : Program} {w : World} {A : Around} {I : Addr} {fp wr : List Addr} {n n' : Nat} {P : Nat → Value → Prop} {St : Nat → Heap → Prop} (h : n = n') (W : Walks prog w A I fp wr n P St) : Walks prog w A I fp wr n' P St := by subst h; exact W

noncomputable def EvI (B : Base) (sc : Scope) (names : List Str) (lev : Nat) (o : Option Nat) (iter : Expr) (g : Sto → Option (List PyData)) : Prop :=
  ∀ (X : EX) (A : Around) (N : Addr → Prop) (ρ : Sto) (ds : List PyData) (s : Shared) (E : Value → Shared → Prop) (K : Value → Shared → Prop),
    Room A lev → In B (X.env sc) names o N ρ s → g ρ = some ds → 
    (∀ I fp wr P St h1 h2 t2, Kp s.heap h1 → Kp h1 h2 → Walks B.prog B.w A I fp wr ds.length P St → Stn N h1 fp wr St → St 0 h2 →
      (∀ i v N' h', P i v → Mv N N' h1 h' → ∃ d, ds[i]? = some d ∧ Enc N' h' v d) → ds.length ≤ 1000 → K (.ref I) { s with heap := h2, toks := t2 }) →
    wpAny (model B.prog B.w) A (eval iter (X.env sc)) (fun x s₁ => wpAny (model B.prog B.w) A (pyIter x) K E s₁) E s

noncomputable def asL : PyData → Option (List PyData)
  | .list ds => bif szOk ds.length then some ds else none
  | _ => none
theorem EvI.lst {iter : Expr} {g : Sto → Option PyData} (he : Ev B sc names lev o iter g) : EvI B sc names lev o iter (o1 g asL) :=
  fun X A N ρ ds s E K R I hf h => by
    obtain ⟨d, hd, hk⟩ := o1_some hf
    unfold asL at hk
    split at hk
    · obtain ⟨q, rfl⟩ := cond_some hk
      refine he X A _ ρ _ s _ _ R I hd fun v h1 t1 k1 e1 => ?_
      cases e1 with
      | list hnl el rl =>
        rename_i ds l vs n
        have hI : h1.get? h1.objs.size = none := get_size _
        refine wpAny_pyIter_list (s := { s with heap := h1, toks := t1 }) (isList_of el) ?_
        have W := Walks.list (prog := B.prog) (w := B.w) R.hh h1.objs.size l (Nat.ne_of_lt (Heap.lt_size el)) vs.toArray
        have hsz : vs.toArray.size = ds.length := by rw [List.size_toArray, rl.length]
        refine h _ _ _ _ _ h1 _ t1 k1 (Kp.push _ _) (walks_len hsz W) ⟨?_, ?_, ?_, ?_⟩ ⟨⟨_, Heap.get?_push_size _ rfl, rfl, rfl⟩, (isList_of el).push _⟩ ?_ (Nat.le_of_ble_eq_true q)
        · intro i h st b hb
          rcases List.mem_cons.mp hb with rfl | hb
          · obtain ⟨o, e, _⟩ := st.1; exact ⟨o, e⟩
          · rw [List.mem_singleton.mp hb]; obtain ⟨o, e, _⟩ := st.2; exact ⟨o, e⟩
        · intro i h st b hb
          rw [List.mem_singleton.mp hb]
          obtain ⟨o, e, _, e2⟩ := st.1
          exact ⟨o, _, e, e2⟩
        · intro b hb hw
          rcases List.mem_cons.mp hb with rfl | hb
          · exact absurd (List.mem_singleton.mpr rfl) hw
          · rw [List.mem_singleton.mp hb]; exact ⟨_, _, el, hnl⟩
        · intro b hb; rw [List.mem_singleton.mp hb]; exact hI
        · intro i w N' h' hw mv
          obtain ⟨d, hd⟩ : ∃ d, ds[i]? = some d := by
            have : i < vs.toArray.size := (Array.getElem?_eq_some_iff.mp hw).1
            rw [List.size_toArray, rl.length] at this
            exact ⟨_, List.getElem?_eq_getElem this⟩
          obtain ⟨w', hw', xw⟩ := (rl.mv mv).get hd
          have : w' = w := by rw [List.getElem?_toArray] at hw; rw [hw'] at hw; exact Option.some.inj hw
          exact ⟨d, hd, this ▸ xw⟩
    · cases hk

noncomputable def rng : Int → Nat → List PyData
  | _, 0 => []
  | a, n + 1 => .int a :: rng (a + 1) n
theorem rng_len : ∀ (a : Int) (n : Nat), (rng a n).length = n
  | _, 0 => rfl
  | a, n + 1 => by rw [rng, List.length_cons, rng_len]
theorem rng_get : ∀ (a : Int) (n i : Nat), i < n → (rng a n)[i]? = some (.int (a + i))
  | _, 0, _, h => absurd h (Nat.not_lt_zero _)
  | a, n + 1, 0, _ => by simp [rng]
  | a, n + 1, i + 1, h => by
    have := rng_get (a + 1) n i (by omega)
    rw [rng, List.getElem?_cons_succ, this]
    congr 2
    push_cast
    omega
theorem range_core {A : Around} {N : Addr → Prop} {s : Shared} {E K : Value → Shared → Prop} {r : Addr} {a b : Int} {t u v : Tok} (hh : A.handled = none) (hr : IsRange s.heap r a b 1 t u v) (ha : a.natAbs ≤ 1000) (hb : b.natAbs ≤ 1000) (hz : (b - a).toNat ≤ 1000)
    (h : ∀ I fp wr P St h1 h2 t2, Kp s.heap h1 → Kp h1 h2 → Walks B.prog B.w A I fp wr (rng a (b - a).toNat).length P St → Stn N h1 fp wr St → St 0 h2 →
      (∀ i v N' h', P i v → Mv N N' h1 h' → ∃ d, (rng a (b - a).toNat)[i]? = some d ∧ Enc N' h' v d) → (rng a (b - a).toNat).length ≤ 1000 → K (.ref I) { s with heap := h2, toks := t2 }) : wpAny (model B.prog B.w) A (pyIter (.ref r)) K E s := by
  have hsm : Builtin.Range.small a b 1 = true := small_one (by omega) (by omega) (by omega) (by omega)
  refine wpAny_pyIter_range hr hsm ?_
  have hn : Builtin.Range.rangeSize a b 1 = (((b - a).toNat : Nat) : Int) := by rw [rangeSize_one]; split <;> omega
  have W := (Walks.range (prog := B.prog) (w := B.w) hh s.heap.objs.size a 1 (b - a).toNat).bound
  rw [rng_len] at h
  refine h _ _ _ _ _ s.heap _ s.toks (Kp.refl _) (Kp.push _ _) W ⟨?_, ?_, ?_, ?_⟩ ?_ ?_ hz
  · intro i h st b hb; rw [List.mem_singleton.mp hb]; exact ⟨_, st⟩
  · intro i h st b hb; rw [List.mem_singleton.mp hb]; exact ⟨_, _, st, rfl⟩
  · intro b hb hw; exact absurd hb hw
  · intro b hb; rw [List.mem_singleton.mp hb]; exact get_size _
  · show IsRangeIter _ _ _ _ _
    rw [hn]; simpa using Heap.get?_push_size _ rfl
  · rintro i w N' h' ⟨hi, t, rfl⟩ _
    refine ⟨_, rng_get a _ i hi, ?_⟩
    rw [Int.mul_one]
    exact .int _ _
noncomputable def rngD1 : PyData → Option (List PyData)
  | .int b => bif szOk b.natAbs then some (rng 0 (b - 0).toNat) else none
  | _ => none
theorem EvI.rng1 {e : Expr} {p pos : Pos} {f : Sto → Option PyData} (hv : EvR B sc names lev o e f)
    (he : ∀ env, starEach [e] env = (false, eval e env) :: starEach [] env := by intro _; rfl) (hk : sc.kind = .function := by rfl) (hx : sc.names.lookup ("range" : Str) = some .globalImplicit := by rfl) : EvI B sc names lev o (.Call (.Name "range" p) [e] [] pos) (o1 f rngD1) :=
  fun X A N ρ ds s E K R I hf h => by
    obtain ⟨a, ha, hk'⟩ := o1_some hf
    unfold rngD1 at hk'
    split at hk'
    · obtain ⟨q, rfl⟩ := cond_some hk'
      have hq := Nat.le_of_ble_eq_true q
      refine typ1 (name := "range") (id := "range") (by simp [bltOf]) hv R I ha he hk hx (by decide) fun v h1 t1 k1 e1 => ?_
      obtain ⟨t, rfl⟩ := e1.int
      refine call_range_1 ?_
      refine range_core (N := N) R.hh (IsRange.new _ _ _ _ _ _ _) (by decide) hq (by omega) fun I fp wr P St h2 h3 t3 k2 k3 W Z st hP hz => ?_
      exact h I fp wr P St h2 h3 t3 ((k1.trans (Kp.push _ _)).trans k2) k3 W Z st hP hz
    · cases hk'
noncomputable def rngD2 : PyData → PyData → Option (List PyData)
  | .int a, .int b => bif szOk a.natAbs && (szOk b.natAbs && szOk (b - a).toNat) then some (rng a (b - a).toNat) else none
  | _, _ => none
noncomputable def bind2l (f g : Sto → Option PyData) (k : PyData → PyData → Option (List PyData)) (ρ : Sto) : Option (List PyData) := match f ρ with
  | some a => match g ρ with
    | some b => k a b
    | none => none
  | none => none
theorem EvI.rng2 {e e₂ : Expr} {p pos : Pos} {f g : Sto → Option PyData} (hv : EvR B sc names lev o e f) (hv₂ : EvR B sc names lev o e₂ g)
    (he : ∀ env, starEach [e, e₂] env = (false, eval e env) :: starEach [e₂] env := by intro _; rfl) (he₂ : ∀ env, starEach [e₂] env = (false, eval e₂ env) :: starEach [] env := by intro _; rfl)
    (hk : sc.kind = .function := by rfl) (hx : sc.names.lookup ("range" : Str) = some .globalImplicit := by rfl) : EvI B sc names lev o (.Call (.Name "range" p) [e, e₂] [] pos) (bind2l f g rngD2) :=
  fun X A N ρ ds s E K R I hf h => by
    unfold bind2l at hf
    split at hf
    · split at hf
      · unfold rngD2 at hf
        split at hf
        · obtain ⟨q, rfl⟩ := cond_some hf
          rename_i a b _ _ _ _
          rw [Bool.and_eq_true, Bool.and_eq_true] at q
          refine Call_ (blt I.g0 (x := "range") (v := .type "range") (by simp [bltOf]) hk hx (by decide) ?_)
          refine PyProof.Rows.callWith_type1 ?_ (he _) (by rw [he₂]; rfl)
          refine wpAny_items_cons (hv X A N ρ _ s E _ R I (by assumption) fun v h1 t1 k1 e1 => wpAny_items_cons (hv₂ X A N ρ _ _ E _ R (I.kp k1) (by assumption) fun w h2 t2 k2 e2 => wpAny_items_nil ?_) (he₂ _)) (he _)
          obtain ⟨t, rfl⟩ := e1.int
          obtain ⟨u, rfl⟩ := e2.int
          refine call_range_2 ?_
          refine range_core (N := N) R.hh (IsRange.new _ _ _ _ _ _ _) (Nat.le_of_ble_eq_true q.1) (Nat.le_of_ble_eq_true q.2.1) (Nat.le_of_ble_eq_true q.2.2) fun I fp wr P St h3 h4 t3 k3 k4 W Z st hP hz => ?_
          exact h I fp wr P St h3 h4 t3 (((k1.trans k2).trans (Kp.push _ _)).trans k3) k4 W Z st hP hz
        · cases hf
      · cases hf
    · cases hf
noncomputable def revD : PyData → Option (List PyData)
  | .list ds => bif szOk ds.length then some ds.reverse else none
  | _ => none
theorem EvI.rev {e : Expr} {p pos : Pos} {f : Sto → Option PyData} (hv : Ev B sc names lev o e f)
    (he : ∀ env, starEach [e] env = (false, eval e env) :: starEach [] env := by intro _; rfl) (hk : sc.kind = .function := by rfl) (hx : sc.names.lookup ("reversed" : Str) = some .globalImplicit := by rfl) : EvI B sc names lev o (.Call (.Name "reversed" p) [e] [] pos) (o1 f revD) :=
  fun X A N ρ ds s E K R I hf h => by
    obtain ⟨a, ha, hk'⟩ := o1_some hf
    unfold revD at hk'
    split at hk'
    · obtain ⟨q, rfl⟩ := cond_some hk'
      refine Call_ (blt I.g0 (x := "reversed") (v := .type "reversed") (by simp [bltOf]) hk hx (by decide) ?_)
      refine PyProof.Rows.callWith_type1 ?_ (he _)
      refine wpAny_items_cons (hv X A N ρ _ s E _ R I ha fun v h1 t1 k1 e1 => wpAny_items_nil ?_) (he _)
      cases e1 with
      | list hnl el rl =>
        rename_i ds l vs n
        refine call_reversed_list (s := { s with heap := h1, toks := t1 }) (isList_of el) ?_
        have W := Walks.listRev (prog := B.prog) (w := B.w) R.hh h1.objs.size l (Nat.ne_of_lt (Heap.lt_size el)) vs.toArray
        have hlen := rl.length
        have hst : (0 ≤ vs.toArray.size ∧ (h1.push (revObj l ((vs.toArray.size : Int) - 1))).IsRevIter h1.objs.size l ((vs.toArray.size : Int) - 1 - ((0 : Nat) : Int)) ∧ (h1.push (revObj l ((vs.toArray.size : Int) - 1))).IsList l vs.toArray) :=
          ⟨Nat.zero_le _, ⟨_, Heap.get?_push_size _ rfl, rfl, by simp [revObj]⟩, (isList_of el).push _⟩
        refine W.self 0 _ _ _ hst ?_
        have hsz : vs.toArray.size = ds.reverse.length := by rw [List.size_toArray, hlen, List.length_reverse]
        refine h _ _ _ _ _ h1 _ t1 k1 (Kp.push _ _) (walks_len hsz W.bound) ⟨?_, ?_, ?_, ?_⟩ hst ?_ (by rw [List.length_reverse]; exact Nat.le_of_ble_eq_true q)
        · intro i h st b hb
          rcases List.mem_cons.mp hb with rfl | hb
          · obtain ⟨o, e, _⟩ := st.2.1; exact ⟨o, e⟩
          · rw [List.mem_singleton.mp hb]; obtain ⟨o, e, _⟩ := st.2.2; exact ⟨o, e⟩
        · intro i h st b hb
          rw [List.mem_singleton.mp hb]
          obtain ⟨o, e, _, e2⟩ := st.2.1
          exact ⟨o, _, e, e2⟩
        · intro b hb hw
          rcases List.mem_cons.mp hb with rfl | hb
          · exact absurd (List.mem_singleton.mpr rfl) hw
          · rw [List.mem_singleton.mp hb]; exact ⟨_, _, el, hnl⟩
        · intro b hb; rw [List.mem_singleton.mp hb]; exact get_size _
        · rintro i w N' h' ⟨hi, hw⟩ mv
          rw [List.size_toArray, hlen] at hi
          rw [List.getElem?_toArray, List.size_toArray, hlen] at hw
          have hd : ds.reverse[i]? = some (ds[ds.length - 1 - i]'(by omega)) := by
            rw [List.getElem?_reverse hi, List.getElem?_eq_getElem]
          refine ⟨_, hd, ?_⟩
          obtain ⟨w', hw', xw⟩ := (rl.mv mv).get (k := ds.length - 1 - i) (List.getElem?_eq_getElem (by omega))
          rw [hw'] at hw
          cases hw
          exact xw
    · cases hk'

noncomputable def forI (ix : Nat) (g : Sto → Option (List PyData)) (f : Sto → Option Out) (ρ : Sto) : Option Out := match g ρ with
  | some ds => forO ix f ds ρ
  | none => none
theorem ExS.for {ix : Nat} {x : Str} {px pos : Pos} {iter : Expr} {body : List Stmt} {g : Sto → Option (List PyData)} {f : Sto → Option Out} (he : EvI B sc names lev o iter g) (hb : Ex B sc names lev o body f o) (hi : At names ix x) (ho : o ≠ some ix) (hn : names.Nodup)
    (hx : isVar sc x = true := by decide) (hs : ∀ (X : EX) (v : Value), foldedSetIterable iter (X.env sc) v = pure v := by intro _ _; rfl) (hk : sc.kind = .function := by rfl) : ExS B sc names lev o (.For (.Name x px) iter body [] pos) (forI ix g f) o :=
  fun X A h₀ N₀ a ρ out s E Q R F hf p => by
    unfold forI at hf
    split at hf
    · rename_i ds hg
      refine wpAny_For (he X A _ ρ ds s _ _ R F.inn hg fun I fp wr P St h1 h2 t2 k1 k2 W Z st hP hz => ?_) (hs X)
      have F1 := F.kp (tk := t2) k1
      exact for_core (s := { s with heap := h1, toks := t2 }) (ds := ds) W R F1 k2 (Z.stand F1.fm I _) st hP rfl hb hi ho hn hk hx hf (p.after (Tr.kp k1))
    · cases hf
end
end Mine

namespace Mine
open PySem PySem.W PySem.Spec PySem.Calls PyProof.Rows

noncomputable def clOf (f : Str → Addr) : List (Str × NameKind) → List (Str × Addr) → List (Str × Addr)
  | [], acc => acc
  | (n, k) :: r, acc => if k == .free then clOf f r ((n, f n) :: acc) else clOf f r acc
theorem clOf_form (f : Str → Addr) : ∀ (l : List (Str × NameKind)) (acc : List (Str × Addr)), (∀ p ∈ acc, p.2 = f p.1) → ∀ p ∈ clOf f l acc, p.2 = f p.1
  | [], _, h => h
  | (n, k) :: r, acc, h => by
    unfold clOf
    split
    · exact clOf_form f r _ fun p hp => by
        rcases List.mem_cons.mp hp with rfl | hp
        · rfl
        · exact h p hp
    · exact clOf_form f r _ h
theorem clOf_acc (f : Str → Addr) : ∀ (l : List (Str × NameKind)) (acc : List (Str × Addr)), ∀ p ∈ acc, p ∈ clOf f l acc
  | [], _, _, h => h
  | (n, k) :: r, acc, p, h => by
    unfold clOf
    split
    · exact clOf_acc f r _ p (.tail _ h)
    · exact clOf_acc f r _ p h
theorem clOf_mem (f : Str → Addr) : ∀ (l : List (Str × NameKind)) (acc : List (Str × Addr)) (n : Str), (n, NameKind.free) ∈ l → (n, f n) ∈ clOf f l acc
  | (m, k) :: r, acc, n, h => by
    unfold clOf
    rcases List.mem_cons.mp h with e | h
    · cases e; exact clOf_acc f r _ _ (.head _)
    · split
      · exact clOf_mem f r _ n h
      · exact clOf_mem f r _ n h
theorem lookup_form {f : Str → Addr} : ∀ {l : List (Str × Addr)} {n : Str}, (∀ p ∈ l, p.2 = f p.1) → (∃ a, (n, a) ∈ l) → l.lookup n = some (f n)
  | [], _, _, ⟨_, h⟩ => nomatch h
  | (m, b) :: r, n, hf, ⟨a, h⟩ => by
    rw [List.lookup_cons]
    cases q : n == m with
    | true =>
      have : n = m := beq_iff_eq.mp q
      subst this
      exact congrArg some (hf _ (.head _))
    | false =>
      rcases List.mem_cons.mp h with e | h
      · cases e; rw [beq_self_eq_true] at q; cases q
      · exact lookup_form (fun p hp => hf p (.tail _ hp)) ⟨a, h⟩
theorem closureFor_cl {env : Env} (f : Str → Addr) (scope : Scope) (h : ∀ p ∈ scope.names, p.2 = .free → env.cells.lookup p.1 = some (f p.1)) : closureFor scope env = pure (clOf f scope.names []) := by
  simp only [closureFor]
  have key : ∀ (l : List (Str × NameKind)) (acc : List (Str × Addr)), (∀ p ∈ l, p.2 = .free → env.cells.lookup p.1 = some (f p.1)) →
      (forIn l acc fun x (r : List (Str × Addr)) => if (x.2 == NameKind.free) = true then (do let c ← cellOf env x.1; pure (ForInStep.yield ((x.1, c) :: r))) else pure (ForInStep.yield r) : Sem (List (Str × Addr))) = pure (clOf f l acc) := by
    intro l
    induction l with
    | nil => intro acc _; rfl
    | cons p r ih =>
      intro acc h
      obtain ⟨n, k⟩ := p
      rw [List.forIn_cons]
      unfold clOf
      by_cases hk : (k == NameKind.free) = true
      · rw [if_pos hk, if_pos hk]
        have e := h (n, k) (.head _) (beq_iff_eq.mp hk)
        have e2 : cellOf env n = pure (f n) := by unfold cellOf; rw [e]
        rw [e2]
        exact ih _ fun p hp => h p (.tail _ hp)
      · rw [if_neg hk, if_neg hk]
        exact ih _ fun p hp => h p (.tail _ hp)
  exact (congrArg (fun m : Sem (List (Str × Addr)) => m >>= fun r => pure r) (key scope.names [] h)).trans rfl

noncomputable def rlb (scope sc : Scope) : Scope := { scope with names := scope.names.map fun (n, k) => if (k == .free && sc.kind == .function && sc.names.lookup n == some .cell) then (n, .cell) else (n, k) }

section
variable {B : Base} {sc : Scope} {names : List Str} {lev : Nat} {o : Option Nat}

noncomputable def capS (is : List Nat) (ρ : Sto) : Sto := is.map (vg ρ)
theorem capS_get {names caps : List Str} {is : List Nat} (h : Ats names is caps) {ρ : Sto} {j : Nat} {y : Str} {d : PyData} (hj : At caps j y) (hd : vg (capS is ρ) j = some d) : ∃ i, i ∈ is ∧ At names i y ∧ vg ρ i = some d := by
  induction h generalizing j with
  | nil => cases hj
  | cons h1 h2 ih =>
    rename_i i x is xs
    cases hj with
    | here => exact ⟨i, .head _, h1, hd⟩
    | there hj =>
      obtain ⟨k, a, b, c⟩ := ih hj hd
      exact ⟨k, .tail _ a, b, c⟩

noncomputable def EvTs (B : Base) (sc : Scope) (names : List Str) (lev : Nat) (o : Option Nat) (ifs : List Expr) (t : Sto → Option Bool) : Prop :=
  ∀ (X : EX) (A : Around) (N : Addr → Prop) (ρ : Sto) (d : Bool) (s : Shared) (E : Value → Shared → Prop) (Q : Bool → Shared → Prop),
    Room A lev → In B (X.env sc) names o N ρ s → t ρ = some d → (∀ h' tk, Kp s.heap h' → Q d { s with heap := h', toks := tk }) →
    wpAny (model B.prog B.w) A (forIn ifs true fun c r => if r = true then do let ok ← isTrue c (X.env sc) (eval c (X.env sc)); pure (ForInStep.yield ok) else pure (ForInStep.yield r)) Q E s
theorem EvTs.nil : EvTs B sc names lev o [] (fun _ => some true) := fun X A N ρ d s E Q R I hf h => by
  cases hf
  exact wpAny_tests_nil (h s.heap s.toks (Kp.refl _))
theorem EvTs.one {e : Expr} {t : Sto → Option Bool} (ht : EvT B sc names lev o e t) : EvTs B sc names lev o [e] t := fun X A N ρ d s E Q R I hf h =>
  wpAny_tests_one (ht X A N ρ d s E Q R I hf h)

noncomputable def mapF (t : PyData → Option Bool) (f : PyData → Option PyData) : List PyData → Option (List PyData)
  | [] => some []
  | d :: ds => match t d with
    | some true => match f d with
      | some r => match mapF t f ds with
        | some rs => some (r :: rs)
        | none => none
      | none => none
    | some false => mapF t f ds
    | none => none

theorem mv_but {N : Addr → Prop} {h h' : Heap} {ch : List Addr} (k : ∀ b ob, b ∉ ch → h.get? b = some ob → h'.get? b = some ob) (hc : ∀ b ∈ ch, N b ∨ ∃ ob, h.get? b = some ob ∧ (∀ vs n, ob ≠ lstO vs n) ∧ ∀ vs n, ob ≠ tupO vs n)
    (hN : ∀ b, N b → ∃ vs n, h.get? b = some (lstO vs n)) : Mv N N h h' where
  l := fun a vs n e hn => ⟨k a _ (fun q => by
    rcases hc a q with q | ⟨ob, e1, e2, _⟩
    · exact hn q
    · rw [e] at e1; exact e2 vs n (Option.some.inj e1).symm) e, hn⟩
  t := fun a vs n e => k a _ (fun q => by
    rcases hc a q with q | ⟨ob, e1, _, e2⟩
    · obtain ⟨ws, m, e'⟩ := hN a q
      have q := congrArg Obj.cls (Option.some.inj (e.symm.trans e'))
      exact absurd (show Value.type "tuple" = Value.type "list" from q) (by decide)
    · rw [e] at e1; exact e2 vs n (Option.some.inj e1).symm) e
theorem notSeq_dict {h : Heap} {a : Addr} {m : Str → Option Value} (x : h.Ns a m) : ∃ ob, h.get? a = some ob ∧ (∀ vs n, ob ≠ lstO vs n) ∧ ∀ vs n, ob ≠ tupO vs n := by
  obtain ⟨ob, es, ep, e1, e2, _⟩ := x
  exact ⟨ob, e1, (fun vs n q => by rw [q] at e2; cases e2), (fun vs n q => by rw [q] at e2; cases e2)⟩
theorem notSeq_fields {h : Heap} {a : Addr} (x : ∃ ob vs, h.get? a = some ob ∧ ob.data = .fields vs) : ∃ ob, h.get? a = some ob ∧ (∀ vs n, ob ≠ lstO vs n) ∧ ∀ vs n, ob ≠ tupO vs n := by
  obtain ⟨ob, vs, e1, e2⟩ := x
  exact ⟨ob, e1, (fun vs n q => by rw [q] at e2; cases e2), (fun vs n q => by rw [q] at e2; cases e2)⟩

/-- the block's own frame -/
noncomputable abbrev cX (X : EX) (C : Addr) (cl : List (Str × Addr)) : EX := { L := C, cells := cl, qual := X.qual, fn := none, code := X.code, fr := X.fr }

/-- what holds of a comprehension's frame at each turn -/
theorem comp_in {X : EX} {N : Addr → Prop} {ρ : Sto} {s : Shared} {x : Str} {caps : List Str} {is : List Nat} {scope : Scope} {C D : Addr} {cl : List (Str × Addr)} {h : Heap} {tk : Nat} {m : Str → Option Value} {v : Value} {d : PyData} {ys : List Value} {n : Nat}
    (I : In B (X.env sc) names o N ρ s) (hcap : Ats names is caps) (hic : ∀ i ∈ is, o ≠ some i) (hx : (rlb scope sc).names.lookup x = some .local) (hck : ∀ y ∈ caps, (rlb scope sc).names.lookup y = some .cell) (hc0 : ∀ y ∈ caps, sc.names.lookup y = some .cell)
    (hcl : ∀ y, (rlb scope sc).names.lookup y = some .cell → ∃ c, cl.lookup y = some c) (hcc : ∀ y c, y ∈ caps → (X.env sc).cells.lookup y = some c → cl.lookup y = some c) (k : Kp s.heap h) (hD : s.heap.get? D = none) (hl : h.get? D = some (lstO ys n)) (hn : h.Ns C m) (hm : m x = some v) (hv : Enc (fun b => N b ∨ b = D) h v d) :
    In B ((cX X C cl).env (rlb scope sc)) (x :: caps) none (fun b => N b ∨ b = D) (some d :: capS is ρ) { s with heap := h, toks := tk } where
  g0 := I.g0.kp k
  nl := fun b hb => by
    rcases hb with hb | rfl
    · obtain ⟨vs, n, e⟩ := I.nl b hb
      exact ⟨vs, n, k _ _ e⟩
    · exact ⟨_, _, hl⟩
  rd := fun j y e hj he => by
    cases hj with
    | here =>
      cases he
      exact ⟨v, .inl ⟨hx, m, hn, hm⟩, hv.r, fun _ => hv⟩
    | there hj =>
      obtain ⟨i, h1, h2, h3⟩ := capS_get hcap hj he
      obtain ⟨w, r, _, q⟩ := I.rd i y e h2 h3
      have q' := (q (hic i h1)).mv (Mv.fresh k hD)
      refine ⟨w, ?_, q'.r, fun _ => q'⟩
      rcases r with ⟨a1, m', a2, a3⟩ | ⟨a1, c, a2, a3⟩
      · rw [show (X.env sc).kindOf y = some .cell from hc0 y hj.mem] at a1; cases a1
      · exact .inr ⟨hck y hj.mem, c, hcc y c hj.mem a2, a3.keeps k⟩
  cov := hcl

structure Block (sc scope : Scope) (caps : List Str) (x : Str) : Prop where
  kind : scope.kind = .function
  cell : ∀ y ∈ scope.names, y.2 ≠ .cell
  names : ∀ y ∈ scope.names, y.2 = .local → scope.names.lookup y.1 = some .local
  x : scope.names.lookup x = some .local
  free : ∀ y ∈ scope.names, y.2 = .free → sc.names.lookup y.1 = some .cell
  caps : ∀ y ∈ caps, (rlb scope sc).names.lookup y = some .cell ∧ sc.names.lookup y = some .cell ∧ (y, NameKind.free) ∈ scope.names
  cov : ∀ y, (rlb scope sc).names.lookup y = some .cell → (y, NameKind.free) ∈ scope.names

theorem Block.local {sc scope : Scope} {caps : List Str} {x : Str} (b : Block sc scope caps x) : (rlb scope sc).names.lookup x = some .local := by
  have := lookup_relabel_local (env := { scope := sc, locals := 0, globals := 0, cells := [] }) b.x
  exact this

noncomputable def clX (X : EX) (scope : Scope) : List (Str × Addr) := clOf (fun n => ((X.cells.lookup n).getD 0)) scope.names []
theorem Block.closure {sc scope : Scope} {caps : List Str} {x : Str} (b : Block sc scope caps x) {X : EX} {N : Addr → Prop} {ρ : Sto} {s : Shared} (I : In B (X.env sc) names o N ρ s) : closureFor scope (X.env sc) = pure (clX X scope) := by
  refine closureFor_cl _ scope fun p hp hf => ?_
  obtain ⟨c, hc⟩ := I.cov p.1 (b.free p hp hf)
  show X.cells.lookup p.1 = some ((X.cells.lookup p.1).getD 0)
  rw [show X.cells.lookup p.1 = some c from hc]; rfl
theorem Block.look {sc scope : Scope} {caps : List Str} {x : Str} (_b : Block sc scope caps x) {X : EX} {y : Str} (h : (y, NameKind.free) ∈ scope.names) : (clX X scope).lookup y = some ((X.cells.lookup y).getD 0) :=
  lookup_form (f := fun n => ((X.cells.lookup n).getD 0)) (clOf_form _ _ _ fun _ h => nomatch h) ⟨_, clOf_mem _ _ _ _ h⟩

theorem comp_core {X : EX} {A : Around} {N : Addr → Prop} {ρ : Sto} {s : Shared} {E : Value → Shared → Prop} {I : Addr} {fp wr : List Addr} {ds out : List PyData} {P : Nat → Value → Prop} {St : Nat → Heap → Prop} {h1 h2 : Heap} {tk2 : Nat}
    {x : Str} {px pos : Pos} {elt iter : Expr} {ifs : List Expr} {scope : Scope} {caps : List Str} {is : List Nat} {t : Sto → Option Bool} {f : Sto → Option PyData} {RR : Value → Addr → Result → Shared → Prop}
    (R : Room A lev) (I0 : In B (X.env sc) names o N ρ s) (hcap : Ats names is caps) (hic : ∀ i ∈ is, o ≠ some i) (bl : Block sc scope caps x)
    (k1 : Kp s.heap h1) (k2 : Kp h1 h2) (W : Walks B.prog B.w A I fp wr ds.length P St) (Z : Stn N h1 fp wr St) (hst : St 0 h2) (hP : ∀ i v N' h', P i v → Mv N N' h1 h' → ∃ d, ds[i]? = some d ∧ Enc N' h' v d) (hz : ds.length ≤ 1000)
    (ht : EvTs B (rlb scope sc) (x :: caps) lev none ifs t) (he : Ev B (rlb scope sc) (x :: caps) lev none elt f)
    (hf : mapF (fun d => t (some d :: capS is ρ)) (fun d => f (some d :: capS is ρ)) ds = some out)
    (hRR : ∀ D C h' tk ys n m', s.heap.get? D = none → s.heap.get? C = none → D ≠ C → h'.Ns C m' → h'.get? D = some (lstO ys n) → EncL (fun b => N b ∨ b = D) h' ys out → Kp s.heap h' → RR (.ref D) C (.ok .next) { s with heap := h', toks := tk }) :
    wpAny (model B.prog B.w) A (newList []) (fun acc s₃ => wpAny (model B.prog B.w) A (newFunctionEnv scope (X.env sc).globals (clX X scope) [] (X.env sc).qual none .none (some (X.env sc))) (fun cenv s₄ =>
      codeAny (model B.prog B.w) A (.compStart (.ListComp elt [⟨.Name x px, iter, ifs, 0⟩] scope pos) 0 (.ref I) acc { cenv with scope := relabel scope (X.env sc) }) (RR acc cenv.locals) s₄) E s₃) E { s with heap := h2, toks := tk2 } := by
  refine list_new (by simp [sizeLine]) (wpAny_newFunctionEnv bl.cell (by intro y hy; simp at hy) (fun h₁ hns₁ hsb₁ => ?_) bl.kind)
  dsimp only at hns₁ hsb₁ ⊢
  generalize hD : h2.objs.size = D at *
  generalize hH2 : h2.push (lstO [] 0) = H2 at hns₁ hsb₁ ⊢
  generalize hC : H2.objs.size = C at *
  have hCD : C = D + 1 := by rw [← hC, ← hH2, Heap.size_push, hD]
  have old : Kp h2 h₁ := fun b ob e => by
    have := Heap.lt_size e
    rw [hD] at this
    exact hsb₁.extBut b ob (by rw [hCD]; exact Nat.ne_of_lt (Nat.lt_succ_of_lt this)) (Heap.get?_push_of_some _ (hH2 ▸ Heap.get?_push_of_some _ e))
  have hDn : h2.get? D = none := hD ▸ get_size _
  have hCn : h2.get? C = none := by
    cases q : h2.get? C with
    | none => rfl
    | some ob =>
      have := Heap.lt_size q
      rw [hD, hCD] at this
      exact absurd this (Nat.not_lt.mpr (Nat.le_succ _))
  have sD : s.heap.get? D = none := kp_none (k1.trans k2) hDn
  have sC : s.heap.get? C = none := kp_none (k1.trans k2) hCn
  have dn : D ≠ C := by rw [hCD]; exact (Nat.succ_ne_self _).symm
  have hacc : h₁.get? D = some (lstO [] 0) := hsb₁.extBut _ _ dn (Heap.get?_push_of_some _ (by rw [← hH2, ← hD]; exact Heap.get?_push_size _ rfl))
  have hst₁ : St 0 h₁ := W.frame _ _ _ hst fun b _ ob e => old b ob e
  have Nl : ∀ b, N b → b ≠ D ∧ b ≠ C := fun b hb => by
    obtain ⟨vs, n, e⟩ := I0.nl b hb
    exact ⟨(fun q => by rw [q, sD] at e; cases e), (fun q => by rw [q, sC] at e; cases e)⟩
  have hcl : ∀ y, (rlb scope sc).names.lookup y = some .cell → ∃ c, (clX X scope).lookup y = some c := fun y hy => ⟨_, bl.look (bl.cov y hy)⟩
  have hcc : ∀ y c, y ∈ caps → (X.env sc).cells.lookup y = some c → (clX X scope).lookup y = some c := fun y c hy e => by
    rw [bl.look (bl.caps y hy).2.2, show X.cells.lookup y = some c from e]; rfl
  have loop : ∀ s₃ : Shared, s₃ = { s with heap := h₁, toks := tk2 + ([] : List (Str × Value)).length } →
      codeAny (model B.prog B.w) A (.compLoop (.ListComp elt [⟨.Name x px, iter, ifs, 0⟩] scope pos) 0 (.ref I) (.ref D) ((cX X C (clX X scope)).env (rlb scope sc))) (RR (.ref D) C) s₃ := by
    rintro s₃ rfl
    refine codeAny_compLoop_tests
      (fun k s' => ∃ h tk ys n es rest j m', s' = { s with heap := h, toks := tk } ∧ St j h ∧ h.get? D = some (lstO ys n) ∧ EncL (fun b => N b ∨ b = D) h ys es ∧ h.Ns C m' ∧ Kp h1 h ∧ j ≤ ds.length ∧ k = ds.length + 1 - j ∧ es.length ≤ j ∧
        mapF (fun d => t (some d :: capS is ρ)) (fun d => f (some d :: capS is ρ)) (ds.drop j) = some rest ∧ out = es ++ rest) ?_ (ds.length + 1)
      ⟨h₁, _, [], 0, [], out, 0, _, rfl, hst₁, hacc, .nil, hns₁, k2.trans old, Nat.zero_le _, rfl, Nat.le_refl _, hf, rfl⟩
    rintro k s' ⟨h, tk, ys, n, es, rest, j, m', rfl, hst', hl, hys, hns, kh, hj, rfl, hes, hm, rfl⟩
    have NN' : ∀ {h : Heap} {ys : List Value} {n : Nat}, Kp h1 h → h.get? D = some (lstO ys n) → ∀ b, (N b ∨ b = D) → ∃ vs n, h.get? b = some (lstO vs n) := fun k hl b hb => by
      rcases hb with hb | rfl
      · obtain ⟨vs, n, e⟩ := I0.nl b hb
        exact ⟨vs, n, k _ _ (k1 _ _ e)⟩
      · exact ⟨_, _, hl⟩
    have h1D : h1.get? D = none := kp_none k2 hDn
    have h1C : h1.get? C = none := kp_none k2 hCn
    have Dw : D ∉ wr := fun q => by
      obtain ⟨ob, vs, e1, e2⟩ := Z.fl _ _ hst' D q
      rw [hl] at e1; cases e1; cases e2
    have Cw : C ∉ wr := fun q => by
      obtain ⟨ob, vs, e1, e2⟩ := Z.fl _ _ hst' C q
      obtain ⟨ob', es, ep, e3, e4, _⟩ := hns
      rw [e3] at e1; cases e1; rw [e4] at e2; cases e2
    by_cases hlt : j < ds.length
    · refine W.item j _ _ _ hlt hst' fun v hA tkA hPv hstA hkA => ?_
      have mA : Mv (fun b => N b ∨ b = D) (fun b => N b ∨ b = D) h hA := mv_but (ch := wr) hkA (fun b hb => .inr (notSeq_fields (Z.fl _ _ hst' b hb))) (NN' kh hl)
      have hlA := hkA D _ Dw hl
      have hnsA : hA.Ns C m' := let ⟨ob, es, ep, e1, e2⟩ := hns; ⟨ob, es, ep, hkA C ob Cw e1, e2⟩
      have kA : Kp h1 hA := fun b ob e => hkA b ob (fun q => by rw [Z.wr b q] at e; cases e) (kh b ob e)
      refine wpAny_assign_Name (wpAny_storeName_local (env := (cX X C (clX X scope)).env (rlb scope sc)) bl.local hnsA (fun hB hnB hsB => ?_) (by show (scope.kind == .class || (scope.kind == .module && C != mainGlobals)) = false; rw [bl.kind]; rfl))
      have kAB : ∀ b ob, b ∉ [C] → hA.get? b = some ob → hB.get? b = some ob := fun b ob hb e => (hsB.2 b fun q => hb (List.mem_singleton.mpr q)).trans e
      have mB : Mv (fun b => N b ∨ b = D) (fun b => N b ∨ b = D) hA hB := mv_but (ch := [C]) kAB (fun b hb => by rw [List.mem_singleton.mp hb]; exact .inr (notSeq_dict hnsA)) (NN' kA hlA)
      have hlB := kAB D _ (by simpa using dn) hlA
      have kB : Kp h1 hB := fun b ob e => kAB b ob (fun q => by rw [List.mem_singleton.mp q, h1C] at e; cases e) (kA b ob e)
      have stk : ∀ {h h' : Heap}, (∀ b ob, b ≠ C → b ≠ D → h.get? b = some ob → h'.get? b = some ob) → ∀ {ys n m'}, h.get? D = some (lstO ys n) → h.Ns C m' → St (j + 1) h → St (j + 1) h' := fun {h h'} kk {ys n m'} hl hns st => W.frame _ _ _ st fun b hb ob e => by
        refine kk b ob (fun q => ?_) (fun q => ?_) e
        · by_cases hw : b ∈ wr
          · exact Cw (q ▸ hw)
          · obtain ⟨vs, n, e', _⟩ := Z.fp b hb hw
            rw [q, h1C] at e'; cases e'
        · by_cases hw : b ∈ wr
          · exact Dw (q ▸ hw)
          · obtain ⟨vs, n, e', _⟩ := Z.fp b hb hw
            rw [q, h1D] at e'; cases e'
      have hstB : St (j + 1) hB := stk (fun b ob hbC _ e => kAB b ob (by simpa using hbC) e) hlA hnsA hstA
      obtain ⟨d, hd, hv⟩ := hP j v _ _ hPv (Mv.fresh (N := N) kB h1D)
      rw [List.drop_eq_getElem_cons hlt] at hm
      have hde : ds[j] = d := by rw [List.getElem?_eq_getElem hlt] at hd; exact Option.some.inj hd
      rw [hde] at hm
      have IB : In B ((cX X C (clX X scope)).env (rlb scope sc)) (x :: caps) none (fun b => N b ∨ b = D) (some d :: capS is ρ) { s with heap := hB, toks := tkA + 1 } :=
        comp_in I0 hcap hic bl.local (fun y hy => (bl.caps y hy).1) (fun y hy => (bl.caps y hy).2.1) hcl hcc (k1.trans kB) sD hlB hnB (by simp) hv
      unfold mapF at hm
      split at hm
      · rename_i htt
        split at hm
        · rename_i r hr
          split at hm
          · rename_i rs hrs
            cases hm
            refine ht _ A _ _ true _ _ _ R IB htt fun hT tT kT => ?_
            rw [if_pos rfl]
            refine he _ A _ _ r _ _ _ R (IB.kp kT) hr fun y hE tE kE eE => ?_
            have kTE := kT.trans kE
            have hlE := kTE _ _ hlB
            have hyl : ys.length ≤ 1000 := by rw [hys.length]; omega
            refine append_pl (s := { s with heap := hE, toks := tE }) hlE hyl fun hF nF eF sF => ?_
            have hysE := ((hys.mv mA).mv mB).kp kTE
            have kEF : ∀ b ob, b ∉ [D] → hE.get? b = some ob → hF.get? b = some ob := fun b ob hb e => (sF.2 b fun q => hb (List.mem_singleton.mpr q)).trans e
            have mF : Mv (fun b => N b ∨ b = D) (fun b => N b ∨ b = D) hE hF := mv_but (ch := [D]) kEF (fun b hb => .inl (.inr (List.mem_singleton.mp hb))) (NN' (kB.trans kTE) hlE)
            have hnE := hnB.keeps kTE
            refine ⟨ds.length + 1 - (j + 1), by omega, hF, tE, ys ++ [y], nF, es ++ [r], rs, j + 1, _, rfl, stk (fun b ob _ hbD e => kEF b ob (by simpa using hbD) e) hlE hnE (stk (fun b ob _ _ e => kTE b ob e) hlB hnB hstB), eF, (hysE.append (.cons eE .nil)).mv mF, hnE.sameBut sF dn.symm, fun b ob e => kEF b ob (fun q => by rw [List.mem_singleton.mp q, h1D] at e; cases e) (kTE b ob (kB b ob e)), hlt, rfl, by rw [List.length_append, List.length_singleton]; omega, hrs, by simp⟩
          · cases hm
        · cases hm
      · rename_i htt
        refine ht _ A _ _ false _ _ _ R IB htt fun hT tT kT => ?_
        rw [if_neg Bool.false_ne_true]
        exact ⟨ds.length + 1 - (j + 1), by omega, hT, tT, ys, n, es, rest, j + 1, _, rfl, stk (fun b ob _ _ e => kT b ob e) hlB hnB hstB, kT _ _ hlB, ((hys.mv mA).mv mB).kp kT, hnB.keeps kT, kB.trans kT, hlt, rfl, by omega, hm, rfl⟩
      · cases hm
    · have hjn : j = ds.length := by omega
      subst hjn
      rw [List.drop_length] at hm
      cases hm
      refine W.done _ _ _ hst' fun hA tkA hkA => ?_
      have mA : Mv (fun b => N b ∨ b = D) (fun b => N b ∨ b = D) h hA := mv_but (ch := wr) hkA (fun b hb => .inr (notSeq_fields (Z.fl _ _ hst' b hb))) (NN' kh hl)
      rw [List.append_nil] at hRR
      exact hRR D C hA tkA ys n m' sD sC dn (let ⟨ob, es, ep, e1, e2⟩ := hns; ⟨ob, es, ep, hkA C ob Cw e1, e2⟩) (hkA D _ Dw hl) (hys.mv mA) fun b ob e => hkA b ob (fun q => by have e' := k1 _ _ e; rw [Z.wr b q] at e'; cases e') (kh b ob (k1 _ _ e))
  exact codeAny_compStart_list (loop _ rfl) (W.self 0 _ _ _ hst₁ (loop _ rfl))

noncomputable def compO (g : Sto → Option (List PyData)) (is : List Nat) (t : Sto → Option Bool) (f : Sto → Option PyData) (ρ : Sto) : Option PyData := match g ρ with
  | some ds => match mapF (fun d => t (some d :: capS is ρ)) (fun d => f (some d :: capS is ρ)) ds with
    | some out => some (.list out)
    | none => none
  | none => none
theorem EvNew.comp {x : Str} {px pos : Pos} {elt iter : Expr} {ifs : List Expr} {scope : Scope} {caps : List Str} {is : List Nat} {g : Sto → Option (List PyData)} {t : Sto → Option Bool} {f : Sto → Option PyData}
    (hI : EvI B sc names lev o iter g) (hcap : Ats names is caps) (ht : EvTs B (rlb scope sc) (x :: caps) lev none ifs t) (he : Ev B (rlb scope sc) (x :: caps) lev none elt f) (hic : ∀ i ∈ is, o ≠ some i) (bl : Block sc scope caps x)
    (hs : ∀ (X : EX) (v : Value), foldedSetIterable iter (X.env sc) v = pure v := by intro _ _; rfl) : EvNew B sc names lev o (.ListComp elt [⟨.Name x px, iter, ifs, 0⟩] scope pos) (compO g is t f) :=
  fun X A N ρ d s E Q R I0 hf h => by
    unfold compO at hf
    split at hf
    · rename_i ds hds
      split at hf
      · rename_i out hout
        cases hf
        rw [eval_ListComp]
        refine wpAny_comprehension_free (use := none) rfl (hs X) (bl.closure I0) bl.kind bl.names (hI X A N ρ ds s E _ R I0 hds fun I fp wr P St h1 h2 t2 k1 k2 W Z hst hP hz => ?_)
        refine comp_core (RR := fun acc C => compPost (model B.prog B.w) A E none Q acc C) R I0 hcap hic bl k1 k2 W Z hst hP hz ht he hout ?_
        intro D C h' tk ys n m' hD hC dn hns hl hys kk
        refine ⟨m', hns, fun h'' hs'' => ?_⟩
        have k'' : Kp s.heap h'' := fun b ob e => (hs''.2 b fun q => by rw [q, hC] at e; cases e).trans (kk b ob e)
        have mv : Mv (fun b => N b ∨ b = D) (fun b => N b ∨ b = D) h' h'' := mv_but (ch := [C]) (fun b ob hb e => (hs''.2 b fun q => hb (List.mem_singleton.mpr q)).trans e) (fun b hb => by rw [List.mem_singleton.mp hb]; exact .inr (notSeq_dict hns)) (fun b hb => by
          rcases hb with hb | rfl
          · obtain ⟨vs, n, e⟩ := I0.nl b hb
            exact ⟨vs, n, kk _ _ e⟩
          · exact ⟨_, _, hl⟩)
        exact h D ys n out h'' tk k'' hD rfl ((hs''.2 D dn).trans hl) (hys.mv mv)
      · cases hf
    · cases hf
end
end Mine

namespace Mine
open PySem PySem.W PySem.Spec PySem.Calls PyProof.Rows

noncomputable def EnSt (e it l : Addr) (vs : List Value) (n : Nat) (i : Nat) (h : Heap) : Prop := (∃ old, IsEnum h e it (i : Int) old) ∧ h.IsListIter it l i ∧ h.get? l = some (lstO vs n)

theorem enum_turn {prog : Program} {w : World} {A : Around} {E : Value → Shared → Prop} {s : Shared} {env : Env} {elts : List Expr} {x1 : Nat} {tp : Pos} {xa xb : Str} {e it l : Addr} {vs : List Value} {n i : Nat} {v : Value} {Kn K : Shared → Prop}
    (hh : A.handled = none) (hm : Nms elts [xa, xb]) (hne : e ≠ it) (le : l ≠ e) (li : l ≠ it) (hst : EnSt e it l vs n i s.heap) (hx : vs[i]? = some v)
    (h : ∀ h' tk t, EnSt e it l vs n (i + 1) h' → (∀ b o, b ≠ e → b ≠ it → s.heap.get? b = some o → h'.get? b = some o) → wpAny (model prog w) A (assignInOrder ((assignEach elts env).map (·.2)) [.int (i : Int) t, v]) (fun _ s₂ => K s₂) E { s with heap := h', toks := tk }) :
    wpAny (model prog w) A (pyNext (.ref e)) (fun r s₁ => match r with
      | none => Kn s₁
      | some v => wpAny (model prog w) A (letOwnedTupleGo (.Tuple elts x1 tp) (.ref e) v) (fun _ s₁' => wpAny (model prog w) A (assign (.Tuple elts x1 tp) env v) (fun _ s₂ => K s₂) E s₁') E s₁) E s := by
  obtain ⟨⟨old, he⟩, hit, hl⟩ := hst
  have eH : e < s.heap.objs.size := Heap.lt_size he
  have iH : it < s.heap.objs.size := by obtain ⟨o, ho, _⟩ := hit; exact Heap.lt_size ho
  have lH : l < s.heap.objs.size := Heap.lt_size hl
  refine wpAny_pyNext_enum_item he hit (isList_of hl) (by simpa using hx) hne fun h₁ heo hit₁ ht₁ hz₁ hk₁ => ?_
  refine wpAny_letOwnedTupleGo_enum heo fun h₂ he₂ hs₂ => ?_
  replace hs₂ : Heap.SameBut e h₁ h₂ := hs₂
  have ht₂ : h₂.get? s.heap.objs.size = some { cls := .type "tuple", data := .seq #[.int (i : Int) s.toks, v] } := (hs₂.2 _ (Nat.ne_of_gt eH)).trans ht₁
  rw [assign_Tuple]
  refine wpAny_bind (wpAny_standAt ?_)
  obtain ⟨q1, q2⟩ := hm.each (env := env)
  unfold unpack
  rw [q1, q2]
  refine wpAny_bind (wpAny_holding ?_)
  refine unpackItems_tuple (s := { s with heap := h₂, toks := s.toks + 1 }) (items := #[.int (i : Int) s.toks, v]) hh ⟨_, ht₂, rfl, _, rfl⟩ fun h₃ hx₃ => ?_
  replace hx₃ : Heap.ExtBut h₂.objs.size h₂ h₃ := hx₃
  have hz₂ : h₂.objs.size = s.heap.objs.size + 1 := hs₂.1.trans hz₁
  have old₃ : ∀ b o, b < s.heap.objs.size → h₂.get? b = some o → h₃.get? b = some o := fun b o hb x => hx₃ b o (by rw [hz₂]; exact Nat.ne_of_lt (Nat.lt_succ_of_lt hb)) x
  refine h h₃ (s.toks + 1) s.toks ⟨⟨v, ?_⟩, ?_, ?_⟩ fun b o hbe hbi e' => ?_
  · have e3 : ((i + 1 : Nat) : Int) = (i : Int) + 1 := by push_cast; rfl
    rw [e3]; exact old₃ e _ eH he₂
  · exact (hit₁.extBut hs₂.extBut hne.symm).at fun o x => old₃ it o iH x
  · exact old₃ l _ lH ((hs₂.2 l le).trans (hk₁ l _ le li hl))
  · exact old₃ b o (Heap.lt_size e') ((hs₂.2 b hbe).trans (hk₁ b o hbe hbi e'))

section
variable {B : Base} {sc : Scope} {names : List Str} {lev : Nat} {o : Option Nat}

theorem enum_stn {N : Addr → Prop} {h : Heap} {e it l : Addr} {vs : List Value} {n : Nat} (hl : h.get? l = some (lstO vs n)) (hn : ¬ N l) (he : h.get? e = none) (hi : h.get? it = none) : Stn N h [e, it, l] [e, it] (EnSt e it l vs n) where
  ex := fun i h st b hb => by
    obtain ⟨⟨old, h1⟩, ⟨o, h2, _⟩, h3⟩ := st
    rcases List.mem_cons.mp hb with rfl | hb
    · exact ⟨_, h1⟩
    · rcases List.mem_cons.mp hb with rfl | hb
      · exact ⟨_, h2⟩
      · rw [List.mem_singleton.mp hb]; exact ⟨_, h3⟩
  fl := fun i h st b hb => by
    obtain ⟨⟨old, h1⟩, ⟨o, h2, _, h4⟩, h3⟩ := st
    rcases List.mem_cons.mp hb with rfl | hb
    · exact ⟨_, _, h1, rfl⟩
    · rw [List.mem_singleton.mp hb]; exact ⟨_, _, h2, h4⟩
  fp := fun b hb hw => by
    rcases List.mem_cons.mp hb with rfl | hb
    · exact absurd (.head _) hw
    · rcases List.mem_cons.mp hb with rfl | hb
      · exact absurd (.tail _ (.head _)) hw
      · rw [List.mem_singleton.mp hb]; exact ⟨_, _, hl, hn⟩
  wr := fun b hb => by
    rcases List.mem_cons.mp hb with rfl | hb
    · exact he
    · rw [List.mem_singleton.mp hb]; exact hi
theorem enum_frame {e it l : Addr} {vs : List Value} {n i : Nat} {h h' : Heap} (st : EnSt e it l vs n i h) (k : ∀ b ∈ [e, it, l], ∀ ob, h.get? b = some ob → h'.get? b = some ob) : EnSt e it l vs n i h' := by
  obtain ⟨⟨old, h1⟩, h2, h3⟩ := st
  exact ⟨⟨old, k e (by simp) _ h1⟩, h2.at fun o x => k it (by simp) o x, k l (by simp) _ h3⟩

/-- enumerate(e), from its call on -/
theorem enum_make {e : Expr} {p pos : Pos} {f : Sto → Option PyData} (hv : Ev B sc names lev o e f) {X : EX} {A : Around} {N : Addr → Prop} {ρ : Sto} {ds : List PyData} {s : Shared} {E K : Value → Shared → Prop}
    (R : Room A lev) (I : In B (X.env sc) names o N ρ s) (hd : f ρ = some (.list ds)) (he : ∀ env, starEach [e] env = (false, eval e env) :: starEach [] env) (hk : sc.kind = .function) (hx : sc.names.lookup ("enumerate" : Str) = some .globalImplicit)
    (h : ∀ e it l vs n h1 h2 t2, Kp s.heap h1 → Kp h1 h2 → h1.get? l = some (lstO vs n) → ¬ N l → EncL N h1 vs ds → h1.get? e = none → h1.get? it = none → e ≠ it → EnSt e it l vs n 0 h2 → K (.ref e) { s with heap := h2, toks := t2 }) :
    wpAny (model B.prog B.w) A (eval (.Call (.Name "enumerate" p) [e] [] pos) (X.env sc)) (fun x s₁ => wpAny (model B.prog B.w) A (pyIter x) K E s₁) E s := by
  refine Call_ (blt I.g0 (x := "enumerate") (v := .type "enumerate") (by simp [bltOf]) hk hx (by decide) ?_)
  refine PyProof.Rows.callWith_type1 ?_ (he _)
  refine wpAny_items_cons (hv X A N ρ _ s E _ R I hd fun v h1 t1 k1 e1 => wpAny_items_nil ?_) (he _)
  cases e1 with
  | list hnl el rl =>
    rename_i l vs n
    refine call_enumerate_1 (s := { s with heap := h1, toks := t1 }) el fun h' hE hL hz hk' => ?_
    refine wpAny_pyIter_enum hE ?_
    have hne : h1.objs.size + 1 ≠ h1.objs.size := Nat.succ_ne_self _
    have q1 : h1.get? (h1.objs.size + 1) = none := by
      cases q : h1.get? (h1.objs.size + 1) with
      | none => rfl
      | some ob => exact absurd (Heap.lt_size q) (Nat.not_lt.mpr (Nat.le_succ _))
    exact h _ _ l vs n h1 h' t1 k1 hk' el hnl rl q1 (get_size _) hne ⟨⟨_, hE⟩, hL, hk' _ _ el⟩

noncomputable def forE (ia ib : Nat) (f : Sto → Option Out) : Nat → List PyData → Sto → Option Out
  | _, [], ρ => some (.next ρ)
  | k, d :: ds, ρ => match f (vput (vput ρ ia (.int (k : Int))) ib d) with
    | some (.next ρ') => forE ia ib f (k + 1) ds ρ'
    | some (.ret r) => some (.ret r)
    | none => none
noncomputable def forN (ia ib : Nat) (g : Sto → Option PyData) (f : Sto → Option Out) (ρ : Sto) : Option Out := match g ρ with
  | some (.list ds) => forE ia ib f 0 ds ρ
  | _ => none
theorem ExS.forE {ia ib : Nat} {xa xb : Str} {elts : List Expr} {x1 : Nat} {tp p cp pos : Pos} {e : Expr} {body : List Stmt} {g : Sto → Option PyData} {f : Sto → Option Out} (he : Ev B sc names lev o e g) (hb : Ex B sc names lev o body f o) (hm : Nms elts [xa, xb]) (ha : At names ia xa) (hb' : At names ib xb) (hoa : o ≠ some ia) (hob : o ≠ some ib) (hn : names.Nodup)
    (hxa : isVar sc xa = true := by decide) (hxb : isVar sc xb = true := by decide) (hse : ∀ env, starEach [e] env = (false, eval e env) :: starEach [] env := by intro _; rfl) (hx : sc.names.lookup ("enumerate" : Str) = some .globalImplicit := by rfl)
    (hs : ∀ (X : EX) (v : Value), foldedSetIterable (.Call (.Name "enumerate" p) [e] [] cp) (X.env sc) v = pure v := by intro _ _; rfl) (hk : sc.kind = .function := by rfl) : ExS B sc names lev o (.For (.Tuple elts x1 tp) (.Call (.Name "enumerate" p) [e] [] cp) body [] pos) (forN ia ib g f) o :=
  fun X A h₀ N₀ a ρ out s E Q R F hf pp => by
    unfold forN at hf
    split at hf
    · rename_i ds hds
      refine wpAny_For (enum_make he R F.inn hds hse hk hx fun e it l vs n h1 h2 t2 k1 k2 hl hnl rl q1 q2 hne hst => ?_) (hs X)
      have le : l ≠ e := fun q => by rw [q, q1] at hl; cases hl
      have li : l ≠ it := fun q => by rw [q, q2] at hl; cases hl
      have F1 := F.kp (tk := t2) k1
      have Z := (enum_stn hl hnl q1 q2).stand F1.fm e ds.length
      have h0 : ∀ b ∈ [e, it], h₀.get? b = none := fun b hb => kp_none F1.fm.keep (Z.wr b hb)
      have hlen := rl.length
      have go : ∀ {a a' : Addr} {ρ : Sto} {s' : Shared} {h'' : Heap} {i : Nat}, FSt B (X.env sc) names h₀ N₀ o a ρ s' → Tr (X.env sc) (NN N₀ o _) (NN N₀ o a) h1 s'.heap → EnSt e it l vs n i s'.heap → Tr (X.env sc) (NN N₀ o a) (NN N₀ o a') s'.heap h'' → EnSt e it l vs n i h'' := fun {_ _ _ s' _ _} F' t st tz => enum_frame st fun b hb ob e' => by
        obtain ⟨c1, c2, c3⟩ := Stand.off (s := { s with heap := h1, toks := t2 }) Z F' t st b hb
        exact tz.kf b ob e' c1 c2 c3
      refine codeAny_forLoop_any (fun k s' => ∃ h' tk a' ρ' j, s' = { s with heap := h', toks := tk } ∧ FSt B (X.env sc) names h₀ N₀ o a' ρ' { s with heap := h', toks := tk } ∧ Tr (X.env sc) (NN N₀ o a) (NN N₀ o a') h1 h' ∧ EnSt e it l vs n j h' ∧ j ≤ ds.length ∧ k = ds.length + 1 - j ∧ Mine.forE ia ib f j (ds.drop j) ρ' = some out) ?_ (ds.length + 1)
        ⟨h2, t2, a, ρ, 0, rfl, F.kp (k1.trans k2), Tr.kp k2, hst, Nat.zero_le _, rfl, hf⟩
      rintro k s' ⟨h', tk, a', ρ', j, rfl, F', tr, hst', hj, rfl, hw⟩
      by_cases hlt : j < ds.length
      · obtain ⟨v, hv⟩ : ∃ v, vs[j]? = some v := ⟨_, List.getElem?_eq_getElem (by omega)⟩
        refine enum_turn (s := { s with heap := h', toks := tk }) R.hh hm hne le li hst' hv fun h3 t3 tt hst3 hk3 => ?_
        have hk3' : ∀ b ob, b ∉ [e, it] → h'.get? b = some ob → h3.get? b = some ob := fun b ob hb e' => hk3 b ob (fun q => hb (by simp [q])) (fun q => hb (by simp [q])) e'
        have F3 := F'.wr (tk := t3) hk3' (Z.fl j _ hst') h0
        have tr3 := tr.wr hk3' Z.wr
        obtain ⟨d, hd⟩ : ∃ d, ds[j]? = some d := ⟨_, List.getElem?_eq_getElem hlt⟩
        obtain ⟨v', hv', xv⟩ := (rl.mv (F1.fm.mv tr3 F1.inn.nl)).get hd
        rw [hv] at hv'; cases hv'
        rw [List.drop_eq_getElem_cons hlt] at hw
        have hde : ds[j] = d := by rw [List.getElem?_eq_getElem hlt] at hd; exact Option.some.inj hd
        rw [hde] at hw
        rw [← List.append_nil ((assignEach elts (X.env sc)).map (·.2)), ← List.append_nil [Value.int (j : Int) tt, v]]
        refine putAll hn hk hm.tgs (.cons ha (.cons hb' .nil)) (by simp [hoa, hob]) (by simp [hxa, hxb]) F3 (.cons (.int _ _) (.cons xv .nil)) rfl fun h4 t4 F4 tr4 _ => ?_
        refine wpAny_pure ?_
        have tr34 := tr3.trans tr4
        have hst4 := go F3 tr3 hst3 tr4
        unfold Mine.forE at hw
        split at hw
        · rename_i ρ5 hρ5
          refine hb X A h₀ N₀ a' _ (.next ρ5) _ _ _ R F4 hρ5 ?_
          intro h5 t5 a5 F5 tr5
          exact ⟨ds.length + 1 - (j + 1), by omega, h5, t5, a5, ρ5, j + 1, rfl, F5, tr34.trans tr5, go F4 tr34 hst4 tr5, hlt, rfl, hw⟩
        · rename_i r hr
          cases hw
          refine hb X A h₀ N₀ a' _ (.ret r) _ _ _ R F4 hr ?_
          intro w h5 t5 k5 e5
          exact pp w h5 t5 k5 e5
        · cases hw
      · have hjn : j = ds.length := by omega
        subst hjn
        rw [List.drop_length] at hw
        cases hw
        obtain ⟨⟨old, s1⟩, s2, s3⟩ := hst'
        refine wpAny_pyNext_enum_end (i := ds.length) R.hh s1 s2 (isList_of s3) (by simp [hlen]) fun h3 x3 => wpAny_execs_nil ?_
        have hk3' : ∀ b ob, b ∉ [e, it] → h'.get? b = some ob → h3.get? b = some ob := fun b ob hb e' => x3 b ob (fun q => hb (by simp [q])) e'
        have F3 := F'.wr (tk := tk) hk3' (Z.fl _ _ ⟨⟨old, s1⟩, s2, s3⟩) h0
        exact pp h3 tk a' F3 ((Tr.kp k1).trans (tr.wr hk3' Z.wr))
    · cases hf
end
end Mine

namespace Mine
open PySem PySem.W PySem.Spec PySem.Calls PyProof.Rows

section
variable {B : Base} {sc : Scope} {names : List Str} {lev : Nat} {o : Option Nat}

structure Block2 (sc scope : Scope) (xa xb : Str) : Prop where
  kind : scope.kind = .function
  cell : ∀ y ∈ scope.names, y.2 ≠ .cell
  names : ∀ y ∈ scope.names, y.2 = .local → scope.names.lookup y.1 = some .local
  la : (rlb scope sc).names.lookup xa = some .local
  lb : (rlb scope sc).names.lookup xb = some .local
  ne : xa ≠ xb
  free : ∀ y ∈ scope.names, y.2 ≠ .free
  cov : ∀ y, (rlb scope sc).names.lookup y ≠ some .cell

noncomputable def mapE (f : Nat → PyData → Option PyData) : Nat → List PyData → Option (List PyData)
  | _, [] => some []
  | k, d :: ds => match f k d with
    | some r => match mapE f (k + 1) ds with
      | some rs => some (r :: rs)
      | none => none
    | none => none
noncomputable def compE (g : Sto → Option PyData) (f : Sto → Option PyData) (ρ : Sto) : Option PyData := match g ρ with
  | some (.list ds) => match mapE (fun k d => f [some (.int (k : Int)), some d]) 0 ds with
    | some out => bif szOk ds.length then some (.list out) else none
    | none => none
  | _ => none

theorem EvNew.compE {xa xb : Str} {elts : List Expr} {x1 : Nat} {tp p cp pos : Pos} {elt ee : Expr} {scope : Scope} {g : Sto → Option PyData} {f : Sto → Option PyData}
    (hg : Ev B sc names lev o ee g) (he : Ev B (rlb scope sc) [xa, xb] lev none elt f) (hm : Nms elts [xa, xb]) (bl : Block2 sc scope xa xb)
    (hse : ∀ env, starEach [ee] env = (false, eval ee env) :: starEach [] env := by intro _; rfl) (hx : sc.names.lookup ("enumerate" : Str) = some .globalImplicit := by rfl)
    (hs : ∀ (X : EX) (v : Value), foldedSetIterable (.Call (.Name "enumerate" p) [ee] [] cp) (X.env sc) v = pure v := by intro _ _; rfl) (hk : sc.kind = .function := by rfl) :
    EvNew B sc names lev o (.ListComp elt [⟨.Tuple elts x1 tp, .Call (.Name "enumerate" p) [ee] [] cp, [], 0⟩] scope pos) (compE g f) :=
  fun X A N ρ d₀ s E Q R I0 hf hQ => by
    unfold Mine.compE at hf
    split at hf
    · rename_i ds hds
      split at hf
      · rename_i out hout
        obtain ⟨hq, rfl⟩ := cond_some hf
        have hz : ds.length ≤ 1000 := Nat.le_of_ble_eq_true hq
        rw [eval_ListComp]
        refine wpAny_comprehension_free (use := none) rfl (hs X) (closureFor_none bl.free) bl.kind bl.names (enum_make hg R I0 hds hse hk hx fun e it l vs n h1 h2 tk2 k1 k2 hl1 hnl rl q1 q2 hne hst => ?_)
        have le : l ≠ e := fun q => by rw [q, q1] at hl1; cases hl1
        have li : l ≠ it := fun q => by rw [q, q2] at hl1; cases hl1
        have Z := enum_stn (n := n) (vs := vs) hl1 hnl q1 q2
        have hlen := rl.length
        refine list_new (by simp [sizeLine]) (wpAny_newFunctionEnv bl.cell (by intro y hy; simp at hy) (fun h₁ hns₁ hsb₁ => ?_) bl.kind)
        dsimp only at hns₁ hsb₁ ⊢
        generalize hD : h2.objs.size = D at *
        generalize hH2 : h2.push (lstO [] 0) = H2 at hns₁ hsb₁ ⊢
        generalize hC : H2.objs.size = C at *
        have hCD : C = D + 1 := by rw [← hC, ← hH2, Heap.size_push, hD]
        have old : Kp h2 h₁ := fun b ob e => by
          have := Heap.lt_size e
          rw [hD] at this
          exact hsb₁.extBut b ob (by rw [hCD]; exact Nat.ne_of_lt (Nat.lt_succ_of_lt this)) (Heap.get?_push_of_some _ (hH2 ▸ Heap.get?_push_of_some _ e))
        have hDn : h2.get? D = none := hD ▸ get_size _
        have hCn : h2.get? C = none := by
          cases q : h2.get? C with
          | none => rfl
          | some ob =>
            have := Heap.lt_size q
            rw [hD, hCD] at this
            exact absurd this (Nat.not_lt.mpr (Nat.le_succ _))
        have sD : s.heap.get? D = none := kp_none (k1.trans k2) hDn
        have sC : s.heap.get? C = none := kp_none (k1.trans k2) hCn
        have dn : D ≠ C := by rw [hCD]; exact (Nat.succ_ne_self _).symm
        have hacc : h₁.get? D = some (lstO [] 0) := hsb₁.extBut _ _ dn (Heap.get?_push_of_some _ (by rw [← hH2, ← hD]; exact Heap.get?_push_size _ rfl))
        have hst₁ : EnSt e it l vs n 0 h₁ := enum_frame hst fun b _ ob e => old b ob e
        have loop : ∀ s₃ : Shared, s₃ = { s with heap := h₁, toks := tk2 + ([] : List (Str × Value)).length } →
            codeAny (model B.prog B.w) A (.compLoop (.ListComp elt [⟨.Tuple elts x1 tp, .Call (.Name "enumerate" p) [ee] [] cp, [], 0⟩] scope pos) 0 (.ref e) (.ref D) ((cX X C []).env (rlb scope sc))) (compPost (model B.prog B.w) A E none Q (.ref D) C) s₃ := by
          rintro s₃ rfl
          refine LCp.codeAny_compLoop_pair
            (fun k s' => ∃ h tk ys n' es rest j m', s' = { s with heap := h, toks := tk } ∧ EnSt e it l vs n j h ∧ h.get? D = some (lstO ys n') ∧ EncL (fun b => N b ∨ b = D) h ys es ∧ h.Ns C m' ∧ Kp h1 h ∧ j ≤ ds.length ∧ k = ds.length + 1 - j ∧ es.length = j ∧
              mapE (fun k d => f [some (.int (k : Int)), some d]) j (ds.drop j) = some rest ∧ out = es ++ rest) ?_ (ds.length + 1)
            ⟨h₁, _, [], 0, [], out, 0, _, rfl, hst₁, hacc, .nil, hns₁, k2.trans old, Nat.zero_le _, rfl, rfl, hout, rfl⟩
          rintro k s' ⟨h, tk, ys, n', es, rest, j, m', rfl, hst', hl, hys, hns, kh, hj, rfl, hes, hm', rfl⟩
          have NN' : ∀ {h : Heap} {ys : List Value} {n : Nat}, Kp h1 h → h.get? D = some (lstO ys n) → ∀ b, (N b ∨ b = D) → ∃ vs n, h.get? b = some (lstO vs n) := fun k hl b hb => by
            rcases hb with hb | rfl
            · obtain ⟨vs, n, e⟩ := I0.nl b hb
              exact ⟨vs, n, k _ _ (k1 _ _ e)⟩
            · exact ⟨_, _, hl⟩
          have h1D : h1.get? D = none := kp_none k2 hDn
          have h1C : h1.get? C = none := kp_none k2 hCn
          have Dw : D ∉ [e, it] := fun q => by
            obtain ⟨ob, vs, e1, e2⟩ := Z.fl _ _ hst' D q
            rw [hl] at e1; cases e1; cases e2
          have Cw : C ∉ [e, it] := fun q => by
            obtain ⟨ob, vs, e1, e2⟩ := Z.fl _ _ hst' C q
            obtain ⟨ob', es, ep, e3, e4, _⟩ := hns
            rw [e3] at e1; cases e1; rw [e4] at e2; cases e2
          by_cases hlt : j < ds.length
          · obtain ⟨v, hv⟩ : ∃ v, vs[j]? = some v := ⟨_, List.getElem?_eq_getElem (by omega)⟩
            refine enum_turn (s := { s with heap := h, toks := tk }) R.hh hm hne le li hst' hv fun hA tkA tt hstA hkA0 => ?_
            have hkA : ∀ b ob, b ∉ [e, it] → h.get? b = some ob → hA.get? b = some ob := fun b ob hb e' => hkA0 b ob (fun q => hb (by simp [q])) (fun q => hb (by simp [q])) e'
            have mA : Mv (fun b => N b ∨ b = D) (fun b => N b ∨ b = D) h hA := mv_but (ch := [e, it]) hkA (fun b hb => .inr (notSeq_fields (Z.fl _ _ hst' b hb))) (NN' kh hl)
            have hlA := hkA D _ Dw hl
            have hnsA : hA.Ns C m' := let ⟨ob, es, ep, e1, e2⟩ := hns; ⟨ob, es, ep, hkA C ob Cw e1, e2⟩
            have kA : Kp h1 hA := fun b ob e => hkA b ob (fun q => by rw [Z.wr b q] at e; cases e) (kh b ob e)
            have hpn : (((cX X C []).env (rlb scope sc)).scope.kind == .class || (((cX X C []).env (rlb scope sc)).scope.kind == .module && ((cX X C []).env (rlb scope sc)).locals != ((cX X C []).env (rlb scope sc)).globals)) = false := by show (scope.kind == .class || (scope.kind == .module && C != mainGlobals)) = false; rw [bl.kind]; rfl
            obtain ⟨tgs⟩ : Nonempty (Tgs (sc := rlb scope sc) (A := A) (M := model B.prog B.w) (X := cX X C []) (E := notedBy (model B.prog B.w) A ((cX X C []).env (rlb scope sc)) fun e s' => compPost (model B.prog B.w) A E none Q (.ref D) C (.error e) s') [xa, xb] ((assignEach elts ((cX X C []).env (rlb scope sc))).map (·.2))) := ⟨hm.tgs⟩
            revert tgs
            generalize (assignEach elts ((cX X C []).env (rlb scope sc))).map (·.2) = ts
            intro tgs
            cases tgs with
            | cons ta tgs =>
              cases tgs with
              | cons tb tgs =>
                cases tgs with
                | nil =>
                  refine wpAny_bind (wpAny_holding (ta _ _ _ (wpAny_storeName_local (env := (cX X C []).env (rlb scope sc)) bl.la hnsA (fun hB0 hnB0 hsB0 => ?_) hpn)))
                  refine wpAny_bind (wpAny_holding (tb _ _ _ (wpAny_storeName_local (env := (cX X C []).env (rlb scope sc)) bl.lb hnB0 (fun hB hnB hsB1 => ?_) hpn)))
                  refine wpAny_pure ?_
                  have kAB : ∀ b ob, b ∉ [C] → hA.get? b = some ob → hB.get? b = some ob := fun b ob hb e => (hsB1.2 b fun q => hb (List.mem_singleton.mpr q)).trans ((hsB0.2 b fun q => hb (List.mem_singleton.mpr q)).trans e)
                  have mB : Mv (fun b => N b ∨ b = D) (fun b => N b ∨ b = D) hA hB := mv_but (ch := [C]) kAB (fun b hb => by rw [List.mem_singleton.mp hb]; exact .inr (notSeq_dict hnsA)) (NN' kA hlA)
                  have hlB := kAB D _ (by simpa using dn) hlA
                  have kB : Kp h1 hB := fun b ob e => kAB b ob (fun q => by rw [List.mem_singleton.mp q, h1C] at e; cases e) (kA b ob e)
                  have stk : ∀ {h h' : Heap}, (∀ b ob, b ≠ C → b ≠ D → h.get? b = some ob → h'.get? b = some ob) → EnSt e it l vs n (j + 1) h → EnSt e it l vs n (j + 1) h' := fun {h h'} kk st => enum_frame st fun b hb ob e => by
                    refine kk b ob (fun q => ?_) (fun q => ?_) e
                    · rcases List.mem_cons.mp hb with rfl | hb
                      · exact Cw (by rw [← q]; simp)
                      · rcases List.mem_cons.mp hb with rfl | hb
                        · exact Cw (by rw [← q]; simp)
                        · rw [List.mem_singleton.mp hb] at q; rw [q, h1C] at hl1; cases hl1
                    · rcases List.mem_cons.mp hb with rfl | hb
                      · exact Dw (by rw [← q]; simp)
                      · rcases List.mem_cons.mp hb with rfl | hb
                        · exact Dw (by rw [← q]; simp)
                        · rw [List.mem_singleton.mp hb] at q; rw [q, h1D] at hl1; cases hl1
                  have hstB : EnSt e it l vs n (j + 1) hB := stk (fun b ob hbC _ e => kAB b ob (by simpa using hbC) e) hstA
                  obtain ⟨d, hd⟩ : ∃ d, ds[j]? = some d := ⟨_, List.getElem?_eq_getElem hlt⟩
                  obtain ⟨v', hv', xv⟩ := (rl.mv (Mv.fresh (N := N) kB h1D)).get hd
                  rw [hv] at hv'; cases hv'
                  rw [List.drop_eq_getElem_cons hlt] at hm'
                  have hde : ds[j] = d := by rw [List.getElem?_eq_getElem hlt] at hd; exact Option.some.inj hd
                  rw [hde] at hm'
                  have IB : In B ((cX X C []).env (rlb scope sc)) [xa, xb] none (fun b => N b ∨ b = D) [some (.int (j : Int)), some d] { s with heap := hB, toks := tkA + 1 + 1 } := by
                    refine ⟨I0.g0.kp (k1.trans kB), NN' kB hlB, fun i y d' hi hd' => ?_, fun y hy => absurd hy (bl.cov y)⟩
                    cases hi with
                    | here =>
                      cases hd'
                      exact ⟨.int (j : Int) tt, .inl ⟨bl.la, _, hnB, by simp [bl.ne]⟩, (Enc.int _ _).r, fun _ => .int _ _⟩
                    | there hi =>
                      cases hi with
                      | here =>
                        cases hd'
                        exact ⟨v, .inl ⟨bl.lb, _, hnB, by simp⟩, xv.r, fun _ => xv⟩
                      | there hi => cases hi
                  unfold mapE at hm'
                  split at hm'
                  · rename_i r hr
                    split at hm'
                    · rename_i rs hrs
                      cases hm'
                      refine he _ A _ _ r _ _ _ R IB hr fun y hE tE kE eE => ?_
                      have hlE := kE _ _ hlB
                      have hyl : ys.length ≤ 1000 := by rw [hys.length]; omega
                      refine append_pl (s := { s with heap := hE, toks := tE }) hlE hyl fun hF nF eF sF => ?_
                      have hysE := ((hys.mv mA).mv mB).kp kE
                      have kEF : ∀ b ob, b ∉ [D] → hE.get? b = some ob → hF.get? b = some ob := fun b ob hb e => (sF.2 b fun q => hb (List.mem_singleton.mpr q)).trans e
                      have mF : Mv (fun b => N b ∨ b = D) (fun b => N b ∨ b = D) hE hF := mv_but (ch := [D]) kEF (fun b hb => .inl (.inr (List.mem_singleton.mp hb))) (NN' (kB.trans kE) hlE)
                      have hnE := hnB.keeps kE
                      refine ⟨ds.length + 1 - (j + 1), by omega, hF, tE, ys ++ [y], nF, es ++ [r], rs, j + 1, _, rfl, stk (fun b ob _ hbD e => kEF b ob (by simpa using hbD) e) (stk (fun b ob _ _ e => kE b ob e) hstB), eF, (hysE.append (.cons eE .nil)).mv mF, hnE.sameBut sF dn.symm, fun b ob e => kEF b ob (fun q => by rw [List.mem_singleton.mp q, h1D] at e; cases e) (kE b ob (kB b ob e)), hlt, rfl, by rw [List.length_append, List.length_singleton, hes], hrs, by simp⟩
                    · cases hm'
                  · cases hm'
          · have hjn : j = ds.length := by omega
            subst hjn
            rw [List.drop_length] at hm'
            cases hm'
            have hst0 := hst'
            obtain ⟨⟨old, s1⟩, s2, s3⟩ := hst'
            refine wpAny_pyNext_enum_end (i := ds.length) R.hh s1 s2 (isList_of s3) (by simp [hlen]) fun hA xA => ?_
            have hkA : ∀ b ob, b ∉ [e, it] → h.get? b = some ob → hA.get? b = some ob := fun b ob hb e' => xA b ob (fun q => hb (by simp [q])) e'
            have mA : Mv (fun b => N b ∨ b = D) (fun b => N b ∨ b = D) h hA := mv_but (ch := [e, it]) hkA (fun b hb => .inr (notSeq_fields (Z.fl _ _ hst0 b hb))) (NN' kh hl)
            have kA : Kp s.heap hA := fun b ob e => hkA b ob (fun q => by have e' := k1 _ _ e; rw [Z.wr b q] at e'; cases e') (kh b ob (k1 _ _ e))
            have hnsA : hA.Ns C m' := let ⟨ob, es, ep, e1, e2⟩ := hns; ⟨ob, es, ep, hkA C ob Cw e1, e2⟩
            have hlA := hkA D _ Dw hl
            refine ⟨m', hnsA, fun h'' hs'' => ?_⟩
            have k'' : Kp s.heap h'' := fun b ob e => (hs''.2 b fun q => by rw [q, sC] at e; cases e).trans (kA b ob e)
            have mv : Mv (fun b => N b ∨ b = D) (fun b => N b ∨ b = D) hA h'' := mv_but (ch := [C]) (fun b ob hb e => (hs''.2 b fun q => hb (List.mem_singleton.mpr q)).trans e) (fun b hb => by rw [List.mem_singleton.mp hb]; exact .inr (notSeq_dict hnsA)) (fun b hb => by
              rcases hb with hb | rfl
              · obtain ⟨vs, n, e⟩ := I0.nl b hb
                exact ⟨vs, n, kA _ _ e⟩
              · exact ⟨_, _, hlA⟩)
            exact hQ D ys n' es h'' tk k'' sD (by rw [List.append_nil]) ((hs''.2 D dn).trans hlA) ((hys.mv mA).mv mv)
        exact codeAny_compStart_list (loop _ rfl) (wpAny_pyIter_enum (hst₁.1.choose_spec) (loop _ rfl))
      · cases hf
    · cases hf
end
end Mine

namespace Mine
open PySem PySem.W PySem.Spec PySem.Calls PyProof.Rows

theorem bindL_skip {kindOf : Str → Option NameKind} {x : Str} : ∀ (l : List (Str × Value)) (m : Str → Option Value), (∀ p ∈ l, p.1 ≠ x) → bindL kindOf l m x = m x
  | [], _, _ => rfl
  | (n, v) :: r, m, h => by
    have hn : x ≠ n := fun q => h (n, v) (.head _) q.symm
    unfold bindL
    rw [bindL_skip r _ fun p hp => h p (.tail _ hp)]
    split
    · exact if_neg hn
    · rfl
theorem bindC_skip {kindOf : Str → Option NameKind} {x : Str} : ∀ (l : List (Str × Value)) (m : Str → Option Value), (∀ p ∈ l, p.1 ≠ x) → bindC kindOf l m x = m x
  | [], _, _ => rfl
  | (n, v) :: r, m, h => by
    have hn : x ≠ n := fun q => h (n, v) (.head _) q.symm
    unfold bindC
    rw [bindC_skip r _ fun p hp => h p (.tail _ hp)]
    split
    · rfl
    · exact if_neg hn
theorem zip_fst {ps : List Str} {vs : List Value} {p : Str × Value} (h : p ∈ ps.zip vs) : p.1 ∈ ps := by
  obtain ⟨a, b⟩ := p
  exact (List.of_mem_zip h).1
theorem bindL_get {kindOf : Str → Option NameKind} : ∀ {ps : List Str} {vs : List Value} (m : Str → Option Value) {i : Nat} {x : Str} {v : Value}, ps.Nodup → At ps i x → vs[i]? = some v → kindOf x = some .local → bindL kindOf (ps.zip vs) m x = some v
  | [], _, _, _, _, _, _, h, _, _ => nomatch h
  | p :: ps, [], _, _, _, _, _, _, hv, _ => by cases hv
  | p :: ps, w :: vs, m, i, x, v, hn, h, hv, hk => by
    obtain ⟨h1, h2⟩ := List.nodup_cons.mp hn
    rw [List.zip_cons_cons]
    unfold bindL
    cases h with
    | here =>
      cases hv
      rw [bindL_skip _ _ fun z hz (q : z.1 = _) => h1 (by rw [← q]; exact zip_fst hz), if_pos hk]
      simp
    | there h => exact bindL_get _ h2 h (by simpa using hv) hk
theorem bindC_get {kindOf : Str → Option NameKind} : ∀ {ps : List Str} {vs : List Value} (m : Str → Option Value) {i : Nat} {x : Str} {v : Value}, ps.Nodup → At ps i x → vs[i]? = some v → kindOf x ≠ some .local → bindC kindOf (ps.zip vs) m x = some v
  | [], _, _, _, _, _, _, h, _, _ => nomatch h
  | p :: ps, [], _, _, _, _, _, _, hv, _ => by cases hv
  | p :: ps, w :: vs, m, i, x, v, hn, h, hv, hk => by
    obtain ⟨h1, h2⟩ := List.nodup_cons.mp hn
    rw [List.zip_cons_cons]
    unfold bindC
    cases h with
    | here =>
      cases hv
      rw [bindC_skip _ _ fun z hz (q : z.1 = _) => h1 (by rw [← q]; exact zip_fst hz), if_neg hk]
      simp
    | there h => exact bindC_get _ h2 h (by simpa using hv) hk

theorem cells_cov : ∀ (names : List (Str × NameKind)) (n : Nat) (acc : List (Str × Addr)) (x : Str), (names.lookup x = some .cell ∨ ∃ c, acc.lookup x = some c) → ∃ c, (cellsFrom n names acc).lookup x = some c
  | [], _, _, _, h => h.elim (fun q => by cases q) id
  | (m, k) :: r, n, acc, x, h => by
    unfold cellsFrom
    have step : ∀ (b : Bool), (x == m) = b → (List.lookup x ((m, k) :: r) = some .cell ∨ ∃ c, acc.lookup x = some c) → (k == .cell) = true → (List.lookup x r = some .cell ∨ ∃ c, List.lookup x ((m, n) :: acc) = some c) := fun b hb h hk => by
      cases b with
      | true => exact .inr ⟨n, by rw [List.lookup_cons, hb]⟩
      | false =>
        rcases h with h | ⟨c, h⟩
        · rw [List.lookup_cons, hb] at h; exact .inl h
        · exact .inr ⟨c, by rw [List.lookup_cons, hb]; exact h⟩
    split
    · rename_i hk
      exact cells_cov r (n + 1) _ x (step _ rfl h hk)
    · rename_i hk
      refine cells_cov r n acc x ?_
      rcases h with h | h
      · rw [List.lookup_cons] at h
        cases q : x == m with
        | true => rw [q] at h; cases h; exact absurd rfl hk
        | false => rw [q] at h; exact .inl h
      · exact .inr h

noncomputable def outD : Option Out → Option PyData
  | some (.ret d) => some d
  | some (.next _) => some .none
  | none => none
noncomputable def nones : Nat → Sto
  | 0 => []
  | n + 1 => none :: nones n
noncomputable def start : List PyData → Nat → Sto
  | [], r => nones r
  | d :: ds, r => some d :: start ds r
theorem vg_nones : ∀ (n i : Nat), vg (nones n) i = none
  | 0, _ => rfl
  | _ + 1, 0 => rfl
  | n + 1, i + 1 => vg_nones n i
theorem vg_start : ∀ (ds : List PyData) (r i : Nat) (d : PyData), vg (start ds r) i = some d → ds[i]? = some d
  | [], r, i, d, h => by rw [start, vg_nones] at h; cases h
  | e :: ds, r, 0, d, h => h
  | e :: ds, r, i + 1, d, h => by rw [List.getElem?_cons_succ]; exact vg_start ds r i d h
noncomputable def fnD (k r : Nat) (f : Sto → Option Out) (ds : List PyData) : Option PyData := bif Nat.beq ds.length k then outD (f (start ds r)) else none

theorem at_prefix {α : Type} {ps l : List α} {i : Nat} {x : α} (h : At (ps ++ l) i x) (hi : i < ps.length) : At ps i x := by
  induction ps generalizing i with
  | nil => exact absurd hi (Nat.not_lt_zero _)
  | cons p ps ih =>
    cases h with
    | here => exact .here
    | there h => exact .there (ih h (Nat.lt_of_succ_lt_succ hi))
theorem at_lt {α : Type} {l : List α} {i : Nat} {x : α} (h : At l i x) : i < l.length := by
  induction h with
  | here => exact Nat.succ_pos _
  | there _ ih => exact Nat.succ_lt_succ ih

theorem fn_ok {B : Base} {lev : Nat} {d : DefRec} {ps ls : List Str} {f : Sto → Option Out} {o' : Option Nat} (hd : d ∈ recsOf PySem.Challenge.pw_xm0105_01) (hn : (ps ++ ls).Nodup) (hv : ps.all (isVar d.scope) = true)
    (hb : ∀ pm cd doc (vs : List Value), vs.length = ps.length → bindArgs (docDef d.name d.params d.body d.scope pm cd doc) ⟨vs, []⟩ = pure (ps.zip vs))
    (hbody : Ex B d.scope (ps ++ ls) lev none d.body f o') (hk : d.scope.kind = .function) (hco : d.scope.isCoroutine = false) (hgen : d.scope.isGenerator = false) :
    FnOk B (lev + 1) d.name (fnD ps.length ls.length f) := by
  refine ⟨⟨d, hd, rfl⟩, fun A N vs ds r fa s E Q R G nl hm hl hF h => ?_⟩
  unfold fnD at hF
  obtain ⟨hlen, hF⟩ := cond_n hF
  have hlen := Nat.eq_of_beq_eq_true hlen
  obtain ⟨a, ob, pm, code, doc, g1, g2, g3, g4⟩ := G.fn d hd
  rw [hm] at g1; cases g1
  have hvl : vs.length = ps.length := by rw [hl.length, hlen]
  have hps : ps.Nodup := (List.nodup_append.mp hn).1
  have var : ∀ x ∈ ps, d.scope.names.lookup x = some .local ∨ d.scope.names.lookup x = some .cell := fun x hx => by
    rcases Bool.or_eq_true_iff.mp (List.all_eq_true.mp hv x hx) with q | q
    · exact .inl (beq_iff_eq.mp q)
    · exact .inr (beq_iff_eq.mp q)
  have Rd' : Room (A.deeper (envOfC d.name d.scope s.heap.objs.size fa code)) lev := ⟨R.hh, by rw [PyProof.Rows.depth_deeper]; have := R.dp; omega, by rw [units_deeper]; have := R.un; omega⟩
  refine wpAny_call (call_cells_ret (by have := R.dp; omega) g2 g3 G.nolimit g4 (hb pm code doc vs hvl) (fun x hx => ?_) (fun h₁ tk F C => ?_) hco hgen hk)
  · rcases var x.1 (zip_fst hx) with q | q
    · exact .inl q
    · exact .inr ⟨q, by obtain ⟨c, e⟩ := cells_cov d.scope.names (s.heap.objs.size + 1) [] x.1 (.inl q); rw [e]; rfl⟩
  · let X : EX := { L := s.heap.objs.size, cells := cellsFrom (s.heap.objs.size + 1) d.scope.names [], qual := d.name ++ ".<locals>.", fn := some fa, code := code, fr := some s.heap.objs.size }
    have kp : Kp s.heap h₁ := F.keep
    have fm : Fm (X.env d.scope) s.heap h₁ := ⟨⟨_, F.ns⟩, fun x c e => ⟨_, C.cell x c e⟩, C.apart, fun x hx => cells_cov _ _ _ x (.inl hx), kp, get_size _, fun x c e => by
      have := C.above x c (PySem.mem_of_lookup e)
      cases q : s.heap.get? c with
      | none => rfl
      | some ob => exact absurd (Heap.lt_size q) (Nat.not_lt.mpr (Nat.le_of_lt this))⟩
    have inn : In B (X.env d.scope) (ps ++ ls) none N (start ds ls.length) { s with heap := h₁, toks := tk } := by
      refine ⟨G.kp kp, fun b hb => let ⟨vs, n, e⟩ := nl b hb; ⟨vs, n, kp _ _ e⟩, fun i x e hi he => ?_, fm.cov⟩
      have he' := vg_start _ _ _ _ he
      obtain ⟨v, hv', xv⟩ := hl.get he'
      have hi' : At ps i x := at_prefix hi (by
        have := (List.getElem?_eq_some_iff.mp he').1
        omega)
      refine ⟨v, ?_, (xv.kp kp).r, fun _ => xv.kp kp⟩
      rcases var x hi'.mem with q | q
      · exact .inl ⟨q, _, F.ns, bindL_get _ hps hi' hv' q⟩
      · obtain ⟨c, e⟩ := cells_cov d.scope.names (s.heap.objs.size + 1) [] x (.inl q)
        refine .inr ⟨q, c, e, ?_⟩
        have := C.cell x c e
        rw [bindC_get _ hps hi' hv' (by show d.scope.names.lookup x ≠ some .local; rw [q]; decide)] at this
        exact this
    have F0 : FSt B (X.env d.scope) (ps ++ ls) s.heap N none 0 (start ds ls.length) { s with heap := h₁, toks := tk } := ⟨inn, G, fm, fun _ q => by cases q⟩
    cases hf : f (start ds ls.length) with
    | none => rw [hf] at hF; cases hF
    | some out =>
      refine hbody X _ s.heap N 0 _ out _ _ _ Rd' F0 hf ?_
      rw [hf] at hF
      cases out with
      | ret d' =>
        cases hF
        intro v h' tk' k' e'
        exact h v h' tk' k' e'
      | next ρ' =>
        cases hF
        intro h' tk' a' F' _
        exact h _ h' tk' F'.fm.keep .none
end Mine

namespace Mine
open PySem PySem.W PySem.Spec PySem.Calls PyProof.Rows

section
variable {B : Base} {sc : Scope} {names : List Str} {lev : Nat} {o : Option Nat}

theorem FSt.one {env : Env} {h₀ : Heap} {N₀ : Addr → Prop} {a : Addr} {ρ : Sto} {s : Shared} {h' : Heap} {tk : Nat} {C : Addr} (F : FSt B env names h₀ N₀ o a ρ s) (k : Heap.SameBut C s.heap h')
    (hw : ∃ ob, s.heap.get? C = some ob ∧ (∀ vs n, ob ≠ lstO vs n) ∧ ∀ vs n, ob ≠ tupO vs n) (hL : C ≠ env.locals) (hC : ∀ x, env.cells.lookup x ≠ some C) (h0 : h₀.get? C = none) : FSt B env names h₀ N₀ o a ρ { s with heap := h', toks := tk } := by
  obtain ⟨oc, e1, e2, e3⟩ := hw
  have lk : Lk s.heap h' := fun b vs n e => (k.2 b fun q => by rw [q, e1] at e; exact e2 vs n (Option.some.inj e)).trans e
  have tk' : ∀ b vs n, s.heap.get? b = some (tupO vs n) → h'.get? b = some (tupO vs n) := fun b vs n e => (k.2 b fun q => by rw [q, e1] at e; exact e3 vs n (Option.some.inj e)).trans e
  have mvN : ∀ N : Addr → Prop, Mv N N s.heap h' := fun N => ⟨fun b vs n e hn => ⟨lk b vs n e, hn⟩, tk'⟩
  have rd : ∀ y v, Rd env s.heap y v → Rd env h' y v := fun y v r => by
    rcases r with ⟨p, m', q, r⟩ | ⟨p, c, q, r⟩
    · exact .inl ⟨p, m', q.sameBut k hL.symm, r⟩
    · exact .inr ⟨p, c, q, r.sameBut k fun z => hC y (z ▸ q)⟩
  have F' : Fm env h₀ h' := ⟨let ⟨m, e⟩ := F.fm.ns; ⟨m, e.sameBut k hL.symm⟩, fun x c e => let ⟨v, q⟩ := F.fm.cell x c e; ⟨v, q.sameBut k fun z => hC x (z ▸ e)⟩, F.fm.apart, F.fm.cov, fun b ob e => (k.2 b fun q => by rw [q, h0] at e; cases e).trans (F.fm.keep b ob e), F.fm.l0, F.fm.c0⟩
  refine ⟨⟨F.g.kp F'.keep, fun b hb => let ⟨vs, n, e⟩ := F.inn.nl b hb; ⟨vs, n, lk _ _ _ e⟩, fun i y d hi hd => ?_, F.inn.cov⟩, F.g, F', fun i hi => ?_⟩
  · obtain ⟨v, r, q1, q2⟩ := F.inn.rd i y d hi hd
    refine ⟨v, rd _ _ r, ?_, fun q => (q2 q).mv (mvN _)⟩
    rcases q1 with q1 | ⟨b, vs, n, ds, c1, c2, c3, c4⟩
    · exact .inl (q1.mv (mvN _))
    · exact .inr ⟨b, vs, n, ds, c1, c2, lk b vs n c3, c4.mv (mvN _)⟩
  · obtain ⟨h1, y, vs, n, h2, h3, h4, h5⟩ := F.own i hi
    exact ⟨h1, y, vs, n, h2, rd _ _ h3, lk _ _ _ h4, fun d hd => let ⟨ds, e, q⟩ := h5 d hd; ⟨ds, e, q.mv (mvN _)⟩⟩

/-- a name gets a comprehension's list: the store comes ahead of the letting go -/
theorem ExS.asgComp {i : Nat} {y x : Str} {py px pos spos : Pos} {elt iter : Expr} {ifs : List Expr} {scope : Scope} {caps : List Str} {is : List Nat} {g : Sto → Option (List PyData)} {t : Sto → Option Bool} {f : Sto → Option PyData}
    (hI : EvI B sc names lev o iter g) (hcap : Ats names is caps) (ht : EvTs B (rlb scope sc) (x :: caps) lev none ifs t) (he : Ev B (rlb scope sc) (x :: caps) lev none elt f) (hic : ∀ i ∈ is, o ≠ some i) (bl : Block sc scope caps x)
    (hi : At names i y) (ho : o ≠ some i) (hn : names.Nodup) (hy : isVar sc y = true := by decide +kernel)
    (hsw : ∀ X : EX, swapsWith (.ListComp elt [⟨.Name x px, iter, ifs, 0⟩] scope pos) (some (.Name y py)) spos.line (X.env sc) = pure true := by intro _; rfl)
    (hs : ∀ (X : EX) (v : Value), foldedSetIterable iter (X.env sc) v = pure v := by intro _ _; rfl) (hk : sc.kind = .function := by rfl) :
    ExS B sc names lev o (.Assign [.Name y py] (.ListComp elt [⟨.Name x px, iter, ifs, 0⟩] scope pos) spos) (asgO i (compO g is t f)) o :=
  fun X A h₀ N₀ a ρ out₀ s E Q R F hf p => by
    obtain ⟨d, hd, rfl⟩ := asgO_some hf
    unfold compO at hd
    split at hd
    · rename_i ds hds
      split at hd
      · rename_i out hout
        cases hd
        have I0 := F.inn
        rw [exec_Assign_Name_used _ _ _ _ (hsw X)]
        refine wpAny_bind (wpAny_standAt (wpAny_bind ?_))
        show wpAny _ A (do let _ ← comprehension (.ListComp elt [⟨.Name x px, iter, ifs, 0⟩] scope pos) scope (X.env sc) _ (newList []) false (eval iter (X.env sc)) (some (assign (.Name y py) (X.env sc)))) _ _ s
        refine wpAny_bind (wpAny_mono (wpAny_comprehension_free (use := some (assign (.Name y py) (X.env sc))) (Q := fun _ s' => Q .next s') rfl (hs X) (bl.closure I0) bl.kind bl.names (hI X A _ ρ ds s E _ R I0 hds fun I fp wr P St h1 h2 t2 k1 k2 W Z hst hP hz => ?_)) (fun _ s' hq => wpAny_pure (wpAny_pure hq)) fun _ _ e => e)
        refine comp_core (RR := fun acc C => compPost (model B.prog B.w) A E (some (assign (.Name y py) (X.env sc))) (fun _ s' => Q .next s') acc C) R I0 hcap hic bl k1 k2 W Z hst hP hz ht he hout ?_
        intro D C h' tk ys n m' hD hC dn hns hl hys kk
        have F' := F.kp (tk := tk) kk
        have xe : Enc (NN N₀ o a) h' (.ref D) (.list out) := I0.enc kk hD hl hys
        show wpAny _ A (assign (.Name y py) (X.env sc) (.ref D)) _ _ _
        refine wpAny_assign_Name (put F' hi hn ho hk hy xe fun h2 t2 F2 tr2 _ => ?_)
        obtain ⟨ob, es, ep, c1, c2, c3⟩ := hns
        have CL : C ≠ (X.env sc).locals := fun q => by
          obtain ⟨m, ob', _, _, f1, _⟩ := F.fm.ns
          rw [← q, hC] at f1; cases f1
        have CC : ∀ x, (X.env sc).cells.lookup x ≠ some C := fun x q => by
          obtain ⟨v, ob', f1, _⟩ := F.fm.cell x C q
          rw [hC] at f1; cases f1
        have CN : ¬ NN N₀ o a C := fun q => by
          obtain ⟨vs, n, f1⟩ := I0.nl C q
          rw [hC] at f1; cases f1
        have e2 := tr2.kf C ob c1 CL CC CN
        have hns2 : h2.Ns C m' := ⟨ob, es, ep, e2, c2, c3⟩
        refine ⟨m', hns2, fun h3 hs3 => ?_⟩
        have F3 := F2.one (tk := t2) hs3 (notSeq_dict hns2) CL CC (kp_none F.fm.keep hC)
        refine p h3 t2 a F3 (((Tr.kp kk).trans tr2).wr (wr := [C]) (fun b ob hb e => (hs3.2 b (fun q => hb (List.mem_singleton.mpr q))).trans e) (fun b hb => by rw [List.mem_singleton.mp hb]; exact hC))
      · cases hd
    · cases hd

/-! ### checks as one word -/
noncomputable def blkB (sc scope : Scope) (caps : List Str) (x : Str) : Bool :=
  scope.kind == .function && scope.names.all (fun y => y.2 != .cell) && scope.names.all (fun y => y.2 != .local || scope.names.lookup y.1 == some .local) && scope.names.lookup x == some .local &&
  scope.names.all (fun y => y.2 != .free || sc.names.lookup y.1 == some .cell) && caps.all (fun y => (rlb scope sc).names.lookup y == some .cell && sc.names.lookup y == some .cell && scope.names.contains (y, NameKind.free)) &&
  (rlb scope sc).names.all (fun y => y.2 != .cell || scope.names.contains (y.1, NameKind.free))
theorem look_mem {l : List (Str × NameKind)} {y : Str} {k : NameKind} (h : l.lookup y = some k) : (y, k) ∈ l := PySem.mem_of_lookup h
theorem blk_of {sc scope : Scope} {caps : List Str} {x : Str} (h : blkB sc scope caps x = true) : Block sc scope caps x := by
  unfold blkB at h
  simp only [Bool.and_eq_true, List.all_eq_true, bne_iff_ne, ne_eq, Bool.or_eq_true, beq_iff_eq, List.contains_iff_mem] at h
  obtain ⟨⟨⟨⟨⟨⟨h1, h2⟩, h3⟩, h4⟩, h5⟩, h6⟩, h7⟩ := h
  exact ⟨h1, fun y hy => h2 y hy, fun y hy hl => (h3 y hy).elim (fun q => absurd hl q) id, h4, fun y hy hl => (h5 y hy).elim (fun q => absurd hl q) id, fun y hy => ⟨(h6 y hy).1.1, (h6 y hy).1.2, (h6 y hy).2⟩, fun y hy => (h7 _ (look_mem hy)).elim (fun q => absurd rfl q) id⟩
noncomputable def blkB2 (sc scope : Scope) (xa xb : Str) : Bool :=
  scope.kind == .function && scope.names.all (fun y => y.2 != .cell) && scope.names.all (fun y => y.2 != .local || scope.names.lookup y.1 == some .local) && (rlb scope sc).names.lookup xa == some .local && (rlb scope sc).names.lookup xb == some .local &&
  xa != xb && scope.names.all (fun y => y.2 != .free) && (rlb scope sc).names.all (fun y => y.2 != .cell)
theorem blk2_of {sc scope : Scope} {xa xb : Str} (h : blkB2 sc scope xa xb = true) : Block2 sc scope xa xb := by
  unfold blkB2 at h
  simp only [Bool.and_eq_true, List.all_eq_true, bne_iff_ne, ne_eq, Bool.or_eq_true, beq_iff_eq] at h
  obtain ⟨⟨⟨⟨⟨⟨⟨h1, h2⟩, h3⟩, h4⟩, h5⟩, h6⟩, h7⟩, h8⟩ := h
  exact ⟨h1, fun y hy => h2 y hy, fun y hy hl => (h3 y hy).elim (fun q => absurd hl q) id, h4, h5, h6, fun y hy => h7 y hy, fun y hy => h8 _ (look_mem hy) rfl⟩
end

noncomputable def stN (i : Nat) : Stmt := (PySem.Challenge.pw_xm0105_01.main.body[i]?).getD (.Pass ⟨0, 0, 0, 0⟩)
noncomputable def recS : Stmt → DefRec
  | .FunctionDef name args body _ _ _ scope _ _ pos => ⟨name, args, body, scope, pos⟩
  | _ => ⟨"", { posonlyargs := [], args := [], vararg := none, kwonlyargs := [], kw_defaults := [], kwarg := none, defaults := [] }, [], { kind := .function, names := [], isGenerator := false, isCoroutine := false, more := [] }, ⟨0, 0, 0, 0⟩⟩
theorem bd1 {α : Type} {P : List α → Prop} (h : ∀ a, P [a]) : ∀ vs : List α, vs.length = 1 → P vs
  | [a], _ => h a
theorem bd2 {α : Type} {P : List α → Prop} (h : ∀ a b, P [a, b]) : ∀ vs : List α, vs.length = 2 → P vs
  | [a, b], _ => h a b
theorem bd3 {α : Type} {P : List α → Prop} (h : ∀ a b c, P [a, b, c]) : ∀ vs : List α, vs.length = 3 → P vs
  | [a, b, c], _ => h a b c
theorem st_mem {i : Nat} (h : Nat.blt i PySem.Challenge.pw_xm0105_01.main.body.length = true) : stN i ∈ PySem.Challenge.pw_xm0105_01.main.body := by
  have h := Nat.blt_eq.mp h
  unfold stN
  rw [List.getElem?_eq_getElem h]
  exact List.getElem_mem h
theorem fn_ok2 {B : Base} {lev i : Nat} {name : Str} {params : Arguments} {body : List Stmt} {scope : Scope} {pos : Pos} {ps ls names : List Str} {f : Sto → Option Out} {o' : Option Nat} (e : recS (stN i) = ⟨name, params, body, scope, pos⟩)
    (hm : recS (stN i) ∈ recsOf PySem.Challenge.pw_xm0105_01) (hnm : ps ++ ls = names) (hn : names.Nodup) (hv : ps.all (isVar scope) = true)
    (hb : ∀ pm cd doc (vs : List Value), vs.length = ps.length → bindArgs (docDef name params body scope pm cd doc) ⟨vs, []⟩ = pure (ps.zip vs))
    (hbody : Ex B scope names lev none body f o') (hk : scope.kind = .function) (hco : scope.isCoroutine = false) (hgen : scope.isGenerator = false) :
    FnOk B (lev + 1) name (fnD ps.length ls.length f) := by
  subst hnm
  have := fn_ok (B := B) (lev := lev) (d := recS (stN i)) (ps := ps) (ls := ls) (f := f) (o' := o') hm hn
  rw [e] at this
  exact this hv hb hbody hk hco hgen
theorem a0 {α : Type} {x : α} {l : List α} : At (x :: l) 0 x := .here
theorem a1 {α : Type} {x x0 : α} {l : List α} : At (x0 :: x :: l) 1 x := .there a0
theorem a2 {α : Type} {x x0 x1 : α} {l : List α} : At (x0 :: x1 :: x :: l) 2 x := .there a1
theorem a3 {α : Type} {x x0 x1 x2 : α} {l : List α} : At (x0 :: x1 :: x2 :: x :: l) 3 x := .there a2
theorem a4 {α : Type} {x x0 x1 x2 x3 : α} {l : List α} : At (x0 :: x1 :: x2 :: x3 :: x :: l) 4 x := .there a3
theorem a5 {α : Type} {x x0 x1 x2 x3 x4 : α} {l : List α} : At (x0 :: x1 :: x2 :: x3 :: x4 :: x :: l) 5 x := .there a4
theorem a6 {α : Type} {x x0 x1 x2 x3 x4 x5 : α} {l : List α} : At (x0 :: x1 :: x2 :: x3 :: x4 :: x5 :: x :: l) 6 x := .there a5
theorem a7 {α : Type} {x x0 x1 x2 x3 x4 x5 x6 : α} {l : List α} : At (x0 :: x1 :: x2 :: x3 :: x4 :: x5 :: x6 :: x :: l) 7 x := .there a6
theorem a8 {α : Type} {x x0 x1 x2 x3 x4 x5 x6 x7 : α} {l : List α} : At (x0 :: x1 :: x2 :: x3 :: x4 :: x5 :: x6 :: x7 :: x :: l) 8 x := .there a7
theorem a9 {α : Type} {x x0 x1 x2 x3 x4 x5 x6 x7 x8 : α} {l : List α} : At (x0 :: x1 :: x2 :: x3 :: x4 :: x5 :: x6 :: x7 :: x8 :: x :: l) 9 x := .there a8
theorem a10 {α : Type} {x x0 x1 x2 x3 x4 x5 x6 x7 x8 x9 : α} {l : List α} : At (x0 :: x1 :: x2 :: x3 :: x4 :: x5 :: x6 :: x7 :: x8 :: x9 :: x :: l) 10 x := .there a9
theorem a11 {α : Type} {x x0 x1 x2 x3 x4 x5 x6 x7 x8 x9 x10 : α} {l : List α} : At (x0 :: x1 :: x2 :: x3 :: x4 :: x5 :: x6 :: x7 :: x8 :: x9 :: x10 :: x :: l) 11 x := .there a10
theorem a12 {α : Type} {x x0 x1 x2 x3 x4 x5 x6 x7 x8 x9 x10 x11 : α} {l : List α} : At (x0 :: x1 :: x2 :: x3 :: x4 :: x5 :: x6 :: x7 :: x8 :: x9 :: x10 :: x11 :: x :: l) 12 x := .there a11
theorem a13 {α : Type} {x x0 x1 x2 x3 x4 x5 x6 x7 x8 x9 x10 x11 x12 : α} {l : List α} : At (x0 :: x1 :: x2 :: x3 :: x4 :: x5 :: x6 :: x7 :: x8 :: x9 :: x10 :: x11 :: x12 :: x :: l) 13 x := .there a12
theorem a14 {α : Type} {x x0 x1 x2 x3 x4 x5 x6 x7 x8 x9 x10 x11 x12 x13 : α} {l : List α} : At (x0 :: x1 :: x2 :: x3 :: x4 :: x5 :: x6 :: x7 :: x8 :: x9 :: x10 :: x11 :: x12 :: x13 :: x :: l) 14 x := .there a13
theorem a15 {α : Type} {x x0 x1 x2 x3 x4 x5 x6 x7 x8 x9 x10 x11 x12 x13 x14 : α} {l : List α} : At (x0 :: x1 :: x2 :: x3 :: x4 :: x5 :: x6 :: x7 :: x8 :: x9 :: x10 :: x11 :: x12 :: x13 :: x14 :: x :: l) 15 x := .there a14
theorem a16 {α : Type} {x x0 x1 x2 x3 x4 x5 x6 x7 x8 x9 x10 x11 x12 x13 x14 x15 : α} {l : List α} : At (x0 :: x1 :: x2 :: x3 :: x4 :: x5 :: x6 :: x7 :: x8 :: x9 :: x10 :: x11 :: x12 :: x13 :: x14 :: x15 :: x :: l) 16 x := .there a15
theorem a17 {α : Type} {x x0 x1 x2 x3 x4 x5 x6 x7 x8 x9 x10 x11 x12 x13 x14 x15 x16 : α} {l : List α} : At (x0 :: x1 :: x2 :: x3 :: x4 :: x5 :: x6 :: x7 :: x8 :: x9 :: x10 :: x11 :: x12 :: x13 :: x14 :: x15 :: x16 :: x :: l) 17 x := .there a16
theorem a18 {α : Type} {x x0 x1 x2 x3 x4 x5 x6 x7 x8 x9 x10 x11 x12 x13 x14 x15 x16 x17 : α} {l : List α} : At (x0 :: x1 :: x2 :: x3 :: x4 :: x5 :: x6 :: x7 :: x8 :: x9 :: x10 :: x11 :: x12 :: x13 :: x14 :: x15 :: x16 :: x17 :: x :: l) 18 x := .there a17
end Mine

namespace Mine
open PySem PySem.W PySem.Spec PySem.Calls PyProof.Rows

theorem FnOk.mono {B : Base} {lev : Nat} {name : Str} {F F' : List PyData → Option PyData} (x : FnOk B lev name F) (h : ∀ ds d, F' ds = some d → F ds = some d) : FnOk B lev name F' :=
  ⟨x.1, fun A N vs ds d f s E Q R G nl hm hl hF k => x.2 A N vs ds d f s E Q R G nl hm hl (h ds d hF) k⟩

theorem sm_lt {a : Int} : sm a = true ↔ a.natAbs < 2 ^ 200 := by
  unfold sm
  rw [Nat.blt_eq]
theorem sm_nat {n : Nat} (h : n < 2 ^ 200) : sm (n : Int) = true := sm_lt.mpr (by simpa using h)
theorem nz_iff {a : Int} : nz a = true ↔ a ≠ 0 := ⟨nz_ne, fun h => by
  unfold nz
  rw [nbeq]
  simp [Int.natAbs_eq_zero, h]⟩

theorem while_step {t : Sto → Option Bool} {f : Sto → Option Out} {n : Nat} {ρ ρ' : Sto} (h1 : t ρ = some true) (h2 : f ρ = some (.next ρ')) : whileO t f (n + 1) ρ = whileO t f n ρ' := by
  rw [whileO, h1, h2]
theorem while_end {t : Sto → Option Bool} {f : Sto → Option Out} {n : Nat} {ρ : Sto} (h1 : t ρ = some false) : whileO t f (n + 1) ρ = some (.next ρ) := by
  rw [whileO, h1]

/-- Euclid's loop -/
theorem euclid {t : Sto → Option Bool} {f : Sto → Option Out} (ht : ∀ a b : Nat, t [some (.int a), some (.int b)] = some (!(Nat.beq b 0)))
    (hf : ∀ a b : Nat, b ≠ 0 → f [some (.int a), some (.int b)] = some (.next [some (.int b), some (.int ((a % b : Nat) : Int))])) :
    ∀ (k n a b : Nat), 2 * k + 1 ≤ n → b < 2 ^ k → whileO t f n [some (.int a), some (.int b)] = some (.next [some (.int (Nat.gcd a b)), some (.int 0)])
  | k, 0, a, b, hn, _ => by omega
  | 0, n + 1, a, b, _, hb => by
    obtain rfl : b = 0 := by simpa using hb
    rw [while_end (by rw [ht]; rfl), Nat.gcd_zero_right]; rfl
  | k + 1, n + 1, a, b, hn, hb => by
    by_cases h : b = 0
    · subst h; rw [while_end (by rw [ht]; rfl), Nat.gcd_zero_right]; rfl
    · have hbe : Nat.beq b 0 = false := by rw [nbeq]; exact decide_eq_false h
      rw [while_step (by rw [ht, hbe]; rfl) (hf a b h)]
      by_cases hc : a % b = 0
      · cases n with
        | zero => omega
        | succ n =>
          rw [hc, while_end (by rw [ht]; rfl)]
          have : Nat.gcd a b = b := by rw [Nat.gcd_comm, Nat.gcd_rec, hc, Nat.gcd_zero_left]
          rw [this]; rfl
      · cases n with
        | zero => omega
        | succ n =>
          have hce : Nat.beq (a % b) 0 = false := by rw [nbeq]; exact decide_eq_false hc
          rw [while_step (by rw [ht, hce]; rfl) (hf b (a % b) hc)]
          have hlt : a % b < b := Nat.mod_lt _ (Nat.pos_of_ne_zero h)
          have h2 : b % (a % b) < 2 ^ k := by
            have h3 : b % (a % b) < a % b := Nat.mod_lt _ (Nat.pos_of_ne_zero hc)
            have h4 : b = (a % b) * (b / (a % b)) + b % (a % b) := (Nat.div_add_mod b (a % b)).symm
            have h5 : 1 ≤ b / (a % b) := Nat.div_pos (Nat.le_of_lt hlt) (Nat.pos_of_ne_zero hc)
            have h6 : a % b * 1 ≤ (a % b) * (b / (a % b)) := Nat.mul_le_mul_left _ h5
            have h7 : 2 ^ (k + 1) = 2 * 2 ^ k := by rw [Nat.pow_succ, Nat.mul_comm]
            omega
          rw [euclid ht hf k n (a % b) (b % (a % b)) (by omega) h2]
          have e1 : Nat.gcd a b = Nat.gcd (a % b) b := by rw [Nat.gcd_comm a b, Nat.gcd_rec b a]
          have e2 : Nat.gcd (a % b) b = Nat.gcd (b % (a % b)) (a % b) := Nat.gcd_rec (a % b) b
          rw [e1, e2, Nat.gcd_comm]

theorem seqO_next {f g : Sto → Option Out} {ρ ρ' : Sto} (h : f ρ = some (.next ρ')) : seqO f g ρ = g ρ' := by
  unfold seqO; rw [h]
theorem seqO_ret {f g : Sto → Option Out} {ρ : Sto} {d : PyData} (h : f ρ = some (.ret d)) : seqO f g ρ = some (.ret d) := by
  unfold seqO; rw [h]

noncomputable def X_gcd : Sto → Option Out := (seqO (unpO [0, 1] true (o1 (consD (o1 (fun ρ => vg ρ 0) absD) (consD (o1 (fun ρ => vg ρ 1) absD) (fun _ => some []))) tupD)) (seqO (whileO (bind2b (fun ρ => vg ρ 1) (fun _ => some (.int 0)) (cmpD .NotEq)) (seqO (unpO [0, 1] true (o1 (consD (fun ρ => vg ρ 1) (consD (bind2 (fun ρ => vg ρ 0) (fun ρ => vg ρ 1) (binD .Mod)) (fun _ => some []))) tupD)) (fun ρ => some (.next ρ))) 500) (seqO (retO (fun ρ => vg ρ 0)) (fun ρ => some (.next ρ)))))
noncomputable def C_gcd : List PyData → Option PyData := fnD 2 0 X_gcd
theorem okc_gcd (B : Base) : FnOk B 1 "gcd" C_gcd :=
  fn_ok2 (lev := 0) (i := 3) (ps := (["a", "b"] : List Str)) (ls := ([] : List Str)) (names := (["a", "b"] : List Str)) rfl (List.mem_filterMap.mpr ⟨stN 3, st_mem (by decide +kernel), by kernel_rfl⟩) rfl (by decide) (by decide +kernel) (fun pm cd doc => bd2 fun _ _ => rfl)
    ((Ex.cons (ExS.unpS (Ev.tup (EvL.cons (Ev.abs (EvR.var a0)) (EvL.cons (Ev.abs (EvR.var a1)) EvL.nil))) (.cons a0 (.cons a1 .nil)) (by decide) (by decide) (by intro _; rfl)) (Ex.cons (ExS.while 500 (EvT.cmp (EvR.var a1) (Ev.int).r) (Ex.cons (ExS.unpS (Ev.tup (EvL.cons (Ev.var a1 (by decide)) (EvL.cons (Ev.bin (EvR.var a0) (EvR.var a1)) EvL.nil))) (.cons a0 (.cons a1 .nil)) (by decide) (by decide) (by intro _; rfl)) Ex.nil)) (Ex.cons (ExS.ret (o' := none) (Ev.var a0 (by decide))) Ex.nil)))) rfl rfl rfl
noncomputable def N_gcd : List PyData → Option PyData
  | [.int a, .int b] => bif sm a && sm b then some (.int (Int.ofNat (Nat.gcd a.natAbs b.natAbs))) else none
  | _ => none
theorem N_gcd_le : ∀ ds d, N_gcd ds = some d → C_gcd ds = some d := fun ds d h => by
  unfold N_gcd at h
  split at h
  · rename_i a b
    obtain ⟨q, rfl⟩ := cond_some h
    rw [Bool.and_eq_true] at q
    have q2 := sm_lt.mp q.2
    show outD (X_gcd [some (.int a), some (.int b)]) = _
    unfold X_gcd
    rw [seqO_next (ρ' := [some (.int (a.natAbs : Int)), some (.int (b.natAbs : Int))]) rfl, seqO_next (euclid (fun a b => rfl) (fun a b hb => ?_) 200 _ _ _ (by decide) q2)]
    · rfl
    · have hz : nz (b : Int) = true := nz_iff.mpr (by omega)
      have e : (Int.fmod (a : Int) (b : Int)) = ((a % b : Nat) : Int) := by
        rw [Int.fmod_eq_emod_of_nonneg _ (by omega)]; rfl
      have e3 : oInt .Mod (a : Int) (b : Int) = some ((a % b : Nat) : Int) := by
        show (bif nz (b : Int) then some (Int.fmod (a : Int) (b : Int)) else none) = _
        rw [hz, e]; rfl
      simp only [seqO, unpO, o1, consD, bind2, vg, binD, e3, Option.map_some, tupD, List.length_cons, List.length_nil]
      rfl
  · cases h
noncomputable def F_gcd := N_gcd
theorem ok_gcd (B : Base) : FnOk B 1 "gcd" F_gcd := (okc_gcd B).mono N_gcd_le

noncomputable def X_gcd_all : Sto → Option Out := (seqO (asgO 1 (fun _ => some (.int 0))) (seqO (forI 2 (o1 (fun ρ => vg ρ 0) asL) (seqO (asgO 1 (o1 (consD (fun ρ => vg ρ 1) (consD (fun ρ => vg ρ 2) (fun _ => some []))) F_gcd)) (fun ρ => some (.next ρ)))) (seqO (retO (fun ρ => vg ρ 1)) (fun ρ => some (.next ρ)))))
noncomputable def F_gcd_all : List PyData → Option PyData := fnD 1 2 X_gcd_all
theorem ok_gcd_all (B : Base) : FnOk B 2 "gcd_all" F_gcd_all :=
  fn_ok2 (lev := 1) (i := 5) (ps := (["numbers"] : List Str)) (ls := (["found", "number"] : List Str)) (names := (["numbers", "found", "number"] : List Str)) rfl (List.mem_filterMap.mpr ⟨stN 5, st_mem (by decide +kernel), by kernel_rfl⟩) rfl (by decide) (by decide +kernel) (fun pm cd doc => bd1 fun _ => rfl)
    ((Ex.cons (ExS.asg Ev.int a1 (by decide) (by decide)) (Ex.cons (ExS.for (EvI.lst (Ev.var a0 (by decide))) (Ex.cons (ExS.asg (Ev.call (ok_gcd B) (by decide) (EvL.cons (Ev.var a1 (by decide)) (EvL.cons (Ev.var a2 (by decide)) EvL.nil))) a1 (by decide) (by decide)) Ex.nil) a2 (by decide) (by decide)) (Ex.cons (ExS.ret (o' := none) (Ev.var a1 (by decide))) Ex.nil)))) rfl rfl rfl

noncomputable def X_rat : Sto → Option Out := (seqO (iteD (bind2b (fun ρ => vg ρ 1) (fun _ => some (.int 0)) (cmpD .Eq)) (fun _ => none) (fun ρ => some (.next ρ))) (seqO (asgO 2 (iteD (bind2b (fun ρ => vg ρ 1) (fun _ => some (.int 0)) (cmpD .Gt)) (o1 (consD (fun ρ => vg ρ 0) (consD (fun ρ => vg ρ 1) (fun _ => some []))) F_gcd) (bind2 (fun _ => some (.int 0)) (o1 (consD (fun ρ => vg ρ 0) (consD (fun ρ => vg ρ 1) (fun _ => some []))) F_gcd) (binD .Sub)))) (seqO (retO (o1 (consD (bind2 (fun ρ => vg ρ 0) (fun ρ => vg ρ 2) (binD .FloorDiv)) (consD (bind2 (fun ρ => vg ρ 1) (fun ρ => vg ρ 2) (binD .FloorDiv)) (fun _ => some []))) tupD)) (fun ρ => some (.next ρ)))))
noncomputable def C_rat : List PyData → Option PyData := fnD 2 1 X_rat
theorem okc_rat (B : Base) : FnOk B 2 "rat" C_rat :=
  fn_ok2 (lev := 1) (i := 10) (ps := (["top", "bottom"] : List Str)) (ls := (["g"] : List Str)) (names := (["top", "bottom", "g"] : List Str)) rfl (List.mem_filterMap.mpr ⟨stN 10, st_mem (by decide +kernel), by kernel_rfl⟩) rfl (by decide) (by decide +kernel) (fun pm cd doc => bd2 fun _ _ => rfl)
    ((Ex.cons (ExS.ite (EvT.cmp (EvR.var a1) (Ev.int).r) Ex.of_dead Ex.nil) (Ex.cons (ExS.asg (Ev.ite (EvT.cmp (EvR.var a1) (Ev.int).r) (Ev.call (ok_gcd B) (by decide) (EvL.cons (Ev.var a0 (by decide)) (EvL.cons (Ev.var a1 (by decide)) EvL.nil))) (Ev.bin (Ev.int).r ((Ev.call (ok_gcd B) (by decide) (EvL.cons (Ev.var a0 (by decide)) (EvL.cons (Ev.var a1 (by decide)) EvL.nil)))).r)) a2 (by decide) (by decide)) (Ex.cons (ExS.ret (o' := none) (Ev.tup (EvL.cons (Ev.bin (EvR.var a0) (EvR.var a2)) (EvL.cons (Ev.bin (EvR.var a1) (EvR.var a2)) EvL.nil)))) Ex.nil)))) rfl rfl rfl
noncomputable def gsg (t b : Int) : Int := match b with
  | .ofNat _ => Int.ofNat (Nat.gcd t.natAbs b.natAbs)
  | .negSucc _ => Int.subNatNat 0 (Nat.gcd t.natAbs b.natAbs)
noncomputable def ratV (t b : Int) : Option PyData := bif sm t && sm b && nz b then some (.tuple [.int (t.fdiv (gsg t b)), .int (b.fdiv (gsg t b))]) else none
noncomputable def N_rat : List PyData → Option PyData
  | [.int t, .int b] => ratV t b
  | _ => none
theorem ilt_t {a b : Int} (h : a < b) : ilt a b = true := by rw [ilt_is]; exact decide_eq_true h
theorem ilt_f {a b : Int} (h : ¬ a < b) : ilt a b = false := by rw [ilt_is]; exact decide_eq_false h
theorem ile_t {a b : Int} (h : a ≤ b) : ile a b = true := by rw [ile_is]; exact decide_eq_true h
theorem ile_f {a b : Int} (h : ¬ a ≤ b) : ile a b = false := by rw [ile_is]; exact decide_eq_false h
theorem ieq_f {a b : Int} (h : a ≠ b) : ieq a b = false := by rw [ieq_is]; exact beq_false_of_ne h
theorem rat_core {t b : Int} (h1 : sm t = true) (h2 : sm b = true) (h3 : nz b = true) : C_rat [.int t, .int b] = some (.tuple [.int (t.fdiv (gsg t b)), .int (b.fdiv (gsg t b))]) := by
  have hb := nz_ne h3
  have g1 : F_gcd [.int t, .int b] = some (.int (Int.ofNat (Nat.gcd t.natAbs b.natAbs))) := by
    show (bif sm t && sm b then _ else none) = _
    rw [h1, h2]; rfl
  have gpos : 0 < Nat.gcd t.natAbs b.natAbs := Nat.gcd_pos_of_pos_right _ (by omega)
  have gle : Nat.gcd t.natAbs b.natAbs ≤ b.natAbs := Nat.gcd_le_right _ (by omega)
  have sb := sm_lt.mp h2
  have key : ∀ g : Int, g.natAbs = Nat.gcd t.natAbs b.natAbs → oInt .FloorDiv t g = some (t.fdiv g) ∧ oInt .FloorDiv b g = some (b.fdiv g) := fun g hg => by
    have z1 : sm g = true := sm_lt.mpr (by omega)
    have z2 : nz g = true := nz_iff.mpr (by omega)
    constructor
    · show (bif sm g && nz g then some (t.fdiv g) else none) = _
      rw [z1, z2]; rfl
    · show (bif sm g && nz g then some (b.fdiv g) else none) = _
      rw [z1, z2]; rfl
  have fin : ∀ g : Int, g.natAbs = Nat.gcd t.natAbs b.natAbs → outD (seqO (retO (o1 (consD (bind2 (fun ρ => vg ρ 0) (fun ρ => vg ρ 2) (binD .FloorDiv)) (consD (bind2 (fun ρ => vg ρ 1) (fun ρ => vg ρ 2) (binD .FloorDiv)) (fun _ => some []))) tupD)) (fun ρ => some (.next ρ)) [some (.int t), some (.int b), some (.int g)]) = some (.tuple [.int (t.fdiv g), .int (b.fdiv g)]) := fun g hg => by
    obtain ⟨k1, k2⟩ := key g hg
    simp only [seqO, retO, o1, consD, bind2, vg, binD, k1, k2, Option.map_some, tupD, List.length_cons, List.length_nil]
    rfl
  show outD (X_rat [some (.int t), some (.int b), none]) = _
  unfold X_rat
  rw [seqO_next (ρ' := [some (.int t), some (.int b), none]) (by simp only [iteD, bind2b, vg, cmpD, ieq_f hb])]
  cases b with
  | ofNat n =>
    have hp : (0 : Int) < Int.ofNat n := by have : Int.ofNat n ≠ 0 := hb; have : Int.ofNat n = (n : Int) := rfl; omega
    rw [seqO_next (ρ' := [some (.int t), some (.int (.ofNat n)), some (.int (Int.ofNat (Nat.gcd t.natAbs (Int.ofNat n).natAbs)))]) (by simp only [asgO, iteD, bind2b, vg, cmpD, ilt_t hp, o1, consD, g1, vput])]
    exact fin _ rfl
  | negSucc n =>
    have hp : ¬ (0 : Int) < Int.negSucc n := by omega
    rw [seqO_next (ρ' := [some (.int t), some (.int (.negSucc n)), some (.int (gsg t (.negSucc n)))]) ?_]
    · refine fin _ ?_
      show (Int.subNatNat 0 _).natAbs = _
      generalize Nat.gcd t.natAbs (Int.negSucc n).natAbs = g
      cases g <;> rfl
    · have e : oInt .Sub 0 (Int.ofNat (Nat.gcd t.natAbs (Int.negSucc n).natAbs)) = some (gsg t (.negSucc n)) := by
        show some (0 - Int.ofNat (Nat.gcd t.natAbs (Int.negSucc n).natAbs)) = some (Int.subNatNat 0 (Nat.gcd t.natAbs (Int.negSucc n).natAbs))
        generalize Nat.gcd t.natAbs (Int.negSucc n).natAbs = g
        congr 1
        cases g <;> rfl
      simp only [asgO, iteD, bind2b, vg, cmpD, ilt_f hp, o1, consD, g1, bind2, binD, e, Option.map_some, vput]
theorem N_rat_le : ∀ ds d, N_rat ds = some d → C_rat ds = some d := fun ds d h => by
  unfold N_rat at h
  split at h
  · obtain ⟨q, rfl⟩ := cond_some h
    simp only [Bool.and_eq_true] at q
    exact rat_core q.1.1 q.1.2 q.2
  · cases h
noncomputable def F_rat := N_rat
theorem ok_rat (B : Base) : FnOk B 2 "rat" F_rat := (okc_rat B).mono N_rat_le
theorem pair0 {a b : PyData} : idxD (.tuple [a, b]) (.int 0) = some a := rfl
theorem pair1 {a b : PyData} : idxD (.tuple [a, b]) (.int 1) = some b := rfl
theorem mul_sm {a b : Int} (h1 : sm a = true) (h2 : sm b = true) : oInt .Mult a b = some (a * b) := by
  show (bif sm a && sm b then some (a * b) else none) = _
  rw [h1, h2]; rfl
theorem oInt_add {a b : Int} : oInt .Add a b = some (a + b) := rfl
theorem oInt_sub {a b : Int} : oInt .Sub a b = some (a - b) := rfl

noncomputable def X_radd : Sto → Option Out := (seqO (retO (o1 (consD (bind2 (bind2 (bind2 (fun ρ => vg ρ 0) (fun _ => some (.int 0)) idxD) (bind2 (fun ρ => vg ρ 1) (fun _ => some (.int 1)) idxD) (binD .Mult)) (bind2 (bind2 (fun ρ => vg ρ 1) (fun _ => some (.int 0)) idxD) (bind2 (fun ρ => vg ρ 0) (fun _ => some (.int 1)) idxD) (binD .Mult)) (binD .Add)) (consD (bind2 (bind2 (fun ρ => vg ρ 0) (fun _ => some (.int 1)) idxD) (bind2 (fun ρ => vg ρ 1) (fun _ => some (.int 1)) idxD) (binD .Mult)) (fun _ => some []))) F_rat)) (fun ρ => some (.next ρ)))
noncomputable def C_radd : List PyData → Option PyData := fnD 2 0 X_radd
theorem okc_radd (B : Base) : FnOk B 3 "radd" C_radd :=
  fn_ok2 (lev := 2) (i := 11) (ps := (["a", "b"] : List Str)) (ls := ([] : List Str)) (names := (["a", "b"] : List Str)) rfl (List.mem_filterMap.mpr ⟨stN 11, st_mem (by decide +kernel), by kernel_rfl⟩) rfl (by decide) (by decide +kernel) (fun pm cd doc => bd2 fun _ _ => rfl)
    ((Ex.cons (ExS.ret (o' := none) (Ev.call (ok_rat B) (by decide) (EvL.cons (Ev.bin ((Ev.bin ((Ev.idx (EvR.var a0) (Ev.int).r)).r ((Ev.idx (EvR.var a1) (Ev.int).r)).r)).r ((Ev.bin ((Ev.idx (EvR.var a1) (Ev.int).r)).r ((Ev.idx (EvR.var a0) (Ev.int).r)).r)).r) (EvL.cons (Ev.bin ((Ev.idx (EvR.var a0) (Ev.int).r)).r ((Ev.idx (EvR.var a1) (Ev.int).r)).r) EvL.nil)))) Ex.nil)) rfl rfl rfl
noncomputable def N_radd : List PyData → Option PyData
  | [.tuple [.int p, .int q], .tuple [.int r, .int s]] => bif sm p && sm q && (sm r && sm s) then ratV (p * s + r * q) (q * s) else none
  | _ => none
theorem N_radd_le : ∀ ds d, N_radd ds = some d → C_radd ds = some d := fun ds d h => by
  unfold N_radd at h
  split at h
  · rename_i p q r s
    obtain ⟨hq, h⟩ := cond_n h
    simp only [Bool.and_eq_true] at hq
    obtain ⟨⟨hp, hq⟩, hr, hs⟩ := hq
    have hF : F_rat [.int (p * s + r * q), .int (q * s)] = some d := h
    show outD (X_radd [some (.tuple [.int p, .int q]), some (.tuple [.int r, .int s])]) = _
    unfold X_radd
    simp only [seqO, retO, o1, consD, bind2, vg, pair0, pair1, binD, mul_sm, hp, hq, hr, hs, oInt_add, Option.map_some, hF]
    rfl
  · cases h
noncomputable def F_radd := N_radd
theorem ok_radd (B : Base) : FnOk B 3 "radd" F_radd := (okc_radd B).mono N_radd_le

noncomputable def X_rsub : Sto → Option Out := (seqO (retO (o1 (consD (bind2 (bind2 (bind2 (fun ρ => vg ρ 0) (fun _ => some (.int 0)) idxD) (bind2 (fun ρ => vg ρ 1) (fun _ => some (.int 1)) idxD) (binD .Mult)) (bind2 (bind2 (fun ρ => vg ρ 1) (fun _ => some (.int 0)) idxD) (bind2 (fun ρ => vg ρ 0) (fun _ => some (.int 1)) idxD) (binD .Mult)) (binD .Sub)) (consD (bind2 (bind2 (fun ρ => vg ρ 0) (fun _ => some (.int 1)) idxD) (bind2 (fun ρ => vg ρ 1) (fun _ => some (.int 1)) idxD) (binD .Mult)) (fun _ => some []))) F_rat)) (fun ρ => some (.next ρ)))
noncomputable def C_rsub : List PyData → Option PyData := fnD 2 0 X_rsub
theorem okc_rsub (B : Base) : FnOk B 3 "rsub" C_rsub :=
  fn_ok2 (lev := 2) (i := 12) (ps := (["a", "b"] : List Str)) (ls := ([] : List Str)) (names := (["a", "b"] : List Str)) rfl (List.mem_filterMap.mpr ⟨stN 12, st_mem (by decide +kernel), by kernel_rfl⟩) rfl (by decide) (by decide +kernel) (fun pm cd doc => bd2 fun _ _ => rfl)
    ((Ex.cons (ExS.ret (o' := none) (Ev.call (ok_rat B) (by decide) (EvL.cons (Ev.bin ((Ev.bin ((Ev.idx (EvR.var a0) (Ev.int).r)).r ((Ev.idx (EvR.var a1) (Ev.int).r)).r)).r ((Ev.bin ((Ev.idx (EvR.var a1) (Ev.int).r)).r ((Ev.idx (EvR.var a0) (Ev.int).r)).r)).r) (EvL.cons (Ev.bin ((Ev.idx (EvR.var a0) (Ev.int).r)).r ((Ev.idx (EvR.var a1) (Ev.int).r)).r) EvL.nil)))) Ex.nil)) rfl rfl rfl
noncomputable def N_rsub : List PyData → Option PyData
  | [.tuple [.int p, .int q], .tuple [.int r, .int s]] => bif sm p && sm q && (sm r && sm s) then ratV (p * s - r * q) (q * s) else none
  | _ => none
theorem N_rsub_le : ∀ ds d, N_rsub ds = some d → C_rsub ds = some d := fun ds d h => by
  unfold N_rsub at h
  split at h
  · rename_i p q r s
    obtain ⟨hq, h⟩ := cond_n h
    simp only [Bool.and_eq_true] at hq
    obtain ⟨⟨hp, hq⟩, hr, hs⟩ := hq
    have hF : F_rat [.int (p * s - r * q), .int (q * s)] = some d := h
    show outD (X_rsub [some (.tuple [.int p, .int q]), some (.tuple [.int r, .int s])]) = _
    unfold X_rsub
    simp only [seqO, retO, o1, consD, bind2, vg, pair0, pair1, binD, mul_sm, hp, hq, hr, hs, oInt_sub, Option.map_some, hF]
    rfl
  · cases h
noncomputable def F_rsub := N_rsub
theorem ok_rsub (B : Base) : FnOk B 3 "rsub" F_rsub := (okc_rsub B).mono N_rsub_le

noncomputable def X_rmul : Sto → Option Out := (seqO (retO (o1 (consD (bind2 (bind2 (fun ρ => vg ρ 0) (fun _ => some (.int 0)) idxD) (bind2 (fun ρ => vg ρ 1) (fun _ => some (.int 0)) idxD) (binD .Mult)) (consD (bind2 (bind2 (fun ρ => vg ρ 0) (fun _ => some (.int 1)) idxD) (bind2 (fun ρ => vg ρ 1) (fun _ => some (.int 1)) idxD) (binD .Mult)) (fun _ => some []))) F_rat)) (fun ρ => some (.next ρ)))
noncomputable def C_rmul : List PyData → Option PyData := fnD 2 0 X_rmul
theorem okc_rmul (B : Base) : FnOk B 3 "rmul" C_rmul :=
  fn_ok2 (lev := 2) (i := 13) (ps := (["a", "b"] : List Str)) (ls := ([] : List Str)) (names := (["a", "b"] : List Str)) rfl (List.mem_filterMap.mpr ⟨stN 13, st_mem (by decide +kernel), by kernel_rfl⟩) rfl (by decide) (by decide +kernel) (fun pm cd doc => bd2 fun _ _ => rfl)
    ((Ex.cons (ExS.ret (o' := none) (Ev.call (ok_rat B) (by decide) (EvL.cons (Ev.bin ((Ev.idx (EvR.var a0) (Ev.int).r)).r ((Ev.idx (EvR.var a1) (Ev.int).r)).r) (EvL.cons (Ev.bin ((Ev.idx (EvR.var a0) (Ev.int).r)).r ((Ev.idx (EvR.var a1) (Ev.int).r)).r) EvL.nil)))) Ex.nil)) rfl rfl rfl
noncomputable def N_rmul : List PyData → Option PyData
  | [.tuple [.int p, .int q], .tuple [.int r, .int s]] => bif sm p && sm q && (sm r && sm s) then ratV (p * r) (q * s) else none
  | _ => none
theorem N_rmul_le : ∀ ds d, N_rmul ds = some d → C_rmul ds = some d := fun ds d h => by
  unfold N_rmul at h
  split at h
  · rename_i p q r s
    obtain ⟨hq, h⟩ := cond_n h
    simp only [Bool.and_eq_true] at hq
    obtain ⟨⟨hp, hq⟩, hr, hs⟩ := hq
    have hF : F_rat [.int (p * r), .int (q * s)] = some d := h
    show outD (X_rmul [some (.tuple [.int p, .int q]), some (.tuple [.int r, .int s])]) = _
    unfold X_rmul
    simp only [seqO, retO, o1, consD, bind2, vg, pair0, pair1, binD, mul_sm, hp, hq, hr, hs, Option.map_some, hF]
    rfl
  · cases h
noncomputable def F_rmul := N_rmul
theorem ok_rmul (B : Base) : FnOk B 3 "rmul" F_rmul := (okc_rmul B).mono N_rmul_le

noncomputable def X_rdiv : Sto → Option Out := (seqO (retO (o1 (consD (bind2 (bind2 (fun ρ => vg ρ 0) (fun _ => some (.int 0)) idxD) (bind2 (fun ρ => vg ρ 1) (fun _ => some (.int 1)) idxD) (binD .Mult)) (consD (bind2 (bind2 (fun ρ => vg ρ 0) (fun _ => some (.int 1)) idxD) (bind2 (fun ρ => vg ρ 1) (fun _ => some (.int 0)) idxD) (binD .Mult)) (fun _ => some []))) F_rat)) (fun ρ => some (.next ρ)))
noncomputable def C_rdiv : List PyData → Option PyData := fnD 2 0 X_rdiv
theorem okc_rdiv (B : Base) : FnOk B 3 "rdiv" C_rdiv :=
  fn_ok2 (lev := 2) (i := 14) (ps := (["a", "b"] : List Str)) (ls := ([] : List Str)) (names := (["a", "b"] : List Str)) rfl (List.mem_filterMap.mpr ⟨stN 14, st_mem (by decide +kernel), by kernel_rfl⟩) rfl (by decide) (by decide +kernel) (fun pm cd doc => bd2 fun _ _ => rfl)
    ((Ex.cons (ExS.ret (o' := none) (Ev.call (ok_rat B) (by decide) (EvL.cons (Ev.bin ((Ev.idx (EvR.var a0) (Ev.int).r)).r ((Ev.idx (EvR.var a1) (Ev.int).r)).r) (EvL.cons (Ev.bin ((Ev.idx (EvR.var a0) (Ev.int).r)).r ((Ev.idx (EvR.var a1) (Ev.int).r)).r) EvL.nil)))) Ex.nil)) rfl rfl rfl
noncomputable def N_rdiv : List PyData → Option PyData
  | [.tuple [.int p, .int q], .tuple [.int r, .int s]] => bif sm p && sm q && (sm r && sm s) then ratV (p * s) (q * r) else none
  | _ => none
theorem N_rdiv_le : ∀ ds d, N_rdiv ds = some d → C_rdiv ds = some d := fun ds d h => by
  unfold N_rdiv at h
  split at h
  · rename_i p q r s
    obtain ⟨hq, h⟩ := cond_n h
    simp only [Bool.and_eq_true] at hq
    obtain ⟨⟨hp, hq⟩, hr, hs⟩ := hq
    have hF : F_rat [.int (p * s), .int (q * r)] = some d := h
    show outD (X_rdiv [some (.tuple [.int p, .int q]), some (.tuple [.int r, .int s])]) = _
    unfold X_rdiv
    simp only [seqO, retO, o1, consD, bind2, vg, pair0, pair1, binD, mul_sm, hp, hq, hr, hs, Option.map_some, hF]
    rfl
  · cases h
noncomputable def F_rdiv := N_rdiv
theorem ok_rdiv (B : Base) : FnOk B 3 "rdiv" F_rdiv := (okc_rdiv B).mono N_rdiv_le

noncomputable def X_rneg : Sto → Option Out := (seqO (retO (o1 (consD (bind2 (fun _ => some (.int 0)) (bind2 (fun ρ => vg ρ 0) (fun _ => some (.int 0)) idxD) (binD .Sub)) (consD (bind2 (fun ρ => vg ρ 0) (fun _ => some (.int 1)) idxD) (fun _ => some []))) tupD)) (fun ρ => some (.next ρ)))
noncomputable def F_rneg : List PyData → Option PyData := fnD 1 0 X_rneg
theorem ok_rneg (B : Base) : FnOk B 1 "rneg" F_rneg :=
  fn_ok2 (lev := 0) (i := 15) (ps := (["a"] : List Str)) (ls := ([] : List Str)) (names := (["a"] : List Str)) rfl (List.mem_filterMap.mpr ⟨stN 15, st_mem (by decide +kernel), by kernel_rfl⟩) rfl (by decide) (by decide +kernel) (fun pm cd doc => bd1 fun _ => rfl)
    ((Ex.cons (ExS.ret (o' := none) (Ev.tup (EvL.cons (Ev.bin (Ev.int).r ((Ev.idx (EvR.var a0) (Ev.int).r)).r) (EvL.cons (Ev.idx (EvR.var a0) (Ev.int).r) EvL.nil)))) Ex.nil)) rfl rfl rfl

noncomputable def X_is_vast : Sto → Option Out := (seqO (asgO 1 (bind2 (o1 (bind2 (fun ρ => vg ρ 0) (fun _ => some (.int 0)) idxD) absD) (bind2 (fun ρ => vg ρ 0) (fun _ => some (.int 1)) idxD) maxD)) (seqO (retO (andV (fun ρ => ((bind2b (fun ρ => vg ρ 1) (bind2 (fun _ => some (.int 2)) (fun _ => some (.int 64)) (binD .Pow)) (cmpD .GtE)) ρ).map .bool) (fun _ => none))) (fun ρ => some (.next ρ))))
noncomputable def C_is_vast : List PyData → Option PyData := fnD 1 1 X_is_vast
theorem okc_is_vast (B : Base) : FnOk B 1 "is_vast" C_is_vast :=
  fn_ok2 (lev := 0) (i := 16) (ps := (["a"] : List Str)) (ls := (["greatest"] : List Str)) (names := (["a", "greatest"] : List Str)) rfl (List.mem_filterMap.mpr ⟨stN 16, st_mem (by decide +kernel), by kernel_rfl⟩) rfl (by decide) (by decide +kernel) (fun pm cd doc => bd1 fun _ => rfl)
    ((Ex.cons (ExS.asg (Ev.max ((Ev.abs ((Ev.idx (EvR.var a0) (Ev.int).r)).r)).r ((Ev.idx (EvR.var a0) (Ev.int).r)).r) a1 (by decide) (by decide)) (Ex.cons (ExS.ret (o' := none) (Ev.and (Ev.cmp (EvR.var a1) ((Ev.bin (Ev.int).r (Ev.int).r)).r) Ev.dead)) Ex.nil))) rfl rfl rfl
noncomputable def K64 : Int := 18446744073709551616
theorem p64 : oInt .Pow 2 64 = some K64 := by
  have e : oInt .Pow 2 64 = some ((2 : Int) ^ 64) := rfl
  rw [e]
  unfold K64
  simp only [Int.reducePow]
noncomputable def vastK (K p q : Int) : Bool := bif ilt (iabs p) q then ilt q K else ilt (iabs p) K
noncomputable def vastV (p q : Int) : Bool := vastK K64 p q
theorem vast_le {K p q : Int} (hv : vastK K p q = true) : ilt (bif ilt (iabs p) q then q else iabs p) K = true := by
  unfold vastK at hv
  cases hc : ilt (iabs p) q
  · rw [hc] at hv; exact hv
  · rw [hc] at hv; exact hv
noncomputable def N_is_vast : List PyData → Option PyData
  | [.tuple [.int p, .int q]] => bif vastV p q then some (.bool false) else none
  | _ => none
theorem vast_core {p q K : Int} (hK : oInt .Pow 2 64 = some K) (e : ile K (bif ilt (iabs p) q then q else iabs p) = false) : C_is_vast [.tuple [.int p, .int q]] = some (.bool false) := by
  show outD (X_is_vast [some (.tuple [.int p, .int q]), none]) = _
  unfold X_is_vast
  rw [seqO_next (ρ' := [some (.tuple [.int p, .int q]), some (.int (bif ilt (iabs p) q then q else iabs p))]) rfl]
  simp only [seqO, retO, andV, bind2b, bind2, vg, binD, hK, Option.map_some, cmpD, e]
  rfl
theorem not_le_K {a b : Int} (h : ilt a b = true) : ile b a = false := by
  rw [ilt_is] at h
  rw [ile_is]
  exact decide_eq_false (Int.not_le.mpr (of_decide_eq_true h))
theorem N_is_vast_le : ∀ ds d, N_is_vast ds = some d → C_is_vast ds = some d := fun ds d h => by
  unfold N_is_vast at h
  split at h
  · rename_i p q
    obtain ⟨hv, rfl⟩ := cond_some h
    refine vast_core p64 (not_le_K ?_)
    exact vast_le hv
  · cases h
noncomputable def F_is_vast := N_is_vast
theorem ok_is_vast (B : Base) : FnOk B 1 "is_vast" F_is_vast := (okc_is_vast B).mono N_is_vast_le

noncomputable def X_rcompare : Sto → Option Out := (seqO (asgO 2 (bind2 (bind2 (bind2 (fun ρ => vg ρ 0) (fun _ => some (.int 0)) idxD) (bind2 (fun ρ => vg ρ 1) (fun _ => some (.int 1)) idxD) (binD .Mult)) (bind2 (bind2 (fun ρ => vg ρ 1) (fun _ => some (.int 0)) idxD) (bind2 (fun ρ => vg ρ 0) (fun _ => some (.int 1)) idxD) (binD .Mult)) (binD .Sub))) (seqO (retO (bind2 (fun ρ => ((bind2b (fun ρ => vg ρ 2) (fun _ => some (.int 0)) (cmpD .Gt)) ρ).map .bool) (fun ρ => ((bind2b (fun ρ => vg ρ 2) (fun _ => some (.int 0)) (cmpD .Lt)) ρ).map .bool) (binD .Sub))) (fun ρ => some (.next ρ))))
noncomputable def F_rcompare : List PyData → Option PyData := fnD 2 1 X_rcompare
theorem ok_rcompare (B : Base) : FnOk B 1 "rcompare" F_rcompare :=
  fn_ok2 (lev := 0) (i := 17) (ps := (["a", "b"] : List Str)) (ls := (["off"] : List Str)) (names := (["a", "b", "off"] : List Str)) rfl (List.mem_filterMap.mpr ⟨stN 17, st_mem (by decide +kernel), by kernel_rfl⟩) rfl (by decide) (by decide +kernel) (fun pm cd doc => bd2 fun _ _ => rfl)
    ((Ex.cons (ExS.asg (Ev.bin ((Ev.bin ((Ev.idx (EvR.var a0) (Ev.int).r)).r ((Ev.idx (EvR.var a1) (Ev.int).r)).r)).r ((Ev.bin ((Ev.idx (EvR.var a1) (Ev.int).r)).r ((Ev.idx (EvR.var a0) (Ev.int).r)).r)).r) a2 (by decide) (by decide)) (Ex.cons (ExS.ret (o' := none) (Ev.bin ((Ev.cmp (EvR.var a2) (Ev.int).r)).r ((Ev.cmp (EvR.var a2) (Ev.int).r)).r)) Ex.nil))) rfl rfl rfl

noncomputable def X_cut : Sto → Option Out := (seqO (retO (fun ρ => onlyL (bind2 (o1 (sliceD (fun ρ => vg ρ 0) (fun _ => some none) (o1 (fun ρ => vg ρ 1) asI)) cpyD) (fun ρ => onlyL (bind2 (o1 (consD (fun _ => some (.tuple [.int 0, .int 1])) (fun _ => some [])) lstD) (bind2 (fun ρ => vg ρ 1) (o1 (fun ρ => vg ρ 0) lenD) (binD .Sub)) (binD .Mult) ρ)) (binD .Add) ρ))) (fun ρ => some (.next ρ)))
noncomputable def F_cut : List PyData → Option PyData := fnD 2 0 X_cut
theorem ok_cut (B : Base) : FnOk B 1 "cut" F_cut :=
  fn_ok2 (lev := 0) (i := 19) (ps := (["a", "order"] : List Str)) (ls := ([] : List Str)) (names := (["a", "order"] : List Str)) rfl (List.mem_filterMap.mpr ⟨stN 19, st_mem (by decide +kernel), by kernel_rfl⟩) rfl (by decide) (by decide +kernel) (fun pm cd doc => bd2 fun _ _ => rfl)
    ((Ex.cons (ExS.ret (o' := none) ((EvNew.bin (((EvNew.copy (((EvNew.slice (EvR.var a0) EvP.none (EvP.some (EvR.var a1)))).ev).r)).ev).r (((EvNew.bin (((EvNew.lst (EvL.cons Ev.r0 EvL.nil))).ev).r ((Ev.bin (EvR.var a1) ((Ev.len (EvR.var a0))).r)).r)).ev).r)).ev) Ex.nil)) rfl rfl rfl

noncomputable def X_let : Sto → Option Out := (seqO (iteD (o1 (o1 (consD (fun ρ => vg ρ 0) (fun _ => some [])) F_is_vast) asB) (fun _ => none) (fun ρ => some (.next ρ))) (seqO (retO (fun ρ => vg ρ 0)) (fun ρ => some (.next ρ))))
noncomputable def C_let : List PyData → Option PyData := fnD 1 0 X_let
theorem okc_let (B : Base) : FnOk B 2 "let" C_let :=
  fn_ok2 (lev := 1) (i := 20) (ps := (["number"] : List Str)) (ls := ([] : List Str)) (names := (["number"] : List Str)) rfl (List.mem_filterMap.mpr ⟨stN 20, st_mem (by decide +kernel), by kernel_rfl⟩) rfl (by decide) (by decide +kernel) (fun pm cd doc => bd1 fun _ => rfl)
    ((Ex.cons (ExS.ite (EvT.val (Ev.call (ok_is_vast B) (by decide) (EvL.cons (Ev.var a0 (by decide)) EvL.nil))) Ex.of_dead Ex.nil) (Ex.cons (ExS.ret (o' := none) (Ev.var a0 (by decide))) Ex.nil))) rfl rfl rfl
noncomputable def N_let : List PyData → Option PyData
  | [.tuple [.int p, .int q]] => bif vastV p q then some (.tuple [.int p, .int q]) else none
  | _ => none
theorem N_let_le : ∀ ds d, N_let ds = some d → C_let ds = some d := fun ds d h => by
  unfold N_let at h
  split at h
  · rename_i p q
    obtain ⟨hv, rfl⟩ := cond_some h
    have hF : F_is_vast [.tuple [.int p, .int q]] = some (.bool false) := by
      show (bif vastV p q then _ else none) = _
      rw [hv]; rfl
    show outD (X_let [some (.tuple [.int p, .int q])]) = _
    unfold X_let
    rw [seqO_next (ρ' := [some (.tuple [.int p, .int q])]) (by simp only [iteD, o1, consD, vg, hF, asB])]
    rfl
  · cases h
noncomputable def F_let := N_let
theorem ok_let (B : Base) : FnOk B 2 "let" F_let := (okc_let B).mono N_let_le

noncomputable def X_mixed : Sto → Option Out := (seqO (asgO 3 (fun _ => some (.tuple [.int 0, .int 1]))) (seqO (forI 4 (o1 (bind2 (fun ρ => vg ρ 2) (fun _ => some (.int 1)) (binD .Add)) rngD1) (seqO (iteD (andT (bind2b (bind2 (fun ρ => vg ρ 0) (fun ρ => vg ρ 4) idxD) (fun _ => some (.tuple [.int 0, .int 1])) (cmpD .NotEq)) (bind2b (bind2 (fun ρ => vg ρ 1) (bind2 (fun ρ => vg ρ 2) (fun ρ => vg ρ 4) (binD .Sub)) idxD) (fun _ => some (.tuple [.int 0, .int 1])) (cmpD .NotEq))) (seqO (asgO 3 (o1 (consD (fun ρ => vg ρ 3) (consD (o1 (consD (bind2 (fun ρ => vg ρ 0) (fun ρ => vg ρ 4) idxD) (consD (bind2 (fun ρ => vg ρ 1) (bind2 (fun ρ => vg ρ 2) (fun ρ => vg ρ 4) (binD .Sub)) idxD) (fun _ => some []))) F_rmul) (fun _ => some []))) F_radd)) (fun ρ => some (.next ρ))) (fun ρ => some (.next ρ))) (fun ρ => some (.next ρ)))) (seqO (retO (fun ρ => vg ρ 3)) (fun ρ => some (.next ρ)))))
noncomputable def F_mixed : List PyData → Option PyData := fnD 3 2 X_mixed
theorem ok_mixed (B : Base) : FnOk B 4 "mixed" F_mixed :=
  fn_ok2 (lev := 3) (i := 21) (ps := (["a", "b", "at"] : List Str)) (ls := (["found", "spot"] : List Str)) (names := (["a", "b", "at", "found", "spot"] : List Str)) rfl (List.mem_filterMap.mpr ⟨stN 21, st_mem (by decide +kernel), by kernel_rfl⟩) rfl (by decide) (by decide +kernel) (fun pm cd doc => bd3 fun _ _ _ => rfl)
    ((Ex.cons (ExS.asg Ev.r0 a3 (by decide) (by decide)) (Ex.cons (ExS.for (EvI.rng1 ((Ev.bin (EvR.var a2) (Ev.int).r)).r) (Ex.cons (ExS.ite (EvT.and (EvT.cmp ((Ev.idx (EvR.var a0) (EvR.var a4))).r (Ev.r0).r) (EvT.cmp ((Ev.idx (EvR.var a1) ((Ev.bin (EvR.var a2) (EvR.var a4))).r)).r (Ev.r0).r)) (Ex.cons (ExS.asg (Ev.call (ok_radd B) (by decide) (EvL.cons (Ev.var a3 (by decide)) (EvL.cons (Ev.call (ok_rmul B) (by decide) (EvL.cons (Ev.idx (EvR.var a0) (EvR.var a4)) (EvL.cons (Ev.idx (EvR.var a1) ((Ev.bin (EvR.var a2) (EvR.var a4))).r) EvL.nil))) EvL.nil))) a3 (by decide) (by decide)) Ex.nil) Ex.nil) Ex.nil) a4 (by decide) (by decide)) (Ex.cons (ExS.ret (o' := none) (Ev.var a3 (by decide))) Ex.nil)))) rfl rfl rfl

noncomputable def X_smul : Sto → Option Out := (seqO (retO (compO (o1 (bind2 (o1 (fun ρ => vg ρ 0) lenD) (o1 (fun ρ => vg ρ 1) lenD) minD) rngD1) [0, 1] (fun _ => some true) (o1 (consD (o1 (consD (fun ρ => vg ρ 1) (consD (fun ρ => vg ρ 2) (consD (fun ρ => vg ρ 0) (fun _ => some [])))) F_mixed) (fun _ => some [])) F_let))) (fun ρ => some (.next ρ)))
noncomputable def F_smul : List PyData → Option PyData := fnD 2 0 X_smul
theorem ok_smul (B : Base) : FnOk B 5 "smul" F_smul :=
  fn_ok2 (lev := 4) (i := 22) (ps := (["a", "b"] : List Str)) (ls := ([] : List Str)) (names := (["a", "b"] : List Str)) rfl (List.mem_filterMap.mpr ⟨stN 22, st_mem (by decide +kernel), by kernel_rfl⟩) rfl (by decide) (by decide +kernel) (fun pm cd doc => bd2 fun _ _ => rfl)
    ((Ex.cons (ExS.ret (o' := none) ((EvNew.comp (EvI.rng1 ((Ev.min ((Ev.len (EvR.var a0))).r ((Ev.len (EvR.var a1))).r)).r) (.cons a0 (.cons a1 .nil)) EvTs.nil (Ev.call (ok_let B) (by decide) (EvL.cons (Ev.call (ok_mixed B) (by decide) (EvL.cons (Ev.var a1 (by decide)) (EvL.cons (Ev.var a2 (by decide)) (EvL.cons (Ev.var a0 (by decide)) EvL.nil)))) EvL.nil)) (by decide +kernel) (blk_of (by decide +kernel)))).ev) Ex.nil)) rfl rfl rfl

noncomputable def X_sinverse : Sto → Option Out := (seqO (iteD (andT (bind2b (o1 (fun ρ => vg ρ 0) lenD) (fun _ => some (.int 0)) (cmpD .Gt)) (bind2b (bind2 (fun ρ => vg ρ 0) (fun _ => some (.int 0)) idxD) (fun _ => some (.tuple [.int 0, .int 1])) (cmpD .Eq))) (fun _ => none) (fun ρ => some (.next ρ))) (seqO (asgO 1 (o1 (fun _ => some []) lstD)) (seqO (forI 2 (o1 (o1 (fun ρ => vg ρ 0) lenD) rngD1) (seqO (asgO 3 (iteD (bind2b (fun ρ => vg ρ 2) (fun _ => some (.int 0)) (cmpD .Eq)) (fun _ => some (.tuple [.int 1, .int 1])) (fun _ => some (.tuple [.int 0, .int 1])))) (seqO (forI 4 (bind2l (fun _ => some (.int 1)) (bind2 (fun ρ => vg ρ 2) (fun _ => some (.int 1)) (binD .Add)) rngD2) (seqO (asgO 3 (o1 (consD (fun ρ => vg ρ 3) (consD (o1 (consD (bind2 (fun ρ => vg ρ 0) (fun ρ => vg ρ 4) idxD) (consD (bind2 (fun ρ => vg ρ 1) (bind2 (fun ρ => vg ρ 2) (fun ρ => vg ρ 4) (binD .Sub)) idxD) (fun _ => some []))) F_rmul) (fun _ => some []))) F_rsub)) (fun ρ => some (.next ρ)))) (seqO (appO 1 (o1 (consD (o1 (consD (fun ρ => vg ρ 3) (consD (bind2 (fun ρ => vg ρ 0) (fun _ => some (.int 0)) idxD) (fun _ => some []))) F_rdiv) (fun _ => some [])) F_let)) (fun ρ => some (.next ρ)))))) (seqO (retO fun ρ => vg ρ 1) (fun ρ => some (.next ρ))))))
noncomputable def F_sinverse : List PyData → Option PyData := fnD 1 4 X_sinverse
theorem ok_sinverse (B : Base) : FnOk B 4 "sinverse" F_sinverse :=
  fn_ok2 (lev := 3) (i := 23) (ps := (["a"] : List Str)) (ls := (["found", "at", "total", "spot"] : List Str)) (names := (["a", "found", "at", "total", "spot"] : List Str)) rfl (List.mem_filterMap.mpr ⟨stN 23, st_mem (by decide +kernel), by kernel_rfl⟩) rfl (by decide) (by decide +kernel) (fun pm cd doc => bd1 fun _ => rfl)
    ((Ex.cons (ExS.ite (EvT.and (EvT.cmp ((Ev.len (EvR.var a0))).r (Ev.int).r) (EvT.cmp ((Ev.idx (EvR.var a0) (Ev.int).r)).r (Ev.r0).r)) Ex.of_dead Ex.nil) (Ex.cons (ExS.asgOwn (EvNew.lst EvL.nil) a1 (by decide)) (Ex.cons (ExS.for (EvI.rng1 ((Ev.len (EvR.var a0))).r) (Ex.cons (ExS.asg (Ev.ite (EvT.cmp (EvR.var a2) (Ev.int).r) Ev.r1 Ev.r0) a3 (by decide) (by decide)) (Ex.cons (ExS.for (EvI.rng2 (Ev.int).r ((Ev.bin (EvR.var a2) (Ev.int).r)).r) (Ex.cons (ExS.asg (Ev.call (ok_rsub B) (by decide) (EvL.cons (Ev.var a3 (by decide)) (EvL.cons (Ev.call (ok_rmul B) (by decide) (EvL.cons (Ev.idx (EvR.var a0) (EvR.var a4)) (EvL.cons (Ev.idx (EvR.var a1) ((Ev.bin (EvR.var a2) (EvR.var a4))).r) EvL.nil))) EvL.nil))) a3 (by decide) (by decide)) Ex.nil) a4 (by decide) (by decide)) (Ex.cons (ExS.app (Ev.call (ok_let B) (by decide) (EvL.cons (Ev.call (ok_rdiv B) (by decide) (EvL.cons (Ev.var a3 (by decide)) (EvL.cons (Ev.idx (EvR.var a0) (Ev.int).r) EvL.nil))) EvL.nil)) a1) Ex.nil))) a2 (by decide) (by decide)) (Ex.cons (ExS.retOwn (o' := (some 1)) a1) Ex.nil))))) rfl rfl rfl

noncomputable def X_need_begin : Sto → Option Out := (seqO (iteD (andT (bind2b (o1 (fun ρ => vg ρ 0) lenD) (fun _ => some (.int 0)) (cmpD .Gt)) (bind2b (o1 (consD (bind2 (fun ρ => vg ρ 0) (fun _ => some (.int 0)) idxD) (consD (fun ρ => vg ρ 1) (fun _ => some []))) F_rcompare) (fun _ => some (.int 0)) (cmpD .NotEq))) (fun _ => none) (fun ρ => some (.next ρ))) (fun ρ => some (.next ρ)))
noncomputable def F_need_begin : List PyData → Option PyData := fnD 2 0 X_need_begin
theorem ok_need_begin (B : Base) : FnOk B 2 "need_begin" F_need_begin :=
  fn_ok2 (lev := 1) (i := 24) (ps := (["a", "number"] : List Str)) (ls := ([] : List Str)) (names := (["a", "number"] : List Str)) rfl (List.mem_filterMap.mpr ⟨stN 24, st_mem (by decide +kernel), by kernel_rfl⟩) rfl (by decide) (by decide +kernel) (fun pm cd doc => bd2 fun _ _ => rfl)
    ((Ex.cons (ExS.ite (EvT.and (EvT.cmp ((Ev.len (EvR.var a0))).r (Ev.int).r) (EvT.cmp ((Ev.call (ok_rcompare B) (by decide) (EvL.cons (Ev.idx (EvR.var a0) (Ev.int).r) (EvL.cons (Ev.var a1 (by decide)) EvL.nil)))).r (Ev.int).r)) Ex.of_dead Ex.nil) Ex.nil)) rfl rfl rfl

noncomputable def X_sexp : Sto → Option Out := (seqO (dropO (o1 (consD (fun ρ => vg ρ 0) (consD (fun _ => some (.tuple [.int 0, .int 1])) (fun _ => some []))) F_need_begin)) (seqO (asgO 1 (o1 (fun _ => some []) lstD)) (seqO (forI 2 (o1 (o1 (fun ρ => vg ρ 0) lenD) rngD1) (seqO (asgO 3 (fun _ => some (.tuple [.int 0, .int 1]))) (seqO (forI 4 (bind2l (fun _ => some (.int 1)) (bind2 (fun ρ => vg ρ 2) (fun _ => some (.int 1)) (binD .Add)) rngD2) (seqO (asgO 3 (o1 (consD (fun ρ => vg ρ 3) (consD (o1 (consD (o1 (consD (o1 (consD (fun ρ => vg ρ 4) (consD (fun _ => some (.int 1)) (fun _ => some []))) tupD) (consD (bind2 (fun ρ => vg ρ 0) (fun ρ => vg ρ 4) idxD) (fun _ => some []))) F_rmul) (consD (bind2 (fun ρ => vg ρ 1) (bind2 (fun ρ => vg ρ 2) (fun ρ => vg ρ 4) (binD .Sub)) idxD) (fun _ => some []))) F_rmul) (fun _ => some []))) F_radd)) (fun ρ => some (.next ρ)))) (seqO (appO 1 (iteD (bind2b (fun ρ => vg ρ 2) (fun _ => some (.int 0)) (cmpD .Eq)) (fun _ => some (.tuple [.int 1, .int 1])) (o1 (consD (o1 (consD (fun ρ => vg ρ 3) (consD (o1 (consD (fun ρ => vg ρ 2) (consD (fun _ => some (.int 1)) (fun _ => some []))) tupD) (fun _ => some []))) F_rdiv) (fun _ => some [])) F_let))) (fun ρ => some (.next ρ)))))) (seqO (retO fun ρ => vg ρ 1) (fun ρ => some (.next ρ))))))
noncomputable def F_sexp : List PyData → Option PyData := fnD 1 4 X_sexp
theorem ok_sexp (B : Base) : FnOk B 4 "sexp" F_sexp :=
  fn_ok2 (lev := 3) (i := 25) (ps := (["a"] : List Str)) (ls := (["found", "at", "total", "spot"] : List Str)) (names := (["a", "found", "at", "total", "spot"] : List Str)) rfl (List.mem_filterMap.mpr ⟨stN 25, st_mem (by decide +kernel), by kernel_rfl⟩) rfl (by decide) (by decide +kernel) (fun pm cd doc => bd1 fun _ => rfl)
    ((Ex.cons (ExS.drop (Ev.call (ok_need_begin B) (by decide) (EvL.cons (Ev.var a0 (by decide)) (EvL.cons Ev.r0 EvL.nil)))) (Ex.cons (ExS.asgOwn (EvNew.lst EvL.nil) a1 (by decide)) (Ex.cons (ExS.for (EvI.rng1 ((Ev.len (EvR.var a0))).r) (Ex.cons (ExS.asg Ev.r0 a3 (by decide) (by decide)) (Ex.cons (ExS.for (EvI.rng2 (Ev.int).r ((Ev.bin (EvR.var a2) (Ev.int).r)).r) (Ex.cons (ExS.asg (Ev.call (ok_radd B) (by decide) (EvL.cons (Ev.var a3 (by decide)) (EvL.cons (Ev.call (ok_rmul B) (by decide) (EvL.cons (Ev.call (ok_rmul B) (by decide) (EvL.cons (Ev.tup (EvL.cons (Ev.var a4 (by decide)) (EvL.cons Ev.int EvL.nil))) (EvL.cons (Ev.idx (EvR.var a0) (EvR.var a4)) EvL.nil))) (EvL.cons (Ev.idx (EvR.var a1) ((Ev.bin (EvR.var a2) (EvR.var a4))).r) EvL.nil))) EvL.nil))) a3 (by decide) (by decide)) Ex.nil) a4 (by decide) (by decide)) (Ex.cons (ExS.app (Ev.ite (EvT.cmp (EvR.var a2) (Ev.int).r) Ev.r1 (Ev.call (ok_let B) (by decide) (EvL.cons (Ev.call (ok_rdiv B) (by decide) (EvL.cons (Ev.var a3 (by decide)) (EvL.cons (Ev.tup (EvL.cons (Ev.var a2 (by decide)) (EvL.cons Ev.int EvL.nil))) EvL.nil))) EvL.nil))) a1) Ex.nil))) a2 (by decide) (by decide)) (Ex.cons (ExS.retOwn (o' := (some 1)) a1) Ex.nil))))) rfl rfl rfl

noncomputable def X_swhole_power : Sto → Option Out := (seqO (asgO 2 (iteD (bind2b (fun ρ => vg ρ 1) (fun _ => some (.int 0)) (cmpD .Lt)) (o1 (consD (fun ρ => vg ρ 0) (fun _ => some [])) F_sinverse) (fun ρ => vg ρ 0))) (seqO (unpO [3, 4] true (o1 (consD (o1 (consD (o1 (consD (fun _ => some (.tuple [.int 1, .int 1])) (fun _ => some [])) lstD) (consD (o1 (fun ρ => vg ρ 0) lenD) (fun _ => some []))) F_cut) (consD (o1 (fun ρ => vg ρ 1) absD) (fun _ => some []))) tupD)) (seqO (whileO (bind2b (fun ρ => vg ρ 4) (fun _ => some (.int 0)) (cmpD .Gt)) (seqO (iteD (bind2b (bind2 (fun ρ => vg ρ 4) (fun _ => some (.int 2)) (binD .Mod)) (fun _ => some (.int 1)) (cmpD .Eq)) (seqO (asgO 3 (o1 (consD (fun ρ => vg ρ 3) (consD (fun ρ => vg ρ 2) (fun _ => some []))) F_smul)) (fun ρ => some (.next ρ))) (fun ρ => some (.next ρ))) (seqO (asgO 4 (bind2 (fun ρ => vg ρ 4) (fun _ => some (.int 2)) (binD .FloorDiv))) (seqO (asgO 2 (iteD (bind2b (fun ρ => vg ρ 4) (fun _ => some (.int 0)) (cmpD .Gt)) (o1 (consD (fun ρ => vg ρ 2) (consD (fun ρ => vg ρ 2) (fun _ => some []))) F_smul) (fun ρ => vg ρ 2))) (fun ρ => some (.next ρ))))) 10) (seqO (retO (fun ρ => vg ρ 3)) (fun ρ => some (.next ρ))))))
noncomputable def F_swhole_power : List PyData → Option PyData := fnD 2 3 X_swhole_power
theorem ok_swhole_power (B : Base) : FnOk B 6 "swhole_power" F_swhole_power :=
  fn_ok2 (lev := 5) (i := 26) (ps := (["a", "many"] : List Str)) (ls := (["base", "found", "left"] : List Str)) (names := (["a", "many", "base", "found", "left"] : List Str)) rfl (List.mem_filterMap.mpr ⟨stN 26, st_mem (by decide +kernel), by kernel_rfl⟩) rfl (by decide) (by decide +kernel) (fun pm cd doc => bd2 fun _ _ => rfl)
    ((Ex.cons (ExS.asg (Ev.ite (EvT.cmp (EvR.var a1) (Ev.int).r) (Ev.call (ok_sinverse B) (by decide) (EvL.cons (Ev.var a0 (by decide)) EvL.nil)) (Ev.var a0 (by decide))) a2 (by decide) (by decide)) (Ex.cons (ExS.unpS (Ev.tup (EvL.cons (Ev.call (ok_cut B) (by decide) (EvL.cons ((EvNew.lst (EvL.cons Ev.r1 EvL.nil))).ev (EvL.cons (Ev.len (EvR.var a0)) EvL.nil))) (EvL.cons (Ev.abs (EvR.var a1)) EvL.nil))) (.cons a3 (.cons a4 .nil)) (by decide) (by decide) (by intro _; rfl)) (Ex.cons (ExS.while 10 (EvT.cmp (EvR.var a4) (Ev.int).r) (Ex.cons (ExS.ite (EvT.cmp ((Ev.bin (EvR.var a4) (Ev.int).r)).r (Ev.int).r) (Ex.cons (ExS.asg (Ev.call (ok_smul B) (by decide) (EvL.cons (Ev.var a3 (by decide)) (EvL.cons (Ev.var a2 (by decide)) EvL.nil))) a3 (by decide) (by decide)) Ex.nil) Ex.nil) (Ex.cons (ExS.asg (Ev.bin (EvR.var a4) (Ev.int).r) a4 (by decide) (by decide)) (Ex.cons (ExS.asg (Ev.ite (EvT.cmp (EvR.var a4) (Ev.int).r) (Ev.call (ok_smul B) (by decide) (EvL.cons (Ev.var a2 (by decide)) (EvL.cons (Ev.var a2 (by decide)) EvL.nil))) (Ev.var a2 (by decide))) a2 (by decide) (by decide)) Ex.nil)))) (Ex.cons (ExS.ret (o' := none) (Ev.var a3 (by decide))) Ex.nil))))) rfl rfl rfl

noncomputable def X_ztrim : Sto → Option Out := (seqO (asgO 1 (o1 (fun ρ => vg ρ 0) lenD)) (seqO (whileO (andT (bind2b (fun ρ => vg ρ 1) (fun _ => some (.int 0)) (cmpD .Gt)) (bind2b (bind2 (fun ρ => vg ρ 0) (bind2 (fun ρ => vg ρ 1) (fun _ => some (.int 1)) (binD .Sub)) idxD) (fun _ => some (.int 0)) (cmpD .Eq))) (seqO (subO 1 (fun _ => some (.int 1))) (fun ρ => some (.next ρ))) 60) (seqO (retO (o1 (sliceD (fun ρ => vg ρ 0) (fun _ => some none) (o1 (fun ρ => vg ρ 1) asI)) cpyD)) (fun ρ => some (.next ρ)))))
noncomputable def F_ztrim : List PyData → Option PyData := fnD 1 1 X_ztrim
theorem ok_ztrim (B : Base) : FnOk B 1 "ztrim" F_ztrim :=
  fn_ok2 (lev := 0) (i := 28) (ps := (["row"] : List Str)) (ls := (["size"] : List Str)) (names := (["row", "size"] : List Str)) rfl (List.mem_filterMap.mpr ⟨stN 28, st_mem (by decide +kernel), by kernel_rfl⟩) rfl (by decide) (by decide +kernel) (fun pm cd doc => bd1 fun _ => rfl)
    ((Ex.cons (ExS.asg (Ev.len (EvR.var a0)) a1 (by decide) (by decide)) (Ex.cons (ExS.while 60 (EvT.and (EvT.cmp (EvR.var a1) (Ev.int).r) (EvT.cmp ((Ev.idx (EvR.var a0) ((Ev.bin (EvR.var a1) (Ev.int).r)).r)).r (Ev.int).r)) (Ex.cons (ExS.aug Ev.int a1 (by decide) (by decide)) Ex.nil)) (Ex.cons (ExS.ret (o' := none) ((EvNew.copy (((EvNew.slice (EvR.var a0) EvP.none (EvP.some (EvR.var a1)))).ev).r)).ev) Ex.nil)))) rfl rfl rfl

noncomputable def X_zdegree : Sto → Option Out := (seqO (retO (bind2 (o1 (fun ρ => vg ρ 0) lenD) (fun _ => some (.int 1)) (binD .Sub))) (fun ρ => some (.next ρ)))
noncomputable def F_zdegree : List PyData → Option PyData := fnD 1 0 X_zdegree
theorem ok_zdegree (B : Base) : FnOk B 1 "zdegree" F_zdegree :=
  fn_ok2 (lev := 0) (i := 29) (ps := (["p"] : List Str)) (ls := ([] : List Str)) (names := (["p"] : List Str)) rfl (List.mem_filterMap.mpr ⟨stN 29, st_mem (by decide +kernel), by kernel_rfl⟩) rfl (by decide) (by decide +kernel) (fun pm cd doc => bd1 fun _ => rfl)
    ((Ex.cons (ExS.ret (o' := none) (Ev.bin ((Ev.len (EvR.var a0))).r (Ev.int).r)) Ex.nil)) rfl rfl rfl

noncomputable def X_zlead : Sto → Option Out := (seqO (retO (iteD (bind2b (o1 (fun ρ => vg ρ 0) lenD) (fun _ => some (.int 0)) (cmpD .Gt)) (bind2 (fun ρ => vg ρ 0) (o1 (fun _ => some (.int 1)) negD) idxD) (fun _ => some (.int 0)))) (fun ρ => some (.next ρ)))
noncomputable def F_zlead : List PyData → Option PyData := fnD 1 0 X_zlead
theorem ok_zlead (B : Base) : FnOk B 1 "zlead" F_zlead :=
  fn_ok2 (lev := 0) (i := 30) (ps := (["p"] : List Str)) (ls := ([] : List Str)) (names := (["p"] : List Str)) rfl (List.mem_filterMap.mpr ⟨stN 30, st_mem (by decide +kernel), by kernel_rfl⟩) rfl (by decide) (by decide +kernel) (fun pm cd doc => bd1 fun _ => rfl)
    ((Ex.cons (ExS.ret (o' := none) (Ev.ite (EvT.cmp ((Ev.len (EvR.var a0))).r (Ev.int).r) (Ev.idx (EvR.var a0) ((Ev.neg Ev.int)).r) Ev.int)) Ex.nil)) rfl rfl rfl

noncomputable def X_zadd : Sto → Option Out := (seqO (asgO 2 (bind2 (o1 (fun ρ => vg ρ 0) lenD) (o1 (fun ρ => vg ρ 1) lenD) maxD)) (seqO (retO (o1 (consD (compO (o1 (fun ρ => vg ρ 2) rngD1) [0, 1] (fun _ => some true) (bind2 (iteD (bind2b (fun ρ => vg ρ 0) (o1 (fun ρ => vg ρ 1) lenD) (cmpD .Lt)) (bind2 (fun ρ => vg ρ 1) (fun ρ => vg ρ 0) idxD) (fun _ => some (.int 0))) (iteD (bind2b (fun ρ => vg ρ 0) (o1 (fun ρ => vg ρ 2) lenD) (cmpD .Lt)) (bind2 (fun ρ => vg ρ 2) (fun ρ => vg ρ 0) idxD) (fun _ => some (.int 0))) (binD .Add))) (fun _ => some [])) F_ztrim)) (fun ρ => some (.next ρ))))
noncomputable def F_zadd : List PyData → Option PyData := fnD 2 1 X_zadd
theorem ok_zadd (B : Base) : FnOk B 2 "zadd" F_zadd :=
  fn_ok2 (lev := 1) (i := 31) (ps := (["a", "b"] : List Str)) (ls := (["size"] : List Str)) (names := (["a", "b", "size"] : List Str)) rfl (List.mem_filterMap.mpr ⟨stN 31, st_mem (by decide +kernel), by kernel_rfl⟩) rfl (by decide) (by decide +kernel) (fun pm cd doc => bd2 fun _ _ => rfl)
    ((Ex.cons (ExS.asg (Ev.max ((Ev.len (EvR.var a0))).r ((Ev.len (EvR.var a1))).r) a2 (by decide) (by decide)) (Ex.cons (ExS.ret (o' := none) (Ev.call (ok_ztrim B) (by decide) (EvL.cons ((EvNew.comp (EvI.rng1 (EvR.var a2)) (.cons a0 (.cons a1 .nil)) EvTs.nil (Ev.bin ((Ev.ite (EvT.cmp (EvR.var a0) ((Ev.len (EvR.var a1))).r) (Ev.idx (EvR.var a1) (EvR.var a0)) Ev.int)).r ((Ev.ite (EvT.cmp (EvR.var a0) ((Ev.len (EvR.var a2))).r) (Ev.idx (EvR.var a2) (EvR.var a0)) Ev.int)).r) (by decide +kernel) (blk_of (by decide +kernel)))).ev EvL.nil))) Ex.nil))) rfl rfl rfl

noncomputable def X_zneg : Sto → Option Out := (seqO (retO (compO (o1 (fun ρ => vg ρ 0) asL) [] (fun _ => some true) (o1 (fun ρ => vg ρ 0) negD))) (fun ρ => some (.next ρ)))
noncomputable def F_zneg : List PyData → Option PyData := fnD 1 0 X_zneg
theorem ok_zneg (B : Base) : FnOk B 1 "zneg" F_zneg :=
  fn_ok2 (lev := 0) (i := 32) (ps := (["p"] : List Str)) (ls := ([] : List Str)) (names := (["p"] : List Str)) rfl (List.mem_filterMap.mpr ⟨stN 32, st_mem (by decide +kernel), by kernel_rfl⟩) rfl (by decide) (by decide +kernel) (fun pm cd doc => bd1 fun _ => rfl)
    ((Ex.cons (ExS.ret (o' := none) ((EvNew.comp (EvI.lst (Ev.var a0 (by decide))) .nil EvTs.nil (Ev.neg (Ev.var a0 (by decide))) (by decide +kernel) (blk_of (by decide +kernel)))).ev) Ex.nil)) rfl rfl rfl

noncomputable def X_zsub : Sto → Option Out := (seqO (retO (o1 (consD (fun ρ => vg ρ 0) (consD (o1 (consD (fun ρ => vg ρ 1) (fun _ => some [])) F_zneg) (fun _ => some []))) F_zadd)) (fun ρ => some (.next ρ)))
noncomputable def F_zsub : List PyData → Option PyData := fnD 2 0 X_zsub
theorem ok_zsub (B : Base) : FnOk B 3 "zsub" F_zsub :=
  fn_ok2 (lev := 2) (i := 33) (ps := (["a", "b"] : List Str)) (ls := ([] : List Str)) (names := (["a", "b"] : List Str)) rfl (List.mem_filterMap.mpr ⟨stN 33, st_mem (by decide +kernel), by kernel_rfl⟩) rfl (by decide) (by decide +kernel) (fun pm cd doc => bd2 fun _ _ => rfl)
    ((Ex.cons (ExS.ret (o' := none) (Ev.call (ok_zadd B) (by decide) (EvL.cons (Ev.var a0 (by decide)) (EvL.cons (Ev.call (ok_zneg B) (by decide) (EvL.cons (Ev.var a1 (by decide)) EvL.nil)) EvL.nil)))) Ex.nil)) rfl rfl rfl

noncomputable def X_zscale : Sto → Option Out := (seqO (retO (iteD (bind2b (fun ρ => vg ρ 1) (fun _ => some (.int 0)) (cmpD .NotEq)) (compO (o1 (fun ρ => vg ρ 0) asL) [1] (fun _ => some true) (bind2 (fun ρ => vg ρ 0) (fun ρ => vg ρ 1) (binD .Mult))) (o1 (fun _ => some []) lstD))) (fun ρ => some (.next ρ)))
noncomputable def F_zscale : List PyData → Option PyData := fnD 2 0 X_zscale
theorem ok_zscale (B : Base) : FnOk B 1 "zscale" F_zscale :=
  fn_ok2 (lev := 0) (i := 34) (ps := (["p", "k"] : List Str)) (ls := ([] : List Str)) (names := (["p", "k"] : List Str)) rfl (List.mem_filterMap.mpr ⟨stN 34, st_mem (by decide +kernel), by kernel_rfl⟩) rfl (by decide) (by decide +kernel) (fun pm cd doc => bd2 fun _ _ => rfl)
    ((Ex.cons (ExS.ret (o' := none) (Ev.ite (EvT.cmp (EvR.var a1) (Ev.int).r) ((EvNew.comp (EvI.lst (Ev.var a0 (by decide))) (.cons a1 .nil) EvTs.nil (Ev.bin (EvR.var a0) (EvR.var a1)) (by decide +kernel) (blk_of (by decide +kernel)))).ev ((EvNew.lst EvL.nil)).ev)) Ex.nil)) rfl rfl rfl

noncomputable def X_zraise : Sto → Option Out := (seqO (retO (iteD (bind2b (o1 (fun ρ => vg ρ 0) lenD) (fun _ => some (.int 0)) (cmpD .Gt)) (fun ρ => onlyL (bind2 (fun ρ => onlyL (bind2 (o1 (consD (fun _ => some (.int 0)) (fun _ => some [])) lstD) (fun ρ => vg ρ 1) (binD .Mult) ρ)) (o1 (fun ρ => vg ρ 0) cpyD) (binD .Add) ρ)) (o1 (fun _ => some []) lstD))) (fun ρ => some (.next ρ)))
noncomputable def F_zraise : List PyData → Option PyData := fnD 2 0 X_zraise
theorem ok_zraise (B : Base) : FnOk B 1 "zraise" F_zraise :=
  fn_ok2 (lev := 0) (i := 35) (ps := (["p", "many"] : List Str)) (ls := ([] : List Str)) (names := (["p", "many"] : List Str)) rfl (List.mem_filterMap.mpr ⟨stN 35, st_mem (by decide +kernel), by kernel_rfl⟩) rfl (by decide) (by decide +kernel) (fun pm cd doc => bd2 fun _ _ => rfl)
    ((Ex.cons (ExS.ret (o' := none) (Ev.ite (EvT.cmp ((Ev.len (EvR.var a0))).r (Ev.int).r) ((EvNew.bin (((EvNew.bin (((EvNew.lst (EvL.cons Ev.int EvL.nil))).ev).r (EvR.var a1))).ev).r (((EvNew.copy (EvR.var a0))).ev).r)).ev ((EvNew.lst EvL.nil)).ev)) Ex.nil)) rfl rfl rfl

noncomputable def X_zcontent : Sto → Option Out := (seqO (retO (o1 (consD (fun ρ => vg ρ 0) (fun _ => some [])) F_gcd_all)) (fun ρ => some (.next ρ)))
noncomputable def F_zcontent : List PyData → Option PyData := fnD 1 0 X_zcontent
theorem ok_zcontent (B : Base) : FnOk B 3 "zcontent" F_zcontent :=
  fn_ok2 (lev := 2) (i := 36) (ps := (["p"] : List Str)) (ls := ([] : List Str)) (names := (["p"] : List Str)) rfl (List.mem_filterMap.mpr ⟨stN 36, st_mem (by decide +kernel), by kernel_rfl⟩) rfl (by decide) (by decide +kernel) (fun pm cd doc => bd1 fun _ => rfl)
    ((Ex.cons (ExS.ret (o' := none) (Ev.call (ok_gcd_all B) (by decide) (EvL.cons (Ev.var a0 (by decide)) EvL.nil))) Ex.nil)) rfl rfl rfl

noncomputable def X_zdivided : Sto → Option Out := (seqO (retO (compO (o1 (fun ρ => vg ρ 0) asL) [1] (fun _ => some true) (bind2 (fun ρ => vg ρ 0) (fun ρ => vg ρ 1) (binD .FloorDiv)))) (fun ρ => some (.next ρ)))
noncomputable def F_zdivided : List PyData → Option PyData := fnD 2 0 X_zdivided
theorem ok_zdivided (B : Base) : FnOk B 1 "zdivided" F_zdivided :=
  fn_ok2 (lev := 0) (i := 37) (ps := (["p", "k"] : List Str)) (ls := ([] : List Str)) (names := (["p", "k"] : List Str)) rfl (List.mem_filterMap.mpr ⟨stN 37, st_mem (by decide +kernel), by kernel_rfl⟩) rfl (by decide) (by decide +kernel) (fun pm cd doc => bd2 fun _ _ => rfl)
    ((Ex.cons (ExS.ret (o' := none) ((EvNew.comp (EvI.lst (Ev.var a0 (by decide))) (.cons a1 .nil) EvTs.nil (Ev.bin (EvR.var a0) (EvR.var a1)) (by decide +kernel) (blk_of (by decide +kernel)))).ev) Ex.nil)) rfl rfl rfl

noncomputable def X_zprimitive : Sto → Option Out := (seqO (iteD (bind2b (o1 (fun ρ => vg ρ 0) lenD) (fun _ => some (.int 0)) (cmpD .Eq)) (seqO (retO (o1 (fun _ => some []) lstD)) (fun ρ => some (.next ρ))) (fun ρ => some (.next ρ))) (seqO (asgO 1 (o1 (consD (fun ρ => vg ρ 0) (fun _ => some [])) F_zcontent)) (seqO (retO (o1 (consD (fun ρ => vg ρ 0) (consD (iteD (bind2b (bind2 (fun ρ => vg ρ 0) (o1 (fun _ => some (.int 1)) negD) idxD) (fun _ => some (.int 0)) (cmpD .Gt)) (fun ρ => vg ρ 1) (o1 (fun ρ => vg ρ 1) negD)) (fun _ => some []))) F_zdivided)) (fun ρ => some (.next ρ)))))
noncomputable def F_zprimitive : List PyData → Option PyData := fnD 1 1 X_zprimitive
theorem ok_zprimitive (B : Base) : FnOk B 4 "zprimitive" F_zprimitive :=
  fn_ok2 (lev := 3) (i := 38) (ps := (["p"] : List Str)) (ls := (["content"] : List Str)) (names := (["p", "content"] : List Str)) rfl (List.mem_filterMap.mpr ⟨stN 38, st_mem (by decide +kernel), by kernel_rfl⟩) rfl (by decide) (by decide +kernel) (fun pm cd doc => bd1 fun _ => rfl)
    ((Ex.cons (ExS.ite (EvT.cmp ((Ev.len (EvR.var a0))).r (Ev.int).r) (Ex.cons (ExS.ret (o' := none) ((EvNew.lst EvL.nil)).ev) Ex.nil) Ex.nil) (Ex.cons (ExS.asg (Ev.call (ok_zcontent B) (by decide) (EvL.cons (Ev.var a0 (by decide)) EvL.nil)) a1 (by decide) (by decide)) (Ex.cons (ExS.ret (o' := none) (Ev.call (ok_zdivided B) (by decide) (EvL.cons (Ev.var a0 (by decide)) (EvL.cons (Ev.ite (EvT.cmp ((Ev.idx (EvR.var a0) ((Ev.neg Ev.int)).r)).r (Ev.int).r) (Ev.var a1 (by decide)) (Ev.neg (Ev.var a1 (by decide)))) EvL.nil)))) Ex.nil)))) rfl rfl rfl

noncomputable def X_zderive : Sto → Option Out := (seqO (retO (sliceD (compE (fun ρ => vg ρ 0) (bind2 (fun ρ => vg ρ 1) (fun ρ => vg ρ 0) (binD .Mult))) (o1 (fun _ => some (.int 1)) asI) (fun _ => some none))) (fun ρ => some (.next ρ)))
noncomputable def F_zderive : List PyData → Option PyData := fnD 1 0 X_zderive
theorem ok_zderive (B : Base) : FnOk B 1 "zderive" F_zderive :=
  fn_ok2 (lev := 0) (i := 39) (ps := (["p"] : List Str)) (ls := ([] : List Str)) (names := (["p"] : List Str)) rfl (List.mem_filterMap.mpr ⟨stN 39, st_mem (by decide +kernel), by kernel_rfl⟩) rfl (by decide) (by decide +kernel) (fun pm cd doc => bd1 fun _ => rfl)
    ((Ex.cons (ExS.ret (o' := none) ((EvNew.slice (((EvNew.compE (Ev.var a0 (by decide)) (Ev.bin (EvR.var a1) (EvR.var a0)) (Nms.cons (Nms.cons Nms.nil)) (blk2_of (by decide +kernel)))).ev).r (EvP.some (Ev.int).r) EvP.none)).ev) Ex.nil)) rfl rfl rfl

noncomputable def X_qtrim : Sto → Option Out := (seqO (asgO 1 (o1 (fun ρ => vg ρ 0) lenD)) (seqO (whileO (andT (bind2b (fun ρ => vg ρ 1) (fun _ => some (.int 0)) (cmpD .Gt)) (bind2b (bind2 (bind2 (fun ρ => vg ρ 0) (bind2 (fun ρ => vg ρ 1) (fun _ => some (.int 1)) (binD .Sub)) idxD) (fun _ => some (.int 0)) idxD) (fun _ => some (.int 0)) (cmpD .Eq))) (seqO (subO 1 (fun _ => some (.int 1))) (fun ρ => some (.next ρ))) 60) (seqO (retO (o1 (sliceD (fun ρ => vg ρ 0) (fun _ => some none) (o1 (fun ρ => vg ρ 1) asI)) cpyD)) (fun ρ => some (.next ρ)))))
noncomputable def F_qtrim : List PyData → Option PyData := fnD 1 1 X_qtrim
theorem ok_qtrim (B : Base) : FnOk B 1 "qtrim" F_qtrim :=
  fn_ok2 (lev := 0) (i := 41) (ps := (["row"] : List Str)) (ls := (["size"] : List Str)) (names := (["row", "size"] : List Str)) rfl (List.mem_filterMap.mpr ⟨stN 41, st_mem (by decide +kernel), by kernel_rfl⟩) rfl (by decide) (by decide +kernel) (fun pm cd doc => bd1 fun _ => rfl)
    ((Ex.cons (ExS.asg (Ev.len (EvR.var a0)) a1 (by decide) (by decide)) (Ex.cons (ExS.while 60 (EvT.and (EvT.cmp (EvR.var a1) (Ev.int).r) (EvT.cmp ((Ev.idx ((Ev.idx (EvR.var a0) ((Ev.bin (EvR.var a1) (Ev.int).r)).r)).r (Ev.int).r)).r (Ev.int).r)) (Ex.cons (ExS.aug Ev.int a1 (by decide) (by decide)) Ex.nil)) (Ex.cons (ExS.ret (o' := none) ((EvNew.copy (((EvNew.slice (EvR.var a0) EvP.none (EvP.some (EvR.var a1)))).ev).r)).ev) Ex.nil)))) rfl rfl rfl

noncomputable def X_qadd : Sto → Option Out := (seqO (asgO 2 (bind2 (o1 (fun ρ => vg ρ 0) lenD) (o1 (fun ρ => vg ρ 1) lenD) maxD)) (seqO (retO (o1 (consD (compO (o1 (fun ρ => vg ρ 2) rngD1) [0, 1] (fun _ => some true) (o1 (consD (iteD (bind2b (fun ρ => vg ρ 0) (o1 (fun ρ => vg ρ 1) lenD) (cmpD .Lt)) (bind2 (fun ρ => vg ρ 1) (fun ρ => vg ρ 0) idxD) (fun _ => some (.tuple [.int 0, .int 1]))) (consD (iteD (bind2b (fun ρ => vg ρ 0) (o1 (fun ρ => vg ρ 2) lenD) (cmpD .Lt)) (bind2 (fun ρ => vg ρ 2) (fun ρ => vg ρ 0) idxD) (fun _ => some (.tuple [.int 0, .int 1]))) (fun _ => some []))) F_radd)) (fun _ => some [])) F_qtrim)) (fun ρ => some (.next ρ))))
noncomputable def F_qadd : List PyData → Option PyData := fnD 2 1 X_qadd
theorem ok_qadd (B : Base) : FnOk B 4 "qadd" F_qadd :=
  fn_ok2 (lev := 3) (i := 42) (ps := (["a", "b"] : List Str)) (ls := (["size"] : List Str)) (names := (["a", "b", "size"] : List Str)) rfl (List.mem_filterMap.mpr ⟨stN 42, st_mem (by decide +kernel), by kernel_rfl⟩) rfl (by decide) (by decide +kernel) (fun pm cd doc => bd2 fun _ _ => rfl)
    ((Ex.cons (ExS.asg (Ev.max ((Ev.len (EvR.var a0))).r ((Ev.len (EvR.var a1))).r) a2 (by decide) (by decide)) (Ex.cons (ExS.ret (o' := none) (Ev.call (ok_qtrim B) (by decide) (EvL.cons ((EvNew.comp (EvI.rng1 (EvR.var a2)) (.cons a0 (.cons a1 .nil)) EvTs.nil (Ev.call (ok_radd B) (by decide) (EvL.cons (Ev.ite (EvT.cmp (EvR.var a0) ((Ev.len (EvR.var a1))).r) (Ev.idx (EvR.var a1) (EvR.var a0)) Ev.r0) (EvL.cons (Ev.ite (EvT.cmp (EvR.var a0) ((Ev.len (EvR.var a2))).r) (Ev.idx (EvR.var a2) (EvR.var a0)) Ev.r0) EvL.nil))) (by decide +kernel) (blk_of (by decide +kernel)))).ev EvL.nil))) Ex.nil))) rfl rfl rfl

noncomputable def X_qneg : Sto → Option Out := (seqO (retO (compO (o1 (fun ρ => vg ρ 0) asL) [] (fun _ => some true) (o1 (consD (fun ρ => vg ρ 0) (fun _ => some [])) F_rneg))) (fun ρ => some (.next ρ)))
noncomputable def F_qneg : List PyData → Option PyData := fnD 1 0 X_qneg
theorem ok_qneg (B : Base) : FnOk B 2 "qneg" F_qneg :=
  fn_ok2 (lev := 1) (i := 43) (ps := (["p"] : List Str)) (ls := ([] : List Str)) (names := (["p"] : List Str)) rfl (List.mem_filterMap.mpr ⟨stN 43, st_mem (by decide +kernel), by kernel_rfl⟩) rfl (by decide) (by decide +kernel) (fun pm cd doc => bd1 fun _ => rfl)
    ((Ex.cons (ExS.ret (o' := none) ((EvNew.comp (EvI.lst (Ev.var a0 (by decide))) .nil EvTs.nil (Ev.call (ok_rneg B) (by decide) (EvL.cons (Ev.var a0 (by decide)) EvL.nil)) (by decide +kernel) (blk_of (by decide +kernel)))).ev) Ex.nil)) rfl rfl rfl

noncomputable def X_qsub : Sto → Option Out := (seqO (retO (o1 (consD (fun ρ => vg ρ 0) (consD (o1 (consD (fun ρ => vg ρ 1) (fun _ => some [])) F_qneg) (fun _ => some []))) F_qadd)) (fun ρ => some (.next ρ)))
noncomputable def F_qsub : List PyData → Option PyData := fnD 2 0 X_qsub
theorem ok_qsub (B : Base) : FnOk B 5 "qsub" F_qsub :=
  fn_ok2 (lev := 4) (i := 44) (ps := (["a", "b"] : List Str)) (ls := ([] : List Str)) (names := (["a", "b"] : List Str)) rfl (List.mem_filterMap.mpr ⟨stN 44, st_mem (by decide +kernel), by kernel_rfl⟩) rfl (by decide) (by decide +kernel) (fun pm cd doc => bd2 fun _ _ => rfl)
    ((Ex.cons (ExS.ret (o' := none) (Ev.call (ok_qadd B) (by decide) (EvL.cons (Ev.var a0 (by decide)) (EvL.cons (Ev.call (ok_qneg B) (by decide) (EvL.cons (Ev.var a1 (by decide)) EvL.nil)) EvL.nil)))) Ex.nil)) rfl rfl rfl

noncomputable def X_qscale : Sto → Option Out := (seqO (retO (iteD (bind2b (bind2 (fun ρ => vg ρ 1) (fun _ => some (.int 0)) idxD) (fun _ => some (.int 0)) (cmpD .NotEq)) (compO (o1 (fun ρ => vg ρ 0) asL) [1] (fun _ => some true) (o1 (consD (fun ρ => vg ρ 0) (consD (fun ρ => vg ρ 1) (fun _ => some []))) F_rmul)) (o1 (fun _ => some []) lstD))) (fun ρ => some (.next ρ)))
noncomputable def F_qscale : List PyData → Option PyData := fnD 2 0 X_qscale
theorem ok_qscale (B : Base) : FnOk B 4 "qscale" F_qscale :=
  fn_ok2 (lev := 3) (i := 45) (ps := (["p", "r"] : List Str)) (ls := ([] : List Str)) (names := (["p", "r"] : List Str)) rfl (List.mem_filterMap.mpr ⟨stN 45, st_mem (by decide +kernel), by kernel_rfl⟩) rfl (by decide) (by decide +kernel) (fun pm cd doc => bd2 fun _ _ => rfl)
    ((Ex.cons (ExS.ret (o' := none) (Ev.ite (EvT.cmp ((Ev.idx (EvR.var a1) (Ev.int).r)).r (Ev.int).r) ((EvNew.comp (EvI.lst (Ev.var a0 (by decide))) (.cons a1 .nil) EvTs.nil (Ev.call (ok_rmul B) (by decide) (EvL.cons (Ev.var a0 (by decide)) (EvL.cons (Ev.var a1 (by decide)) EvL.nil))) (by decide +kernel) (blk_of (by decide +kernel)))).ev ((EvNew.lst EvL.nil)).ev)) Ex.nil)) rfl rfl rfl

noncomputable def X_qmul : Sto → Option Out := (seqO (iteD (orT (bind2b (o1 (fun ρ => vg ρ 0) lenD) (fun _ => some (.int 0)) (cmpD .Eq)) (bind2b (o1 (fun ρ => vg ρ 1) lenD) (fun _ => some (.int 0)) (cmpD .Eq))) (seqO (retO (o1 (fun _ => some []) lstD)) (fun ρ => some (.next ρ))) (fun ρ => some (.next ρ))) (seqO (asgO 2 (fun ρ => onlyL (bind2 (o1 (consD (fun _ => some (.tuple [.int 0, .int 1])) (fun _ => some [])) lstD) (bind2 (bind2 (o1 (fun ρ => vg ρ 0) lenD) (o1 (fun ρ => vg ρ 1) lenD) (binD .Add)) (fun _ => some (.int 1)) (binD .Sub)) (binD .Mult) ρ))) (seqO (forN 3 4 (fun ρ => vg ρ 0) (seqO (forN 5 6 (fun ρ => vg ρ 1) (seqO (setO 2 (o1 (consD (bind2 (fun ρ => vg ρ 2) (bind2 (fun ρ => vg ρ 3) (fun ρ => vg ρ 5) (binD .Add)) idxD) (consD (o1 (consD (fun ρ => vg ρ 4) (consD (fun ρ => vg ρ 6) (fun _ => some []))) F_rmul) (fun _ => some []))) F_radd) (bind2 (fun ρ => vg ρ 3) (fun ρ => vg ρ 5) (binD .Add))) (fun ρ => some (.next ρ)))) (fun ρ => some (.next ρ)))) (seqO (retO fun ρ => vg ρ 2) (fun ρ => some (.next ρ))))))
noncomputable def F_qmul : List PyData → Option PyData := fnD 2 5 X_qmul
theorem ok_qmul (B : Base) : FnOk B 4 "qmul" F_qmul :=
  fn_ok2 (lev := 3) (i := 46) (ps := (["a", "b"] : List Str)) (ls := (["found", "one", "left", "other", "right"] : List Str)) (names := (["a", "b", "found", "one", "left", "other", "right"] : List Str)) rfl (List.mem_filterMap.mpr ⟨stN 46, st_mem (by decide +kernel), by kernel_rfl⟩) rfl (by decide) (by decide +kernel) (fun pm cd doc => bd2 fun _ _ => rfl)
    ((Ex.cons (ExS.ite (EvT.or (EvT.cmp ((Ev.len (EvR.var a0))).r (Ev.int).r) (EvT.cmp ((Ev.len (EvR.var a1))).r (Ev.int).r)) (Ex.cons (ExS.ret (o' := none) ((EvNew.lst EvL.nil)).ev) Ex.nil) Ex.nil) (Ex.cons (ExS.asgOwn (EvNew.bin (((EvNew.lst (EvL.cons Ev.r0 EvL.nil))).ev).r ((Ev.bin ((Ev.bin ((Ev.len (EvR.var a0))).r ((Ev.len (EvR.var a1))).r)).r (Ev.int).r)).r) a2 (by decide)) (Ex.cons (ExS.forE (Ev.var a0 (by decide)) (Ex.cons (ExS.forE (Ev.var a1 (by decide)) (Ex.cons (ExS.set (Ev.call (ok_radd B) (by decide) (EvL.cons (Ev.idx (EvR.var a2) ((Ev.bin (EvR.var a3) (EvR.var a5))).r) (EvL.cons (Ev.call (ok_rmul B) (by decide) (EvL.cons (Ev.var a4 (by decide)) (EvL.cons (Ev.var a6 (by decide)) EvL.nil))) EvL.nil))) (Ev.bin (EvR.var a3) (EvR.var a5)) a2) Ex.nil) (Nms.cons (Nms.cons Nms.nil)) a5 a6 (by decide) (by decide) (by decide)) Ex.nil) (Nms.cons (Nms.cons Nms.nil)) a3 a4 (by decide) (by decide) (by decide)) (Ex.cons (ExS.retOwn (o' := (some 2)) a2) Ex.nil))))) rfl rfl rfl

noncomputable def X_qderive : Sto → Option Out := (seqO (retO (sliceD (compE (fun ρ => vg ρ 0) (o1 (consD (fun ρ => vg ρ 1) (consD (o1 (consD (fun ρ => vg ρ 0) (consD (fun _ => some (.int 1)) (fun _ => some []))) tupD) (fun _ => some []))) F_rmul)) (o1 (fun _ => some (.int 1)) asI) (fun _ => some none))) (fun ρ => some (.next ρ)))
noncomputable def F_qderive : List PyData → Option PyData := fnD 1 0 X_qderive
theorem ok_qderive (B : Base) : FnOk B 4 "qderive" F_qderive :=
  fn_ok2 (lev := 3) (i := 47) (ps := (["p"] : List Str)) (ls := ([] : List Str)) (names := (["p"] : List Str)) rfl (List.mem_filterMap.mpr ⟨stN 47, st_mem (by decide +kernel), by kernel_rfl⟩) rfl (by decide) (by decide +kernel) (fun pm cd doc => bd1 fun _ => rfl)
    ((Ex.cons (ExS.ret (o' := none) ((EvNew.slice (((EvNew.compE (Ev.var a0 (by decide)) (Ev.call (ok_rmul B) (by decide) (EvL.cons (Ev.var a1 (by decide)) (EvL.cons (Ev.tup (EvL.cons (Ev.var a0 (by decide)) (EvL.cons Ev.int EvL.nil))) EvL.nil))) (Nms.cons (Nms.cons Nms.nil)) (blk2_of (by decide +kernel)))).ev).r (EvP.some (Ev.int).r) EvP.none)).ev) Ex.nil)) rfl rfl rfl

noncomputable def X_qat : Sto → Option Out := (seqO (asgO 2 (fun _ => some (.tuple [.int 0, .int 1]))) (seqO (forI 3 (o1 (fun ρ => vg ρ 0) revD) (seqO (asgO 2 (o1 (consD (o1 (consD (fun ρ => vg ρ 2) (consD (fun ρ => vg ρ 1) (fun _ => some []))) F_rmul) (consD (fun ρ => vg ρ 3) (fun _ => some []))) F_radd)) (fun ρ => some (.next ρ)))) (seqO (retO (fun ρ => vg ρ 2)) (fun ρ => some (.next ρ)))))
noncomputable def F_qat : List PyData → Option PyData := fnD 2 2 X_qat
theorem ok_qat (B : Base) : FnOk B 4 "qat" F_qat :=
  fn_ok2 (lev := 3) (i := 48) (ps := (["p", "r"] : List Str)) (ls := (["found", "number"] : List Str)) (names := (["p", "r", "found", "number"] : List Str)) rfl (List.mem_filterMap.mpr ⟨stN 48, st_mem (by decide +kernel), by kernel_rfl⟩) rfl (by decide) (by decide +kernel) (fun pm cd doc => bd2 fun _ _ => rfl)
    ((Ex.cons (ExS.asg Ev.r0 a2 (by decide) (by decide)) (Ex.cons (ExS.for (EvI.rev (Ev.var a0 (by decide))) (Ex.cons (ExS.asg (Ev.call (ok_radd B) (by decide) (EvL.cons (Ev.call (ok_rmul B) (by decide) (EvL.cons (Ev.var a2 (by decide)) (EvL.cons (Ev.var a1 (by decide)) EvL.nil))) (EvL.cons (Ev.var a3 (by decide)) EvL.nil))) a2 (by decide) (by decide)) Ex.nil) a3 (by decide) (by decide)) (Ex.cons (ExS.ret (o' := none) (Ev.var a2 (by decide))) Ex.nil)))) rfl rfl rfl

noncomputable def X_qcompose : Sto → Option Out := (seqO (asgO 2 (o1 (fun _ => some []) lstD)) (seqO (forI 3 (o1 (fun ρ => vg ρ 0) revD) (seqO (asgO 2 (o1 (consD (o1 (consD (fun ρ => vg ρ 2) (consD (fun ρ => vg ρ 1) (fun _ => some []))) F_qmul) (consD (o1 (consD (o1 (consD (fun ρ => vg ρ 3) (fun _ => some [])) lstD) (fun _ => some [])) F_qtrim) (fun _ => some []))) F_qadd)) (fun ρ => some (.next ρ)))) (seqO (retO (fun ρ => vg ρ 2)) (fun ρ => some (.next ρ)))))
noncomputable def F_qcompose : List PyData → Option PyData := fnD 2 2 X_qcompose
theorem ok_qcompose (B : Base) : FnOk B 5 "qcompose" F_qcompose :=
  fn_ok2 (lev := 4) (i := 49) (ps := (["a", "b"] : List Str)) (ls := (["found", "number"] : List Str)) (names := (["a", "b", "found", "number"] : List Str)) rfl (List.mem_filterMap.mpr ⟨stN 49, st_mem (by decide +kernel), by kernel_rfl⟩) rfl (by decide) (by decide +kernel) (fun pm cd doc => bd2 fun _ _ => rfl)
    ((Ex.cons (ExS.asg ((EvNew.lst EvL.nil)).ev a2 (by decide) (by decide)) (Ex.cons (ExS.for (EvI.rev (Ev.var a0 (by decide))) (Ex.cons (ExS.asg (Ev.call (ok_qadd B) (by decide) (EvL.cons (Ev.call (ok_qmul B) (by decide) (EvL.cons (Ev.var a2 (by decide)) (EvL.cons (Ev.var a1 (by decide)) EvL.nil))) (EvL.cons (Ev.call (ok_qtrim B) (by decide) (EvL.cons ((EvNew.lst (EvL.cons (Ev.var a3 (by decide)) EvL.nil))).ev EvL.nil)) EvL.nil))) a2 (by decide) (by decide)) Ex.nil) a3 (by decide) (by decide)) (Ex.cons (ExS.ret (o' := none) (Ev.var a2 (by decide))) Ex.nil)))) rfl rfl rfl

noncomputable def X_to_z : Sto → Option Out := (seqO (iteD (bind2b (o1 (fun ρ => vg ρ 0) lenD) (fun _ => some (.int 0)) (cmpD .Eq)) (seqO (retO (o1 (consD (o1 (fun _ => some []) lstD) (consD (fun _ => some (.tuple [.int 0, .int 1])) (fun _ => some []))) tupD)) (fun ρ => some (.next ρ))) (fun ρ => some (.next ρ))) (seqO (asgO 1 (fun _ => some (.int 1))) (seqO (forI 2 (o1 (fun ρ => vg ρ 0) asL) (seqO (asgO 1 (bind2 (bind2 (fun ρ => vg ρ 1) (o1 (consD (fun ρ => vg ρ 1) (consD (bind2 (fun ρ => vg ρ 2) (fun _ => some (.int 1)) idxD) (fun _ => some []))) F_gcd) (binD .FloorDiv)) (bind2 (fun ρ => vg ρ 2) (fun _ => some (.int 1)) idxD) (binD .Mult))) (fun ρ => some (.next ρ)))) (seqO (asgO 3 (compO (o1 (fun ρ => vg ρ 0) asL) [1] (fun _ => some true) (bind2 (bind2 (fun ρ => vg ρ 0) (fun _ => some (.int 0)) idxD) (bind2 (fun ρ => vg ρ 1) (bind2 (fun ρ => vg ρ 0) (fun _ => some (.int 1)) idxD) (binD .FloorDiv)) (binD .Mult)))) (seqO (asgO 4 (o1 (consD (fun ρ => vg ρ 3) (fun _ => some [])) F_zcontent)) (seqO (retO (o1 (consD (o1 (consD (fun ρ => vg ρ 3) (fun _ => some [])) F_zprimitive) (consD (o1 (consD (iteD (bind2b (bind2 (fun ρ => vg ρ 3) (o1 (fun _ => some (.int 1)) negD) idxD) (fun _ => some (.int 0)) (cmpD .Gt)) (fun ρ => vg ρ 4) (o1 (fun ρ => vg ρ 4) negD)) (consD (fun ρ => vg ρ 1) (fun _ => some []))) F_rat) (fun _ => some []))) tupD)) (fun ρ => some (.next ρ))))))))
noncomputable def F_to_z : List PyData → Option PyData := fnD 1 4 X_to_z
theorem ok_to_z (B : Base) : FnOk B 5 "to_z" F_to_z :=
  fn_ok2 (lev := 4) (i := 50) (ps := (["q"] : List Str)) (ls := (["bottom", "number", "whole", "content"] : List Str)) (names := (["q", "bottom", "number", "whole", "content"] : List Str)) rfl (List.mem_filterMap.mpr ⟨stN 50, st_mem (by decide +kernel), by kernel_rfl⟩) rfl (by decide) (by decide +kernel) (fun pm cd doc => bd1 fun _ => rfl)
    ((Ex.cons (ExS.ite (EvT.cmp ((Ev.len (EvR.var a0))).r (Ev.int).r) (Ex.cons (ExS.ret (o' := none) (Ev.tup (EvL.cons ((EvNew.lst EvL.nil)).ev (EvL.cons Ev.r0 EvL.nil)))) Ex.nil) Ex.nil) (Ex.cons (ExS.asg Ev.int a1 (by decide) (by decide)) (Ex.cons (ExS.for (EvI.lst (Ev.var a0 (by decide))) (Ex.cons (ExS.asg (Ev.bin ((Ev.bin (EvR.var a1) ((Ev.call (ok_gcd B) (by decide) (EvL.cons (Ev.var a1 (by decide)) (EvL.cons (Ev.idx (EvR.var a2) (Ev.int).r) EvL.nil)))).r)).r ((Ev.idx (EvR.var a2) (Ev.int).r)).r) a1 (by decide) (by decide)) Ex.nil) a2 (by decide) (by decide)) (Ex.cons (ExS.asgComp (EvI.lst (Ev.var a0 (by decide))) (.cons a1 .nil) EvTs.nil (Ev.bin ((Ev.idx (EvR.var a0) (Ev.int).r)).r ((Ev.bin (EvR.var a1) ((Ev.idx (EvR.var a0) (Ev.int).r)).r)).r) (by decide +kernel) (blk_of (by decide +kernel)) a3 (by decide) (by decide)) (Ex.cons (ExS.asg (Ev.call (ok_zcontent B) (by decide) (EvL.cons (Ev.var a3 (by decide)) EvL.nil)) a4 (by decide) (by decide)) (Ex.cons (ExS.ret (o' := none) (Ev.tup (EvL.cons (Ev.call (ok_zprimitive B) (by decide) (EvL.cons (Ev.var a3 (by decide)) EvL.nil)) (EvL.cons (Ev.call (ok_rat B) (by decide) (EvL.cons (Ev.ite (EvT.cmp ((Ev.idx (EvR.var a3) ((Ev.neg Ev.int)).r)).r (Ev.int).r) (Ev.var a4 (by decide)) (Ev.neg (Ev.var a4 (by decide)))) (EvL.cons (Ev.var a1 (by decide)) EvL.nil))) EvL.nil)))) Ex.nil))))))) rfl rfl rfl

noncomputable def X_check_bottom : Sto → Option Out := (seqO (iteD (bind2b (o1 (fun ρ => vg ρ 0) lenD) (fun _ => some (.int 0)) (cmpD .Eq)) (fun _ => none) (fun ρ => some (.next ρ))) (fun ρ => some (.next ρ)))
noncomputable def F_check_bottom : List PyData → Option PyData := fnD 1 0 X_check_bottom
theorem ok_check_bottom (B : Base) : FnOk B 1 "check_bottom" F_check_bottom :=
  fn_ok2 (lev := 0) (i := 52) (ps := (["p"] : List Str)) (ls := ([] : List Str)) (names := (["p"] : List Str)) rfl (List.mem_filterMap.mpr ⟨stN 52, st_mem (by decide +kernel), by kernel_rfl⟩) rfl (by decide) (by decide +kernel) (fun pm cd doc => bd1 fun _ => rfl)
    ((Ex.cons (ExS.ite (EvT.cmp ((Ev.len (EvR.var a0))).r (Ev.int).r) Ex.of_dead Ex.nil) Ex.nil)) rfl rfl rfl

noncomputable def X_pseudo : Sto → Option Out := (seqO (dropO (o1 (consD (fun ρ => vg ρ 1) (fun _ => some [])) F_check_bottom)) (seqO (asgO 2 (bind2 (fun _ => some (.int 0)) (bind2 (bind2 (o1 (fun ρ => vg ρ 0) lenD) (o1 (fun ρ => vg ρ 1) lenD) (binD .Sub)) (fun _ => some (.int 1)) (binD .Add)) maxD)) (seqO (unpO [3, 4, 5, 6] false (o1 (consD (o1 (fun ρ => vg ρ 0) cpyD) (consD (o1 (fun _ => some []) lstD) (consD (fun ρ => vg ρ 2) (consD (o1 (consD (fun ρ => vg ρ 1) (fun _ => some [])) F_zlead) (fun _ => some []))))) tupD)) (seqO (whileO (bind2b (o1 (fun ρ => vg ρ 3) lenD) (o1 (fun ρ => vg ρ 1) lenD) (cmpD .GtE)) (seqO (unpO [7, 8] true (o1 (consD (bind2 (fun ρ => vg ρ 3) (o1 (fun _ => some (.int 1)) negD) idxD) (consD (bind2 (o1 (fun ρ => vg ρ 3) lenD) (o1 (fun ρ => vg ρ 1) lenD) (binD .Sub)) (fun _ => some []))) tupD)) (seqO (asgO 4 (o1 (consD (o1 (consD (fun ρ => vg ρ 4) (consD (fun ρ => vg ρ 6) (fun _ => some []))) F_zscale) (consD (o1 (consD (o1 (consD (o1 (fun ρ => vg ρ 7) negD) (fun _ => some [])) lstD) (consD (fun ρ => vg ρ 8) (fun _ => some []))) F_zraise) (fun _ => some []))) F_zsub)) (seqO (asgO 3 (o1 (consD (o1 (consD (fun ρ => vg ρ 3) (consD (fun ρ => vg ρ 6) (fun _ => some []))) F_zscale) (consD (o1 (consD (o1 (consD (fun ρ => vg ρ 1) (consD (fun ρ => vg ρ 7) (fun _ => some []))) F_zscale) (consD (fun ρ => vg ρ 8) (fun _ => some []))) F_zraise) (fun _ => some []))) F_zsub)) (seqO (subO 5 (fun _ => some (.int 1))) (fun ρ => some (.next ρ)))))) 60) (seqO (asgO 9 (bind2 (fun ρ => vg ρ 6) (fun ρ => vg ρ 5) (binD .Pow))) (seqO (retO (o1 (consD (o1 (consD (fun ρ => vg ρ 4) (consD (fun ρ => vg ρ 9) (fun _ => some []))) F_zscale) (consD (o1 (consD (fun ρ => vg ρ 3) (consD (fun ρ => vg ρ 9) (fun _ => some []))) F_zscale) (consD (fun ρ => vg ρ 2) (fun _ => some [])))) tupD)) (fun ρ => some (.next ρ))))))))
noncomputable def F_pseudo : List PyData → Option PyData := fnD 2 8 X_pseudo
theorem ok_pseudo (B : Base) : FnOk B 4 "pseudo" F_pseudo :=
  fn_ok2 (lev := 3) (i := 54) (ps := (["a", "b"] : List Str)) (ls := (["many", "rest", "found", "left", "first", "number", "power", "more"] : List Str)) (names := (["a", "b", "many", "rest", "found", "left", "first", "number", "power", "more"] : List Str)) rfl (List.mem_filterMap.mpr ⟨stN 54, st_mem (by decide +kernel), by kernel_rfl⟩) rfl (by decide) (by decide +kernel) (fun pm cd doc => bd2 fun _ _ => rfl)
    ((Ex.cons (ExS.drop (Ev.call (ok_check_bottom B) (by decide) (EvL.cons (Ev.var a1 (by decide)) EvL.nil))) (Ex.cons (ExS.asg (Ev.max (Ev.int).r ((Ev.bin ((Ev.bin ((Ev.len (EvR.var a0))).r ((Ev.len (EvR.var a1))).r)).r (Ev.int).r)).r) a2 (by decide) (by decide)) (Ex.cons (ExS.unp (Ev.tup (EvL.cons ((EvNew.copy (EvR.var a0))).ev (EvL.cons ((EvNew.lst EvL.nil)).ev (EvL.cons (Ev.var a2 (by decide)) (EvL.cons (Ev.call (ok_zlead B) (by decide) (EvL.cons (Ev.var a1 (by decide)) EvL.nil)) EvL.nil))))) (Nms.cons (Nms.cons (Nms.cons (Nms.cons Nms.nil)))) (.cons a3 (.cons a4 (.cons a5 (.cons a6 .nil)))) (by decide) (by decide)) (Ex.cons (ExS.while 60 (EvT.cmp ((Ev.len (EvR.var a3))).r ((Ev.len (EvR.var a1))).r) (Ex.cons (ExS.unpS (Ev.tup (EvL.cons (Ev.idx (EvR.var a3) ((Ev.neg Ev.int)).r) (EvL.cons (Ev.bin ((Ev.len (EvR.var a3))).r ((Ev.len (EvR.var a1))).r) EvL.nil))) (.cons a7 (.cons a8 .nil)) (by decide) (by decide) (by intro _; rfl)) (Ex.cons (ExS.asg (Ev.call (ok_zsub B) (by decide) (EvL.cons (Ev.call (ok_zscale B) (by decide) (EvL.cons (Ev.var a4 (by decide)) (EvL.cons (Ev.var a6 (by decide)) EvL.nil))) (EvL.cons (Ev.call (ok_zraise B) (by decide) (EvL.cons ((EvNew.lst (EvL.cons (Ev.neg (Ev.var a7 (by decide))) EvL.nil))).ev (EvL.cons (Ev.var a8 (by decide)) EvL.nil))) EvL.nil))) a4 (by decide) (by decide)) (Ex.cons (ExS.asg (Ev.call (ok_zsub B) (by decide) (EvL.cons (Ev.call (ok_zscale B) (by decide) (EvL.cons (Ev.var a3 (by decide)) (EvL.cons (Ev.var a6 (by decide)) EvL.nil))) (EvL.cons (Ev.call (ok_zraise B) (by decide) (EvL.cons (Ev.call (ok_zscale B) (by decide) (EvL.cons (Ev.var a1 (by decide)) (EvL.cons (Ev.var a7 (by decide)) EvL.nil))) (EvL.cons (Ev.var a8 (by decide)) EvL.nil))) EvL.nil))) a3 (by decide) (by decide)) (Ex.cons (ExS.aug Ev.int a5 (by decide) (by decide)) Ex.nil))))) (Ex.cons (ExS.asg (Ev.bin (EvR.var a6) (EvR.var a5)) a9 (by decide) (by decide)) (Ex.cons (ExS.ret (o' := none) (Ev.tup (EvL.cons (Ev.call (ok_zscale B) (by decide) (EvL.cons (Ev.var a4 (by decide)) (EvL.cons (Ev.var a9 (by decide)) EvL.nil))) (EvL.cons (Ev.call (ok_zscale B) (by decide) (EvL.cons (Ev.var a3 (by decide)) (EvL.cons (Ev.var a9 (by decide)) EvL.nil))) (EvL.cons (Ev.var a2 (by decide)) EvL.nil))))) Ex.nil))))))) rfl rfl rfl

noncomputable def X_zpseudo_rest : Sto → Option Out := (seqO (retO (bind2 (o1 (consD (fun ρ => vg ρ 0) (consD (fun ρ => vg ρ 1) (fun _ => some []))) F_pseudo) (fun _ => some (.int 1)) idxD)) (fun ρ => some (.next ρ)))
noncomputable def F_zpseudo_rest : List PyData → Option PyData := fnD 2 0 X_zpseudo_rest
theorem ok_zpseudo_rest (B : Base) : FnOk B 5 "zpseudo_rest" F_zpseudo_rest :=
  fn_ok2 (lev := 4) (i := 55) (ps := (["a", "b"] : List Str)) (ls := ([] : List Str)) (names := (["a", "b"] : List Str)) rfl (List.mem_filterMap.mpr ⟨stN 55, st_mem (by decide +kernel), by kernel_rfl⟩) rfl (by decide) (by decide +kernel) (fun pm cd doc => bd2 fun _ _ => rfl)
    ((Ex.cons (ExS.ret (o' := none) (Ev.idx ((Ev.call (ok_pseudo B) (by decide) (EvL.cons (Ev.var a0 (by decide)) (EvL.cons (Ev.var a1 (by decide)) EvL.nil)))).r (Ev.int).r)) Ex.nil)) rfl rfl rfl

noncomputable def X_next_height : Sto → Option Out := (seqO (iteD (bind2b (fun ρ => vg ρ 1) (fun _ => some (.int 0)) (cmpD .Eq)) (seqO (retO (fun ρ => vg ρ 2)) (fun ρ => some (.next ρ))) (fun ρ => some (.next ρ))) (seqO (retO (bind2 (bind2 (fun ρ => vg ρ 0) (fun ρ => vg ρ 1) (binD .Pow)) (bind2 (fun ρ => vg ρ 2) (bind2 (fun ρ => vg ρ 1) (fun _ => some (.int 1)) (binD .Sub)) (binD .Pow)) (binD .FloorDiv))) (fun ρ => some (.next ρ))))
noncomputable def F_next_height : List PyData → Option PyData := fnD 3 0 X_next_height
theorem ok_next_height (B : Base) : FnOk B 1 "next_height" F_next_height :=
  fn_ok2 (lev := 0) (i := 57) (ps := (["front", "step", "height"] : List Str)) (ls := ([] : List Str)) (names := (["front", "step", "height"] : List Str)) rfl (List.mem_filterMap.mpr ⟨stN 57, st_mem (by decide +kernel), by kernel_rfl⟩) rfl (by decide) (by decide +kernel) (fun pm cd doc => bd3 fun _ _ _ => rfl)
    ((Ex.cons (ExS.ite (EvT.cmp (EvR.var a1) (Ev.int).r) (Ex.cons (ExS.ret (o' := none) (Ev.var a2 (by decide))) Ex.nil) Ex.nil) (Ex.cons (ExS.ret (o' := none) (Ev.bin ((Ev.bin (EvR.var a0) (EvR.var a1))).r ((Ev.bin (EvR.var a2) ((Ev.bin (EvR.var a1) (Ev.int).r)).r)).r)) Ex.nil))) rfl rfl rfl

noncomputable def X_subresultants : Sto → Option Out := (seqO (iteD (bind2b (o1 (fun ρ => vg ρ 0) lenD) (o1 (fun ρ => vg ρ 1) lenD) (cmpD .Lt)) (seqO (unpO [0, 1] true (o1 (consD (fun ρ => vg ρ 1) (consD (fun ρ => vg ρ 0) (fun _ => some []))) tupD)) (fun ρ => some (.next ρ))) (fun ρ => some (.next ρ))) (seqO (unpN 2 [3, 4] (o1 (consD (o1 (fun ρ => vg ρ 0) cpyD) (consD (o1 (fun ρ => vg ρ 1) cpyD) (fun _ => some []))) lstD) (consD (fun _ => some (.int 1)) (consD (fun _ => some (.int 1)) (fun _ => some [])))) (seqO (whileO (bind2b (o1 (fun ρ => vg ρ 1) lenD) (fun _ => some (.int 1)) (cmpD .Gt)) (seqO (asgO 5 (bind2 (o1 (fun ρ => vg ρ 0) lenD) (o1 (fun ρ => vg ρ 1) lenD) (binD .Sub))) (seqO (asgO 6 (o1 (consD (fun ρ => vg ρ 0) (consD (fun ρ => vg ρ 1) (fun _ => some []))) F_zpseudo_rest)) (seqO (iteD (bind2b (o1 (fun ρ => vg ρ 6) lenD) (fun _ => some (.int 0)) (cmpD .Eq)) (seqO (retO fun ρ => vg ρ 2) (fun ρ => some (.next ρ))) (fun ρ => some (.next ρ))) (seqO (unpO [0, 1] true (o1 (consD (fun ρ => vg ρ 1) (consD (o1 (consD (fun ρ => vg ρ 6) (consD (bind2 (fun ρ => vg ρ 3) (bind2 (fun ρ => vg ρ 4) (fun ρ => vg ρ 5) (binD .Pow)) (binD .Mult)) (fun _ => some []))) F_zdivided) (fun _ => some []))) tupD)) (seqO (appO 2 (fun ρ => vg ρ 1)) (seqO (asgO 3 (o1 (consD (fun ρ => vg ρ 0) (fun _ => some [])) F_zlead)) (seqO (asgO 4 (o1 (consD (fun ρ => vg ρ 3) (consD (fun ρ => vg ρ 5) (consD (fun ρ => vg ρ 4) (fun _ => some [])))) F_next_height)) (fun ρ => some (.next ρ))))))))) 60) (seqO (retO fun ρ => vg ρ 2) (fun ρ => some (.next ρ))))))
noncomputable def F_subresultants : List PyData → Option PyData := fnD 2 5 X_subresultants
theorem ok_subresultants (B : Base) : FnOk B 6 "subresultants" F_subresultants :=
  fn_ok2 (lev := 5) (i := 58) (ps := (["a", "b"] : List Str)) (ls := (["row", "front", "height", "step", "rest"] : List Str)) (names := (["a", "b", "row", "front", "height", "step", "rest"] : List Str)) rfl (List.mem_filterMap.mpr ⟨stN 58, st_mem (by decide +kernel), by kernel_rfl⟩) rfl (by decide) (by decide +kernel) (fun pm cd doc => bd2 fun _ _ => rfl)
    ((Ex.cons (ExS.ite (EvT.cmp ((Ev.len (EvR.var a0))).r ((Ev.len (EvR.var a1))).r) (Ex.cons (ExS.unpS (Ev.tup (EvL.cons (Ev.var a1 (by decide)) (EvL.cons (Ev.var a0 (by decide)) EvL.nil))) (.cons a0 (.cons a1 .nil)) (by decide) (by decide) (by intro _; rfl)) Ex.nil) Ex.nil) (Ex.cons (ExS.unpOwn (EvNew.lst (EvL.cons ((EvNew.copy (EvR.var a0))).ev (EvL.cons ((EvNew.copy (EvR.var a1))).ev EvL.nil))) (EvL.cons Ev.int (EvL.cons Ev.int EvL.nil)) a2 (.cons a3 (.cons a4 .nil)) (by decide) (by intro _; rfl)) (Ex.cons (ExS.while 60 (EvT.cmp ((Ev.len (EvR.var a1))).r (Ev.int).r) (Ex.cons (ExS.asg (Ev.bin ((Ev.len (EvR.var a0))).r ((Ev.len (EvR.var a1))).r) a5 (by decide) (by decide)) (Ex.cons (ExS.asg (Ev.call (ok_zpseudo_rest B) (by decide) (EvL.cons (Ev.var a0 (by decide)) (EvL.cons (Ev.var a1 (by decide)) EvL.nil))) a6 (by decide) (by decide)) (Ex.cons (ExS.ite (EvT.cmp ((Ev.len (EvR.var a6))).r (Ev.int).r) (Ex.cons (ExS.retOwn (o' := (some 2)) a2) Ex.nil) Ex.nil) (Ex.cons (ExS.unpS (Ev.tup (EvL.cons (Ev.var a1 (by decide)) (EvL.cons (Ev.call (ok_zdivided B) (by decide) (EvL.cons (Ev.var a6 (by decide)) (EvL.cons (Ev.bin (EvR.var a3) ((Ev.bin (EvR.var a4) (EvR.var a5))).r) EvL.nil))) EvL.nil))) (.cons a0 (.cons a1 .nil)) (by decide) (by decide) (by intro _; rfl)) (Ex.cons (ExS.app (Ev.var a1 (by decide)) a2) (Ex.cons (ExS.asg (Ev.call (ok_zlead B) (by decide) (EvL.cons (Ev.var a0 (by decide)) EvL.nil)) a3 (by decide) (by decide)) (Ex.cons (ExS.asg (Ev.call (ok_next_height B) (by decide) (EvL.cons (Ev.var a3 (by decide)) (EvL.cons (Ev.var a5 (by decide)) (EvL.cons (Ev.var a4 (by decide)) EvL.nil)))) a4 (by decide) (by decide)) Ex.nil)))))))) (Ex.cons (ExS.retOwn (o' := (some 2)) a2) Ex.nil))))) rfl rfl rfl

noncomputable def X_zgcd : Sto → Option Out := (seqO (iteD (orT (bind2b (o1 (fun ρ => vg ρ 0) lenD) (fun _ => some (.int 0)) (cmpD .Eq)) (bind2b (o1 (fun ρ => vg ρ 1) lenD) (fun _ => some (.int 0)) (cmpD .Eq))) (seqO (asgO 2 (iteD (bind2b (o1 (fun ρ => vg ρ 0) lenD) (fun _ => some (.int 0)) (cmpD .Eq)) (fun ρ => vg ρ 1) (fun ρ => vg ρ 0))) (seqO (retO (o1 (consD (o1 (consD (fun ρ => vg ρ 2) (fun _ => some [])) F_zprimitive) (consD (o1 (consD (fun ρ => vg ρ 2) (fun _ => some [])) F_zcontent) (fun _ => some []))) F_zscale)) (fun ρ => some (.next ρ)))) (fun ρ => some (.next ρ))) (seqO (asgO 3 (o1 (consD (o1 (consD (fun ρ => vg ρ 0) (fun _ => some [])) F_zcontent) (consD (o1 (consD (fun ρ => vg ρ 1) (fun _ => some [])) F_zcontent) (fun _ => some []))) F_gcd)) (seqO (asgO 4 (bind2 (o1 (consD (o1 (consD (fun ρ => vg ρ 0) (fun _ => some [])) F_zprimitive) (consD (o1 (consD (fun ρ => vg ρ 1) (fun _ => some [])) F_zprimitive) (fun _ => some []))) F_subresultants) (o1 (fun _ => some (.int 1)) negD) idxD)) (seqO (retO (iteD (bind2b (o1 (fun ρ => vg ρ 4) lenD) (fun _ => some (.int 1)) (cmpD .Gt)) (o1 (consD (o1 (consD (fun ρ => vg ρ 4) (fun _ => some [])) F_zprimitive) (consD (fun ρ => vg ρ 3) (fun _ => some []))) F_zscale) (o1 (consD (fun ρ => vg ρ 3) (fun _ => some [])) lstD))) (fun ρ => some (.next ρ))))))
noncomputable def F_zgcd : List PyData → Option PyData := fnD 2 3 X_zgcd
theorem ok_zgcd (B : Base) : FnOk B 7 "zgcd" F_zgcd :=
  fn_ok2 (lev := 6) (i := 59) (ps := (["a", "b"] : List Str)) (ls := (["only", "number", "last"] : List Str)) (names := (["a", "b", "only", "number", "last"] : List Str)) rfl (List.mem_filterMap.mpr ⟨stN 59, st_mem (by decide +kernel), by kernel_rfl⟩) rfl (by decide) (by decide +kernel) (fun pm cd doc => bd2 fun _ _ => rfl)
    ((Ex.cons (ExS.ite (EvT.or (EvT.cmp ((Ev.len (EvR.var a0))).r (Ev.int).r) (EvT.cmp ((Ev.len (EvR.var a1))).r (Ev.int).r)) (Ex.cons (ExS.asg (Ev.ite (EvT.cmp ((Ev.len (EvR.var a0))).r (Ev.int).r) (Ev.var a1 (by decide)) (Ev.var a0 (by decide))) a2 (by decide) (by decide)) (Ex.cons (ExS.ret (o' := none) (Ev.call (ok_zscale B) (by decide) (EvL.cons (Ev.call (ok_zprimitive B) (by decide) (EvL.cons (Ev.var a2 (by decide)) EvL.nil)) (EvL.cons (Ev.call (ok_zcontent B) (by decide) (EvL.cons (Ev.var a2 (by decide)) EvL.nil)) EvL.nil)))) Ex.nil)) Ex.nil) (Ex.cons (ExS.asg (Ev.call (ok_gcd B) (by decide) (EvL.cons (Ev.call (ok_zcontent B) (by decide) (EvL.cons (Ev.var a0 (by decide)) EvL.nil)) (EvL.cons (Ev.call (ok_zcontent B) (by decide) (EvL.cons (Ev.var a1 (by decide)) EvL.nil)) EvL.nil))) a3 (by decide) (by decide)) (Ex.cons (ExS.asg (Ev.idx ((Ev.call (ok_subresultants B) (by decide) (EvL.cons (Ev.call (ok_zprimitive B) (by decide) (EvL.cons (Ev.var a0 (by decide)) EvL.nil)) (EvL.cons (Ev.call (ok_zprimitive B) (by decide) (EvL.cons (Ev.var a1 (by decide)) EvL.nil)) EvL.nil)))).r ((Ev.neg Ev.int)).r) a4 (by decide) (by decide)) (Ex.cons (ExS.ret (o' := none) (Ev.ite (EvT.cmp ((Ev.len (EvR.var a4))).r (Ev.int).r) (Ev.call (ok_zscale B) (by decide) (EvL.cons (Ev.call (ok_zprimitive B) (by decide) (EvL.cons (Ev.var a4 (by decide)) EvL.nil)) (EvL.cons (Ev.var a3 (by decide)) EvL.nil))) ((EvNew.lst (EvL.cons (Ev.var a3 (by decide)) EvL.nil))).ev)) Ex.nil))))) rfl rfl rfl

noncomputable def X_sign_of : Sto → Option Out := (seqO (retO (bind2 (fun ρ => ((bind2b (fun ρ => vg ρ 0) (fun _ => some (.int 0)) (cmpD .Gt)) ρ).map .bool) (fun ρ => ((bind2b (fun ρ => vg ρ 0) (fun _ => some (.int 0)) (cmpD .Lt)) ρ).map .bool) (binD .Sub))) (fun ρ => some (.next ρ)))
noncomputable def F_sign_of : List PyData → Option PyData := fnD 1 0 X_sign_of
theorem ok_sign_of (B : Base) : FnOk B 1 "sign_of" F_sign_of :=
  fn_ok2 (lev := 0) (i := 61) (ps := (["number"] : List Str)) (ls := ([] : List Str)) (names := (["number"] : List Str)) rfl (List.mem_filterMap.mpr ⟨stN 61, st_mem (by decide +kernel), by kernel_rfl⟩) rfl (by decide) (by decide +kernel) (fun pm cd doc => bd1 fun _ => rfl)
    ((Ex.cons (ExS.ret (o' := none) (Ev.bin ((Ev.cmp (EvR.var a0) (Ev.int).r)).r ((Ev.cmp (EvR.var a0) (Ev.int).r)).r)) Ex.nil)) rfl rfl rfl

noncomputable def X_value_sign : Sto → Option Out := (seqO (unpO [2, 3] false (fun ρ => vg ρ 1)) (seqO (unpO [4, 5] false (o1 (consD (fun _ => some (.int 0)) (consD (fun _ => some (.int 1)) (fun _ => some []))) tupD)) (seqO (forI 6 (o1 (fun ρ => vg ρ 0) revD) (seqO (asgO 4 (bind2 (bind2 (fun ρ => vg ρ 4) (fun ρ => vg ρ 2) (binD .Mult)) (bind2 (fun ρ => vg ρ 6) (fun ρ => vg ρ 5) (binD .Mult)) (binD .Add))) (seqO (asgO 5 (bind2 (fun ρ => vg ρ 5) (fun ρ => vg ρ 3) (binD .Mult))) (fun ρ => some (.next ρ))))) (seqO (retO (o1 (consD (fun ρ => vg ρ 4) (fun _ => some [])) F_sign_of)) (fun ρ => some (.next ρ))))))
noncomputable def F_value_sign : List PyData → Option PyData := fnD 2 5 X_value_sign
theorem ok_value_sign (B : Base) : FnOk B 2 "value_sign" F_value_sign :=
  fn_ok2 (lev := 1) (i := 62) (ps := (["p", "x"] : List Str)) (ls := (["top", "bottom", "found", "scale", "coefficient"] : List Str)) (names := (["p", "x", "top", "bottom", "found", "scale", "coefficient"] : List Str)) rfl (List.mem_filterMap.mpr ⟨stN 62, st_mem (by decide +kernel), by kernel_rfl⟩) rfl (by decide) (by decide +kernel) (fun pm cd doc => bd2 fun _ _ => rfl)
    ((Ex.cons (ExS.unp (Ev.var a1 (by decide)) (Nms.cons (Nms.cons Nms.nil)) (.cons a2 (.cons a3 .nil)) (by decide) (by decide)) (Ex.cons (ExS.unp (Ev.tup (EvL.cons Ev.int (EvL.cons Ev.int EvL.nil))) (Nms.cons (Nms.cons Nms.nil)) (.cons a4 (.cons a5 .nil)) (by decide) (by decide)) (Ex.cons (ExS.for (EvI.rev (Ev.var a0 (by decide))) (Ex.cons (ExS.asg (Ev.bin ((Ev.bin (EvR.var a4) (EvR.var a2))).r ((Ev.bin (EvR.var a6) (EvR.var a5))).r) a4 (by decide) (by decide)) (Ex.cons (ExS.asg (Ev.bin (EvR.var a5) (EvR.var a3)) a5 (by decide) (by decide)) Ex.nil)) a6 (by decide) (by decide)) (Ex.cons (ExS.ret (o' := none) (Ev.call (ok_sign_of B) (by decide) (EvL.cons (Ev.var a4 (by decide)) EvL.nil))) Ex.nil))))) rfl rfl rfl

noncomputable def X_end_sign : Sto → Option Out := (seqO (iteD (bind2b (fun ρ => vg ρ 0) (o1 (fun _ => some []) lstD) (cmpD .Eq)) (seqO (retO (fun _ => some (.int 0))) (fun ρ => some (.next ρ))) (fun ρ => some (.next ρ))) (seqO (asgO 2 (o1 (consD (o1 (consD (fun ρ => vg ρ 0) (fun _ => some [])) F_zlead) (fun _ => some [])) F_sign_of)) (seqO (retO (iteD (andT (bind2b (fun ρ => vg ρ 1) (fun _ => some (.str "-")) (cmpD .Eq)) (bind2b (bind2 (o1 (consD (fun ρ => vg ρ 0) (fun _ => some [])) F_zdegree) (fun _ => some (.int 2)) (binD .Mod)) (fun _ => some (.int 1)) (cmpD .Eq))) (o1 (fun ρ => vg ρ 2) negD) (fun ρ => vg ρ 2))) (fun ρ => some (.next ρ)))))
noncomputable def F_end_sign : List PyData → Option PyData := fnD 2 1 X_end_sign
theorem ok_end_sign (B : Base) : FnOk B 2 "end_sign" F_end_sign :=
  fn_ok2 (lev := 1) (i := 63) (ps := (["p", "end"] : List Str)) (ls := (["found"] : List Str)) (names := (["p", "end", "found"] : List Str)) rfl (List.mem_filterMap.mpr ⟨stN 63, st_mem (by decide +kernel), by kernel_rfl⟩) rfl (by decide) (by decide +kernel) (fun pm cd doc => bd2 fun _ _ => rfl)
    ((Ex.cons (ExS.ite (EvT.cmp (EvR.var a0) (((EvNew.lst EvL.nil)).ev).r) (Ex.cons (ExS.ret (o' := none) Ev.int) Ex.nil) Ex.nil) (Ex.cons (ExS.asg (Ev.call (ok_sign_of B) (by decide) (EvL.cons (Ev.call (ok_zlead B) (by decide) (EvL.cons (Ev.var a0 (by decide)) EvL.nil)) EvL.nil)) a2 (by decide) (by decide)) (Ex.cons (ExS.ret (o' := none) (Ev.ite (EvT.and (EvT.cmp (EvR.var a1) (Ev.str).r) (EvT.cmp ((Ev.bin ((Ev.call (ok_zdegree B) (by decide) (EvL.cons (Ev.var a0 (by decide)) EvL.nil))).r (Ev.int).r)).r (Ev.int).r)) (Ev.neg (Ev.var a2 (by decide))) (Ev.var a2 (by decide)))) Ex.nil)))) rfl rfl rfl

noncomputable def X_sign_at : Sto → Option Out := (seqO (retO (iteD (o1 (o1 (fun ρ => vg ρ 1) isStr) asB) (o1 (consD (fun ρ => vg ρ 0) (consD (fun ρ => vg ρ 1) (fun _ => some []))) F_end_sign) (o1 (consD (fun ρ => vg ρ 0) (consD (fun ρ => vg ρ 1) (fun _ => some []))) F_value_sign))) (fun ρ => some (.next ρ)))
noncomputable def F_sign_at : List PyData → Option PyData := fnD 2 0 X_sign_at
theorem ok_sign_at (B : Base) : FnOk B 3 "sign_at" F_sign_at :=
  fn_ok2 (lev := 2) (i := 64) (ps := (["p", "x"] : List Str)) (ls := ([] : List Str)) (names := (["p", "x"] : List Str)) rfl (List.mem_filterMap.mpr ⟨stN 64, st_mem (by decide +kernel), by kernel_rfl⟩) rfl (by decide) (by decide +kernel) (fun pm cd doc => bd2 fun _ _ => rfl)
    ((Ex.cons (ExS.ret (o' := none) (Ev.ite (EvT.val (Ev.isstr (Ev.var a1 (by decide)))) (Ev.call (ok_end_sign B) (by decide) (EvL.cons (Ev.var a0 (by decide)) (EvL.cons (Ev.var a1 (by decide)) EvL.nil))) (Ev.call (ok_value_sign B) (by decide) (EvL.cons (Ev.var a0 (by decide)) (EvL.cons (Ev.var a1 (by decide)) EvL.nil))))) Ex.nil)) rfl rfl rfl

noncomputable def X_simple_part : Sto → Option Out := (seqO (asgO 1 (o1 (consD (fun ρ => vg ρ 0) (consD (o1 (consD (fun ρ => vg ρ 0) (fun _ => some [])) F_zderive) (fun _ => some []))) F_zgcd)) (seqO (retO (iteD (bind2b (o1 (consD (fun ρ => vg ρ 1) (fun _ => some [])) F_zdegree) (fun _ => some (.int 0)) (cmpD .Gt)) (fun _ => none) (fun ρ => vg ρ 0))) (fun ρ => some (.next ρ))))
noncomputable def F_simple_part : List PyData → Option PyData := fnD 1 1 X_simple_part
theorem ok_simple_part (B : Base) : FnOk B 8 "simple_part" F_simple_part :=
  fn_ok2 (lev := 7) (i := 65) (ps := (["f"] : List Str)) (ls := (["common"] : List Str)) (names := (["f", "common"] : List Str)) rfl (List.mem_filterMap.mpr ⟨stN 65, st_mem (by decide +kernel), by kernel_rfl⟩) rfl (by decide) (by decide +kernel) (fun pm cd doc => bd1 fun _ => rfl)
    ((Ex.cons (ExS.asg (Ev.call (ok_zgcd B) (by decide) (EvL.cons (Ev.var a0 (by decide)) (EvL.cons (Ev.call (ok_zderive B) (by decide) (EvL.cons (Ev.var a0 (by decide)) EvL.nil)) EvL.nil))) a1 (by decide) (by decide)) (Ex.cons (ExS.ret (o' := none) (Ev.ite (EvT.cmp ((Ev.call (ok_zdegree B) (by decide) (EvL.cons (Ev.var a1 (by decide)) EvL.nil))).r (Ev.int).r) Ev.dead (Ev.var a0 (by decide)))) Ex.nil))) rfl rfl rfl

noncomputable def X_lessened : Sto → Option Out := (seqO (asgO 1 (o1 (consD (fun ρ => vg ρ 0) (fun _ => some [])) F_zcontent)) (seqO (retO (iteD (bind2b (fun ρ => vg ρ 1) (fun _ => some (.int 1)) (cmpD .Gt)) (compO (o1 (fun ρ => vg ρ 0) asL) [1] (fun _ => some true) (bind2 (fun ρ => vg ρ 0) (fun ρ => vg ρ 1) (binD .FloorDiv))) (fun ρ => vg ρ 0))) (fun ρ => some (.next ρ))))
noncomputable def F_lessened : List PyData → Option PyData := fnD 1 1 X_lessened
theorem ok_lessened (B : Base) : FnOk B 4 "lessened" F_lessened :=
  fn_ok2 (lev := 3) (i := 66) (ps := (["p"] : List Str)) (ls := (["content"] : List Str)) (names := (["p", "content"] : List Str)) rfl (List.mem_filterMap.mpr ⟨stN 66, st_mem (by decide +kernel), by kernel_rfl⟩) rfl (by decide) (by decide +kernel) (fun pm cd doc => bd1 fun _ => rfl)
    ((Ex.cons (ExS.asg (Ev.call (ok_zcontent B) (by decide) (EvL.cons (Ev.var a0 (by decide)) EvL.nil)) a1 (by decide) (by decide)) (Ex.cons (ExS.ret (o' := none) (Ev.ite (EvT.cmp (EvR.var a1) (Ev.int).r) ((EvNew.comp (EvI.lst (Ev.var a0 (by decide))) (.cons a1 .nil) EvTs.nil (Ev.bin (EvR.var a0) (EvR.var a1)) (by decide +kernel) (blk_of (by decide +kernel)))).ev (Ev.var a0 (by decide)))) Ex.nil))) rfl rfl rfl

noncomputable def X_next_of_row : Sto → Option Out := (seqO (unpO [2, 3, 4] false (o1 (consD (fun ρ => vg ρ 0) (consD (fun ρ => vg ρ 1) (fun _ => some []))) F_pseudo)) (seqO (iteD (andT (bind2b (bind2 (fun ρ => vg ρ 4) (fun _ => some (.int 2)) (binD .Mod)) (fun _ => some (.int 1)) (cmpD .Eq)) (bind2b (o1 (consD (fun ρ => vg ρ 1) (fun _ => some [])) F_zlead) (fun _ => some (.int 0)) (cmpD .Lt))) (seqO (retO (o1 (consD (fun ρ => vg ρ 3) (fun _ => some [])) F_lessened)) (fun ρ => some (.next ρ))) (fun ρ => some (.next ρ))) (seqO (retO (o1 (consD (o1 (consD (fun ρ => vg ρ 3) (fun _ => some [])) F_zneg) (fun _ => some [])) F_lessened)) (fun ρ => some (.next ρ)))))
noncomputable def F_next_of_row : List PyData → Option PyData := fnD 2 3 X_next_of_row
theorem ok_next_of_row (B : Base) : FnOk B 5 "next_of_row" F_next_of_row :=
  fn_ok2 (lev := 4) (i := 67) (ps := (["a", "b"] : List Str)) (ls := (["quotient", "rest", "power"] : List Str)) (names := (["a", "b", "quotient", "rest", "power"] : List Str)) rfl (List.mem_filterMap.mpr ⟨stN 67, st_mem (by decide +kernel), by kernel_rfl⟩) rfl (by decide) (by decide +kernel) (fun pm cd doc => bd2 fun _ _ => rfl)
    ((Ex.cons (ExS.unp (Ev.call (ok_pseudo B) (by decide) (EvL.cons (Ev.var a0 (by decide)) (EvL.cons (Ev.var a1 (by decide)) EvL.nil))) (Nms.cons (Nms.cons (Nms.cons Nms.nil))) (.cons a2 (.cons a3 (.cons a4 .nil))) (by decide) (by decide)) (Ex.cons (ExS.ite (EvT.and (EvT.cmp ((Ev.bin (EvR.var a4) (Ev.int).r)).r (Ev.int).r) (EvT.cmp ((Ev.call (ok_zlead B) (by decide) (EvL.cons (Ev.var a1 (by decide)) EvL.nil))).r (Ev.int).r)) (Ex.cons (ExS.ret (o' := none) (Ev.call (ok_lessened B) (by decide) (EvL.cons (Ev.var a3 (by decide)) EvL.nil))) Ex.nil) Ex.nil) (Ex.cons (ExS.ret (o' := none) (Ev.call (ok_lessened B) (by decide) (EvL.cons (Ev.call (ok_zneg B) (by decide) (EvL.cons (Ev.var a3 (by decide)) EvL.nil)) EvL.nil))) Ex.nil)))) rfl rfl rfl

noncomputable def X_sturm_row : Sto → Option Out := (seqO (unpN 1 [2] (o1 (consD (fun ρ => vg ρ 0) (fun _ => some [])) lstD) (consD (o1 (consD (fun ρ => vg ρ 0) (fun _ => some [])) F_zderive) (fun _ => some []))) (seqO (whileO (bind2b (fun ρ => vg ρ 2) (o1 (fun _ => some []) lstD) (cmpD .NotEq)) (seqO (appO 1 (fun ρ => vg ρ 2)) (seqO (asgO 2 (o1 (consD (bind2 (fun ρ => vg ρ 1) (o1 (fun _ => some (.int 2)) negD) idxD) (consD (bind2 (fun ρ => vg ρ 1) (o1 (fun _ => some (.int 1)) negD) idxD) (fun _ => some []))) F_next_of_row)) (fun ρ => some (.next ρ)))) 60) (seqO (retO fun ρ => vg ρ 1) (fun ρ => some (.next ρ)))))
noncomputable def F_sturm_row : List PyData → Option PyData := fnD 1 2 X_sturm_row
theorem ok_sturm_row (B : Base) : FnOk B 6 "sturm_row" F_sturm_row :=
  fn_ok2 (lev := 5) (i := 68) (ps := (["f"] : List Str)) (ls := (["found", "later"] : List Str)) (names := (["f", "found", "later"] : List Str)) rfl (List.mem_filterMap.mpr ⟨stN 68, st_mem (by decide +kernel), by kernel_rfl⟩) rfl (by decide) (by decide +kernel) (fun pm cd doc => bd1 fun _ => rfl)
    ((Ex.cons (ExS.unpOwn (EvNew.lst (EvL.cons (Ev.var a0 (by decide)) EvL.nil)) (EvL.cons (Ev.call (ok_zderive B) (by decide) (EvL.cons (Ev.var a0 (by decide)) EvL.nil)) EvL.nil) a1 (.cons a2 .nil) (by decide) (by intro _; rfl)) (Ex.cons (ExS.while 60 (EvT.cmp (EvR.var a2) (((EvNew.lst EvL.nil)).ev).r) (Ex.cons (ExS.app (Ev.var a2 (by decide)) a1) (Ex.cons (ExS.asg (Ev.call (ok_next_of_row B) (by decide) (EvL.cons (Ev.idx (EvR.var a1) ((Ev.neg Ev.int)).r) (EvL.cons (Ev.idx (EvR.var a1) ((Ev.neg Ev.int)).r) EvL.nil))) a2 (by decide) (by decide)) Ex.nil))) (Ex.cons (ExS.retOwn (o' := (some 1)) a1) Ex.nil)))) rfl rfl rfl

noncomputable def X_changes_at : Sto → Option Out := (seqO (asgO 2 (compO (o1 (fun ρ => vg ρ 0) asL) [1] (fun _ => some true) (o1 (consD (fun ρ => vg ρ 0) (consD (fun ρ => vg ρ 1) (fun _ => some []))) F_sign_at))) (seqO (asgO 2 (compO (o1 (fun ρ => vg ρ 2) asL) [] (bind2b (fun ρ => vg ρ 0) (fun _ => some (.int 0)) (cmpD .NotEq)) (fun ρ => vg ρ 0))) (seqO (retO (o1 (compO (bind2l (fun _ => some (.int 1)) (o1 (fun ρ => vg ρ 2) lenD) rngD2) [2] (bind2b (bind2 (fun ρ => vg ρ 1) (fun ρ => vg ρ 0) idxD) (bind2 (fun ρ => vg ρ 1) (bind2 (fun ρ => vg ρ 0) (fun _ => some (.int 1)) (binD .Sub)) idxD) (cmpD .NotEq)) (fun _ => some (.int 1))) lenD)) (fun ρ => some (.next ρ)))))
noncomputable def F_changes_at : List PyData → Option PyData := fnD 2 1 X_changes_at
theorem ok_changes_at (B : Base) : FnOk B 4 "changes_at" F_changes_at :=
  fn_ok2 (lev := 3) (i := 69) (ps := (["row", "x"] : List Str)) (ls := (["signs"] : List Str)) (names := (["row", "x", "signs"] : List Str)) rfl (List.mem_filterMap.mpr ⟨stN 69, st_mem (by decide +kernel), by kernel_rfl⟩) rfl (by decide) (by decide +kernel) (fun pm cd doc => bd2 fun _ _ => rfl)
    ((Ex.cons (ExS.asg ((EvNew.comp (EvI.lst (Ev.var a0 (by decide))) (.cons a1 .nil) EvTs.nil (Ev.call (ok_sign_at B) (by decide) (EvL.cons (Ev.var a0 (by decide)) (EvL.cons (Ev.var a1 (by decide)) EvL.nil))) (by decide +kernel) (blk_of (by decide +kernel)))).ev a2 (by decide) (by decide)) (Ex.cons (ExS.asg ((EvNew.comp (EvI.lst (Ev.var a2 (by decide))) .nil (EvTs.one (EvT.cmp (EvR.var a0) (Ev.int).r)) (Ev.var a0 (by decide)) (by decide +kernel) (blk_of (by decide +kernel)))).ev a2 (by decide) (by decide)) (Ex.cons (ExS.ret (o' := none) (Ev.len (((EvNew.comp (EvI.rng2 (Ev.int).r ((Ev.len (EvR.var a2))).r) (.cons a2 .nil) (EvTs.one (EvT.cmp ((Ev.idx (EvR.var a1) (EvR.var a0))).r ((Ev.idx (EvR.var a1) ((Ev.bin (EvR.var a0) (Ev.int).r)).r)).r)) Ev.int (by decide +kernel) (blk_of (by decide +kernel)))).ev).r)) Ex.nil)))) rfl rfl rfl

noncomputable def X_count_by_row : Sto → Option Out := (seqO (retO (bind2 (o1 (consD (fun ρ => vg ρ 0) (consD (fun ρ => vg ρ 1) (fun _ => some []))) F_changes_at) (o1 (consD (fun ρ => vg ρ 0) (consD (fun ρ => vg ρ 2) (fun _ => some []))) F_changes_at) (binD .Sub))) (fun ρ => some (.next ρ)))
noncomputable def F_count_by_row : List PyData → Option PyData := fnD 3 0 X_count_by_row
theorem ok_count_by_row (B : Base) : FnOk B 5 "count_by_row" F_count_by_row :=
  fn_ok2 (lev := 4) (i := 70) (ps := (["row", "low", "high"] : List Str)) (ls := ([] : List Str)) (names := (["row", "low", "high"] : List Str)) rfl (List.mem_filterMap.mpr ⟨stN 70, st_mem (by decide +kernel), by kernel_rfl⟩) rfl (by decide) (by decide +kernel) (fun pm cd doc => bd3 fun _ _ _ => rfl)
    ((Ex.cons (ExS.ret (o' := none) (Ev.bin ((Ev.call (ok_changes_at B) (by decide) (EvL.cons (Ev.var a0 (by decide)) (EvL.cons (Ev.var a1 (by decide)) EvL.nil)))).r ((Ev.call (ok_changes_at B) (by decide) (EvL.cons (Ev.var a0 (by decide)) (EvL.cons (Ev.var a2 (by decide)) EvL.nil)))).r)) Ex.nil)) rfl rfl rfl

noncomputable def X_count_roots : Sto → Option Out := (seqO (retO (o1 (consD (o1 (consD (o1 (consD (fun ρ => vg ρ 0) (fun _ => some [])) F_simple_part) (fun _ => some [])) F_sturm_row) (consD (fun ρ => vg ρ 1) (consD (fun ρ => vg ρ 2) (fun _ => some [])))) F_count_by_row)) (fun ρ => some (.next ρ)))
noncomputable def F_count_roots : List PyData → Option PyData := fnD 3 0 X_count_roots
theorem ok_count_roots (B : Base) : FnOk B 9 "count_roots" F_count_roots :=
  fn_ok2 (lev := 8) (i := 71) (ps := (["f", "low", "high"] : List Str)) (ls := ([] : List Str)) (names := (["f", "low", "high"] : List Str)) rfl (List.mem_filterMap.mpr ⟨stN 71, st_mem (by decide +kernel), by kernel_rfl⟩) rfl (by decide) (by decide +kernel) (fun pm cd doc => bd3 fun _ _ _ => rfl)
    ((Ex.cons (ExS.ret (o' := none) (Ev.call (ok_count_by_row B) (by decide) (EvL.cons (Ev.call (ok_sturm_row B) (by decide) (EvL.cons (Ev.call (ok_simple_part B) (by decide) (EvL.cons (Ev.var a0 (by decide)) EvL.nil)) EvL.nil)) (EvL.cons (Ev.var a1 (by decide)) (EvL.cons (Ev.var a2 (by decide)) EvL.nil))))) Ex.nil)) rfl rfl rfl

noncomputable def X__law_hermite : Sto → Option Out := (seqO (asgO 1 (o1 (consD (o1 (consD (fun _ => some (.tuple [.int 1, .int 1])) (fun _ => some [])) lstD) (consD (o1 (consD (fun _ => some (.tuple [.int 0, .int 1])) (consD (o1 (consD (fun _ => some (.int 2)) (consD (fun _ => some (.int 1)) (fun _ => some []))) tupD) (fun _ => some []))) lstD) (fun _ => some []))) lstD)) (seqO (forI 2 (bind2l (fun _ => some (.int 1)) (fun ρ => vg ρ 0) rngD2) (seqO (appO 1 (o1 (consD (o1 (consD (o1 (consD (fun _ => some (.tuple [.int 0, .int 1])) (consD (o1 (consD (fun _ => some (.int 2)) (consD (fun _ => some (.int 1)) (fun _ => some []))) tupD) (fun _ => some []))) lstD) (consD (bind2 (fun ρ => vg ρ 1) (fun ρ => vg ρ 2) idxD) (fun _ => some []))) F_qmul) (consD (o1 (consD (bind2 (fun ρ => vg ρ 1) (bind2 (fun ρ => vg ρ 2) (fun _ => some (.int 1)) (binD .Sub)) idxD) (consD (o1 (consD (bind2 (fun _ => some (.int 2)) (fun ρ => vg ρ 2) (binD .Mult)) (consD (fun _ => some (.int 1)) (fun _ => some []))) tupD) (fun _ => some []))) F_qscale) (fun _ => some []))) F_qsub)) (fun ρ => some (.next ρ)))) (seqO (retO fun ρ => vg ρ 1) (fun ρ => some (.next ρ)))))
noncomputable def F__law_hermite : List PyData → Option PyData := fnD 1 2 X__law_hermite
theorem ok__law_hermite (B : Base) : FnOk B 6 "_law_hermite" F__law_hermite :=
  fn_ok2 (lev := 5) (i := 74) (ps := (["most"] : List Str)) (ls := (["found", "k"] : List Str)) (names := (["most", "found", "k"] : List Str)) rfl (List.mem_filterMap.mpr ⟨stN 74, st_mem (by decide +kernel), by kernel_rfl⟩) rfl (by decide) (by decide +kernel) (fun pm cd doc => bd1 fun _ => rfl)
    ((Ex.cons (ExS.asgOwn (EvNew.lst (EvL.cons ((EvNew.lst (EvL.cons Ev.r1 EvL.nil))).ev (EvL.cons ((EvNew.lst (EvL.cons Ev.r0 (EvL.cons (Ev.tup (EvL.cons Ev.int (EvL.cons Ev.int EvL.nil))) EvL.nil)))).ev EvL.nil))) a1 (by decide)) (Ex.cons (ExS.for (EvI.rng2 (Ev.int).r (EvR.var a0)) (Ex.cons (ExS.app (Ev.call (ok_qsub B) (by decide) (EvL.cons (Ev.call (ok_qmul B) (by decide) (EvL.cons ((EvNew.lst (EvL.cons Ev.r0 (EvL.cons (Ev.tup (EvL.cons Ev.int (EvL.cons Ev.int EvL.nil))) EvL.nil)))).ev (EvL.cons (Ev.idx (EvR.var a1) (EvR.var a2)) EvL.nil))) (EvL.cons (Ev.call (ok_qscale B) (by decide) (EvL.cons (Ev.idx (EvR.var a1) ((Ev.bin (EvR.var a2) (Ev.int).r)).r) (EvL.cons (Ev.tup (EvL.cons (Ev.bin (Ev.int).r (EvR.var a2)) (EvL.cons Ev.int EvL.nil))) EvL.nil))) EvL.nil))) a1) Ex.nil) a2 (by decide) (by decide)) (Ex.cons (ExS.retOwn (o' := (some 1)) a1) Ex.nil)))) rfl rfl rfl

noncomputable def X__law_laguerre : Sto → Option Out := (seqO (asgO 2 (o1 (fun _ => some []) lstD)) (seqO (forI 3 (o1 (bind2 (fun ρ => vg ρ 0) (fun _ => some (.int 1)) (binD .Add)) rngD1) (seqO (asgO 4 (fun _ => some (.tuple [.int 1, .int 1]))) (seqO (forI 5 (bind2l (bind2 (fun ρ => vg ρ 3) (fun _ => some (.int 1)) (binD .Add)) (bind2 (fun ρ => vg ρ 0) (fun _ => some (.int 1)) (binD .Add)) rngD2) (seqO (asgO 4 (o1 (consD (o1 (consD (fun ρ => vg ρ 4) (consD (o1 (consD (o1 (consD (fun ρ => vg ρ 5) (consD (fun _ => some (.int 1)) (fun _ => some []))) tupD) (consD (fun ρ => vg ρ 1) (fun _ => some []))) F_radd) (fun _ => some []))) F_rmul) (consD (o1 (consD (bind2 (fun ρ => vg ρ 5) (fun ρ => vg ρ 3) (binD .Sub)) (consD (fun _ => some (.int 1)) (fun _ => some []))) tupD) (fun _ => some []))) F_rdiv)) (fun ρ => some (.next ρ)))) (seqO (forI 5 (bind2l (fun _ => some (.int 1)) (bind2 (fun ρ => vg ρ 3) (fun _ => some (.int 1)) (binD .Add)) rngD2) (seqO (asgO 4 (o1 (consD (fun ρ => vg ρ 4) (consD (o1 (consD (bind2 (fun _ => some (.int 0)) (fun ρ => vg ρ 5) (binD .Sub)) (consD (fun _ => some (.int 1)) (fun _ => some []))) tupD) (fun _ => some []))) F_rdiv)) (fun ρ => some (.next ρ)))) (seqO (appO 2 (fun ρ => vg ρ 4)) (fun ρ => some (.next ρ))))))) (seqO (retO fun ρ => vg ρ 2) (fun ρ => some (.next ρ)))))
noncomputable def F__law_laguerre : List PyData → Option PyData := fnD 2 4 X__law_laguerre
theorem ok__law_laguerre (B : Base) : FnOk B 4 "_law_laguerre" F__law_laguerre :=
  fn_ok2 (lev := 3) (i := 75) (ps := (["place", "a"] : List Str)) (ls := (["found", "low", "number", "high"] : List Str)) (names := (["place", "a", "found", "low", "number", "high"] : List Str)) rfl (List.mem_filterMap.mpr ⟨stN 75, st_mem (by decide +kernel), by kernel_rfl⟩) rfl (by decide) (by decide +kernel) (fun pm cd doc => bd2 fun _ _ => rfl)
    ((Ex.cons (ExS.asgOwn (EvNew.lst EvL.nil) a2 (by decide)) (Ex.cons (ExS.for (EvI.rng1 ((Ev.bin (EvR.var a0) (Ev.int).r)).r) (Ex.cons (ExS.asg Ev.r1 a4 (by decide) (by decide)) (Ex.cons (ExS.for (EvI.rng2 ((Ev.bin (EvR.var a3) (Ev.int).r)).r ((Ev.bin (EvR.var a0) (Ev.int).r)).r) (Ex.cons (ExS.asg (Ev.call (ok_rdiv B) (by decide) (EvL.cons (Ev.call (ok_rmul B) (by decide) (EvL.cons (Ev.var a4 (by decide)) (EvL.cons (Ev.call (ok_radd B) (by decide) (EvL.cons (Ev.tup (EvL.cons (Ev.var a5 (by decide)) (EvL.cons Ev.int EvL.nil))) (EvL.cons (Ev.var a1 (by decide)) EvL.nil))) EvL.nil))) (EvL.cons (Ev.tup (EvL.cons (Ev.bin (EvR.var a5) (EvR.var a3)) (EvL.cons Ev.int EvL.nil))) EvL.nil))) a4 (by decide) (by decide)) Ex.nil) a5 (by decide) (by decide)) (Ex.cons (ExS.for (EvI.rng2 (Ev.int).r ((Ev.bin (EvR.var a3) (Ev.int).r)).r) (Ex.cons (ExS.asg (Ev.call (ok_rdiv B) (by decide) (EvL.cons (Ev.var a4 (by decide)) (EvL.cons (Ev.tup (EvL.cons (Ev.bin (Ev.int).r (EvR.var a5)) (EvL.cons Ev.int EvL.nil))) EvL.nil))) a4 (by decide) (by decide)) Ex.nil) a5 (by decide) (by decide)) (Ex.cons (ExS.app (Ev.var a4 (by decide)) a2) Ex.nil)))) a3 (by decide) (by decide)) (Ex.cons (ExS.retOwn (o' := (some 2)) a2) Ex.nil)))) rfl rfl rfl

noncomputable def X__law_mean : Sto → Option Out := (seqO (asgO 2 (fun _ => some (.tuple [.int 0, .int 1]))) (seqO (forN 3 4 (fun ρ => vg ρ 0) (seqO (asgO 2 (o1 (consD (fun ρ => vg ρ 2) (consD (o1 (consD (fun ρ => vg ρ 4) (consD (bind2 (fun ρ => vg ρ 1) (fun ρ => vg ρ 3) idxD) (fun _ => some []))) F_rmul) (fun _ => some []))) F_radd)) (fun ρ => some (.next ρ)))) (seqO (retO (fun ρ => vg ρ 2)) (fun ρ => some (.next ρ)))))
noncomputable def F__law_mean : List PyData → Option PyData := fnD 2 3 X__law_mean
theorem ok__law_mean (B : Base) : FnOk B 4 "_law_mean" F__law_mean :=
  fn_ok2 (lev := 3) (i := 76) (ps := (["f", "means"] : List Str)) (ls := (["total", "power", "number"] : List Str)) (names := (["f", "means", "total", "power", "number"] : List Str)) rfl (List.mem_filterMap.mpr ⟨stN 76, st_mem (by decide +kernel), by kernel_rfl⟩) rfl (by decide) (by decide +kernel) (fun pm cd doc => bd2 fun _ _ => rfl)
    ((Ex.cons (ExS.asg Ev.r0 a2 (by decide) (by decide)) (Ex.cons (ExS.forE (Ev.var a0 (by decide)) (Ex.cons (ExS.asg (Ev.call (ok_radd B) (by decide) (EvL.cons (Ev.var a2 (by decide)) (EvL.cons (Ev.call (ok_rmul B) (by decide) (EvL.cons (Ev.var a4 (by decide)) (EvL.cons (Ev.idx (EvR.var a1) (EvR.var a3)) EvL.nil))) EvL.nil))) a2 (by decide) (by decide)) Ex.nil) (Nms.cons (Nms.cons Nms.nil)) a3 a4 (by decide) (by decide) (by decide)) (Ex.cons (ExS.ret (o' := none) (Ev.var a2 (by decide))) Ex.nil)))) rfl rfl rfl

noncomputable def X__law_bell : Sto → Option Out := (seqO (asgO 1 (o1 (consD (fun _ => some (.tuple [.int 1, .int 1])) (consD (fun _ => some (.tuple [.int 0, .int 1])) (fun _ => some []))) lstD)) (seqO (forI 2 (bind2l (fun _ => some (.int 2)) (bind2 (bind2 (fun _ => some (.int 2)) (fun ρ => vg ρ 0) (binD .Mult)) (fun _ => some (.int 1)) (binD .Add)) rngD2) (seqO (appO 1 (o1 (consD (bind2 (fun ρ => vg ρ 1) (bind2 (fun ρ => vg ρ 2) (fun _ => some (.int 2)) (binD .Sub)) idxD) (consD (o1 (consD (bind2 (fun ρ => vg ρ 2) (fun _ => some (.int 1)) (binD .Sub)) (consD (fun _ => some (.int 2)) (fun _ => some []))) F_rat) (fun _ => some []))) F_rmul)) (fun ρ => some (.next ρ)))) (seqO (retO fun ρ => vg ρ 1) (fun ρ => some (.next ρ)))))
noncomputable def F__law_bell : List PyData → Option PyData := fnD 1 2 X__law_bell
theorem ok__law_bell (B : Base) : FnOk B 4 "_law_bell" F__law_bell :=
  fn_ok2 (lev := 3) (i := 77) (ps := (["many"] : List Str)) (ls := (["found", "power"] : List Str)) (names := (["many", "found", "power"] : List Str)) rfl (List.mem_filterMap.mpr ⟨stN 77, st_mem (by decide +kernel), by kernel_rfl⟩) rfl (by decide) (by decide +kernel) (fun pm cd doc => bd1 fun _ => rfl)
    ((Ex.cons (ExS.asgOwn (EvNew.lst (EvL.cons Ev.r1 (EvL.cons Ev.r0 EvL.nil))) a1 (by decide)) (Ex.cons (ExS.for (EvI.rng2 (Ev.int).r ((Ev.bin ((Ev.bin (Ev.int).r (EvR.var a0))).r (Ev.int).r)).r) (Ex.cons (ExS.app (Ev.call (ok_rmul B) (by decide) (EvL.cons (Ev.idx (EvR.var a1) ((Ev.bin (EvR.var a2) (Ev.int).r)).r) (EvL.cons (Ev.call (ok_rat B) (by decide) (EvL.cons (Ev.bin (EvR.var a2) (Ev.int).r) (EvL.cons Ev.int EvL.nil))) EvL.nil))) a1) Ex.nil) a2 (by decide) (by decide)) (Ex.cons (ExS.retOwn (o' := (some 1)) a1) Ex.nil)))) rfl rfl rfl

noncomputable def X__law_factorials : Sto → Option Out := (seqO (asgO 2 (o1 (consD (fun _ => some (.int 1)) (fun _ => some [])) lstD)) (seqO (forI 3 (bind2l (fun _ => some (.int 1)) (bind2 (bind2 (fun ρ => vg ρ 0) (fun ρ => vg ρ 1) (binD .Add)) (fun _ => some (.int 1)) (binD .Add)) rngD2) (seqO (appO 2 (bind2 (bind2 (fun ρ => vg ρ 2) (o1 (fun _ => some (.int 1)) negD) idxD) (fun ρ => vg ρ 3) (binD .Mult))) (fun ρ => some (.next ρ)))) (seqO (retO (compO (o1 (sliceD (fun ρ => vg ρ 2) (o1 (fun ρ => vg ρ 0) asI) (fun _ => some none)) asL) [] (fun _ => some true) (o1 (consD (fun ρ => vg ρ 0) (consD (fun _ => some (.int 1)) (fun _ => some []))) tupD))) (fun ρ => some (.next ρ)))))
noncomputable def F__law_factorials : List PyData → Option PyData := fnD 2 2 X__law_factorials
theorem ok__law_factorials (B : Base) : FnOk B 1 "_law_factorials" F__law_factorials :=
  fn_ok2 (lev := 0) (i := 78) (ps := (["a", "many"] : List Str)) (ls := (["found", "number"] : List Str)) (names := (["a", "many", "found", "number"] : List Str)) rfl (List.mem_filterMap.mpr ⟨stN 78, st_mem (by decide +kernel), by kernel_rfl⟩) rfl (by decide) (by decide +kernel) (fun pm cd doc => bd2 fun _ _ => rfl)
    ((Ex.cons (ExS.asgOwn (EvNew.lst (EvL.cons Ev.int EvL.nil)) a2 (by decide)) (Ex.cons (ExS.for (EvI.rng2 (Ev.int).r ((Ev.bin ((Ev.bin (EvR.var a0) (EvR.var a1))).r (Ev.int).r)).r) (Ex.cons (ExS.app (Ev.bin ((Ev.idx (EvR.var a2) ((Ev.neg Ev.int)).r)).r (EvR.var a3)) a2) Ex.nil) a3 (by decide) (by decide)) (Ex.cons (ExS.ret (o' := (some 2)) ((EvNew.comp (EvI.lst ((EvNew.slice (EvR.var a2) (EvP.some (EvR.var a0)) EvP.none)).ev) .nil EvTs.nil (Ev.tup (EvL.cons (Ev.var a0 (by decide)) (EvL.cons Ev.int EvL.nil))) (by decide +kernel) (blk_of (by decide +kernel)))).ev) Ex.nil)))) rfl rfl rfl

noncomputable def X_hr_0 : Sto → Option Out := (unpO [3, 4] true (o1 (consD (o1 (consD (fun ρ => onlyL (bind2 (o1 (consD (fun _ => some (.tuple [.int 0, .int 1])) (consD (o1 (consD (bind2 (fun _ => some (.int 2)) (bind2 (fun ρ => vg ρ 1) (fun _ => some (.int 0)) idxD) (binD .Mult)) (consD (bind2 (fun ρ => vg ρ 1) (fun _ => some (.int 1)) idxD) (fun _ => some []))) F_rat) (consD (o1 (consD (o1 (fun _ => some (.int 1)) negD) (consD (fun _ => some (.int 1)) (fun _ => some []))) tupD) (fun _ => some [])))) lstD) (fun ρ => onlyL (bind2 (o1 (consD (fun _ => some (.tuple [.int 0, .int 1])) (fun _ => some [])) lstD) (bind2 (fun ρ => vg ρ 0) (fun _ => some (.int 2)) (binD .Sub)) (binD .Mult) ρ)) (binD .Add) ρ)) (fun _ => some [])) F_sexp) (consD (fun _ => some (.int 1)) (fun _ => some []))) tupD))
noncomputable def X_hr_1 : Sto → Option Out := (forI 5 (o1 (bind2 (fun ρ => vg ρ 0) (fun _ => some (.int 1)) (binD .Add)) rngD1) (seqO (asgO 4 (bind2 (fun ρ => vg ρ 4) (bind2 (fun _ => some (.int 1)) (fun ρ => vg ρ 5) maxD) (binD .Mult))) (seqO (iteD (bind2b (o1 (consD (bind2 (fun ρ => vg ρ 3) (fun ρ => vg ρ 5) idxD) (consD (o1 (consD (fun ρ => vg ρ 4) (consD (fun _ => some (.int 1)) (fun _ => some []))) tupD) (fun _ => some []))) F_rmul) (o1 (consD (bind2 (fun ρ => vg ρ 2) (fun ρ => vg ρ 5) idxD) (consD (fun ρ => vg ρ 1) (fun _ => some []))) F_qat) (cmpD .NotEq)) (seqO (retO (fun _ => some (.bool false))) (fun ρ => some (.next ρ))) (fun ρ => some (.next ρ))) (fun ρ => some (.next ρ)))))
noncomputable def X_hr_2 : Sto → Option Out := (asgO 6 (o1 (consD (fun ρ => vg ρ 0) (fun _ => some [])) F__law_bell))
noncomputable def X_hr_3 : Sto → Option Out := (forI 5 (o1 (bind2 (fun ρ => vg ρ 0) (fun _ => some (.int 1)) (binD .Add)) rngD1) (seqO (iteD (bind2b (o1 (consD (o1 (consD (bind2 (fun ρ => vg ρ 2) (fun ρ => vg ρ 0) idxD) (consD (bind2 (fun ρ => vg ρ 2) (fun ρ => vg ρ 5) idxD) (fun _ => some []))) F_qmul) (consD (fun ρ => vg ρ 6) (fun _ => some []))) F__law_mean) (iteD (bind2b (fun ρ => vg ρ 5) (fun ρ => vg ρ 0) (cmpD .Eq)) (o1 (consD (bind2 (fun ρ => vg ρ 4) (bind2 (fun _ => some (.int 2)) (fun ρ => vg ρ 0) (binD .Pow)) (binD .Mult)) (consD (fun _ => some (.int 1)) (fun _ => some []))) tupD) (fun _ => some (.tuple [.int 0, .int 1]))) (cmpD .NotEq)) (seqO (retO (fun _ => some (.bool false))) (fun ρ => some (.next ρ))) (fun ρ => some (.next ρ))) (fun ρ => some (.next ρ))))
noncomputable def X_hr_4 : Sto → Option Out := (iteD (bind2b (o1 (consD (bind2 (fun ρ => vg ρ 2) (fun ρ => vg ρ 0) idxD) (fun _ => some [])) F_qderive) (o1 (consD (bind2 (fun ρ => vg ρ 2) (bind2 (fun ρ => vg ρ 0) (fun _ => some (.int 1)) (binD .Sub)) idxD) (consD (o1 (consD (bind2 (fun _ => some (.int 2)) (fun ρ => vg ρ 0) (binD .Mult)) (consD (fun _ => some (.int 1)) (fun _ => some []))) tupD) (fun _ => some []))) F_qscale) (cmpD .NotEq)) (seqO (retO (fun _ => some (.bool false))) (fun ρ => some (.next ρ))) (fun ρ => some (.next ρ)))
noncomputable def X_hr_5 : Sto → Option Out := (retO (fun ρ => ((bind2b (o1 (consD (bind2 (o1 (consD (bind2 (fun ρ => vg ρ 2) (fun ρ => vg ρ 0) idxD) (fun _ => some [])) F_to_z) (fun _ => some (.int 0)) idxD) (consD (fun _ => some (.str "-")) (consD (fun _ => some (.str "+")) (fun _ => some [])))) F_count_roots) (fun ρ => vg ρ 0) (cmpD .Eq)) ρ).map .bool))
noncomputable def X__law_hermite_right : Sto → Option Out := (seqO X_hr_0 (seqO X_hr_1 (seqO X_hr_2 (seqO X_hr_3 (seqO X_hr_4 (seqO X_hr_5 (fun ρ => some (.next ρ))))))))
noncomputable def F__law_hermite_right : List PyData → Option PyData := fnD 3 4 X__law_hermite_right
theorem ok__law_hermite_right (B : Base) : FnOk B 10 "_law_hermite_right" F__law_hermite_right :=
  fn_ok2 (lev := 9) (i := 79) (ps := (["many", "r", "rows"] : List Str)) (ls := (["told", "by", "k", "means"] : List Str)) (names := (["many", "r", "rows", "told", "by", "k", "means"] : List Str)) rfl (List.mem_filterMap.mpr ⟨stN 79, st_mem (by decide +kernel), by kernel_rfl⟩) rfl (by decide) (by decide +kernel) (fun pm cd doc => bd3 fun _ _ _ => rfl)
    ((Ex.cons (f := X_hr_0) (ExS.unpS (Ev.tup (EvL.cons (Ev.call (ok_sexp B) (by decide) (EvL.cons ((EvNew.bin (((EvNew.lst (EvL.cons Ev.r0 (EvL.cons (Ev.call (ok_rat B) (by decide) (EvL.cons (Ev.bin (Ev.int).r ((Ev.idx (EvR.var a1) (Ev.int).r)).r) (EvL.cons (Ev.idx (EvR.var a1) (Ev.int).r) EvL.nil))) (EvL.cons (Ev.tup (EvL.cons (Ev.neg Ev.int) (EvL.cons Ev.int EvL.nil))) EvL.nil))))).ev).r (((EvNew.bin (((EvNew.lst (EvL.cons Ev.r0 EvL.nil))).ev).r ((Ev.bin (EvR.var a0) (Ev.int).r)).r)).ev).r)).ev EvL.nil)) (EvL.cons Ev.int EvL.nil))) (.cons a3 (.cons a4 .nil)) (by decide) (by decide) (by intro _; rfl)) (Ex.cons (f := X_hr_1) (ExS.for (EvI.rng1 ((Ev.bin (EvR.var a0) (Ev.int).r)).r) (Ex.cons (ExS.asg (Ev.bin (EvR.var a4) ((Ev.max (Ev.int).r (EvR.var a5))).r) a4 (by decide) (by decide)) (Ex.cons (ExS.ite (EvT.cmp ((Ev.call (ok_rmul B) (by decide) (EvL.cons (Ev.idx (EvR.var a3) (EvR.var a5)) (EvL.cons (Ev.tup (EvL.cons (Ev.var a4 (by decide)) (EvL.cons Ev.int EvL.nil))) EvL.nil)))).r ((Ev.call (ok_qat B) (by decide) (EvL.cons (Ev.idx (EvR.var a2) (EvR.var a5)) (EvL.cons (Ev.var a1 (by decide)) EvL.nil)))).r) (Ex.cons (ExS.ret (o' := none) Ev.bool) Ex.nil) Ex.nil) Ex.nil)) a5 (by decide) (by decide)) (Ex.cons (f := X_hr_2) (ExS.asg (Ev.call (ok__law_bell B) (by decide) (EvL.cons (Ev.var a0 (by decide)) EvL.nil)) a6 (by decide) (by decide)) (Ex.cons (f := X_hr_3) (ExS.for (EvI.rng1 ((Ev.bin (EvR.var a0) (Ev.int).r)).r) (Ex.cons (ExS.ite (EvT.cmp ((Ev.call (ok__law_mean B) (by decide) (EvL.cons (Ev.call (ok_qmul B) (by decide) (EvL.cons (Ev.idx (EvR.var a2) (EvR.var a0)) (EvL.cons (Ev.idx (EvR.var a2) (EvR.var a5)) EvL.nil))) (EvL.cons (Ev.var a6 (by decide)) EvL.nil)))).r ((Ev.ite (EvT.cmp (EvR.var a5) (EvR.var a0)) (Ev.tup (EvL.cons (Ev.bin (EvR.var a4) ((Ev.bin (Ev.int).r (EvR.var a0))).r) (EvL.cons Ev.int EvL.nil))) Ev.r0)).r) (Ex.cons (ExS.ret (o' := none) Ev.bool) Ex.nil) Ex.nil) Ex.nil) a5 (by decide) (by decide)) (Ex.cons (f := X_hr_4) (ExS.ite (EvT.cmp ((Ev.call (ok_qderive B) (by decide) (EvL.cons (Ev.idx (EvR.var a2) (EvR.var a0)) EvL.nil))).r ((Ev.call (ok_qscale B) (by decide) (EvL.cons (Ev.idx (EvR.var a2) ((Ev.bin (EvR.var a0) (Ev.int).r)).r) (EvL.cons (Ev.tup (EvL.cons (Ev.bin (Ev.int).r (EvR.var a0)) (EvL.cons Ev.int EvL.nil))) EvL.nil)))).r) (Ex.cons (ExS.ret (o' := none) Ev.bool) Ex.nil) Ex.nil) (Ex.cons (f := X_hr_5) (ExS.ret (o' := none) (Ev.cmp ((Ev.call (ok_count_roots B) (by decide) (EvL.cons (Ev.idx ((Ev.call (ok_to_z B) (by decide) (EvL.cons (Ev.idx (EvR.var a2) (EvR.var a0)) EvL.nil))).r (Ev.int).r) (EvL.cons Ev.str (EvL.cons Ev.str EvL.nil))))).r (EvR.var a0))) Ex.nil))))))) rfl rfl rfl

end Mine

namespace Mine
open PySem PySem.W PySem.Spec PySem.Calls PyProof.Rows

section
variable {B : Base} {sc : Scope} {names : List Str} {lev : Nat} {o : Option Nat}

noncomputable def intD : PyData → Option PyData
  | .int a => some (.int a)
  | _ => none
theorem Ev.toInt {e : Expr} {p pos : Pos} {f : Sto → Option PyData} (hv : EvR B sc names lev o e f)
    (he : ∀ env, starEach [e] env = (false, eval e env) :: starEach [] env := by intro _; rfl) (hk : sc.kind = .function := by rfl) (hx : sc.names.lookup ("int" : Str) = some .globalImplicit := by rfl) : Ev B sc names lev o (.Call (.Name "int" p) [e] [] pos) (o1 f intD) :=
  fun X A N ρ d s E Q R I hf h => by
    obtain ⟨a, ha, hk'⟩ := o1_some hf
    refine typ1 (name := "int") (id := "int") (by simp [bltOf]) hv R I ha he hk hx (by decide) fun v h1 t1 k1 e1 => ?_
    unfold intD at hk'
    split at hk'
    · cases hk'
      obtain ⟨t, rfl⟩ := e1.int
      exact call_int_int (h _ h1 t1 k1 (.int _ _))
    · cases hk'

/-- all objects but one are kept -/
noncomputable def KX (p : Addr) (h h' : Heap) : Prop := ∀ b ob, b ≠ p → h.get? b = some ob → h'.get? b = some ob
theorem Ns.kx {h h' : Heap} {a p : Addr} {m : Str → Option Value} (x : h.Ns a m) (k : KX p h h') (hp : a ≠ p) : h'.Ns a m := by
  obtain ⟨ob, es, ep, e1, e2, e3⟩ := x
  exact ⟨ob, es, ep, k _ _ hp e1, e2, e3⟩
theorem Cell.kx {h h' : Heap} {a p : Addr} {v : Option Value} (x : h.IsCell a v) (k : KX p h h') (hp : a ≠ p) : h'.IsCell a v := by
  obtain ⟨ob, e1, e2⟩ := x
  exact ⟨ob, k _ _ hp e1, e2⟩

theorem FSt.chgX {X : EX} {h₀ : Heap} {N₀ : Addr → Prop} {a : Addr} {ρ : Sto} {i : Nat} {s : Shared} {h' : Heap} {ws : List Value} {n : Nat} {es : List PyData} {tk : Nat} (F : FSt B (X.env sc) names h₀ N₀ (some i) a ρ s) (hs : KX a s.heap h') (e : h'.get? a = some (lstO ws n))
    (hl : EncL (fun b => N₀ b ∨ b = a) s.heap ws es) : FSt B (X.env sc) names h₀ N₀ (some i) a (vput ρ i (.list es)) { s with heap := h', toks := tk } ∧ Tr (X.env sc) (NN N₀ (some i) a) (NN N₀ (some i) a) s.heap h' := by
  obtain ⟨⟨h1, h1'⟩, y, vs, n0, h2, h3, h4, h5⟩ := F.own i rfl
  have up : ∀ b o, s.heap.get? b = some o → ∃ o', h'.get? b = some o' := fun b ob eb => by
    by_cases q : b = a
    · exact ⟨_, q ▸ e⟩
    · exact ⟨ob, hs b ob q eb⟩
  have t : Tr (X.env sc) (NN N₀ (some i) a) (NN N₀ (some i) a) s.heap h' := ⟨fun b ob eb _ _ hn => hs b ob (fun q => hn (.inr q)) eb, fun _ q => .inl q, up⟩
  have mv := F.fm.mv t F.inn.nl
  obtain ⟨m, hm⟩ := F.fm.ns
  have aL : (X.env sc).locals ≠ a := fun q => by
    obtain ⟨ob, es, ep, e1, e2, _⟩ := hm
    rw [q, h4] at e1; cases e1; cases e2
  have aC : ∀ x c, (X.env sc).cells.lookup x = some c → c ≠ a := fun x c hc q => by
    obtain ⟨v, ob, e1, e2⟩ := F.fm.cell x c hc
    rw [q, h4] at e1; cases e1; cases e2
  have F' : Fm (X.env sc) h₀ h' := ⟨⟨m, Ns.kx hm hs aL⟩, fun x c hc => let ⟨v, q⟩ := F.fm.cell x c hc; ⟨v, Cell.kx q hs (aC x c hc)⟩, F.fm.apart, F.fm.cov, fun b ob eb => by
    have : b ≠ a := fun q => by rw [q, h1] at eb; cases eb
    exact hs b ob this (F.fm.keep b ob eb), F.fm.l0, F.fm.c0⟩
  have rd : ∀ y v, Rd (X.env sc) s.heap y v → Rd (X.env sc) h' y v := fun y v r => by
    rcases r with ⟨p, m', q, r⟩ | ⟨p, c, q, r⟩
    · exact .inl ⟨p, m', Ns.kx q hs aL, r⟩
    · exact .inr ⟨p, c, q, Cell.kx r hs (aC y c q)⟩
  have hl' : EncL (NN N₀ (some i) a) h' ws es := EncL.mv mv hl
  refine ⟨⟨⟨F.g.kp F'.keep, fun b hb => ?_, fun j z d hj hd => ?_, F.inn.cov⟩, F.g, F', fun j hj => ?_⟩, t⟩
  · by_cases q : b = a
    · exact ⟨ws, n, q ▸ e⟩
    · obtain ⟨vs', n', e'⟩ := F.inn.nl b hb
      exact ⟨vs', n', hs b _ q e'⟩
  · rcases vg_vput _ _ _ _ _ hd with ⟨rfl, rfl⟩ | ⟨hji, hd⟩
    · obtain rfl := h2.uniq hj
      exact ⟨_, rd _ _ h3, .inr ⟨a, ws, n, es, rfl, rfl, e, hl'⟩, fun q => absurd rfl q⟩
    · obtain ⟨v, r, _, q2⟩ := F.inn.rd j z d hj hd
      have q := (q2 (fun x => hji (Option.some.inj x).symm)).mv mv
      exact ⟨v, rd _ _ r, q.r, fun _ => q⟩
  · cases hj
    refine ⟨⟨h1, h1'⟩, y, ws, n, h2, rd _ _ h3, e, fun d hd => ?_⟩
    rcases vg_vput _ _ _ _ _ hd with ⟨_, rfl⟩ | ⟨q, _⟩
    · exact ⟨es, rfl, hl'⟩
    · exact absurd rfl q

/-! ### expressions that draw from the private list -/
noncomputable def EvD (B : Base) (sc : Scope) (names : List Str) (lev i : Nat) (e : Expr) (f : Sto → Option (PyData × Sto)) : Prop :=
  ∀ (X : EX) (A : Around) (h₀ : Heap) (N₀ : Addr → Prop) (a : Addr) (ρ ρ' : Sto) (d : PyData) (s : Shared) (E Q : Value → Shared → Prop),
    Room A lev → FSt B (X.env sc) names h₀ N₀ (some i) a ρ s → f ρ = some (d, ρ') →
    (∀ v h' tk, FSt B (X.env sc) names h₀ N₀ (some i) a ρ' { s with heap := h', toks := tk } → Tr (X.env sc) (NN N₀ (some i) a) (NN N₀ (some i) a) s.heap h' → Enc (NN N₀ (some i) a) h' v d → Q v { s with heap := h', toks := tk }) →
    wpAny (model B.prog B.w) A (eval e (X.env sc)) Q E s
noncomputable def EvDL (B : Base) (sc : Scope) (names : List Str) (lev i : Nat) (es : List Expr) (f : Sto → Option (List PyData × Sto)) : Prop :=
  ∀ (X : EX) (A : Around) (h₀ : Heap) (N₀ : Addr → Prop) (a : Addr) (ρ ρ' : Sto) (ds : List PyData) (s : Shared) (E : Value → Shared → Prop) (Q : List Value → Shared → Prop) (p : Pos),
    Room A lev → FSt B (X.env sc) names h₀ N₀ (some i) a ρ s → f ρ = some (ds, ρ') →
    (∀ vs h' tk, FSt B (X.env sc) names h₀ N₀ (some i) a ρ' { s with heap := h', toks := tk } → Tr (X.env sc) (NN N₀ (some i) a) (NN N₀ (some i) a) s.heap h' → EncL (NN N₀ (some i) a) h' vs ds → Q vs { s with heap := h', toks := tk }) →
    wpAny (model B.prog B.w) A (spliced (backTo p (starEach es (X.env sc)))) Q E s

noncomputable def pureD (f : Sto → Option PyData) (ρ : Sto) : Option (PyData × Sto) := match f ρ with
  | some d => some (d, ρ)
  | none => none
theorem EvD.of {i : Nat} {e : Expr} {f : Sto → Option PyData} (he : Ev B sc names lev (some i) e f) : EvD B sc names lev i e (pureD f) :=
  fun X A h₀ N₀ a ρ ρ' d s E Q R F hf h => by
    unfold pureD at hf
    split at hf
    · cases hf
      exact he X A _ ρ _ s E Q R F.inn (by assumption) fun v h' tk k e' => h v h' tk (F.kp k) (Tr.kp k) e'
    · cases hf
noncomputable def binDD (f g : Sto → Option (PyData × Sto)) (k : PyData → PyData → Option PyData) (ρ : Sto) : Option (PyData × Sto) := match f ρ with
  | some (a, ρ1) => match g ρ1 with
    | some (b, ρ2) => match k a b with
      | some d => some (d, ρ2)
      | none => none
    | none => none
  | none => none
theorem EvD.bin {i : Nat} {l r : Expr} {op : Operator} {pos : Pos} {f g : Sto → Option (PyData × Sto)} (hl : EvD B sc names lev i l f) (hr : EvD B sc names lev i r g) : EvD B sc names lev i (.BinOp l op r pos) (binDD f g (binD op)) :=
  fun X A h₀ N₀ a ρ ρ' d s E Q R F hf h => by
    unfold binDD at hf
    split at hf
    · rename_i x ρ1 hx
      split at hf
      · rename_i y ρ2 hy
        split at hf
        · cases hf
          refine wpAny_BinOp (hl X A h₀ N₀ a ρ ρ1 x s E _ R F hx fun va h1 t1 F1 tr1 e1 => ?_)
          refine hr X A h₀ N₀ a ρ1 _ y _ E _ R F1 hy fun vb h2 t2 F2 tr2 e2 => ?_
          have e1' := e1.mv (F1.fm.mv tr2 F1.inn.nl)
          refine bin_op (s := { s with heap := h2, toks := t2 }) e1'.r e2.r (by assumption) ⟨fun l vs n ds h' tk k hl hd he hs => ?_, fun _ v h' tk k e => h v h' tk (F2.kp k) ((tr1.trans tr2).trans (Tr.kp k)) e⟩
          refine h _ h' tk (F2.kp k) ((tr1.trans tr2).trans (Tr.kp k)) ?_
          subst hd
          refine .list (fun q => ?_) he (hs.sub fun b hb => .inl hb)
          obtain ⟨vs', n', e'⟩ := F2.inn.nl l q
          rw [show h2.get? l = _ from e'] at hl; cases hl
        · cases hf
      · cases hf
    · cases hf
theorem EvDL.nil {i : Nat} : EvDL B sc names lev i [] (fun ρ => some ([], ρ)) :=
  fun X A h₀ N₀ a ρ ρ' d s E Q p R F hf h => by cases hf; exact wpAny_items_nil (h [] s.heap s.toks (F.kp (Kp.refl _)) Tr.refl .nil)
noncomputable def consDD (f : Sto → Option (PyData × Sto)) (g : Sto → Option (List PyData × Sto)) (ρ : Sto) : Option (List PyData × Sto) := match f ρ with
  | some (d, ρ1) => match g ρ1 with
    | some (ds, ρ2) => some (d :: ds, ρ2)
    | none => none
  | none => none
theorem EvDL.cons {i : Nat} {e : Expr} {es : List Expr} {f : Sto → Option (PyData × Sto)} {g : Sto → Option (List PyData × Sto)} (hx : EvD B sc names lev i e f) (hs : EvDL B sc names lev i es g)
    (he : ∀ env, starEach (e :: es) env = (false, eval e env) :: starEach es env := by intro _; rfl) : EvDL B sc names lev i (e :: es) (consDD f g) :=
  fun X A h₀ N₀ a ρ ρ' d s E Q p R F hf h => by
    unfold consDD at hf
    split at hf
    · rename_i x ρ1 h1
      split at hf
      · rename_i y ρ2 h2
        cases hf
        refine wpAny_items_cons (hx X A h₀ N₀ a ρ ρ1 x s E _ R F h1 fun v h1 t1 F1 tr1 e1 => ?_) (he _)
        exact hs X A h₀ N₀ a ρ1 _ y _ E _ p R F1 h2 fun vs h2 t2 F2 tr2 e2 => h _ h2 t2 F2 (tr1.trans tr2) (.cons (e1.mv (F1.fm.mv tr2 F1.inn.nl)) e2)
      · cases hf
    · cases hf
noncomputable def oDD {α : Type} (g : Sto → Option (α × Sto)) (k : α → Option PyData) (ρ : Sto) : Option (PyData × Sto) := match g ρ with
  | some (ds, ρ1) => match k ds with
    | some d => some (d, ρ1)
    | none => none
  | none => none
theorem EvD.tup {i : Nat} {es : List Expr} {k : Nat} {pos : Pos} {g : Sto → Option (List PyData × Sto)} (hs : EvDL B sc names lev i es g) : EvD B sc names lev i (.Tuple es k pos) (oDD g tupD) :=
  fun X A h₀ N₀ a ρ ρ' d s E Q R F hf h => by
    unfold oDD at hf
    split at hf
    · rename_i ds ρ1 hd
      split at hf
      · rename_i d' hk
        cases hf
        obtain ⟨q, rfl⟩ := cond_some hk
        refine Tuple_ (hs X A h₀ N₀ a ρ _ ds s E _ pos R F hd fun vs h1 t1 F1 tr1 e1 => ?_)
        have hz : vs.length ≤ 1000 := by rw [e1.length]; exact Nat.le_of_ble_eq_true q
        exact tup_new (by simp only [sizeLine]; omega) (h _ _ t1 (F1.kp (Kp.push _ _)) (tr1.trans (Tr.kp (Kp.push _ _))) (.tuple (Heap.get?_push_size _ rfl) (e1.kp (Kp.push _ _))))
      · cases hf
    · cases hf
theorem EvD.call {i lev' : Nat} {name : Str} {p pos : Pos} {e : Expr} {es : List Expr} {F : List PyData → Option PyData} {g : Sto → Option (List PyData × Sto)} (hF : FnOk B lev' name F) (hl : lev' ≤ lev) (hs : EvDL B sc names lev i (e :: es) g)
    (he : ∀ env, starEach (e :: es) env = (false, eval e env) :: starEach es env := by intro _; rfl) (hk : sc.kind = .function := by rfl) (hx : sc.names.lookup name = some .globalImplicit := by rfl) (hd : (name == ("__debug__" : Str)) = false := by decide) :
    EvD B sc names lev i (.Call (.Name name p) (e :: es) [] pos) (oDD g F) :=
  fun X A h₀ N₀ a ρ ρ' d s E Q R F0 hf h => by
    unfold oDD at hf
    split at hf
    · rename_i ds ρ1 hds
      split at hf
      · rename_i d' hk'
        cases hf
        obtain ⟨⟨r, hr, rfl⟩, hF⟩ := hF
        obtain ⟨fa, ob, pm, code, doc, h1, h2, h3, h4⟩ := F0.inn.g0.fn r hr
        obtain ⟨fa', ob', pm', code', doc', g1, g2, g3, g4⟩ := F0.g.fn r hr
        rw [g1] at h1; cases h1
        have ee := F0.fm.keep _ _ g2
        rw [h2] at ee; cases ee
        refine Call_ (glb F0.inn.g0 g1 hk hx hd ?_)
        refine callWith_def h3 (hs X A h₀ N₀ a ρ _ ds s E _ pos R F0 hds fun vs h' tk F1 tr1 e' => ⟨F1.fm.keep _ _ g2, ?_⟩) (he _)
        exact hF A _ vs ds d fa _ E _ (R.mono hl) F1.inn.g0 F1.inn.nl g1 e' hk' fun v h'' tk' k' e'' => h v h'' tk' (F1.kp k') (tr1.trans (Tr.kp k')) e''
      · cases hf
    · cases hf
noncomputable def unpDO (is : List Nat) (rev : Bool) (f : Sto → Option (PyData × Sto)) (ρ : Sto) : Option Out := match f ρ with
  | some (.tuple ds, ρ1) => bif Nat.beq ds.length is.length && szOk ds.length then some (.next (bif rev then vputs ρ1 is.reverse ds.reverse else vputs ρ1 is ds)) else none
  | _ => none
theorem unpDO_some {is : List Nat} {rev : Bool} {f : Sto → Option (PyData × Sto)} {ρ : Sto} {out : Out} (e : unpDO is rev f ρ = some out) : ∃ ds ρ1, f ρ = some (.tuple ds, ρ1) ∧ ds.length = is.length ∧ out = .next (bif rev then vputs ρ1 is.reverse ds.reverse else vputs ρ1 is ds) := by
  unfold unpDO at e
  split at e
  · obtain ⟨q, rfl⟩ := cond_some e
    rw [Bool.and_eq_true] at q
    exact ⟨_, _, by assumption, Nat.eq_of_beq_eq_true q.1, rfl⟩
  · cases e
theorem ExS.unpD {j : Nat} {is : List Nat} {xs : List Str} {elts : List Expr} {k : Nat} {tp pos : Pos} {e : Expr} {f : Sto → Option (PyData × Sto)} (he : EvD B sc names lev j e f) (hm : Nms elts xs) (hi : Ats names is xs) (ho : ∀ i ∈ is, some j ≠ some i) (hn : names.Nodup) (hx : xs.all (isVar sc) = true := by decide)
    (hs : ∀ X : EX, swapsWithSole [.Tuple elts k tp] e pos.line (X.env sc) = pure false := by intro _; rfl) (hw : ∀ X : EX, swappedStores [.Tuple elts k tp] e (X.env sc) = pure none := by intro _; rfl)
    (hk : sc.kind = .function := by rfl) : ExS B sc names lev (some j) (.Assign [.Tuple elts k tp] e pos) (unpDO is false f) (some j) :=
  fun X A h₀ N₀ a ρ out s E Q R F hf p => by
    obtain ⟨ds, ρ1, hd, hlen, rfl⟩ := unpDO_some hf
    refine Assign_Tuple (he X A h₀ N₀ a ρ ρ1 _ s E _ R F hd fun v h1 t1 F1 tr1 e1 => ?_) (hs X) (hw X)
    cases e1 with
    | tuple e1 r1 =>
      rename_i t ws n
      rw [assign_Tuple]
      refine wpAny_bind (wpAny_standAt ?_)
      have hlx : xs.length = is.length := hi.len.symm
      obtain ⟨q1, q2⟩ := hm.each (env := X.env sc)
      have hlz : (assignEach elts (X.env sc)).length = ws.toArray.size := by rw [q2, List.size_toArray, r1.length, hlen, hlx]
      unfold unpack
      rw [q1, hlz]
      refine wpAny_bind (wpAny_holding (unpackItems_tuple (s := { s with heap := h1, toks := t1 }) R.hh ⟨_, e1, rfl, _, rfl⟩ fun h2 x2 => ?_))
      have k2 : Kp h1 h2 := ext_kp (s := { s with heap := h1, toks := t1 }) x2
      rw [← List.append_nil ((assignEach elts (X.env sc)).map (·.2)), ← List.append_nil (ws.toArray.toList)]
      refine putAll hn hk hm.tgs hi ho hx (F1.kp k2) (r1.kp k2) hlen fun h3 t3 F3 tr _ => ?_
      refine wpAny_pure ?_
      exact p h3 t3 a F3 ((tr1.trans (Tr.kp k2)).trans tr)
theorem ExS.unpDS {j : Nat} {is : List Nat} {xs : List Str} {elts : List Expr} {k : Nat} {tp pos : Pos} {e : Expr} {f : Sto → Option (PyData × Sto)} (he : EvD B sc names lev j e f) (hi : Ats names is xs) (ho : ∀ i ∈ is, some j ≠ some i) (hn : names.Nodup)
    (hw : ∀ X : EX, swappedStores [.Tuple elts k tp] e (X.env sc) = pure (some xs)) (hx : xs.all (isVar sc) = true := by decide)
    (hs : ∀ X : EX, swapsWithSole [.Tuple elts k tp] e pos.line (X.env sc) = pure false := by intro _; rfl) 
    (hk : sc.kind = .function := by rfl) : ExS B sc names lev (some j) (.Assign [.Tuple elts k tp] e pos) (unpDO is true f) (some j) :=
  fun X A h₀ N₀ a ρ out s E Q R F hf p => by
    obtain ⟨ds, ρ1, hd, hlen, rfl⟩ := unpDO_some hf
    refine Assign_Tuple_swapped (he X A h₀ N₀ a ρ ρ1 _ s E _ R F hd fun v h1 t1 F1 tr1 e1 => ?_) (hs X) (hw X)
    cases e1 with
    | tuple e1 r1 =>
      rename_i t ws n
      have hlx : xs.length = is.length := hi.len.symm
      have hlz : xs.length = ws.toArray.size := by rw [List.size_toArray, r1.length, hlen, hlx]
      rw [hlz]
      refine unpackItems_tuple (s := { s with heap := h1, toks := t1 }) R.hh ⟨_, e1, rfl, _, rfl⟩ fun h2 x2 => ?_
      have k2 : Kp h1 h2 := ext_kp (s := { s with heap := h1, toks := t1 }) x2
      rw [← List.append_nil (xs.reverse.map fun n => bindName (X.env sc) n), ← List.append_nil (ws.toArray.toList.reverse)]
      refine putAll hn hk (tgs_bind xs.reverse) hi.reverse (fun i hi' => ho i (List.mem_reverse.mp hi')) (by rw [List.all_reverse]; exact hx) (F1.kp k2) (r1.kp k2).reverse (by rw [List.length_reverse, List.length_reverse]; exact hlen) fun h3 t3 F3 tr _ => ?_
      refine wpAny_pure ?_
      exact p h3 t3 a F3 ((tr1.trans (Tr.kp k2)).trans tr)
end
end Mine

namespace Mine
open PySem PySem.W PySem.Spec PySem.Calls PyProof.Rows

noncomputable def DrawOk (B : Base) (name : Str) (frest : Sto → Option Out) : Prop :=
  (∃ d ∈ recsOf PySem.Challenge.pw_xm0105_01, d.name = name) ∧
  ∀ (A : Around) (h₀ : Heap) (p : Addr) (vx : Value) (t u : Tok) (n : Nat) (xs : PyData) (k m r : Int) (f : Addr) (s : Shared) (E Q : Value → Shared → Prop),
    Room A 1 → G0 B h₀ → Kp h₀ s.heap → h₀.get? p = none → B.mg name = some (.ref f) → s.heap.get? p = some (lstO [vx, .int k t] n) → Enc (fun b => b = p) s.heap vx xs →
    frest [some (.list [xs, .int (k + 1)]), some (.int m), some (.int k)] = some (.ret (.int r)) →
    (∀ t t' n' h' tk, KX p s.heap h' → h'.get? p = some (lstO [vx, .int (k + 1) t'] n') → Q (.int r t) { s with heap := h', toks := tk }) →
    wpAny (model B.prog B.w) A (call (.ref f) [.ref p, .int m u]) Q E s

theorem KX.kp {p : Addr} {h h' : Heap} (k : Kp h h') : KX p h h' := fun b ob _ e => k b ob e
theorem KX.trans {p : Addr} {h h' h'' : Heap} (a : KX p h h') (b : KX p h' h'') : KX p h h'' := fun x ob hx e => b x ob hx (a x ob hx e)
theorem KX.sb {p : Addr} {h h' : Heap} (a : Heap.SameBut p h h') : KX p h h' := fun x ob hx e => (a.2 x hx).trans e

theorem mk3 {B : Base} {env : Env} {h₀ h : Heap} {s : Shared} {tk : Nat} {v0 v1 v2 : Value} {d0 d1 : PyData} {d2 : Option PyData} (G : G0 B h₀) (F : Fm env h₀ h) (r0 : Rd env h "pool" v0) (e0 : Enc (fun _ => False) h v0 d0) (r1 : Rd env h "many" v1) (e1 : Enc (fun _ => False) h v1 d1)
    (r2 : ∀ d, d2 = some d → Rd env h "spot" v2 ∧ Enc (fun _ => False) h v2 d) : FSt B env (["pool", "many", "spot"] : List Str) h₀ (fun _ => False) none 0 [some d0, some d1, d2] { s with heap := h, toks := tk } := by
  refine ⟨⟨G.kp F.keep, fun b hb => hb.elim, fun i x d hi hd => ?_, F.cov⟩, G, F, fun _ q => by cases q⟩
  cases hi with
  | here => cases hd; exact ⟨_, r0, e0.r, fun _ => e0⟩
  | there hi =>
    cases hi with
    | here => cases hd; exact ⟨_, r1, e1.r, fun _ => e1⟩
    | there hi =>
      cases hi with
      | here =>
        obtain ⟨a, b⟩ := r2 d hd
        exact ⟨_, a, b.r, fun _ => b⟩
      | there hi => cases hi

theorem drawer {B : Base} {j : Nat} {name : Str} {params : Arguments} {px p' p1 pos1 pos pos0 : Pos} {je ee e1 : Expr} {rest : List Stmt} {scope : Scope} {frest : Sto → Option Out} {d : DefRec}
    (e : d = ⟨name, params, .Assign [.Name "spot" p1] e1 pos1 :: .Assign [.Subscript (.Name "pool" px) je p'] ee pos :: rest, scope, pos0⟩)
    (hm : (recsOf PySem.Challenge.pw_xm0105_01)[j]? = some d) (hv : (["pool", "many", "spot"] : List Str).all (isVar scope) = true)
    (hb : ∀ pm cd doc (vs : List Value), vs.length = 2 → bindArgs (docDef name params (.Assign [.Name "spot" p1] e1 pos1 :: .Assign [.Subscript (.Name "pool" px) je p'] ee pos :: rest) scope pm cd doc) ⟨vs, []⟩ = pure ((["pool", "many"] : List Str).zip vs))
    (he1 : Ev B scope ["pool", "many", "spot"] 0 none e1 (bind2 (fun ρ => vg ρ 0) (fun _ => some (.int 1)) idxD))
    (hee : Ev B scope ["pool", "many", "spot"] 0 none ee (bind2 (fun ρ => vg ρ 2) (fun _ => some (.int 1)) (binD .Add)))
    (hje : Ev B scope ["pool", "many", "spot"] 0 none je (fun _ => some (.int 1)))
    (hrest : Ex B scope ["pool", "many", "spot"] 0 none rest frest none)
    (hs1 : ∀ X : EX, swapsWith e1 (some (.Name "spot" p1)) pos1.line (X.env scope) = pure false)
    (hs : ∀ X : EX, swapsWith ee (some (.Subscript (.Name "pool" px) je p')) pos.line (X.env scope) = pure false)
    (hk : scope.kind = .function) (hco : scope.isCoroutine = false) (hgen : scope.isGenerator = false) : DrawOk B name frest := by
  have hd : d ∈ recsOf PySem.Challenge.pw_xm0105_01 := List.mem_of_getElem? hm
  subst e
  refine ⟨⟨_, hd, rfl⟩, fun A h₀ p vx t u n xs k m r fa s E Q R G k0 hp hma hl hx hF h => ?_⟩
  have G' := G.kp k0
  obtain ⟨a, ob, pm, code, doc, g1, g2, g3, g4⟩ := G'.fn _ hd
  rw [show B.mg name = _ from hma] at g1; cases g1
  have var : ∀ x ∈ (["pool", "many", "spot"] : List Str), scope.names.lookup x = some .local ∨ scope.names.lookup x = some .cell := fun x hx => by
    rcases Bool.or_eq_true_iff.mp (List.all_eq_true.mp hv x hx) with q | q
    · exact .inl (beq_iff_eq.mp q)
    · exact .inr (beq_iff_eq.mp q)
  have Rd' : Room (A.deeper (envOfC name scope s.heap.objs.size fa code)) 0 := ⟨R.hh, by rw [PyProof.Rows.depth_deeper]; have := R.dp; omega, by rw [units_deeper]; have := R.un; omega⟩
  have sub : ∀ x ∈ (["pool", "many"] : List Str), x ∈ (["pool", "many", "spot"] : List Str) := fun x hx => by
    cases hx with
    | head => exact .head _
    | tail _ hx =>
      cases hx with
      | head => exact .tail _ (.head _)
      | tail _ hx => cases hx
  refine wpAny_call (call_cells_ret (by have := R.dp; omega) g2 g3 G'.nolimit g4 (hb pm code doc [.ref p, .int m u] rfl) (fun x hx => ?_) (fun h₁ tk F C => ?_) hco hgen hk)
  · rcases var x.1 (sub _ (zip_fst hx)) with q | q
    · exact .inl q
    · exact .inr ⟨q, by obtain ⟨c, e⟩ := cells_cov scope.names (s.heap.objs.size + 1) [] x.1 (.inl q); rw [e]; rfl⟩
  · let X : EX := { L := s.heap.objs.size, cells := cellsFrom (s.heap.objs.size + 1) scope.names [], qual := name ++ ".<locals>.", fn := some fa, code := code, fr := some s.heap.objs.size }
    have kp : Kp s.heap h₁ := F.keep
    have fm : Fm (X.env scope) s.heap h₁ := ⟨⟨_, F.ns⟩, fun x c e => ⟨_, C.cell x c e⟩, C.apart, fun x hx => cells_cov _ _ _ x (.inl hx), kp, get_size _, fun x c e => by
      have := C.above x c (PySem.mem_of_lookup e)
      cases q : s.heap.get? c with
      | none => rfl
      | some ob => exact absurd (Heap.lt_size q) (Nat.not_lt.mpr (Nat.le_of_lt this))⟩
    have hps : (["pool", "many"] : List Str).Nodup := by decide
    have rd0 : ∀ (i : Nat) (x : Str) (v : Value), At (["pool", "many"] : List Str) i x → ([.ref p, .int m u] : List Value)[i]? = some v → Rd (X.env scope) h₁ x v := fun i x v hi hv' => by
      rcases var x (sub _ hi.mem) with q | q
      · exact .inl ⟨q, _, F.ns, bindL_get _ hps hi hv' q⟩
      · obtain ⟨c, e⟩ := cells_cov scope.names (s.heap.objs.size + 1) [] x (.inl q)
        refine .inr ⟨q, c, e, ?_⟩
        have := C.cell x c e
        rw [bindC_get _ hps hi hv' (fun z => by have z' : scope.names.lookup x = some .local := z; rw [q] at z'; cases z')] at this
        exact this
    have xp : ∀ h' : Heap, Kp s.heap h' → Enc (fun _ => False) h' (.ref p) (.list [xs, .int k]) := fun h' kk => (Enc.list (N := fun _ => False) id hl (.cons (hx.sub fun b q => q.elim) (.cons (.int _ _) .nil))).kp kk
    have F0 : FSt B (X.env scope) ["pool", "many", "spot"] s.heap (fun _ => False) none 0 [some (.list [xs, .int k]), some (.int m), none] { s with heap := h₁, toks := tk } :=
      mk3 (v2 := .none) G' fm (rd0 0 _ _ a0 rfl) (xp _ kp) (rd0 1 _ _ a1 rfl) (.int _ _) fun _ q => by cases q
    refine wpAny_execs_cons (wpAny_Assign_Name (he1 X _ _ _ (.int k) _ _ _ Rd' F0.inn rfl fun v1 h1 t1 k1 ev1 => ?_) (hs1 X))
    refine store_var (fm.kp k1) hk (var "spot" (.tail _ (.tail _ (.head _)))) fun h2 t2 fm2 rs2 rd2 _ _ => ?_
    have p2 : Rd (X.env scope) h2 "pool" (.ref p) := rd2 _ _ (by decide) ((rd0 0 _ _ a0 rfl).kp k1)
    have m2 : Rd (X.env scope) h2 "many" (.int m u) := rd2 _ _ (by decide) ((rd0 1 _ _ a1 rfl).kp k1)
    have ev2 : Enc (fun _ => False) h2 v1 (.int k) := by cases ev1; exact .int _ _
    have F2 : FSt B (X.env scope) ["pool", "many", "spot"] s.heap (fun _ => False) none 0 [some (.list [xs, .int k]), some (.int m), some (.int k)] { s with heap := h2, toks := t2 } :=
      mk3 G' fm2 p2 (xp _ fm2.keep) m2 (.int _ _) fun d q => by cases q; exact ⟨rs2, ev2⟩
    have hdg : (("pool" : Str) == ("__debug__" : Str)) = false := by decide
    refine wpAny_execs_cons (wpAny_Assign_Subscript (hee X _ _ _ (.int (k + 1)) _ _ _ Rd' F2.inn rfl fun v3 h3 t3 k3 e3 => ?_) (hs X))
    refine name_rd hk (p2.kp k3) hdg ?_
    refine hje X _ _ _ (.int 1) _ _ _ Rd' (F2.inn.kp k3) rfl fun v4 h4 t4 k4 e4 => ?_
    cases e4
    have kk := k3.trans k4
    have fm4 := fm2.kp kk
    refine setItem_pl (k := 1) (s := { s with heap := h4, toks := t4 }) rfl (fm4.keep _ _ hl) (by decide : 1 < 2) (by decide) fun h5 n' l5 sb => ?_
    cases e3
    rename_i tv
    have h0up : (s.heap.update p fun _ => lstO [vx, .int (k + 1) tv] n').get? p = some (lstO [vx, .int (k + 1) tv] n') := Heap.get?_update_self (f := fun _ => lstO [vx, .int (k + 1) tv] n') hl rfl
    have sb0 : Heap.SameBut p s.heap (s.heap.update p fun _ => lstO [vx, .int (k + 1) tv] n') := Heap.SameBut.update ..
    have pL : (X.env scope).locals ≠ p := fun q => by
      have := get_size s.heap
      rw [show s.heap.objs.size = p from q, hl] at this; cases this
    have pC : ∀ x c, (X.env scope).cells.lookup x = some c → c ≠ p := fun x c e q => by
      have := fm.c0 x c e
      rw [q, hl] at this; cases this
    have fm5 : Fm (X.env scope) (s.heap.update p fun _ => lstO [vx, .int (k + 1) tv] n') h5 := by
      obtain ⟨m0, hm0⟩ := fm4.ns
      refine ⟨⟨m0, hm0.sameBut sb pL⟩, fun x c e => let ⟨v, q⟩ := fm4.cell x c e; ⟨v, q.sameBut sb (pC x c e)⟩, fm4.apart, fm4.cov, fun b ob e => ?_, (sb0.2 _ pL).trans fm4.l0, fun x c e => (sb0.2 _ (pC x c e)).trans (fm4.c0 x c e)⟩
      by_cases q : b = p
      · subst q; rw [h0up] at e; cases e; exact l5
      · exact (sb.2 b q).trans (fm4.keep b ob ((sb0.2 b q).symm.trans e))
    have rd5 : ∀ y v, Rd (X.env scope) h4 y v → Rd (X.env scope) h5 y v := fun y v r => by
      rcases r with ⟨p, m', q, r⟩ | ⟨p, c, q, r⟩
      · exact .inl ⟨p, m', q.sameBut sb pL, r⟩
      · exact .inr ⟨p, c, q, r.sameBut sb (pC y c q)⟩
    have G5 : G0 B (s.heap.update p fun _ => lstO [vx, .int (k + 1) tv] n') := G.kp fun b ob e => (sb0.2 b fun q => by rw [q, hp] at e; cases e).trans (k0 b ob e)
    have hl4 := fm4.keep _ _ hl
    have ex : Enc (fun _ => False) h5 vx xs := (hx.kp fm4.keep).mv ⟨fun b vs n e hn => ⟨(sb.2 b hn).trans e, id⟩, fun b vs n e => (sb.2 b fun q => by
      rw [q, hl4] at e
      have q := congrArg Obj.cls (Option.some.inj e)
      exact absurd (show Value.type "list" = Value.type "tuple" from q) (by decide)).trans e⟩
    have F5 : FSt B (X.env scope) ["pool", "many", "spot"] (s.heap.update p fun _ => lstO [vx, .int (k + 1) tv] n') (fun _ => False) none 0 [some (.list [xs, .int (k + 1)]), some (.int m), some (.int k)] { s with heap := h5, toks := t4 } :=
      mk3 G5 fm5 (rd5 _ _ (p2.kp kk)) (.list id l5 (.cons ex (.cons (.int _ _) .nil))) (rd5 _ _ (m2.kp kk)) (.int _ _) fun d q => by cases q; exact ⟨rd5 _ _ (rs2.kp kk), by cases ev2; exact .int _ _⟩
    refine hrest X _ _ _ 0 _ _ _ _ _ Rd' F5 hF fun v h' tk kq e => ?_
    cases e
    exact h _ tv n' h' tk (fun b ob hb e => kq b ob ((sb0.2 b hb).trans e)) (kq _ _ h0up)

section
variable {B : Base} {sc : Scope} {names : List Str} {lev : Nat}

noncomputable def drawD (i : Nat) (m : Int) (frest : Sto → Option Out) (ρ : Sto) : Option (PyData × Sto) := match vg ρ i with
  | some (.list [xs, .int k]) => match frest [some (.list [xs, .int (k + 1)]), some (.int m), some (.int k)] with
    | some (.ret (.int r)) => some (.int r, vput ρ i (.list [xs, .int (k + 1)]))
    | _ => none
  | _ => none
theorem EvD.draw {i : Nat} {x name : Str} {m : Int} {p p1 pos p3 : Pos} {c : Nat} {frest : Sto → Option Out} (hF : DrawOk B name frest) (hi : At names i x) (hl : 1 ≤ lev) (he : ∀ env, starEach [.Name x p1, .Constant (.int m) c p3] env = (false, eval (.Name x p1) env) :: starEach [.Constant (.int m) c p3] env := by intro _; rfl)
    (he2 : ∀ env, starEach [.Constant (.int m) c p3] env = (false, eval (.Constant (.int m) c p3) env) :: starEach [] env := by intro _; rfl)
    (hk : sc.kind = .function := by rfl) (hx : sc.names.lookup name = some .globalImplicit := by rfl) (hd : (name == ("__debug__" : Str)) = false := by decide) (hdx : (x == ("__debug__" : Str)) = false := by decide) :
    EvD B sc names lev i (.Call (.Name name p) [.Name x p1, .Constant (.int m) c p3] [] pos) (drawD i m frest) :=
  fun X A h₀ N₀ a ρ ρ' d s E Q R F0 hf h => by
    unfold drawD at hf
    split at hf
    · rename_i xs k hv
      split at hf
      · rename_i r hr
        cases hf
        obtain ⟨⟨rc, hrc, rfl⟩, hF⟩ := hF
        obtain ⟨fa, ob, pm, code, doc, g1, g2, g3, g4⟩ := F0.g.fn rc hrc
        obtain ⟨⟨h1, h1'⟩, y, vs, n, h2, h3, h4, h5⟩ := F0.own i rfl
        obtain rfl := hi.uniq h2
        obtain ⟨ds, e', hl'⟩ := h5 _ hv
        cases e'
        cases hl' with
        | cons x0 hl' =>
        cases hl' with
        | cons x1 hl' =>
        cases hl'
        cases x1
        refine Call_ (glb F0.inn.g0 g1 hk hx hd ?_)
        refine callWith_def g3 (wpAny_items_cons (name_rd hk h3 hdx (wpAny_items_cons (wpAny_Constant_int (wpAny_items_nil ?_)) (he2 _))) (he _)) (he _)
        have g2' := F0.fm.keep _ _ g2
        refine ⟨g2', ?_⟩
        refine hF A h₀ a _ _ _ n xs k m r fa _ E _ (R.mono hl) F0.g F0.fm.keep h1 g1 h4 (x0.sub fun b hb => .inr hb) hr fun t t' n' h' tk kx e' => ?_
        obtain ⟨F2, t2⟩ := FSt.chgX (tk := tk) F0 kx e' (.cons x0 (.cons (.int _ _) .nil))
        exact h _ h' tk F2 t2 (.int _ _)
      · cases hf
    · cases hf
end
end Mine

set_option maxHeartbeats 4000000
namespace Mine
open PySem PySem.W PySem.Spec PySem.Calls PyProof.Rows

noncomputable def X_drest : Sto → Option Out := (seqO (iteD (bind2b (fun ρ => vg ρ 2) (o1 (bind2 (fun ρ => vg ρ 0) (fun _ => some (.int 0)) idxD) lenD) (cmpD .Lt)) (seqO (retO (bind2 (o1 (bind2 (bind2 (fun ρ => vg ρ 0) (fun _ => some (.int 0)) idxD) (fun ρ => vg ρ 2) idxD) absD) (fun ρ => vg ρ 1) (binD .Mod))) (fun ρ => some (.next ρ))) (fun ρ => some (.next ρ))) (seqO (retO (bind2 (bind2 (o1 (consD (fun _ => some (.int 1)) (consD (fun _ => some (.int 4)) (consD (fun _ => some (.int 1)) (consD (fun _ => some (.int 1)) (consD (fun _ => some (.int 0)) (consD (fun _ => some (.int 4)) (fun _ => some []))))))) tupD) (bind2 (fun ρ => vg ρ 2) (fun _ => some (.int 6)) (binD .Mod)) idxD) (fun ρ => vg ρ 1) (binD .Mod))) (fun ρ => some (.next ρ))))
theorem draw_ok (B : Base) : DrawOk B "_law_draw" X_drest :=
  drawer (j := 59) (d := recS (stN 73)) rfl (by kernel_rfl) (by decide +kernel) (fun pm cd doc => bd2 fun _ _ => rfl)
    (Ev.idx (EvR.var a0) (Ev.int).r) (Ev.bin (EvR.var a2) (Ev.int).r) Ev.int
    ((Ex.cons (ExS.ite (EvT.cmp (EvR.var a2) ((Ev.len ((Ev.idx (EvR.var a0) (Ev.int).r)).r)).r) (Ex.cons (ExS.ret (o' := none) (Ev.bin ((Ev.abs ((Ev.idx ((Ev.idx (EvR.var a0) (Ev.int).r)).r (EvR.var a2))).r)).r (EvR.var a1))) Ex.nil) Ex.nil) (Ex.cons (ExS.ret (o' := none) (Ev.bin ((Ev.idx ((Ev.tup (EvL.cons Ev.int (EvL.cons Ev.int (EvL.cons Ev.int (EvL.cons Ev.int (EvL.cons Ev.int (EvL.cons Ev.int EvL.nil)))))))).r ((Ev.bin (EvR.var a2) (Ev.int).r)).r)).r (EvR.var a1))) Ex.nil))) (by intro _; rfl) (by intro _; rfl) rfl rfl rfl

noncomputable def X_law_0 : Sto → Option Out := (asgO 1 (o1 (consD (compO (o1 (sliceD (fun ρ => vg ρ 0) (fun _ => some none) (o1 (fun _ => some (.int 6)) asI)) asL) [] (fun _ => some true) (o1 (fun ρ => vg ρ 0) intD)) (consD (fun _ => some (.int 0)) (fun _ => some []))) lstD))
noncomputable def X_law_1 : Sto → Option Out := (unpDO [2, 3] true (oDD (consDD (binDD (pureD (fun _ => some (.int 2))) (drawD 1 3 X_drest) (binD .Add)) (consDD (oDD (consDD (binDD (drawD 1 7 X_drest) (pureD (fun _ => some (.int 3))) (binD .Sub)) (consDD (binDD (pureD (fun _ => some (.int 1))) (drawD 1 2 X_drest) (binD .Add)) (fun ρ => some ([], ρ)))) F_rat) (fun ρ => some ([], ρ)))) tupD))
noncomputable def X_law_2 : Sto → Option Out := (unpDO [4, 5, 6] false (oDD (consDD (drawD 1 3 X_drest) (consDD (drawD 1 3 X_drest) (consDD (oDD (consDD (binDD (drawD 1 5 X_drest) (pureD (fun _ => some (.int 2))) (binD .Sub)) (consDD (pureD (fun _ => some (.int 1))) (fun ρ => some ([], ρ)))) tupD) (fun ρ => some ([], ρ))))) tupD))
noncomputable def X_law_3 : Sto → Option Out := (unpO [7, 8] true (o1 (consD (o1 (consD (fun ρ => vg ρ 2) (fun _ => some [])) F__law_hermite) (consD (compO (o1 (bind2 (fun ρ => vg ρ 2) (fun _ => some (.int 1)) (binD .Add)) rngD1) [4] (fun _ => some true) (o1 (consD (fun ρ => vg ρ 0) (consD (o1 (consD (fun ρ => vg ρ 1) (consD (fun _ => some (.int 1)) (fun _ => some []))) tupD) (fun _ => some []))) F__law_laguerre)) (fun _ => some []))) tupD))
noncomputable def X_law_4 : Sto → Option Out := (iteD (notT (o1 (o1 (consD (fun ρ => vg ρ 2) (consD (fun ρ => vg ρ 3) (consD (fun ρ => vg ρ 7) (fun _ => some [])))) F__law_hermite_right) asB)) (seqO (retO (fun _ => some (.bool false))) (fun ρ => some (.next ρ))) (fun ρ => some (.next ρ)))
noncomputable def X_law_5 : Sto → Option Out := (asgO 9 (o1 (consD (fun ρ => onlyL (bind2 (o1 (consD (fun _ => some (.tuple [.int 1, .int 1])) (consD (o1 (consD (o1 (fun _ => some (.int 1)) negD) (consD (fun _ => some (.int 1)) (fun _ => some []))) tupD) (fun _ => some []))) lstD) (fun ρ => onlyL (bind2 (o1 (consD (fun _ => some (.tuple [.int 0, .int 1])) (fun _ => some [])) lstD) (bind2 (fun ρ => vg ρ 2) (fun _ => some (.int 1)) (binD .Sub)) (binD .Mult) ρ)) (binD .Add) ρ)) (consD (bind2 (bind2 (fun _ => some (.int 0)) (fun ρ => vg ρ 4) (binD .Sub)) (fun _ => some (.int 1)) (binD .Sub)) (fun _ => some []))) F_swhole_power))
noncomputable def X_law_6 : Sto → Option Out := (unpO [10, 11] true (o1 (consD (o1 (consD (fun ρ => vg ρ 9) (consD (o1 (consD (fun ρ => onlyL (bind2 (o1 (consD (fun _ => some (.tuple [.int 0, .int 1])) (fun _ => some [])) lstD) (fun ρ => onlyL (bind2 (o1 (consD (o1 (consD (fun ρ => vg ρ 3) (fun _ => some [])) F_rneg) (fun _ => some [])) lstD) (fun ρ => vg ρ 2) (binD .Mult) ρ)) (binD .Add) ρ)) (fun _ => some [])) F_sexp) (fun _ => some []))) F_smul) (consD (o1 (consD (fun ρ => vg ρ 4) (consD (bind2 (fun _ => some (.int 2)) (fun ρ => vg ρ 2) (binD .Mult)) (fun _ => some []))) F__law_factorials) (fun _ => some []))) tupD))
noncomputable def X_law_7 : Sto → Option Out := (asgO 12 (o1 (fun _ => some []) lstD))
noncomputable def X_l8_0 : Sto → Option Out := (asgO 14 (iteD (bind2b (fun ρ => vg ρ 13) (fun ρ => vg ρ 2) (cmpD .Eq)) (o1 (consD (bind2 (fun ρ => vg ρ 11) (fun ρ => vg ρ 2) idxD) (consD (bind2 (o1 (consD (fun _ => some (.int 0)) (consD (fun ρ => vg ρ 2) (fun _ => some []))) F__law_factorials) (fun ρ => vg ρ 2) idxD) (fun _ => some []))) F_rdiv) (fun _ => some (.tuple [.int 0, .int 1]))))
noncomputable def X_t1 : Sto → Option Bool := (bind2b (bind2 (fun ρ => vg ρ 10) (fun ρ => vg ρ 13) idxD) (o1 (consD (bind2 (fun ρ => vg ρ 8) (fun ρ => vg ρ 13) idxD) (consD (fun ρ => vg ρ 3) (fun _ => some []))) F_qat) (cmpD .NotEq))
noncomputable def X_t2 : Sto → Option Bool := (bind2b (o1 (consD (o1 (consD (bind2 (fun ρ => vg ρ 8) (fun ρ => vg ρ 2) idxD) (consD (bind2 (fun ρ => vg ρ 8) (fun ρ => vg ρ 13) idxD) (fun _ => some []))) F_qmul) (consD (fun ρ => vg ρ 11) (fun _ => some []))) F__law_mean) (fun ρ => vg ρ 14) (cmpD .NotEq))
noncomputable def X_l8_1 : Sto → Option Out := (iteD (orT X_t1 X_t2) (seqO (retO (fun _ => some (.bool false))) (fun ρ => some (.next ρ))) (fun ρ => some (.next ρ)))
noncomputable def X_l8_2 : Sto → Option Out := (asgO 12 (o1 (consD (fun ρ => vg ρ 12) (consD (o1 (consD (bind2 (fun ρ => vg ρ 8) (fun ρ => vg ρ 13) idxD) (consD (o1 (consD (o1 (consD (bind2 (fun ρ => vg ρ 2) (fun ρ => vg ρ 13) (binD .Sub)) (consD (o1 (consD (fun ρ => vg ρ 5) (consD (fun _ => some (.int 1)) (fun _ => some []))) tupD) (fun _ => some []))) F__law_laguerre) (consD (fun ρ => vg ρ 6) (fun _ => some []))) F_qat) (fun _ => some []))) F_qscale) (fun _ => some []))) F_qadd))
noncomputable def X_law_8 : Sto → Option Out := (forI 13 (o1 (bind2 (fun ρ => vg ρ 2) (fun _ => some (.int 1)) (binD .Add)) rngD1) (seqO X_l8_0 (seqO X_l8_1 (seqO X_l8_2 (fun ρ => some (.next ρ))))))
noncomputable def X_law_9 : Sto → Option Out := (iteD (bind2b (o1 (consD (o1 (consD (fun ρ => vg ρ 2) (consD (o1 (consD (bind2 (bind2 (fun ρ => vg ρ 4) (fun ρ => vg ρ 5) (binD .Add)) (fun _ => some (.int 1)) (binD .Add)) (consD (fun _ => some (.int 1)) (fun _ => some []))) tupD) (fun _ => some []))) F__law_laguerre) (consD (o1 (consD (fun ρ => vg ρ 6) (consD (fun _ => some (.tuple [.int 1, .int 1])) (fun _ => some []))) lstD) (fun _ => some []))) F_qcompose) (fun ρ => vg ρ 12) (cmpD .NotEq)) (seqO (retO (fun _ => some (.bool false))) (fun ρ => some (.next ρ))) (fun ρ => some (.next ρ)))
noncomputable def X_law_10 : Sto → Option Out := (iteD (bind2b (o1 (consD (bind2 (fun ρ => vg ρ 8) (fun ρ => vg ρ 2) idxD) (fun _ => some [])) F_qderive) (o1 (consD (o1 (consD (bind2 (fun ρ => vg ρ 2) (fun _ => some (.int 1)) (binD .Sub)) (consD (o1 (consD (bind2 (fun ρ => vg ρ 4) (fun _ => some (.int 1)) (binD .Add)) (consD (fun _ => some (.int 1)) (fun _ => some []))) tupD) (fun _ => some []))) F__law_laguerre) (consD (o1 (consD (o1 (fun _ => some (.int 1)) negD) (consD (fun _ => some (.int 1)) (fun _ => some []))) tupD) (fun _ => some []))) F_qscale) (cmpD .NotEq)) (seqO (retO (fun _ => some (.bool false))) (fun ρ => some (.next ρ))) (fun ρ => some (.next ρ)))
noncomputable def X_law_11 : Sto → Option Out := (unpO [15, 16] true (o1 (consD (bind2 (fun ρ => vg ρ 2) (fun _ => some (.int 2)) (binD .FloorDiv)) (consD (fun _ => some (.int 1)) (fun _ => some []))) tupD))
noncomputable def X_law_12 : Sto → Option Out := (forI 17 (o1 (fun ρ => vg ρ 15) rngD1) (seqO (asgO 16 (bind2 (bind2 (fun ρ => vg ρ 16) (bind2 (fun ρ => vg ρ 17) (fun _ => some (.int 1)) (binD .Add)) (binD .Mult)) (o1 (fun _ => some (.int 4)) negD) (binD .Mult))) (fun ρ => some (.next ρ))))
noncomputable def X_law_13 : Sto → Option Out := (asgO 18 (o1 (consD (o1 (consD (o1 (consD (fun ρ => vg ρ 15) (consD (o1 (consD (iteD (bind2b (bind2 (fun ρ => vg ρ 2) (fun _ => some (.int 2)) (binD .Mod)) (fun _ => some (.int 1)) (cmpD .Eq)) (fun _ => some (.int 1)) (o1 (fun _ => some (.int 1)) negD)) (consD (fun _ => some (.int 2)) (fun _ => some []))) tupD) (fun _ => some []))) F__law_laguerre) (consD (o1 (consD (fun _ => some (.tuple [.int 0, .int 1])) (consD (fun _ => some (.tuple [.int 0, .int 1])) (consD (fun _ => some (.tuple [.int 1, .int 1])) (fun _ => some [])))) lstD) (fun _ => some []))) F_qcompose) (consD (o1 (consD (fun ρ => vg ρ 16) (consD (fun _ => some (.int 1)) (fun _ => some []))) tupD) (fun _ => some []))) F_qscale))
noncomputable def X_law_14 : Sto → Option Out := (iteD (bind2b (iteD (bind2b (bind2 (fun ρ => vg ρ 2) (fun _ => some (.int 2)) (binD .Mod)) (fun _ => some (.int 1)) (cmpD .Eq)) (o1 (consD (o1 (consD (fun _ => some (.tuple [.int 0, .int 1])) (consD (o1 (consD (fun _ => some (.int 2)) (consD (fun _ => some (.int 1)) (fun _ => some []))) tupD) (fun _ => some []))) lstD) (consD (fun ρ => vg ρ 18) (fun _ => some []))) F_qmul) (fun ρ => vg ρ 18)) (bind2 (fun ρ => vg ρ 7) (fun ρ => vg ρ 2) idxD) (cmpD .NotEq)) (seqO (retO (fun _ => some (.bool false))) (fun ρ => some (.next ρ))) (fun ρ => some (.next ρ)))
noncomputable def X_law_15 : Sto → Option Out := (retO (fun ρ => ((bind2b (o1 (consD (bind2 (o1 (consD (bind2 (fun ρ => vg ρ 8) (fun ρ => vg ρ 2) idxD) (fun _ => some [])) F_to_z) (fun _ => some (.int 0)) idxD) (consD (o1 (consD (fun _ => some (.int 0)) (consD (fun _ => some (.int 1)) (fun _ => some []))) tupD) (consD (fun _ => some (.str "+")) (fun _ => some [])))) F_count_roots) (fun ρ => vg ρ 2) (cmpD .Eq)) ρ).map .bool))
noncomputable def X_law : Sto → Option Out := (seqO X_law_0 (seqO X_law_1 (seqO X_law_2 (seqO X_law_3 (seqO X_law_4 (seqO X_law_5 (seqO X_law_6 (seqO X_law_7 (seqO X_law_8 (seqO X_law_9 (seqO X_law_10 (seqO X_law_11 (seqO X_law_12 (seqO X_law_13 (seqO X_law_14 (seqO X_law_15 (fun ρ => some (.next ρ))))))))))))))))))
theorem law_fn (B : Base) : FnOk B 11 "law" (fnD 1 18 X_law) :=
  fn_ok2 (lev := 10) (i := 80) (ps := (["script"] : List Str)) (ls := (["pool", "many", "r", "a", "b", "c", "rows", "tail", "line", "told", "means", "together", "k", "due", "half", "by", "turn", "squared"] : List Str)) (names := (["script", "pool", "many", "r", "a", "b", "c", "rows", "tail", "line", "told", "means", "together", "k", "due", "half", "by", "turn", "squared"] : List Str)) rfl (List.mem_filterMap.mpr ⟨stN 80, st_mem (by decide +kernel), by kernel_rfl⟩) rfl (by decide) (by decide +kernel) (fun pm cd doc => bd1 fun _ => rfl)
    (o' := some 1) ((Ex.cons (f := X_law_0) (ExS.asgOwn (EvNew.lst (EvL.cons ((EvNew.comp (EvI.lst ((EvNew.slice (EvR.var a0) EvP.none (EvP.some (Ev.int).r))).ev) .nil EvTs.nil (Ev.toInt (EvR.var a0)) (by decide +kernel) (blk_of (by decide +kernel)))).ev (EvL.cons Ev.int EvL.nil))) a1 (by decide)) (Ex.cons (f := X_law_1) (ExS.unpDS (EvD.tup (EvDL.cons (EvD.bin (EvD.of Ev.int) (EvD.draw (draw_ok B) a1 (by decide))) (EvDL.cons (EvD.call (ok_rat B) (by decide) (EvDL.cons (EvD.bin (EvD.draw (draw_ok B) a1 (by decide)) (EvD.of Ev.int)) (EvDL.cons (EvD.bin (EvD.of Ev.int) (EvD.draw (draw_ok B) a1 (by decide))) EvDL.nil))) EvDL.nil))) (.cons a2 (.cons a3 .nil)) (by decide) (by decide) (by intro _; rfl)) (Ex.cons (f := X_law_2) (ExS.unpD (EvD.tup (EvDL.cons (EvD.draw (draw_ok B) a1 (by decide)) (EvDL.cons (EvD.draw (draw_ok B) a1 (by decide)) (EvDL.cons (EvD.tup (EvDL.cons (EvD.bin (EvD.draw (draw_ok B) a1 (by decide)) (EvD.of Ev.int)) (EvDL.cons (EvD.of Ev.int) EvDL.nil))) EvDL.nil)))) (Nms.cons (Nms.cons (Nms.cons Nms.nil))) (.cons a4 (.cons a5 (.cons a6 .nil))) (by decide) (by decide)) (Ex.cons (f := X_law_3) (ExS.unpS (Ev.tup (EvL.cons (Ev.call (ok__law_hermite B) (by decide) (EvL.cons (Ev.var a2 (by decide)) EvL.nil)) (EvL.cons ((EvNew.comp (EvI.rng1 ((Ev.bin (EvR.var a2) (Ev.int).r)).r) (.cons a4 .nil) EvTs.nil (Ev.call (ok__law_laguerre B) (by decide) (EvL.cons (Ev.var a0 (by decide)) (EvL.cons (Ev.tup (EvL.cons (Ev.var a1 (by decide)) (EvL.cons Ev.int EvL.nil))) EvL.nil))) (by decide +kernel) (blk_of (by decide +kernel)))).ev EvL.nil))) (.cons a7 (.cons a8 .nil)) (by decide) (by decide) (by intro _; rfl)) (Ex.cons (f := X_law_4) (ExS.ite (EvT.not (EvT.val (Ev.call (ok__law_hermite_right B) (by decide) (EvL.cons (Ev.var a2 (by decide)) (EvL.cons (Ev.var a3 (by decide)) (EvL.cons (Ev.var a7 (by decide)) EvL.nil)))))) (Ex.cons (ExS.ret (o' := (some 1)) Ev.bool) Ex.nil) Ex.nil) (Ex.cons (f := X_law_5) (ExS.asg (Ev.call (ok_swhole_power B) (by decide) (EvL.cons ((EvNew.bin (((EvNew.lst (EvL.cons Ev.r1 (EvL.cons (Ev.tup (EvL.cons (Ev.neg Ev.int) (EvL.cons Ev.int EvL.nil))) EvL.nil)))).ev).r (((EvNew.bin (((EvNew.lst (EvL.cons Ev.r0 EvL.nil))).ev).r ((Ev.bin (EvR.var a2) (Ev.int).r)).r)).ev).r)).ev (EvL.cons (Ev.bin ((Ev.bin (Ev.int).r (EvR.var a4))).r (Ev.int).r) EvL.nil))) a9 (by decide) (by decide)) (Ex.cons (f := X_law_6) (ExS.unpS (Ev.tup (EvL.cons (Ev.call (ok_smul B) (by decide) (EvL.cons (Ev.var a9 (by decide)) (EvL.cons (Ev.call (ok_sexp B) (by decide) (EvL.cons ((EvNew.bin (((EvNew.lst (EvL.cons Ev.r0 EvL.nil))).ev).r (((EvNew.bin (((EvNew.lst (EvL.cons (Ev.call (ok_rneg B) (by decide) (EvL.cons (Ev.var a3 (by decide)) EvL.nil)) EvL.nil))).ev).r (EvR.var a2))).ev).r)).ev EvL.nil)) EvL.nil))) (EvL.cons (Ev.call (ok__law_factorials B) (by decide) (EvL.cons (Ev.var a4 (by decide)) (EvL.cons (Ev.bin (Ev.int).r (EvR.var a2)) EvL.nil))) EvL.nil))) (.cons a10 (.cons a11 .nil)) (by decide) (by decide) (by intro _; rfl)) (Ex.cons (f := X_law_7) (ExS.asg ((EvNew.lst EvL.nil)).ev a12 (by decide) (by decide)) (Ex.cons (f := X_law_8) (ExS.for (EvI.rng1 ((Ev.bin (EvR.var a2) (Ev.int).r)).r) (Ex.cons (f := X_l8_0) (ExS.asg (Ev.ite (EvT.cmp (EvR.var a13) (EvR.var a2)) (Ev.call (ok_rdiv B) (by decide) (EvL.cons (Ev.idx (EvR.var a11) (EvR.var a2)) (EvL.cons (Ev.idx ((Ev.call (ok__law_factorials B) (by decide) (EvL.cons Ev.int (EvL.cons (Ev.var a2 (by decide)) EvL.nil)))).r (EvR.var a2)) EvL.nil))) Ev.r0) a14 (by decide) (by decide)) (Ex.cons (f := X_l8_1) (ExS.ite (EvT.or (f := X_t1) (g := X_t2) (EvT.cmp ((Ev.idx (EvR.var a10) (EvR.var a13))).r ((Ev.call (ok_qat B) (by decide) (EvL.cons (Ev.idx (EvR.var a8) (EvR.var a13)) (EvL.cons (Ev.var a3 (by decide)) EvL.nil)))).r) (EvT.cmp ((Ev.call (ok__law_mean B) (by decide) (EvL.cons (Ev.call (ok_qmul B) (by decide) (EvL.cons (Ev.idx (EvR.var a8) (EvR.var a2)) (EvL.cons (Ev.idx (EvR.var a8) (EvR.var a13)) EvL.nil))) (EvL.cons (Ev.var a11 (by decide)) EvL.nil)))).r (EvR.var a14))) (Ex.cons (ExS.ret (o' := (some 1)) Ev.bool) Ex.nil) Ex.nil) (Ex.cons (f := X_l8_2) (ExS.asg (Ev.call (ok_qadd B) (by decide) (EvL.cons (Ev.var a12 (by decide)) (EvL.cons (Ev.call (ok_qscale B) (by decide) (EvL.cons (Ev.idx (EvR.var a8) (EvR.var a13)) (EvL.cons (Ev.call (ok_qat B) (by decide) (EvL.cons (Ev.call (ok__law_laguerre B) (by decide) (EvL.cons (Ev.bin (EvR.var a2) (EvR.var a13)) (EvL.cons (Ev.tup (EvL.cons (Ev.var a5 (by decide)) (EvL.cons Ev.int EvL.nil))) EvL.nil))) (EvL.cons (Ev.var a6 (by decide)) EvL.nil))) EvL.nil))) EvL.nil))) a12 (by decide) (by decide)) Ex.nil))) a13 (by decide) (by decide)) (Ex.cons (f := X_law_9) (ExS.ite (EvT.cmp ((Ev.call (ok_qcompose B) (by decide) (EvL.cons (Ev.call (ok__law_laguerre B) (by decide) (EvL.cons (Ev.var a2 (by decide)) (EvL.cons (Ev.tup (EvL.cons (Ev.bin ((Ev.bin (EvR.var a4) (EvR.var a5))).r (Ev.int).r) (EvL.cons Ev.int EvL.nil))) EvL.nil))) (EvL.cons ((EvNew.lst (EvL.cons (Ev.var a6 (by decide)) (EvL.cons Ev.r1 EvL.nil)))).ev EvL.nil)))).r (EvR.var a12)) (Ex.cons (ExS.ret (o' := (some 1)) Ev.bool) Ex.nil) Ex.nil) (Ex.cons (f := X_law_10) (ExS.ite (EvT.cmp ((Ev.call (ok_qderive B) (by decide) (EvL.cons (Ev.idx (EvR.var a8) (EvR.var a2)) EvL.nil))).r ((Ev.call (ok_qscale B) (by decide) (EvL.cons (Ev.call (ok__law_laguerre B) (by decide) (EvL.cons (Ev.bin (EvR.var a2) (Ev.int).r) (EvL.cons (Ev.tup (EvL.cons (Ev.bin (EvR.var a4) (Ev.int).r) (EvL.cons Ev.int EvL.nil))) EvL.nil))) (EvL.cons (Ev.tup (EvL.cons (Ev.neg Ev.int) (EvL.cons Ev.int EvL.nil))) EvL.nil)))).r) (Ex.cons (ExS.ret (o' := (some 1)) Ev.bool) Ex.nil) Ex.nil) (Ex.cons (f := X_law_11) (ExS.unpS (Ev.tup (EvL.cons (Ev.bin (EvR.var a2) (Ev.int).r) (EvL.cons Ev.int EvL.nil))) (.cons a15 (.cons a16 .nil)) (by decide) (by decide) (by intro _; rfl)) (Ex.cons (f := X_law_12) (ExS.for (EvI.rng1 (EvR.var a15)) (Ex.cons (ExS.asg (Ev.bin ((Ev.bin (EvR.var a16) ((Ev.bin (EvR.var a17) (Ev.int).r)).r)).r ((Ev.neg Ev.int)).r) a16 (by decide) (by decide)) Ex.nil) a17 (by decide) (by decide)) (Ex.cons (f := X_law_13) (ExS.asg (Ev.call (ok_qscale B) (by decide) (EvL.cons (Ev.call (ok_qcompose B) (by decide) (EvL.cons (Ev.call (ok__law_laguerre B) (by decide) (EvL.cons (Ev.var a15 (by decide)) (EvL.cons (Ev.tup (EvL.cons (Ev.ite (EvT.cmp ((Ev.bin (EvR.var a2) (Ev.int).r)).r (Ev.int).r) Ev.int (Ev.neg Ev.int)) (EvL.cons Ev.int EvL.nil))) EvL.nil))) (EvL.cons ((EvNew.lst (EvL.cons Ev.r0 (EvL.cons Ev.r0 (EvL.cons Ev.r1 EvL.nil))))).ev EvL.nil))) (EvL.cons (Ev.tup (EvL.cons (Ev.var a16 (by decide)) (EvL.cons Ev.int EvL.nil))) EvL.nil))) a18 (by decide) (by decide)) (Ex.cons (f := X_law_14) (ExS.ite (EvT.cmp ((Ev.ite (EvT.cmp ((Ev.bin (EvR.var a2) (Ev.int).r)).r (Ev.int).r) (Ev.call (ok_qmul B) (by decide) (EvL.cons ((EvNew.lst (EvL.cons Ev.r0 (EvL.cons (Ev.tup (EvL.cons Ev.int (EvL.cons Ev.int EvL.nil))) EvL.nil)))).ev (EvL.cons (Ev.var a18 (by decide)) EvL.nil))) (Ev.var a18 (by decide)))).r ((Ev.idx (EvR.var a7) (EvR.var a2))).r) (Ex.cons (ExS.ret (o' := (some 1)) Ev.bool) Ex.nil) Ex.nil) (Ex.cons (f := X_law_15) (ExS.ret (o' := (some 1)) (Ev.cmp ((Ev.call (ok_count_roots B) (by decide) (EvL.cons (Ev.idx ((Ev.call (ok_to_z B) (by decide) (EvL.cons (Ev.idx (EvR.var a8) (EvR.var a2)) EvL.nil))).r (Ev.int).r) (EvL.cons (Ev.tup (EvL.cons Ev.int (EvL.cons Ev.int EvL.nil))) (EvL.cons Ev.str EvL.nil))))).r (EvR.var a2))) Ex.nil))))))))))))))))) rfl rfl rfl

end Mine

namespace Mine
open PySem PySem.W PySem.Spec PySem.Calls PyProof.Rows

noncomputable abbrev OD := Option PyData
noncomputable abbrev nxt (ρ : Sto) : Option Out := some (.next ρ)
noncomputable def S19 (x0 x1 x2 x3 x4 x5 x6 x7 x8 x9 x10 x11 x12 x13 x14 x15 x16 x17 x18 : OD) : Sto := [x0, x1, x2, x3, x4, x5, x6, x7, x8, x9, x10, x11, x12, x13, x14, x15, x16, x17, x18]
noncomputable def X_end : Sto → Option Out := seqO X_law_10 (seqO X_law_11 (seqO X_law_12 (seqO X_law_13 (seqO X_law_14 (seqO X_law_15 fun ρ => some (.next ρ))))))
noncomputable def X_rest : Sto → Option Out := seqO X_law_3 (seqO X_law_4 (seqO X_law_5 (seqO X_law_6 (seqO X_law_7 (seqO X_law_8 (seqO X_law_9 X_end))))))
theorem X_law_is : X_law = seqO X_law_0 (seqO X_law_1 (seqO X_law_2 X_rest)) := rfl

noncomputable def Lb : Sto → Option Out := seqO X_l8_0 (seqO X_l8_2 fun ρ => some (.next ρ))
noncomputable def La : Sto → Option Out := seqO X_l8_0 (seqO X_l8_1 (seqO X_l8_2 fun ρ => some (.next ρ)))
noncomputable def kz (k : Nat) : PyData := .int (.ofNat k)
noncomputable def ksOf (l : List Nat) : List PyData := l.map kz

theorem s4 {m r rows : PyData} (h : F__law_hermite_right [m, r, rows] = some (.bool true)) (x0 x1 x4 x5 x6 x8 x9 x10 x11 x12 x13 x14 x15 x16 x17 x18 : OD) :
    X_law_4 (S19 x0 x1 (some m) (some r) x4 x5 x6 (some rows) x8 x9 x10 x11 x12 x13 x14 x15 x16 x17 x18) = nxt (S19 x0 x1 (some m) (some r) x4 x5 x6 (some rows) x8 x9 x10 x11 x12 x13 x14 x15 x16 x17 x18) := by
  unfold X_law_4 S19
  simp only [iteD, notT, o1, consD, vg, h, asB, Bool.not_true]
theorem t8 {ρ : Sto} (h1 : X_t1 ρ = some false) (h2 : X_t2 ρ = some false) : X_l8_1 ρ = nxt ρ := by
  unfold X_l8_1
  simp only [iteD, orT, h1, h2]

/-- the loop's test always passes, so the loop only gathers -/
theorem loop8 {x0 x1 x2 x3 x4 x5 x6 x7 x8 x9 x10 x11 x15 x16 x17 x18 : OD} : ∀ (ks : List PyData)
    (_ : ∀ k ∈ ks, ∃ due : PyData, ∀ tog d : OD,
      X_l8_0 (S19 x0 x1 x2 x3 x4 x5 x6 x7 x8 x9 x10 x11 tog (some k) d x15 x16 x17 x18) = nxt (S19 x0 x1 x2 x3 x4 x5 x6 x7 x8 x9 x10 x11 tog (some k) (some due) x15 x16 x17 x18) ∧
      X_l8_1 (S19 x0 x1 x2 x3 x4 x5 x6 x7 x8 x9 x10 x11 tog (some k) (some due) x15 x16 x17 x18) = nxt (S19 x0 x1 x2 x3 x4 x5 x6 x7 x8 x9 x10 x11 tog (some k) (some due) x15 x16 x17 x18))
    (tog kk d : OD), forO 13 La ks (S19 x0 x1 x2 x3 x4 x5 x6 x7 x8 x9 x10 x11 tog kk d x15 x16 x17 x18) = forO 13 Lb ks (S19 x0 x1 x2 x3 x4 x5 x6 x7 x8 x9 x10 x11 tog kk d x15 x16 x17 x18)
  | [], _, _, _, _ => rfl
  | k :: ks, h, tog, kk, d => by
    obtain ⟨due, hk⟩ := h k (.head _)
    obtain ⟨e0, e1⟩ := hk tog d
    have hv : vput (S19 x0 x1 x2 x3 x4 x5 x6 x7 x8 x9 x10 x11 tog kk d x15 x16 x17 x18) 13 k = S19 x0 x1 x2 x3 x4 x5 x6 x7 x8 x9 x10 x11 tog (some k) d x15 x16 x17 x18 := rfl
    unfold forO
    rw [hv]
    have ea : La (S19 x0 x1 x2 x3 x4 x5 x6 x7 x8 x9 x10 x11 tog (some k) d x15 x16 x17 x18) = seqO X_l8_2 (fun ρ => some (.next ρ)) (S19 x0 x1 x2 x3 x4 x5 x6 x7 x8 x9 x10 x11 tog (some k) (some due) x15 x16 x17 x18) := by
      unfold La; rw [seqO_next e0, seqO_next e1]
    have eb : Lb (S19 x0 x1 x2 x3 x4 x5 x6 x7 x8 x9 x10 x11 tog (some k) d x15 x16 x17 x18) = seqO X_l8_2 (fun ρ => some (.next ρ)) (S19 x0 x1 x2 x3 x4 x5 x6 x7 x8 x9 x10 x11 tog (some k) (some due) x15 x16 x17 x18) := by
      unfold Lb; rw [seqO_next e0]
    rw [ea, eb]
    cases q : seqO X_l8_2 (fun ρ => some (.next ρ)) (S19 x0 x1 x2 x3 x4 x5 x6 x7 x8 x9 x10 x11 tog (some k) (some due) x15 x16 x17 x18) with
    | none => rfl
    | some out =>
      cases out with
      | ret r => rfl
      | next ρ' =>
        have : ∃ t : OD, ρ' = S19 x0 x1 x2 x3 x4 x5 x6 x7 x8 x9 x10 x11 t (some k) (some due) x15 x16 x17 x18 := by
          unfold seqO X_l8_2 asgO at q
          split at q
          · rename_i ρ2 h2
            split at h2
            · cases h2; cases q; exact ⟨some _, rfl⟩
            · cases h2
          · rename_i h2
            split at h2 <;> cases h2
          · cases q
        obtain ⟨t, rfl⟩ := this
        exact loop8 ks (fun k' hk' => h k' (.tail _ hk')) t _ _

theorem glue {x0 x1 : OD} {m r a b c rows tail line told means tog due : PyData} {ks : List PyData}
    (h3 : X_law_3 (S19 x0 x1 (some m) (some r) (some a) (some b) (some c) none none none none none none none none none none none none) = nxt (S19 x0 x1 (some m) (some r) (some a) (some b) (some c) (some rows) (some tail) none none none none none none none none none none))
    (h4 : F__law_hermite_right [m, r, rows] = some (.bool true))
    (h5 : X_law_5 (S19 x0 x1 (some m) (some r) (some a) (some b) (some c) (some rows) (some tail) none none none none none none none none none none) = nxt (S19 x0 x1 (some m) (some r) (some a) (some b) (some c) (some rows) (some tail) (some line) none none none none none none none none none))
    (h6 : X_law_6 (S19 x0 x1 (some m) (some r) (some a) (some b) (some c) (some rows) (some tail) (some line) none none none none none none none none none) = nxt (S19 x0 x1 (some m) (some r) (some a) (some b) (some c) (some rows) (some tail) (some line) (some told) (some means) none none none none none none none))
    (hks : (o1 (bind2 (fun ρ => vg ρ 2) (fun _ => some (.int 1)) (binD .Add)) rngD1) [none, none, some m] = some ks)
    (hT : ∀ k ∈ ks, ∃ due : PyData, ∀ tog d : OD,
      X_l8_0 (S19 x0 x1 (some m) (some r) (some a) (some b) (some c) (some rows) (some tail) (some line) (some told) (some means) tog (some k) d none none none none) = nxt (S19 x0 x1 (some m) (some r) (some a) (some b) (some c) (some rows) (some tail) (some line) (some told) (some means) tog (some k) (some due) none none none none) ∧
      X_l8_1 (S19 x0 x1 (some m) (some r) (some a) (some b) (some c) (some rows) (some tail) (some line) (some told) (some means) tog (some k) (some due) none none none none) = nxt (S19 x0 x1 (some m) (some r) (some a) (some b) (some c) (some rows) (some tail) (some line) (some told) (some means) tog (some k) (some due) none none none none))
    (h8 : forO 13 Lb ks (S19 x0 x1 (some m) (some r) (some a) (some b) (some c) (some rows) (some tail) (some line) (some told) (some means) (some (.list [])) none none none none none none) = nxt (S19 x0 x1 (some m) (some r) (some a) (some b) (some c) (some rows) (some tail) (some line) (some told) (some means) (some tog) (some m) (some due) none none none none))
    (h9 : X_law_9 (S19 x0 x1 (some m) (some r) (some a) (some b) (some c) (some rows) (some tail) (some line) (some told) (some means) (some tog) (some m) (some due) none none none none) = nxt (S19 x0 x1 (some m) (some r) (some a) (some b) (some c) (some rows) (some tail) (some line) (some told) (some means) (some tog) (some m) (some due) none none none none))
    (h10 : X_end (S19 x0 x1 (some m) (some r) (some a) (some b) (some c) (some rows) (some tail) (some line) (some told) (some means) (some tog) (some m) (some due) none none none none) = some (.ret (.bool true))) :
    X_rest (S19 x0 x1 (some m) (some r) (some a) (some b) (some c) none none none none none none none none none none none none) = some (.ret (.bool true)) := by
  unfold X_rest
  rw [seqO_next h3, seqO_next (s4 h4 _ _ _ _ _ _ _ _ _ _ _ _ _ _ _ _), seqO_next h5, seqO_next h6]
  refine (seqO_next (ρ' := S19 x0 x1 (some m) (some r) (some a) (some b) (some c) (some rows) (some tail) (some line) (some told) (some means) (some (.list [])) none none none none none none) rfl).trans ?_
  have e8 : X_law_8 (S19 x0 x1 (some m) (some r) (some a) (some b) (some c) (some rows) (some tail) (some line) (some told) (some means) (some (.list [])) none none none none none none) = nxt (S19 x0 x1 (some m) (some r) (some a) (some b) (some c) (some rows) (some tail) (some line) (some told) (some means) (some tog) (some m) (some due) none none none none) := by
    have hks' : (o1 (bind2 (fun ρ => vg ρ 2) (fun _ => some (.int 1)) (binD .Add)) rngD1) (S19 x0 x1 (some m) (some r) (some a) (some b) (some c) (some rows) (some tail) (some line) (some told) (some means) (some (.list [])) none none none none none none) = some ks := hks
    show forI 13 _ La _ = _
    unfold forI
    rw [hks']
    exact (loop8 ks hT _ _ _).trans h8
  rw [seqO_next e8, seqO_next h9, h10]

theorem seqO_two {f g h : Sto → Option Out} {ρ ρ' : Sto} (e : seqO f g ρ = some (.next ρ')) : seqO f (seqO g h) ρ = h ρ' := by
  unfold seqO at e ⊢
  cases q : f ρ with
  | none => rw [q] at e; cases e
  | some out =>
    rw [q] at e
    cases out with
    | ret d => cases e
    | next ρ1 =>
      have e : g ρ1 = some (.next ρ') := e
      show (match g ρ1 with | some (.next ρ') => h ρ' | some (.ret d) => some (.ret d) | none => none) = _
      rw [e]
noncomputable def X_hend : Sto → Option Out := seqO X_hr_2 (seqO X_hr_3 (seqO X_hr_4 (seqO X_hr_5 fun ρ => some (.next ρ))))
theorem herm {m r rows told by_ : PyData} (h1 : seqO X_hr_0 X_hr_1 [some m, some r, some rows, none, none, none, none] = nxt [some m, some r, some rows, some told, some by_, some m, none])
    (h2 : X_hend [some m, some r, some rows, some told, some by_, some m, none] = some (.ret (.bool true))) : F__law_hermite_right [m, r, rows] = some (.bool true) := by
  show outD (seqO X_hr_0 (seqO X_hr_1 X_hend) [some m, some r, some rows, none, none, none, none]) = _
  rw [seqO_two h1, h2]; rfl
end Mine

namespace Mine
open PySem PySem.W PySem.Spec PySem.Calls PyProof.Rows

noncomputable abbrev Qp (a b : Nat) : PyData := .tuple [.int (.ofNat a), .int (.ofNat b)]
noncomputable abbrev Qm (a b : Nat) : PyData := .tuple [.int (.negSucc a), .int (.ofNat b)]
noncomputable def Rr0 : PyData := .tuple [(.int (.negSucc 2)), (.int (.ofNat 1))]
noncomputable def Rr1 : PyData := .tuple [(.int (.negSucc 1)), (.int (.ofNat 1))]
noncomputable def Rr2 : PyData := .tuple [(.int (.negSucc 0)), (.int (.ofNat 1))]
noncomputable def Rr3 : PyData := .tuple [(.int (.ofNat 0)), (.int (.ofNat 1))]
noncomputable def Rr4 : PyData := .tuple [(.int (.ofNat 1)), (.int (.ofNat 1))]
noncomputable def Rr5 : PyData := .tuple [(.int (.ofNat 2)), (.int (.ofNat 1))]
noncomputable def Rr6 : PyData := .tuple [(.int (.ofNat 3)), (.int (.ofNat 1))]
noncomputable def Rr7 : PyData := .tuple [(.int (.negSucc 2)), (.int (.ofNat 2))]
noncomputable def Rr8 : PyData := .tuple [(.int (.negSucc 0)), (.int (.ofNat 2))]
noncomputable def Rr9 : PyData := .tuple [(.int (.ofNat 1)), (.int (.ofNat 2))]
noncomputable def Rr10 : PyData := .tuple [(.int (.ofNat 3)), (.int (.ofNat 2))]
noncomputable abbrev J (n : Nat) : OD := some (.int (.ofNat n))
noncomputable abbrev S15 (x0 x1 x2 x3 x4 x5 x6 x7 x8 x9 x10 x11 x12 x13 x14 : OD) : Sto := S19 x0 x1 x2 x3 x4 x5 x6 x7 x8 x9 x10 x11 x12 x13 x14 none none none none
section
variable (x0 x1 x3 x5 x6 x7 x8 x9 x10 x11 x12 x13 x14 : OD)
noncomputable def Rows_2 : PyData := .list [.list [Qp 1 1], .list [Qp 0 1, Qp 2 1], .list [Qm 1 1, Qp 0 1, Qp 4 1]]
noncomputable def Tail_2_0 : PyData := .list [.list [Qp 1 1], .list [Qp 1 1, Qm 0 1], .list [Qp 1 1, Qm 1 1, Qp 1 2]]
noncomputable def Line_2_0 : PyData := .list [Qp 1 1, Qp 1 1, Qp 1 1]
noncomputable def Means_2_0 : PyData := .list [Qp 1 1, Qp 1 1, Qp 2 1, Qp 6 1, Qp 24 1]
noncomputable def Told_2_0_0 : PyData := .list [Qp 1 1, Qp 4 1, Qp 23 2]
noncomputable def Told_2_0_1 : PyData := .list [Qp 1 1, Qp 3 1, Qp 7 1]
noncomputable def Told_2_0_2 : PyData := .list [Qp 1 1, Qp 2 1, Qp 7 2]
noncomputable def Told_2_0_3 : PyData := .list [Qp 1 1, Qp 1 1, Qp 1 1]
noncomputable def Told_2_0_4 : PyData := .list [Qp 1 1, Qp 0 1, Qm 0 2]
noncomputable def Told_2_0_5 : PyData := .list [Qp 1 1, Qm 0 1, Qm 0 1]
noncomputable def Told_2_0_6 : PyData := .list [Qp 1 1, Qm 1 1, Qm 0 2]
noncomputable def Told_2_0_7 : PyData := .list [Qp 1 1, Qp 5 2, Qp 41 8]
noncomputable def Told_2_0_8 : PyData := .list [Qp 1 1, Qp 3 2, Qp 17 8]
noncomputable def Told_2_0_9 : PyData := .list [Qp 1 1, Qp 1 2, Qp 1 8]
noncomputable def Told_2_0_10 : PyData := .list [Qp 1 1, Qm 0 2, Qm 6 8]
noncomputable def Tog_2_0_0_n2 : PyData := .list [Qp 11 1, Qm 4 1, Qp 1 2]
noncomputable def Tog_2_0_0_n1 : PyData := .list [Qp 13 2, Qm 3 1, Qp 1 2]
noncomputable def Tog_2_0_0_0 : PyData := .list [Qp 3 1, Qm 2 1, Qp 1 2]
noncomputable def Due_2_0 : PyData := Qp 1 1
noncomputable def Tog_2_0_0_1 : PyData := .list [Qp 1 2, Qm 1 1, Qp 1 2]
noncomputable def Tog_2_0_0_2 : PyData := .list [Qm 0 1, Qm 0 1, Qp 1 2]
noncomputable def Tog_2_0_1_n2 : PyData := .list [Qp 16 1, Qm 5 1, Qp 1 2]
noncomputable def Tog_2_0_1_n1 : PyData := .list [Qp 21 2, Qm 4 1, Qp 1 2]
noncomputable def Tog_2_0_1_0 : PyData := .list [Qp 6 1, Qm 3 1, Qp 1 2]
noncomputable def Tog_2_0_1_1 : PyData := .list [Qp 5 2, Qm 2 1, Qp 1 2]
noncomputable def Tog_2_0_1_2 : PyData := .list [Qp 0 1, Qm 1 1, Qp 1 2]
noncomputable def Tog_2_0_2_n2 : PyData := .list [Qp 22 1, Qm 6 1, Qp 1 2]
noncomputable def Tog_2_0_2_n1 : PyData := .list [Qp 31 2, Qm 5 1, Qp 1 2]
noncomputable def Tog_2_0_2_0 : PyData := .list [Qp 10 1, Qm 4 1, Qp 1 2]
noncomputable def Tog_2_0_2_1 : PyData := .list [Qp 11 2, Qm 3 1, Qp 1 2]
noncomputable def Tog_2_0_2_2 : PyData := .list [Qp 2 1, Qm 2 1, Qp 1 2]
noncomputable def Tail_2_1 : PyData := .list [.list [Qp 1 1], .list [Qp 2 1, Qm 0 1], .list [Qp 3 1, Qm 2 1, Qp 1 2]]
noncomputable def Line_2_1 : PyData := .list [Qp 1 1, Qp 2 1, Qp 3 1]
noncomputable def Means_2_1 : PyData := .list [Qp 1 1, Qp 2 1, Qp 6 1, Qp 24 1, Qp 120 1]
noncomputable def Told_2_1_0 : PyData := .list [Qp 1 1, Qp 5 1, Qp 33 2]
noncomputable def Told_2_1_1 : PyData := .list [Qp 1 1, Qp 4 1, Qp 11 1]
noncomputable def Told_2_1_2 : PyData := .list [Qp 1 1, Qp 3 1, Qp 13 2]
noncomputable def Told_2_1_3 : PyData := .list [Qp 1 1, Qp 2 1, Qp 3 1]
noncomputable def Told_2_1_4 : PyData := .list [Qp 1 1, Qp 1 1, Qp 1 2]
noncomputable def Told_2_1_5 : PyData := .list [Qp 1 1, Qp 0 1, Qm 0 1]
noncomputable def Told_2_1_6 : PyData := .list [Qp 1 1, Qm 0 1, Qm 2 2]
noncomputable def Told_2_1_7 : PyData := .list [Qp 1 1, Qp 7 2, Qp 69 8]
noncomputable def Told_2_1_8 : PyData := .list [Qp 1 1, Qp 5 2, Qp 37 8]
noncomputable def Told_2_1_9 : PyData := .list [Qp 1 1, Qp 3 2, Qp 13 8]
noncomputable def Told_2_1_10 : PyData := .list [Qp 1 1, Qp 1 2, Qm 2 8]
noncomputable def Tog_2_1_0_n2 : PyData := .list [Qp 16 1, Qm 5 1, Qp 1 2]
noncomputable def Tog_2_1_0_n1 : PyData := .list [Qp 21 2, Qm 4 1, Qp 1 2]
noncomputable def Tog_2_1_0_0 : PyData := .list [Qp 6 1, Qm 3 1, Qp 1 2]
noncomputable def Due_2_1 : PyData := Qp 3 1
noncomputable def Tog_2_1_0_1 : PyData := .list [Qp 5 2, Qm 2 1, Qp 1 2]
noncomputable def Tog_2_1_0_2 : PyData := .list [Qp 0 1, Qm 1 1, Qp 1 2]
noncomputable def Tog_2_1_1_n2 : PyData := .list [Qp 22 1, Qm 6 1, Qp 1 2]
noncomputable def Tog_2_1_1_n1 : PyData := .list [Qp 31 2, Qm 5 1, Qp 1 2]
noncomputable def Tog_2_1_1_0 : PyData := .list [Qp 10 1, Qm 4 1, Qp 1 2]
noncomputable def Tog_2_1_1_1 : PyData := .list [Qp 11 2, Qm 3 1, Qp 1 2]
noncomputable def Tog_2_1_1_2 : PyData := .list [Qp 2 1, Qm 2 1, Qp 1 2]
noncomputable def Tog_2_1_2_n2 : PyData := .list [Qp 29 1, Qm 7 1, Qp 1 2]
noncomputable def Tog_2_1_2_n1 : PyData := .list [Qp 43 2, Qm 6 1, Qp 1 2]
noncomputable def Tog_2_1_2_0 : PyData := .list [Qp 15 1, Qm 5 1, Qp 1 2]
noncomputable def Tog_2_1_2_1 : PyData := .list [Qp 19 2, Qm 4 1, Qp 1 2]
noncomputable def Tog_2_1_2_2 : PyData := .list [Qp 5 1, Qm 3 1, Qp 1 2]
noncomputable def Tail_2_2 : PyData := .list [.list [Qp 1 1], .list [Qp 3 1, Qm 0 1], .list [Qp 6 1, Qm 3 1, Qp 1 2]]
noncomputable def Line_2_2 : PyData := .list [Qp 1 1, Qp 3 1, Qp 6 1]
noncomputable def Means_2_2 : PyData := .list [Qp 2 1, Qp 6 1, Qp 24 1, Qp 120 1, Qp 720 1]
noncomputable def Told_2_2_0 : PyData := .list [Qp 1 1, Qp 6 1, Qp 45 2]
noncomputable def Told_2_2_1 : PyData := .list [Qp 1 1, Qp 5 1, Qp 16 1]
noncomputable def Told_2_2_2 : PyData := .list [Qp 1 1, Qp 4 1, Qp 21 2]
noncomputable def Told_2_2_3 : PyData := .list [Qp 1 1, Qp 3 1, Qp 6 1]
noncomputable def Told_2_2_4 : PyData := .list [Qp 1 1, Qp 2 1, Qp 5 2]
noncomputable def Told_2_2_5 : PyData := .list [Qp 1 1, Qp 1 1, Qp 0 1]
noncomputable def Told_2_2_6 : PyData := .list [Qp 1 1, Qp 0 1, Qm 2 2]
noncomputable def Told_2_2_7 : PyData := .list [Qp 1 1, Qp 9 2, Qp 105 8]
noncomputable def Told_2_2_8 : PyData := .list [Qp 1 1, Qp 7 2, Qp 65 8]
noncomputable def Told_2_2_9 : PyData := .list [Qp 1 1, Qp 5 2, Qp 33 8]
noncomputable def Told_2_2_10 : PyData := .list [Qp 1 1, Qp 3 2, Qp 9 8]
noncomputable def Tog_2_2_0_n2 : PyData := .list [Qp 22 1, Qm 6 1, Qp 1 2]
noncomputable def Tog_2_2_0_n1 : PyData := .list [Qp 31 2, Qm 5 1, Qp 1 2]
noncomputable def Tog_2_2_0_0 : PyData := .list [Qp 10 1, Qm 4 1, Qp 1 2]
noncomputable def Due_2_2 : PyData := Qp 12 1
noncomputable def Tog_2_2_0_1 : PyData := .list [Qp 11 2, Qm 3 1, Qp 1 2]
noncomputable def Tog_2_2_0_2 : PyData := .list [Qp 2 1, Qm 2 1, Qp 1 2]
noncomputable def Tog_2_2_1_n2 : PyData := .list [Qp 29 1, Qm 7 1, Qp 1 2]
noncomputable def Tog_2_2_1_n1 : PyData := .list [Qp 43 2, Qm 6 1, Qp 1 2]
noncomputable def Tog_2_2_1_0 : PyData := .list [Qp 15 1, Qm 5 1, Qp 1 2]
noncomputable def Tog_2_2_1_1 : PyData := .list [Qp 19 2, Qm 4 1, Qp 1 2]
noncomputable def Tog_2_2_1_2 : PyData := .list [Qp 5 1, Qm 3 1, Qp 1 2]
noncomputable def Tog_2_2_2_n2 : PyData := .list [Qp 37 1, Qm 8 1, Qp 1 2]
noncomputable def Tog_2_2_2_n1 : PyData := .list [Qp 57 2, Qm 7 1, Qp 1 2]
noncomputable def Tog_2_2_2_0 : PyData := .list [Qp 21 1, Qm 6 1, Qp 1 2]
noncomputable def Tog_2_2_2_1 : PyData := .list [Qp 29 2, Qm 5 1, Qp 1 2]
noncomputable def Tog_2_2_2_2 : PyData := .list [Qp 9 1, Qm 4 1, Qp 1 2]
noncomputable def Rows_3 : PyData := .list [.list [Qp 1 1], .list [Qp 0 1, Qp 2 1], .list [Qm 1 1, Qp 0 1, Qp 4 1], .list [Qp 0 1, Qm 11 1, Qp 0 1, Qp 8 1]]
noncomputable def Tail_3_0 : PyData := .list [.list [Qp 1 1], .list [Qp 1 1, Qm 0 1], .list [Qp 1 1, Qm 1 1, Qp 1 2], .list [Qp 1 1, Qm 2 1, Qp 3 2, Qm 0 6]]
noncomputable def Line_3_0 : PyData := .list [Qp 1 1, Qp 1 1, Qp 1 1, Qp 1 1]
noncomputable def Means_3_0 : PyData := .list [Qp 1 1, Qp 1 1, Qp 2 1, Qp 6 1, Qp 24 1, Qp 120 1, Qp 720 1]
noncomputable def Told_3_0_0 : PyData := .list [Qp 1 1, Qp 4 1, Qp 23 2, Qp 28 1]
noncomputable def Told_3_0_1 : PyData := .list [Qp 1 1, Qp 3 1, Qp 7 1, Qp 43 3]
noncomputable def Told_3_0_2 : PyData := .list [Qp 1 1, Qp 2 1, Qp 7 2, Qp 17 3]
noncomputable def Told_3_0_3 : PyData := .list [Qp 1 1, Qp 1 1, Qp 1 1, Qp 1 1]
noncomputable def Told_3_0_4 : PyData := .list [Qp 1 1, Qp 0 1, Qm 0 2, Qm 1 3]
noncomputable def Told_3_0_5 : PyData := .list [Qp 1 1, Qm 0 1, Qm 0 1, Qm 0 3]
noncomputable def Told_3_0_6 : PyData := .list [Qp 1 1, Qm 1 1, Qm 0 2, Qp 1 1]
noncomputable def Told_3_0_7 : PyData := .list [Qp 1 1, Qp 5 2, Qp 41 8, Qp 151 16]
noncomputable def Told_3_0_8 : PyData := .list [Qp 1 1, Qp 3 2, Qp 17 8, Qp 139 48]
noncomputable def Told_3_0_9 : PyData := .list [Qp 1 1, Qp 1 2, Qp 1 8, Qm 6 48]
noncomputable def Told_3_0_10 : PyData := .list [Qp 1 1, Qm 0 2, Qm 6 8, Qm 10 16]
noncomputable def Tog_3_0_0_n2 : PyData := .list [Qp 76 3, Qm 15 1, Qp 3 1, Qm 0 6]
noncomputable def Tog_3_0_0_n1 : PyData := .list [Qp 73 6, Qm 20 2, Qp 5 2, Qm 0 6]
noncomputable def Tog_3_0_0_0 : PyData := .list [Qp 4 1, Qm 5 1, Qp 2 1, Qm 0 6]
noncomputable def Due_3_0 : PyData := Qp 1 1
noncomputable def Tog_3_0_0_1 : PyData := .list [Qm 0 6, Qm 4 2, Qp 3 2, Qm 0 6]
noncomputable def Tog_3_0_0_2 : PyData := .list [Qm 3 3, Qp 0 1, Qp 1 1, Qm 0 6]
noncomputable def Tog_3_0_1_n2 : PyData := .list [Qp 124 3, Qm 21 1, Qp 7 2, Qm 0 6]
noncomputable def Tog_3_0_1_n1 : PyData := .list [Qp 68 3, Qm 30 2, Qp 3 1, Qm 0 6]
noncomputable def Tog_3_0_1_0 : PyData := .list [Qp 10 1, Qm 9 1, Qp 5 2, Qm 0 6]
noncomputable def Tog_3_0_1_1 : PyData := .list [Qp 7 3, Qm 10 2, Qp 2 1, Qm 0 6]
noncomputable def Tog_3_0_1_2 : PyData := .list [Qm 3 3, Qm 1 1, Qp 3 2, Qm 0 6]
noncomputable def Tog_3_0_2_n2 : PyData := .list [Qp 190 3, Qm 28 1, Qp 4 1, Qm 0 6]
noncomputable def Tog_3_0_2_n1 : PyData := .list [Qp 229 6, Qm 42 2, Qp 7 2, Qm 0 6]
noncomputable def Tog_3_0_2_0 : PyData := .list [Qp 20 1, Qm 14 1, Qp 3 1, Qm 0 6]
noncomputable def Tog_3_0_2_1 : PyData := .list [Qp 47 6, Qm 18 2, Qp 5 2, Qm 0 6]
noncomputable def Tog_3_0_2_2 : PyData := .list [Qp 2 3, Qm 4 1, Qp 2 1, Qm 0 6]
noncomputable def Tail_3_1 : PyData := .list [.list [Qp 1 1], .list [Qp 2 1, Qm 0 1], .list [Qp 3 1, Qm 2 1, Qp 1 2], .list [Qp 4 1, Qm 5 1, Qp 2 1, Qm 0 6]]
noncomputable def Line_3_1 : PyData := .list [Qp 1 1, Qp 2 1, Qp 3 1, Qp 4 1]
noncomputable def Means_3_1 : PyData := .list [Qp 1 1, Qp 2 1, Qp 6 1, Qp 24 1, Qp 120 1, Qp 720 1, Qp 5040 1]
noncomputable def Told_3_1_0 : PyData := .list [Qp 1 1, Qp 5 1, Qp 33 2, Qp 89 2]
noncomputable def Told_3_1_1 : PyData := .list [Qp 1 1, Qp 4 1, Qp 11 1, Qp 76 3]
noncomputable def Told_3_1_2 : PyData := .list [Qp 1 1, Qp 3 1, Qp 13 2, Qp 73 6]
noncomputable def Told_3_1_3 : PyData := .list [Qp 1 1, Qp 2 1, Qp 3 1, Qp 4 1]
noncomputable def Told_3_1_4 : PyData := .list [Qp 1 1, Qp 1 1, Qp 1 2, Qm 0 6]
noncomputable def Told_3_1_5 : PyData := .list [Qp 1 1, Qp 0 1, Qm 0 1, Qm 3 3]
noncomputable def Told_3_1_6 : PyData := .list [Qp 1 1, Qm 0 1, Qm 2 2, Qm 0 2]
noncomputable def Told_3_1_7 : PyData := .list [Qp 1 1, Qp 7 2, Qp 69 8, Qp 289 16]
noncomputable def Told_3_1_8 : PyData := .list [Qp 1 1, Qp 5 2, Qp 37 8, Qp 361 48]
noncomputable def Told_3_1_9 : PyData := .list [Qp 1 1, Qp 3 2, Qp 13 8, Qp 71 48]
noncomputable def Told_3_1_10 : PyData := .list [Qp 1 1, Qp 1 2, Qm 2 8, Qm 16 16]
noncomputable def Tog_3_1_0_n2 : PyData := .list [Qp 124 3, Qm 21 1, Qp 7 2, Qm 0 6]
noncomputable def Tog_3_1_0_n1 : PyData := .list [Qp 68 3, Qm 30 2, Qp 3 1, Qm 0 6]
noncomputable def Tog_3_1_0_0 : PyData := .list [Qp 10 1, Qm 9 1, Qp 5 2, Qm 0 6]
noncomputable def Due_3_1 : PyData := Qp 4 1
noncomputable def Tog_3_1_0_1 : PyData := .list [Qp 7 3, Qm 10 2, Qp 2 1, Qm 0 6]
noncomputable def Tog_3_1_0_2 : PyData := .list [Qm 3 3, Qm 1 1, Qp 3 2, Qm 0 6]
noncomputable def Tog_3_1_1_n2 : PyData := .list [Qp 190 3, Qm 28 1, Qp 4 1, Qm 0 6]
noncomputable def Tog_3_1_1_n1 : PyData := .list [Qp 229 6, Qm 42 2, Qp 7 2, Qm 0 6]
noncomputable def Tog_3_1_1_0 : PyData := .list [Qp 20 1, Qm 14 1, Qp 3 1, Qm 0 6]
noncomputable def Tog_3_1_1_1 : PyData := .list [Qp 47 6, Qm 18 2, Qp 5 2, Qm 0 6]
noncomputable def Tog_3_1_1_2 : PyData := .list [Qp 2 3, Qm 4 1, Qp 2 1, Qm 0 6]
noncomputable def Tog_3_1_2_n2 : PyData := .list [Qp 277 3, Qm 36 1, Qp 9 2, Qm 0 6]
noncomputable def Tog_3_1_2_n1 : PyData := .list [Qp 179 3, Qm 56 2, Qp 4 1, Qm 0 6]
noncomputable def Tog_3_1_2_0 : PyData := .list [Qp 35 1, Qm 20 1, Qp 7 2, Qm 0 6]
noncomputable def Tog_3_1_2_1 : PyData := .list [Qp 52 3, Qm 28 2, Qp 3 1, Qm 0 6]
noncomputable def Tog_3_1_2_2 : PyData := .list [Qp 17 3, Qm 8 1, Qp 5 2, Qm 0 6]
noncomputable def Tail_3_2 : PyData := .list [.list [Qp 1 1], .list [Qp 3 1, Qm 0 1], .list [Qp 6 1, Qm 3 1, Qp 1 2], .list [Qp 10 1, Qm 9 1, Qp 5 2, Qm 0 6]]
noncomputable def Line_3_2 : PyData := .list [Qp 1 1, Qp 3 1, Qp 6 1, Qp 10 1]
noncomputable def Means_3_2 : PyData := .list [Qp 2 1, Qp 6 1, Qp 24 1, Qp 120 1, Qp 720 1, Qp 5040 1, Qp 40320 1]
noncomputable def Told_3_2_0 : PyData := .list [Qp 1 1, Qp 6 1, Qp 45 2, Qp 67 1]
noncomputable def Told_3_2_1 : PyData := .list [Qp 1 1, Qp 5 1, Qp 16 1, Qp 124 3]
noncomputable def Told_3_2_2 : PyData := .list [Qp 1 1, Qp 4 1, Qp 21 2, Qp 68 3]
noncomputable def Told_3_2_3 : PyData := .list [Qp 1 1, Qp 3 1, Qp 6 1, Qp 10 1]
noncomputable def Told_3_2_4 : PyData := .list [Qp 1 1, Qp 2 1, Qp 5 2, Qp 7 3]
noncomputable def Told_3_2_5 : PyData := .list [Qp 1 1, Qp 1 1, Qp 0 1, Qm 3 3]
noncomputable def Told_3_2_6 : PyData := .list [Qp 1 1, Qp 0 1, Qm 2 2, Qm 1 1]
noncomputable def Told_3_2_7 : PyData := .list [Qp 1 1, Qp 9 2, Qp 105 8, Qp 499 16]
noncomputable def Told_3_2_8 : PyData := .list [Qp 1 1, Qp 7 2, Qp 65 8, Qp 751 48]
noncomputable def Told_3_2_9 : PyData := .list [Qp 1 1, Qp 5 2, Qp 33 8, Qp 269 48]
noncomputable def Told_3_2_10 : PyData := .list [Qp 1 1, Qp 3 2, Qp 9 8, Qp 1 16]
noncomputable def Tog_3_2_0_n2 : PyData := .list [Qp 190 3, Qm 28 1, Qp 4 1, Qm 0 6]
noncomputable def Tog_3_2_0_n1 : PyData := .list [Qp 229 6, Qm 42 2, Qp 7 2, Qm 0 6]
noncomputable def Tog_3_2_0_0 : PyData := .list [Qp 20 1, Qm 14 1, Qp 3 1, Qm 0 6]
noncomputable def Due_3_2 : PyData := Qp 20 1
noncomputable def Tog_3_2_0_1 : PyData := .list [Qp 47 6, Qm 18 2, Qp 5 2, Qm 0 6]
noncomputable def Tog_3_2_0_2 : PyData := .list [Qp 2 3, Qm 4 1, Qp 2 1, Qm 0 6]
noncomputable def Tog_3_2_1_n2 : PyData := .list [Qp 277 3, Qm 36 1, Qp 9 2, Qm 0 6]
noncomputable def Tog_3_2_1_n1 : PyData := .list [Qp 179 3, Qm 56 2, Qp 4 1, Qm 0 6]
noncomputable def Tog_3_2_1_0 : PyData := .list [Qp 35 1, Qm 20 1, Qp 7 2, Qm 0 6]
noncomputable def Tog_3_2_1_1 : PyData := .list [Qp 52 3, Qm 28 2, Qp 3 1, Qm 0 6]
noncomputable def Tog_3_2_1_2 : PyData := .list [Qp 17 3, Qm 8 1, Qp 5 2, Qm 0 6]
noncomputable def Tog_3_2_2_n2 : PyData := .list [Qp 388 3, Qm 45 1, Qp 5 1, Qm 0 6]
noncomputable def Tog_3_2_2_n1 : PyData := .list [Qp 529 6, Qm 72 2, Qp 9 2, Qm 0 6]
noncomputable def Tog_3_2_2_0 : PyData := .list [Qp 56 1, Qm 27 1, Qp 4 1, Qm 0 6]
noncomputable def Tog_3_2_2_1 : PyData := .list [Qp 191 6, Qm 40 2, Qp 7 2, Qm 0 6]
noncomputable def Tog_3_2_2_2 : PyData := .list [Qp 44 3, Qm 13 1, Qp 3 1, Qm 0 6]
noncomputable def Rows_4 : PyData := .list [.list [Qp 1 1], .list [Qp 0 1, Qp 2 1], .list [Qm 1 1, Qp 0 1, Qp 4 1], .list [Qp 0 1, Qm 11 1, Qp 0 1, Qp 8 1], .list [Qp 12 1, Qp 0 1, Qm 47 1, Qp 0 1, Qp 16 1]]
noncomputable def Tail_4_0 : PyData := .list [.list [Qp 1 1], .list [Qp 1 1, Qm 0 1], .list [Qp 1 1, Qm 1 1, Qp 1 2], .list [Qp 1 1, Qm 2 1, Qp 3 2, Qm 0 6], .list [Qp 1 1, Qm 3 1, Qp 3 1, Qm 1 3, Qp 1 24]]
noncomputable def Line_4_0 : PyData := .list [Qp 1 1, Qp 1 1, Qp 1 1, Qp 1 1, Qp 1 1]
noncomputable def Means_4_0 : PyData := .list [Qp 1 1, Qp 1 1, Qp 2 1, Qp 6 1, Qp 24 1, Qp 120 1, Qp 720 1, Qp 5040 1, Qp 40320 1]
noncomputable def Told_4_0_0 : PyData := .list [Qp 1 1, Qp 4 1, Qp 23 2, Qp 28 1, Qp 491 8]
noncomputable def Told_4_0_1 : PyData := .list [Qp 1 1, Qp 3 1, Qp 7 1, Qp 43 3, Qp 27 1]
noncomputable def Told_4_0_2 : PyData := .list [Qp 1 1, Qp 2 1, Qp 7 2, Qp 17 3, Qp 209 24]
noncomputable def Told_4_0_3 : PyData := .list [Qp 1 1, Qp 1 1, Qp 1 1, Qp 1 1, Qp 1 1]
noncomputable def Told_4_0_4 : PyData := .list [Qp 1 1, Qp 0 1, Qm 0 2, Qm 1 3, Qm 4 8]
noncomputable def Told_4_0_5 : PyData := .list [Qp 1 1, Qm 0 1, Qm 0 1, Qm 0 3, Qp 1 3]
noncomputable def Told_4_0_6 : PyData := .list [Qp 1 1, Qm 1 1, Qm 0 2, Qp 1 1, Qp 11 8]
noncomputable def Told_4_0_7 : PyData := .list [Qp 1 1, Qp 5 2, Qp 41 8, Qp 151 16, Qp 2075 128]
noncomputable def Told_4_0_8 : PyData := .list [Qp 1 1, Qp 3 2, Qp 17 8, Qp 139 48, Qp 491 128]
noncomputable def Told_4_0_9 : PyData := .list [Qp 1 1, Qp 1 2, Qp 1 8, Qm 6 48, Qm 126 384]
noncomputable def Told_4_0_10 : PyData := .list [Qp 1 1, Qm 0 2, Qm 6 8, Qm 10 16, Qm 36 128]
noncomputable def Tog_4_0_0_n2 : PyData := .list [Qp 157 3, Qm 123 3, Qp 11 1, Qm 6 6, Qp 1 24]
noncomputable def Tog_4_0_0_n1 : PyData := .list [Qp 167 8, Qm 67 3, Qp 31 4, Qm 0 1, Qp 1 24]
noncomputable def Tog_4_0_0_0 : PyData := .list [Qp 5 1, Qm 9 1, Qp 5 1, Qm 4 6, Qp 1 24]
noncomputable def Due_4_0 : PyData := Qp 1 1
noncomputable def Tog_4_0_0_1 : PyData := .list [Qm 18 24, Qm 6 3, Qp 11 4, Qm 1 3, Qp 1 24]
noncomputable def Tog_4_0_0_2 : PyData := .list [Qm 0 1, Qp 4 3, Qp 1 1, Qm 0 2, Qp 1 24]
noncomputable def Tog_4_0_1_n2 : PyData := .list [Qp 281 3, Qm 189 3, Qp 29 2, Qm 3 3, Qp 1 24]
noncomputable def Tog_4_0_1_n1 : PyData := .list [Qp 1045 24, Qm 228 6, Qp 43 4, Qm 6 6, Qp 1 24]
noncomputable def Tog_4_0_1_0 : PyData := .list [Qp 15 1, Qm 19 1, Qp 15 2, Qm 0 1, Qp 1 24]
noncomputable def Tog_4_0_1_1 : PyData := .list [Qp 37 24, Qm 46 6, Qp 19 4, Qm 4 6, Qp 1 24]
noncomputable def Tog_4_0_1_2 : PyData := .list [Qm 6 3, Qm 1 3, Qp 5 2, Qm 1 3, Qp 1 24]
noncomputable def Tog_4_0_2_n2 : PyData := .list [Qp 157 1, Qm 276 3, Qp 37 2, Qm 2 2, Qp 1 24]
noncomputable def Tog_4_0_2_n1 : PyData := .list [Qp 1961 24, Qm 178 3, Qp 57 4, Qm 3 3, Qp 1 24]
noncomputable def Tog_4_0_2_0 : PyData := .list [Qp 35 1, Qm 34 1, Qp 21 2, Qm 6 6, Qp 1 24]
noncomputable def Tog_4_0_2_1 : PyData := .list [Qp 75 8, Qm 51 3, Qp 29 4, Qm 0 1, Qp 1 24]
noncomputable def Tog_4_0_2_2 : PyData := .list [Qm 4 3, Qm 16 3, Qp 9 2, Qm 4 6, Qp 1 24]
noncomputable def Tail_4_1 : PyData := .list [.list [Qp 1 1], .list [Qp 2 1, Qm 0 1], .list [Qp 3 1, Qm 2 1, Qp 1 2], .list [Qp 4 1, Qm 5 1, Qp 2 1, Qm 0 6], .list [Qp 5 1, Qm 9 1, Qp 5 1, Qm 4 6, Qp 1 24]]
noncomputable def Line_4_1 : PyData := .list [Qp 1 1, Qp 2 1, Qp 3 1, Qp 4 1, Qp 5 1]
noncomputable def Means_4_1 : PyData := .list [Qp 1 1, Qp 2 1, Qp 6 1, Qp 24 1, Qp 120 1, Qp 720 1, Qp 5040 1, Qp 40320 1, Qp 362880 1]
noncomputable def Told_4_1_0 : PyData := .list [Qp 1 1, Qp 5 1, Qp 33 2, Qp 89 2, Qp 847 8]
noncomputable def Told_4_1_1 : PyData := .list [Qp 1 1, Qp 4 1, Qp 11 1, Qp 76 3, Qp 157 3]
noncomputable def Told_4_1_2 : PyData := .list [Qp 1 1, Qp 3 1, Qp 13 2, Qp 73 6, Qp 167 8]
noncomputable def Told_4_1_3 : PyData := .list [Qp 1 1, Qp 2 1, Qp 3 1, Qp 4 1, Qp 5 1]
noncomputable def Told_4_1_4 : PyData := .list [Qp 1 1, Qp 1 1, Qp 1 2, Qm 0 6, Qm 18 24]
noncomputable def Told_4_1_5 : PyData := .list [Qp 1 1, Qp 0 1, Qm 0 1, Qm 3 3, Qm 0 1]
noncomputable def Told_4_1_6 : PyData := .list [Qp 1 1, Qm 0 1, Qm 2 2, Qm 0 2, Qp 7 8]
noncomputable def Told_4_1_7 : PyData := .list [Qp 1 1, Qp 7 2, Qp 69 8, Qp 289 16, Qp 4387 128]
noncomputable def Told_4_1_8 : PyData := .list [Qp 1 1, Qp 5 2, Qp 37 8, Qp 361 48, Qp 4361 384]
noncomputable def Told_4_1_9 : PyData := .list [Qp 1 1, Qp 3 2, Qp 13 8, Qp 71 48, Qp 147 128]
noncomputable def Told_4_1_10 : PyData := .list [Qp 1 1, Qp 1 2, Qm 2 8, Qm 16 16, Qm 172 128]
noncomputable def Tog_4_1_0_n2 : PyData := .list [Qp 281 3, Qm 189 3, Qp 29 2, Qm 3 3, Qp 1 24]
noncomputable def Tog_4_1_0_n1 : PyData := .list [Qp 1045 24, Qm 228 6, Qp 43 4, Qm 6 6, Qp 1 24]
noncomputable def Tog_4_1_0_0 : PyData := .list [Qp 15 1, Qm 19 1, Qp 15 2, Qm 0 1, Qp 1 24]
noncomputable def Due_4_1 : PyData := Qp 5 1
noncomputable def Tog_4_1_0_1 : PyData := .list [Qp 37 24, Qm 46 6, Qp 19 4, Qm 4 6, Qp 1 24]
noncomputable def Tog_4_1_0_2 : PyData := .list [Qm 6 3, Qm 1 3, Qp 5 2, Qm 1 3, Qp 1 24]
noncomputable def Tog_4_1_1_n2 : PyData := .list [Qp 157 1, Qm 276 3, Qp 37 2, Qm 2 2, Qp 1 24]
noncomputable def Tog_4_1_1_n1 : PyData := .list [Qp 1961 24, Qm 178 3, Qp 57 4, Qm 3 3, Qp 1 24]
noncomputable def Tog_4_1_1_0 : PyData := .list [Qp 35 1, Qm 34 1, Qp 21 2, Qm 6 6, Qp 1 24]
noncomputable def Tog_4_1_1_1 : PyData := .list [Qp 75 8, Qm 51 3, Qp 29 4, Qm 0 1, Qp 1 24]
noncomputable def Tog_4_1_1_2 : PyData := .list [Qm 4 3, Qm 16 3, Qp 9 2, Qm 4 6, Qp 1 24]
noncomputable def Tog_4_1_2_n2 : PyData := .list [Qp 748 3, Qm 387 3, Qp 23 1, Qm 4 3, Qp 1 24]
noncomputable def Tog_4_1_2_n1 : PyData := .list [Qp 1131 8, Qm 528 6, Qp 73 4, Qm 2 2, Qp 1 24]
noncomputable def Tog_4_1_2_0 : PyData := .list [Qp 70 1, Qm 55 1, Qp 14 1, Qm 3 3, Qp 1 24]
noncomputable def Tog_4_1_2_1 : PyData := .list [Qp 641 24, Qm 190 6, Qp 41 4, Qm 6 6, Qp 1 24]
noncomputable def Tog_4_1_2_2 : PyData := .list [Qp 4 1, Qm 43 3, Qp 7 1, Qm 0 1, Qp 1 24]
noncomputable def Tail_4_2 : PyData := .list [.list [Qp 1 1], .list [Qp 3 1, Qm 0 1], .list [Qp 6 1, Qm 3 1, Qp 1 2], .list [Qp 10 1, Qm 9 1, Qp 5 2, Qm 0 6], .list [Qp 15 1, Qm 19 1, Qp 15 2, Qm 0 1, Qp 1 24]]
noncomputable def Line_4_2 : PyData := .list [Qp 1 1, Qp 3 1, Qp 6 1, Qp 10 1, Qp 15 1]
noncomputable def Means_4_2 : PyData := .list [Qp 2 1, Qp 6 1, Qp 24 1, Qp 120 1, Qp 720 1, Qp 5040 1, Qp 40320 1, Qp 362880 1, Qp 3628800 1]
noncomputable def Told_4_2_0 : PyData := .list [Qp 1 1, Qp 6 1, Qp 45 2, Qp 67 1, Qp 1383 8]
noncomputable def Told_4_2_1 : PyData := .list [Qp 1 1, Qp 5 1, Qp 16 1, Qp 124 3, Qp 281 3]
noncomputable def Told_4_2_2 : PyData := .list [Qp 1 1, Qp 4 1, Qp 21 2, Qp 68 3, Qp 1045 24]
noncomputable def Told_4_2_3 : PyData := .list [Qp 1 1, Qp 3 1, Qp 6 1, Qp 10 1, Qp 15 1]
noncomputable def Told_4_2_4 : PyData := .list [Qp 1 1, Qp 2 1, Qp 5 2, Qp 7 3, Qp 37 24]
noncomputable def Told_4_2_5 : PyData := .list [Qp 1 1, Qp 1 1, Qp 0 1, Qm 3 3, Qm 6 3]
noncomputable def Told_4_2_6 : PyData := .list [Qp 1 1, Qp 0 1, Qm 2 2, Qm 1 1, Qm 8 8]
noncomputable def Told_4_2_7 : PyData := .list [Qp 1 1, Qp 9 2, Qp 105 8, Qp 499 16, Qp 8379 128]
noncomputable def Told_4_2_8 : PyData := .list [Qp 1 1, Qp 7 2, Qp 65 8, Qp 751 48, Qp 10369 384]
noncomputable def Told_4_2_9 : PyData := .list [Qp 1 1, Qp 5 2, Qp 33 8, Qp 269 48, Qp 2593 384]
noncomputable def Told_4_2_10 : PyData := .list [Qp 1 1, Qp 3 2, Qp 9 8, Qp 1 16, Qm 164 128]
noncomputable def Tog_4_2_0_n2 : PyData := .list [Qp 157 1, Qm 276 3, Qp 37 2, Qm 2 2, Qp 1 24]
noncomputable def Tog_4_2_0_n1 : PyData := .list [Qp 1961 24, Qm 178 3, Qp 57 4, Qm 3 3, Qp 1 24]
noncomputable def Tog_4_2_0_0 : PyData := .list [Qp 35 1, Qm 34 1, Qp 21 2, Qm 6 6, Qp 1 24]
noncomputable def Due_4_2 : PyData := Qp 30 1
noncomputable def Tog_4_2_0_1 : PyData := .list [Qp 75 8, Qm 51 3, Qp 29 4, Qm 0 1, Qp 1 24]
noncomputable def Tog_4_2_0_2 : PyData := .list [Qm 4 3, Qm 16 3, Qp 9 2, Qm 4 6, Qp 1 24]
noncomputable def Tog_4_2_1_n2 : PyData := .list [Qp 748 3, Qm 387 3, Qp 23 1, Qm 4 3, Qp 1 24]
noncomputable def Tog_4_2_1_n1 : PyData := .list [Qp 1131 8, Qm 528 6, Qp 73 4, Qm 2 2, Qp 1 24]
noncomputable def Tog_4_2_1_0 : PyData := .list [Qp 70 1, Qm 55 1, Qp 14 1, Qm 3 3, Qp 1 24]
noncomputable def Tog_4_2_1_1 : PyData := .list [Qp 641 24, Qm 190 6, Qp 41 4, Qm 6 6, Qp 1 24]
noncomputable def Tog_4_2_1_2 : PyData := .list [Qp 4 1, Qm 43 3, Qp 7 1, Qm 0 1, Qp 1 24]
noncomputable def Tog_4_2_2_n2 : PyData := .list [Qp 1136 3, Qm 525 3, Qp 28 1, Qm 10 6, Qp 1 24]
noncomputable def Tog_4_2_2_n1 : PyData := .list [Qp 5509 24, Qm 373 3, Qp 91 4, Qm 4 3, Qp 1 24]
noncomputable def Tog_4_2_2_0 : PyData := .list [Qp 126 1, Qm 83 1, Qp 18 1, Qm 2 2, Qp 1 24]
noncomputable def Tog_4_2_2_1 : PyData := .list [Qp 1405 24, Qm 156 3, Qp 55 4, Qm 3 3, Qp 1 24]
noncomputable def Tog_4_2_2_2 : PyData := .list [Qp 56 3, Qm 85 3, Qp 10 1, Qm 6 6, Qp 1 24]
noncomputable def HT_2_0 : PyData := .list [Qp 1 1, Qm 5 1, Qp 17 1]
noncomputable def HT_2_1 : PyData := .list [Qp 1 1, Qm 3 1, Qp 7 1]
noncomputable def HT_2_2 : PyData := .list [Qp 1 1, Qm 1 1, Qp 1 1]
noncomputable def HT_2_3 : PyData := .list [Qp 1 1, Qp 0 1, Qm 0 1]
noncomputable def HT_2_4 : PyData := .list [Qp 1 1, Qp 2 1, Qp 1 1]
noncomputable def HT_2_5 : PyData := .list [Qp 1 1, Qp 4 1, Qp 7 1]
noncomputable def HT_2_6 : PyData := .list [Qp 1 1, Qp 6 1, Qp 17 1]
noncomputable def HT_2_7 : PyData := .list [Qp 1 1, Qm 2 1, Qp 7 2]
noncomputable def HT_2_8 : PyData := .list [Qp 1 1, Qm 0 1, Qm 0 2]
noncomputable def HT_2_9 : PyData := .list [Qp 1 1, Qp 1 1, Qm 0 2]
noncomputable def HT_2_10 : PyData := .list [Qp 1 1, Qp 3 1, Qp 7 2]
noncomputable def HT_3_0 : PyData := .list [Qp 1 1, Qm 5 1, Qp 17 1, Qm 29 1]
noncomputable def HT_3_1 : PyData := .list [Qp 1 1, Qm 3 1, Qp 7 1, Qm 19 3]
noncomputable def HT_3_2 : PyData := .list [Qp 1 1, Qm 1 1, Qp 1 1, Qp 2 3]
noncomputable def HT_3_3 : PyData := .list [Qp 1 1, Qp 0 1, Qm 0 1, Qp 0 1]
noncomputable def HT_3_4 : PyData := .list [Qp 1 1, Qp 2 1, Qp 1 1, Qm 1 3]
noncomputable def HT_3_5 : PyData := .list [Qp 1 1, Qp 4 1, Qp 7 1, Qp 20 3]
noncomputable def HT_3_6 : PyData := .list [Qp 1 1, Qp 6 1, Qp 17 1, Qp 30 1]
noncomputable def HT_3_7 : PyData := .list [Qp 1 1, Qm 2 1, Qp 7 2, Qm 2 2]
noncomputable def HT_3_8 : PyData := .list [Qp 1 1, Qm 0 1, Qm 0 2, Qp 5 6]
noncomputable def HT_3_9 : PyData := .list [Qp 1 1, Qp 1 1, Qm 0 2, Qm 4 6]
noncomputable def HT_3_10 : PyData := .list [Qp 1 1, Qp 3 1, Qp 7 2, Qp 3 2]
noncomputable def HT_4_0 : PyData := .list [Qp 1 1, Qm 5 1, Qp 17 1, Qm 29 1, Qp 73 2]
noncomputable def HT_4_1 : PyData := .list [Qp 1 1, Qm 3 1, Qp 7 1, Qm 19 3, Qp 19 6]
noncomputable def HT_4_2 : PyData := .list [Qp 1 1, Qm 1 1, Qp 1 1, Qp 2 3, Qm 4 6]
noncomputable def HT_4_3 : PyData := .list [Qp 1 1, Qp 0 1, Qm 0 1, Qp 0 1, Qp 1 2]
noncomputable def HT_4_4 : PyData := .list [Qp 1 1, Qp 2 1, Qp 1 1, Qm 1 3, Qm 4 6]
noncomputable def HT_4_5 : PyData := .list [Qp 1 1, Qp 4 1, Qp 7 1, Qp 20 3, Qp 19 6]
noncomputable def HT_4_6 : PyData := .list [Qp 1 1, Qp 6 1, Qp 17 1, Qp 30 1, Qp 73 2]
noncomputable def HT_4_7 : PyData := .list [Qp 1 1, Qm 2 1, Qp 7 2, Qm 2 2, Qm 4 8]
noncomputable def HT_4_8 : PyData := .list [Qp 1 1, Qm 0 1, Qm 0 2, Qp 5 6, Qp 1 24]
noncomputable def HT_4_9 : PyData := .list [Qp 1 1, Qp 1 1, Qm 0 2, Qm 4 6, Qp 1 24]
noncomputable def HT_4_10 : PyData := .list [Qp 1 1, Qp 3 1, Qp 7 2, Qp 3 2, Qm 4 8]
theorem hend_2 (r t : OD) : X_hend [(J 2), r, some Rows_2, t, some (.int (.ofNat 2)), (J 2), none] = some (.ret (.bool true)) := by kernel_rfl
theorem hm_2_0 : F__law_hermite_right [(.int (.ofNat 2)), Rr0, Rows_2] = some (.bool true) := herm (told := HT_2_0) (by_ := (.int (.ofNat 2))) (by kernel_rfl) (hend_2 _ _)
theorem hm_2_1 : F__law_hermite_right [(.int (.ofNat 2)), Rr1, Rows_2] = some (.bool true) := herm (told := HT_2_1) (by_ := (.int (.ofNat 2))) (by kernel_rfl) (hend_2 _ _)
theorem hm_2_2 : F__law_hermite_right [(.int (.ofNat 2)), Rr2, Rows_2] = some (.bool true) := herm (told := HT_2_2) (by_ := (.int (.ofNat 2))) (by kernel_rfl) (hend_2 _ _)
theorem hm_2_3 : F__law_hermite_right [(.int (.ofNat 2)), Rr3, Rows_2] = some (.bool true) := herm (told := HT_2_3) (by_ := (.int (.ofNat 2))) (by kernel_rfl) (hend_2 _ _)
theorem hm_2_4 : F__law_hermite_right [(.int (.ofNat 2)), Rr4, Rows_2] = some (.bool true) := herm (told := HT_2_4) (by_ := (.int (.ofNat 2))) (by kernel_rfl) (hend_2 _ _)
theorem hm_2_5 : F__law_hermite_right [(.int (.ofNat 2)), Rr5, Rows_2] = some (.bool true) := herm (told := HT_2_5) (by_ := (.int (.ofNat 2))) (by kernel_rfl) (hend_2 _ _)
theorem hm_2_6 : F__law_hermite_right [(.int (.ofNat 2)), Rr6, Rows_2] = some (.bool true) := herm (told := HT_2_6) (by_ := (.int (.ofNat 2))) (by kernel_rfl) (hend_2 _ _)
theorem hm_2_7 : F__law_hermite_right [(.int (.ofNat 2)), Rr7, Rows_2] = some (.bool true) := herm (told := HT_2_7) (by_ := (.int (.ofNat 2))) (by kernel_rfl) (hend_2 _ _)
theorem hm_2_8 : F__law_hermite_right [(.int (.ofNat 2)), Rr8, Rows_2] = some (.bool true) := herm (told := HT_2_8) (by_ := (.int (.ofNat 2))) (by kernel_rfl) (hend_2 _ _)
theorem hm_2_9 : F__law_hermite_right [(.int (.ofNat 2)), Rr9, Rows_2] = some (.bool true) := herm (told := HT_2_9) (by_ := (.int (.ofNat 2))) (by kernel_rfl) (hend_2 _ _)
theorem hm_2_10 : F__law_hermite_right [(.int (.ofNat 2)), Rr10, Rows_2] = some (.bool true) := herm (told := HT_2_10) (by_ := (.int (.ofNat 2))) (by kernel_rfl) (hend_2 _ _)
theorem s3_2_0 : X_law_3 (S15 x0 x1 (J 2) x3 (J 0) x5 x6 none none none none none none none none) = nxt (S15 x0 x1 (J 2) x3 (J 0) x5 x6 (some Rows_2) (some Tail_2_0) none none none none none none) := by kernel_rfl
theorem s5_2_0 : X_law_5 (S15 x0 x1 (J 2) x3 (J 0) x5 x6 (some Rows_2) (some Tail_2_0) none none none none none none) = nxt (S15 x0 x1 (J 2) x3 (J 0) x5 x6 (some Rows_2) (some Tail_2_0) (some Line_2_0) none none none none none) := by kernel_rfl
theorem s6_2_0_0 : X_law_6 (S15 x0 x1 (J 2) (some Rr0) (J 0) x5 x6 (some Rows_2) (some Tail_2_0) (some Line_2_0) none none none none none) = nxt (S15 x0 x1 (J 2) (some Rr0) (J 0) x5 x6 (some Rows_2) (some Tail_2_0) (some Line_2_0) (some Told_2_0_0) (some Means_2_0) none none none) := by kernel_rfl
theorem t1_2_0_0_0 : X_t1 (S15 x0 x1 (J 2) (some Rr0) (J 0) x5 x6 x7 (some Tail_2_0) x9 (some Told_2_0_0) (some Means_2_0) x12 (J 0) x14) = some false := by kernel_rfl
theorem t1_2_0_0_1 : X_t1 (S15 x0 x1 (J 2) (some Rr0) (J 0) x5 x6 x7 (some Tail_2_0) x9 (some Told_2_0_0) (some Means_2_0) x12 (J 1) x14) = some false := by kernel_rfl
theorem t1_2_0_0_2 : X_t1 (S15 x0 x1 (J 2) (some Rr0) (J 0) x5 x6 x7 (some Tail_2_0) x9 (some Told_2_0_0) (some Means_2_0) x12 (J 2) x14) = some false := by kernel_rfl
theorem s6_2_0_1 : X_law_6 (S15 x0 x1 (J 2) (some Rr1) (J 0) x5 x6 (some Rows_2) (some Tail_2_0) (some Line_2_0) none none none none none) = nxt (S15 x0 x1 (J 2) (some Rr1) (J 0) x5 x6 (some Rows_2) (some Tail_2_0) (some Line_2_0) (some Told_2_0_1) (some Means_2_0) none none none) := by kernel_rfl
theorem t1_2_0_1_0 : X_t1 (S15 x0 x1 (J 2) (some Rr1) (J 0) x5 x6 x7 (some Tail_2_0) x9 (some Told_2_0_1) (some Means_2_0) x12 (J 0) x14) = some false := by kernel_rfl
theorem t1_2_0_1_1 : X_t1 (S15 x0 x1 (J 2) (some Rr1) (J 0) x5 x6 x7 (some Tail_2_0) x9 (some Told_2_0_1) (some Means_2_0) x12 (J 1) x14) = some false := by kernel_rfl
theorem t1_2_0_1_2 : X_t1 (S15 x0 x1 (J 2) (some Rr1) (J 0) x5 x6 x7 (some Tail_2_0) x9 (some Told_2_0_1) (some Means_2_0) x12 (J 2) x14) = some false := by kernel_rfl
theorem s6_2_0_2 : X_law_6 (S15 x0 x1 (J 2) (some Rr2) (J 0) x5 x6 (some Rows_2) (some Tail_2_0) (some Line_2_0) none none none none none) = nxt (S15 x0 x1 (J 2) (some Rr2) (J 0) x5 x6 (some Rows_2) (some Tail_2_0) (some Line_2_0) (some Told_2_0_2) (some Means_2_0) none none none) := by kernel_rfl
theorem t1_2_0_2_0 : X_t1 (S15 x0 x1 (J 2) (some Rr2) (J 0) x5 x6 x7 (some Tail_2_0) x9 (some Told_2_0_2) (some Means_2_0) x12 (J 0) x14) = some false := by kernel_rfl
theorem t1_2_0_2_1 : X_t1 (S15 x0 x1 (J 2) (some Rr2) (J 0) x5 x6 x7 (some Tail_2_0) x9 (some Told_2_0_2) (some Means_2_0) x12 (J 1) x14) = some false := by kernel_rfl
theorem t1_2_0_2_2 : X_t1 (S15 x0 x1 (J 2) (some Rr2) (J 0) x5 x6 x7 (some Tail_2_0) x9 (some Told_2_0_2) (some Means_2_0) x12 (J 2) x14) = some false := by kernel_rfl
theorem s6_2_0_3 : X_law_6 (S15 x0 x1 (J 2) (some Rr3) (J 0) x5 x6 (some Rows_2) (some Tail_2_0) (some Line_2_0) none none none none none) = nxt (S15 x0 x1 (J 2) (some Rr3) (J 0) x5 x6 (some Rows_2) (some Tail_2_0) (some Line_2_0) (some Told_2_0_3) (some Means_2_0) none none none) := by kernel_rfl
theorem t1_2_0_3_0 : X_t1 (S15 x0 x1 (J 2) (some Rr3) (J 0) x5 x6 x7 (some Tail_2_0) x9 (some Told_2_0_3) (some Means_2_0) x12 (J 0) x14) = some false := by kernel_rfl
theorem t1_2_0_3_1 : X_t1 (S15 x0 x1 (J 2) (some Rr3) (J 0) x5 x6 x7 (some Tail_2_0) x9 (some Told_2_0_3) (some Means_2_0) x12 (J 1) x14) = some false := by kernel_rfl
theorem t1_2_0_3_2 : X_t1 (S15 x0 x1 (J 2) (some Rr3) (J 0) x5 x6 x7 (some Tail_2_0) x9 (some Told_2_0_3) (some Means_2_0) x12 (J 2) x14) = some false := by kernel_rfl
theorem s6_2_0_4 : X_law_6 (S15 x0 x1 (J 2) (some Rr4) (J 0) x5 x6 (some Rows_2) (some Tail_2_0) (some Line_2_0) none none none none none) = nxt (S15 x0 x1 (J 2) (some Rr4) (J 0) x5 x6 (some Rows_2) (some Tail_2_0) (some Line_2_0) (some Told_2_0_4) (some Means_2_0) none none none) := by kernel_rfl
theorem t1_2_0_4_0 : X_t1 (S15 x0 x1 (J 2) (some Rr4) (J 0) x5 x6 x7 (some Tail_2_0) x9 (some Told_2_0_4) (some Means_2_0) x12 (J 0) x14) = some false := by kernel_rfl
theorem t1_2_0_4_1 : X_t1 (S15 x0 x1 (J 2) (some Rr4) (J 0) x5 x6 x7 (some Tail_2_0) x9 (some Told_2_0_4) (some Means_2_0) x12 (J 1) x14) = some false := by kernel_rfl
theorem t1_2_0_4_2 : X_t1 (S15 x0 x1 (J 2) (some Rr4) (J 0) x5 x6 x7 (some Tail_2_0) x9 (some Told_2_0_4) (some Means_2_0) x12 (J 2) x14) = some false := by kernel_rfl
theorem s6_2_0_5 : X_law_6 (S15 x0 x1 (J 2) (some Rr5) (J 0) x5 x6 (some Rows_2) (some Tail_2_0) (some Line_2_0) none none none none none) = nxt (S15 x0 x1 (J 2) (some Rr5) (J 0) x5 x6 (some Rows_2) (some Tail_2_0) (some Line_2_0) (some Told_2_0_5) (some Means_2_0) none none none) := by kernel_rfl
theorem t1_2_0_5_0 : X_t1 (S15 x0 x1 (J 2) (some Rr5) (J 0) x5 x6 x7 (some Tail_2_0) x9 (some Told_2_0_5) (some Means_2_0) x12 (J 0) x14) = some false := by kernel_rfl
theorem t1_2_0_5_1 : X_t1 (S15 x0 x1 (J 2) (some Rr5) (J 0) x5 x6 x7 (some Tail_2_0) x9 (some Told_2_0_5) (some Means_2_0) x12 (J 1) x14) = some false := by kernel_rfl
theorem t1_2_0_5_2 : X_t1 (S15 x0 x1 (J 2) (some Rr5) (J 0) x5 x6 x7 (some Tail_2_0) x9 (some Told_2_0_5) (some Means_2_0) x12 (J 2) x14) = some false := by kernel_rfl
theorem s6_2_0_6 : X_law_6 (S15 x0 x1 (J 2) (some Rr6) (J 0) x5 x6 (some Rows_2) (some Tail_2_0) (some Line_2_0) none none none none none) = nxt (S15 x0 x1 (J 2) (some Rr6) (J 0) x5 x6 (some Rows_2) (some Tail_2_0) (some Line_2_0) (some Told_2_0_6) (some Means_2_0) none none none) := by kernel_rfl
theorem t1_2_0_6_0 : X_t1 (S15 x0 x1 (J 2) (some Rr6) (J 0) x5 x6 x7 (some Tail_2_0) x9 (some Told_2_0_6) (some Means_2_0) x12 (J 0) x14) = some false := by kernel_rfl
theorem t1_2_0_6_1 : X_t1 (S15 x0 x1 (J 2) (some Rr6) (J 0) x5 x6 x7 (some Tail_2_0) x9 (some Told_2_0_6) (some Means_2_0) x12 (J 1) x14) = some false := by kernel_rfl
theorem t1_2_0_6_2 : X_t1 (S15 x0 x1 (J 2) (some Rr6) (J 0) x5 x6 x7 (some Tail_2_0) x9 (some Told_2_0_6) (some Means_2_0) x12 (J 2) x14) = some false := by kernel_rfl
theorem s6_2_0_7 : X_law_6 (S15 x0 x1 (J 2) (some Rr7) (J 0) x5 x6 (some Rows_2) (some Tail_2_0) (some Line_2_0) none none none none none) = nxt (S15 x0 x1 (J 2) (some Rr7) (J 0) x5 x6 (some Rows_2) (some Tail_2_0) (some Line_2_0) (some Told_2_0_7) (some Means_2_0) none none none) := by kernel_rfl
theorem t1_2_0_7_0 : X_t1 (S15 x0 x1 (J 2) (some Rr7) (J 0) x5 x6 x7 (some Tail_2_0) x9 (some Told_2_0_7) (some Means_2_0) x12 (J 0) x14) = some false := by kernel_rfl
theorem t1_2_0_7_1 : X_t1 (S15 x0 x1 (J 2) (some Rr7) (J 0) x5 x6 x7 (some Tail_2_0) x9 (some Told_2_0_7) (some Means_2_0) x12 (J 1) x14) = some false := by kernel_rfl
theorem t1_2_0_7_2 : X_t1 (S15 x0 x1 (J 2) (some Rr7) (J 0) x5 x6 x7 (some Tail_2_0) x9 (some Told_2_0_7) (some Means_2_0) x12 (J 2) x14) = some false := by kernel_rfl
theorem s6_2_0_8 : X_law_6 (S15 x0 x1 (J 2) (some Rr8) (J 0) x5 x6 (some Rows_2) (some Tail_2_0) (some Line_2_0) none none none none none) = nxt (S15 x0 x1 (J 2) (some Rr8) (J 0) x5 x6 (some Rows_2) (some Tail_2_0) (some Line_2_0) (some Told_2_0_8) (some Means_2_0) none none none) := by kernel_rfl
theorem t1_2_0_8_0 : X_t1 (S15 x0 x1 (J 2) (some Rr8) (J 0) x5 x6 x7 (some Tail_2_0) x9 (some Told_2_0_8) (some Means_2_0) x12 (J 0) x14) = some false := by kernel_rfl
theorem t1_2_0_8_1 : X_t1 (S15 x0 x1 (J 2) (some Rr8) (J 0) x5 x6 x7 (some Tail_2_0) x9 (some Told_2_0_8) (some Means_2_0) x12 (J 1) x14) = some false := by kernel_rfl
theorem t1_2_0_8_2 : X_t1 (S15 x0 x1 (J 2) (some Rr8) (J 0) x5 x6 x7 (some Tail_2_0) x9 (some Told_2_0_8) (some Means_2_0) x12 (J 2) x14) = some false := by kernel_rfl
theorem s6_2_0_9 : X_law_6 (S15 x0 x1 (J 2) (some Rr9) (J 0) x5 x6 (some Rows_2) (some Tail_2_0) (some Line_2_0) none none none none none) = nxt (S15 x0 x1 (J 2) (some Rr9) (J 0) x5 x6 (some Rows_2) (some Tail_2_0) (some Line_2_0) (some Told_2_0_9) (some Means_2_0) none none none) := by kernel_rfl
theorem t1_2_0_9_0 : X_t1 (S15 x0 x1 (J 2) (some Rr9) (J 0) x5 x6 x7 (some Tail_2_0) x9 (some Told_2_0_9) (some Means_2_0) x12 (J 0) x14) = some false := by kernel_rfl
theorem t1_2_0_9_1 : X_t1 (S15 x0 x1 (J 2) (some Rr9) (J 0) x5 x6 x7 (some Tail_2_0) x9 (some Told_2_0_9) (some Means_2_0) x12 (J 1) x14) = some false := by kernel_rfl
theorem t1_2_0_9_2 : X_t1 (S15 x0 x1 (J 2) (some Rr9) (J 0) x5 x6 x7 (some Tail_2_0) x9 (some Told_2_0_9) (some Means_2_0) x12 (J 2) x14) = some false := by kernel_rfl
theorem s6_2_0_10 : X_law_6 (S15 x0 x1 (J 2) (some Rr10) (J 0) x5 x6 (some Rows_2) (some Tail_2_0) (some Line_2_0) none none none none none) = nxt (S15 x0 x1 (J 2) (some Rr10) (J 0) x5 x6 (some Rows_2) (some Tail_2_0) (some Line_2_0) (some Told_2_0_10) (some Means_2_0) none none none) := by kernel_rfl
theorem t1_2_0_10_0 : X_t1 (S15 x0 x1 (J 2) (some Rr10) (J 0) x5 x6 x7 (some Tail_2_0) x9 (some Told_2_0_10) (some Means_2_0) x12 (J 0) x14) = some false := by kernel_rfl
theorem t1_2_0_10_1 : X_t1 (S15 x0 x1 (J 2) (some Rr10) (J 0) x5 x6 x7 (some Tail_2_0) x9 (some Told_2_0_10) (some Means_2_0) x12 (J 1) x14) = some false := by kernel_rfl
theorem t1_2_0_10_2 : X_t1 (S15 x0 x1 (J 2) (some Rr10) (J 0) x5 x6 x7 (some Tail_2_0) x9 (some Told_2_0_10) (some Means_2_0) x12 (J 2) x14) = some false := by kernel_rfl
theorem d_2_0_0 : X_l8_0 (S15 x0 x1 (J 2) x3 (J 0) x5 x6 x7 x8 x9 x10 (some Means_2_0) x12 (J 0) x14) = nxt (S15 x0 x1 (J 2) x3 (J 0) x5 x6 x7 x8 x9 x10 (some Means_2_0) x12 (J 0) (some (.tuple [.int (.ofNat 0), .int (.ofNat 1)]))) := by kernel_rfl
theorem t2_2_0_0 : X_t2 (S15 x0 x1 (J 2) x3 (J 0) x5 x6 x7 (some Tail_2_0) x9 x10 (some Means_2_0) x12 (J 0) (some (.tuple [.int (.ofNat 0), .int (.ofNat 1)]))) = some false := by kernel_rfl
theorem d_2_0_1 : X_l8_0 (S15 x0 x1 (J 2) x3 (J 0) x5 x6 x7 x8 x9 x10 (some Means_2_0) x12 (J 1) x14) = nxt (S15 x0 x1 (J 2) x3 (J 0) x5 x6 x7 x8 x9 x10 (some Means_2_0) x12 (J 1) (some (.tuple [.int (.ofNat 0), .int (.ofNat 1)]))) := by kernel_rfl
theorem t2_2_0_1 : X_t2 (S15 x0 x1 (J 2) x3 (J 0) x5 x6 x7 (some Tail_2_0) x9 x10 (some Means_2_0) x12 (J 1) (some (.tuple [.int (.ofNat 0), .int (.ofNat 1)]))) = some false := by kernel_rfl
theorem d_2_0_2 : X_l8_0 (S15 x0 x1 (J 2) x3 (J 0) x5 x6 x7 x8 x9 x10 (some Means_2_0) x12 (J 2) x14) = nxt (S15 x0 x1 (J 2) x3 (J 0) x5 x6 x7 x8 x9 x10 (some Means_2_0) x12 (J 2) (some Due_2_0)) := by kernel_rfl
theorem t2_2_0_2 : X_t2 (S15 x0 x1 (J 2) x3 (J 0) x5 x6 x7 (some Tail_2_0) x9 x10 (some Means_2_0) x12 (J 2) (some Due_2_0)) = some false := by kernel_rfl
theorem s8_2_0_0_n2 : forO 13 Lb (ksOf [0, 1, 2]) (S15 x0 x1 (J 2) x3 (J 0) (J 0) (some (.tuple [(.int (.negSucc 1)), .int (.ofNat 1)])) x7 (some Tail_2_0) x9 x10 (some Means_2_0) (some (.list [])) none none) = nxt (S15 x0 x1 (J 2) x3 (J 0) (J 0) (some (.tuple [(.int (.negSucc 1)), .int (.ofNat 1)])) x7 (some Tail_2_0) x9 x10 (some Means_2_0) (some Tog_2_0_0_n2) (J 2) (some Due_2_0)) := by kernel_rfl
theorem s9_2_0_0_n2 : X_law_9 (S15 x0 x1 (J 2) x3 (J 0) (J 0) (some (.tuple [(.int (.negSucc 1)), .int (.ofNat 1)])) x7 x8 x9 x10 x11 (some Tog_2_0_0_n2) x13 x14) = nxt (S15 x0 x1 (J 2) x3 (J 0) (J 0) (some (.tuple [(.int (.negSucc 1)), .int (.ofNat 1)])) x7 x8 x9 x10 x11 (some Tog_2_0_0_n2) x13 x14) := by kernel_rfl
theorem s8_2_0_0_n1 : forO 13 Lb (ksOf [0, 1, 2]) (S15 x0 x1 (J 2) x3 (J 0) (J 0) (some (.tuple [(.int (.negSucc 0)), .int (.ofNat 1)])) x7 (some Tail_2_0) x9 x10 (some Means_2_0) (some (.list [])) none none) = nxt (S15 x0 x1 (J 2) x3 (J 0) (J 0) (some (.tuple [(.int (.negSucc 0)), .int (.ofNat 1)])) x7 (some Tail_2_0) x9 x10 (some Means_2_0) (some Tog_2_0_0_n1) (J 2) (some Due_2_0)) := by kernel_rfl
theorem s9_2_0_0_n1 : X_law_9 (S15 x0 x1 (J 2) x3 (J 0) (J 0) (some (.tuple [(.int (.negSucc 0)), .int (.ofNat 1)])) x7 x8 x9 x10 x11 (some Tog_2_0_0_n1) x13 x14) = nxt (S15 x0 x1 (J 2) x3 (J 0) (J 0) (some (.tuple [(.int (.negSucc 0)), .int (.ofNat 1)])) x7 x8 x9 x10 x11 (some Tog_2_0_0_n1) x13 x14) := by kernel_rfl
theorem s8_2_0_0_0 : forO 13 Lb (ksOf [0, 1, 2]) (S15 x0 x1 (J 2) x3 (J 0) (J 0) (some (.tuple [(.int (.ofNat 0)), .int (.ofNat 1)])) x7 (some Tail_2_0) x9 x10 (some Means_2_0) (some (.list [])) none none) = nxt (S15 x0 x1 (J 2) x3 (J 0) (J 0) (some (.tuple [(.int (.ofNat 0)), .int (.ofNat 1)])) x7 (some Tail_2_0) x9 x10 (some Means_2_0) (some Tog_2_0_0_0) (J 2) (some Due_2_0)) := by kernel_rfl
theorem s9_2_0_0_0 : X_law_9 (S15 x0 x1 (J 2) x3 (J 0) (J 0) (some (.tuple [(.int (.ofNat 0)), .int (.ofNat 1)])) x7 x8 x9 x10 x11 (some Tog_2_0_0_0) x13 x14) = nxt (S15 x0 x1 (J 2) x3 (J 0) (J 0) (some (.tuple [(.int (.ofNat 0)), .int (.ofNat 1)])) x7 x8 x9 x10 x11 (some Tog_2_0_0_0) x13 x14) := by kernel_rfl
theorem s8_2_0_0_1 : forO 13 Lb (ksOf [0, 1, 2]) (S15 x0 x1 (J 2) x3 (J 0) (J 0) (some (.tuple [(.int (.ofNat 1)), .int (.ofNat 1)])) x7 (some Tail_2_0) x9 x10 (some Means_2_0) (some (.list [])) none none) = nxt (S15 x0 x1 (J 2) x3 (J 0) (J 0) (some (.tuple [(.int (.ofNat 1)), .int (.ofNat 1)])) x7 (some Tail_2_0) x9 x10 (some Means_2_0) (some Tog_2_0_0_1) (J 2) (some Due_2_0)) := by kernel_rfl
theorem s9_2_0_0_1 : X_law_9 (S15 x0 x1 (J 2) x3 (J 0) (J 0) (some (.tuple [(.int (.ofNat 1)), .int (.ofNat 1)])) x7 x8 x9 x10 x11 (some Tog_2_0_0_1) x13 x14) = nxt (S15 x0 x1 (J 2) x3 (J 0) (J 0) (some (.tuple [(.int (.ofNat 1)), .int (.ofNat 1)])) x7 x8 x9 x10 x11 (some Tog_2_0_0_1) x13 x14) := by kernel_rfl
theorem s8_2_0_0_2 : forO 13 Lb (ksOf [0, 1, 2]) (S15 x0 x1 (J 2) x3 (J 0) (J 0) (some (.tuple [(.int (.ofNat 2)), .int (.ofNat 1)])) x7 (some Tail_2_0) x9 x10 (some Means_2_0) (some (.list [])) none none) = nxt (S15 x0 x1 (J 2) x3 (J 0) (J 0) (some (.tuple [(.int (.ofNat 2)), .int (.ofNat 1)])) x7 (some Tail_2_0) x9 x10 (some Means_2_0) (some Tog_2_0_0_2) (J 2) (some Due_2_0)) := by kernel_rfl
theorem s9_2_0_0_2 : X_law_9 (S15 x0 x1 (J 2) x3 (J 0) (J 0) (some (.tuple [(.int (.ofNat 2)), .int (.ofNat 1)])) x7 x8 x9 x10 x11 (some Tog_2_0_0_2) x13 x14) = nxt (S15 x0 x1 (J 2) x3 (J 0) (J 0) (some (.tuple [(.int (.ofNat 2)), .int (.ofNat 1)])) x7 x8 x9 x10 x11 (some Tog_2_0_0_2) x13 x14) := by kernel_rfl
theorem s8_2_0_1_n2 : forO 13 Lb (ksOf [0, 1, 2]) (S15 x0 x1 (J 2) x3 (J 0) (J 1) (some (.tuple [(.int (.negSucc 1)), .int (.ofNat 1)])) x7 (some Tail_2_0) x9 x10 (some Means_2_0) (some (.list [])) none none) = nxt (S15 x0 x1 (J 2) x3 (J 0) (J 1) (some (.tuple [(.int (.negSucc 1)), .int (.ofNat 1)])) x7 (some Tail_2_0) x9 x10 (some Means_2_0) (some Tog_2_0_1_n2) (J 2) (some Due_2_0)) := by kernel_rfl
theorem s9_2_0_1_n2 : X_law_9 (S15 x0 x1 (J 2) x3 (J 0) (J 1) (some (.tuple [(.int (.negSucc 1)), .int (.ofNat 1)])) x7 x8 x9 x10 x11 (some Tog_2_0_1_n2) x13 x14) = nxt (S15 x0 x1 (J 2) x3 (J 0) (J 1) (some (.tuple [(.int (.negSucc 1)), .int (.ofNat 1)])) x7 x8 x9 x10 x11 (some Tog_2_0_1_n2) x13 x14) := by kernel_rfl
theorem s8_2_0_1_n1 : forO 13 Lb (ksOf [0, 1, 2]) (S15 x0 x1 (J 2) x3 (J 0) (J 1) (some (.tuple [(.int (.negSucc 0)), .int (.ofNat 1)])) x7 (some Tail_2_0) x9 x10 (some Means_2_0) (some (.list [])) none none) = nxt (S15 x0 x1 (J 2) x3 (J 0) (J 1) (some (.tuple [(.int (.negSucc 0)), .int (.ofNat 1)])) x7 (some Tail_2_0) x9 x10 (some Means_2_0) (some Tog_2_0_1_n1) (J 2) (some Due_2_0)) := by kernel_rfl
theorem s9_2_0_1_n1 : X_law_9 (S15 x0 x1 (J 2) x3 (J 0) (J 1) (some (.tuple [(.int (.negSucc 0)), .int (.ofNat 1)])) x7 x8 x9 x10 x11 (some Tog_2_0_1_n1) x13 x14) = nxt (S15 x0 x1 (J 2) x3 (J 0) (J 1) (some (.tuple [(.int (.negSucc 0)), .int (.ofNat 1)])) x7 x8 x9 x10 x11 (some Tog_2_0_1_n1) x13 x14) := by kernel_rfl
theorem s8_2_0_1_0 : forO 13 Lb (ksOf [0, 1, 2]) (S15 x0 x1 (J 2) x3 (J 0) (J 1) (some (.tuple [(.int (.ofNat 0)), .int (.ofNat 1)])) x7 (some Tail_2_0) x9 x10 (some Means_2_0) (some (.list [])) none none) = nxt (S15 x0 x1 (J 2) x3 (J 0) (J 1) (some (.tuple [(.int (.ofNat 0)), .int (.ofNat 1)])) x7 (some Tail_2_0) x9 x10 (some Means_2_0) (some Tog_2_0_1_0) (J 2) (some Due_2_0)) := by kernel_rfl
theorem s9_2_0_1_0 : X_law_9 (S15 x0 x1 (J 2) x3 (J 0) (J 1) (some (.tuple [(.int (.ofNat 0)), .int (.ofNat 1)])) x7 x8 x9 x10 x11 (some Tog_2_0_1_0) x13 x14) = nxt (S15 x0 x1 (J 2) x3 (J 0) (J 1) (some (.tuple [(.int (.ofNat 0)), .int (.ofNat 1)])) x7 x8 x9 x10 x11 (some Tog_2_0_1_0) x13 x14) := by kernel_rfl
theorem s8_2_0_1_1 : forO 13 Lb (ksOf [0, 1, 2]) (S15 x0 x1 (J 2) x3 (J 0) (J 1) (some (.tuple [(.int (.ofNat 1)), .int (.ofNat 1)])) x7 (some Tail_2_0) x9 x10 (some Means_2_0) (some (.list [])) none none) = nxt (S15 x0 x1 (J 2) x3 (J 0) (J 1) (some (.tuple [(.int (.ofNat 1)), .int (.ofNat 1)])) x7 (some Tail_2_0) x9 x10 (some Means_2_0) (some Tog_2_0_1_1) (J 2) (some Due_2_0)) := by kernel_rfl
theorem s9_2_0_1_1 : X_law_9 (S15 x0 x1 (J 2) x3 (J 0) (J 1) (some (.tuple [(.int (.ofNat 1)), .int (.ofNat 1)])) x7 x8 x9 x10 x11 (some Tog_2_0_1_1) x13 x14) = nxt (S15 x0 x1 (J 2) x3 (J 0) (J 1) (some (.tuple [(.int (.ofNat 1)), .int (.ofNat 1)])) x7 x8 x9 x10 x11 (some Tog_2_0_1_1) x13 x14) := by kernel_rfl
theorem s8_2_0_1_2 : forO 13 Lb (ksOf [0, 1, 2]) (S15 x0 x1 (J 2) x3 (J 0) (J 1) (some (.tuple [(.int (.ofNat 2)), .int (.ofNat 1)])) x7 (some Tail_2_0) x9 x10 (some Means_2_0) (some (.list [])) none none) = nxt (S15 x0 x1 (J 2) x3 (J 0) (J 1) (some (.tuple [(.int (.ofNat 2)), .int (.ofNat 1)])) x7 (some Tail_2_0) x9 x10 (some Means_2_0) (some Tog_2_0_1_2) (J 2) (some Due_2_0)) := by kernel_rfl
theorem s9_2_0_1_2 : X_law_9 (S15 x0 x1 (J 2) x3 (J 0) (J 1) (some (.tuple [(.int (.ofNat 2)), .int (.ofNat 1)])) x7 x8 x9 x10 x11 (some Tog_2_0_1_2) x13 x14) = nxt (S15 x0 x1 (J 2) x3 (J 0) (J 1) (some (.tuple [(.int (.ofNat 2)), .int (.ofNat 1)])) x7 x8 x9 x10 x11 (some Tog_2_0_1_2) x13 x14) := by kernel_rfl
theorem s8_2_0_2_n2 : forO 13 Lb (ksOf [0, 1, 2]) (S15 x0 x1 (J 2) x3 (J 0) (J 2) (some (.tuple [(.int (.negSucc 1)), .int (.ofNat 1)])) x7 (some Tail_2_0) x9 x10 (some Means_2_0) (some (.list [])) none none) = nxt (S15 x0 x1 (J 2) x3 (J 0) (J 2) (some (.tuple [(.int (.negSucc 1)), .int (.ofNat 1)])) x7 (some Tail_2_0) x9 x10 (some Means_2_0) (some Tog_2_0_2_n2) (J 2) (some Due_2_0)) := by kernel_rfl
theorem s9_2_0_2_n2 : X_law_9 (S15 x0 x1 (J 2) x3 (J 0) (J 2) (some (.tuple [(.int (.negSucc 1)), .int (.ofNat 1)])) x7 x8 x9 x10 x11 (some Tog_2_0_2_n2) x13 x14) = nxt (S15 x0 x1 (J 2) x3 (J 0) (J 2) (some (.tuple [(.int (.negSucc 1)), .int (.ofNat 1)])) x7 x8 x9 x10 x11 (some Tog_2_0_2_n2) x13 x14) := by kernel_rfl
theorem s8_2_0_2_n1 : forO 13 Lb (ksOf [0, 1, 2]) (S15 x0 x1 (J 2) x3 (J 0) (J 2) (some (.tuple [(.int (.negSucc 0)), .int (.ofNat 1)])) x7 (some Tail_2_0) x9 x10 (some Means_2_0) (some (.list [])) none none) = nxt (S15 x0 x1 (J 2) x3 (J 0) (J 2) (some (.tuple [(.int (.negSucc 0)), .int (.ofNat 1)])) x7 (some Tail_2_0) x9 x10 (some Means_2_0) (some Tog_2_0_2_n1) (J 2) (some Due_2_0)) := by kernel_rfl
theorem s9_2_0_2_n1 : X_law_9 (S15 x0 x1 (J 2) x3 (J 0) (J 2) (some (.tuple [(.int (.negSucc 0)), .int (.ofNat 1)])) x7 x8 x9 x10 x11 (some Tog_2_0_2_n1) x13 x14) = nxt (S15 x0 x1 (J 2) x3 (J 0) (J 2) (some (.tuple [(.int (.negSucc 0)), .int (.ofNat 1)])) x7 x8 x9 x10 x11 (some Tog_2_0_2_n1) x13 x14) := by kernel_rfl
theorem s8_2_0_2_0 : forO 13 Lb (ksOf [0, 1, 2]) (S15 x0 x1 (J 2) x3 (J 0) (J 2) (some (.tuple [(.int (.ofNat 0)), .int (.ofNat 1)])) x7 (some Tail_2_0) x9 x10 (some Means_2_0) (some (.list [])) none none) = nxt (S15 x0 x1 (J 2) x3 (J 0) (J 2) (some (.tuple [(.int (.ofNat 0)), .int (.ofNat 1)])) x7 (some Tail_2_0) x9 x10 (some Means_2_0) (some Tog_2_0_2_0) (J 2) (some Due_2_0)) := by kernel_rfl
theorem s9_2_0_2_0 : X_law_9 (S15 x0 x1 (J 2) x3 (J 0) (J 2) (some (.tuple [(.int (.ofNat 0)), .int (.ofNat 1)])) x7 x8 x9 x10 x11 (some Tog_2_0_2_0) x13 x14) = nxt (S15 x0 x1 (J 2) x3 (J 0) (J 2) (some (.tuple [(.int (.ofNat 0)), .int (.ofNat 1)])) x7 x8 x9 x10 x11 (some Tog_2_0_2_0) x13 x14) := by kernel_rfl
theorem s8_2_0_2_1 : forO 13 Lb (ksOf [0, 1, 2]) (S15 x0 x1 (J 2) x3 (J 0) (J 2) (some (.tuple [(.int (.ofNat 1)), .int (.ofNat 1)])) x7 (some Tail_2_0) x9 x10 (some Means_2_0) (some (.list [])) none none) = nxt (S15 x0 x1 (J 2) x3 (J 0) (J 2) (some (.tuple [(.int (.ofNat 1)), .int (.ofNat 1)])) x7 (some Tail_2_0) x9 x10 (some Means_2_0) (some Tog_2_0_2_1) (J 2) (some Due_2_0)) := by kernel_rfl
theorem s9_2_0_2_1 : X_law_9 (S15 x0 x1 (J 2) x3 (J 0) (J 2) (some (.tuple [(.int (.ofNat 1)), .int (.ofNat 1)])) x7 x8 x9 x10 x11 (some Tog_2_0_2_1) x13 x14) = nxt (S15 x0 x1 (J 2) x3 (J 0) (J 2) (some (.tuple [(.int (.ofNat 1)), .int (.ofNat 1)])) x7 x8 x9 x10 x11 (some Tog_2_0_2_1) x13 x14) := by kernel_rfl
theorem s8_2_0_2_2 : forO 13 Lb (ksOf [0, 1, 2]) (S15 x0 x1 (J 2) x3 (J 0) (J 2) (some (.tuple [(.int (.ofNat 2)), .int (.ofNat 1)])) x7 (some Tail_2_0) x9 x10 (some Means_2_0) (some (.list [])) none none) = nxt (S15 x0 x1 (J 2) x3 (J 0) (J 2) (some (.tuple [(.int (.ofNat 2)), .int (.ofNat 1)])) x7 (some Tail_2_0) x9 x10 (some Means_2_0) (some Tog_2_0_2_2) (J 2) (some Due_2_0)) := by kernel_rfl
theorem s9_2_0_2_2 : X_law_9 (S15 x0 x1 (J 2) x3 (J 0) (J 2) (some (.tuple [(.int (.ofNat 2)), .int (.ofNat 1)])) x7 x8 x9 x10 x11 (some Tog_2_0_2_2) x13 x14) = nxt (S15 x0 x1 (J 2) x3 (J 0) (J 2) (some (.tuple [(.int (.ofNat 2)), .int (.ofNat 1)])) x7 x8 x9 x10 x11 (some Tog_2_0_2_2) x13 x14) := by kernel_rfl
theorem s10_2_0 : X_end (S15 x0 x1 (J 2) x3 (J 0) x5 x6 (some Rows_2) (some Tail_2_0) x9 x10 x11 x12 x13 x14) = some (.ret (.bool true)) := by kernel_rfl
theorem s3_2_1 : X_law_3 (S15 x0 x1 (J 2) x3 (J 1) x5 x6 none none none none none none none none) = nxt (S15 x0 x1 (J 2) x3 (J 1) x5 x6 (some Rows_2) (some Tail_2_1) none none none none none none) := by kernel_rfl
theorem s5_2_1 : X_law_5 (S15 x0 x1 (J 2) x3 (J 1) x5 x6 (some Rows_2) (some Tail_2_1) none none none none none none) = nxt (S15 x0 x1 (J 2) x3 (J 1) x5 x6 (some Rows_2) (some Tail_2_1) (some Line_2_1) none none none none none) := by kernel_rfl
theorem s6_2_1_0 : X_law_6 (S15 x0 x1 (J 2) (some Rr0) (J 1) x5 x6 (some Rows_2) (some Tail_2_1) (some Line_2_1) none none none none none) = nxt (S15 x0 x1 (J 2) (some Rr0) (J 1) x5 x6 (some Rows_2) (some Tail_2_1) (some Line_2_1) (some Told_2_1_0) (some Means_2_1) none none none) := by kernel_rfl
theorem t1_2_1_0_0 : X_t1 (S15 x0 x1 (J 2) (some Rr0) (J 1) x5 x6 x7 (some Tail_2_1) x9 (some Told_2_1_0) (some Means_2_1) x12 (J 0) x14) = some false := by kernel_rfl
theorem t1_2_1_0_1 : X_t1 (S15 x0 x1 (J 2) (some Rr0) (J 1) x5 x6 x7 (some Tail_2_1) x9 (some Told_2_1_0) (some Means_2_1) x12 (J 1) x14) = some false := by kernel_rfl
theorem t1_2_1_0_2 : X_t1 (S15 x0 x1 (J 2) (some Rr0) (J 1) x5 x6 x7 (some Tail_2_1) x9 (some Told_2_1_0) (some Means_2_1) x12 (J 2) x14) = some false := by kernel_rfl
theorem s6_2_1_1 : X_law_6 (S15 x0 x1 (J 2) (some Rr1) (J 1) x5 x6 (some Rows_2) (some Tail_2_1) (some Line_2_1) none none none none none) = nxt (S15 x0 x1 (J 2) (some Rr1) (J 1) x5 x6 (some Rows_2) (some Tail_2_1) (some Line_2_1) (some Told_2_1_1) (some Means_2_1) none none none) := by kernel_rfl
theorem t1_2_1_1_0 : X_t1 (S15 x0 x1 (J 2) (some Rr1) (J 1) x5 x6 x7 (some Tail_2_1) x9 (some Told_2_1_1) (some Means_2_1) x12 (J 0) x14) = some false := by kernel_rfl
theorem t1_2_1_1_1 : X_t1 (S15 x0 x1 (J 2) (some Rr1) (J 1) x5 x6 x7 (some Tail_2_1) x9 (some Told_2_1_1) (some Means_2_1) x12 (J 1) x14) = some false := by kernel_rfl
theorem t1_2_1_1_2 : X_t1 (S15 x0 x1 (J 2) (some Rr1) (J 1) x5 x6 x7 (some Tail_2_1) x9 (some Told_2_1_1) (some Means_2_1) x12 (J 2) x14) = some false := by kernel_rfl
theorem s6_2_1_2 : X_law_6 (S15 x0 x1 (J 2) (some Rr2) (J 1) x5 x6 (some Rows_2) (some Tail_2_1) (some Line_2_1) none none none none none) = nxt (S15 x0 x1 (J 2) (some Rr2) (J 1) x5 x6 (some Rows_2) (some Tail_2_1) (some Line_2_1) (some Told_2_1_2) (some Means_2_1) none none none) := by kernel_rfl
theorem t1_2_1_2_0 : X_t1 (S15 x0 x1 (J 2) (some Rr2) (J 1) x5 x6 x7 (some Tail_2_1) x9 (some Told_2_1_2) (some Means_2_1) x12 (J 0) x14) = some false := by kernel_rfl
theorem t1_2_1_2_1 : X_t1 (S15 x0 x1 (J 2) (some Rr2) (J 1) x5 x6 x7 (some Tail_2_1) x9 (some Told_2_1_2) (some Means_2_1) x12 (J 1) x14) = some false := by kernel_rfl
theorem t1_2_1_2_2 : X_t1 (S15 x0 x1 (J 2) (some Rr2) (J 1) x5 x6 x7 (some Tail_2_1) x9 (some Told_2_1_2) (some Means_2_1) x12 (J 2) x14) = some false := by kernel_rfl
theorem s6_2_1_3 : X_law_6 (S15 x0 x1 (J 2) (some Rr3) (J 1) x5 x6 (some Rows_2) (some Tail_2_1) (some Line_2_1) none none none none none) = nxt (S15 x0 x1 (J 2) (some Rr3) (J 1) x5 x6 (some Rows_2) (some Tail_2_1) (some Line_2_1) (some Told_2_1_3) (some Means_2_1) none none none) := by kernel_rfl
theorem t1_2_1_3_0 : X_t1 (S15 x0 x1 (J 2) (some Rr3) (J 1) x5 x6 x7 (some Tail_2_1) x9 (some Told_2_1_3) (some Means_2_1) x12 (J 0) x14) = some false := by kernel_rfl
theorem t1_2_1_3_1 : X_t1 (S15 x0 x1 (J 2) (some Rr3) (J 1) x5 x6 x7 (some Tail_2_1) x9 (some Told_2_1_3) (some Means_2_1) x12 (J 1) x14) = some false := by kernel_rfl
theorem t1_2_1_3_2 : X_t1 (S15 x0 x1 (J 2) (some Rr3) (J 1) x5 x6 x7 (some Tail_2_1) x9 (some Told_2_1_3) (some Means_2_1) x12 (J 2) x14) = some false := by kernel_rfl
theorem s6_2_1_4 : X_law_6 (S15 x0 x1 (J 2) (some Rr4) (J 1) x5 x6 (some Rows_2) (some Tail_2_1) (some Line_2_1) none none none none none) = nxt (S15 x0 x1 (J 2) (some Rr4) (J 1) x5 x6 (some Rows_2) (some Tail_2_1) (some Line_2_1) (some Told_2_1_4) (some Means_2_1) none none none) := by kernel_rfl
theorem t1_2_1_4_0 : X_t1 (S15 x0 x1 (J 2) (some Rr4) (J 1) x5 x6 x7 (some Tail_2_1) x9 (some Told_2_1_4) (some Means_2_1) x12 (J 0) x14) = some false := by kernel_rfl
theorem t1_2_1_4_1 : X_t1 (S15 x0 x1 (J 2) (some Rr4) (J 1) x5 x6 x7 (some Tail_2_1) x9 (some Told_2_1_4) (some Means_2_1) x12 (J 1) x14) = some false := by kernel_rfl
theorem t1_2_1_4_2 : X_t1 (S15 x0 x1 (J 2) (some Rr4) (J 1) x5 x6 x7 (some Tail_2_1) x9 (some Told_2_1_4) (some Means_2_1) x12 (J 2) x14) = some false := by kernel_rfl
theorem s6_2_1_5 : X_law_6 (S15 x0 x1 (J 2) (some Rr5) (J 1) x5 x6 (some Rows_2) (some Tail_2_1) (some Line_2_1) none none none none none) = nxt (S15 x0 x1 (J 2) (some Rr5) (J 1) x5 x6 (some Rows_2) (some Tail_2_1) (some Line_2_1) (some Told_2_1_5) (some Means_2_1) none none none) := by kernel_rfl
theorem t1_2_1_5_0 : X_t1 (S15 x0 x1 (J 2) (some Rr5) (J 1) x5 x6 x7 (some Tail_2_1) x9 (some Told_2_1_5) (some Means_2_1) x12 (J 0) x14) = some false := by kernel_rfl
theorem t1_2_1_5_1 : X_t1 (S15 x0 x1 (J 2) (some Rr5) (J 1) x5 x6 x7 (some Tail_2_1) x9 (some Told_2_1_5) (some Means_2_1) x12 (J 1) x14) = some false := by kernel_rfl
theorem t1_2_1_5_2 : X_t1 (S15 x0 x1 (J 2) (some Rr5) (J 1) x5 x6 x7 (some Tail_2_1) x9 (some Told_2_1_5) (some Means_2_1) x12 (J 2) x14) = some false := by kernel_rfl
theorem s6_2_1_6 : X_law_6 (S15 x0 x1 (J 2) (some Rr6) (J 1) x5 x6 (some Rows_2) (some Tail_2_1) (some Line_2_1) none none none none none) = nxt (S15 x0 x1 (J 2) (some Rr6) (J 1) x5 x6 (some Rows_2) (some Tail_2_1) (some Line_2_1) (some Told_2_1_6) (some Means_2_1) none none none) := by kernel_rfl
theorem t1_2_1_6_0 : X_t1 (S15 x0 x1 (J 2) (some Rr6) (J 1) x5 x6 x7 (some Tail_2_1) x9 (some Told_2_1_6) (some Means_2_1) x12 (J 0) x14) = some false := by kernel_rfl
theorem t1_2_1_6_1 : X_t1 (S15 x0 x1 (J 2) (some Rr6) (J 1) x5 x6 x7 (some Tail_2_1) x9 (some Told_2_1_6) (some Means_2_1) x12 (J 1) x14) = some false := by kernel_rfl
theorem t1_2_1_6_2 : X_t1 (S15 x0 x1 (J 2) (some Rr6) (J 1) x5 x6 x7 (some Tail_2_1) x9 (some Told_2_1_6) (some Means_2_1) x12 (J 2) x14) = some false := by kernel_rfl
theorem s6_2_1_7 : X_law_6 (S15 x0 x1 (J 2) (some Rr7) (J 1) x5 x6 (some Rows_2) (some Tail_2_1) (some Line_2_1) none none none none none) = nxt (S15 x0 x1 (J 2) (some Rr7) (J 1) x5 x6 (some Rows_2) (some Tail_2_1) (some Line_2_1) (some Told_2_1_7) (some Means_2_1) none none none) := by kernel_rfl
theorem t1_2_1_7_0 : X_t1 (S15 x0 x1 (J 2) (some Rr7) (J 1) x5 x6 x7 (some Tail_2_1) x9 (some Told_2_1_7) (some Means_2_1) x12 (J 0) x14) = some false := by kernel_rfl
theorem t1_2_1_7_1 : X_t1 (S15 x0 x1 (J 2) (some Rr7) (J 1) x5 x6 x7 (some Tail_2_1) x9 (some Told_2_1_7) (some Means_2_1) x12 (J 1) x14) = some false := by kernel_rfl
theorem t1_2_1_7_2 : X_t1 (S15 x0 x1 (J 2) (some Rr7) (J 1) x5 x6 x7 (some Tail_2_1) x9 (some Told_2_1_7) (some Means_2_1) x12 (J 2) x14) = some false := by kernel_rfl
theorem s6_2_1_8 : X_law_6 (S15 x0 x1 (J 2) (some Rr8) (J 1) x5 x6 (some Rows_2) (some Tail_2_1) (some Line_2_1) none none none none none) = nxt (S15 x0 x1 (J 2) (some Rr8) (J 1) x5 x6 (some Rows_2) (some Tail_2_1) (some Line_2_1) (some Told_2_1_8) (some Means_2_1) none none none) := by kernel_rfl
theorem t1_2_1_8_0 : X_t1 (S15 x0 x1 (J 2) (some Rr8) (J 1) x5 x6 x7 (some Tail_2_1) x9 (some Told_2_1_8) (some Means_2_1) x12 (J 0) x14) = some false := by kernel_rfl
theorem t1_2_1_8_1 : X_t1 (S15 x0 x1 (J 2) (some Rr8) (J 1) x5 x6 x7 (some Tail_2_1) x9 (some Told_2_1_8) (some Means_2_1) x12 (J 1) x14) = some false := by kernel_rfl
theorem t1_2_1_8_2 : X_t1 (S15 x0 x1 (J 2) (some Rr8) (J 1) x5 x6 x7 (some Tail_2_1) x9 (some Told_2_1_8) (some Means_2_1) x12 (J 2) x14) = some false := by kernel_rfl
theorem s6_2_1_9 : X_law_6 (S15 x0 x1 (J 2) (some Rr9) (J 1) x5 x6 (some Rows_2) (some Tail_2_1) (some Line_2_1) none none none none none) = nxt (S15 x0 x1 (J 2) (some Rr9) (J 1) x5 x6 (some Rows_2) (some Tail_2_1) (some Line_2_1) (some Told_2_1_9) (some Means_2_1) none none none) := by kernel_rfl
theorem t1_2_1_9_0 : X_t1 (S15 x0 x1 (J 2) (some Rr9) (J 1) x5 x6 x7 (some Tail_2_1) x9 (some Told_2_1_9) (some Means_2_1) x12 (J 0) x14) = some false := by kernel_rfl
theorem t1_2_1_9_1 : X_t1 (S15 x0 x1 (J 2) (some Rr9) (J 1) x5 x6 x7 (some Tail_2_1) x9 (some Told_2_1_9) (some Means_2_1) x12 (J 1) x14) = some false := by kernel_rfl
theorem t1_2_1_9_2 : X_t1 (S15 x0 x1 (J 2) (some Rr9) (J 1) x5 x6 x7 (some Tail_2_1) x9 (some Told_2_1_9) (some Means_2_1) x12 (J 2) x14) = some false := by kernel_rfl
theorem s6_2_1_10 : X_law_6 (S15 x0 x1 (J 2) (some Rr10) (J 1) x5 x6 (some Rows_2) (some Tail_2_1) (some Line_2_1) none none none none none) = nxt (S15 x0 x1 (J 2) (some Rr10) (J 1) x5 x6 (some Rows_2) (some Tail_2_1) (some Line_2_1) (some Told_2_1_10) (some Means_2_1) none none none) := by kernel_rfl
theorem t1_2_1_10_0 : X_t1 (S15 x0 x1 (J 2) (some Rr10) (J 1) x5 x6 x7 (some Tail_2_1) x9 (some Told_2_1_10) (some Means_2_1) x12 (J 0) x14) = some false := by kernel_rfl
theorem t1_2_1_10_1 : X_t1 (S15 x0 x1 (J 2) (some Rr10) (J 1) x5 x6 x7 (some Tail_2_1) x9 (some Told_2_1_10) (some Means_2_1) x12 (J 1) x14) = some false := by kernel_rfl
theorem t1_2_1_10_2 : X_t1 (S15 x0 x1 (J 2) (some Rr10) (J 1) x5 x6 x7 (some Tail_2_1) x9 (some Told_2_1_10) (some Means_2_1) x12 (J 2) x14) = some false := by kernel_rfl
theorem d_2_1_0 : X_l8_0 (S15 x0 x1 (J 2) x3 (J 1) x5 x6 x7 x8 x9 x10 (some Means_2_1) x12 (J 0) x14) = nxt (S15 x0 x1 (J 2) x3 (J 1) x5 x6 x7 x8 x9 x10 (some Means_2_1) x12 (J 0) (some (.tuple [.int (.ofNat 0), .int (.ofNat 1)]))) := by kernel_rfl
theorem t2_2_1_0 : X_t2 (S15 x0 x1 (J 2) x3 (J 1) x5 x6 x7 (some Tail_2_1) x9 x10 (some Means_2_1) x12 (J 0) (some (.tuple [.int (.ofNat 0), .int (.ofNat 1)]))) = some false := by kernel_rfl
theorem d_2_1_1 : X_l8_0 (S15 x0 x1 (J 2) x3 (J 1) x5 x6 x7 x8 x9 x10 (some Means_2_1) x12 (J 1) x14) = nxt (S15 x0 x1 (J 2) x3 (J 1) x5 x6 x7 x8 x9 x10 (some Means_2_1) x12 (J 1) (some (.tuple [.int (.ofNat 0), .int (.ofNat 1)]))) := by kernel_rfl
theorem t2_2_1_1 : X_t2 (S15 x0 x1 (J 2) x3 (J 1) x5 x6 x7 (some Tail_2_1) x9 x10 (some Means_2_1) x12 (J 1) (some (.tuple [.int (.ofNat 0), .int (.ofNat 1)]))) = some false := by kernel_rfl
theorem d_2_1_2 : X_l8_0 (S15 x0 x1 (J 2) x3 (J 1) x5 x6 x7 x8 x9 x10 (some Means_2_1) x12 (J 2) x14) = nxt (S15 x0 x1 (J 2) x3 (J 1) x5 x6 x7 x8 x9 x10 (some Means_2_1) x12 (J 2) (some Due_2_1)) := by kernel_rfl
theorem t2_2_1_2 : X_t2 (S15 x0 x1 (J 2) x3 (J 1) x5 x6 x7 (some Tail_2_1) x9 x10 (some Means_2_1) x12 (J 2) (some Due_2_1)) = some false := by kernel_rfl
theorem s8_2_1_0_n2 : forO 13 Lb (ksOf [0, 1, 2]) (S15 x0 x1 (J 2) x3 (J 1) (J 0) (some (.tuple [(.int (.negSucc 1)), .int (.ofNat 1)])) x7 (some Tail_2_1) x9 x10 (some Means_2_1) (some (.list [])) none none) = nxt (S15 x0 x1 (J 2) x3 (J 1) (J 0) (some (.tuple [(.int (.negSucc 1)), .int (.ofNat 1)])) x7 (some Tail_2_1) x9 x10 (some Means_2_1) (some Tog_2_1_0_n2) (J 2) (some Due_2_1)) := by kernel_rfl
theorem s9_2_1_0_n2 : X_law_9 (S15 x0 x1 (J 2) x3 (J 1) (J 0) (some (.tuple [(.int (.negSucc 1)), .int (.ofNat 1)])) x7 x8 x9 x10 x11 (some Tog_2_1_0_n2) x13 x14) = nxt (S15 x0 x1 (J 2) x3 (J 1) (J 0) (some (.tuple [(.int (.negSucc 1)), .int (.ofNat 1)])) x7 x8 x9 x10 x11 (some Tog_2_1_0_n2) x13 x14) := by kernel_rfl
theorem s8_2_1_0_n1 : forO 13 Lb (ksOf [0, 1, 2]) (S15 x0 x1 (J 2) x3 (J 1) (J 0) (some (.tuple [(.int (.negSucc 0)), .int (.ofNat 1)])) x7 (some Tail_2_1) x9 x10 (some Means_2_1) (some (.list [])) none none) = nxt (S15 x0 x1 (J 2) x3 (J 1) (J 0) (some (.tuple [(.int (.negSucc 0)), .int (.ofNat 1)])) x7 (some Tail_2_1) x9 x10 (some Means_2_1) (some Tog_2_1_0_n1) (J 2) (some Due_2_1)) := by kernel_rfl
theorem s9_2_1_0_n1 : X_law_9 (S15 x0 x1 (J 2) x3 (J 1) (J 0) (some (.tuple [(.int (.negSucc 0)), .int (.ofNat 1)])) x7 x8 x9 x10 x11 (some Tog_2_1_0_n1) x13 x14) = nxt (S15 x0 x1 (J 2) x3 (J 1) (J 0) (some (.tuple [(.int (.negSucc 0)), .int (.ofNat 1)])) x7 x8 x9 x10 x11 (some Tog_2_1_0_n1) x13 x14) := by kernel_rfl
theorem s8_2_1_0_0 : forO 13 Lb (ksOf [0, 1, 2]) (S15 x0 x1 (J 2) x3 (J 1) (J 0) (some (.tuple [(.int (.ofNat 0)), .int (.ofNat 1)])) x7 (some Tail_2_1) x9 x10 (some Means_2_1) (some (.list [])) none none) = nxt (S15 x0 x1 (J 2) x3 (J 1) (J 0) (some (.tuple [(.int (.ofNat 0)), .int (.ofNat 1)])) x7 (some Tail_2_1) x9 x10 (some Means_2_1) (some Tog_2_1_0_0) (J 2) (some Due_2_1)) := by kernel_rfl
theorem s9_2_1_0_0 : X_law_9 (S15 x0 x1 (J 2) x3 (J 1) (J 0) (some (.tuple [(.int (.ofNat 0)), .int (.ofNat 1)])) x7 x8 x9 x10 x11 (some Tog_2_1_0_0) x13 x14) = nxt (S15 x0 x1 (J 2) x3 (J 1) (J 0) (some (.tuple [(.int (.ofNat 0)), .int (.ofNat 1)])) x7 x8 x9 x10 x11 (some Tog_2_1_0_0) x13 x14) := by kernel_rfl
theorem s8_2_1_0_1 : forO 13 Lb (ksOf [0, 1, 2]) (S15 x0 x1 (J 2) x3 (J 1) (J 0) (some (.tuple [(.int (.ofNat 1)), .int (.ofNat 1)])) x7 (some Tail_2_1) x9 x10 (some Means_2_1) (some (.list [])) none none) = nxt (S15 x0 x1 (J 2) x3 (J 1) (J 0) (some (.tuple [(.int (.ofNat 1)), .int (.ofNat 1)])) x7 (some Tail_2_1) x9 x10 (some Means_2_1) (some Tog_2_1_0_1) (J 2) (some Due_2_1)) := by kernel_rfl
theorem s9_2_1_0_1 : X_law_9 (S15 x0 x1 (J 2) x3 (J 1) (J 0) (some (.tuple [(.int (.ofNat 1)), .int (.ofNat 1)])) x7 x8 x9 x10 x11 (some Tog_2_1_0_1) x13 x14) = nxt (S15 x0 x1 (J 2) x3 (J 1) (J 0) (some (.tuple [(.int (.ofNat 1)), .int (.ofNat 1)])) x7 x8 x9 x10 x11 (some Tog_2_1_0_1) x13 x14) := by kernel_rfl
theorem s8_2_1_0_2 : forO 13 Lb (ksOf [0, 1, 2]) (S15 x0 x1 (J 2) x3 (J 1) (J 0) (some (.tuple [(.int (.ofNat 2)), .int (.ofNat 1)])) x7 (some Tail_2_1) x9 x10 (some Means_2_1) (some (.list [])) none none) = nxt (S15 x0 x1 (J 2) x3 (J 1) (J 0) (some (.tuple [(.int (.ofNat 2)), .int (.ofNat 1)])) x7 (some Tail_2_1) x9 x10 (some Means_2_1) (some Tog_2_1_0_2) (J 2) (some Due_2_1)) := by kernel_rfl
theorem s9_2_1_0_2 : X_law_9 (S15 x0 x1 (J 2) x3 (J 1) (J 0) (some (.tuple [(.int (.ofNat 2)), .int (.ofNat 1)])) x7 x8 x9 x10 x11 (some Tog_2_1_0_2) x13 x14) = nxt (S15 x0 x1 (J 2) x3 (J 1) (J 0) (some (.tuple [(.int (.ofNat 2)), .int (.ofNat 1)])) x7 x8 x9 x10 x11 (some Tog_2_1_0_2) x13 x14) := by kernel_rfl
theorem s8_2_1_1_n2 : forO 13 Lb (ksOf [0, 1, 2]) (S15 x0 x1 (J 2) x3 (J 1) (J 1) (some (.tuple [(.int (.negSucc 1)), .int (.ofNat 1)])) x7 (some Tail_2_1) x9 x10 (some Means_2_1) (some (.list [])) none none) = nxt (S15 x0 x1 (J 2) x3 (J 1) (J 1) (some (.tuple [(.int (.negSucc 1)), .int (.ofNat 1)])) x7 (some Tail_2_1) x9 x10 (some Means_2_1) (some Tog_2_1_1_n2) (J 2) (some Due_2_1)) := by kernel_rfl
theorem s9_2_1_1_n2 : X_law_9 (S15 x0 x1 (J 2) x3 (J 1) (J 1) (some (.tuple [(.int (.negSucc 1)), .int (.ofNat 1)])) x7 x8 x9 x10 x11 (some Tog_2_1_1_n2) x13 x14) = nxt (S15 x0 x1 (J 2) x3 (J 1) (J 1) (some (.tuple [(.int (.negSucc 1)), .int (.ofNat 1)])) x7 x8 x9 x10 x11 (some Tog_2_1_1_n2) x13 x14) := by kernel_rfl
theorem s8_2_1_1_n1 : forO 13 Lb (ksOf [0, 1, 2]) (S15 x0 x1 (J 2) x3 (J 1) (J 1) (some (.tuple [(.int (.negSucc 0)), .int (.ofNat 1)])) x7 (some Tail_2_1) x9 x10 (some Means_2_1) (some (.list [])) none none) = nxt (S15 x0 x1 (J 2) x3 (J 1) (J 1) (some (.tuple [(.int (.negSucc 0)), .int (.ofNat 1)])) x7 (some Tail_2_1) x9 x10 (some Means_2_1) (some Tog_2_1_1_n1) (J 2) (some Due_2_1)) := by kernel_rfl
theorem s9_2_1_1_n1 : X_law_9 (S15 x0 x1 (J 2) x3 (J 1) (J 1) (some (.tuple [(.int (.negSucc 0)), .int (.ofNat 1)])) x7 x8 x9 x10 x11 (some Tog_2_1_1_n1) x13 x14) = nxt (S15 x0 x1 (J 2) x3 (J 1) (J 1) (some (.tuple [(.int (.negSucc 0)), .int (.ofNat 1)])) x7 x8 x9 x10 x11 (some Tog_2_1_1_n1) x13 x14) := by kernel_rfl
theorem s8_2_1_1_0 : forO 13 Lb (ksOf [0, 1, 2]) (S15 x0 x1 (J 2) x3 (J 1) (J 1) (some (.tuple [(.int (.ofNat 0)), .int (.ofNat 1)])) x7 (some Tail_2_1) x9 x10 (some Means_2_1) (some (.list [])) none none) = nxt (S15 x0 x1 (J 2) x3 (J 1) (J 1) (some (.tuple [(.int (.ofNat 0)), .int (.ofNat 1)])) x7 (some Tail_2_1) x9 x10 (some Means_2_1) (some Tog_2_1_1_0) (J 2) (some Due_2_1)) := by kernel_rfl
theorem s9_2_1_1_0 : X_law_9 (S15 x0 x1 (J 2) x3 (J 1) (J 1) (some (.tuple [(.int (.ofNat 0)), .int (.ofNat 1)])) x7 x8 x9 x10 x11 (some Tog_2_1_1_0) x13 x14) = nxt (S15 x0 x1 (J 2) x3 (J 1) (J 1) (some (.tuple [(.int (.ofNat 0)), .int (.ofNat 1)])) x7 x8 x9 x10 x11 (some Tog_2_1_1_0) x13 x14) := by kernel_rfl
theorem s8_2_1_1_1 : forO 13 Lb (ksOf [0, 1, 2]) (S15 x0 x1 (J 2) x3 (J 1) (J 1) (some (.tuple [(.int (.ofNat 1)), .int (.ofNat 1)])) x7 (some Tail_2_1) x9 x10 (some Means_2_1) (some (.list [])) none none) = nxt (S15 x0 x1 (J 2) x3 (J 1) (J 1) (some (.tuple [(.int (.ofNat 1)), .int (.ofNat 1)])) x7 (some Tail_2_1) x9 x10 (some Means_2_1) (some Tog_2_1_1_1) (J 2) (some Due_2_1)) := by kernel_rfl
theorem s9_2_1_1_1 : X_law_9 (S15 x0 x1 (J 2) x3 (J 1) (J 1) (some (.tuple [(.int (.ofNat 1)), .int (.ofNat 1)])) x7 x8 x9 x10 x11 (some Tog_2_1_1_1) x13 x14) = nxt (S15 x0 x1 (J 2) x3 (J 1) (J 1) (some (.tuple [(.int (.ofNat 1)), .int (.ofNat 1)])) x7 x8 x9 x10 x11 (some Tog_2_1_1_1) x13 x14) := by kernel_rfl
theorem s8_2_1_1_2 : forO 13 Lb (ksOf [0, 1, 2]) (S15 x0 x1 (J 2) x3 (J 1) (J 1) (some (.tuple [(.int (.ofNat 2)), .int (.ofNat 1)])) x7 (some Tail_2_1) x9 x10 (some Means_2_1) (some (.list [])) none none) = nxt (S15 x0 x1 (J 2) x3 (J 1) (J 1) (some (.tuple [(.int (.ofNat 2)), .int (.ofNat 1)])) x7 (some Tail_2_1) x9 x10 (some Means_2_1) (some Tog_2_1_1_2) (J 2) (some Due_2_1)) := by kernel_rfl
theorem s9_2_1_1_2 : X_law_9 (S15 x0 x1 (J 2) x3 (J 1) (J 1) (some (.tuple [(.int (.ofNat 2)), .int (.ofNat 1)])) x7 x8 x9 x10 x11 (some Tog_2_1_1_2) x13 x14) = nxt (S15 x0 x1 (J 2) x3 (J 1) (J 1) (some (.tuple [(.int (.ofNat 2)), .int (.ofNat 1)])) x7 x8 x9 x10 x11 (some Tog_2_1_1_2) x13 x14) := by kernel_rfl
theorem s8_2_1_2_n2 : forO 13 Lb (ksOf [0, 1, 2]) (S15 x0 x1 (J 2) x3 (J 1) (J 2) (some (.tuple [(.int (.negSucc 1)), .int (.ofNat 1)])) x7 (some Tail_2_1) x9 x10 (some Means_2_1) (some (.list [])) none none) = nxt (S15 x0 x1 (J 2) x3 (J 1) (J 2) (some (.tuple [(.int (.negSucc 1)), .int (.ofNat 1)])) x7 (some Tail_2_1) x9 x10 (some Means_2_1) (some Tog_2_1_2_n2) (J 2) (some Due_2_1)) := by kernel_rfl
theorem s9_2_1_2_n2 : X_law_9 (S15 x0 x1 (J 2) x3 (J 1) (J 2) (some (.tuple [(.int (.negSucc 1)), .int (.ofNat 1)])) x7 x8 x9 x10 x11 (some Tog_2_1_2_n2) x13 x14) = nxt (S15 x0 x1 (J 2) x3 (J 1) (J 2) (some (.tuple [(.int (.negSucc 1)), .int (.ofNat 1)])) x7 x8 x9 x10 x11 (some Tog_2_1_2_n2) x13 x14) := by kernel_rfl
theorem s8_2_1_2_n1 : forO 13 Lb (ksOf [0, 1, 2]) (S15 x0 x1 (J 2) x3 (J 1) (J 2) (some (.tuple [(.int (.negSucc 0)), .int (.ofNat 1)])) x7 (some Tail_2_1) x9 x10 (some Means_2_1) (some (.list [])) none none) = nxt (S15 x0 x1 (J 2) x3 (J 1) (J 2) (some (.tuple [(.int (.negSucc 0)), .int (.ofNat 1)])) x7 (some Tail_2_1) x9 x10 (some Means_2_1) (some Tog_2_1_2_n1) (J 2) (some Due_2_1)) := by kernel_rfl
theorem s9_2_1_2_n1 : X_law_9 (S15 x0 x1 (J 2) x3 (J 1) (J 2) (some (.tuple [(.int (.negSucc 0)), .int (.ofNat 1)])) x7 x8 x9 x10 x11 (some Tog_2_1_2_n1) x13 x14) = nxt (S15 x0 x1 (J 2) x3 (J 1) (J 2) (some (.tuple [(.int (.negSucc 0)), .int (.ofNat 1)])) x7 x8 x9 x10 x11 (some Tog_2_1_2_n1) x13 x14) := by kernel_rfl
theorem s8_2_1_2_0 : forO 13 Lb (ksOf [0, 1, 2]) (S15 x0 x1 (J 2) x3 (J 1) (J 2) (some (.tuple [(.int (.ofNat 0)), .int (.ofNat 1)])) x7 (some Tail_2_1) x9 x10 (some Means_2_1) (some (.list [])) none none) = nxt (S15 x0 x1 (J 2) x3 (J 1) (J 2) (some (.tuple [(.int (.ofNat 0)), .int (.ofNat 1)])) x7 (some Tail_2_1) x9 x10 (some Means_2_1) (some Tog_2_1_2_0) (J 2) (some Due_2_1)) := by kernel_rfl
theorem s9_2_1_2_0 : X_law_9 (S15 x0 x1 (J 2) x3 (J 1) (J 2) (some (.tuple [(.int (.ofNat 0)), .int (.ofNat 1)])) x7 x8 x9 x10 x11 (some Tog_2_1_2_0) x13 x14) = nxt (S15 x0 x1 (J 2) x3 (J 1) (J 2) (some (.tuple [(.int (.ofNat 0)), .int (.ofNat 1)])) x7 x8 x9 x10 x11 (some Tog_2_1_2_0) x13 x14) := by kernel_rfl
theorem s8_2_1_2_1 : forO 13 Lb (ksOf [0, 1, 2]) (S15 x0 x1 (J 2) x3 (J 1) (J 2) (some (.tuple [(.int (.ofNat 1)), .int (.ofNat 1)])) x7 (some Tail_2_1) x9 x10 (some Means_2_1) (some (.list [])) none none) = nxt (S15 x0 x1 (J 2) x3 (J 1) (J 2) (some (.tuple [(.int (.ofNat 1)), .int (.ofNat 1)])) x7 (some Tail_2_1) x9 x10 (some Means_2_1) (some Tog_2_1_2_1) (J 2) (some Due_2_1)) := by kernel_rfl
theorem s9_2_1_2_1 : X_law_9 (S15 x0 x1 (J 2) x3 (J 1) (J 2) (some (.tuple [(.int (.ofNat 1)), .int (.ofNat 1)])) x7 x8 x9 x10 x11 (some Tog_2_1_2_1) x13 x14) = nxt (S15 x0 x1 (J 2) x3 (J 1) (J 2) (some (.tuple [(.int (.ofNat 1)), .int (.ofNat 1)])) x7 x8 x9 x10 x11 (some Tog_2_1_2_1) x13 x14) := by kernel_rfl
theorem s8_2_1_2_2 : forO 13 Lb (ksOf [0, 1, 2]) (S15 x0 x1 (J 2) x3 (J 1) (J 2) (some (.tuple [(.int (.ofNat 2)), .int (.ofNat 1)])) x7 (some Tail_2_1) x9 x10 (some Means_2_1) (some (.list [])) none none) = nxt (S15 x0 x1 (J 2) x3 (J 1) (J 2) (some (.tuple [(.int (.ofNat 2)), .int (.ofNat 1)])) x7 (some Tail_2_1) x9 x10 (some Means_2_1) (some Tog_2_1_2_2) (J 2) (some Due_2_1)) := by kernel_rfl
theorem s9_2_1_2_2 : X_law_9 (S15 x0 x1 (J 2) x3 (J 1) (J 2) (some (.tuple [(.int (.ofNat 2)), .int (.ofNat 1)])) x7 x8 x9 x10 x11 (some Tog_2_1_2_2) x13 x14) = nxt (S15 x0 x1 (J 2) x3 (J 1) (J 2) (some (.tuple [(.int (.ofNat 2)), .int (.ofNat 1)])) x7 x8 x9 x10 x11 (some Tog_2_1_2_2) x13 x14) := by kernel_rfl
theorem s10_2_1 : X_end (S15 x0 x1 (J 2) x3 (J 1) x5 x6 (some Rows_2) (some Tail_2_1) x9 x10 x11 x12 x13 x14) = some (.ret (.bool true)) := by kernel_rfl
theorem s3_2_2 : X_law_3 (S15 x0 x1 (J 2) x3 (J 2) x5 x6 none none none none none none none none) = nxt (S15 x0 x1 (J 2) x3 (J 2) x5 x6 (some Rows_2) (some Tail_2_2) none none none none none none) := by kernel_rfl
theorem s5_2_2 : X_law_5 (S15 x0 x1 (J 2) x3 (J 2) x5 x6 (some Rows_2) (some Tail_2_2) none none none none none none) = nxt (S15 x0 x1 (J 2) x3 (J 2) x5 x6 (some Rows_2) (some Tail_2_2) (some Line_2_2) none none none none none) := by kernel_rfl
theorem s6_2_2_0 : X_law_6 (S15 x0 x1 (J 2) (some Rr0) (J 2) x5 x6 (some Rows_2) (some Tail_2_2) (some Line_2_2) none none none none none) = nxt (S15 x0 x1 (J 2) (some Rr0) (J 2) x5 x6 (some Rows_2) (some Tail_2_2) (some Line_2_2) (some Told_2_2_0) (some Means_2_2) none none none) := by kernel_rfl
theorem t1_2_2_0_0 : X_t1 (S15 x0 x1 (J 2) (some Rr0) (J 2) x5 x6 x7 (some Tail_2_2) x9 (some Told_2_2_0) (some Means_2_2) x12 (J 0) x14) = some false := by kernel_rfl
theorem t1_2_2_0_1 : X_t1 (S15 x0 x1 (J 2) (some Rr0) (J 2) x5 x6 x7 (some Tail_2_2) x9 (some Told_2_2_0) (some Means_2_2) x12 (J 1) x14) = some false := by kernel_rfl
theorem t1_2_2_0_2 : X_t1 (S15 x0 x1 (J 2) (some Rr0) (J 2) x5 x6 x7 (some Tail_2_2) x9 (some Told_2_2_0) (some Means_2_2) x12 (J 2) x14) = some false := by kernel_rfl
theorem s6_2_2_1 : X_law_6 (S15 x0 x1 (J 2) (some Rr1) (J 2) x5 x6 (some Rows_2) (some Tail_2_2) (some Line_2_2) none none none none none) = nxt (S15 x0 x1 (J 2) (some Rr1) (J 2) x5 x6 (some Rows_2) (some Tail_2_2) (some Line_2_2) (some Told_2_2_1) (some Means_2_2) none none none) := by kernel_rfl
theorem t1_2_2_1_0 : X_t1 (S15 x0 x1 (J 2) (some Rr1) (J 2) x5 x6 x7 (some Tail_2_2) x9 (some Told_2_2_1) (some Means_2_2) x12 (J 0) x14) = some false := by kernel_rfl
theorem t1_2_2_1_1 : X_t1 (S15 x0 x1 (J 2) (some Rr1) (J 2) x5 x6 x7 (some Tail_2_2) x9 (some Told_2_2_1) (some Means_2_2) x12 (J 1) x14) = some false := by kernel_rfl
theorem t1_2_2_1_2 : X_t1 (S15 x0 x1 (J 2) (some Rr1) (J 2) x5 x6 x7 (some Tail_2_2) x9 (some Told_2_2_1) (some Means_2_2) x12 (J 2) x14) = some false := by kernel_rfl
theorem s6_2_2_2 : X_law_6 (S15 x0 x1 (J 2) (some Rr2) (J 2) x5 x6 (some Rows_2) (some Tail_2_2) (some Line_2_2) none none none none none) = nxt (S15 x0 x1 (J 2) (some Rr2) (J 2) x5 x6 (some Rows_2) (some Tail_2_2) (some Line_2_2) (some Told_2_2_2) (some Means_2_2) none none none) := by kernel_rfl
theorem t1_2_2_2_0 : X_t1 (S15 x0 x1 (J 2) (some Rr2) (J 2) x5 x6 x7 (some Tail_2_2) x9 (some Told_2_2_2) (some Means_2_2) x12 (J 0) x14) = some false := by kernel_rfl
theorem t1_2_2_2_1 : X_t1 (S15 x0 x1 (J 2) (some Rr2) (J 2) x5 x6 x7 (some Tail_2_2) x9 (some Told_2_2_2) (some Means_2_2) x12 (J 1) x14) = some false := by kernel_rfl
theorem t1_2_2_2_2 : X_t1 (S15 x0 x1 (J 2) (some Rr2) (J 2) x5 x6 x7 (some Tail_2_2) x9 (some Told_2_2_2) (some Means_2_2) x12 (J 2) x14) = some false := by kernel_rfl
theorem s6_2_2_3 : X_law_6 (S15 x0 x1 (J 2) (some Rr3) (J 2) x5 x6 (some Rows_2) (some Tail_2_2) (some Line_2_2) none none none none none) = nxt (S15 x0 x1 (J 2) (some Rr3) (J 2) x5 x6 (some Rows_2) (some Tail_2_2) (some Line_2_2) (some Told_2_2_3) (some Means_2_2) none none none) := by kernel_rfl
theorem t1_2_2_3_0 : X_t1 (S15 x0 x1 (J 2) (some Rr3) (J 2) x5 x6 x7 (some Tail_2_2) x9 (some Told_2_2_3) (some Means_2_2) x12 (J 0) x14) = some false := by kernel_rfl
theorem t1_2_2_3_1 : X_t1 (S15 x0 x1 (J 2) (some Rr3) (J 2) x5 x6 x7 (some Tail_2_2) x9 (some Told_2_2_3) (some Means_2_2) x12 (J 1) x14) = some false := by kernel_rfl
theorem t1_2_2_3_2 : X_t1 (S15 x0 x1 (J 2) (some Rr3) (J 2) x5 x6 x7 (some Tail_2_2) x9 (some Told_2_2_3) (some Means_2_2) x12 (J 2) x14) = some false := by kernel_rfl
theorem s6_2_2_4 : X_law_6 (S15 x0 x1 (J 2) (some Rr4) (J 2) x5 x6 (some Rows_2) (some Tail_2_2) (some Line_2_2) none none none none none) = nxt (S15 x0 x1 (J 2) (some Rr4) (J 2) x5 x6 (some Rows_2) (some Tail_2_2) (some Line_2_2) (some Told_2_2_4) (some Means_2_2) none none none) := by kernel_rfl
theorem t1_2_2_4_0 : X_t1 (S15 x0 x1 (J 2) (some Rr4) (J 2) x5 x6 x7 (some Tail_2_2) x9 (some Told_2_2_4) (some Means_2_2) x12 (J 0) x14) = some false := by kernel_rfl
theorem t1_2_2_4_1 : X_t1 (S15 x0 x1 (J 2) (some Rr4) (J 2) x5 x6 x7 (some Tail_2_2) x9 (some Told_2_2_4) (some Means_2_2) x12 (J 1) x14) = some false := by kernel_rfl
theorem t1_2_2_4_2 : X_t1 (S15 x0 x1 (J 2) (some Rr4) (J 2) x5 x6 x7 (some Tail_2_2) x9 (some Told_2_2_4) (some Means_2_2) x12 (J 2) x14) = some false := by kernel_rfl
theorem s6_2_2_5 : X_law_6 (S15 x0 x1 (J 2) (some Rr5) (J 2) x5 x6 (some Rows_2) (some Tail_2_2) (some Line_2_2) none none none none none) = nxt (S15 x0 x1 (J 2) (some Rr5) (J 2) x5 x6 (some Rows_2) (some Tail_2_2) (some Line_2_2) (some Told_2_2_5) (some Means_2_2) none none none) := by kernel_rfl
theorem t1_2_2_5_0 : X_t1 (S15 x0 x1 (J 2) (some Rr5) (J 2) x5 x6 x7 (some Tail_2_2) x9 (some Told_2_2_5) (some Means_2_2) x12 (J 0) x14) = some false := by kernel_rfl
theorem t1_2_2_5_1 : X_t1 (S15 x0 x1 (J 2) (some Rr5) (J 2) x5 x6 x7 (some Tail_2_2) x9 (some Told_2_2_5) (some Means_2_2) x12 (J 1) x14) = some false := by kernel_rfl
theorem t1_2_2_5_2 : X_t1 (S15 x0 x1 (J 2) (some Rr5) (J 2) x5 x6 x7 (some Tail_2_2) x9 (some Told_2_2_5) (some Means_2_2) x12 (J 2) x14) = some false := by kernel_rfl
theorem s6_2_2_6 : X_law_6 (S15 x0 x1 (J 2) (some Rr6) (J 2) x5 x6 (some Rows_2) (some Tail_2_2) (some Line_2_2) none none none none none) = nxt (S15 x0 x1 (J 2) (some Rr6) (J 2) x5 x6 (some Rows_2) (some Tail_2_2) (some Line_2_2) (some Told_2_2_6) (some Means_2_2) none none none) := by kernel_rfl
theorem t1_2_2_6_0 : X_t1 (S15 x0 x1 (J 2) (some Rr6) (J 2) x5 x6 x7 (some Tail_2_2) x9 (some Told_2_2_6) (some Means_2_2) x12 (J 0) x14) = some false := by kernel_rfl
theorem t1_2_2_6_1 : X_t1 (S15 x0 x1 (J 2) (some Rr6) (J 2) x5 x6 x7 (some Tail_2_2) x9 (some Told_2_2_6) (some Means_2_2) x12 (J 1) x14) = some false := by kernel_rfl
theorem t1_2_2_6_2 : X_t1 (S15 x0 x1 (J 2) (some Rr6) (J 2) x5 x6 x7 (some Tail_2_2) x9 (some Told_2_2_6) (some Means_2_2) x12 (J 2) x14) = some false := by kernel_rfl
theorem s6_2_2_7 : X_law_6 (S15 x0 x1 (J 2) (some Rr7) (J 2) x5 x6 (some Rows_2) (some Tail_2_2) (some Line_2_2) none none none none none) = nxt (S15 x0 x1 (J 2) (some Rr7) (J 2) x5 x6 (some Rows_2) (some Tail_2_2) (some Line_2_2) (some Told_2_2_7) (some Means_2_2) none none none) := by kernel_rfl
theorem t1_2_2_7_0 : X_t1 (S15 x0 x1 (J 2) (some Rr7) (J 2) x5 x6 x7 (some Tail_2_2) x9 (some Told_2_2_7) (some Means_2_2) x12 (J 0) x14) = some false := by kernel_rfl
theorem t1_2_2_7_1 : X_t1 (S15 x0 x1 (J 2) (some Rr7) (J 2) x5 x6 x7 (some Tail_2_2) x9 (some Told_2_2_7) (some Means_2_2) x12 (J 1) x14) = some false := by kernel_rfl
theorem t1_2_2_7_2 : X_t1 (S15 x0 x1 (J 2) (some Rr7) (J 2) x5 x6 x7 (some Tail_2_2) x9 (some Told_2_2_7) (some Means_2_2) x12 (J 2) x14) = some false := by kernel_rfl
theorem s6_2_2_8 : X_law_6 (S15 x0 x1 (J 2) (some Rr8) (J 2) x5 x6 (some Rows_2) (some Tail_2_2) (some Line_2_2) none none none none none) = nxt (S15 x0 x1 (J 2) (some Rr8) (J 2) x5 x6 (some Rows_2) (some Tail_2_2) (some Line_2_2) (some Told_2_2_8) (some Means_2_2) none none none) := by kernel_rfl
theorem t1_2_2_8_0 : X_t1 (S15 x0 x1 (J 2) (some Rr8) (J 2) x5 x6 x7 (some Tail_2_2) x9 (some Told_2_2_8) (some Means_2_2) x12 (J 0) x14) = some false := by kernel_rfl
theorem t1_2_2_8_1 : X_t1 (S15 x0 x1 (J 2) (some Rr8) (J 2) x5 x6 x7 (some Tail_2_2) x9 (some Told_2_2_8) (some Means_2_2) x12 (J 1) x14) = some false := by kernel_rfl
theorem t1_2_2_8_2 : X_t1 (S15 x0 x1 (J 2) (some Rr8) (J 2) x5 x6 x7 (some Tail_2_2) x9 (some Told_2_2_8) (some Means_2_2) x12 (J 2) x14) = some false := by kernel_rfl
theorem s6_2_2_9 : X_law_6 (S15 x0 x1 (J 2) (some Rr9) (J 2) x5 x6 (some Rows_2) (some Tail_2_2) (some Line_2_2) none none none none none) = nxt (S15 x0 x1 (J 2) (some Rr9) (J 2) x5 x6 (some Rows_2) (some Tail_2_2) (some Line_2_2) (some Told_2_2_9) (some Means_2_2) none none none) := by kernel_rfl
theorem t1_2_2_9_0 : X_t1 (S15 x0 x1 (J 2) (some Rr9) (J 2) x5 x6 x7 (some Tail_2_2) x9 (some Told_2_2_9) (some Means_2_2) x12 (J 0) x14) = some false := by kernel_rfl
theorem t1_2_2_9_1 : X_t1 (S15 x0 x1 (J 2) (some Rr9) (J 2) x5 x6 x7 (some Tail_2_2) x9 (some Told_2_2_9) (some Means_2_2) x12 (J 1) x14) = some false := by kernel_rfl
theorem t1_2_2_9_2 : X_t1 (S15 x0 x1 (J 2) (some Rr9) (J 2) x5 x6 x7 (some Tail_2_2) x9 (some Told_2_2_9) (some Means_2_2) x12 (J 2) x14) = some false := by kernel_rfl
theorem s6_2_2_10 : X_law_6 (S15 x0 x1 (J 2) (some Rr10) (J 2) x5 x6 (some Rows_2) (some Tail_2_2) (some Line_2_2) none none none none none) = nxt (S15 x0 x1 (J 2) (some Rr10) (J 2) x5 x6 (some Rows_2) (some Tail_2_2) (some Line_2_2) (some Told_2_2_10) (some Means_2_2) none none none) := by kernel_rfl
theorem t1_2_2_10_0 : X_t1 (S15 x0 x1 (J 2) (some Rr10) (J 2) x5 x6 x7 (some Tail_2_2) x9 (some Told_2_2_10) (some Means_2_2) x12 (J 0) x14) = some false := by kernel_rfl
theorem t1_2_2_10_1 : X_t1 (S15 x0 x1 (J 2) (some Rr10) (J 2) x5 x6 x7 (some Tail_2_2) x9 (some Told_2_2_10) (some Means_2_2) x12 (J 1) x14) = some false := by kernel_rfl
theorem t1_2_2_10_2 : X_t1 (S15 x0 x1 (J 2) (some Rr10) (J 2) x5 x6 x7 (some Tail_2_2) x9 (some Told_2_2_10) (some Means_2_2) x12 (J 2) x14) = some false := by kernel_rfl
theorem d_2_2_0 : X_l8_0 (S15 x0 x1 (J 2) x3 (J 2) x5 x6 x7 x8 x9 x10 (some Means_2_2) x12 (J 0) x14) = nxt (S15 x0 x1 (J 2) x3 (J 2) x5 x6 x7 x8 x9 x10 (some Means_2_2) x12 (J 0) (some (.tuple [.int (.ofNat 0), .int (.ofNat 1)]))) := by kernel_rfl
theorem t2_2_2_0 : X_t2 (S15 x0 x1 (J 2) x3 (J 2) x5 x6 x7 (some Tail_2_2) x9 x10 (some Means_2_2) x12 (J 0) (some (.tuple [.int (.ofNat 0), .int (.ofNat 1)]))) = some false := by kernel_rfl
theorem d_2_2_1 : X_l8_0 (S15 x0 x1 (J 2) x3 (J 2) x5 x6 x7 x8 x9 x10 (some Means_2_2) x12 (J 1) x14) = nxt (S15 x0 x1 (J 2) x3 (J 2) x5 x6 x7 x8 x9 x10 (some Means_2_2) x12 (J 1) (some (.tuple [.int (.ofNat 0), .int (.ofNat 1)]))) := by kernel_rfl
theorem t2_2_2_1 : X_t2 (S15 x0 x1 (J 2) x3 (J 2) x5 x6 x7 (some Tail_2_2) x9 x10 (some Means_2_2) x12 (J 1) (some (.tuple [.int (.ofNat 0), .int (.ofNat 1)]))) = some false := by kernel_rfl
theorem d_2_2_2 : X_l8_0 (S15 x0 x1 (J 2) x3 (J 2) x5 x6 x7 x8 x9 x10 (some Means_2_2) x12 (J 2) x14) = nxt (S15 x0 x1 (J 2) x3 (J 2) x5 x6 x7 x8 x9 x10 (some Means_2_2) x12 (J 2) (some Due_2_2)) := by kernel_rfl
theorem t2_2_2_2 : X_t2 (S15 x0 x1 (J 2) x3 (J 2) x5 x6 x7 (some Tail_2_2) x9 x10 (some Means_2_2) x12 (J 2) (some Due_2_2)) = some false := by kernel_rfl
theorem s8_2_2_0_n2 : forO 13 Lb (ksOf [0, 1, 2]) (S15 x0 x1 (J 2) x3 (J 2) (J 0) (some (.tuple [(.int (.negSucc 1)), .int (.ofNat 1)])) x7 (some Tail_2_2) x9 x10 (some Means_2_2) (some (.list [])) none none) = nxt (S15 x0 x1 (J 2) x3 (J 2) (J 0) (some (.tuple [(.int (.negSucc 1)), .int (.ofNat 1)])) x7 (some Tail_2_2) x9 x10 (some Means_2_2) (some Tog_2_2_0_n2) (J 2) (some Due_2_2)) := by kernel_rfl
theorem s9_2_2_0_n2 : X_law_9 (S15 x0 x1 (J 2) x3 (J 2) (J 0) (some (.tuple [(.int (.negSucc 1)), .int (.ofNat 1)])) x7 x8 x9 x10 x11 (some Tog_2_2_0_n2) x13 x14) = nxt (S15 x0 x1 (J 2) x3 (J 2) (J 0) (some (.tuple [(.int (.negSucc 1)), .int (.ofNat 1)])) x7 x8 x9 x10 x11 (some Tog_2_2_0_n2) x13 x14) := by kernel_rfl
theorem s8_2_2_0_n1 : forO 13 Lb (ksOf [0, 1, 2]) (S15 x0 x1 (J 2) x3 (J 2) (J 0) (some (.tuple [(.int (.negSucc 0)), .int (.ofNat 1)])) x7 (some Tail_2_2) x9 x10 (some Means_2_2) (some (.list [])) none none) = nxt (S15 x0 x1 (J 2) x3 (J 2) (J 0) (some (.tuple [(.int (.negSucc 0)), .int (.ofNat 1)])) x7 (some Tail_2_2) x9 x10 (some Means_2_2) (some Tog_2_2_0_n1) (J 2) (some Due_2_2)) := by kernel_rfl
theorem s9_2_2_0_n1 : X_law_9 (S15 x0 x1 (J 2) x3 (J 2) (J 0) (some (.tuple [(.int (.negSucc 0)), .int (.ofNat 1)])) x7 x8 x9 x10 x11 (some Tog_2_2_0_n1) x13 x14) = nxt (S15 x0 x1 (J 2) x3 (J 2) (J 0) (some (.tuple [(.int (.negSucc 0)), .int (.ofNat 1)])) x7 x8 x9 x10 x11 (some Tog_2_2_0_n1) x13 x14) := by kernel_rfl
theorem s8_2_2_0_0 : forO 13 Lb (ksOf [0, 1, 2]) (S15 x0 x1 (J 2) x3 (J 2) (J 0) (some (.tuple [(.int (.ofNat 0)), .int (.ofNat 1)])) x7 (some Tail_2_2) x9 x10 (some Means_2_2) (some (.list [])) none none) = nxt (S15 x0 x1 (J 2) x3 (J 2) (J 0) (some (.tuple [(.int (.ofNat 0)), .int (.ofNat 1)])) x7 (some Tail_2_2) x9 x10 (some Means_2_2) (some Tog_2_2_0_0) (J 2) (some Due_2_2)) := by kernel_rfl
theorem s9_2_2_0_0 : X_law_9 (S15 x0 x1 (J 2) x3 (J 2) (J 0) (some (.tuple [(.int (.ofNat 0)), .int (.ofNat 1)])) x7 x8 x9 x10 x11 (some Tog_2_2_0_0) x13 x14) = nxt (S15 x0 x1 (J 2) x3 (J 2) (J 0) (some (.tuple [(.int (.ofNat 0)), .int (.ofNat 1)])) x7 x8 x9 x10 x11 (some Tog_2_2_0_0) x13 x14) := by kernel_rfl
theorem s8_2_2_0_1 : forO 13 Lb (ksOf [0, 1, 2]) (S15 x0 x1 (J 2) x3 (J 2) (J 0) (some (.tuple [(.int (.ofNat 1)), .int (.ofNat 1)])) x7 (some Tail_2_2) x9 x10 (some Means_2_2) (some (.list [])) none none) = nxt (S15 x0 x1 (J 2) x3 (J 2) (J 0) (some (.tuple [(.int (.ofNat 1)), .int (.ofNat 1)])) x7 (some Tail_2_2) x9 x10 (some Means_2_2) (some Tog_2_2_0_1) (J 2) (some Due_2_2)) := by kernel_rfl
theorem s9_2_2_0_1 : X_law_9 (S15 x0 x1 (J 2) x3 (J 2) (J 0) (some (.tuple [(.int (.ofNat 1)), .int (.ofNat 1)])) x7 x8 x9 x10 x11 (some Tog_2_2_0_1) x13 x14) = nxt (S15 x0 x1 (J 2) x3 (J 2) (J 0) (some (.tuple [(.int (.ofNat 1)), .int (.ofNat 1)])) x7 x8 x9 x10 x11 (some Tog_2_2_0_1) x13 x14) := by kernel_rfl
theorem s8_2_2_0_2 : forO 13 Lb (ksOf [0, 1, 2]) (S15 x0 x1 (J 2) x3 (J 2) (J 0) (some (.tuple [(.int (.ofNat 2)), .int (.ofNat 1)])) x7 (some Tail_2_2) x9 x10 (some Means_2_2) (some (.list [])) none none) = nxt (S15 x0 x1 (J 2) x3 (J 2) (J 0) (some (.tuple [(.int (.ofNat 2)), .int (.ofNat 1)])) x7 (some Tail_2_2) x9 x10 (some Means_2_2) (some Tog_2_2_0_2) (J 2) (some Due_2_2)) := by kernel_rfl
theorem s9_2_2_0_2 : X_law_9 (S15 x0 x1 (J 2) x3 (J 2) (J 0) (some (.tuple [(.int (.ofNat 2)), .int (.ofNat 1)])) x7 x8 x9 x10 x11 (some Tog_2_2_0_2) x13 x14) = nxt (S15 x0 x1 (J 2) x3 (J 2) (J 0) (some (.tuple [(.int (.ofNat 2)), .int (.ofNat 1)])) x7 x8 x9 x10 x11 (some Tog_2_2_0_2) x13 x14) := by kernel_rfl
theorem s8_2_2_1_n2 : forO 13 Lb (ksOf [0, 1, 2]) (S15 x0 x1 (J 2) x3 (J 2) (J 1) (some (.tuple [(.int (.negSucc 1)), .int (.ofNat 1)])) x7 (some Tail_2_2) x9 x10 (some Means_2_2) (some (.list [])) none none) = nxt (S15 x0 x1 (J 2) x3 (J 2) (J 1) (some (.tuple [(.int (.negSucc 1)), .int (.ofNat 1)])) x7 (some Tail_2_2) x9 x10 (some Means_2_2) (some Tog_2_2_1_n2) (J 2) (some Due_2_2)) := by kernel_rfl
theorem s9_2_2_1_n2 : X_law_9 (S15 x0 x1 (J 2) x3 (J 2) (J 1) (some (.tuple [(.int (.negSucc 1)), .int (.ofNat 1)])) x7 x8 x9 x10 x11 (some Tog_2_2_1_n2) x13 x14) = nxt (S15 x0 x1 (J 2) x3 (J 2) (J 1) (some (.tuple [(.int (.negSucc 1)), .int (.ofNat 1)])) x7 x8 x9 x10 x11 (some Tog_2_2_1_n2) x13 x14) := by kernel_rfl
theorem s8_2_2_1_n1 : forO 13 Lb (ksOf [0, 1, 2]) (S15 x0 x1 (J 2) x3 (J 2) (J 1) (some (.tuple [(.int (.negSucc 0)), .int (.ofNat 1)])) x7 (some Tail_2_2) x9 x10 (some Means_2_2) (some (.list [])) none none) = nxt (S15 x0 x1 (J 2) x3 (J 2) (J 1) (some (.tuple [(.int (.negSucc 0)), .int (.ofNat 1)])) x7 (some Tail_2_2) x9 x10 (some Means_2_2) (some Tog_2_2_1_n1) (J 2) (some Due_2_2)) := by kernel_rfl
theorem s9_2_2_1_n1 : X_law_9 (S15 x0 x1 (J 2) x3 (J 2) (J 1) (some (.tuple [(.int (.negSucc 0)), .int (.ofNat 1)])) x7 x8 x9 x10 x11 (some Tog_2_2_1_n1) x13 x14) = nxt (S15 x0 x1 (J 2) x3 (J 2) (J 1) (some (.tuple [(.int (.negSucc 0)), .int (.ofNat 1)])) x7 x8 x9 x10 x11 (some Tog_2_2_1_n1) x13 x14) := by kernel_rfl
theorem s8_2_2_1_0 : forO 13 Lb (ksOf [0, 1, 2]) (S15 x0 x1 (J 2) x3 (J 2) (J 1) (some (.tuple [(.int (.ofNat 0)), .int (.ofNat 1)])) x7 (some Tail_2_2) x9 x10 (some Means_2_2) (some (.list [])) none none) = nxt (S15 x0 x1 (J 2) x3 (J 2) (J 1) (some (.tuple [(.int (.ofNat 0)), .int (.ofNat 1)])) x7 (some Tail_2_2) x9 x10 (some Means_2_2) (some Tog_2_2_1_0) (J 2) (some Due_2_2)) := by kernel_rfl
theorem s9_2_2_1_0 : X_law_9 (S15 x0 x1 (J 2) x3 (J 2) (J 1) (some (.tuple [(.int (.ofNat 0)), .int (.ofNat 1)])) x7 x8 x9 x10 x11 (some Tog_2_2_1_0) x13 x14) = nxt (S15 x0 x1 (J 2) x3 (J 2) (J 1) (some (.tuple [(.int (.ofNat 0)), .int (.ofNat 1)])) x7 x8 x9 x10 x11 (some Tog_2_2_1_0) x13 x14) := by kernel_rfl
theorem s8_2_2_1_1 : forO 13 Lb (ksOf [0, 1, 2]) (S15 x0 x1 (J 2) x3 (J 2) (J 1) (some (.tuple [(.int (.ofNat 1)), .int (.ofNat 1)])) x7 (some Tail_2_2) x9 x10 (some Means_2_2) (some (.list [])) none none) = nxt (S15 x0 x1 (J 2) x3 (J 2) (J 1) (some (.tuple [(.int (.ofNat 1)), .int (.ofNat 1)])) x7 (some Tail_2_2) x9 x10 (some Means_2_2) (some Tog_2_2_1_1) (J 2) (some Due_2_2)) := by kernel_rfl
theorem s9_2_2_1_1 : X_law_9 (S15 x0 x1 (J 2) x3 (J 2) (J 1) (some (.tuple [(.int (.ofNat 1)), .int (.ofNat 1)])) x7 x8 x9 x10 x11 (some Tog_2_2_1_1) x13 x14) = nxt (S15 x0 x1 (J 2) x3 (J 2) (J 1) (some (.tuple [(.int (.ofNat 1)), .int (.ofNat 1)])) x7 x8 x9 x10 x11 (some Tog_2_2_1_1) x13 x14) := by kernel_rfl
theorem s8_2_2_1_2 : forO 13 Lb (ksOf [0, 1, 2]) (S15 x0 x1 (J 2) x3 (J 2) (J 1) (some (.tuple [(.int (.ofNat 2)), .int (.ofNat 1)])) x7 (some Tail_2_2) x9 x10 (some Means_2_2) (some (.list [])) none none) = nxt (S15 x0 x1 (J 2) x3 (J 2) (J 1) (some (.tuple [(.int (.ofNat 2)), .int (.ofNat 1)])) x7 (some Tail_2_2) x9 x10 (some Means_2_2) (some Tog_2_2_1_2) (J 2) (some Due_2_2)) := by kernel_rfl
theorem s9_2_2_1_2 : X_law_9 (S15 x0 x1 (J 2) x3 (J 2) (J 1) (some (.tuple [(.int (.ofNat 2)), .int (.ofNat 1)])) x7 x8 x9 x10 x11 (some Tog_2_2_1_2) x13 x14) = nxt (S15 x0 x1 (J 2) x3 (J 2) (J 1) (some (.tuple [(.int (.ofNat 2)), .int (.ofNat 1)])) x7 x8 x9 x10 x11 (some Tog_2_2_1_2) x13 x14) := by kernel_rfl
theorem s8_2_2_2_n2 : forO 13 Lb (ksOf [0, 1, 2]) (S15 x0 x1 (J 2) x3 (J 2) (J 2) (some (.tuple [(.int (.negSucc 1)), .int (.ofNat 1)])) x7 (some Tail_2_2) x9 x10 (some Means_2_2) (some (.list [])) none none) = nxt (S15 x0 x1 (J 2) x3 (J 2) (J 2) (some (.tuple [(.int (.negSucc 1)), .int (.ofNat 1)])) x7 (some Tail_2_2) x9 x10 (some Means_2_2) (some Tog_2_2_2_n2) (J 2) (some Due_2_2)) := by kernel_rfl
theorem s9_2_2_2_n2 : X_law_9 (S15 x0 x1 (J 2) x3 (J 2) (J 2) (some (.tuple [(.int (.negSucc 1)), .int (.ofNat 1)])) x7 x8 x9 x10 x11 (some Tog_2_2_2_n2) x13 x14) = nxt (S15 x0 x1 (J 2) x3 (J 2) (J 2) (some (.tuple [(.int (.negSucc 1)), .int (.ofNat 1)])) x7 x8 x9 x10 x11 (some Tog_2_2_2_n2) x13 x14) := by kernel_rfl
theorem s8_2_2_2_n1 : forO 13 Lb (ksOf [0, 1, 2]) (S15 x0 x1 (J 2) x3 (J 2) (J 2) (some (.tuple [(.int (.negSucc 0)), .int (.ofNat 1)])) x7 (some Tail_2_2) x9 x10 (some Means_2_2) (some (.list [])) none none) = nxt (S15 x0 x1 (J 2) x3 (J 2) (J 2) (some (.tuple [(.int (.negSucc 0)), .int (.ofNat 1)])) x7 (some Tail_2_2) x9 x10 (some Means_2_2) (some Tog_2_2_2_n1) (J 2) (some Due_2_2)) := by kernel_rfl
theorem s9_2_2_2_n1 : X_law_9 (S15 x0 x1 (J 2) x3 (J 2) (J 2) (some (.tuple [(.int (.negSucc 0)), .int (.ofNat 1)])) x7 x8 x9 x10 x11 (some Tog_2_2_2_n1) x13 x14) = nxt (S15 x0 x1 (J 2) x3 (J 2) (J 2) (some (.tuple [(.int (.negSucc 0)), .int (.ofNat 1)])) x7 x8 x9 x10 x11 (some Tog_2_2_2_n1) x13 x14) := by kernel_rfl
theorem s8_2_2_2_0 : forO 13 Lb (ksOf [0, 1, 2]) (S15 x0 x1 (J 2) x3 (J 2) (J 2) (some (.tuple [(.int (.ofNat 0)), .int (.ofNat 1)])) x7 (some Tail_2_2) x9 x10 (some Means_2_2) (some (.list [])) none none) = nxt (S15 x0 x1 (J 2) x3 (J 2) (J 2) (some (.tuple [(.int (.ofNat 0)), .int (.ofNat 1)])) x7 (some Tail_2_2) x9 x10 (some Means_2_2) (some Tog_2_2_2_0) (J 2) (some Due_2_2)) := by kernel_rfl
theorem s9_2_2_2_0 : X_law_9 (S15 x0 x1 (J 2) x3 (J 2) (J 2) (some (.tuple [(.int (.ofNat 0)), .int (.ofNat 1)])) x7 x8 x9 x10 x11 (some Tog_2_2_2_0) x13 x14) = nxt (S15 x0 x1 (J 2) x3 (J 2) (J 2) (some (.tuple [(.int (.ofNat 0)), .int (.ofNat 1)])) x7 x8 x9 x10 x11 (some Tog_2_2_2_0) x13 x14) := by kernel_rfl
theorem s8_2_2_2_1 : forO 13 Lb (ksOf [0, 1, 2]) (S15 x0 x1 (J 2) x3 (J 2) (J 2) (some (.tuple [(.int (.ofNat 1)), .int (.ofNat 1)])) x7 (some Tail_2_2) x9 x10 (some Means_2_2) (some (.list [])) none none) = nxt (S15 x0 x1 (J 2) x3 (J 2) (J 2) (some (.tuple [(.int (.ofNat 1)), .int (.ofNat 1)])) x7 (some Tail_2_2) x9 x10 (some Means_2_2) (some Tog_2_2_2_1) (J 2) (some Due_2_2)) := by kernel_rfl
theorem s9_2_2_2_1 : X_law_9 (S15 x0 x1 (J 2) x3 (J 2) (J 2) (some (.tuple [(.int (.ofNat 1)), .int (.ofNat 1)])) x7 x8 x9 x10 x11 (some Tog_2_2_2_1) x13 x14) = nxt (S15 x0 x1 (J 2) x3 (J 2) (J 2) (some (.tuple [(.int (.ofNat 1)), .int (.ofNat 1)])) x7 x8 x9 x10 x11 (some Tog_2_2_2_1) x13 x14) := by kernel_rfl
theorem s8_2_2_2_2 : forO 13 Lb (ksOf [0, 1, 2]) (S15 x0 x1 (J 2) x3 (J 2) (J 2) (some (.tuple [(.int (.ofNat 2)), .int (.ofNat 1)])) x7 (some Tail_2_2) x9 x10 (some Means_2_2) (some (.list [])) none none) = nxt (S15 x0 x1 (J 2) x3 (J 2) (J 2) (some (.tuple [(.int (.ofNat 2)), .int (.ofNat 1)])) x7 (some Tail_2_2) x9 x10 (some Means_2_2) (some Tog_2_2_2_2) (J 2) (some Due_2_2)) := by kernel_rfl
theorem s9_2_2_2_2 : X_law_9 (S15 x0 x1 (J 2) x3 (J 2) (J 2) (some (.tuple [(.int (.ofNat 2)), .int (.ofNat 1)])) x7 x8 x9 x10 x11 (some Tog_2_2_2_2) x13 x14) = nxt (S15 x0 x1 (J 2) x3 (J 2) (J 2) (some (.tuple [(.int (.ofNat 2)), .int (.ofNat 1)])) x7 x8 x9 x10 x11 (some Tog_2_2_2_2) x13 x14) := by kernel_rfl
theorem s10_2_2 : X_end (S15 x0 x1 (J 2) x3 (J 2) x5 x6 (some Rows_2) (some Tail_2_2) x9 x10 x11 x12 x13 x14) = some (.ret (.bool true)) := by kernel_rfl
theorem hend_3 (r t : OD) : X_hend [(J 3), r, some Rows_3, t, some (.int (.ofNat 6)), (J 3), none] = some (.ret (.bool true)) := by kernel_rfl
theorem hm_3_0 : F__law_hermite_right [(.int (.ofNat 3)), Rr0, Rows_3] = some (.bool true) := herm (told := HT_3_0) (by_ := (.int (.ofNat 6))) (by kernel_rfl) (hend_3 _ _)
theorem hm_3_1 : F__law_hermite_right [(.int (.ofNat 3)), Rr1, Rows_3] = some (.bool true) := herm (told := HT_3_1) (by_ := (.int (.ofNat 6))) (by kernel_rfl) (hend_3 _ _)
theorem hm_3_2 : F__law_hermite_right [(.int (.ofNat 3)), Rr2, Rows_3] = some (.bool true) := herm (told := HT_3_2) (by_ := (.int (.ofNat 6))) (by kernel_rfl) (hend_3 _ _)
theorem hm_3_3 : F__law_hermite_right [(.int (.ofNat 3)), Rr3, Rows_3] = some (.bool true) := herm (told := HT_3_3) (by_ := (.int (.ofNat 6))) (by kernel_rfl) (hend_3 _ _)
theorem hm_3_4 : F__law_hermite_right [(.int (.ofNat 3)), Rr4, Rows_3] = some (.bool true) := herm (told := HT_3_4) (by_ := (.int (.ofNat 6))) (by kernel_rfl) (hend_3 _ _)
theorem hm_3_5 : F__law_hermite_right [(.int (.ofNat 3)), Rr5, Rows_3] = some (.bool true) := herm (told := HT_3_5) (by_ := (.int (.ofNat 6))) (by kernel_rfl) (hend_3 _ _)
theorem hm_3_6 : F__law_hermite_right [(.int (.ofNat 3)), Rr6, Rows_3] = some (.bool true) := herm (told := HT_3_6) (by_ := (.int (.ofNat 6))) (by kernel_rfl) (hend_3 _ _)
theorem hm_3_7 : F__law_hermite_right [(.int (.ofNat 3)), Rr7, Rows_3] = some (.bool true) := herm (told := HT_3_7) (by_ := (.int (.ofNat 6))) (by kernel_rfl) (hend_3 _ _)
theorem hm_3_8 : F__law_hermite_right [(.int (.ofNat 3)), Rr8, Rows_3] = some (.bool true) := herm (told := HT_3_8) (by_ := (.int (.ofNat 6))) (by kernel_rfl) (hend_3 _ _)
theorem hm_3_9 : F__law_hermite_right [(.int (.ofNat 3)), Rr9, Rows_3] = some (.bool true) := herm (told := HT_3_9) (by_ := (.int (.ofNat 6))) (by kernel_rfl) (hend_3 _ _)
theorem hm_3_10 : F__law_hermite_right [(.int (.ofNat 3)), Rr10, Rows_3] = some (.bool true) := herm (told := HT_3_10) (by_ := (.int (.ofNat 6))) (by kernel_rfl) (hend_3 _ _)
theorem s3_3_0 : X_law_3 (S15 x0 x1 (J 3) x3 (J 0) x5 x6 none none none none none none none none) = nxt (S15 x0 x1 (J 3) x3 (J 0) x5 x6 (some Rows_3) (some Tail_3_0) none none none none none none) := by kernel_rfl
theorem s5_3_0 : X_law_5 (S15 x0 x1 (J 3) x3 (J 0) x5 x6 (some Rows_3) (some Tail_3_0) none none none none none none) = nxt (S15 x0 x1 (J 3) x3 (J 0) x5 x6 (some Rows_3) (some Tail_3_0) (some Line_3_0) none none none none none) := by kernel_rfl
theorem s6_3_0_0 : X_law_6 (S15 x0 x1 (J 3) (some Rr0) (J 0) x5 x6 (some Rows_3) (some Tail_3_0) (some Line_3_0) none none none none none) = nxt (S15 x0 x1 (J 3) (some Rr0) (J 0) x5 x6 (some Rows_3) (some Tail_3_0) (some Line_3_0) (some Told_3_0_0) (some Means_3_0) none none none) := by kernel_rfl
theorem t1_3_0_0_0 : X_t1 (S15 x0 x1 (J 3) (some Rr0) (J 0) x5 x6 x7 (some Tail_3_0) x9 (some Told_3_0_0) (some Means_3_0) x12 (J 0) x14) = some false := by kernel_rfl
theorem t1_3_0_0_1 : X_t1 (S15 x0 x1 (J 3) (some Rr0) (J 0) x5 x6 x7 (some Tail_3_0) x9 (some Told_3_0_0) (some Means_3_0) x12 (J 1) x14) = some false := by kernel_rfl
theorem t1_3_0_0_2 : X_t1 (S15 x0 x1 (J 3) (some Rr0) (J 0) x5 x6 x7 (some Tail_3_0) x9 (some Told_3_0_0) (some Means_3_0) x12 (J 2) x14) = some false := by kernel_rfl
theorem t1_3_0_0_3 : X_t1 (S15 x0 x1 (J 3) (some Rr0) (J 0) x5 x6 x7 (some Tail_3_0) x9 (some Told_3_0_0) (some Means_3_0) x12 (J 3) x14) = some false := by kernel_rfl
theorem s6_3_0_1 : X_law_6 (S15 x0 x1 (J 3) (some Rr1) (J 0) x5 x6 (some Rows_3) (some Tail_3_0) (some Line_3_0) none none none none none) = nxt (S15 x0 x1 (J 3) (some Rr1) (J 0) x5 x6 (some Rows_3) (some Tail_3_0) (some Line_3_0) (some Told_3_0_1) (some Means_3_0) none none none) := by kernel_rfl
theorem t1_3_0_1_0 : X_t1 (S15 x0 x1 (J 3) (some Rr1) (J 0) x5 x6 x7 (some Tail_3_0) x9 (some Told_3_0_1) (some Means_3_0) x12 (J 0) x14) = some false := by kernel_rfl
theorem t1_3_0_1_1 : X_t1 (S15 x0 x1 (J 3) (some Rr1) (J 0) x5 x6 x7 (some Tail_3_0) x9 (some Told_3_0_1) (some Means_3_0) x12 (J 1) x14) = some false := by kernel_rfl
theorem t1_3_0_1_2 : X_t1 (S15 x0 x1 (J 3) (some Rr1) (J 0) x5 x6 x7 (some Tail_3_0) x9 (some Told_3_0_1) (some Means_3_0) x12 (J 2) x14) = some false := by kernel_rfl
theorem t1_3_0_1_3 : X_t1 (S15 x0 x1 (J 3) (some Rr1) (J 0) x5 x6 x7 (some Tail_3_0) x9 (some Told_3_0_1) (some Means_3_0) x12 (J 3) x14) = some false := by kernel_rfl
theorem s6_3_0_2 : X_law_6 (S15 x0 x1 (J 3) (some Rr2) (J 0) x5 x6 (some Rows_3) (some Tail_3_0) (some Line_3_0) none none none none none) = nxt (S15 x0 x1 (J 3) (some Rr2) (J 0) x5 x6 (some Rows_3) (some Tail_3_0) (some Line_3_0) (some Told_3_0_2) (some Means_3_0) none none none) := by kernel_rfl
theorem t1_3_0_2_0 : X_t1 (S15 x0 x1 (J 3) (some Rr2) (J 0) x5 x6 x7 (some Tail_3_0) x9 (some Told_3_0_2) (some Means_3_0) x12 (J 0) x14) = some false := by kernel_rfl
theorem t1_3_0_2_1 : X_t1 (S15 x0 x1 (J 3) (some Rr2) (J 0) x5 x6 x7 (some Tail_3_0) x9 (some Told_3_0_2) (some Means_3_0) x12 (J 1) x14) = some false := by kernel_rfl
theorem t1_3_0_2_2 : X_t1 (S15 x0 x1 (J 3) (some Rr2) (J 0) x5 x6 x7 (some Tail_3_0) x9 (some Told_3_0_2) (some Means_3_0) x12 (J 2) x14) = some false := by kernel_rfl
theorem t1_3_0_2_3 : X_t1 (S15 x0 x1 (J 3) (some Rr2) (J 0) x5 x6 x7 (some Tail_3_0) x9 (some Told_3_0_2) (some Means_3_0) x12 (J 3) x14) = some false := by kernel_rfl
theorem s6_3_0_3 : X_law_6 (S15 x0 x1 (J 3) (some Rr3) (J 0) x5 x6 (some Rows_3) (some Tail_3_0) (some Line_3_0) none none none none none) = nxt (S15 x0 x1 (J 3) (some Rr3) (J 0) x5 x6 (some Rows_3) (some Tail_3_0) (some Line_3_0) (some Told_3_0_3) (some Means_3_0) none none none) := by kernel_rfl
theorem t1_3_0_3_0 : X_t1 (S15 x0 x1 (J 3) (some Rr3) (J 0) x5 x6 x7 (some Tail_3_0) x9 (some Told_3_0_3) (some Means_3_0) x12 (J 0) x14) = some false := by kernel_rfl
theorem t1_3_0_3_1 : X_t1 (S15 x0 x1 (J 3) (some Rr3) (J 0) x5 x6 x7 (some Tail_3_0) x9 (some Told_3_0_3) (some Means_3_0) x12 (J 1) x14) = some false := by kernel_rfl
theorem t1_3_0_3_2 : X_t1 (S15 x0 x1 (J 3) (some Rr3) (J 0) x5 x6 x7 (some Tail_3_0) x9 (some Told_3_0_3) (some Means_3_0) x12 (J 2) x14) = some false := by kernel_rfl
theorem t1_3_0_3_3 : X_t1 (S15 x0 x1 (J 3) (some Rr3) (J 0) x5 x6 x7 (some Tail_3_0) x9 (some Told_3_0_3) (some Means_3_0) x12 (J 3) x14) = some false := by kernel_rfl
theorem s6_3_0_4 : X_law_6 (S15 x0 x1 (J 3) (some Rr4) (J 0) x5 x6 (some Rows_3) (some Tail_3_0) (some Line_3_0) none none none none none) = nxt (S15 x0 x1 (J 3) (some Rr4) (J 0) x5 x6 (some Rows_3) (some Tail_3_0) (some Line_3_0) (some Told_3_0_4) (some Means_3_0) none none none) := by kernel_rfl
theorem t1_3_0_4_0 : X_t1 (S15 x0 x1 (J 3) (some Rr4) (J 0) x5 x6 x7 (some Tail_3_0) x9 (some Told_3_0_4) (some Means_3_0) x12 (J 0) x14) = some false := by kernel_rfl
theorem t1_3_0_4_1 : X_t1 (S15 x0 x1 (J 3) (some Rr4) (J 0) x5 x6 x7 (some Tail_3_0) x9 (some Told_3_0_4) (some Means_3_0) x12 (J 1) x14) = some false := by kernel_rfl
theorem t1_3_0_4_2 : X_t1 (S15 x0 x1 (J 3) (some Rr4) (J 0) x5 x6 x7 (some Tail_3_0) x9 (some Told_3_0_4) (some Means_3_0) x12 (J 2) x14) = some false := by kernel_rfl
theorem t1_3_0_4_3 : X_t1 (S15 x0 x1 (J 3) (some Rr4) (J 0) x5 x6 x7 (some Tail_3_0) x9 (some Told_3_0_4) (some Means_3_0) x12 (J 3) x14) = some false := by kernel_rfl
theorem s6_3_0_5 : X_law_6 (S15 x0 x1 (J 3) (some Rr5) (J 0) x5 x6 (some Rows_3) (some Tail_3_0) (some Line_3_0) none none none none none) = nxt (S15 x0 x1 (J 3) (some Rr5) (J 0) x5 x6 (some Rows_3) (some Tail_3_0) (some Line_3_0) (some Told_3_0_5) (some Means_3_0) none none none) := by kernel_rfl
theorem t1_3_0_5_0 : X_t1 (S15 x0 x1 (J 3) (some Rr5) (J 0) x5 x6 x7 (some Tail_3_0) x9 (some Told_3_0_5) (some Means_3_0) x12 (J 0) x14) = some false := by kernel_rfl
theorem t1_3_0_5_1 : X_t1 (S15 x0 x1 (J 3) (some Rr5) (J 0) x5 x6 x7 (some Tail_3_0) x9 (some Told_3_0_5) (some Means_3_0) x12 (J 1) x14) = some false := by kernel_rfl
theorem t1_3_0_5_2 : X_t1 (S15 x0 x1 (J 3) (some Rr5) (J 0) x5 x6 x7 (some Tail_3_0) x9 (some Told_3_0_5) (some Means_3_0) x12 (J 2) x14) = some false := by kernel_rfl
theorem t1_3_0_5_3 : X_t1 (S15 x0 x1 (J 3) (some Rr5) (J 0) x5 x6 x7 (some Tail_3_0) x9 (some Told_3_0_5) (some Means_3_0) x12 (J 3) x14) = some false := by kernel_rfl
theorem s6_3_0_6 : X_law_6 (S15 x0 x1 (J 3) (some Rr6) (J 0) x5 x6 (some Rows_3) (some Tail_3_0) (some Line_3_0) none none none none none) = nxt (S15 x0 x1 (J 3) (some Rr6) (J 0) x5 x6 (some Rows_3) (some Tail_3_0) (some Line_3_0) (some Told_3_0_6) (some Means_3_0) none none none) := by kernel_rfl
theorem t1_3_0_6_0 : X_t1 (S15 x0 x1 (J 3) (some Rr6) (J 0) x5 x6 x7 (some Tail_3_0) x9 (some Told_3_0_6) (some Means_3_0) x12 (J 0) x14) = some false := by kernel_rfl
theorem t1_3_0_6_1 : X_t1 (S15 x0 x1 (J 3) (some Rr6) (J 0) x5 x6 x7 (some Tail_3_0) x9 (some Told_3_0_6) (some Means_3_0) x12 (J 1) x14) = some false := by kernel_rfl
theorem t1_3_0_6_2 : X_t1 (S15 x0 x1 (J 3) (some Rr6) (J 0) x5 x6 x7 (some Tail_3_0) x9 (some Told_3_0_6) (some Means_3_0) x12 (J 2) x14) = some false := by kernel_rfl
theorem t1_3_0_6_3 : X_t1 (S15 x0 x1 (J 3) (some Rr6) (J 0) x5 x6 x7 (some Tail_3_0) x9 (some Told_3_0_6) (some Means_3_0) x12 (J 3) x14) = some false := by kernel_rfl
theorem s6_3_0_7 : X_law_6 (S15 x0 x1 (J 3) (some Rr7) (J 0) x5 x6 (some Rows_3) (some Tail_3_0) (some Line_3_0) none none none none none) = nxt (S15 x0 x1 (J 3) (some Rr7) (J 0) x5 x6 (some Rows_3) (some Tail_3_0) (some Line_3_0) (some Told_3_0_7) (some Means_3_0) none none none) := by kernel_rfl
theorem t1_3_0_7_0 : X_t1 (S15 x0 x1 (J 3) (some Rr7) (J 0) x5 x6 x7 (some Tail_3_0) x9 (some Told_3_0_7) (some Means_3_0) x12 (J 0) x14) = some false := by kernel_rfl
theorem t1_3_0_7_1 : X_t1 (S15 x0 x1 (J 3) (some Rr7) (J 0) x5 x6 x7 (some Tail_3_0) x9 (some Told_3_0_7) (some Means_3_0) x12 (J 1) x14) = some false := by kernel_rfl
theorem t1_3_0_7_2 : X_t1 (S15 x0 x1 (J 3) (some Rr7) (J 0) x5 x6 x7 (some Tail_3_0) x9 (some Told_3_0_7) (some Means_3_0) x12 (J 2) x14) = some false := by kernel_rfl
theorem t1_3_0_7_3 : X_t1 (S15 x0 x1 (J 3) (some Rr7) (J 0) x5 x6 x7 (some Tail_3_0) x9 (some Told_3_0_7) (some Means_3_0) x12 (J 3) x14) = some false := by kernel_rfl
theorem s6_3_0_8 : X_law_6 (S15 x0 x1 (J 3) (some Rr8) (J 0) x5 x6 (some Rows_3) (some Tail_3_0) (some Line_3_0) none none none none none) = nxt (S15 x0 x1 (J 3) (some Rr8) (J 0) x5 x6 (some Rows_3) (some Tail_3_0) (some Line_3_0) (some Told_3_0_8) (some Means_3_0) none none none) := by kernel_rfl
theorem t1_3_0_8_0 : X_t1 (S15 x0 x1 (J 3) (some Rr8) (J 0) x5 x6 x7 (some Tail_3_0) x9 (some Told_3_0_8) (some Means_3_0) x12 (J 0) x14) = some false := by kernel_rfl
theorem t1_3_0_8_1 : X_t1 (S15 x0 x1 (J 3) (some Rr8) (J 0) x5 x6 x7 (some Tail_3_0) x9 (some Told_3_0_8) (some Means_3_0) x12 (J 1) x14) = some false := by kernel_rfl
theorem t1_3_0_8_2 : X_t1 (S15 x0 x1 (J 3) (some Rr8) (J 0) x5 x6 x7 (some Tail_3_0) x9 (some Told_3_0_8) (some Means_3_0) x12 (J 2) x14) = some false := by kernel_rfl
theorem t1_3_0_8_3 : X_t1 (S15 x0 x1 (J 3) (some Rr8) (J 0) x5 x6 x7 (some Tail_3_0) x9 (some Told_3_0_8) (some Means_3_0) x12 (J 3) x14) = some false := by kernel_rfl
theorem s6_3_0_9 : X_law_6 (S15 x0 x1 (J 3) (some Rr9) (J 0) x5 x6 (some Rows_3) (some Tail_3_0) (some Line_3_0) none none none none none) = nxt (S15 x0 x1 (J 3) (some Rr9) (J 0) x5 x6 (some Rows_3) (some Tail_3_0) (some Line_3_0) (some Told_3_0_9) (some Means_3_0) none none none) := by kernel_rfl
theorem t1_3_0_9_0 : X_t1 (S15 x0 x1 (J 3) (some Rr9) (J 0) x5 x6 x7 (some Tail_3_0) x9 (some Told_3_0_9) (some Means_3_0) x12 (J 0) x14) = some false := by kernel_rfl
theorem t1_3_0_9_1 : X_t1 (S15 x0 x1 (J 3) (some Rr9) (J 0) x5 x6 x7 (some Tail_3_0) x9 (some Told_3_0_9) (some Means_3_0) x12 (J 1) x14) = some false := by kernel_rfl
theorem t1_3_0_9_2 : X_t1 (S15 x0 x1 (J 3) (some Rr9) (J 0) x5 x6 x7 (some Tail_3_0) x9 (some Told_3_0_9) (some Means_3_0) x12 (J 2) x14) = some false := by kernel_rfl
theorem t1_3_0_9_3 : X_t1 (S15 x0 x1 (J 3) (some Rr9) (J 0) x5 x6 x7 (some Tail_3_0) x9 (some Told_3_0_9) (some Means_3_0) x12 (J 3) x14) = some false := by kernel_rfl
theorem s6_3_0_10 : X_law_6 (S15 x0 x1 (J 3) (some Rr10) (J 0) x5 x6 (some Rows_3) (some Tail_3_0) (some Line_3_0) none none none none none) = nxt (S15 x0 x1 (J 3) (some Rr10) (J 0) x5 x6 (some Rows_3) (some Tail_3_0) (some Line_3_0) (some Told_3_0_10) (some Means_3_0) none none none) := by kernel_rfl
theorem t1_3_0_10_0 : X_t1 (S15 x0 x1 (J 3) (some Rr10) (J 0) x5 x6 x7 (some Tail_3_0) x9 (some Told_3_0_10) (some Means_3_0) x12 (J 0) x14) = some false := by kernel_rfl
theorem t1_3_0_10_1 : X_t1 (S15 x0 x1 (J 3) (some Rr10) (J 0) x5 x6 x7 (some Tail_3_0) x9 (some Told_3_0_10) (some Means_3_0) x12 (J 1) x14) = some false := by kernel_rfl
theorem t1_3_0_10_2 : X_t1 (S15 x0 x1 (J 3) (some Rr10) (J 0) x5 x6 x7 (some Tail_3_0) x9 (some Told_3_0_10) (some Means_3_0) x12 (J 2) x14) = some false := by kernel_rfl
theorem t1_3_0_10_3 : X_t1 (S15 x0 x1 (J 3) (some Rr10) (J 0) x5 x6 x7 (some Tail_3_0) x9 (some Told_3_0_10) (some Means_3_0) x12 (J 3) x14) = some false := by kernel_rfl
theorem d_3_0_0 : X_l8_0 (S15 x0 x1 (J 3) x3 (J 0) x5 x6 x7 x8 x9 x10 (some Means_3_0) x12 (J 0) x14) = nxt (S15 x0 x1 (J 3) x3 (J 0) x5 x6 x7 x8 x9 x10 (some Means_3_0) x12 (J 0) (some (.tuple [.int (.ofNat 0), .int (.ofNat 1)]))) := by kernel_rfl
theorem t2_3_0_0 : X_t2 (S15 x0 x1 (J 3) x3 (J 0) x5 x6 x7 (some Tail_3_0) x9 x10 (some Means_3_0) x12 (J 0) (some (.tuple [.int (.ofNat 0), .int (.ofNat 1)]))) = some false := by kernel_rfl
theorem d_3_0_1 : X_l8_0 (S15 x0 x1 (J 3) x3 (J 0) x5 x6 x7 x8 x9 x10 (some Means_3_0) x12 (J 1) x14) = nxt (S15 x0 x1 (J 3) x3 (J 0) x5 x6 x7 x8 x9 x10 (some Means_3_0) x12 (J 1) (some (.tuple [.int (.ofNat 0), .int (.ofNat 1)]))) := by kernel_rfl
theorem t2_3_0_1 : X_t2 (S15 x0 x1 (J 3) x3 (J 0) x5 x6 x7 (some Tail_3_0) x9 x10 (some Means_3_0) x12 (J 1) (some (.tuple [.int (.ofNat 0), .int (.ofNat 1)]))) = some false := by kernel_rfl
theorem d_3_0_2 : X_l8_0 (S15 x0 x1 (J 3) x3 (J 0) x5 x6 x7 x8 x9 x10 (some Means_3_0) x12 (J 2) x14) = nxt (S15 x0 x1 (J 3) x3 (J 0) x5 x6 x7 x8 x9 x10 (some Means_3_0) x12 (J 2) (some (.tuple [.int (.ofNat 0), .int (.ofNat 1)]))) := by kernel_rfl
theorem t2_3_0_2 : X_t2 (S15 x0 x1 (J 3) x3 (J 0) x5 x6 x7 (some Tail_3_0) x9 x10 (some Means_3_0) x12 (J 2) (some (.tuple [.int (.ofNat 0), .int (.ofNat 1)]))) = some false := by kernel_rfl
theorem d_3_0_3 : X_l8_0 (S15 x0 x1 (J 3) x3 (J 0) x5 x6 x7 x8 x9 x10 (some Means_3_0) x12 (J 3) x14) = nxt (S15 x0 x1 (J 3) x3 (J 0) x5 x6 x7 x8 x9 x10 (some Means_3_0) x12 (J 3) (some Due_3_0)) := by kernel_rfl
theorem t2_3_0_3 : X_t2 (S15 x0 x1 (J 3) x3 (J 0) x5 x6 x7 (some Tail_3_0) x9 x10 (some Means_3_0) x12 (J 3) (some Due_3_0)) = some false := by kernel_rfl
theorem s8_3_0_0_n2 : forO 13 Lb (ksOf [0, 1, 2, 3]) (S15 x0 x1 (J 3) x3 (J 0) (J 0) (some (.tuple [(.int (.negSucc 1)), .int (.ofNat 1)])) x7 (some Tail_3_0) x9 x10 (some Means_3_0) (some (.list [])) none none) = nxt (S15 x0 x1 (J 3) x3 (J 0) (J 0) (some (.tuple [(.int (.negSucc 1)), .int (.ofNat 1)])) x7 (some Tail_3_0) x9 x10 (some Means_3_0) (some Tog_3_0_0_n2) (J 3) (some Due_3_0)) := by kernel_rfl
theorem s9_3_0_0_n2 : X_law_9 (S15 x0 x1 (J 3) x3 (J 0) (J 0) (some (.tuple [(.int (.negSucc 1)), .int (.ofNat 1)])) x7 x8 x9 x10 x11 (some Tog_3_0_0_n2) x13 x14) = nxt (S15 x0 x1 (J 3) x3 (J 0) (J 0) (some (.tuple [(.int (.negSucc 1)), .int (.ofNat 1)])) x7 x8 x9 x10 x11 (some Tog_3_0_0_n2) x13 x14) := by kernel_rfl
theorem s8_3_0_0_n1 : forO 13 Lb (ksOf [0, 1, 2, 3]) (S15 x0 x1 (J 3) x3 (J 0) (J 0) (some (.tuple [(.int (.negSucc 0)), .int (.ofNat 1)])) x7 (some Tail_3_0) x9 x10 (some Means_3_0) (some (.list [])) none none) = nxt (S15 x0 x1 (J 3) x3 (J 0) (J 0) (some (.tuple [(.int (.negSucc 0)), .int (.ofNat 1)])) x7 (some Tail_3_0) x9 x10 (some Means_3_0) (some Tog_3_0_0_n1) (J 3) (some Due_3_0)) := by kernel_rfl
theorem s9_3_0_0_n1 : X_law_9 (S15 x0 x1 (J 3) x3 (J 0) (J 0) (some (.tuple [(.int (.negSucc 0)), .int (.ofNat 1)])) x7 x8 x9 x10 x11 (some Tog_3_0_0_n1) x13 x14) = nxt (S15 x0 x1 (J 3) x3 (J 0) (J 0) (some (.tuple [(.int (.negSucc 0)), .int (.ofNat 1)])) x7 x8 x9 x10 x11 (some Tog_3_0_0_n1) x13 x14) := by kernel_rfl
theorem s8_3_0_0_0 : forO 13 Lb (ksOf [0, 1, 2, 3]) (S15 x0 x1 (J 3) x3 (J 0) (J 0) (some (.tuple [(.int (.ofNat 0)), .int (.ofNat 1)])) x7 (some Tail_3_0) x9 x10 (some Means_3_0) (some (.list [])) none none) = nxt (S15 x0 x1 (J 3) x3 (J 0) (J 0) (some (.tuple [(.int (.ofNat 0)), .int (.ofNat 1)])) x7 (some Tail_3_0) x9 x10 (some Means_3_0) (some Tog_3_0_0_0) (J 3) (some Due_3_0)) := by kernel_rfl
theorem s9_3_0_0_0 : X_law_9 (S15 x0 x1 (J 3) x3 (J 0) (J 0) (some (.tuple [(.int (.ofNat 0)), .int (.ofNat 1)])) x7 x8 x9 x10 x11 (some Tog_3_0_0_0) x13 x14) = nxt (S15 x0 x1 (J 3) x3 (J 0) (J 0) (some (.tuple [(.int (.ofNat 0)), .int (.ofNat 1)])) x7 x8 x9 x10 x11 (some Tog_3_0_0_0) x13 x14) := by kernel_rfl
theorem s8_3_0_0_1 : forO 13 Lb (ksOf [0, 1, 2, 3]) (S15 x0 x1 (J 3) x3 (J 0) (J 0) (some (.tuple [(.int (.ofNat 1)), .int (.ofNat 1)])) x7 (some Tail_3_0) x9 x10 (some Means_3_0) (some (.list [])) none none) = nxt (S15 x0 x1 (J 3) x3 (J 0) (J 0) (some (.tuple [(.int (.ofNat 1)), .int (.ofNat 1)])) x7 (some Tail_3_0) x9 x10 (some Means_3_0) (some Tog_3_0_0_1) (J 3) (some Due_3_0)) := by kernel_rfl
theorem s9_3_0_0_1 : X_law_9 (S15 x0 x1 (J 3) x3 (J 0) (J 0) (some (.tuple [(.int (.ofNat 1)), .int (.ofNat 1)])) x7 x8 x9 x10 x11 (some Tog_3_0_0_1) x13 x14) = nxt (S15 x0 x1 (J 3) x3 (J 0) (J 0) (some (.tuple [(.int (.ofNat 1)), .int (.ofNat 1)])) x7 x8 x9 x10 x11 (some Tog_3_0_0_1) x13 x14) := by kernel_rfl
theorem s8_3_0_0_2 : forO 13 Lb (ksOf [0, 1, 2, 3]) (S15 x0 x1 (J 3) x3 (J 0) (J 0) (some (.tuple [(.int (.ofNat 2)), .int (.ofNat 1)])) x7 (some Tail_3_0) x9 x10 (some Means_3_0) (some (.list [])) none none) = nxt (S15 x0 x1 (J 3) x3 (J 0) (J 0) (some (.tuple [(.int (.ofNat 2)), .int (.ofNat 1)])) x7 (some Tail_3_0) x9 x10 (some Means_3_0) (some Tog_3_0_0_2) (J 3) (some Due_3_0)) := by kernel_rfl
theorem s9_3_0_0_2 : X_law_9 (S15 x0 x1 (J 3) x3 (J 0) (J 0) (some (.tuple [(.int (.ofNat 2)), .int (.ofNat 1)])) x7 x8 x9 x10 x11 (some Tog_3_0_0_2) x13 x14) = nxt (S15 x0 x1 (J 3) x3 (J 0) (J 0) (some (.tuple [(.int (.ofNat 2)), .int (.ofNat 1)])) x7 x8 x9 x10 x11 (some Tog_3_0_0_2) x13 x14) := by kernel_rfl
theorem s8_3_0_1_n2 : forO 13 Lb (ksOf [0, 1, 2, 3]) (S15 x0 x1 (J 3) x3 (J 0) (J 1) (some (.tuple [(.int (.negSucc 1)), .int (.ofNat 1)])) x7 (some Tail_3_0) x9 x10 (some Means_3_0) (some (.list [])) none none) = nxt (S15 x0 x1 (J 3) x3 (J 0) (J 1) (some (.tuple [(.int (.negSucc 1)), .int (.ofNat 1)])) x7 (some Tail_3_0) x9 x10 (some Means_3_0) (some Tog_3_0_1_n2) (J 3) (some Due_3_0)) := by kernel_rfl
theorem s9_3_0_1_n2 : X_law_9 (S15 x0 x1 (J 3) x3 (J 0) (J 1) (some (.tuple [(.int (.negSucc 1)), .int (.ofNat 1)])) x7 x8 x9 x10 x11 (some Tog_3_0_1_n2) x13 x14) = nxt (S15 x0 x1 (J 3) x3 (J 0) (J 1) (some (.tuple [(.int (.negSucc 1)), .int (.ofNat 1)])) x7 x8 x9 x10 x11 (some Tog_3_0_1_n2) x13 x14) := by kernel_rfl
theorem s8_3_0_1_n1 : forO 13 Lb (ksOf [0, 1, 2, 3]) (S15 x0 x1 (J 3) x3 (J 0) (J 1) (some (.tuple [(.int (.negSucc 0)), .int (.ofNat 1)])) x7 (some Tail_3_0) x9 x10 (some Means_3_0) (some (.list [])) none none) = nxt (S15 x0 x1 (J 3) x3 (J 0) (J 1) (some (.tuple [(.int (.negSucc 0)), .int (.ofNat 1)])) x7 (some Tail_3_0) x9 x10 (some Means_3_0) (some Tog_3_0_1_n1) (J 3) (some Due_3_0)) := by kernel_rfl
theorem s9_3_0_1_n1 : X_law_9 (S15 x0 x1 (J 3) x3 (J 0) (J 1) (some (.tuple [(.int (.negSucc 0)), .int (.ofNat 1)])) x7 x8 x9 x10 x11 (some Tog_3_0_1_n1) x13 x14) = nxt (S15 x0 x1 (J 3) x3 (J 0) (J 1) (some (.tuple [(.int (.negSucc 0)), .int (.ofNat 1)])) x7 x8 x9 x10 x11 (some Tog_3_0_1_n1) x13 x14) := by kernel_rfl
theorem s8_3_0_1_0 : forO 13 Lb (ksOf [0, 1, 2, 3]) (S15 x0 x1 (J 3) x3 (J 0) (J 1) (some (.tuple [(.int (.ofNat 0)), .int (.ofNat 1)])) x7 (some Tail_3_0) x9 x10 (some Means_3_0) (some (.list [])) none none) = nxt (S15 x0 x1 (J 3) x3 (J 0) (J 1) (some (.tuple [(.int (.ofNat 0)), .int (.ofNat 1)])) x7 (some Tail_3_0) x9 x10 (some Means_3_0) (some Tog_3_0_1_0) (J 3) (some Due_3_0)) := by kernel_rfl
theorem s9_3_0_1_0 : X_law_9 (S15 x0 x1 (J 3) x3 (J 0) (J 1) (some (.tuple [(.int (.ofNat 0)), .int (.ofNat 1)])) x7 x8 x9 x10 x11 (some Tog_3_0_1_0) x13 x14) = nxt (S15 x0 x1 (J 3) x3 (J 0) (J 1) (some (.tuple [(.int (.ofNat 0)), .int (.ofNat 1)])) x7 x8 x9 x10 x11 (some Tog_3_0_1_0) x13 x14) := by kernel_rfl
theorem s8_3_0_1_1 : forO 13 Lb (ksOf [0, 1, 2, 3]) (S15 x0 x1 (J 3) x3 (J 0) (J 1) (some (.tuple [(.int (.ofNat 1)), .int (.ofNat 1)])) x7 (some Tail_3_0) x9 x10 (some Means_3_0) (some (.list [])) none none) = nxt (S15 x0 x1 (J 3) x3 (J 0) (J 1) (some (.tuple [(.int (.ofNat 1)), .int (.ofNat 1)])) x7 (some Tail_3_0) x9 x10 (some Means_3_0) (some Tog_3_0_1_1) (J 3) (some Due_3_0)) := by kernel_rfl
theorem s9_3_0_1_1 : X_law_9 (S15 x0 x1 (J 3) x3 (J 0) (J 1) (some (.tuple [(.int (.ofNat 1)), .int (.ofNat 1)])) x7 x8 x9 x10 x11 (some Tog_3_0_1_1) x13 x14) = nxt (S15 x0 x1 (J 3) x3 (J 0) (J 1) (some (.tuple [(.int (.ofNat 1)), .int (.ofNat 1)])) x7 x8 x9 x10 x11 (some Tog_3_0_1_1) x13 x14) := by kernel_rfl
theorem s8_3_0_1_2 : forO 13 Lb (ksOf [0, 1, 2, 3]) (S15 x0 x1 (J 3) x3 (J 0) (J 1) (some (.tuple [(.int (.ofNat 2)), .int (.ofNat 1)])) x7 (some Tail_3_0) x9 x10 (some Means_3_0) (some (.list [])) none none) = nxt (S15 x0 x1 (J 3) x3 (J 0) (J 1) (some (.tuple [(.int (.ofNat 2)), .int (.ofNat 1)])) x7 (some Tail_3_0) x9 x10 (some Means_3_0) (some Tog_3_0_1_2) (J 3) (some Due_3_0)) := by kernel_rfl
theorem s9_3_0_1_2 : X_law_9 (S15 x0 x1 (J 3) x3 (J 0) (J 1) (some (.tuple [(.int (.ofNat 2)), .int (.ofNat 1)])) x7 x8 x9 x10 x11 (some Tog_3_0_1_2) x13 x14) = nxt (S15 x0 x1 (J 3) x3 (J 0) (J 1) (some (.tuple [(.int (.ofNat 2)), .int (.ofNat 1)])) x7 x8 x9 x10 x11 (some Tog_3_0_1_2) x13 x14) := by kernel_rfl
theorem s8_3_0_2_n2 : forO 13 Lb (ksOf [0, 1, 2, 3]) (S15 x0 x1 (J 3) x3 (J 0) (J 2) (some (.tuple [(.int (.negSucc 1)), .int (.ofNat 1)])) x7 (some Tail_3_0) x9 x10 (some Means_3_0) (some (.list [])) none none) = nxt (S15 x0 x1 (J 3) x3 (J 0) (J 2) (some (.tuple [(.int (.negSucc 1)), .int (.ofNat 1)])) x7 (some Tail_3_0) x9 x10 (some Means_3_0) (some Tog_3_0_2_n2) (J 3) (some Due_3_0)) := by kernel_rfl
theorem s9_3_0_2_n2 : X_law_9 (S15 x0 x1 (J 3) x3 (J 0) (J 2) (some (.tuple [(.int (.negSucc 1)), .int (.ofNat 1)])) x7 x8 x9 x10 x11 (some Tog_3_0_2_n2) x13 x14) = nxt (S15 x0 x1 (J 3) x3 (J 0) (J 2) (some (.tuple [(.int (.negSucc 1)), .int (.ofNat 1)])) x7 x8 x9 x10 x11 (some Tog_3_0_2_n2) x13 x14) := by kernel_rfl
theorem s8_3_0_2_n1 : forO 13 Lb (ksOf [0, 1, 2, 3]) (S15 x0 x1 (J 3) x3 (J 0) (J 2) (some (.tuple [(.int (.negSucc 0)), .int (.ofNat 1)])) x7 (some Tail_3_0) x9 x10 (some Means_3_0) (some (.list [])) none none) = nxt (S15 x0 x1 (J 3) x3 (J 0) (J 2) (some (.tuple [(.int (.negSucc 0)), .int (.ofNat 1)])) x7 (some Tail_3_0) x9 x10 (some Means_3_0) (some Tog_3_0_2_n1) (J 3) (some Due_3_0)) := by kernel_rfl
theorem s9_3_0_2_n1 : X_law_9 (S15 x0 x1 (J 3) x3 (J 0) (J 2) (some (.tuple [(.int (.negSucc 0)), .int (.ofNat 1)])) x7 x8 x9 x10 x11 (some Tog_3_0_2_n1) x13 x14) = nxt (S15 x0 x1 (J 3) x3 (J 0) (J 2) (some (.tuple [(.int (.negSucc 0)), .int (.ofNat 1)])) x7 x8 x9 x10 x11 (some Tog_3_0_2_n1) x13 x14) := by kernel_rfl
theorem s8_3_0_2_0 : forO 13 Lb (ksOf [0, 1, 2, 3]) (S15 x0 x1 (J 3) x3 (J 0) (J 2) (some (.tuple [(.int (.ofNat 0)), .int (.ofNat 1)])) x7 (some Tail_3_0) x9 x10 (some Means_3_0) (some (.list [])) none none) = nxt (S15 x0 x1 (J 3) x3 (J 0) (J 2) (some (.tuple [(.int (.ofNat 0)), .int (.ofNat 1)])) x7 (some Tail_3_0) x9 x10 (some Means_3_0) (some Tog_3_0_2_0) (J 3) (some Due_3_0)) := by kernel_rfl
theorem s9_3_0_2_0 : X_law_9 (S15 x0 x1 (J 3) x3 (J 0) (J 2) (some (.tuple [(.int (.ofNat 0)), .int (.ofNat 1)])) x7 x8 x9 x10 x11 (some Tog_3_0_2_0) x13 x14) = nxt (S15 x0 x1 (J 3) x3 (J 0) (J 2) (some (.tuple [(.int (.ofNat 0)), .int (.ofNat 1)])) x7 x8 x9 x10 x11 (some Tog_3_0_2_0) x13 x14) := by kernel_rfl
theorem s8_3_0_2_1 : forO 13 Lb (ksOf [0, 1, 2, 3]) (S15 x0 x1 (J 3) x3 (J 0) (J 2) (some (.tuple [(.int (.ofNat 1)), .int (.ofNat 1)])) x7 (some Tail_3_0) x9 x10 (some Means_3_0) (some (.list [])) none none) = nxt (S15 x0 x1 (J 3) x3 (J 0) (J 2) (some (.tuple [(.int (.ofNat 1)), .int (.ofNat 1)])) x7 (some Tail_3_0) x9 x10 (some Means_3_0) (some Tog_3_0_2_1) (J 3) (some Due_3_0)) := by kernel_rfl
theorem s9_3_0_2_1 : X_law_9 (S15 x0 x1 (J 3) x3 (J 0) (J 2) (some (.tuple [(.int (.ofNat 1)), .int (.ofNat 1)])) x7 x8 x9 x10 x11 (some Tog_3_0_2_1) x13 x14) = nxt (S15 x0 x1 (J 3) x3 (J 0) (J 2) (some (.tuple [(.int (.ofNat 1)), .int (.ofNat 1)])) x7 x8 x9 x10 x11 (some Tog_3_0_2_1) x13 x14) := by kernel_rfl
theorem s8_3_0_2_2 : forO 13 Lb (ksOf [0, 1, 2, 3]) (S15 x0 x1 (J 3) x3 (J 0) (J 2) (some (.tuple [(.int (.ofNat 2)), .int (.ofNat 1)])) x7 (some Tail_3_0) x9 x10 (some Means_3_0) (some (.list [])) none none) = nxt (S15 x0 x1 (J 3) x3 (J 0) (J 2) (some (.tuple [(.int (.ofNat 2)), .int (.ofNat 1)])) x7 (some Tail_3_0) x9 x10 (some Means_3_0) (some Tog_3_0_2_2) (J 3) (some Due_3_0)) := by kernel_rfl
theorem s9_3_0_2_2 : X_law_9 (S15 x0 x1 (J 3) x3 (J 0) (J 2) (some (.tuple [(.int (.ofNat 2)), .int (.ofNat 1)])) x7 x8 x9 x10 x11 (some Tog_3_0_2_2) x13 x14) = nxt (S15 x0 x1 (J 3) x3 (J 0) (J 2) (some (.tuple [(.int (.ofNat 2)), .int (.ofNat 1)])) x7 x8 x9 x10 x11 (some Tog_3_0_2_2) x13 x14) := by kernel_rfl
theorem s10_3_0 : X_end (S15 x0 x1 (J 3) x3 (J 0) x5 x6 (some Rows_3) (some Tail_3_0) x9 x10 x11 x12 x13 x14) = some (.ret (.bool true)) := by kernel_rfl
theorem s3_3_1 : X_law_3 (S15 x0 x1 (J 3) x3 (J 1) x5 x6 none none none none none none none none) = nxt (S15 x0 x1 (J 3) x3 (J 1) x5 x6 (some Rows_3) (some Tail_3_1) none none none none none none) := by kernel_rfl
theorem s5_3_1 : X_law_5 (S15 x0 x1 (J 3) x3 (J 1) x5 x6 (some Rows_3) (some Tail_3_1) none none none none none none) = nxt (S15 x0 x1 (J 3) x3 (J 1) x5 x6 (some Rows_3) (some Tail_3_1) (some Line_3_1) none none none none none) := by kernel_rfl
theorem s6_3_1_0 : X_law_6 (S15 x0 x1 (J 3) (some Rr0) (J 1) x5 x6 (some Rows_3) (some Tail_3_1) (some Line_3_1) none none none none none) = nxt (S15 x0 x1 (J 3) (some Rr0) (J 1) x5 x6 (some Rows_3) (some Tail_3_1) (some Line_3_1) (some Told_3_1_0) (some Means_3_1) none none none) := by kernel_rfl
theorem t1_3_1_0_0 : X_t1 (S15 x0 x1 (J 3) (some Rr0) (J 1) x5 x6 x7 (some Tail_3_1) x9 (some Told_3_1_0) (some Means_3_1) x12 (J 0) x14) = some false := by kernel_rfl
theorem t1_3_1_0_1 : X_t1 (S15 x0 x1 (J 3) (some Rr0) (J 1) x5 x6 x7 (some Tail_3_1) x9 (some Told_3_1_0) (some Means_3_1) x12 (J 1) x14) = some false := by kernel_rfl
theorem t1_3_1_0_2 : X_t1 (S15 x0 x1 (J 3) (some Rr0) (J 1) x5 x6 x7 (some Tail_3_1) x9 (some Told_3_1_0) (some Means_3_1) x12 (J 2) x14) = some false := by kernel_rfl
theorem t1_3_1_0_3 : X_t1 (S15 x0 x1 (J 3) (some Rr0) (J 1) x5 x6 x7 (some Tail_3_1) x9 (some Told_3_1_0) (some Means_3_1) x12 (J 3) x14) = some false := by kernel_rfl
theorem s6_3_1_1 : X_law_6 (S15 x0 x1 (J 3) (some Rr1) (J 1) x5 x6 (some Rows_3) (some Tail_3_1) (some Line_3_1) none none none none none) = nxt (S15 x0 x1 (J 3) (some Rr1) (J 1) x5 x6 (some Rows_3) (some Tail_3_1) (some Line_3_1) (some Told_3_1_1) (some Means_3_1) none none none) := by kernel_rfl
theorem t1_3_1_1_0 : X_t1 (S15 x0 x1 (J 3) (some Rr1) (J 1) x5 x6 x7 (some Tail_3_1) x9 (some Told_3_1_1) (some Means_3_1) x12 (J 0) x14) = some false := by kernel_rfl
theorem t1_3_1_1_1 : X_t1 (S15 x0 x1 (J 3) (some Rr1) (J 1) x5 x6 x7 (some Tail_3_1) x9 (some Told_3_1_1) (some Means_3_1) x12 (J 1) x14) = some false := by kernel_rfl
theorem t1_3_1_1_2 : X_t1 (S15 x0 x1 (J 3) (some Rr1) (J 1) x5 x6 x7 (some Tail_3_1) x9 (some Told_3_1_1) (some Means_3_1) x12 (J 2) x14) = some false := by kernel_rfl
theorem t1_3_1_1_3 : X_t1 (S15 x0 x1 (J 3) (some Rr1) (J 1) x5 x6 x7 (some Tail_3_1) x9 (some Told_3_1_1) (some Means_3_1) x12 (J 3) x14) = some false := by kernel_rfl
theorem s6_3_1_2 : X_law_6 (S15 x0 x1 (J 3) (some Rr2) (J 1) x5 x6 (some Rows_3) (some Tail_3_1) (some Line_3_1) none none none none none) = nxt (S15 x0 x1 (J 3) (some Rr2) (J 1) x5 x6 (some Rows_3) (some Tail_3_1) (some Line_3_1) (some Told_3_1_2) (some Means_3_1) none none none) := by kernel_rfl
theorem t1_3_1_2_0 : X_t1 (S15 x0 x1 (J 3) (some Rr2) (J 1) x5 x6 x7 (some Tail_3_1) x9 (some Told_3_1_2) (some Means_3_1) x12 (J 0) x14) = some false := by kernel_rfl
theorem t1_3_1_2_1 : X_t1 (S15 x0 x1 (J 3) (some Rr2) (J 1) x5 x6 x7 (some Tail_3_1) x9 (some Told_3_1_2) (some Means_3_1) x12 (J 1) x14) = some false := by kernel_rfl
theorem t1_3_1_2_2 : X_t1 (S15 x0 x1 (J 3) (some Rr2) (J 1) x5 x6 x7 (some Tail_3_1) x9 (some Told_3_1_2) (some Means_3_1) x12 (J 2) x14) = some false := by kernel_rfl
theorem t1_3_1_2_3 : X_t1 (S15 x0 x1 (J 3) (some Rr2) (J 1) x5 x6 x7 (some Tail_3_1) x9 (some Told_3_1_2) (some Means_3_1) x12 (J 3) x14) = some false := by kernel_rfl
theorem s6_3_1_3 : X_law_6 (S15 x0 x1 (J 3) (some Rr3) (J 1) x5 x6 (some Rows_3) (some Tail_3_1) (some Line_3_1) none none none none none) = nxt (S15 x0 x1 (J 3) (some Rr3) (J 1) x5 x6 (some Rows_3) (some Tail_3_1) (some Line_3_1) (some Told_3_1_3) (some Means_3_1) none none none) := by kernel_rfl
theorem t1_3_1_3_0 : X_t1 (S15 x0 x1 (J 3) (some Rr3) (J 1) x5 x6 x7 (some Tail_3_1) x9 (some Told_3_1_3) (some Means_3_1) x12 (J 0) x14) = some false := by kernel_rfl
theorem t1_3_1_3_1 : X_t1 (S15 x0 x1 (J 3) (some Rr3) (J 1) x5 x6 x7 (some Tail_3_1) x9 (some Told_3_1_3) (some Means_3_1) x12 (J 1) x14) = some false := by kernel_rfl
theorem t1_3_1_3_2 : X_t1 (S15 x0 x1 (J 3) (some Rr3) (J 1) x5 x6 x7 (some Tail_3_1) x9 (some Told_3_1_3) (some Means_3_1) x12 (J 2) x14) = some false := by kernel_rfl
theorem t1_3_1_3_3 : X_t1 (S15 x0 x1 (J 3) (some Rr3) (J 1) x5 x6 x7 (some Tail_3_1) x9 (some Told_3_1_3) (some Means_3_1) x12 (J 3) x14) = some false := by kernel_rfl
theorem s6_3_1_4 : X_law_6 (S15 x0 x1 (J 3) (some Rr4) (J 1) x5 x6 (some Rows_3) (some Tail_3_1) (some Line_3_1) none none none none none) = nxt (S15 x0 x1 (J 3) (some Rr4) (J 1) x5 x6 (some Rows_3) (some Tail_3_1) (some Line_3_1) (some Told_3_1_4) (some Means_3_1) none none none) := by kernel_rfl
theorem t1_3_1_4_0 : X_t1 (S15 x0 x1 (J 3) (some Rr4) (J 1) x5 x6 x7 (some Tail_3_1) x9 (some Told_3_1_4) (some Means_3_1) x12 (J 0) x14) = some false := by kernel_rfl
theorem t1_3_1_4_1 : X_t1 (S15 x0 x1 (J 3) (some Rr4) (J 1) x5 x6 x7 (some Tail_3_1) x9 (some Told_3_1_4) (some Means_3_1) x12 (J 1) x14) = some false := by kernel_rfl
theorem t1_3_1_4_2 : X_t1 (S15 x0 x1 (J 3) (some Rr4) (J 1) x5 x6 x7 (some Tail_3_1) x9 (some Told_3_1_4) (some Means_3_1) x12 (J 2) x14) = some false := by kernel_rfl
theorem t1_3_1_4_3 : X_t1 (S15 x0 x1 (J 3) (some Rr4) (J 1) x5 x6 x7 (some Tail_3_1) x9 (some Told_3_1_4) (some Means_3_1) x12 (J 3) x14) = some false := by kernel_rfl
theorem s6_3_1_5 : X_law_6 (S15 x0 x1 (J 3) (some Rr5) (J 1) x5 x6 (some Rows_3) (some Tail_3_1) (some Line_3_1) none none none none none) = nxt (S15 x0 x1 (J 3) (some Rr5) (J 1) x5 x6 (some Rows_3) (some Tail_3_1) (some Line_3_1) (some Told_3_1_5) (some Means_3_1) none none none) := by kernel_rfl
theorem t1_3_1_5_0 : X_t1 (S15 x0 x1 (J 3) (some Rr5) (J 1) x5 x6 x7 (some Tail_3_1) x9 (some Told_3_1_5) (some Means_3_1) x12 (J 0) x14) = some false := by kernel_rfl
theorem t1_3_1_5_1 : X_t1 (S15 x0 x1 (J 3) (some Rr5) (J 1) x5 x6 x7 (some Tail_3_1) x9 (some Told_3_1_5) (some Means_3_1) x12 (J 1) x14) = some false := by kernel_rfl
theorem t1_3_1_5_2 : X_t1 (S15 x0 x1 (J 3) (some Rr5) (J 1) x5 x6 x7 (some Tail_3_1) x9 (some Told_3_1_5) (some Means_3_1) x12 (J 2) x14) = some false := by kernel_rfl
theorem t1_3_1_5_3 : X_t1 (S15 x0 x1 (J 3) (some Rr5) (J 1) x5 x6 x7 (some Tail_3_1) x9 (some Told_3_1_5) (some Means_3_1) x12 (J 3) x14) = some false := by kernel_rfl
theorem s6_3_1_6 : X_law_6 (S15 x0 x1 (J 3) (some Rr6) (J 1) x5 x6 (some Rows_3) (some Tail_3_1) (some Line_3_1) none none none none none) = nxt (S15 x0 x1 (J 3) (some Rr6) (J 1) x5 x6 (some Rows_3) (some Tail_3_1) (some Line_3_1) (some Told_3_1_6) (some Means_3_1) none none none) := by kernel_rfl
theorem t1_3_1_6_0 : X_t1 (S15 x0 x1 (J 3) (some Rr6) (J 1) x5 x6 x7 (some Tail_3_1) x9 (some Told_3_1_6) (some Means_3_1) x12 (J 0) x14) = some false := by kernel_rfl
theorem t1_3_1_6_1 : X_t1 (S15 x0 x1 (J 3) (some Rr6) (J 1) x5 x6 x7 (some Tail_3_1) x9 (some Told_3_1_6) (some Means_3_1) x12 (J 1) x14) = some false := by kernel_rfl
theorem t1_3_1_6_2 : X_t1 (S15 x0 x1 (J 3) (some Rr6) (J 1) x5 x6 x7 (some Tail_3_1) x9 (some Told_3_1_6) (some Means_3_1) x12 (J 2) x14) = some false := by kernel_rfl
theorem t1_3_1_6_3 : X_t1 (S15 x0 x1 (J 3) (some Rr6) (J 1) x5 x6 x7 (some Tail_3_1) x9 (some Told_3_1_6) (some Means_3_1) x12 (J 3) x14) = some false := by kernel_rfl
theorem s6_3_1_7 : X_law_6 (S15 x0 x1 (J 3) (some Rr7) (J 1) x5 x6 (some Rows_3) (some Tail_3_1) (some Line_3_1) none none none none none) = nxt (S15 x0 x1 (J 3) (some Rr7) (J 1) x5 x6 (some Rows_3) (some Tail_3_1) (some Line_3_1) (some Told_3_1_7) (some Means_3_1) none none none) := by kernel_rfl
theorem t1_3_1_7_0 : X_t1 (S15 x0 x1 (J 3) (some Rr7) (J 1) x5 x6 x7 (some Tail_3_1) x9 (some Told_3_1_7) (some Means_3_1) x12 (J 0) x14) = some false := by kernel_rfl
theorem t1_3_1_7_1 : X_t1 (S15 x0 x1 (J 3) (some Rr7) (J 1) x5 x6 x7 (some Tail_3_1) x9 (some Told_3_1_7) (some Means_3_1) x12 (J 1) x14) = some false := by kernel_rfl
theorem t1_3_1_7_2 : X_t1 (S15 x0 x1 (J 3) (some Rr7) (J 1) x5 x6 x7 (some Tail_3_1) x9 (some Told_3_1_7) (some Means_3_1) x12 (J 2) x14) = some false := by kernel_rfl
theorem t1_3_1_7_3 : X_t1 (S15 x0 x1 (J 3) (some Rr7) (J 1) x5 x6 x7 (some Tail_3_1) x9 (some Told_3_1_7) (some Means_3_1) x12 (J 3) x14) = some false := by kernel_rfl
theorem s6_3_1_8 : X_law_6 (S15 x0 x1 (J 3) (some Rr8) (J 1) x5 x6 (some Rows_3) (some Tail_3_1) (some Line_3_1) none none none none none) = nxt (S15 x0 x1 (J 3) (some Rr8) (J 1) x5 x6 (some Rows_3) (some Tail_3_1) (some Line_3_1) (some Told_3_1_8) (some Means_3_1) none none none) := by kernel_rfl
theorem t1_3_1_8_0 : X_t1 (S15 x0 x1 (J 3) (some Rr8) (J 1) x5 x6 x7 (some Tail_3_1) x9 (some Told_3_1_8) (some Means_3_1) x12 (J 0) x14) = some false := by kernel_rfl
theorem t1_3_1_8_1 : X_t1 (S15 x0 x1 (J 3) (some Rr8) (J 1) x5 x6 x7 (some Tail_3_1) x9 (some Told_3_1_8) (some Means_3_1) x12 (J 1) x14) = some false := by kernel_rfl
theorem t1_3_1_8_2 : X_t1 (S15 x0 x1 (J 3) (some Rr8) (J 1) x5 x6 x7 (some Tail_3_1) x9 (some Told_3_1_8) (some Means_3_1) x12 (J 2) x14) = some false := by kernel_rfl
theorem t1_3_1_8_3 : X_t1 (S15 x0 x1 (J 3) (some Rr8) (J 1) x5 x6 x7 (some Tail_3_1) x9 (some Told_3_1_8) (some Means_3_1) x12 (J 3) x14) = some false := by kernel_rfl
theorem s6_3_1_9 : X_law_6 (S15 x0 x1 (J 3) (some Rr9) (J 1) x5 x6 (some Rows_3) (some Tail_3_1) (some Line_3_1) none none none none none) = nxt (S15 x0 x1 (J 3) (some Rr9) (J 1) x5 x6 (some Rows_3) (some Tail_3_1) (some Line_3_1) (some Told_3_1_9) (some Means_3_1) none none none) := by kernel_rfl
theorem t1_3_1_9_0 : X_t1 (S15 x0 x1 (J 3) (some Rr9) (J 1) x5 x6 x7 (some Tail_3_1) x9 (some Told_3_1_9) (some Means_3_1) x12 (J 0) x14) = some false := by kernel_rfl
theorem t1_3_1_9_1 : X_t1 (S15 x0 x1 (J 3) (some Rr9) (J 1) x5 x6 x7 (some Tail_3_1) x9 (some Told_3_1_9) (some Means_3_1) x12 (J 1) x14) = some false := by kernel_rfl
theorem t1_3_1_9_2 : X_t1 (S15 x0 x1 (J 3) (some Rr9) (J 1) x5 x6 x7 (some Tail_3_1) x9 (some Told_3_1_9) (some Means_3_1) x12 (J 2) x14) = some false := by kernel_rfl
theorem t1_3_1_9_3 : X_t1 (S15 x0 x1 (J 3) (some Rr9) (J 1) x5 x6 x7 (some Tail_3_1) x9 (some Told_3_1_9) (some Means_3_1) x12 (J 3) x14) = some false := by kernel_rfl
theorem s6_3_1_10 : X_law_6 (S15 x0 x1 (J 3) (some Rr10) (J 1) x5 x6 (some Rows_3) (some Tail_3_1) (some Line_3_1) none none none none none) = nxt (S15 x0 x1 (J 3) (some Rr10) (J 1) x5 x6 (some Rows_3) (some Tail_3_1) (some Line_3_1) (some Told_3_1_10) (some Means_3_1) none none none) := by kernel_rfl
theorem t1_3_1_10_0 : X_t1 (S15 x0 x1 (J 3) (some Rr10) (J 1) x5 x6 x7 (some Tail_3_1) x9 (some Told_3_1_10) (some Means_3_1) x12 (J 0) x14) = some false := by kernel_rfl
theorem t1_3_1_10_1 : X_t1 (S15 x0 x1 (J 3) (some Rr10) (J 1) x5 x6 x7 (some Tail_3_1) x9 (some Told_3_1_10) (some Means_3_1) x12 (J 1) x14) = some false := by kernel_rfl
theorem t1_3_1_10_2 : X_t1 (S15 x0 x1 (J 3) (some Rr10) (J 1) x5 x6 x7 (some Tail_3_1) x9 (some Told_3_1_10) (some Means_3_1) x12 (J 2) x14) = some false := by kernel_rfl
theorem t1_3_1_10_3 : X_t1 (S15 x0 x1 (J 3) (some Rr10) (J 1) x5 x6 x7 (some Tail_3_1) x9 (some Told_3_1_10) (some Means_3_1) x12 (J 3) x14) = some false := by kernel_rfl
theorem d_3_1_0 : X_l8_0 (S15 x0 x1 (J 3) x3 (J 1) x5 x6 x7 x8 x9 x10 (some Means_3_1) x12 (J 0) x14) = nxt (S15 x0 x1 (J 3) x3 (J 1) x5 x6 x7 x8 x9 x10 (some Means_3_1) x12 (J 0) (some (.tuple [.int (.ofNat 0), .int (.ofNat 1)]))) := by kernel_rfl
theorem t2_3_1_0 : X_t2 (S15 x0 x1 (J 3) x3 (J 1) x5 x6 x7 (some Tail_3_1) x9 x10 (some Means_3_1) x12 (J 0) (some (.tuple [.int (.ofNat 0), .int (.ofNat 1)]))) = some false := by kernel_rfl
theorem d_3_1_1 : X_l8_0 (S15 x0 x1 (J 3) x3 (J 1) x5 x6 x7 x8 x9 x10 (some Means_3_1) x12 (J 1) x14) = nxt (S15 x0 x1 (J 3) x3 (J 1) x5 x6 x7 x8 x9 x10 (some Means_3_1) x12 (J 1) (some (.tuple [.int (.ofNat 0), .int (.ofNat 1)]))) := by kernel_rfl
theorem t2_3_1_1 : X_t2 (S15 x0 x1 (J 3) x3 (J 1) x5 x6 x7 (some Tail_3_1) x9 x10 (some Means_3_1) x12 (J 1) (some (.tuple [.int (.ofNat 0), .int (.ofNat 1)]))) = some false := by kernel_rfl
theorem d_3_1_2 : X_l8_0 (S15 x0 x1 (J 3) x3 (J 1) x5 x6 x7 x8 x9 x10 (some Means_3_1) x12 (J 2) x14) = nxt (S15 x0 x1 (J 3) x3 (J 1) x5 x6 x7 x8 x9 x10 (some Means_3_1) x12 (J 2) (some (.tuple [.int (.ofNat 0), .int (.ofNat 1)]))) := by kernel_rfl
theorem t2_3_1_2 : X_t2 (S15 x0 x1 (J 3) x3 (J 1) x5 x6 x7 (some Tail_3_1) x9 x10 (some Means_3_1) x12 (J 2) (some (.tuple [.int (.ofNat 0), .int (.ofNat 1)]))) = some false := by kernel_rfl
theorem d_3_1_3 : X_l8_0 (S15 x0 x1 (J 3) x3 (J 1) x5 x6 x7 x8 x9 x10 (some Means_3_1) x12 (J 3) x14) = nxt (S15 x0 x1 (J 3) x3 (J 1) x5 x6 x7 x8 x9 x10 (some Means_3_1) x12 (J 3) (some Due_3_1)) := by kernel_rfl
theorem t2_3_1_3 : X_t2 (S15 x0 x1 (J 3) x3 (J 1) x5 x6 x7 (some Tail_3_1) x9 x10 (some Means_3_1) x12 (J 3) (some Due_3_1)) = some false := by kernel_rfl
theorem s8_3_1_0_n2 : forO 13 Lb (ksOf [0, 1, 2, 3]) (S15 x0 x1 (J 3) x3 (J 1) (J 0) (some (.tuple [(.int (.negSucc 1)), .int (.ofNat 1)])) x7 (some Tail_3_1) x9 x10 (some Means_3_1) (some (.list [])) none none) = nxt (S15 x0 x1 (J 3) x3 (J 1) (J 0) (some (.tuple [(.int (.negSucc 1)), .int (.ofNat 1)])) x7 (some Tail_3_1) x9 x10 (some Means_3_1) (some Tog_3_1_0_n2) (J 3) (some Due_3_1)) := by kernel_rfl
theorem s9_3_1_0_n2 : X_law_9 (S15 x0 x1 (J 3) x3 (J 1) (J 0) (some (.tuple [(.int (.negSucc 1)), .int (.ofNat 1)])) x7 x8 x9 x10 x11 (some Tog_3_1_0_n2) x13 x14) = nxt (S15 x0 x1 (J 3) x3 (J 1) (J 0) (some (.tuple [(.int (.negSucc 1)), .int (.ofNat 1)])) x7 x8 x9 x10 x11 (some Tog_3_1_0_n2) x13 x14) := by kernel_rfl
theorem s8_3_1_0_n1 : forO 13 Lb (ksOf [0, 1, 2, 3]) (S15 x0 x1 (J 3) x3 (J 1) (J 0) (some (.tuple [(.int (.negSucc 0)), .int (.ofNat 1)])) x7 (some Tail_3_1) x9 x10 (some Means_3_1) (some (.list [])) none none) = nxt (S15 x0 x1 (J 3) x3 (J 1) (J 0) (some (.tuple [(.int (.negSucc 0)), .int (.ofNat 1)])) x7 (some Tail_3_1) x9 x10 (some Means_3_1) (some Tog_3_1_0_n1) (J 3) (some Due_3_1)) := by kernel_rfl
theorem s9_3_1_0_n1 : X_law_9 (S15 x0 x1 (J 3) x3 (J 1) (J 0) (some (.tuple [(.int (.negSucc 0)), .int (.ofNat 1)])) x7 x8 x9 x10 x11 (some Tog_3_1_0_n1) x13 x14) = nxt (S15 x0 x1 (J 3) x3 (J 1) (J 0) (some (.tuple [(.int (.negSucc 0)), .int (.ofNat 1)])) x7 x8 x9 x10 x11 (some Tog_3_1_0_n1) x13 x14) := by kernel_rfl
theorem s8_3_1_0_0 : forO 13 Lb (ksOf [0, 1, 2, 3]) (S15 x0 x1 (J 3) x3 (J 1) (J 0) (some (.tuple [(.int (.ofNat 0)), .int (.ofNat 1)])) x7 (some Tail_3_1) x9 x10 (some Means_3_1) (some (.list [])) none none) = nxt (S15 x0 x1 (J 3) x3 (J 1) (J 0) (some (.tuple [(.int (.ofNat 0)), .int (.ofNat 1)])) x7 (some Tail_3_1) x9 x10 (some Means_3_1) (some Tog_3_1_0_0) (J 3) (some Due_3_1)) := by kernel_rfl
theorem s9_3_1_0_0 : X_law_9 (S15 x0 x1 (J 3) x3 (J 1) (J 0) (some (.tuple [(.int (.ofNat 0)), .int (.ofNat 1)])) x7 x8 x9 x10 x11 (some Tog_3_1_0_0) x13 x14) = nxt (S15 x0 x1 (J 3) x3 (J 1) (J 0) (some (.tuple [(.int (.ofNat 0)), .int (.ofNat 1)])) x7 x8 x9 x10 x11 (some Tog_3_1_0_0) x13 x14) := by kernel_rfl
theorem s8_3_1_0_1 : forO 13 Lb (ksOf [0, 1, 2, 3]) (S15 x0 x1 (J 3) x3 (J 1) (J 0) (some (.tuple [(.int (.ofNat 1)), .int (.ofNat 1)])) x7 (some Tail_3_1) x9 x10 (some Means_3_1) (some (.list [])) none none) = nxt (S15 x0 x1 (J 3) x3 (J 1) (J 0) (some (.tuple [(.int (.ofNat 1)), .int (.ofNat 1)])) x7 (some Tail_3_1) x9 x10 (some Means_3_1) (some Tog_3_1_0_1) (J 3) (some Due_3_1)) := by kernel_rfl
theorem s9_3_1_0_1 : X_law_9 (S15 x0 x1 (J 3) x3 (J 1) (J 0) (some (.tuple [(.int (.ofNat 1)), .int (.ofNat 1)])) x7 x8 x9 x10 x11 (some Tog_3_1_0_1) x13 x14) = nxt (S15 x0 x1 (J 3) x3 (J 1) (J 0) (some (.tuple [(.int (.ofNat 1)), .int (.ofNat 1)])) x7 x8 x9 x10 x11 (some Tog_3_1_0_1) x13 x14) := by kernel_rfl
theorem s8_3_1_0_2 : forO 13 Lb (ksOf [0, 1, 2, 3]) (S15 x0 x1 (J 3) x3 (J 1) (J 0) (some (.tuple [(.int (.ofNat 2)), .int (.ofNat 1)])) x7 (some Tail_3_1) x9 x10 (some Means_3_1) (some (.list [])) none none) = nxt (S15 x0 x1 (J 3) x3 (J 1) (J 0) (some (.tuple [(.int (.ofNat 2)), .int (.ofNat 1)])) x7 (some Tail_3_1) x9 x10 (some Means_3_1) (some Tog_3_1_0_2) (J 3) (some Due_3_1)) := by kernel_rfl
theorem s9_3_1_0_2 : X_law_9 (S15 x0 x1 (J 3) x3 (J 1) (J 0) (some (.tuple [(.int (.ofNat 2)), .int (.ofNat 1)])) x7 x8 x9 x10 x11 (some Tog_3_1_0_2) x13 x14) = nxt (S15 x0 x1 (J 3) x3 (J 1) (J 0) (some (.tuple [(.int (.ofNat 2)), .int (.ofNat 1)])) x7 x8 x9 x10 x11 (some Tog_3_1_0_2) x13 x14) := by kernel_rfl
theorem s8_3_1_1_n2 : forO 13 Lb (ksOf [0, 1, 2, 3]) (S15 x0 x1 (J 3) x3 (J 1) (J 1) (some (.tuple [(.int (.negSucc 1)), .int (.ofNat 1)])) x7 (some Tail_3_1) x9 x10 (some Means_3_1) (some (.list [])) none none) = nxt (S15 x0 x1 (J 3) x3 (J 1) (J 1) (some (.tuple [(.int (.negSucc 1)), .int (.ofNat 1)])) x7 (some Tail_3_1) x9 x10 (some Means_3_1) (some Tog_3_1_1_n2) (J 3) (some Due_3_1)) := by kernel_rfl
theorem s9_3_1_1_n2 : X_law_9 (S15 x0 x1 (J 3) x3 (J 1) (J 1) (some (.tuple [(.int (.negSucc 1)), .int (.ofNat 1)])) x7 x8 x9 x10 x11 (some Tog_3_1_1_n2) x13 x14) = nxt (S15 x0 x1 (J 3) x3 (J 1) (J 1) (some (.tuple [(.int (.negSucc 1)), .int (.ofNat 1)])) x7 x8 x9 x10 x11 (some Tog_3_1_1_n2) x13 x14) := by kernel_rfl
theorem s8_3_1_1_n1 : forO 13 Lb (ksOf [0, 1, 2, 3]) (S15 x0 x1 (J 3) x3 (J 1) (J 1) (some (.tuple [(.int (.negSucc 0)), .int (.ofNat 1)])) x7 (some Tail_3_1) x9 x10 (some Means_3_1) (some (.list [])) none none) = nxt (S15 x0 x1 (J 3) x3 (J 1) (J 1) (some (.tuple [(.int (.negSucc 0)), .int (.ofNat 1)])) x7 (some Tail_3_1) x9 x10 (some Means_3_1) (some Tog_3_1_1_n1) (J 3) (some Due_3_1)) := by kernel_rfl
theorem s9_3_1_1_n1 : X_law_9 (S15 x0 x1 (J 3) x3 (J 1) (J 1) (some (.tuple [(.int (.negSucc 0)), .int (.ofNat 1)])) x7 x8 x9 x10 x11 (some Tog_3_1_1_n1) x13 x14) = nxt (S15 x0 x1 (J 3) x3 (J 1) (J 1) (some (.tuple [(.int (.negSucc 0)), .int (.ofNat 1)])) x7 x8 x9 x10 x11 (some Tog_3_1_1_n1) x13 x14) := by kernel_rfl
theorem s8_3_1_1_0 : forO 13 Lb (ksOf [0, 1, 2, 3]) (S15 x0 x1 (J 3) x3 (J 1) (J 1) (some (.tuple [(.int (.ofNat 0)), .int (.ofNat 1)])) x7 (some Tail_3_1) x9 x10 (some Means_3_1) (some (.list [])) none none) = nxt (S15 x0 x1 (J 3) x3 (J 1) (J 1) (some (.tuple [(.int (.ofNat 0)), .int (.ofNat 1)])) x7 (some Tail_3_1) x9 x10 (some Means_3_1) (some Tog_3_1_1_0) (J 3) (some Due_3_1)) := by kernel_rfl
theorem s9_3_1_1_0 : X_law_9 (S15 x0 x1 (J 3) x3 (J 1) (J 1) (some (.tuple [(.int (.ofNat 0)), .int (.ofNat 1)])) x7 x8 x9 x10 x11 (some Tog_3_1_1_0) x13 x14) = nxt (S15 x0 x1 (J 3) x3 (J 1) (J 1) (some (.tuple [(.int (.ofNat 0)), .int (.ofNat 1)])) x7 x8 x9 x10 x11 (some Tog_3_1_1_0) x13 x14) := by kernel_rfl
theorem s8_3_1_1_1 : forO 13 Lb (ksOf [0, 1, 2, 3]) (S15 x0 x1 (J 3) x3 (J 1) (J 1) (some (.tuple [(.int (.ofNat 1)), .int (.ofNat 1)])) x7 (some Tail_3_1) x9 x10 (some Means_3_1) (some (.list [])) none none) = nxt (S15 x0 x1 (J 3) x3 (J 1) (J 1) (some (.tuple [(.int (.ofNat 1)), .int (.ofNat 1)])) x7 (some Tail_3_1) x9 x10 (some Means_3_1) (some Tog_3_1_1_1) (J 3) (some Due_3_1)) := by kernel_rfl
theorem s9_3_1_1_1 : X_law_9 (S15 x0 x1 (J 3) x3 (J 1) (J 1) (some (.tuple [(.int (.ofNat 1)), .int (.ofNat 1)])) x7 x8 x9 x10 x11 (some Tog_3_1_1_1) x13 x14) = nxt (S15 x0 x1 (J 3) x3 (J 1) (J 1) (some (.tuple [(.int (.ofNat 1)), .int (.ofNat 1)])) x7 x8 x9 x10 x11 (some Tog_3_1_1_1) x13 x14) := by kernel_rfl
theorem s8_3_1_1_2 : forO 13 Lb (ksOf [0, 1, 2, 3]) (S15 x0 x1 (J 3) x3 (J 1) (J 1) (some (.tuple [(.int (.ofNat 2)), .int (.ofNat 1)])) x7 (some Tail_3_1) x9 x10 (some Means_3_1) (some (.list [])) none none) = nxt (S15 x0 x1 (J 3) x3 (J 1) (J 1) (some (.tuple [(.int (.ofNat 2)), .int (.ofNat 1)])) x7 (some Tail_3_1) x9 x10 (some Means_3_1) (some Tog_3_1_1_2) (J 3) (some Due_3_1)) := by kernel_rfl
theorem s9_3_1_1_2 : X_law_9 (S15 x0 x1 (J 3) x3 (J 1) (J 1) (some (.tuple [(.int (.ofNat 2)), .int (.ofNat 1)])) x7 x8 x9 x10 x11 (some Tog_3_1_1_2) x13 x14) = nxt (S15 x0 x1 (J 3) x3 (J 1) (J 1) (some (.tuple [(.int (.ofNat 2)), .int (.ofNat 1)])) x7 x8 x9 x10 x11 (some Tog_3_1_1_2) x13 x14) := by kernel_rfl
theorem s8_3_1_2_n2 : forO 13 Lb (ksOf [0, 1, 2, 3]) (S15 x0 x1 (J 3) x3 (J 1) (J 2) (some (.tuple [(.int (.negSucc 1)), .int (.ofNat 1)])) x7 (some Tail_3_1) x9 x10 (some Means_3_1) (some (.list [])) none none) = nxt (S15 x0 x1 (J 3) x3 (J 1) (J 2) (some (.tuple [(.int (.negSucc 1)), .int (.ofNat 1)])) x7 (some Tail_3_1) x9 x10 (some Means_3_1) (some Tog_3_1_2_n2) (J 3) (some Due_3_1)) := by kernel_rfl
theorem s9_3_1_2_n2 : X_law_9 (S15 x0 x1 (J 3) x3 (J 1) (J 2) (some (.tuple [(.int (.negSucc 1)), .int (.ofNat 1)])) x7 x8 x9 x10 x11 (some Tog_3_1_2_n2) x13 x14) = nxt (S15 x0 x1 (J 3) x3 (J 1) (J 2) (some (.tuple [(.int (.negSucc 1)), .int (.ofNat 1)])) x7 x8 x9 x10 x11 (some Tog_3_1_2_n2) x13 x14) := by kernel_rfl
theorem s8_3_1_2_n1 : forO 13 Lb (ksOf [0, 1, 2, 3]) (S15 x0 x1 (J 3) x3 (J 1) (J 2) (some (.tuple [(.int (.negSucc 0)), .int (.ofNat 1)])) x7 (some Tail_3_1) x9 x10 (some Means_3_1) (some (.list [])) none none) = nxt (S15 x0 x1 (J 3) x3 (J 1) (J 2) (some (.tuple [(.int (.negSucc 0)), .int (.ofNat 1)])) x7 (some Tail_3_1) x9 x10 (some Means_3_1) (some Tog_3_1_2_n1) (J 3) (some Due_3_1)) := by kernel_rfl
theorem s9_3_1_2_n1 : X_law_9 (S15 x0 x1 (J 3) x3 (J 1) (J 2) (some (.tuple [(.int (.negSucc 0)), .int (.ofNat 1)])) x7 x8 x9 x10 x11 (some Tog_3_1_2_n1) x13 x14) = nxt (S15 x0 x1 (J 3) x3 (J 1) (J 2) (some (.tuple [(.int (.negSucc 0)), .int (.ofNat 1)])) x7 x8 x9 x10 x11 (some Tog_3_1_2_n1) x13 x14) := by kernel_rfl
theorem s8_3_1_2_0 : forO 13 Lb (ksOf [0, 1, 2, 3]) (S15 x0 x1 (J 3) x3 (J 1) (J 2) (some (.tuple [(.int (.ofNat 0)), .int (.ofNat 1)])) x7 (some Tail_3_1) x9 x10 (some Means_3_1) (some (.list [])) none none) = nxt (S15 x0 x1 (J 3) x3 (J 1) (J 2) (some (.tuple [(.int (.ofNat 0)), .int (.ofNat 1)])) x7 (some Tail_3_1) x9 x10 (some Means_3_1) (some Tog_3_1_2_0) (J 3) (some Due_3_1)) := by kernel_rfl
theorem s9_3_1_2_0 : X_law_9 (S15 x0 x1 (J 3) x3 (J 1) (J 2) (some (.tuple [(.int (.ofNat 0)), .int (.ofNat 1)])) x7 x8 x9 x10 x11 (some Tog_3_1_2_0) x13 x14) = nxt (S15 x0 x1 (J 3) x3 (J 1) (J 2) (some (.tuple [(.int (.ofNat 0)), .int (.ofNat 1)])) x7 x8 x9 x10 x11 (some Tog_3_1_2_0) x13 x14) := by kernel_rfl
theorem s8_3_1_2_1 : forO 13 Lb (ksOf [0, 1, 2, 3]) (S15 x0 x1 (J 3) x3 (J 1) (J 2) (some (.tuple [(.int (.ofNat 1)), .int (.ofNat 1)])) x7 (some Tail_3_1) x9 x10 (some Means_3_1) (some (.list [])) none none) = nxt (S15 x0 x1 (J 3) x3 (J 1) (J 2) (some (.tuple [(.int (.ofNat 1)), .int (.ofNat 1)])) x7 (some Tail_3_1) x9 x10 (some Means_3_1) (some Tog_3_1_2_1) (J 3) (some Due_3_1)) := by kernel_rfl
theorem s9_3_1_2_1 : X_law_9 (S15 x0 x1 (J 3) x3 (J 1) (J 2) (some (.tuple [(.int (.ofNat 1)), .int (.ofNat 1)])) x7 x8 x9 x10 x11 (some Tog_3_1_2_1) x13 x14) = nxt (S15 x0 x1 (J 3) x3 (J 1) (J 2) (some (.tuple [(.int (.ofNat 1)), .int (.ofNat 1)])) x7 x8 x9 x10 x11 (some Tog_3_1_2_1) x13 x14) := by kernel_rfl
theorem s8_3_1_2_2 : forO 13 Lb (ksOf [0, 1, 2, 3]) (S15 x0 x1 (J 3) x3 (J 1) (J 2) (some (.tuple [(.int (.ofNat 2)), .int (.ofNat 1)])) x7 (some Tail_3_1) x9 x10 (some Means_3_1) (some (.list [])) none none) = nxt (S15 x0 x1 (J 3) x3 (J 1) (J 2) (some (.tuple [(.int (.ofNat 2)), .int (.ofNat 1)])) x7 (some Tail_3_1) x9 x10 (some Means_3_1) (some Tog_3_1_2_2) (J 3) (some Due_3_1)) := by kernel_rfl
theorem s9_3_1_2_2 : X_law_9 (S15 x0 x1 (J 3) x3 (J 1) (J 2) (some (.tuple [(.int (.ofNat 2)), .int (.ofNat 1)])) x7 x8 x9 x10 x11 (some Tog_3_1_2_2) x13 x14) = nxt (S15 x0 x1 (J 3) x3 (J 1) (J 2) (some (.tuple [(.int (.ofNat 2)), .int (.ofNat 1)])) x7 x8 x9 x10 x11 (some Tog_3_1_2_2) x13 x14) := by kernel_rfl
theorem s10_3_1 : X_end (S15 x0 x1 (J 3) x3 (J 1) x5 x6 (some Rows_3) (some Tail_3_1) x9 x10 x11 x12 x13 x14) = some (.ret (.bool true)) := by kernel_rfl
theorem s3_3_2 : X_law_3 (S15 x0 x1 (J 3) x3 (J 2) x5 x6 none none none none none none none none) = nxt (S15 x0 x1 (J 3) x3 (J 2) x5 x6 (some Rows_3) (some Tail_3_2) none none none none none none) := by kernel_rfl
theorem s5_3_2 : X_law_5 (S15 x0 x1 (J 3) x3 (J 2) x5 x6 (some Rows_3) (some Tail_3_2) none none none none none none) = nxt (S15 x0 x1 (J 3) x3 (J 2) x5 x6 (some Rows_3) (some Tail_3_2) (some Line_3_2) none none none none none) := by kernel_rfl
theorem s6_3_2_0 : X_law_6 (S15 x0 x1 (J 3) (some Rr0) (J 2) x5 x6 (some Rows_3) (some Tail_3_2) (some Line_3_2) none none none none none) = nxt (S15 x0 x1 (J 3) (some Rr0) (J 2) x5 x6 (some Rows_3) (some Tail_3_2) (some Line_3_2) (some Told_3_2_0) (some Means_3_2) none none none) := by kernel_rfl
theorem t1_3_2_0_0 : X_t1 (S15 x0 x1 (J 3) (some Rr0) (J 2) x5 x6 x7 (some Tail_3_2) x9 (some Told_3_2_0) (some Means_3_2) x12 (J 0) x14) = some false := by kernel_rfl
theorem t1_3_2_0_1 : X_t1 (S15 x0 x1 (J 3) (some Rr0) (J 2) x5 x6 x7 (some Tail_3_2) x9 (some Told_3_2_0) (some Means_3_2) x12 (J 1) x14) = some false := by kernel_rfl
theorem t1_3_2_0_2 : X_t1 (S15 x0 x1 (J 3) (some Rr0) (J 2) x5 x6 x7 (some Tail_3_2) x9 (some Told_3_2_0) (some Means_3_2) x12 (J 2) x14) = some false := by kernel_rfl
theorem t1_3_2_0_3 : X_t1 (S15 x0 x1 (J 3) (some Rr0) (J 2) x5 x6 x7 (some Tail_3_2) x9 (some Told_3_2_0) (some Means_3_2) x12 (J 3) x14) = some false := by kernel_rfl
theorem s6_3_2_1 : X_law_6 (S15 x0 x1 (J 3) (some Rr1) (J 2) x5 x6 (some Rows_3) (some Tail_3_2) (some Line_3_2) none none none none none) = nxt (S15 x0 x1 (J 3) (some Rr1) (J 2) x5 x6 (some Rows_3) (some Tail_3_2) (some Line_3_2) (some Told_3_2_1) (some Means_3_2) none none none) := by kernel_rfl
theorem t1_3_2_1_0 : X_t1 (S15 x0 x1 (J 3) (some Rr1) (J 2) x5 x6 x7 (some Tail_3_2) x9 (some Told_3_2_1) (some Means_3_2) x12 (J 0) x14) = some false := by kernel_rfl
theorem t1_3_2_1_1 : X_t1 (S15 x0 x1 (J 3) (some Rr1) (J 2) x5 x6 x7 (some Tail_3_2) x9 (some Told_3_2_1) (some Means_3_2) x12 (J 1) x14) = some false := by kernel_rfl
theorem t1_3_2_1_2 : X_t1 (S15 x0 x1 (J 3) (some Rr1) (J 2) x5 x6 x7 (some Tail_3_2) x9 (some Told_3_2_1) (some Means_3_2) x12 (J 2) x14) = some false := by kernel_rfl
theorem t1_3_2_1_3 : X_t1 (S15 x0 x1 (J 3) (some Rr1) (J 2) x5 x6 x7 (some Tail_3_2) x9 (some Told_3_2_1) (some Means_3_2) x12 (J 3) x14) = some false := by kernel_rfl
theorem s6_3_2_2 : X_law_6 (S15 x0 x1 (J 3) (some Rr2) (J 2) x5 x6 (some Rows_3) (some Tail_3_2) (some Line_3_2) none none none none none) = nxt (S15 x0 x1 (J 3) (some Rr2) (J 2) x5 x6 (some Rows_3) (some Tail_3_2) (some Line_3_2) (some Told_3_2_2) (some Means_3_2) none none none) := by kernel_rfl
theorem t1_3_2_2_0 : X_t1 (S15 x0 x1 (J 3) (some Rr2) (J 2) x5 x6 x7 (some Tail_3_2) x9 (some Told_3_2_2) (some Means_3_2) x12 (J 0) x14) = some false := by kernel_rfl
theorem t1_3_2_2_1 : X_t1 (S15 x0 x1 (J 3) (some Rr2) (J 2) x5 x6 x7 (some Tail_3_2) x9 (some Told_3_2_2) (some Means_3_2) x12 (J 1) x14) = some false := by kernel_rfl
theorem t1_3_2_2_2 : X_t1 (S15 x0 x1 (J 3) (some Rr2) (J 2) x5 x6 x7 (some Tail_3_2) x9 (some Told_3_2_2) (some Means_3_2) x12 (J 2) x14) = some false := by kernel_rfl
theorem t1_3_2_2_3 : X_t1 (S15 x0 x1 (J 3) (some Rr2) (J 2) x5 x6 x7 (some Tail_3_2) x9 (some Told_3_2_2) (some Means_3_2) x12 (J 3) x14) = some false := by kernel_rfl
theorem s6_3_2_3 : X_law_6 (S15 x0 x1 (J 3) (some Rr3) (J 2) x5 x6 (some Rows_3) (some Tail_3_2) (some Line_3_2) none none none none none) = nxt (S15 x0 x1 (J 3) (some Rr3) (J 2) x5 x6 (some Rows_3) (some Tail_3_2) (some Line_3_2) (some Told_3_2_3) (some Means_3_2) none none none) := by kernel_rfl
theorem t1_3_2_3_0 : X_t1 (S15 x0 x1 (J 3) (some Rr3) (J 2) x5 x6 x7 (some Tail_3_2) x9 (some Told_3_2_3) (some Means_3_2) x12 (J 0) x14) = some false := by kernel_rfl
theorem t1_3_2_3_1 : X_t1 (S15 x0 x1 (J 3) (some Rr3) (J 2) x5 x6 x7 (some Tail_3_2) x9 (some Told_3_2_3) (some Means_3_2) x12 (J 1) x14) = some false := by kernel_rfl
theorem t1_3_2_3_2 : X_t1 (S15 x0 x1 (J 3) (some Rr3) (J 2) x5 x6 x7 (some Tail_3_2) x9 (some Told_3_2_3) (some Means_3_2) x12 (J 2) x14) = some false := by kernel_rfl
theorem t1_3_2_3_3 : X_t1 (S15 x0 x1 (J 3) (some Rr3) (J 2) x5 x6 x7 (some Tail_3_2) x9 (some Told_3_2_3) (some Means_3_2) x12 (J 3) x14) = some false := by kernel_rfl
theorem s6_3_2_4 : X_law_6 (S15 x0 x1 (J 3) (some Rr4) (J 2) x5 x6 (some Rows_3) (some Tail_3_2) (some Line_3_2) none none none none none) = nxt (S15 x0 x1 (J 3) (some Rr4) (J 2) x5 x6 (some Rows_3) (some Tail_3_2) (some Line_3_2) (some Told_3_2_4) (some Means_3_2) none none none) := by kernel_rfl
theorem t1_3_2_4_0 : X_t1 (S15 x0 x1 (J 3) (some Rr4) (J 2) x5 x6 x7 (some Tail_3_2) x9 (some Told_3_2_4) (some Means_3_2) x12 (J 0) x14) = some false := by kernel_rfl
theorem t1_3_2_4_1 : X_t1 (S15 x0 x1 (J 3) (some Rr4) (J 2) x5 x6 x7 (some Tail_3_2) x9 (some Told_3_2_4) (some Means_3_2) x12 (J 1) x14) = some false := by kernel_rfl
theorem t1_3_2_4_2 : X_t1 (S15 x0 x1 (J 3) (some Rr4) (J 2) x5 x6 x7 (some Tail_3_2) x9 (some Told_3_2_4) (some Means_3_2) x12 (J 2) x14) = some false := by kernel_rfl
theorem t1_3_2_4_3 : X_t1 (S15 x0 x1 (J 3) (some Rr4) (J 2) x5 x6 x7 (some Tail_3_2) x9 (some Told_3_2_4) (some Means_3_2) x12 (J 3) x14) = some false := by kernel_rfl
theorem s6_3_2_5 : X_law_6 (S15 x0 x1 (J 3) (some Rr5) (J 2) x5 x6 (some Rows_3) (some Tail_3_2) (some Line_3_2) none none none none none) = nxt (S15 x0 x1 (J 3) (some Rr5) (J 2) x5 x6 (some Rows_3) (some Tail_3_2) (some Line_3_2) (some Told_3_2_5) (some Means_3_2) none none none) := by kernel_rfl
theorem t1_3_2_5_0 : X_t1 (S15 x0 x1 (J 3) (some Rr5) (J 2) x5 x6 x7 (some Tail_3_2) x9 (some Told_3_2_5) (some Means_3_2) x12 (J 0) x14) = some false := by kernel_rfl
theorem t1_3_2_5_1 : X_t1 (S15 x0 x1 (J 3) (some Rr5) (J 2) x5 x6 x7 (some Tail_3_2) x9 (some Told_3_2_5) (some Means_3_2) x12 (J 1) x14) = some false := by kernel_rfl
theorem t1_3_2_5_2 : X_t1 (S15 x0 x1 (J 3) (some Rr5) (J 2) x5 x6 x7 (some Tail_3_2) x9 (some Told_3_2_5) (some Means_3_2) x12 (J 2) x14) = some false := by kernel_rfl
theorem t1_3_2_5_3 : X_t1 (S15 x0 x1 (J 3) (some Rr5) (J 2) x5 x6 x7 (some Tail_3_2) x9 (some Told_3_2_5) (some Means_3_2) x12 (J 3) x14) = some false := by kernel_rfl
theorem s6_3_2_6 : X_law_6 (S15 x0 x1 (J 3) (some Rr6) (J 2) x5 x6 (some Rows_3) (some Tail_3_2) (some Line_3_2) none none none none none) = nxt (S15 x0 x1 (J 3) (some Rr6) (J 2) x5 x6 (some Rows_3) (some Tail_3_2) (some Line_3_2) (some Told_3_2_6) (some Means_3_2) none none none) := by kernel_rfl
theorem t1_3_2_6_0 : X_t1 (S15 x0 x1 (J 3) (some Rr6) (J 2) x5 x6 x7 (some Tail_3_2) x9 (some Told_3_2_6) (some Means_3_2) x12 (J 0) x14) = some false := by kernel_rfl
theorem t1_3_2_6_1 : X_t1 (S15 x0 x1 (J 3) (some Rr6) (J 2) x5 x6 x7 (some Tail_3_2) x9 (some Told_3_2_6) (some Means_3_2) x12 (J 1) x14) = some false := by kernel_rfl
theorem t1_3_2_6_2 : X_t1 (S15 x0 x1 (J 3) (some Rr6) (J 2) x5 x6 x7 (some Tail_3_2) x9 (some Told_3_2_6) (some Means_3_2) x12 (J 2) x14) = some false := by kernel_rfl
theorem t1_3_2_6_3 : X_t1 (S15 x0 x1 (J 3) (some Rr6) (J 2) x5 x6 x7 (some Tail_3_2) x9 (some Told_3_2_6) (some Means_3_2) x12 (J 3) x14) = some false := by kernel_rfl
theorem s6_3_2_7 : X_law_6 (S15 x0 x1 (J 3) (some Rr7) (J 2) x5 x6 (some Rows_3) (some Tail_3_2) (some Line_3_2) none none none none none) = nxt (S15 x0 x1 (J 3) (some Rr7) (J 2) x5 x6 (some Rows_3) (some Tail_3_2) (some Line_3_2) (some Told_3_2_7) (some Means_3_2) none none none) := by kernel_rfl
theorem t1_3_2_7_0 : X_t1 (S15 x0 x1 (J 3) (some Rr7) (J 2) x5 x6 x7 (some Tail_3_2) x9 (some Told_3_2_7) (some Means_3_2) x12 (J 0) x14) = some false := by kernel_rfl
theorem t1_3_2_7_1 : X_t1 (S15 x0 x1 (J 3) (some Rr7) (J 2) x5 x6 x7 (some Tail_3_2) x9 (some Told_3_2_7) (some Means_3_2) x12 (J 1) x14) = some false := by kernel_rfl
theorem t1_3_2_7_2 : X_t1 (S15 x0 x1 (J 3) (some Rr7) (J 2) x5 x6 x7 (some Tail_3_2) x9 (some Told_3_2_7) (some Means_3_2) x12 (J 2) x14) = some false := by kernel_rfl
theorem t1_3_2_7_3 : X_t1 (S15 x0 x1 (J 3) (some Rr7) (J 2) x5 x6 x7 (some Tail_3_2) x9 (some Told_3_2_7) (some Means_3_2) x12 (J 3) x14) = some false := by kernel_rfl
theorem s6_3_2_8 : X_law_6 (S15 x0 x1 (J 3) (some Rr8) (J 2) x5 x6 (some Rows_3) (some Tail_3_2) (some Line_3_2) none none none none none) = nxt (S15 x0 x1 (J 3) (some Rr8) (J 2) x5 x6 (some Rows_3) (some Tail_3_2) (some Line_3_2) (some Told_3_2_8) (some Means_3_2) none none none) := by kernel_rfl
theorem t1_3_2_8_0 : X_t1 (S15 x0 x1 (J 3) (some Rr8) (J 2) x5 x6 x7 (some Tail_3_2) x9 (some Told_3_2_8) (some Means_3_2) x12 (J 0) x14) = some false := by kernel_rfl
theorem t1_3_2_8_1 : X_t1 (S15 x0 x1 (J 3) (some Rr8) (J 2) x5 x6 x7 (some Tail_3_2) x9 (some Told_3_2_8) (some Means_3_2) x12 (J 1) x14) = some false := by kernel_rfl
theorem t1_3_2_8_2 : X_t1 (S15 x0 x1 (J 3) (some Rr8) (J 2) x5 x6 x7 (some Tail_3_2) x9 (some Told_3_2_8) (some Means_3_2) x12 (J 2) x14) = some false := by kernel_rfl
theorem t1_3_2_8_3 : X_t1 (S15 x0 x1 (J 3) (some Rr8) (J 2) x5 x6 x7 (some Tail_3_2) x9 (some Told_3_2_8) (some Means_3_2) x12 (J 3) x14) = some false := by kernel_rfl
theorem s6_3_2_9 : X_law_6 (S15 x0 x1 (J 3) (some Rr9) (J 2) x5 x6 (some Rows_3) (some Tail_3_2) (some Line_3_2) none none none none none) = nxt (S15 x0 x1 (J 3) (some Rr9) (J 2) x5 x6 (some Rows_3) (some Tail_3_2) (some Line_3_2) (some Told_3_2_9) (some Means_3_2) none none none) := by kernel_rfl
theorem t1_3_2_9_0 : X_t1 (S15 x0 x1 (J 3) (some Rr9) (J 2) x5 x6 x7 (some Tail_3_2) x9 (some Told_3_2_9) (some Means_3_2) x12 (J 0) x14) = some false := by kernel_rfl
theorem t1_3_2_9_1 : X_t1 (S15 x0 x1 (J 3) (some Rr9) (J 2) x5 x6 x7 (some Tail_3_2) x9 (some Told_3_2_9) (some Means_3_2) x12 (J 1) x14) = some false := by kernel_rfl
theorem t1_3_2_9_2 : X_t1 (S15 x0 x1 (J 3) (some Rr9) (J 2) x5 x6 x7 (some Tail_3_2) x9 (some Told_3_2_9) (some Means_3_2) x12 (J 2) x14) = some false := by kernel_rfl
theorem t1_3_2_9_3 : X_t1 (S15 x0 x1 (J 3) (some Rr9) (J 2) x5 x6 x7 (some Tail_3_2) x9 (some Told_3_2_9) (some Means_3_2) x12 (J 3) x14) = some false := by kernel_rfl
theorem s6_3_2_10 : X_law_6 (S15 x0 x1 (J 3) (some Rr10) (J 2) x5 x6 (some Rows_3) (some Tail_3_2) (some Line_3_2) none none none none none) = nxt (S15 x0 x1 (J 3) (some Rr10) (J 2) x5 x6 (some Rows_3) (some Tail_3_2) (some Line_3_2) (some Told_3_2_10) (some Means_3_2) none none none) := by kernel_rfl
theorem t1_3_2_10_0 : X_t1 (S15 x0 x1 (J 3) (some Rr10) (J 2) x5 x6 x7 (some Tail_3_2) x9 (some Told_3_2_10) (some Means_3_2) x12 (J 0) x14) = some false := by kernel_rfl
theorem t1_3_2_10_1 : X_t1 (S15 x0 x1 (J 3) (some Rr10) (J 2) x5 x6 x7 (some Tail_3_2) x9 (some Told_3_2_10) (some Means_3_2) x12 (J 1) x14) = some false := by kernel_rfl
theorem t1_3_2_10_2 : X_t1 (S15 x0 x1 (J 3) (some Rr10) (J 2) x5 x6 x7 (some Tail_3_2) x9 (some Told_3_2_10) (some Means_3_2) x12 (J 2) x14) = some false := by kernel_rfl
theorem t1_3_2_10_3 : X_t1 (S15 x0 x1 (J 3) (some Rr10) (J 2) x5 x6 x7 (some Tail_3_2) x9 (some Told_3_2_10) (some Means_3_2) x12 (J 3) x14) = some false := by kernel_rfl
theorem d_3_2_0 : X_l8_0 (S15 x0 x1 (J 3) x3 (J 2) x5 x6 x7 x8 x9 x10 (some Means_3_2) x12 (J 0) x14) = nxt (S15 x0 x1 (J 3) x3 (J 2) x5 x6 x7 x8 x9 x10 (some Means_3_2) x12 (J 0) (some (.tuple [.int (.ofNat 0), .int (.ofNat 1)]))) := by kernel_rfl
theorem t2_3_2_0 : X_t2 (S15 x0 x1 (J 3) x3 (J 2) x5 x6 x7 (some Tail_3_2) x9 x10 (some Means_3_2) x12 (J 0) (some (.tuple [.int (.ofNat 0), .int (.ofNat 1)]))) = some false := by kernel_rfl
theorem d_3_2_1 : X_l8_0 (S15 x0 x1 (J 3) x3 (J 2) x5 x6 x7 x8 x9 x10 (some Means_3_2) x12 (J 1) x14) = nxt (S15 x0 x1 (J 3) x3 (J 2) x5 x6 x7 x8 x9 x10 (some Means_3_2) x12 (J 1) (some (.tuple [.int (.ofNat 0), .int (.ofNat 1)]))) := by kernel_rfl
theorem t2_3_2_1 : X_t2 (S15 x0 x1 (J 3) x3 (J 2) x5 x6 x7 (some Tail_3_2) x9 x10 (some Means_3_2) x12 (J 1) (some (.tuple [.int (.ofNat 0), .int (.ofNat 1)]))) = some false := by kernel_rfl
theorem d_3_2_2 : X_l8_0 (S15 x0 x1 (J 3) x3 (J 2) x5 x6 x7 x8 x9 x10 (some Means_3_2) x12 (J 2) x14) = nxt (S15 x0 x1 (J 3) x3 (J 2) x5 x6 x7 x8 x9 x10 (some Means_3_2) x12 (J 2) (some (.tuple [.int (.ofNat 0), .int (.ofNat 1)]))) := by kernel_rfl
theorem t2_3_2_2 : X_t2 (S15 x0 x1 (J 3) x3 (J 2) x5 x6 x7 (some Tail_3_2) x9 x10 (some Means_3_2) x12 (J 2) (some (.tuple [.int (.ofNat 0), .int (.ofNat 1)]))) = some false := by kernel_rfl
theorem d_3_2_3 : X_l8_0 (S15 x0 x1 (J 3) x3 (J 2) x5 x6 x7 x8 x9 x10 (some Means_3_2) x12 (J 3) x14) = nxt (S15 x0 x1 (J 3) x3 (J 2) x5 x6 x7 x8 x9 x10 (some Means_3_2) x12 (J 3) (some Due_3_2)) := by kernel_rfl
theorem t2_3_2_3 : X_t2 (S15 x0 x1 (J 3) x3 (J 2) x5 x6 x7 (some Tail_3_2) x9 x10 (some Means_3_2) x12 (J 3) (some Due_3_2)) = some false := by kernel_rfl
theorem s8_3_2_0_n2 : forO 13 Lb (ksOf [0, 1, 2, 3]) (S15 x0 x1 (J 3) x3 (J 2) (J 0) (some (.tuple [(.int (.negSucc 1)), .int (.ofNat 1)])) x7 (some Tail_3_2) x9 x10 (some Means_3_2) (some (.list [])) none none) = nxt (S15 x0 x1 (J 3) x3 (J 2) (J 0) (some (.tuple [(.int (.negSucc 1)), .int (.ofNat 1)])) x7 (some Tail_3_2) x9 x10 (some Means_3_2) (some Tog_3_2_0_n2) (J 3) (some Due_3_2)) := by kernel_rfl
theorem s9_3_2_0_n2 : X_law_9 (S15 x0 x1 (J 3) x3 (J 2) (J 0) (some (.tuple [(.int (.negSucc 1)), .int (.ofNat 1)])) x7 x8 x9 x10 x11 (some Tog_3_2_0_n2) x13 x14) = nxt (S15 x0 x1 (J 3) x3 (J 2) (J 0) (some (.tuple [(.int (.negSucc 1)), .int (.ofNat 1)])) x7 x8 x9 x10 x11 (some Tog_3_2_0_n2) x13 x14) := by kernel_rfl
theorem s8_3_2_0_n1 : forO 13 Lb (ksOf [0, 1, 2, 3]) (S15 x0 x1 (J 3) x3 (J 2) (J 0) (some (.tuple [(.int (.negSucc 0)), .int (.ofNat 1)])) x7 (some Tail_3_2) x9 x10 (some Means_3_2) (some (.list [])) none none) = nxt (S15 x0 x1 (J 3) x3 (J 2) (J 0) (some (.tuple [(.int (.negSucc 0)), .int (.ofNat 1)])) x7 (some Tail_3_2) x9 x10 (some Means_3_2) (some Tog_3_2_0_n1) (J 3) (some Due_3_2)) := by kernel_rfl
theorem s9_3_2_0_n1 : X_law_9 (S15 x0 x1 (J 3) x3 (J 2) (J 0) (some (.tuple [(.int (.negSucc 0)), .int (.ofNat 1)])) x7 x8 x9 x10 x11 (some Tog_3_2_0_n1) x13 x14) = nxt (S15 x0 x1 (J 3) x3 (J 2) (J 0) (some (.tuple [(.int (.negSucc 0)), .int (.ofNat 1)])) x7 x8 x9 x10 x11 (some Tog_3_2_0_n1) x13 x14) := by kernel_rfl
theorem s8_3_2_0_0 : forO 13 Lb (ksOf [0, 1, 2, 3]) (S15 x0 x1 (J 3) x3 (J 2) (J 0) (some (.tuple [(.int (.ofNat 0)), .int (.ofNat 1)])) x7 (some Tail_3_2) x9 x10 (some Means_3_2) (some (.list [])) none none) = nxt (S15 x0 x1 (J 3) x3 (J 2) (J 0) (some (.tuple [(.int (.ofNat 0)), .int (.ofNat 1)])) x7 (some Tail_3_2) x9 x10 (some Means_3_2) (some Tog_3_2_0_0) (J 3) (some Due_3_2)) := by kernel_rfl
theorem s9_3_2_0_0 : X_law_9 (S15 x0 x1 (J 3) x3 (J 2) (J 0) (some (.tuple [(.int (.ofNat 0)), .int (.ofNat 1)])) x7 x8 x9 x10 x11 (some Tog_3_2_0_0) x13 x14) = nxt (S15 x0 x1 (J 3) x3 (J 2) (J 0) (some (.tuple [(.int (.ofNat 0)), .int (.ofNat 1)])) x7 x8 x9 x10 x11 (some Tog_3_2_0_0) x13 x14) := by kernel_rfl
theorem s8_3_2_0_1 : forO 13 Lb (ksOf [0, 1, 2, 3]) (S15 x0 x1 (J 3) x3 (J 2) (J 0) (some (.tuple [(.int (.ofNat 1)), .int (.ofNat 1)])) x7 (some Tail_3_2) x9 x10 (some Means_3_2) (some (.list [])) none none) = nxt (S15 x0 x1 (J 3) x3 (J 2) (J 0) (some (.tuple [(.int (.ofNat 1)), .int (.ofNat 1)])) x7 (some Tail_3_2) x9 x10 (some Means_3_2) (some Tog_3_2_0_1) (J 3) (some Due_3_2)) := by kernel_rfl
theorem s9_3_2_0_1 : X_law_9 (S15 x0 x1 (J 3) x3 (J 2) (J 0) (some (.tuple [(.int (.ofNat 1)), .int (.ofNat 1)])) x7 x8 x9 x10 x11 (some Tog_3_2_0_1) x13 x14) = nxt (S15 x0 x1 (J 3) x3 (J 2) (J 0) (some (.tuple [(.int (.ofNat 1)), .int (.ofNat 1)])) x7 x8 x9 x10 x11 (some Tog_3_2_0_1) x13 x14) := by kernel_rfl
theorem s8_3_2_0_2 : forO 13 Lb (ksOf [0, 1, 2, 3]) (S15 x0 x1 (J 3) x3 (J 2) (J 0) (some (.tuple [(.int (.ofNat 2)), .int (.ofNat 1)])) x7 (some Tail_3_2) x9 x10 (some Means_3_2) (some (.list [])) none none) = nxt (S15 x0 x1 (J 3) x3 (J 2) (J 0) (some (.tuple [(.int (.ofNat 2)), .int (.ofNat 1)])) x7 (some Tail_3_2) x9 x10 (some Means_3_2) (some Tog_3_2_0_2) (J 3) (some Due_3_2)) := by kernel_rfl
theorem s9_3_2_0_2 : X_law_9 (S15 x0 x1 (J 3) x3 (J 2) (J 0) (some (.tuple [(.int (.ofNat 2)), .int (.ofNat 1)])) x7 x8 x9 x10 x11 (some Tog_3_2_0_2) x13 x14) = nxt (S15 x0 x1 (J 3) x3 (J 2) (J 0) (some (.tuple [(.int (.ofNat 2)), .int (.ofNat 1)])) x7 x8 x9 x10 x11 (some Tog_3_2_0_2) x13 x14) := by kernel_rfl
theorem s8_3_2_1_n2 : forO 13 Lb (ksOf [0, 1, 2, 3]) (S15 x0 x1 (J 3) x3 (J 2) (J 1) (some (.tuple [(.int (.negSucc 1)), .int (.ofNat 1)])) x7 (some Tail_3_2) x9 x10 (some Means_3_2) (some (.list [])) none none) = nxt (S15 x0 x1 (J 3) x3 (J 2) (J 1) (some (.tuple [(.int (.negSucc 1)), .int (.ofNat 1)])) x7 (some Tail_3_2) x9 x10 (some Means_3_2) (some Tog_3_2_1_n2) (J 3) (some Due_3_2)) := by kernel_rfl
theorem s9_3_2_1_n2 : X_law_9 (S15 x0 x1 (J 3) x3 (J 2) (J 1) (some (.tuple [(.int (.negSucc 1)), .int (.ofNat 1)])) x7 x8 x9 x10 x11 (some Tog_3_2_1_n2) x13 x14) = nxt (S15 x0 x1 (J 3) x3 (J 2) (J 1) (some (.tuple [(.int (.negSucc 1)), .int (.ofNat 1)])) x7 x8 x9 x10 x11 (some Tog_3_2_1_n2) x13 x14) := by kernel_rfl
theorem s8_3_2_1_n1 : forO 13 Lb (ksOf [0, 1, 2, 3]) (S15 x0 x1 (J 3) x3 (J 2) (J 1) (some (.tuple [(.int (.negSucc 0)), .int (.ofNat 1)])) x7 (some Tail_3_2) x9 x10 (some Means_3_2) (some (.list [])) none none) = nxt (S15 x0 x1 (J 3) x3 (J 2) (J 1) (some (.tuple [(.int (.negSucc 0)), .int (.ofNat 1)])) x7 (some Tail_3_2) x9 x10 (some Means_3_2) (some Tog_3_2_1_n1) (J 3) (some Due_3_2)) := by kernel_rfl
theorem s9_3_2_1_n1 : X_law_9 (S15 x0 x1 (J 3) x3 (J 2) (J 1) (some (.tuple [(.int (.negSucc 0)), .int (.ofNat 1)])) x7 x8 x9 x10 x11 (some Tog_3_2_1_n1) x13 x14) = nxt (S15 x0 x1 (J 3) x3 (J 2) (J 1) (some (.tuple [(.int (.negSucc 0)), .int (.ofNat 1)])) x7 x8 x9 x10 x11 (some Tog_3_2_1_n1) x13 x14) := by kernel_rfl
theorem s8_3_2_1_0 : forO 13 Lb (ksOf [0, 1, 2, 3]) (S15 x0 x1 (J 3) x3 (J 2) (J 1) (some (.tuple [(.int (.ofNat 0)), .int (.ofNat 1)])) x7 (some Tail_3_2) x9 x10 (some Means_3_2) (some (.list [])) none none) = nxt (S15 x0 x1 (J 3) x3 (J 2) (J 1) (some (.tuple [(.int (.ofNat 0)), .int (.ofNat 1)])) x7 (some Tail_3_2) x9 x10 (some Means_3_2) (some Tog_3_2_1_0) (J 3) (some Due_3_2)) := by kernel_rfl
theorem s9_3_2_1_0 : X_law_9 (S15 x0 x1 (J 3) x3 (J 2) (J 1) (some (.tuple [(.int (.ofNat 0)), .int (.ofNat 1)])) x7 x8 x9 x10 x11 (some Tog_3_2_1_0) x13 x14) = nxt (S15 x0 x1 (J 3) x3 (J 2) (J 1) (some (.tuple [(.int (.ofNat 0)), .int (.ofNat 1)])) x7 x8 x9 x10 x11 (some Tog_3_2_1_0) x13 x14) := by kernel_rfl
theorem s8_3_2_1_1 : forO 13 Lb (ksOf [0, 1, 2, 3]) (S15 x0 x1 (J 3) x3 (J 2) (J 1) (some (.tuple [(.int (.ofNat 1)), .int (.ofNat 1)])) x7 (some Tail_3_2) x9 x10 (some Means_3_2) (some (.list [])) none none) = nxt (S15 x0 x1 (J 3) x3 (J 2) (J 1) (some (.tuple [(.int (.ofNat 1)), .int (.ofNat 1)])) x7 (some Tail_3_2) x9 x10 (some Means_3_2) (some Tog_3_2_1_1) (J 3) (some Due_3_2)) := by kernel_rfl
theorem s9_3_2_1_1 : X_law_9 (S15 x0 x1 (J 3) x3 (J 2) (J 1) (some (.tuple [(.int (.ofNat 1)), .int (.ofNat 1)])) x7 x8 x9 x10 x11 (some Tog_3_2_1_1) x13 x14) = nxt (S15 x0 x1 (J 3) x3 (J 2) (J 1) (some (.tuple [(.int (.ofNat 1)), .int (.ofNat 1)])) x7 x8 x9 x10 x11 (some Tog_3_2_1_1) x13 x14) := by kernel_rfl
theorem s8_3_2_1_2 : forO 13 Lb (ksOf [0, 1, 2, 3]) (S15 x0 x1 (J 3) x3 (J 2) (J 1) (some (.tuple [(.int (.ofNat 2)), .int (.ofNat 1)])) x7 (some Tail_3_2) x9 x10 (some Means_3_2) (some (.list [])) none none) = nxt (S15 x0 x1 (J 3) x3 (J 2) (J 1) (some (.tuple [(.int (.ofNat 2)), .int (.ofNat 1)])) x7 (some Tail_3_2) x9 x10 (some Means_3_2) (some Tog_3_2_1_2) (J 3) (some Due_3_2)) := by kernel_rfl
theorem s9_3_2_1_2 : X_law_9 (S15 x0 x1 (J 3) x3 (J 2) (J 1) (some (.tuple [(.int (.ofNat 2)), .int (.ofNat 1)])) x7 x8 x9 x10 x11 (some Tog_3_2_1_2) x13 x14) = nxt (S15 x0 x1 (J 3) x3 (J 2) (J 1) (some (.tuple [(.int (.ofNat 2)), .int (.ofNat 1)])) x7 x8 x9 x10 x11 (some Tog_3_2_1_2) x13 x14) := by kernel_rfl
theorem s8_3_2_2_n2 : forO 13 Lb (ksOf [0, 1, 2, 3]) (S15 x0 x1 (J 3) x3 (J 2) (J 2) (some (.tuple [(.int (.negSucc 1)), .int (.ofNat 1)])) x7 (some Tail_3_2) x9 x10 (some Means_3_2) (some (.list [])) none none) = nxt (S15 x0 x1 (J 3) x3 (J 2) (J 2) (some (.tuple [(.int (.negSucc 1)), .int (.ofNat 1)])) x7 (some Tail_3_2) x9 x10 (some Means_3_2) (some Tog_3_2_2_n2) (J 3) (some Due_3_2)) := by kernel_rfl
theorem s9_3_2_2_n2 : X_law_9 (S15 x0 x1 (J 3) x3 (J 2) (J 2) (some (.tuple [(.int (.negSucc 1)), .int (.ofNat 1)])) x7 x8 x9 x10 x11 (some Tog_3_2_2_n2) x13 x14) = nxt (S15 x0 x1 (J 3) x3 (J 2) (J 2) (some (.tuple [(.int (.negSucc 1)), .int (.ofNat 1)])) x7 x8 x9 x10 x11 (some Tog_3_2_2_n2) x13 x14) := by kernel_rfl
theorem s8_3_2_2_n1 : forO 13 Lb (ksOf [0, 1, 2, 3]) (S15 x0 x1 (J 3) x3 (J 2) (J 2) (some (.tuple [(.int (.negSucc 0)), .int (.ofNat 1)])) x7 (some Tail_3_2) x9 x10 (some Means_3_2) (some (.list [])) none none) = nxt (S15 x0 x1 (J 3) x3 (J 2) (J 2) (some (.tuple [(.int (.negSucc 0)), .int (.ofNat 1)])) x7 (some Tail_3_2) x9 x10 (some Means_3_2) (some Tog_3_2_2_n1) (J 3) (some Due_3_2)) := by kernel_rfl
theorem s9_3_2_2_n1 : X_law_9 (S15 x0 x1 (J 3) x3 (J 2) (J 2) (some (.tuple [(.int (.negSucc 0)), .int (.ofNat 1)])) x7 x8 x9 x10 x11 (some Tog_3_2_2_n1) x13 x14) = nxt (S15 x0 x1 (J 3) x3 (J 2) (J 2) (some (.tuple [(.int (.negSucc 0)), .int (.ofNat 1)])) x7 x8 x9 x10 x11 (some Tog_3_2_2_n1) x13 x14) := by kernel_rfl
theorem s8_3_2_2_0 : forO 13 Lb (ksOf [0, 1, 2, 3]) (S15 x0 x1 (J 3) x3 (J 2) (J 2) (some (.tuple [(.int (.ofNat 0)), .int (.ofNat 1)])) x7 (some Tail_3_2) x9 x10 (some Means_3_2) (some (.list [])) none none) = nxt (S15 x0 x1 (J 3) x3 (J 2) (J 2) (some (.tuple [(.int (.ofNat 0)), .int (.ofNat 1)])) x7 (some Tail_3_2) x9 x10 (some Means_3_2) (some Tog_3_2_2_0) (J 3) (some Due_3_2)) := by kernel_rfl
theorem s9_3_2_2_0 : X_law_9 (S15 x0 x1 (J 3) x3 (J 2) (J 2) (some (.tuple [(.int (.ofNat 0)), .int (.ofNat 1)])) x7 x8 x9 x10 x11 (some Tog_3_2_2_0) x13 x14) = nxt (S15 x0 x1 (J 3) x3 (J 2) (J 2) (some (.tuple [(.int (.ofNat 0)), .int (.ofNat 1)])) x7 x8 x9 x10 x11 (some Tog_3_2_2_0) x13 x14) := by kernel_rfl
theorem s8_3_2_2_1 : forO 13 Lb (ksOf [0, 1, 2, 3]) (S15 x0 x1 (J 3) x3 (J 2) (J 2) (some (.tuple [(.int (.ofNat 1)), .int (.ofNat 1)])) x7 (some Tail_3_2) x9 x10 (some Means_3_2) (some (.list [])) none none) = nxt (S15 x0 x1 (J 3) x3 (J 2) (J 2) (some (.tuple [(.int (.ofNat 1)), .int (.ofNat 1)])) x7 (some Tail_3_2) x9 x10 (some Means_3_2) (some Tog_3_2_2_1) (J 3) (some Due_3_2)) := by kernel_rfl
theorem s9_3_2_2_1 : X_law_9 (S15 x0 x1 (J 3) x3 (J 2) (J 2) (some (.tuple [(.int (.ofNat 1)), .int (.ofNat 1)])) x7 x8 x9 x10 x11 (some Tog_3_2_2_1) x13 x14) = nxt (S15 x0 x1 (J 3) x3 (J 2) (J 2) (some (.tuple [(.int (.ofNat 1)), .int (.ofNat 1)])) x7 x8 x9 x10 x11 (some Tog_3_2_2_1) x13 x14) := by kernel_rfl
theorem s8_3_2_2_2 : forO 13 Lb (ksOf [0, 1, 2, 3]) (S15 x0 x1 (J 3) x3 (J 2) (J 2) (some (.tuple [(.int (.ofNat 2)), .int (.ofNat 1)])) x7 (some Tail_3_2) x9 x10 (some Means_3_2) (some (.list [])) none none) = nxt (S15 x0 x1 (J 3) x3 (J 2) (J 2) (some (.tuple [(.int (.ofNat 2)), .int (.ofNat 1)])) x7 (some Tail_3_2) x9 x10 (some Means_3_2) (some Tog_3_2_2_2) (J 3) (some Due_3_2)) := by kernel_rfl
theorem s9_3_2_2_2 : X_law_9 (S15 x0 x1 (J 3) x3 (J 2) (J 2) (some (.tuple [(.int (.ofNat 2)), .int (.ofNat 1)])) x7 x8 x9 x10 x11 (some Tog_3_2_2_2) x13 x14) = nxt (S15 x0 x1 (J 3) x3 (J 2) (J 2) (some (.tuple [(.int (.ofNat 2)), .int (.ofNat 1)])) x7 x8 x9 x10 x11 (some Tog_3_2_2_2) x13 x14) := by kernel_rfl
theorem s10_3_2 : X_end (S15 x0 x1 (J 3) x3 (J 2) x5 x6 (some Rows_3) (some Tail_3_2) x9 x10 x11 x12 x13 x14) = some (.ret (.bool true)) := by kernel_rfl
theorem hend_4 (r t : OD) : X_hend [(J 4), r, some Rows_4, t, some (.int (.ofNat 24)), (J 4), none] = some (.ret (.bool true)) := by kernel_rfl
theorem hm_4_0 : F__law_hermite_right [(.int (.ofNat 4)), Rr0, Rows_4] = some (.bool true) := herm (told := HT_4_0) (by_ := (.int (.ofNat 24))) (by kernel_rfl) (hend_4 _ _)
theorem hm_4_1 : F__law_hermite_right [(.int (.ofNat 4)), Rr1, Rows_4] = some (.bool true) := herm (told := HT_4_1) (by_ := (.int (.ofNat 24))) (by kernel_rfl) (hend_4 _ _)
theorem hm_4_2 : F__law_hermite_right [(.int (.ofNat 4)), Rr2, Rows_4] = some (.bool true) := herm (told := HT_4_2) (by_ := (.int (.ofNat 24))) (by kernel_rfl) (hend_4 _ _)
theorem hm_4_3 : F__law_hermite_right [(.int (.ofNat 4)), Rr3, Rows_4] = some (.bool true) := herm (told := HT_4_3) (by_ := (.int (.ofNat 24))) (by kernel_rfl) (hend_4 _ _)
theorem hm_4_4 : F__law_hermite_right [(.int (.ofNat 4)), Rr4, Rows_4] = some (.bool true) := herm (told := HT_4_4) (by_ := (.int (.ofNat 24))) (by kernel_rfl) (hend_4 _ _)
theorem hm_4_5 : F__law_hermite_right [(.int (.ofNat 4)), Rr5, Rows_4] = some (.bool true) := herm (told := HT_4_5) (by_ := (.int (.ofNat 24))) (by kernel_rfl) (hend_4 _ _)
theorem hm_4_6 : F__law_hermite_right [(.int (.ofNat 4)), Rr6, Rows_4] = some (.bool true) := herm (told := HT_4_6) (by_ := (.int (.ofNat 24))) (by kernel_rfl) (hend_4 _ _)
theorem hm_4_7 : F__law_hermite_right [(.int (.ofNat 4)), Rr7, Rows_4] = some (.bool true) := herm (told := HT_4_7) (by_ := (.int (.ofNat 24))) (by kernel_rfl) (hend_4 _ _)
theorem hm_4_8 : F__law_hermite_right [(.int (.ofNat 4)), Rr8, Rows_4] = some (.bool true) := herm (told := HT_4_8) (by_ := (.int (.ofNat 24))) (by kernel_rfl) (hend_4 _ _)
theorem hm_4_9 : F__law_hermite_right [(.int (.ofNat 4)), Rr9, Rows_4] = some (.bool true) := herm (told := HT_4_9) (by_ := (.int (.ofNat 24))) (by kernel_rfl) (hend_4 _ _)
theorem hm_4_10 : F__law_hermite_right [(.int (.ofNat 4)), Rr10, Rows_4] = some (.bool true) := herm (told := HT_4_10) (by_ := (.int (.ofNat 24))) (by kernel_rfl) (hend_4 _ _)
theorem s3_4_0 : X_law_3 (S15 x0 x1 (J 4) x3 (J 0) x5 x6 none none none none none none none none) = nxt (S15 x0 x1 (J 4) x3 (J 0) x5 x6 (some Rows_4) (some Tail_4_0) none none none none none none) := by kernel_rfl
theorem s5_4_0 : X_law_5 (S15 x0 x1 (J 4) x3 (J 0) x5 x6 (some Rows_4) (some Tail_4_0) none none none none none none) = nxt (S15 x0 x1 (J 4) x3 (J 0) x5 x6 (some Rows_4) (some Tail_4_0) (some Line_4_0) none none none none none) := by kernel_rfl
theorem s6_4_0_0 : X_law_6 (S15 x0 x1 (J 4) (some Rr0) (J 0) x5 x6 (some Rows_4) (some Tail_4_0) (some Line_4_0) none none none none none) = nxt (S15 x0 x1 (J 4) (some Rr0) (J 0) x5 x6 (some Rows_4) (some Tail_4_0) (some Line_4_0) (some Told_4_0_0) (some Means_4_0) none none none) := by kernel_rfl
theorem t1_4_0_0_0 : X_t1 (S15 x0 x1 (J 4) (some Rr0) (J 0) x5 x6 x7 (some Tail_4_0) x9 (some Told_4_0_0) (some Means_4_0) x12 (J 0) x14) = some false := by kernel_rfl
theorem t1_4_0_0_1 : X_t1 (S15 x0 x1 (J 4) (some Rr0) (J 0) x5 x6 x7 (some Tail_4_0) x9 (some Told_4_0_0) (some Means_4_0) x12 (J 1) x14) = some false := by kernel_rfl
theorem t1_4_0_0_2 : X_t1 (S15 x0 x1 (J 4) (some Rr0) (J 0) x5 x6 x7 (some Tail_4_0) x9 (some Told_4_0_0) (some Means_4_0) x12 (J 2) x14) = some false := by kernel_rfl
theorem t1_4_0_0_3 : X_t1 (S15 x0 x1 (J 4) (some Rr0) (J 0) x5 x6 x7 (some Tail_4_0) x9 (some Told_4_0_0) (some Means_4_0) x12 (J 3) x14) = some false := by kernel_rfl
theorem t1_4_0_0_4 : X_t1 (S15 x0 x1 (J 4) (some Rr0) (J 0) x5 x6 x7 (some Tail_4_0) x9 (some Told_4_0_0) (some Means_4_0) x12 (J 4) x14) = some false := by kernel_rfl
theorem s6_4_0_1 : X_law_6 (S15 x0 x1 (J 4) (some Rr1) (J 0) x5 x6 (some Rows_4) (some Tail_4_0) (some Line_4_0) none none none none none) = nxt (S15 x0 x1 (J 4) (some Rr1) (J 0) x5 x6 (some Rows_4) (some Tail_4_0) (some Line_4_0) (some Told_4_0_1) (some Means_4_0) none none none) := by kernel_rfl
theorem t1_4_0_1_0 : X_t1 (S15 x0 x1 (J 4) (some Rr1) (J 0) x5 x6 x7 (some Tail_4_0) x9 (some Told_4_0_1) (some Means_4_0) x12 (J 0) x14) = some false := by kernel_rfl
theorem t1_4_0_1_1 : X_t1 (S15 x0 x1 (J 4) (some Rr1) (J 0) x5 x6 x7 (some Tail_4_0) x9 (some Told_4_0_1) (some Means_4_0) x12 (J 1) x14) = some false := by kernel_rfl
theorem t1_4_0_1_2 : X_t1 (S15 x0 x1 (J 4) (some Rr1) (J 0) x5 x6 x7 (some Tail_4_0) x9 (some Told_4_0_1) (some Means_4_0) x12 (J 2) x14) = some false := by kernel_rfl
theorem t1_4_0_1_3 : X_t1 (S15 x0 x1 (J 4) (some Rr1) (J 0) x5 x6 x7 (some Tail_4_0) x9 (some Told_4_0_1) (some Means_4_0) x12 (J 3) x14) = some false := by kernel_rfl
theorem t1_4_0_1_4 : X_t1 (S15 x0 x1 (J 4) (some Rr1) (J 0) x5 x6 x7 (some Tail_4_0) x9 (some Told_4_0_1) (some Means_4_0) x12 (J 4) x14) = some false := by kernel_rfl
theorem s6_4_0_2 : X_law_6 (S15 x0 x1 (J 4) (some Rr2) (J 0) x5 x6 (some Rows_4) (some Tail_4_0) (some Line_4_0) none none none none none) = nxt (S15 x0 x1 (J 4) (some Rr2) (J 0) x5 x6 (some Rows_4) (some Tail_4_0) (some Line_4_0) (some Told_4_0_2) (some Means_4_0) none none none) := by kernel_rfl
theorem t1_4_0_2_0 : X_t1 (S15 x0 x1 (J 4) (some Rr2) (J 0) x5 x6 x7 (some Tail_4_0) x9 (some Told_4_0_2) (some Means_4_0) x12 (J 0) x14) = some false := by kernel_rfl
theorem t1_4_0_2_1 : X_t1 (S15 x0 x1 (J 4) (some Rr2) (J 0) x5 x6 x7 (some Tail_4_0) x9 (some Told_4_0_2) (some Means_4_0) x12 (J 1) x14) = some false := by kernel_rfl
theorem t1_4_0_2_2 : X_t1 (S15 x0 x1 (J 4) (some Rr2) (J 0) x5 x6 x7 (some Tail_4_0) x9 (some Told_4_0_2) (some Means_4_0) x12 (J 2) x14) = some false := by kernel_rfl
theorem t1_4_0_2_3 : X_t1 (S15 x0 x1 (J 4) (some Rr2) (J 0) x5 x6 x7 (some Tail_4_0) x9 (some Told_4_0_2) (some Means_4_0) x12 (J 3) x14) = some false := by kernel_rfl
theorem t1_4_0_2_4 : X_t1 (S15 x0 x1 (J 4) (some Rr2) (J 0) x5 x6 x7 (some Tail_4_0) x9 (some Told_4_0_2) (some Means_4_0) x12 (J 4) x14) = some false := by kernel_rfl
theorem s6_4_0_3 : X_law_6 (S15 x0 x1 (J 4) (some Rr3) (J 0) x5 x6 (some Rows_4) (some Tail_4_0) (some Line_4_0) none none none none none) = nxt (S15 x0 x1 (J 4) (some Rr3) (J 0) x5 x6 (some Rows_4) (some Tail_4_0) (some Line_4_0) (some Told_4_0_3) (some Means_4_0) none none none) := by kernel_rfl
theorem t1_4_0_3_0 : X_t1 (S15 x0 x1 (J 4) (some Rr3) (J 0) x5 x6 x7 (some Tail_4_0) x9 (some Told_4_0_3) (some Means_4_0) x12 (J 0) x14) = some false := by kernel_rfl
theorem t1_4_0_3_1 : X_t1 (S15 x0 x1 (J 4) (some Rr3) (J 0) x5 x6 x7 (some Tail_4_0) x9 (some Told_4_0_3) (some Means_4_0) x12 (J 1) x14) = some false := by kernel_rfl
theorem t1_4_0_3_2 : X_t1 (S15 x0 x1 (J 4) (some Rr3) (J 0) x5 x6 x7 (some Tail_4_0) x9 (some Told_4_0_3) (some Means_4_0) x12 (J 2) x14) = some false := by kernel_rfl
theorem t1_4_0_3_3 : X_t1 (S15 x0 x1 (J 4) (some Rr3) (J 0) x5 x6 x7 (some Tail_4_0) x9 (some Told_4_0_3) (some Means_4_0) x12 (J 3) x14) = some false := by kernel_rfl
theorem t1_4_0_3_4 : X_t1 (S15 x0 x1 (J 4) (some Rr3) (J 0) x5 x6 x7 (some Tail_4_0) x9 (some Told_4_0_3) (some Means_4_0) x12 (J 4) x14) = some false := by kernel_rfl
theorem s6_4_0_4 : X_law_6 (S15 x0 x1 (J 4) (some Rr4) (J 0) x5 x6 (some Rows_4) (some Tail_4_0) (some Line_4_0) none none none none none) = nxt (S15 x0 x1 (J 4) (some Rr4) (J 0) x5 x6 (some Rows_4) (some Tail_4_0) (some Line_4_0) (some Told_4_0_4) (some Means_4_0) none none none) := by kernel_rfl
theorem t1_4_0_4_0 : X_t1 (S15 x0 x1 (J 4) (some Rr4) (J 0) x5 x6 x7 (some Tail_4_0) x9 (some Told_4_0_4) (some Means_4_0) x12 (J 0) x14) = some false := by kernel_rfl
theorem t1_4_0_4_1 : X_t1 (S15 x0 x1 (J 4) (some Rr4) (J 0) x5 x6 x7 (some Tail_4_0) x9 (some Told_4_0_4) (some Means_4_0) x12 (J 1) x14) = some false := by kernel_rfl
theorem t1_4_0_4_2 : X_t1 (S15 x0 x1 (J 4) (some Rr4) (J 0) x5 x6 x7 (some Tail_4_0) x9 (some Told_4_0_4) (some Means_4_0) x12 (J 2) x14) = some false := by kernel_rfl
theorem t1_4_0_4_3 : X_t1 (S15 x0 x1 (J 4) (some Rr4) (J 0) x5 x6 x7 (some Tail_4_0) x9 (some Told_4_0_4) (some Means_4_0) x12 (J 3) x14) = some false := by kernel_rfl
theorem t1_4_0_4_4 : X_t1 (S15 x0 x1 (J 4) (some Rr4) (J 0) x5 x6 x7 (some Tail_4_0) x9 (some Told_4_0_4) (some Means_4_0) x12 (J 4) x14) = some false := by kernel_rfl
theorem s6_4_0_5 : X_law_6 (S15 x0 x1 (J 4) (some Rr5) (J 0) x5 x6 (some Rows_4) (some Tail_4_0) (some Line_4_0) none none none none none) = nxt (S15 x0 x1 (J 4) (some Rr5) (J 0) x5 x6 (some Rows_4) (some Tail_4_0) (some Line_4_0) (some Told_4_0_5) (some Means_4_0) none none none) := by kernel_rfl
theorem t1_4_0_5_0 : X_t1 (S15 x0 x1 (J 4) (some Rr5) (J 0) x5 x6 x7 (some Tail_4_0) x9 (some Told_4_0_5) (some Means_4_0) x12 (J 0) x14) = some false := by kernel_rfl
theorem t1_4_0_5_1 : X_t1 (S15 x0 x1 (J 4) (some Rr5) (J 0) x5 x6 x7 (some Tail_4_0) x9 (some Told_4_0_5) (some Means_4_0) x12 (J 1) x14) = some false := by kernel_rfl
theorem t1_4_0_5_2 : X_t1 (S15 x0 x1 (J 4) (some Rr5) (J 0) x5 x6 x7 (some Tail_4_0) x9 (some Told_4_0_5) (some Means_4_0) x12 (J 2) x14) = some false := by kernel_rfl
theorem t1_4_0_5_3 : X_t1 (S15 x0 x1 (J 4) (some Rr5) (J 0) x5 x6 x7 (some Tail_4_0) x9 (some Told_4_0_5) (some Means_4_0) x12 (J 3) x14) = some false := by kernel_rfl
theorem t1_4_0_5_4 : X_t1 (S15 x0 x1 (J 4) (some Rr5) (J 0) x5 x6 x7 (some Tail_4_0) x9 (some Told_4_0_5) (some Means_4_0) x12 (J 4) x14) = some false := by kernel_rfl
theorem s6_4_0_6 : X_law_6 (S15 x0 x1 (J 4) (some Rr6) (J 0) x5 x6 (some Rows_4) (some Tail_4_0) (some Line_4_0) none none none none none) = nxt (S15 x0 x1 (J 4) (some Rr6) (J 0) x5 x6 (some Rows_4) (some Tail_4_0) (some Line_4_0) (some Told_4_0_6) (some Means_4_0) none none none) := by kernel_rfl
theorem t1_4_0_6_0 : X_t1 (S15 x0 x1 (J 4) (some Rr6) (J 0) x5 x6 x7 (some Tail_4_0) x9 (some Told_4_0_6) (some Means_4_0) x12 (J 0) x14) = some false := by kernel_rfl
theorem t1_4_0_6_1 : X_t1 (S15 x0 x1 (J 4) (some Rr6) (J 0) x5 x6 x7 (some Tail_4_0) x9 (some Told_4_0_6) (some Means_4_0) x12 (J 1) x14) = some false := by kernel_rfl
theorem t1_4_0_6_2 : X_t1 (S15 x0 x1 (J 4) (some Rr6) (J 0) x5 x6 x7 (some Tail_4_0) x9 (some Told_4_0_6) (some Means_4_0) x12 (J 2) x14) = some false := by kernel_rfl
theorem t1_4_0_6_3 : X_t1 (S15 x0 x1 (J 4) (some Rr6) (J 0) x5 x6 x7 (some Tail_4_0) x9 (some Told_4_0_6) (some Means_4_0) x12 (J 3) x14) = some false := by kernel_rfl
theorem t1_4_0_6_4 : X_t1 (S15 x0 x1 (J 4) (some Rr6) (J 0) x5 x6 x7 (some Tail_4_0) x9 (some Told_4_0_6) (some Means_4_0) x12 (J 4) x14) = some false := by kernel_rfl
theorem s6_4_0_7 : X_law_6 (S15 x0 x1 (J 4) (some Rr7) (J 0) x5 x6 (some Rows_4) (some Tail_4_0) (some Line_4_0) none none none none none) = nxt (S15 x0 x1 (J 4) (some Rr7) (J 0) x5 x6 (some Rows_4) (some Tail_4_0) (some Line_4_0) (some Told_4_0_7) (some Means_4_0) none none none) := by kernel_rfl
theorem t1_4_0_7_0 : X_t1 (S15 x0 x1 (J 4) (some Rr7) (J 0) x5 x6 x7 (some Tail_4_0) x9 (some Told_4_0_7) (some Means_4_0) x12 (J 0) x14) = some false := by kernel_rfl
theorem t1_4_0_7_1 : X_t1 (S15 x0 x1 (J 4) (some Rr7) (J 0) x5 x6 x7 (some Tail_4_0) x9 (some Told_4_0_7) (some Means_4_0) x12 (J 1) x14) = some false := by kernel_rfl
theorem t1_4_0_7_2 : X_t1 (S15 x0 x1 (J 4) (some Rr7) (J 0) x5 x6 x7 (some Tail_4_0) x9 (some Told_4_0_7) (some Means_4_0) x12 (J 2) x14) = some false := by kernel_rfl
theorem t1_4_0_7_3 : X_t1 (S15 x0 x1 (J 4) (some Rr7) (J 0) x5 x6 x7 (some Tail_4_0) x9 (some Told_4_0_7) (some Means_4_0) x12 (J 3) x14) = some false := by kernel_rfl
theorem t1_4_0_7_4 : X_t1 (S15 x0 x1 (J 4) (some Rr7) (J 0) x5 x6 x7 (some Tail_4_0) x9 (some Told_4_0_7) (some Means_4_0) x12 (J 4) x14) = some false := by kernel_rfl
theorem s6_4_0_8 : X_law_6 (S15 x0 x1 (J 4) (some Rr8) (J 0) x5 x6 (some Rows_4) (some Tail_4_0) (some Line_4_0) none none none none none) = nxt (S15 x0 x1 (J 4) (some Rr8) (J 0) x5 x6 (some Rows_4) (some Tail_4_0) (some Line_4_0) (some Told_4_0_8) (some Means_4_0) none none none) := by kernel_rfl
theorem t1_4_0_8_0 : X_t1 (S15 x0 x1 (J 4) (some Rr8) (J 0) x5 x6 x7 (some Tail_4_0) x9 (some Told_4_0_8) (some Means_4_0) x12 (J 0) x14) = some false := by kernel_rfl
theorem t1_4_0_8_1 : X_t1 (S15 x0 x1 (J 4) (some Rr8) (J 0) x5 x6 x7 (some Tail_4_0) x9 (some Told_4_0_8) (some Means_4_0) x12 (J 1) x14) = some false := by kernel_rfl
theorem t1_4_0_8_2 : X_t1 (S15 x0 x1 (J 4) (some Rr8) (J 0) x5 x6 x7 (some Tail_4_0) x9 (some Told_4_0_8) (some Means_4_0) x12 (J 2) x14) = some false := by kernel_rfl
theorem t1_4_0_8_3 : X_t1 (S15 x0 x1 (J 4) (some Rr8) (J 0) x5 x6 x7 (some Tail_4_0) x9 (some Told_4_0_8) (some Means_4_0) x12 (J 3) x14) = some false := by kernel_rfl
theorem t1_4_0_8_4 : X_t1 (S15 x0 x1 (J 4) (some Rr8) (J 0) x5 x6 x7 (some Tail_4_0) x9 (some Told_4_0_8) (some Means_4_0) x12 (J 4) x14) = some false := by kernel_rfl
theorem s6_4_0_9 : X_law_6 (S15 x0 x1 (J 4) (some Rr9) (J 0) x5 x6 (some Rows_4) (some Tail_4_0) (some Line_4_0) none none none none none) = nxt (S15 x0 x1 (J 4) (some Rr9) (J 0) x5 x6 (some Rows_4) (some Tail_4_0) (some Line_4_0) (some Told_4_0_9) (some Means_4_0) none none none) := by kernel_rfl
theorem t1_4_0_9_0 : X_t1 (S15 x0 x1 (J 4) (some Rr9) (J 0) x5 x6 x7 (some Tail_4_0) x9 (some Told_4_0_9) (some Means_4_0) x12 (J 0) x14) = some false := by kernel_rfl
theorem t1_4_0_9_1 : X_t1 (S15 x0 x1 (J 4) (some Rr9) (J 0) x5 x6 x7 (some Tail_4_0) x9 (some Told_4_0_9) (some Means_4_0) x12 (J 1) x14) = some false := by kernel_rfl
theorem t1_4_0_9_2 : X_t1 (S15 x0 x1 (J 4) (some Rr9) (J 0) x5 x6 x7 (some Tail_4_0) x9 (some Told_4_0_9) (some Means_4_0) x12 (J 2) x14) = some false := by kernel_rfl
theorem t1_4_0_9_3 : X_t1 (S15 x0 x1 (J 4) (some Rr9) (J 0) x5 x6 x7 (some Tail_4_0) x9 (some Told_4_0_9) (some Means_4_0) x12 (J 3) x14) = some false := by kernel_rfl
theorem t1_4_0_9_4 : X_t1 (S15 x0 x1 (J 4) (some Rr9) (J 0) x5 x6 x7 (some Tail_4_0) x9 (some Told_4_0_9) (some Means_4_0) x12 (J 4) x14) = some false := by kernel_rfl
theorem s6_4_0_10 : X_law_6 (S15 x0 x1 (J 4) (some Rr10) (J 0) x5 x6 (some Rows_4) (some Tail_4_0) (some Line_4_0) none none none none none) = nxt (S15 x0 x1 (J 4) (some Rr10) (J 0) x5 x6 (some Rows_4) (some Tail_4_0) (some Line_4_0) (some Told_4_0_10) (some Means_4_0) none none none) := by kernel_rfl
theorem t1_4_0_10_0 : X_t1 (S15 x0 x1 (J 4) (some Rr10) (J 0) x5 x6 x7 (some Tail_4_0) x9 (some Told_4_0_10) (some Means_4_0) x12 (J 0) x14) = some false := by kernel_rfl
theorem t1_4_0_10_1 : X_t1 (S15 x0 x1 (J 4) (some Rr10) (J 0) x5 x6 x7 (some Tail_4_0) x9 (some Told_4_0_10) (some Means_4_0) x12 (J 1) x14) = some false := by kernel_rfl
theorem t1_4_0_10_2 : X_t1 (S15 x0 x1 (J 4) (some Rr10) (J 0) x5 x6 x7 (some Tail_4_0) x9 (some Told_4_0_10) (some Means_4_0) x12 (J 2) x14) = some false := by kernel_rfl
theorem t1_4_0_10_3 : X_t1 (S15 x0 x1 (J 4) (some Rr10) (J 0) x5 x6 x7 (some Tail_4_0) x9 (some Told_4_0_10) (some Means_4_0) x12 (J 3) x14) = some false := by kernel_rfl
theorem t1_4_0_10_4 : X_t1 (S15 x0 x1 (J 4) (some Rr10) (J 0) x5 x6 x7 (some Tail_4_0) x9 (some Told_4_0_10) (some Means_4_0) x12 (J 4) x14) = some false := by kernel_rfl
theorem d_4_0_0 : X_l8_0 (S15 x0 x1 (J 4) x3 (J 0) x5 x6 x7 x8 x9 x10 (some Means_4_0) x12 (J 0) x14) = nxt (S15 x0 x1 (J 4) x3 (J 0) x5 x6 x7 x8 x9 x10 (some Means_4_0) x12 (J 0) (some (.tuple [.int (.ofNat 0), .int (.ofNat 1)]))) := by kernel_rfl
theorem t2_4_0_0 : X_t2 (S15 x0 x1 (J 4) x3 (J 0) x5 x6 x7 (some Tail_4_0) x9 x10 (some Means_4_0) x12 (J 0) (some (.tuple [.int (.ofNat 0), .int (.ofNat 1)]))) = some false := by kernel_rfl
theorem d_4_0_1 : X_l8_0 (S15 x0 x1 (J 4) x3 (J 0) x5 x6 x7 x8 x9 x10 (some Means_4_0) x12 (J 1) x14) = nxt (S15 x0 x1 (J 4) x3 (J 0) x5 x6 x7 x8 x9 x10 (some Means_4_0) x12 (J 1) (some (.tuple [.int (.ofNat 0), .int (.ofNat 1)]))) := by kernel_rfl
theorem t2_4_0_1 : X_t2 (S15 x0 x1 (J 4) x3 (J 0) x5 x6 x7 (some Tail_4_0) x9 x10 (some Means_4_0) x12 (J 1) (some (.tuple [.int (.ofNat 0), .int (.ofNat 1)]))) = some false := by kernel_rfl
theorem d_4_0_2 : X_l8_0 (S15 x0 x1 (J 4) x3 (J 0) x5 x6 x7 x8 x9 x10 (some Means_4_0) x12 (J 2) x14) = nxt (S15 x0 x1 (J 4) x3 (J 0) x5 x6 x7 x8 x9 x10 (some Means_4_0) x12 (J 2) (some (.tuple [.int (.ofNat 0), .int (.ofNat 1)]))) := by kernel_rfl
theorem t2_4_0_2 : X_t2 (S15 x0 x1 (J 4) x3 (J 0) x5 x6 x7 (some Tail_4_0) x9 x10 (some Means_4_0) x12 (J 2) (some (.tuple [.int (.ofNat 0), .int (.ofNat 1)]))) = some false := by kernel_rfl
theorem d_4_0_3 : X_l8_0 (S15 x0 x1 (J 4) x3 (J 0) x5 x6 x7 x8 x9 x10 (some Means_4_0) x12 (J 3) x14) = nxt (S15 x0 x1 (J 4) x3 (J 0) x5 x6 x7 x8 x9 x10 (some Means_4_0) x12 (J 3) (some (.tuple [.int (.ofNat 0), .int (.ofNat 1)]))) := by kernel_rfl
theorem t2_4_0_3 : X_t2 (S15 x0 x1 (J 4) x3 (J 0) x5 x6 x7 (some Tail_4_0) x9 x10 (some Means_4_0) x12 (J 3) (some (.tuple [.int (.ofNat 0), .int (.ofNat 1)]))) = some false := by kernel_rfl
theorem d_4_0_4 : X_l8_0 (S15 x0 x1 (J 4) x3 (J 0) x5 x6 x7 x8 x9 x10 (some Means_4_0) x12 (J 4) x14) = nxt (S15 x0 x1 (J 4) x3 (J 0) x5 x6 x7 x8 x9 x10 (some Means_4_0) x12 (J 4) (some Due_4_0)) := by kernel_rfl
theorem t2_4_0_4 : X_t2 (S15 x0 x1 (J 4) x3 (J 0) x5 x6 x7 (some Tail_4_0) x9 x10 (some Means_4_0) x12 (J 4) (some Due_4_0)) = some false := by kernel_rfl
theorem s8_4_0_0_n2 : forO 13 Lb (ksOf [0, 1, 2, 3, 4]) (S15 x0 x1 (J 4) x3 (J 0) (J 0) (some (.tuple [(.int (.negSucc 1)), .int (.ofNat 1)])) x7 (some Tail_4_0) x9 x10 (some Means_4_0) (some (.list [])) none none) = nxt (S15 x0 x1 (J 4) x3 (J 0) (J 0) (some (.tuple [(.int (.negSucc 1)), .int (.ofNat 1)])) x7 (some Tail_4_0) x9 x10 (some Means_4_0) (some Tog_4_0_0_n2) (J 4) (some Due_4_0)) := by kernel_rfl
theorem s9_4_0_0_n2 : X_law_9 (S15 x0 x1 (J 4) x3 (J 0) (J 0) (some (.tuple [(.int (.negSucc 1)), .int (.ofNat 1)])) x7 x8 x9 x10 x11 (some Tog_4_0_0_n2) x13 x14) = nxt (S15 x0 x1 (J 4) x3 (J 0) (J 0) (some (.tuple [(.int (.negSucc 1)), .int (.ofNat 1)])) x7 x8 x9 x10 x11 (some Tog_4_0_0_n2) x13 x14) := by kernel_rfl
theorem s8_4_0_0_n1 : forO 13 Lb (ksOf [0, 1, 2, 3, 4]) (S15 x0 x1 (J 4) x3 (J 0) (J 0) (some (.tuple [(.int (.negSucc 0)), .int (.ofNat 1)])) x7 (some Tail_4_0) x9 x10 (some Means_4_0) (some (.list [])) none none) = nxt (S15 x0 x1 (J 4) x3 (J 0) (J 0) (some (.tuple [(.int (.negSucc 0)), .int (.ofNat 1)])) x7 (some Tail_4_0) x9 x10 (some Means_4_0) (some Tog_4_0_0_n1) (J 4) (some Due_4_0)) := by kernel_rfl
theorem s9_4_0_0_n1 : X_law_9 (S15 x0 x1 (J 4) x3 (J 0) (J 0) (some (.tuple [(.int (.negSucc 0)), .int (.ofNat 1)])) x7 x8 x9 x10 x11 (some Tog_4_0_0_n1) x13 x14) = nxt (S15 x0 x1 (J 4) x3 (J 0) (J 0) (some (.tuple [(.int (.negSucc 0)), .int (.ofNat 1)])) x7 x8 x9 x10 x11 (some Tog_4_0_0_n1) x13 x14) := by kernel_rfl
theorem s8_4_0_0_0 : forO 13 Lb (ksOf [0, 1, 2, 3, 4]) (S15 x0 x1 (J 4) x3 (J 0) (J 0) (some (.tuple [(.int (.ofNat 0)), .int (.ofNat 1)])) x7 (some Tail_4_0) x9 x10 (some Means_4_0) (some (.list [])) none none) = nxt (S15 x0 x1 (J 4) x3 (J 0) (J 0) (some (.tuple [(.int (.ofNat 0)), .int (.ofNat 1)])) x7 (some Tail_4_0) x9 x10 (some Means_4_0) (some Tog_4_0_0_0) (J 4) (some Due_4_0)) := by kernel_rfl
theorem s9_4_0_0_0 : X_law_9 (S15 x0 x1 (J 4) x3 (J 0) (J 0) (some (.tuple [(.int (.ofNat 0)), .int (.ofNat 1)])) x7 x8 x9 x10 x11 (some Tog_4_0_0_0) x13 x14) = nxt (S15 x0 x1 (J 4) x3 (J 0) (J 0) (some (.tuple [(.int (.ofNat 0)), .int (.ofNat 1)])) x7 x8 x9 x10 x11 (some Tog_4_0_0_0) x13 x14) := by kernel_rfl
theorem s8_4_0_0_1 : forO 13 Lb (ksOf [0, 1, 2, 3, 4]) (S15 x0 x1 (J 4) x3 (J 0) (J 0) (some (.tuple [(.int (.ofNat 1)), .int (.ofNat 1)])) x7 (some Tail_4_0) x9 x10 (some Means_4_0) (some (.list [])) none none) = nxt (S15 x0 x1 (J 4) x3 (J 0) (J 0) (some (.tuple [(.int (.ofNat 1)), .int (.ofNat 1)])) x7 (some Tail_4_0) x9 x10 (some Means_4_0) (some Tog_4_0_0_1) (J 4) (some Due_4_0)) := by kernel_rfl
theorem s9_4_0_0_1 : X_law_9 (S15 x0 x1 (J 4) x3 (J 0) (J 0) (some (.tuple [(.int (.ofNat 1)), .int (.ofNat 1)])) x7 x8 x9 x10 x11 (some Tog_4_0_0_1) x13 x14) = nxt (S15 x0 x1 (J 4) x3 (J 0) (J 0) (some (.tuple [(.int (.ofNat 1)), .int (.ofNat 1)])) x7 x8 x9 x10 x11 (some Tog_4_0_0_1) x13 x14) := by kernel_rfl
theorem s8_4_0_0_2 : forO 13 Lb (ksOf [0, 1, 2, 3, 4]) (S15 x0 x1 (J 4) x3 (J 0) (J 0) (some (.tuple [(.int (.ofNat 2)), .int (.ofNat 1)])) x7 (some Tail_4_0) x9 x10 (some Means_4_0) (some (.list [])) none none) = nxt (S15 x0 x1 (J 4) x3 (J 0) (J 0) (some (.tuple [(.int (.ofNat 2)), .int (.ofNat 1)])) x7 (some Tail_4_0) x9 x10 (some Means_4_0) (some Tog_4_0_0_2) (J 4) (some Due_4_0)) := by kernel_rfl
theorem s9_4_0_0_2 : X_law_9 (S15 x0 x1 (J 4) x3 (J 0) (J 0) (some (.tuple [(.int (.ofNat 2)), .int (.ofNat 1)])) x7 x8 x9 x10 x11 (some Tog_4_0_0_2) x13 x14) = nxt (S15 x0 x1 (J 4) x3 (J 0) (J 0) (some (.tuple [(.int (.ofNat 2)), .int (.ofNat 1)])) x7 x8 x9 x10 x11 (some Tog_4_0_0_2) x13 x14) := by kernel_rfl
theorem s8_4_0_1_n2 : forO 13 Lb (ksOf [0, 1, 2, 3, 4]) (S15 x0 x1 (J 4) x3 (J 0) (J 1) (some (.tuple [(.int (.negSucc 1)), .int (.ofNat 1)])) x7 (some Tail_4_0) x9 x10 (some Means_4_0) (some (.list [])) none none) = nxt (S15 x0 x1 (J 4) x3 (J 0) (J 1) (some (.tuple [(.int (.negSucc 1)), .int (.ofNat 1)])) x7 (some Tail_4_0) x9 x10 (some Means_4_0) (some Tog_4_0_1_n2) (J 4) (some Due_4_0)) := by kernel_rfl
theorem s9_4_0_1_n2 : X_law_9 (S15 x0 x1 (J 4) x3 (J 0) (J 1) (some (.tuple [(.int (.negSucc 1)), .int (.ofNat 1)])) x7 x8 x9 x10 x11 (some Tog_4_0_1_n2) x13 x14) = nxt (S15 x0 x1 (J 4) x3 (J 0) (J 1) (some (.tuple [(.int (.negSucc 1)), .int (.ofNat 1)])) x7 x8 x9 x10 x11 (some Tog_4_0_1_n2) x13 x14) := by kernel_rfl
theorem s8_4_0_1_n1 : forO 13 Lb (ksOf [0, 1, 2, 3, 4]) (S15 x0 x1 (J 4) x3 (J 0) (J 1) (some (.tuple [(.int (.negSucc 0)), .int (.ofNat 1)])) x7 (some Tail_4_0) x9 x10 (some Means_4_0) (some (.list [])) none none) = nxt (S15 x0 x1 (J 4) x3 (J 0) (J 1) (some (.tuple [(.int (.negSucc 0)), .int (.ofNat 1)])) x7 (some Tail_4_0) x9 x10 (some Means_4_0) (some Tog_4_0_1_n1) (J 4) (some Due_4_0)) := by kernel_rfl
theorem s9_4_0_1_n1 : X_law_9 (S15 x0 x1 (J 4) x3 (J 0) (J 1) (some (.tuple [(.int (.negSucc 0)), .int (.ofNat 1)])) x7 x8 x9 x10 x11 (some Tog_4_0_1_n1) x13 x14) = nxt (S15 x0 x1 (J 4) x3 (J 0) (J 1) (some (.tuple [(.int (.negSucc 0)), .int (.ofNat 1)])) x7 x8 x9 x10 x11 (some Tog_4_0_1_n1) x13 x14) := by kernel_rfl
theorem s8_4_0_1_0 : forO 13 Lb (ksOf [0, 1, 2, 3, 4]) (S15 x0 x1 (J 4) x3 (J 0) (J 1) (some (.tuple [(.int (.ofNat 0)), .int (.ofNat 1)])) x7 (some Tail_4_0) x9 x10 (some Means_4_0) (some (.list [])) none none) = nxt (S15 x0 x1 (J 4) x3 (J 0) (J 1) (some (.tuple [(.int (.ofNat 0)), .int (.ofNat 1)])) x7 (some Tail_4_0) x9 x10 (some Means_4_0) (some Tog_4_0_1_0) (J 4) (some Due_4_0)) := by kernel_rfl
theorem s9_4_0_1_0 : X_law_9 (S15 x0 x1 (J 4) x3 (J 0) (J 1) (some (.tuple [(.int (.ofNat 0)), .int (.ofNat 1)])) x7 x8 x9 x10 x11 (some Tog_4_0_1_0) x13 x14) = nxt (S15 x0 x1 (J 4) x3 (J 0) (J 1) (some (.tuple [(.int (.ofNat 0)), .int (.ofNat 1)])) x7 x8 x9 x10 x11 (some Tog_4_0_1_0) x13 x14) := by kernel_rfl
theorem s8_4_0_1_1 : forO 13 Lb (ksOf [0, 1, 2, 3, 4]) (S15 x0 x1 (J 4) x3 (J 0) (J 1) (some (.tuple [(.int (.ofNat 1)), .int (.ofNat 1)])) x7 (some Tail_4_0) x9 x10 (some Means_4_0) (some (.list [])) none none) = nxt (S15 x0 x1 (J 4) x3 (J 0) (J 1) (some (.tuple [(.int (.ofNat 1)), .int (.ofNat 1)])) x7 (some Tail_4_0) x9 x10 (some Means_4_0) (some Tog_4_0_1_1) (J 4) (some Due_4_0)) := by kernel_rfl
theorem s9_4_0_1_1 : X_law_9 (S15 x0 x1 (J 4) x3 (J 0) (J 1) (some (.tuple [(.int (.ofNat 1)), .int (.ofNat 1)])) x7 x8 x9 x10 x11 (some Tog_4_0_1_1) x13 x14) = nxt (S15 x0 x1 (J 4) x3 (J 0) (J 1) (some (.tuple [(.int (.ofNat 1)), .int (.ofNat 1)])) x7 x8 x9 x10 x11 (some Tog_4_0_1_1) x13 x14) := by kernel_rfl
theorem s8_4_0_1_2 : forO 13 Lb (ksOf [0, 1, 2, 3, 4]) (S15 x0 x1 (J 4) x3 (J 0) (J 1) (some (.tuple [(.int (.ofNat 2)), .int (.ofNat 1)])) x7 (some Tail_4_0) x9 x10 (some Means_4_0) (some (.list [])) none none) = nxt (S15 x0 x1 (J 4) x3 (J 0) (J 1) (some (.tuple [(.int (.ofNat 2)), .int (.ofNat 1)])) x7 (some Tail_4_0) x9 x10 (some Means_4_0) (some Tog_4_0_1_2) (J 4) (some Due_4_0)) := by kernel_rfl
theorem s9_4_0_1_2 : X_law_9 (S15 x0 x1 (J 4) x3 (J 0) (J 1) (some (.tuple [(.int (.ofNat 2)), .int (.ofNat 1)])) x7 x8 x9 x10 x11 (some Tog_4_0_1_2) x13 x14) = nxt (S15 x0 x1 (J 4) x3 (J 0) (J 1) (some (.tuple [(.int (.ofNat 2)), .int (.ofNat 1)])) x7 x8 x9 x10 x11 (some Tog_4_0_1_2) x13 x14) := by kernel_rfl
theorem s8_4_0_2_n2 : forO 13 Lb (ksOf [0, 1, 2, 3, 4]) (S15 x0 x1 (J 4) x3 (J 0) (J 2) (some (.tuple [(.int (.negSucc 1)), .int (.ofNat 1)])) x7 (some Tail_4_0) x9 x10 (some Means_4_0) (some (.list [])) none none) = nxt (S15 x0 x1 (J 4) x3 (J 0) (J 2) (some (.tuple [(.int (.negSucc 1)), .int (.ofNat 1)])) x7 (some Tail_4_0) x9 x10 (some Means_4_0) (some Tog_4_0_2_n2) (J 4) (some Due_4_0)) := by kernel_rfl
theorem s9_4_0_2_n2 : X_law_9 (S15 x0 x1 (J 4) x3 (J 0) (J 2) (some (.tuple [(.int (.negSucc 1)), .int (.ofNat 1)])) x7 x8 x9 x10 x11 (some Tog_4_0_2_n2) x13 x14) = nxt (S15 x0 x1 (J 4) x3 (J 0) (J 2) (some (.tuple [(.int (.negSucc 1)), .int (.ofNat 1)])) x7 x8 x9 x10 x11 (some Tog_4_0_2_n2) x13 x14) := by kernel_rfl
theorem s8_4_0_2_n1 : forO 13 Lb (ksOf [0, 1, 2, 3, 4]) (S15 x0 x1 (J 4) x3 (J 0) (J 2) (some (.tuple [(.int (.negSucc 0)), .int (.ofNat 1)])) x7 (some Tail_4_0) x9 x10 (some Means_4_0) (some (.list [])) none none) = nxt (S15 x0 x1 (J 4) x3 (J 0) (J 2) (some (.tuple [(.int (.negSucc 0)), .int (.ofNat 1)])) x7 (some Tail_4_0) x9 x10 (some Means_4_0) (some Tog_4_0_2_n1) (J 4) (some Due_4_0)) := by kernel_rfl
theorem s9_4_0_2_n1 : X_law_9 (S15 x0 x1 (J 4) x3 (J 0) (J 2) (some (.tuple [(.int (.negSucc 0)), .int (.ofNat 1)])) x7 x8 x9 x10 x11 (some Tog_4_0_2_n1) x13 x14) = nxt (S15 x0 x1 (J 4) x3 (J 0) (J 2) (some (.tuple [(.int (.negSucc 0)), .int (.ofNat 1)])) x7 x8 x9 x10 x11 (some Tog_4_0_2_n1) x13 x14) := by kernel_rfl
theorem s8_4_0_2_0 : forO 13 Lb (ksOf [0, 1, 2, 3, 4]) (S15 x0 x1 (J 4) x3 (J 0) (J 2) (some (.tuple [(.int (.ofNat 0)), .int (.ofNat 1)])) x7 (some Tail_4_0) x9 x10 (some Means_4_0) (some (.list [])) none none) = nxt (S15 x0 x1 (J 4) x3 (J 0) (J 2) (some (.tuple [(.int (.ofNat 0)), .int (.ofNat 1)])) x7 (some Tail_4_0) x9 x10 (some Means_4_0) (some Tog_4_0_2_0) (J 4) (some Due_4_0)) := by kernel_rfl
theorem s9_4_0_2_0 : X_law_9 (S15 x0 x1 (J 4) x3 (J 0) (J 2) (some (.tuple [(.int (.ofNat 0)), .int (.ofNat 1)])) x7 x8 x9 x10 x11 (some Tog_4_0_2_0) x13 x14) = nxt (S15 x0 x1 (J 4) x3 (J 0) (J 2) (some (.tuple [(.int (.ofNat 0)), .int (.ofNat 1)])) x7 x8 x9 x10 x11 (some Tog_4_0_2_0) x13 x14) := by kernel_rfl
theorem s8_4_0_2_1 : forO 13 Lb (ksOf [0, 1, 2, 3, 4]) (S15 x0 x1 (J 4) x3 (J 0) (J 2) (some (.tuple [(.int (.ofNat 1)), .int (.ofNat 1)])) x7 (some Tail_4_0) x9 x10 (some Means_4_0) (some (.list [])) none none) = nxt (S15 x0 x1 (J 4) x3 (J 0) (J 2) (some (.tuple [(.int (.ofNat 1)), .int (.ofNat 1)])) x7 (some Tail_4_0) x9 x10 (some Means_4_0) (some Tog_4_0_2_1) (J 4) (some Due_4_0)) := by kernel_rfl
theorem s9_4_0_2_1 : X_law_9 (S15 x0 x1 (J 4) x3 (J 0) (J 2) (some (.tuple [(.int (.ofNat 1)), .int (.ofNat 1)])) x7 x8 x9 x10 x11 (some Tog_4_0_2_1) x13 x14) = nxt (S15 x0 x1 (J 4) x3 (J 0) (J 2) (some (.tuple [(.int (.ofNat 1)), .int (.ofNat 1)])) x7 x8 x9 x10 x11 (some Tog_4_0_2_1) x13 x14) := by kernel_rfl
theorem s8_4_0_2_2 : forO 13 Lb (ksOf [0, 1, 2, 3, 4]) (S15 x0 x1 (J 4) x3 (J 0) (J 2) (some (.tuple [(.int (.ofNat 2)), .int (.ofNat 1)])) x7 (some Tail_4_0) x9 x10 (some Means_4_0) (some (.list [])) none none) = nxt (S15 x0 x1 (J 4) x3 (J 0) (J 2) (some (.tuple [(.int (.ofNat 2)), .int (.ofNat 1)])) x7 (some Tail_4_0) x9 x10 (some Means_4_0) (some Tog_4_0_2_2) (J 4) (some Due_4_0)) := by kernel_rfl
theorem s9_4_0_2_2 : X_law_9 (S15 x0 x1 (J 4) x3 (J 0) (J 2) (some (.tuple [(.int (.ofNat 2)), .int (.ofNat 1)])) x7 x8 x9 x10 x11 (some Tog_4_0_2_2) x13 x14) = nxt (S15 x0 x1 (J 4) x3 (J 0) (J 2) (some (.tuple [(.int (.ofNat 2)), .int (.ofNat 1)])) x7 x8 x9 x10 x11 (some Tog_4_0_2_2) x13 x14) := by kernel_rfl
theorem s10_4_0 : X_end (S15 x0 x1 (J 4) x3 (J 0) x5 x6 (some Rows_4) (some Tail_4_0) x9 x10 x11 x12 x13 x14) = some (.ret (.bool true)) := by kernel_rfl
theorem s3_4_1 : X_law_3 (S15 x0 x1 (J 4) x3 (J 1) x5 x6 none none none none none none none none) = nxt (S15 x0 x1 (J 4) x3 (J 1) x5 x6 (some Rows_4) (some Tail_4_1) none none none none none none) := by kernel_rfl
theorem s5_4_1 : X_law_5 (S15 x0 x1 (J 4) x3 (J 1) x5 x6 (some Rows_4) (some Tail_4_1) none none none none none none) = nxt (S15 x0 x1 (J 4) x3 (J 1) x5 x6 (some Rows_4) (some Tail_4_1) (some Line_4_1) none none none none none) := by kernel_rfl
theorem s6_4_1_0 : X_law_6 (S15 x0 x1 (J 4) (some Rr0) (J 1) x5 x6 (some Rows_4) (some Tail_4_1) (some Line_4_1) none none none none none) = nxt (S15 x0 x1 (J 4) (some Rr0) (J 1) x5 x6 (some Rows_4) (some Tail_4_1) (some Line_4_1) (some Told_4_1_0) (some Means_4_1) none none none) := by kernel_rfl
theorem t1_4_1_0_0 : X_t1 (S15 x0 x1 (J 4) (some Rr0) (J 1) x5 x6 x7 (some Tail_4_1) x9 (some Told_4_1_0) (some Means_4_1) x12 (J 0) x14) = some false := by kernel_rfl
theorem t1_4_1_0_1 : X_t1 (S15 x0 x1 (J 4) (some Rr0) (J 1) x5 x6 x7 (some Tail_4_1) x9 (some Told_4_1_0) (some Means_4_1) x12 (J 1) x14) = some false := by kernel_rfl
theorem t1_4_1_0_2 : X_t1 (S15 x0 x1 (J 4) (some Rr0) (J 1) x5 x6 x7 (some Tail_4_1) x9 (some Told_4_1_0) (some Means_4_1) x12 (J 2) x14) = some false := by kernel_rfl
theorem t1_4_1_0_3 : X_t1 (S15 x0 x1 (J 4) (some Rr0) (J 1) x5 x6 x7 (some Tail_4_1) x9 (some Told_4_1_0) (some Means_4_1) x12 (J 3) x14) = some false := by kernel_rfl
theorem t1_4_1_0_4 : X_t1 (S15 x0 x1 (J 4) (some Rr0) (J 1) x5 x6 x7 (some Tail_4_1) x9 (some Told_4_1_0) (some Means_4_1) x12 (J 4) x14) = some false := by kernel_rfl
theorem s6_4_1_1 : X_law_6 (S15 x0 x1 (J 4) (some Rr1) (J 1) x5 x6 (some Rows_4) (some Tail_4_1) (some Line_4_1) none none none none none) = nxt (S15 x0 x1 (J 4) (some Rr1) (J 1) x5 x6 (some Rows_4) (some Tail_4_1) (some Line_4_1) (some Told_4_1_1) (some Means_4_1) none none none) := by kernel_rfl
theorem t1_4_1_1_0 : X_t1 (S15 x0 x1 (J 4) (some Rr1) (J 1) x5 x6 x7 (some Tail_4_1) x9 (some Told_4_1_1) (some Means_4_1) x12 (J 0) x14) = some false := by kernel_rfl
theorem t1_4_1_1_1 : X_t1 (S15 x0 x1 (J 4) (some Rr1) (J 1) x5 x6 x7 (some Tail_4_1) x9 (some Told_4_1_1) (some Means_4_1) x12 (J 1) x14) = some false := by kernel_rfl
theorem t1_4_1_1_2 : X_t1 (S15 x0 x1 (J 4) (some Rr1) (J 1) x5 x6 x7 (some Tail_4_1) x9 (some Told_4_1_1) (some Means_4_1) x12 (J 2) x14) = some false := by kernel_rfl
theorem t1_4_1_1_3 : X_t1 (S15 x0 x1 (J 4) (some Rr1) (J 1) x5 x6 x7 (some Tail_4_1) x9 (some Told_4_1_1) (some Means_4_1) x12 (J 3) x14) = some false := by kernel_rfl
theorem t1_4_1_1_4 : X_t1 (S15 x0 x1 (J 4) (some Rr1) (J 1) x5 x6 x7 (some Tail_4_1) x9 (some Told_4_1_1) (some Means_4_1) x12 (J 4) x14) = some false := by kernel_rfl
theorem s6_4_1_2 : X_law_6 (S15 x0 x1 (J 4) (some Rr2) (J 1) x5 x6 (some Rows_4) (some Tail_4_1) (some Line_4_1) none none none none none) = nxt (S15 x0 x1 (J 4) (some Rr2) (J 1) x5 x6 (some Rows_4) (some Tail_4_1) (some Line_4_1) (some Told_4_1_2) (some Means_4_1) none none none) := by kernel_rfl
theorem t1_4_1_2_0 : X_t1 (S15 x0 x1 (J 4) (some Rr2) (J 1) x5 x6 x7 (some Tail_4_1) x9 (some Told_4_1_2) (some Means_4_1) x12 (J 0) x14) = some false := by kernel_rfl
theorem t1_4_1_2_1 : X_t1 (S15 x0 x1 (J 4) (some Rr2) (J 1) x5 x6 x7 (some Tail_4_1) x9 (some Told_4_1_2) (some Means_4_1) x12 (J 1) x14) = some false := by kernel_rfl
theorem t1_4_1_2_2 : X_t1 (S15 x0 x1 (J 4) (some Rr2) (J 1) x5 x6 x7 (some Tail_4_1) x9 (some Told_4_1_2) (some Means_4_1) x12 (J 2) x14) = some false := by kernel_rfl
theorem t1_4_1_2_3 : X_t1 (S15 x0 x1 (J 4) (some Rr2) (J 1) x5 x6 x7 (some Tail_4_1) x9 (some Told_4_1_2) (some Means_4_1) x12 (J 3) x14) = some false := by kernel_rfl
theorem t1_4_1_2_4 : X_t1 (S15 x0 x1 (J 4) (some Rr2) (J 1) x5 x6 x7 (some Tail_4_1) x9 (some Told_4_1_2) (some Means_4_1) x12 (J 4) x14) = some false := by kernel_rfl
theorem s6_4_1_3 : X_law_6 (S15 x0 x1 (J 4) (some Rr3) (J 1) x5 x6 (some Rows_4) (some Tail_4_1) (some Line_4_1) none none none none none) = nxt (S15 x0 x1 (J 4) (some Rr3) (J 1) x5 x6 (some Rows_4) (some Tail_4_1) (some Line_4_1) (some Told_4_1_3) (some Means_4_1) none none none) := by kernel_rfl
theorem t1_4_1_3_0 : X_t1 (S15 x0 x1 (J 4) (some Rr3) (J 1) x5 x6 x7 (some Tail_4_1) x9 (some Told_4_1_3) (some Means_4_1) x12 (J 0) x14) = some false := by kernel_rfl
theorem t1_4_1_3_1 : X_t1 (S15 x0 x1 (J 4) (some Rr3) (J 1) x5 x6 x7 (some Tail_4_1) x9 (some Told_4_1_3) (some Means_4_1) x12 (J 1) x14) = some false := by kernel_rfl
theorem t1_4_1_3_2 : X_t1 (S15 x0 x1 (J 4) (some Rr3) (J 1) x5 x6 x7 (some Tail_4_1) x9 (some Told_4_1_3) (some Means_4_1) x12 (J 2) x14) = some false := by kernel_rfl
theorem t1_4_1_3_3 : X_t1 (S15 x0 x1 (J 4) (some Rr3) (J 1) x5 x6 x7 (some Tail_4_1) x9 (some Told_4_1_3) (some Means_4_1) x12 (J 3) x14) = some false := by kernel_rfl
theorem t1_4_1_3_4 : X_t1 (S15 x0 x1 (J 4) (some Rr3) (J 1) x5 x6 x7 (some Tail_4_1) x9 (some Told_4_1_3) (some Means_4_1) x12 (J 4) x14) = some false := by kernel_rfl
theorem s6_4_1_4 : X_law_6 (S15 x0 x1 (J 4) (some Rr4) (J 1) x5 x6 (some Rows_4) (some Tail_4_1) (some Line_4_1) none none none none none) = nxt (S15 x0 x1 (J 4) (some Rr4) (J 1) x5 x6 (some Rows_4) (some Tail_4_1) (some Line_4_1) (some Told_4_1_4) (some Means_4_1) none none none) := by kernel_rfl
theorem t1_4_1_4_0 : X_t1 (S15 x0 x1 (J 4) (some Rr4) (J 1) x5 x6 x7 (some Tail_4_1) x9 (some Told_4_1_4) (some Means_4_1) x12 (J 0) x14) = some false := by kernel_rfl
theorem t1_4_1_4_1 : X_t1 (S15 x0 x1 (J 4) (some Rr4) (J 1) x5 x6 x7 (some Tail_4_1) x9 (some Told_4_1_4) (some Means_4_1) x12 (J 1) x14) = some false := by kernel_rfl
theorem t1_4_1_4_2 : X_t1 (S15 x0 x1 (J 4) (some Rr4) (J 1) x5 x6 x7 (some Tail_4_1) x9 (some Told_4_1_4) (some Means_4_1) x12 (J 2) x14) = some false := by kernel_rfl
theorem t1_4_1_4_3 : X_t1 (S15 x0 x1 (J 4) (some Rr4) (J 1) x5 x6 x7 (some Tail_4_1) x9 (some Told_4_1_4) (some Means_4_1) x12 (J 3) x14) = some false := by kernel_rfl
theorem t1_4_1_4_4 : X_t1 (S15 x0 x1 (J 4) (some Rr4) (J 1) x5 x6 x7 (some Tail_4_1) x9 (some Told_4_1_4) (some Means_4_1) x12 (J 4) x14) = some false := by kernel_rfl
theorem s6_4_1_5 : X_law_6 (S15 x0 x1 (J 4) (some Rr5) (J 1) x5 x6 (some Rows_4) (some Tail_4_1) (some Line_4_1) none none none none none) = nxt (S15 x0 x1 (J 4) (some Rr5) (J 1) x5 x6 (some Rows_4) (some Tail_4_1) (some Line_4_1) (some Told_4_1_5) (some Means_4_1) none none none) := by kernel_rfl
theorem t1_4_1_5_0 : X_t1 (S15 x0 x1 (J 4) (some Rr5) (J 1) x5 x6 x7 (some Tail_4_1) x9 (some Told_4_1_5) (some Means_4_1) x12 (J 0) x14) = some false := by kernel_rfl
theorem t1_4_1_5_1 : X_t1 (S15 x0 x1 (J 4) (some Rr5) (J 1) x5 x6 x7 (some Tail_4_1) x9 (some Told_4_1_5) (some Means_4_1) x12 (J 1) x14) = some false := by kernel_rfl
theorem t1_4_1_5_2 : X_t1 (S15 x0 x1 (J 4) (some Rr5) (J 1) x5 x6 x7 (some Tail_4_1) x9 (some Told_4_1_5) (some Means_4_1) x12 (J 2) x14) = some false := by kernel_rfl
theorem t1_4_1_5_3 : X_t1 (S15 x0 x1 (J 4) (some Rr5) (J 1) x5 x6 x7 (some Tail_4_1) x9 (some Told_4_1_5) (some Means_4_1) x12 (J 3) x14) = some false := by kernel_rfl
theorem t1_4_1_5_4 : X_t1 (S15 x0 x1 (J 4) (some Rr5) (J 1) x5 x6 x7 (some Tail_4_1) x9 (some Told_4_1_5) (some Means_4_1) x12 (J 4) x14) = some false := by kernel_rfl
theorem s6_4_1_6 : X_law_6 (S15 x0 x1 (J 4) (some Rr6) (J 1) x5 x6 (some Rows_4) (some Tail_4_1) (some Line_4_1) none none none none none) = nxt (S15 x0 x1 (J 4) (some Rr6) (J 1) x5 x6 (some Rows_4) (some Tail_4_1) (some Line_4_1) (some Told_4_1_6) (some Means_4_1) none none none) := by kernel_rfl
theorem t1_4_1_6_0 : X_t1 (S15 x0 x1 (J 4) (some Rr6) (J 1) x5 x6 x7 (some Tail_4_1) x9 (some Told_4_1_6) (some Means_4_1) x12 (J 0) x14) = some false := by kernel_rfl
theorem t1_4_1_6_1 : X_t1 (S15 x0 x1 (J 4) (some Rr6) (J 1) x5 x6 x7 (some Tail_4_1) x9 (some Told_4_1_6) (some Means_4_1) x12 (J 1) x14) = some false := by kernel_rfl
theorem t1_4_1_6_2 : X_t1 (S15 x0 x1 (J 4) (some Rr6) (J 1) x5 x6 x7 (some Tail_4_1) x9 (some Told_4_1_6) (some Means_4_1) x12 (J 2) x14) = some false := by kernel_rfl
theorem t1_4_1_6_3 : X_t1 (S15 x0 x1 (J 4) (some Rr6) (J 1) x5 x6 x7 (some Tail_4_1) x9 (some Told_4_1_6) (some Means_4_1) x12 (J 3) x14) = some false := by kernel_rfl
theorem t1_4_1_6_4 : X_t1 (S15 x0 x1 (J 4) (some Rr6) (J 1) x5 x6 x7 (some Tail_4_1) x9 (some Told_4_1_6) (some Means_4_1) x12 (J 4) x14) = some false := by kernel_rfl
theorem s6_4_1_7 : X_law_6 (S15 x0 x1 (J 4) (some Rr7) (J 1) x5 x6 (some Rows_4) (some Tail_4_1) (some Line_4_1) none none none none none) = nxt (S15 x0 x1 (J 4) (some Rr7) (J 1) x5 x6 (some Rows_4) (some Tail_4_1) (some Line_4_1) (some Told_4_1_7) (some Means_4_1) none none none) := by kernel_rfl
theorem t1_4_1_7_0 : X_t1 (S15 x0 x1 (J 4) (some Rr7) (J 1) x5 x6 x7 (some Tail_4_1) x9 (some Told_4_1_7) (some Means_4_1) x12 (J 0) x14) = some false := by kernel_rfl
theorem t1_4_1_7_1 : X_t1 (S15 x0 x1 (J 4) (some Rr7) (J 1) x5 x6 x7 (some Tail_4_1) x9 (some Told_4_1_7) (some Means_4_1) x12 (J 1) x14) = some false := by kernel_rfl
theorem t1_4_1_7_2 : X_t1 (S15 x0 x1 (J 4) (some Rr7) (J 1) x5 x6 x7 (some Tail_4_1) x9 (some Told_4_1_7) (some Means_4_1) x12 (J 2) x14) = some false := by kernel_rfl
theorem t1_4_1_7_3 : X_t1 (S15 x0 x1 (J 4) (some Rr7) (J 1) x5 x6 x7 (some Tail_4_1) x9 (some Told_4_1_7) (some Means_4_1) x12 (J 3) x14) = some false := by kernel_rfl
theorem t1_4_1_7_4 : X_t1 (S15 x0 x1 (J 4) (some Rr7) (J 1) x5 x6 x7 (some Tail_4_1) x9 (some Told_4_1_7) (some Means_4_1) x12 (J 4) x14) = some false := by kernel_rfl
theorem s6_4_1_8 : X_law_6 (S15 x0 x1 (J 4) (some Rr8) (J 1) x5 x6 (some Rows_4) (some Tail_4_1) (some Line_4_1) none none none none none) = nxt (S15 x0 x1 (J 4) (some Rr8) (J 1) x5 x6 (some Rows_4) (some Tail_4_1) (some Line_4_1) (some Told_4_1_8) (some Means_4_1) none none none) := by kernel_rfl
theorem t1_4_1_8_0 : X_t1 (S15 x0 x1 (J 4) (some Rr8) (J 1) x5 x6 x7 (some Tail_4_1) x9 (some Told_4_1_8) (some Means_4_1) x12 (J 0) x14) = some false := by kernel_rfl
theorem t1_4_1_8_1 : X_t1 (S15 x0 x1 (J 4) (some Rr8) (J 1) x5 x6 x7 (some Tail_4_1) x9 (some Told_4_1_8) (some Means_4_1) x12 (J 1) x14) = some false := by kernel_rfl
theorem t1_4_1_8_2 : X_t1 (S15 x0 x1 (J 4) (some Rr8) (J 1) x5 x6 x7 (some Tail_4_1) x9 (some Told_4_1_8) (some Means_4_1) x12 (J 2) x14) = some false := by kernel_rfl
theorem t1_4_1_8_3 : X_t1 (S15 x0 x1 (J 4) (some Rr8) (J 1) x5 x6 x7 (some Tail_4_1) x9 (some Told_4_1_8) (some Means_4_1) x12 (J 3) x14) = some false := by kernel_rfl
theorem t1_4_1_8_4 : X_t1 (S15 x0 x1 (J 4) (some Rr8) (J 1) x5 x6 x7 (some Tail_4_1) x9 (some Told_4_1_8) (some Means_4_1) x12 (J 4) x14) = some false := by kernel_rfl
theorem s6_4_1_9 : X_law_6 (S15 x0 x1 (J 4) (some Rr9) (J 1) x5 x6 (some Rows_4) (some Tail_4_1) (some Line_4_1) none none none none none) = nxt (S15 x0 x1 (J 4) (some Rr9) (J 1) x5 x6 (some Rows_4) (some Tail_4_1) (some Line_4_1) (some Told_4_1_9) (some Means_4_1) none none none) := by kernel_rfl
theorem t1_4_1_9_0 : X_t1 (S15 x0 x1 (J 4) (some Rr9) (J 1) x5 x6 x7 (some Tail_4_1) x9 (some Told_4_1_9) (some Means_4_1) x12 (J 0) x14) = some false := by kernel_rfl
theorem t1_4_1_9_1 : X_t1 (S15 x0 x1 (J 4) (some Rr9) (J 1) x5 x6 x7 (some Tail_4_1) x9 (some Told_4_1_9) (some Means_4_1) x12 (J 1) x14) = some false := by kernel_rfl
theorem t1_4_1_9_2 : X_t1 (S15 x0 x1 (J 4) (some Rr9) (J 1) x5 x6 x7 (some Tail_4_1) x9 (some Told_4_1_9) (some Means_4_1) x12 (J 2) x14) = some false := by kernel_rfl
theorem t1_4_1_9_3 : X_t1 (S15 x0 x1 (J 4) (some Rr9) (J 1) x5 x6 x7 (some Tail_4_1) x9 (some Told_4_1_9) (some Means_4_1) x12 (J 3) x14) = some false := by kernel_rfl
theorem t1_4_1_9_4 : X_t1 (S15 x0 x1 (J 4) (some Rr9) (J 1) x5 x6 x7 (some Tail_4_1) x9 (some Told_4_1_9) (some Means_4_1) x12 (J 4) x14) = some false := by kernel_rfl
theorem s6_4_1_10 : X_law_6 (S15 x0 x1 (J 4) (some Rr10) (J 1) x5 x6 (some Rows_4) (some Tail_4_1) (some Line_4_1) none none none none none) = nxt (S15 x0 x1 (J 4) (some Rr10) (J 1) x5 x6 (some Rows_4) (some Tail_4_1) (some Line_4_1) (some Told_4_1_10) (some Means_4_1) none none none) := by kernel_rfl
theorem t1_4_1_10_0 : X_t1 (S15 x0 x1 (J 4) (some Rr10) (J 1) x5 x6 x7 (some Tail_4_1) x9 (some Told_4_1_10) (some Means_4_1) x12 (J 0) x14) = some false := by kernel_rfl
theorem t1_4_1_10_1 : X_t1 (S15 x0 x1 (J 4) (some Rr10) (J 1) x5 x6 x7 (some Tail_4_1) x9 (some Told_4_1_10) (some Means_4_1) x12 (J 1) x14) = some false := by kernel_rfl
theorem t1_4_1_10_2 : X_t1 (S15 x0 x1 (J 4) (some Rr10) (J 1) x5 x6 x7 (some Tail_4_1) x9 (some Told_4_1_10) (some Means_4_1) x12 (J 2) x14) = some false := by kernel_rfl
theorem t1_4_1_10_3 : X_t1 (S15 x0 x1 (J 4) (some Rr10) (J 1) x5 x6 x7 (some Tail_4_1) x9 (some Told_4_1_10) (some Means_4_1) x12 (J 3) x14) = some false := by kernel_rfl
theorem t1_4_1_10_4 : X_t1 (S15 x0 x1 (J 4) (some Rr10) (J 1) x5 x6 x7 (some Tail_4_1) x9 (some Told_4_1_10) (some Means_4_1) x12 (J 4) x14) = some false := by kernel_rfl
theorem d_4_1_0 : X_l8_0 (S15 x0 x1 (J 4) x3 (J 1) x5 x6 x7 x8 x9 x10 (some Means_4_1) x12 (J 0) x14) = nxt (S15 x0 x1 (J 4) x3 (J 1) x5 x6 x7 x8 x9 x10 (some Means_4_1) x12 (J 0) (some (.tuple [.int (.ofNat 0), .int (.ofNat 1)]))) := by kernel_rfl
theorem t2_4_1_0 : X_t2 (S15 x0 x1 (J 4) x3 (J 1) x5 x6 x7 (some Tail_4_1) x9 x10 (some Means_4_1) x12 (J 0) (some (.tuple [.int (.ofNat 0), .int (.ofNat 1)]))) = some false := by kernel_rfl
theorem d_4_1_1 : X_l8_0 (S15 x0 x1 (J 4) x3 (J 1) x5 x6 x7 x8 x9 x10 (some Means_4_1) x12 (J 1) x14) = nxt (S15 x0 x1 (J 4) x3 (J 1) x5 x6 x7 x8 x9 x10 (some Means_4_1) x12 (J 1) (some (.tuple [.int (.ofNat 0), .int (.ofNat 1)]))) := by kernel_rfl
theorem t2_4_1_1 : X_t2 (S15 x0 x1 (J 4) x3 (J 1) x5 x6 x7 (some Tail_4_1) x9 x10 (some Means_4_1) x12 (J 1) (some (.tuple [.int (.ofNat 0), .int (.ofNat 1)]))) = some false := by kernel_rfl
theorem d_4_1_2 : X_l8_0 (S15 x0 x1 (J 4) x3 (J 1) x5 x6 x7 x8 x9 x10 (some Means_4_1) x12 (J 2) x14) = nxt (S15 x0 x1 (J 4) x3 (J 1) x5 x6 x7 x8 x9 x10 (some Means_4_1) x12 (J 2) (some (.tuple [.int (.ofNat 0), .int (.ofNat 1)]))) := by kernel_rfl
theorem t2_4_1_2 : X_t2 (S15 x0 x1 (J 4) x3 (J 1) x5 x6 x7 (some Tail_4_1) x9 x10 (some Means_4_1) x12 (J 2) (some (.tuple [.int (.ofNat 0), .int (.ofNat 1)]))) = some false := by kernel_rfl
theorem d_4_1_3 : X_l8_0 (S15 x0 x1 (J 4) x3 (J 1) x5 x6 x7 x8 x9 x10 (some Means_4_1) x12 (J 3) x14) = nxt (S15 x0 x1 (J 4) x3 (J 1) x5 x6 x7 x8 x9 x10 (some Means_4_1) x12 (J 3) (some (.tuple [.int (.ofNat 0), .int (.ofNat 1)]))) := by kernel_rfl
theorem t2_4_1_3 : X_t2 (S15 x0 x1 (J 4) x3 (J 1) x5 x6 x7 (some Tail_4_1) x9 x10 (some Means_4_1) x12 (J 3) (some (.tuple [.int (.ofNat 0), .int (.ofNat 1)]))) = some false := by kernel_rfl
theorem d_4_1_4 : X_l8_0 (S15 x0 x1 (J 4) x3 (J 1) x5 x6 x7 x8 x9 x10 (some Means_4_1) x12 (J 4) x14) = nxt (S15 x0 x1 (J 4) x3 (J 1) x5 x6 x7 x8 x9 x10 (some Means_4_1) x12 (J 4) (some Due_4_1)) := by kernel_rfl
theorem t2_4_1_4 : X_t2 (S15 x0 x1 (J 4) x3 (J 1) x5 x6 x7 (some Tail_4_1) x9 x10 (some Means_4_1) x12 (J 4) (some Due_4_1)) = some false := by kernel_rfl
theorem s8_4_1_0_n2 : forO 13 Lb (ksOf [0, 1, 2, 3, 4]) (S15 x0 x1 (J 4) x3 (J 1) (J 0) (some (.tuple [(.int (.negSucc 1)), .int (.ofNat 1)])) x7 (some Tail_4_1) x9 x10 (some Means_4_1) (some (.list [])) none none) = nxt (S15 x0 x1 (J 4) x3 (J 1) (J 0) (some (.tuple [(.int (.negSucc 1)), .int (.ofNat 1)])) x7 (some Tail_4_1) x9 x10 (some Means_4_1) (some Tog_4_1_0_n2) (J 4) (some Due_4_1)) := by kernel_rfl
theorem s9_4_1_0_n2 : X_law_9 (S15 x0 x1 (J 4) x3 (J 1) (J 0) (some (.tuple [(.int (.negSucc 1)), .int (.ofNat 1)])) x7 x8 x9 x10 x11 (some Tog_4_1_0_n2) x13 x14) = nxt (S15 x0 x1 (J 4) x3 (J 1) (J 0) (some (.tuple [(.int (.negSucc 1)), .int (.ofNat 1)])) x7 x8 x9 x10 x11 (some Tog_4_1_0_n2) x13 x14) := by kernel_rfl
theorem s8_4_1_0_n1 : forO 13 Lb (ksOf [0, 1, 2, 3, 4]) (S15 x0 x1 (J 4) x3 (J 1) (J 0) (some (.tuple [(.int (.negSucc 0)), .int (.ofNat 1)])) x7 (some Tail_4_1) x9 x10 (some Means_4_1) (some (.list [])) none none) = nxt (S15 x0 x1 (J 4) x3 (J 1) (J 0) (some (.tuple [(.int (.negSucc 0)), .int (.ofNat 1)])) x7 (some Tail_4_1) x9 x10 (some Means_4_1) (some Tog_4_1_0_n1) (J 4) (some Due_4_1)) := by kernel_rfl
theorem s9_4_1_0_n1 : X_law_9 (S15 x0 x1 (J 4) x3 (J 1) (J 0) (some (.tuple [(.int (.negSucc 0)), .int (.ofNat 1)])) x7 x8 x9 x10 x11 (some Tog_4_1_0_n1) x13 x14) = nxt (S15 x0 x1 (J 4) x3 (J 1) (J 0) (some (.tuple [(.int (.negSucc 0)), .int (.ofNat 1)])) x7 x8 x9 x10 x11 (some Tog_4_1_0_n1) x13 x14) := by kernel_rfl
theorem s8_4_1_0_0 : forO 13 Lb (ksOf [0, 1, 2, 3, 4]) (S15 x0 x1 (J 4) x3 (J 1) (J 0) (some (.tuple [(.int (.ofNat 0)), .int (.ofNat 1)])) x7 (some Tail_4_1) x9 x10 (some Means_4_1) (some (.list [])) none none) = nxt (S15 x0 x1 (J 4) x3 (J 1) (J 0) (some (.tuple [(.int (.ofNat 0)), .int (.ofNat 1)])) x7 (some Tail_4_1) x9 x10 (some Means_4_1) (some Tog_4_1_0_0) (J 4) (some Due_4_1)) := by kernel_rfl
theorem s9_4_1_0_0 : X_law_9 (S15 x0 x1 (J 4) x3 (J 1) (J 0) (some (.tuple [(.int (.ofNat 0)), .int (.ofNat 1)])) x7 x8 x9 x10 x11 (some Tog_4_1_0_0) x13 x14) = nxt (S15 x0 x1 (J 4) x3 (J 1) (J 0) (some (.tuple [(.int (.ofNat 0)), .int (.ofNat 1)])) x7 x8 x9 x10 x11 (some Tog_4_1_0_0) x13 x14) := by kernel_rfl
theorem s8_4_1_0_1 : forO 13 Lb (ksOf [0, 1, 2, 3, 4]) (S15 x0 x1 (J 4) x3 (J 1) (J 0) (some (.tuple [(.int (.ofNat 1)), .int (.ofNat 1)])) x7 (some Tail_4_1) x9 x10 (some Means_4_1) (some (.list [])) none none) = nxt (S15 x0 x1 (J 4) x3 (J 1) (J 0) (some (.tuple [(.int (.ofNat 1)), .int (.ofNat 1)])) x7 (some Tail_4_1) x9 x10 (some Means_4_1) (some Tog_4_1_0_1) (J 4) (some Due_4_1)) := by kernel_rfl
theorem s9_4_1_0_1 : X_law_9 (S15 x0 x1 (J 4) x3 (J 1) (J 0) (some (.tuple [(.int (.ofNat 1)), .int (.ofNat 1)])) x7 x8 x9 x10 x11 (some Tog_4_1_0_1) x13 x14) = nxt (S15 x0 x1 (J 4) x3 (J 1) (J 0) (some (.tuple [(.int (.ofNat 1)), .int (.ofNat 1)])) x7 x8 x9 x10 x11 (some Tog_4_1_0_1) x13 x14) := by kernel_rfl
theorem s8_4_1_0_2 : forO 13 Lb (ksOf [0, 1, 2, 3, 4]) (S15 x0 x1 (J 4) x3 (J 1) (J 0) (some (.tuple [(.int (.ofNat 2)), .int (.ofNat 1)])) x7 (some Tail_4_1) x9 x10 (some Means_4_1) (some (.list [])) none none) = nxt (S15 x0 x1 (J 4) x3 (J 1) (J 0) (some (.tuple [(.int (.ofNat 2)), .int (.ofNat 1)])) x7 (some Tail_4_1) x9 x10 (some Means_4_1) (some Tog_4_1_0_2) (J 4) (some Due_4_1)) := by kernel_rfl
theorem s9_4_1_0_2 : X_law_9 (S15 x0 x1 (J 4) x3 (J 1) (J 0) (some (.tuple [(.int (.ofNat 2)), .int (.ofNat 1)])) x7 x8 x9 x10 x11 (some Tog_4_1_0_2) x13 x14) = nxt (S15 x0 x1 (J 4) x3 (J 1) (J 0) (some (.tuple [(.int (.ofNat 2)), .int (.ofNat 1)])) x7 x8 x9 x10 x11 (some Tog_4_1_0_2) x13 x14) := by kernel_rfl
theorem s8_4_1_1_n2 : forO 13 Lb (ksOf [0, 1, 2, 3, 4]) (S15 x0 x1 (J 4) x3 (J 1) (J 1) (some (.tuple [(.int (.negSucc 1)), .int (.ofNat 1)])) x7 (some Tail_4_1) x9 x10 (some Means_4_1) (some (.list [])) none none) = nxt (S15 x0 x1 (J 4) x3 (J 1) (J 1) (some (.tuple [(.int (.negSucc 1)), .int (.ofNat 1)])) x7 (some Tail_4_1) x9 x10 (some Means_4_1) (some Tog_4_1_1_n2) (J 4) (some Due_4_1)) := by kernel_rfl
theorem s9_4_1_1_n2 : X_law_9 (S15 x0 x1 (J 4) x3 (J 1) (J 1) (some (.tuple [(.int (.negSucc 1)), .int (.ofNat 1)])) x7 x8 x9 x10 x11 (some Tog_4_1_1_n2) x13 x14) = nxt (S15 x0 x1 (J 4) x3 (J 1) (J 1) (some (.tuple [(.int (.negSucc 1)), .int (.ofNat 1)])) x7 x8 x9 x10 x11 (some Tog_4_1_1_n2) x13 x14) := by kernel_rfl
theorem s8_4_1_1_n1 : forO 13 Lb (ksOf [0, 1, 2, 3, 4]) (S15 x0 x1 (J 4) x3 (J 1) (J 1) (some (.tuple [(.int (.negSucc 0)), .int (.ofNat 1)])) x7 (some Tail_4_1) x9 x10 (some Means_4_1) (some (.list [])) none none) = nxt (S15 x0 x1 (J 4) x3 (J 1) (J 1) (some (.tuple [(.int (.negSucc 0)), .int (.ofNat 1)])) x7 (some Tail_4_1) x9 x10 (some Means_4_1) (some Tog_4_1_1_n1) (J 4) (some Due_4_1)) := by kernel_rfl
theorem s9_4_1_1_n1 : X_law_9 (S15 x0 x1 (J 4) x3 (J 1) (J 1) (some (.tuple [(.int (.negSucc 0)), .int (.ofNat 1)])) x7 x8 x9 x10 x11 (some Tog_4_1_1_n1) x13 x14) = nxt (S15 x0 x1 (J 4) x3 (J 1) (J 1) (some (.tuple [(.int (.negSucc 0)), .int (.ofNat 1)])) x7 x8 x9 x10 x11 (some Tog_4_1_1_n1) x13 x14) := by kernel_rfl
theorem s8_4_1_1_0 : forO 13 Lb (ksOf [0, 1, 2, 3, 4]) (S15 x0 x1 (J 4) x3 (J 1) (J 1) (some (.tuple [(.int (.ofNat 0)), .int (.ofNat 1)])) x7 (some Tail_4_1) x9 x10 (some Means_4_1) (some (.list [])) none none) = nxt (S15 x0 x1 (J 4) x3 (J 1) (J 1) (some (.tuple [(.int (.ofNat 0)), .int (.ofNat 1)])) x7 (some Tail_4_1) x9 x10 (some Means_4_1) (some Tog_4_1_1_0) (J 4) (some Due_4_1)) := by kernel_rfl
theorem s9_4_1_1_0 : X_law_9 (S15 x0 x1 (J 4) x3 (J 1) (J 1) (some (.tuple [(.int (.ofNat 0)), .int (.ofNat 1)])) x7 x8 x9 x10 x11 (some Tog_4_1_1_0) x13 x14) = nxt (S15 x0 x1 (J 4) x3 (J 1) (J 1) (some (.tuple [(.int (.ofNat 0)), .int (.ofNat 1)])) x7 x8 x9 x10 x11 (some Tog_4_1_1_0) x13 x14) := by kernel_rfl
theorem s8_4_1_1_1 : forO 13 Lb (ksOf [0, 1, 2, 3, 4]) (S15 x0 x1 (J 4) x3 (J 1) (J 1) (some (.tuple [(.int (.ofNat 1)), .int (.ofNat 1)])) x7 (some Tail_4_1) x9 x10 (some Means_4_1) (some (.list [])) none none) = nxt (S15 x0 x1 (J 4) x3 (J 1) (J 1) (some (.tuple [(.int (.ofNat 1)), .int (.ofNat 1)])) x7 (some Tail_4_1) x9 x10 (some Means_4_1) (some Tog_4_1_1_1) (J 4) (some Due_4_1)) := by kernel_rfl
theorem s9_4_1_1_1 : X_law_9 (S15 x0 x1 (J 4) x3 (J 1) (J 1) (some (.tuple [(.int (.ofNat 1)), .int (.ofNat 1)])) x7 x8 x9 x10 x11 (some Tog_4_1_1_1) x13 x14) = nxt (S15 x0 x1 (J 4) x3 (J 1) (J 1) (some (.tuple [(.int (.ofNat 1)), .int (.ofNat 1)])) x7 x8 x9 x10 x11 (some Tog_4_1_1_1) x13 x14) := by kernel_rfl
theorem s8_4_1_1_2 : forO 13 Lb (ksOf [0, 1, 2, 3, 4]) (S15 x0 x1 (J 4) x3 (J 1) (J 1) (some (.tuple [(.int (.ofNat 2)), .int (.ofNat 1)])) x7 (some Tail_4_1) x9 x10 (some Means_4_1) (some (.list [])) none none) = nxt (S15 x0 x1 (J 4) x3 (J 1) (J 1) (some (.tuple [(.int (.ofNat 2)), .int (.ofNat 1)])) x7 (some Tail_4_1) x9 x10 (some Means_4_1) (some Tog_4_1_1_2) (J 4) (some Due_4_1)) := by kernel_rfl
theorem s9_4_1_1_2 : X_law_9 (S15 x0 x1 (J 4) x3 (J 1) (J 1) (some (.tuple [(.int (.ofNat 2)), .int (.ofNat 1)])) x7 x8 x9 x10 x11 (some Tog_4_1_1_2) x13 x14) = nxt (S15 x0 x1 (J 4) x3 (J 1) (J 1) (some (.tuple [(.int (.ofNat 2)), .int (.ofNat 1)])) x7 x8 x9 x10 x11 (some Tog_4_1_1_2) x13 x14) := by kernel_rfl
theorem s8_4_1_2_n2 : forO 13 Lb (ksOf [0, 1, 2, 3, 4]) (S15 x0 x1 (J 4) x3 (J 1) (J 2) (some (.tuple [(.int (.negSucc 1)), .int (.ofNat 1)])) x7 (some Tail_4_1) x9 x10 (some Means_4_1) (some (.list [])) none none) = nxt (S15 x0 x1 (J 4) x3 (J 1) (J 2) (some (.tuple [(.int (.negSucc 1)), .int (.ofNat 1)])) x7 (some Tail_4_1) x9 x10 (some Means_4_1) (some Tog_4_1_2_n2) (J 4) (some Due_4_1)) := by kernel_rfl
theorem s9_4_1_2_n2 : X_law_9 (S15 x0 x1 (J 4) x3 (J 1) (J 2) (some (.tuple [(.int (.negSucc 1)), .int (.ofNat 1)])) x7 x8 x9 x10 x11 (some Tog_4_1_2_n2) x13 x14) = nxt (S15 x0 x1 (J 4) x3 (J 1) (J 2) (some (.tuple [(.int (.negSucc 1)), .int (.ofNat 1)])) x7 x8 x9 x10 x11 (some Tog_4_1_2_n2) x13 x14) := by kernel_rfl
theorem s8_4_1_2_n1 : forO 13 Lb (ksOf [0, 1, 2, 3, 4]) (S15 x0 x1 (J 4) x3 (J 1) (J 2) (some (.tuple [(.int (.negSucc 0)), .int (.ofNat 1)])) x7 (some Tail_4_1) x9 x10 (some Means_4_1) (some (.list [])) none none) = nxt (S15 x0 x1 (J 4) x3 (J 1) (J 2) (some (.tuple [(.int (.negSucc 0)), .int (.ofNat 1)])) x7 (some Tail_4_1) x9 x10 (some Means_4_1) (some Tog_4_1_2_n1) (J 4) (some Due_4_1)) := by kernel_rfl
theorem s9_4_1_2_n1 : X_law_9 (S15 x0 x1 (J 4) x3 (J 1) (J 2) (some (.tuple [(.int (.negSucc 0)), .int (.ofNat 1)])) x7 x8 x9 x10 x11 (some Tog_4_1_2_n1) x13 x14) = nxt (S15 x0 x1 (J 4) x3 (J 1) (J 2) (some (.tuple [(.int (.negSucc 0)), .int (.ofNat 1)])) x7 x8 x9 x10 x11 (some Tog_4_1_2_n1) x13 x14) := by kernel_rfl
theorem s8_4_1_2_0 : forO 13 Lb (ksOf [0, 1, 2, 3, 4]) (S15 x0 x1 (J 4) x3 (J 1) (J 2) (some (.tuple [(.int (.ofNat 0)), .int (.ofNat 1)])) x7 (some Tail_4_1) x9 x10 (some Means_4_1) (some (.list [])) none none) = nxt (S15 x0 x1 (J 4) x3 (J 1) (J 2) (some (.tuple [(.int (.ofNat 0)), .int (.ofNat 1)])) x7 (some Tail_4_1) x9 x10 (some Means_4_1) (some Tog_4_1_2_0) (J 4) (some Due_4_1)) := by kernel_rfl
theorem s9_4_1_2_0 : X_law_9 (S15 x0 x1 (J 4) x3 (J 1) (J 2) (some (.tuple [(.int (.ofNat 0)), .int (.ofNat 1)])) x7 x8 x9 x10 x11 (some Tog_4_1_2_0) x13 x14) = nxt (S15 x0 x1 (J 4) x3 (J 1) (J 2) (some (.tuple [(.int (.ofNat 0)), .int (.ofNat 1)])) x7 x8 x9 x10 x11 (some Tog_4_1_2_0) x13 x14) := by kernel_rfl
theorem s8_4_1_2_1 : forO 13 Lb (ksOf [0, 1, 2, 3, 4]) (S15 x0 x1 (J 4) x3 (J 1) (J 2) (some (.tuple [(.int (.ofNat 1)), .int (.ofNat 1)])) x7 (some Tail_4_1) x9 x10 (some Means_4_1) (some (.list [])) none none) = nxt (S15 x0 x1 (J 4) x3 (J 1) (J 2) (some (.tuple [(.int (.ofNat 1)), .int (.ofNat 1)])) x7 (some Tail_4_1) x9 x10 (some Means_4_1) (some Tog_4_1_2_1) (J 4) (some Due_4_1)) := by kernel_rfl
theorem s9_4_1_2_1 : X_law_9 (S15 x0 x1 (J 4) x3 (J 1) (J 2) (some (.tuple [(.int (.ofNat 1)), .int (.ofNat 1)])) x7 x8 x9 x10 x11 (some Tog_4_1_2_1) x13 x14) = nxt (S15 x0 x1 (J 4) x3 (J 1) (J 2) (some (.tuple [(.int (.ofNat 1)), .int (.ofNat 1)])) x7 x8 x9 x10 x11 (some Tog_4_1_2_1) x13 x14) := by kernel_rfl
theorem s8_4_1_2_2 : forO 13 Lb (ksOf [0, 1, 2, 3, 4]) (S15 x0 x1 (J 4) x3 (J 1) (J 2) (some (.tuple [(.int (.ofNat 2)), .int (.ofNat 1)])) x7 (some Tail_4_1) x9 x10 (some Means_4_1) (some (.list [])) none none) = nxt (S15 x0 x1 (J 4) x3 (J 1) (J 2) (some (.tuple [(.int (.ofNat 2)), .int (.ofNat 1)])) x7 (some Tail_4_1) x9 x10 (some Means_4_1) (some Tog_4_1_2_2) (J 4) (some Due_4_1)) := by kernel_rfl
theorem s9_4_1_2_2 : X_law_9 (S15 x0 x1 (J 4) x3 (J 1) (J 2) (some (.tuple [(.int (.ofNat 2)), .int (.ofNat 1)])) x7 x8 x9 x10 x11 (some Tog_4_1_2_2) x13 x14) = nxt (S15 x0 x1 (J 4) x3 (J 1) (J 2) (some (.tuple [(.int (.ofNat 2)), .int (.ofNat 1)])) x7 x8 x9 x10 x11 (some Tog_4_1_2_2) x13 x14) := by kernel_rfl
theorem s10_4_1 : X_end (S15 x0 x1 (J 4) x3 (J 1) x5 x6 (some Rows_4) (some Tail_4_1) x9 x10 x11 x12 x13 x14) = some (.ret (.bool true)) := by kernel_rfl
theorem s3_4_2 : X_law_3 (S15 x0 x1 (J 4) x3 (J 2) x5 x6 none none none none none none none none) = nxt (S15 x0 x1 (J 4) x3 (J 2) x5 x6 (some Rows_4) (some Tail_4_2) none none none none none none) := by kernel_rfl
theorem s5_4_2 : X_law_5 (S15 x0 x1 (J 4) x3 (J 2) x5 x6 (some Rows_4) (some Tail_4_2) none none none none none none) = nxt (S15 x0 x1 (J 4) x3 (J 2) x5 x6 (some Rows_4) (some Tail_4_2) (some Line_4_2) none none none none none) := by kernel_rfl
theorem s6_4_2_0 : X_law_6 (S15 x0 x1 (J 4) (some Rr0) (J 2) x5 x6 (some Rows_4) (some Tail_4_2) (some Line_4_2) none none none none none) = nxt (S15 x0 x1 (J 4) (some Rr0) (J 2) x5 x6 (some Rows_4) (some Tail_4_2) (some Line_4_2) (some Told_4_2_0) (some Means_4_2) none none none) := by kernel_rfl
theorem t1_4_2_0_0 : X_t1 (S15 x0 x1 (J 4) (some Rr0) (J 2) x5 x6 x7 (some Tail_4_2) x9 (some Told_4_2_0) (some Means_4_2) x12 (J 0) x14) = some false := by kernel_rfl
theorem t1_4_2_0_1 : X_t1 (S15 x0 x1 (J 4) (some Rr0) (J 2) x5 x6 x7 (some Tail_4_2) x9 (some Told_4_2_0) (some Means_4_2) x12 (J 1) x14) = some false := by kernel_rfl
theorem t1_4_2_0_2 : X_t1 (S15 x0 x1 (J 4) (some Rr0) (J 2) x5 x6 x7 (some Tail_4_2) x9 (some Told_4_2_0) (some Means_4_2) x12 (J 2) x14) = some false := by kernel_rfl
theorem t1_4_2_0_3 : X_t1 (S15 x0 x1 (J 4) (some Rr0) (J 2) x5 x6 x7 (some Tail_4_2) x9 (some Told_4_2_0) (some Means_4_2) x12 (J 3) x14) = some false := by kernel_rfl
theorem t1_4_2_0_4 : X_t1 (S15 x0 x1 (J 4) (some Rr0) (J 2) x5 x6 x7 (some Tail_4_2) x9 (some Told_4_2_0) (some Means_4_2) x12 (J 4) x14) = some false := by kernel_rfl
theorem s6_4_2_1 : X_law_6 (S15 x0 x1 (J 4) (some Rr1) (J 2) x5 x6 (some Rows_4) (some Tail_4_2) (some Line_4_2) none none none none none) = nxt (S15 x0 x1 (J 4) (some Rr1) (J 2) x5 x6 (some Rows_4) (some Tail_4_2) (some Line_4_2) (some Told_4_2_1) (some Means_4_2) none none none) := by kernel_rfl
theorem t1_4_2_1_0 : X_t1 (S15 x0 x1 (J 4) (some Rr1) (J 2) x5 x6 x7 (some Tail_4_2) x9 (some Told_4_2_1) (some Means_4_2) x12 (J 0) x14) = some false := by kernel_rfl
theorem t1_4_2_1_1 : X_t1 (S15 x0 x1 (J 4) (some Rr1) (J 2) x5 x6 x7 (some Tail_4_2) x9 (some Told_4_2_1) (some Means_4_2) x12 (J 1) x14) = some false := by kernel_rfl
theorem t1_4_2_1_2 : X_t1 (S15 x0 x1 (J 4) (some Rr1) (J 2) x5 x6 x7 (some Tail_4_2) x9 (some Told_4_2_1) (some Means_4_2) x12 (J 2) x14) = some false := by kernel_rfl
theorem t1_4_2_1_3 : X_t1 (S15 x0 x1 (J 4) (some Rr1) (J 2) x5 x6 x7 (some Tail_4_2) x9 (some Told_4_2_1) (some Means_4_2) x12 (J 3) x14) = some false := by kernel_rfl
theorem t1_4_2_1_4 : X_t1 (S15 x0 x1 (J 4) (some Rr1) (J 2) x5 x6 x7 (some Tail_4_2) x9 (some Told_4_2_1) (some Means_4_2) x12 (J 4) x14) = some false := by kernel_rfl
theorem s6_4_2_2 : X_law_6 (S15 x0 x1 (J 4) (some Rr2) (J 2) x5 x6 (some Rows_4) (some Tail_4_2) (some Line_4_2) none none none none none) = nxt (S15 x0 x1 (J 4) (some Rr2) (J 2) x5 x6 (some Rows_4) (some Tail_4_2) (some Line_4_2) (some Told_4_2_2) (some Means_4_2) none none none) := by kernel_rfl
theorem t1_4_2_2_0 : X_t1 (S15 x0 x1 (J 4) (some Rr2) (J 2) x5 x6 x7 (some Tail_4_2) x9 (some Told_4_2_2) (some Means_4_2) x12 (J 0) x14) = some false := by kernel_rfl
theorem t1_4_2_2_1 : X_t1 (S15 x0 x1 (J 4) (some Rr2) (J 2) x5 x6 x7 (some Tail_4_2) x9 (some Told_4_2_2) (some Means_4_2) x12 (J 1) x14) = some false := by kernel_rfl
theorem t1_4_2_2_2 : X_t1 (S15 x0 x1 (J 4) (some Rr2) (J 2) x5 x6 x7 (some Tail_4_2) x9 (some Told_4_2_2) (some Means_4_2) x12 (J 2) x14) = some false := by kernel_rfl
theorem t1_4_2_2_3 : X_t1 (S15 x0 x1 (J 4) (some Rr2) (J 2) x5 x6 x7 (some Tail_4_2) x9 (some Told_4_2_2) (some Means_4_2) x12 (J 3) x14) = some false := by kernel_rfl
theorem t1_4_2_2_4 : X_t1 (S15 x0 x1 (J 4) (some Rr2) (J 2) x5 x6 x7 (some Tail_4_2) x9 (some Told_4_2_2) (some Means_4_2) x12 (J 4) x14) = some false := by kernel_rfl
theorem s6_4_2_3 : X_law_6 (S15 x0 x1 (J 4) (some Rr3) (J 2) x5 x6 (some Rows_4) (some Tail_4_2) (some Line_4_2) none none none none none) = nxt (S15 x0 x1 (J 4) (some Rr3) (J 2) x5 x6 (some Rows_4) (some Tail_4_2) (some Line_4_2) (some Told_4_2_3) (some Means_4_2) none none none) := by kernel_rfl
theorem t1_4_2_3_0 : X_t1 (S15 x0 x1 (J 4) (some Rr3) (J 2) x5 x6 x7 (some Tail_4_2) x9 (some Told_4_2_3) (some Means_4_2) x12 (J 0) x14) = some false := by kernel_rfl
theorem t1_4_2_3_1 : X_t1 (S15 x0 x1 (J 4) (some Rr3) (J 2) x5 x6 x7 (some Tail_4_2) x9 (some Told_4_2_3) (some Means_4_2) x12 (J 1) x14) = some false := by kernel_rfl
theorem t1_4_2_3_2 : X_t1 (S15 x0 x1 (J 4) (some Rr3) (J 2) x5 x6 x7 (some Tail_4_2) x9 (some Told_4_2_3) (some Means_4_2) x12 (J 2) x14) = some false := by kernel_rfl
theorem t1_4_2_3_3 : X_t1 (S15 x0 x1 (J 4) (some Rr3) (J 2) x5 x6 x7 (some Tail_4_2) x9 (some Told_4_2_3) (some Means_4_2) x12 (J 3) x14) = some false := by kernel_rfl
theorem t1_4_2_3_4 : X_t1 (S15 x0 x1 (J 4) (some Rr3) (J 2) x5 x6 x7 (some Tail_4_2) x9 (some Told_4_2_3) (some Means_4_2) x12 (J 4) x14) = some false := by kernel_rfl
theorem s6_4_2_4 : X_law_6 (S15 x0 x1 (J 4) (some Rr4) (J 2) x5 x6 (some Rows_4) (some Tail_4_2) (some Line_4_2) none none none none none) = nxt (S15 x0 x1 (J 4) (some Rr4) (J 2) x5 x6 (some Rows_4) (some Tail_4_2) (some Line_4_2) (some Told_4_2_4) (some Means_4_2) none none none) := by kernel_rfl
theorem t1_4_2_4_0 : X_t1 (S15 x0 x1 (J 4) (some Rr4) (J 2) x5 x6 x7 (some Tail_4_2) x9 (some Told_4_2_4) (some Means_4_2) x12 (J 0) x14) = some false := by kernel_rfl
theorem t1_4_2_4_1 : X_t1 (S15 x0 x1 (J 4) (some Rr4) (J 2) x5 x6 x7 (some Tail_4_2) x9 (some Told_4_2_4) (some Means_4_2) x12 (J 1) x14) = some false := by kernel_rfl
theorem t1_4_2_4_2 : X_t1 (S15 x0 x1 (J 4) (some Rr4) (J 2) x5 x6 x7 (some Tail_4_2) x9 (some Told_4_2_4) (some Means_4_2) x12 (J 2) x14) = some false := by kernel_rfl
theorem t1_4_2_4_3 : X_t1 (S15 x0 x1 (J 4) (some Rr4) (J 2) x5 x6 x7 (some Tail_4_2) x9 (some Told_4_2_4) (some Means_4_2) x12 (J 3) x14) = some false := by kernel_rfl
theorem t1_4_2_4_4 : X_t1 (S15 x0 x1 (J 4) (some Rr4) (J 2) x5 x6 x7 (some Tail_4_2) x9 (some Told_4_2_4) (some Means_4_2) x12 (J 4) x14) = some false := by kernel_rfl
theorem s6_4_2_5 : X_law_6 (S15 x0 x1 (J 4) (some Rr5) (J 2) x5 x6 (some Rows_4) (some Tail_4_2) (some Line_4_2) none none none none none) = nxt (S15 x0 x1 (J 4) (some Rr5) (J 2) x5 x6 (some Rows_4) (some Tail_4_2) (some Line_4_2) (some Told_4_2_5) (some Means_4_2) none none none) := by kernel_rfl
theorem t1_4_2_5_0 : X_t1 (S15 x0 x1 (J 4) (some Rr5) (J 2) x5 x6 x7 (some Tail_4_2) x9 (some Told_4_2_5) (some Means_4_2) x12 (J 0) x14) = some false := by kernel_rfl
theorem t1_4_2_5_1 : X_t1 (S15 x0 x1 (J 4) (some Rr5) (J 2) x5 x6 x7 (some Tail_4_2) x9 (some Told_4_2_5) (some Means_4_2) x12 (J 1) x14) = some false := by kernel_rfl
theorem t1_4_2_5_2 : X_t1 (S15 x0 x1 (J 4) (some Rr5) (J 2) x5 x6 x7 (some Tail_4_2) x9 (some Told_4_2_5) (some Means_4_2) x12 (J 2) x14) = some false := by kernel_rfl
theorem t1_4_2_5_3 : X_t1 (S15 x0 x1 (J 4) (some Rr5) (J 2) x5 x6 x7 (some Tail_4_2) x9 (some Told_4_2_5) (some Means_4_2) x12 (J 3) x14) = some false := by kernel_rfl
theorem t1_4_2_5_4 : X_t1 (S15 x0 x1 (J 4) (some Rr5) (J 2) x5 x6 x7 (some Tail_4_2) x9 (some Told_4_2_5) (some Means_4_2) x12 (J 4) x14) = some false := by kernel_rfl
theorem s6_4_2_6 : X_law_6 (S15 x0 x1 (J 4) (some Rr6) (J 2) x5 x6 (some Rows_4) (some Tail_4_2) (some Line_4_2) none none none none none) = nxt (S15 x0 x1 (J 4) (some Rr6) (J 2) x5 x6 (some Rows_4) (some Tail_4_2) (some Line_4_2) (some Told_4_2_6) (some Means_4_2) none none none) := by kernel_rfl
theorem t1_4_2_6_0 : X_t1 (S15 x0 x1 (J 4) (some Rr6) (J 2) x5 x6 x7 (some Tail_4_2) x9 (some Told_4_2_6) (some Means_4_2) x12 (J 0) x14) = some false := by kernel_rfl
theorem t1_4_2_6_1 : X_t1 (S15 x0 x1 (J 4) (some Rr6) (J 2) x5 x6 x7 (some Tail_4_2) x9 (some Told_4_2_6) (some Means_4_2) x12 (J 1) x14) = some false := by kernel_rfl
theorem t1_4_2_6_2 : X_t1 (S15 x0 x1 (J 4) (some Rr6) (J 2) x5 x6 x7 (some Tail_4_2) x9 (some Told_4_2_6) (some Means_4_2) x12 (J 2) x14) = some false := by kernel_rfl
theorem t1_4_2_6_3 : X_t1 (S15 x0 x1 (J 4) (some Rr6) (J 2) x5 x6 x7 (some Tail_4_2) x9 (some Told_4_2_6) (some Means_4_2) x12 (J 3) x14) = some false := by kernel_rfl
theorem t1_4_2_6_4 : X_t1 (S15 x0 x1 (J 4) (some Rr6) (J 2) x5 x6 x7 (some Tail_4_2) x9 (some Told_4_2_6) (some Means_4_2) x12 (J 4) x14) = some false := by kernel_rfl
theorem s6_4_2_7 : X_law_6 (S15 x0 x1 (J 4) (some Rr7) (J 2) x5 x6 (some Rows_4) (some Tail_4_2) (some Line_4_2) none none none none none) = nxt (S15 x0 x1 (J 4) (some Rr7) (J 2) x5 x6 (some Rows_4) (some Tail_4_2) (some Line_4_2) (some Told_4_2_7) (some Means_4_2) none none none) := by kernel_rfl
theorem t1_4_2_7_0 : X_t1 (S15 x0 x1 (J 4) (some Rr7) (J 2) x5 x6 x7 (some Tail_4_2) x9 (some Told_4_2_7) (some Means_4_2) x12 (J 0) x14) = some false := by kernel_rfl
theorem t1_4_2_7_1 : X_t1 (S15 x0 x1 (J 4) (some Rr7) (J 2) x5 x6 x7 (some Tail_4_2) x9 (some Told_4_2_7) (some Means_4_2) x12 (J 1) x14) = some false := by kernel_rfl
theorem t1_4_2_7_2 : X_t1 (S15 x0 x1 (J 4) (some Rr7) (J 2) x5 x6 x7 (some Tail_4_2) x9 (some Told_4_2_7) (some Means_4_2) x12 (J 2) x14) = some false := by kernel_rfl
theorem t1_4_2_7_3 : X_t1 (S15 x0 x1 (J 4) (some Rr7) (J 2) x5 x6 x7 (some Tail_4_2) x9 (some Told_4_2_7) (some Means_4_2) x12 (J 3) x14) = some false := by kernel_rfl
theorem t1_4_2_7_4 : X_t1 (S15 x0 x1 (J 4) (some Rr7) (J 2) x5 x6 x7 (some Tail_4_2) x9 (some Told_4_2_7) (some Means_4_2) x12 (J 4) x14) = some false := by kernel_rfl
theorem s6_4_2_8 : X_law_6 (S15 x0 x1 (J 4) (some Rr8) (J 2) x5 x6 (some Rows_4) (some Tail_4_2) (some Line_4_2) none none none none none) = nxt (S15 x0 x1 (J 4) (some Rr8) (J 2) x5 x6 (some Rows_4) (some Tail_4_2) (some Line_4_2) (some Told_4_2_8) (some Means_4_2) none none none) := by kernel_rfl
theorem t1_4_2_8_0 : X_t1 (S15 x0 x1 (J 4) (some Rr8) (J 2) x5 x6 x7 (some Tail_4_2) x9 (some Told_4_2_8) (some Means_4_2) x12 (J 0) x14) = some false := by kernel_rfl
theorem t1_4_2_8_1 : X_t1 (S15 x0 x1 (J 4) (some Rr8) (J 2) x5 x6 x7 (some Tail_4_2) x9 (some Told_4_2_8) (some Means_4_2) x12 (J 1) x14) = some false := by kernel_rfl
theorem t1_4_2_8_2 : X_t1 (S15 x0 x1 (J 4) (some Rr8) (J 2) x5 x6 x7 (some Tail_4_2) x9 (some Told_4_2_8) (some Means_4_2) x12 (J 2) x14) = some false := by kernel_rfl
theorem t1_4_2_8_3 : X_t1 (S15 x0 x1 (J 4) (some Rr8) (J 2) x5 x6 x7 (some Tail_4_2) x9 (some Told_4_2_8) (some Means_4_2) x12 (J 3) x14) = some false := by kernel_rfl
theorem t1_4_2_8_4 : X_t1 (S15 x0 x1 (J 4) (some Rr8) (J 2) x5 x6 x7 (some Tail_4_2) x9 (some Told_4_2_8) (some Means_4_2) x12 (J 4) x14) = some false := by kernel_rfl
theorem s6_4_2_9 : X_law_6 (S15 x0 x1 (J 4) (some Rr9) (J 2) x5 x6 (some Rows_4) (some Tail_4_2) (some Line_4_2) none none none none none) = nxt (S15 x0 x1 (J 4) (some Rr9) (J 2) x5 x6 (some Rows_4) (some Tail_4_2) (some Line_4_2) (some Told_4_2_9) (some Means_4_2) none none none) := by kernel_rfl
theorem t1_4_2_9_0 : X_t1 (S15 x0 x1 (J 4) (some Rr9) (J 2) x5 x6 x7 (some Tail_4_2) x9 (some Told_4_2_9) (some Means_4_2) x12 (J 0) x14) = some false := by kernel_rfl
theorem t1_4_2_9_1 : X_t1 (S15 x0 x1 (J 4) (some Rr9) (J 2) x5 x6 x7 (some Tail_4_2) x9 (some Told_4_2_9) (some Means_4_2) x12 (J 1) x14) = some false := by kernel_rfl
theorem t1_4_2_9_2 : X_t1 (S15 x0 x1 (J 4) (some Rr9) (J 2) x5 x6 x7 (some Tail_4_2) x9 (some Told_4_2_9) (some Means_4_2) x12 (J 2) x14) = some false := by kernel_rfl
theorem t1_4_2_9_3 : X_t1 (S15 x0 x1 (J 4) (some Rr9) (J 2) x5 x6 x7 (some Tail_4_2) x9 (some Told_4_2_9) (some Means_4_2) x12 (J 3) x14) = some false := by kernel_rfl
theorem t1_4_2_9_4 : X_t1 (S15 x0 x1 (J 4) (some Rr9) (J 2) x5 x6 x7 (some Tail_4_2) x9 (some Told_4_2_9) (some Means_4_2) x12 (J 4) x14) = some false := by kernel_rfl
theorem s6_4_2_10 : X_law_6 (S15 x0 x1 (J 4) (some Rr10) (J 2) x5 x6 (some Rows_4) (some Tail_4_2) (some Line_4_2) none none none none none) = nxt (S15 x0 x1 (J 4) (some Rr10) (J 2) x5 x6 (some Rows_4) (some Tail_4_2) (some Line_4_2) (some Told_4_2_10) (some Means_4_2) none none none) := by kernel_rfl
theorem t1_4_2_10_0 : X_t1 (S15 x0 x1 (J 4) (some Rr10) (J 2) x5 x6 x7 (some Tail_4_2) x9 (some Told_4_2_10) (some Means_4_2) x12 (J 0) x14) = some false := by kernel_rfl
theorem t1_4_2_10_1 : X_t1 (S15 x0 x1 (J 4) (some Rr10) (J 2) x5 x6 x7 (some Tail_4_2) x9 (some Told_4_2_10) (some Means_4_2) x12 (J 1) x14) = some false := by kernel_rfl
theorem t1_4_2_10_2 : X_t1 (S15 x0 x1 (J 4) (some Rr10) (J 2) x5 x6 x7 (some Tail_4_2) x9 (some Told_4_2_10) (some Means_4_2) x12 (J 2) x14) = some false := by kernel_rfl
theorem t1_4_2_10_3 : X_t1 (S15 x0 x1 (J 4) (some Rr10) (J 2) x5 x6 x7 (some Tail_4_2) x9 (some Told_4_2_10) (some Means_4_2) x12 (J 3) x14) = some false := by kernel_rfl
theorem t1_4_2_10_4 : X_t1 (S15 x0 x1 (J 4) (some Rr10) (J 2) x5 x6 x7 (some Tail_4_2) x9 (some Told_4_2_10) (some Means_4_2) x12 (J 4) x14) = some false := by kernel_rfl
theorem d_4_2_0 : X_l8_0 (S15 x0 x1 (J 4) x3 (J 2) x5 x6 x7 x8 x9 x10 (some Means_4_2) x12 (J 0) x14) = nxt (S15 x0 x1 (J 4) x3 (J 2) x5 x6 x7 x8 x9 x10 (some Means_4_2) x12 (J 0) (some (.tuple [.int (.ofNat 0), .int (.ofNat 1)]))) := by kernel_rfl
theorem t2_4_2_0 : X_t2 (S15 x0 x1 (J 4) x3 (J 2) x5 x6 x7 (some Tail_4_2) x9 x10 (some Means_4_2) x12 (J 0) (some (.tuple [.int (.ofNat 0), .int (.ofNat 1)]))) = some false := by kernel_rfl
theorem d_4_2_1 : X_l8_0 (S15 x0 x1 (J 4) x3 (J 2) x5 x6 x7 x8 x9 x10 (some Means_4_2) x12 (J 1) x14) = nxt (S15 x0 x1 (J 4) x3 (J 2) x5 x6 x7 x8 x9 x10 (some Means_4_2) x12 (J 1) (some (.tuple [.int (.ofNat 0), .int (.ofNat 1)]))) := by kernel_rfl
theorem t2_4_2_1 : X_t2 (S15 x0 x1 (J 4) x3 (J 2) x5 x6 x7 (some Tail_4_2) x9 x10 (some Means_4_2) x12 (J 1) (some (.tuple [.int (.ofNat 0), .int (.ofNat 1)]))) = some false := by kernel_rfl
theorem d_4_2_2 : X_l8_0 (S15 x0 x1 (J 4) x3 (J 2) x5 x6 x7 x8 x9 x10 (some Means_4_2) x12 (J 2) x14) = nxt (S15 x0 x1 (J 4) x3 (J 2) x5 x6 x7 x8 x9 x10 (some Means_4_2) x12 (J 2) (some (.tuple [.int (.ofNat 0), .int (.ofNat 1)]))) := by kernel_rfl
theorem t2_4_2_2 : X_t2 (S15 x0 x1 (J 4) x3 (J 2) x5 x6 x7 (some Tail_4_2) x9 x10 (some Means_4_2) x12 (J 2) (some (.tuple [.int (.ofNat 0), .int (.ofNat 1)]))) = some false := by kernel_rfl
theorem d_4_2_3 : X_l8_0 (S15 x0 x1 (J 4) x3 (J 2) x5 x6 x7 x8 x9 x10 (some Means_4_2) x12 (J 3) x14) = nxt (S15 x0 x1 (J 4) x3 (J 2) x5 x6 x7 x8 x9 x10 (some Means_4_2) x12 (J 3) (some (.tuple [.int (.ofNat 0), .int (.ofNat 1)]))) := by kernel_rfl
theorem t2_4_2_3 : X_t2 (S15 x0 x1 (J 4) x3 (J 2) x5 x6 x7 (some Tail_4_2) x9 x10 (some Means_4_2) x12 (J 3) (some (.tuple [.int (.ofNat 0), .int (.ofNat 1)]))) = some false := by kernel_rfl
theorem d_4_2_4 : X_l8_0 (S15 x0 x1 (J 4) x3 (J 2) x5 x6 x7 x8 x9 x10 (some Means_4_2) x12 (J 4) x14) = nxt (S15 x0 x1 (J 4) x3 (J 2) x5 x6 x7 x8 x9 x10 (some Means_4_2) x12 (J 4) (some Due_4_2)) := by kernel_rfl
theorem t2_4_2_4 : X_t2 (S15 x0 x1 (J 4) x3 (J 2) x5 x6 x7 (some Tail_4_2) x9 x10 (some Means_4_2) x12 (J 4) (some Due_4_2)) = some false := by kernel_rfl
theorem s8_4_2_0_n2 : forO 13 Lb (ksOf [0, 1, 2, 3, 4]) (S15 x0 x1 (J 4) x3 (J 2) (J 0) (some (.tuple [(.int (.negSucc 1)), .int (.ofNat 1)])) x7 (some Tail_4_2) x9 x10 (some Means_4_2) (some (.list [])) none none) = nxt (S15 x0 x1 (J 4) x3 (J 2) (J 0) (some (.tuple [(.int (.negSucc 1)), .int (.ofNat 1)])) x7 (some Tail_4_2) x9 x10 (some Means_4_2) (some Tog_4_2_0_n2) (J 4) (some Due_4_2)) := by kernel_rfl
theorem s9_4_2_0_n2 : X_law_9 (S15 x0 x1 (J 4) x3 (J 2) (J 0) (some (.tuple [(.int (.negSucc 1)), .int (.ofNat 1)])) x7 x8 x9 x10 x11 (some Tog_4_2_0_n2) x13 x14) = nxt (S15 x0 x1 (J 4) x3 (J 2) (J 0) (some (.tuple [(.int (.negSucc 1)), .int (.ofNat 1)])) x7 x8 x9 x10 x11 (some Tog_4_2_0_n2) x13 x14) := by kernel_rfl
theorem s8_4_2_0_n1 : forO 13 Lb (ksOf [0, 1, 2, 3, 4]) (S15 x0 x1 (J 4) x3 (J 2) (J 0) (some (.tuple [(.int (.negSucc 0)), .int (.ofNat 1)])) x7 (some Tail_4_2) x9 x10 (some Means_4_2) (some (.list [])) none none) = nxt (S15 x0 x1 (J 4) x3 (J 2) (J 0) (some (.tuple [(.int (.negSucc 0)), .int (.ofNat 1)])) x7 (some Tail_4_2) x9 x10 (some Means_4_2) (some Tog_4_2_0_n1) (J 4) (some Due_4_2)) := by kernel_rfl
theorem s9_4_2_0_n1 : X_law_9 (S15 x0 x1 (J 4) x3 (J 2) (J 0) (some (.tuple [(.int (.negSucc 0)), .int (.ofNat 1)])) x7 x8 x9 x10 x11 (some Tog_4_2_0_n1) x13 x14) = nxt (S15 x0 x1 (J 4) x3 (J 2) (J 0) (some (.tuple [(.int (.negSucc 0)), .int (.ofNat 1)])) x7 x8 x9 x10 x11 (some Tog_4_2_0_n1) x13 x14) := by kernel_rfl
theorem s8_4_2_0_0 : forO 13 Lb (ksOf [0, 1, 2, 3, 4]) (S15 x0 x1 (J 4) x3 (J 2) (J 0) (some (.tuple [(.int (.ofNat 0)), .int (.ofNat 1)])) x7 (some Tail_4_2) x9 x10 (some Means_4_2) (some (.list [])) none none) = nxt (S15 x0 x1 (J 4) x3 (J 2) (J 0) (some (.tuple [(.int (.ofNat 0)), .int (.ofNat 1)])) x7 (some Tail_4_2) x9 x10 (some Means_4_2) (some Tog_4_2_0_0) (J 4) (some Due_4_2)) := by kernel_rfl
theorem s9_4_2_0_0 : X_law_9 (S15 x0 x1 (J 4) x3 (J 2) (J 0) (some (.tuple [(.int (.ofNat 0)), .int (.ofNat 1)])) x7 x8 x9 x10 x11 (some Tog_4_2_0_0) x13 x14) = nxt (S15 x0 x1 (J 4) x3 (J 2) (J 0) (some (.tuple [(.int (.ofNat 0)), .int (.ofNat 1)])) x7 x8 x9 x10 x11 (some Tog_4_2_0_0) x13 x14) := by kernel_rfl
theorem s8_4_2_0_1 : forO 13 Lb (ksOf [0, 1, 2, 3, 4]) (S15 x0 x1 (J 4) x3 (J 2) (J 0) (some (.tuple [(.int (.ofNat 1)), .int (.ofNat 1)])) x7 (some Tail_4_2) x9 x10 (some Means_4_2) (some (.list [])) none none) = nxt (S15 x0 x1 (J 4) x3 (J 2) (J 0) (some (.tuple [(.int (.ofNat 1)), .int (.ofNat 1)])) x7 (some Tail_4_2) x9 x10 (some Means_4_2) (some Tog_4_2_0_1) (J 4) (some Due_4_2)) := by kernel_rfl
theorem s9_4_2_0_1 : X_law_9 (S15 x0 x1 (J 4) x3 (J 2) (J 0) (some (.tuple [(.int (.ofNat 1)), .int (.ofNat 1)])) x7 x8 x9 x10 x11 (some Tog_4_2_0_1) x13 x14) = nxt (S15 x0 x1 (J 4) x3 (J 2) (J 0) (some (.tuple [(.int (.ofNat 1)), .int (.ofNat 1)])) x7 x8 x9 x10 x11 (some Tog_4_2_0_1) x13 x14) := by kernel_rfl
theorem s8_4_2_0_2 : forO 13 Lb (ksOf [0, 1, 2, 3, 4]) (S15 x0 x1 (J 4) x3 (J 2) (J 0) (some (.tuple [(.int (.ofNat 2)), .int (.ofNat 1)])) x7 (some Tail_4_2) x9 x10 (some Means_4_2) (some (.list [])) none none) = nxt (S15 x0 x1 (J 4) x3 (J 2) (J 0) (some (.tuple [(.int (.ofNat 2)), .int (.ofNat 1)])) x7 (some Tail_4_2) x9 x10 (some Means_4_2) (some Tog_4_2_0_2) (J 4) (some Due_4_2)) := by kernel_rfl
theorem s9_4_2_0_2 : X_law_9 (S15 x0 x1 (J 4) x3 (J 2) (J 0) (some (.tuple [(.int (.ofNat 2)), .int (.ofNat 1)])) x7 x8 x9 x10 x11 (some Tog_4_2_0_2) x13 x14) = nxt (S15 x0 x1 (J 4) x3 (J 2) (J 0) (some (.tuple [(.int (.ofNat 2)), .int (.ofNat 1)])) x7 x8 x9 x10 x11 (some Tog_4_2_0_2) x13 x14) := by kernel_rfl
theorem s8_4_2_1_n2 : forO 13 Lb (ksOf [0, 1, 2, 3, 4]) (S15 x0 x1 (J 4) x3 (J 2) (J 1) (some (.tuple [(.int (.negSucc 1)), .int (.ofNat 1)])) x7 (some Tail_4_2) x9 x10 (some Means_4_2) (some (.list [])) none none) = nxt (S15 x0 x1 (J 4) x3 (J 2) (J 1) (some (.tuple [(.int (.negSucc 1)), .int (.ofNat 1)])) x7 (some Tail_4_2) x9 x10 (some Means_4_2) (some Tog_4_2_1_n2) (J 4) (some Due_4_2)) := by kernel_rfl
theorem s9_4_2_1_n2 : X_law_9 (S15 x0 x1 (J 4) x3 (J 2) (J 1) (some (.tuple [(.int (.negSucc 1)), .int (.ofNat 1)])) x7 x8 x9 x10 x11 (some Tog_4_2_1_n2) x13 x14) = nxt (S15 x0 x1 (J 4) x3 (J 2) (J 1) (some (.tuple [(.int (.negSucc 1)), .int (.ofNat 1)])) x7 x8 x9 x10 x11 (some Tog_4_2_1_n2) x13 x14) := by kernel_rfl
theorem s8_4_2_1_n1 : forO 13 Lb (ksOf [0, 1, 2, 3, 4]) (S15 x0 x1 (J 4) x3 (J 2) (J 1) (some (.tuple [(.int (.negSucc 0)), .int (.ofNat 1)])) x7 (some Tail_4_2) x9 x10 (some Means_4_2) (some (.list [])) none none) = nxt (S15 x0 x1 (J 4) x3 (J 2) (J 1) (some (.tuple [(.int (.negSucc 0)), .int (.ofNat 1)])) x7 (some Tail_4_2) x9 x10 (some Means_4_2) (some Tog_4_2_1_n1) (J 4) (some Due_4_2)) := by kernel_rfl
theorem s9_4_2_1_n1 : X_law_9 (S15 x0 x1 (J 4) x3 (J 2) (J 1) (some (.tuple [(.int (.negSucc 0)), .int (.ofNat 1)])) x7 x8 x9 x10 x11 (some Tog_4_2_1_n1) x13 x14) = nxt (S15 x0 x1 (J 4) x3 (J 2) (J 1) (some (.tuple [(.int (.negSucc 0)), .int (.ofNat 1)])) x7 x8 x9 x10 x11 (some Tog_4_2_1_n1) x13 x14) := by kernel_rfl
theorem s8_4_2_1_0 : forO 13 Lb (ksOf [0, 1, 2, 3, 4]) (S15 x0 x1 (J 4) x3 (J 2) (J 1) (some (.tuple [(.int (.ofNat 0)), .int (.ofNat 1)])) x7 (some Tail_4_2) x9 x10 (some Means_4_2) (some (.list [])) none none) = nxt (S15 x0 x1 (J 4) x3 (J 2) (J 1) (some (.tuple [(.int (.ofNat 0)), .int (.ofNat 1)])) x7 (some Tail_4_2) x9 x10 (some Means_4_2) (some Tog_4_2_1_0) (J 4) (some Due_4_2)) := by kernel_rfl
theorem s9_4_2_1_0 : X_law_9 (S15 x0 x1 (J 4) x3 (J 2) (J 1) (some (.tuple [(.int (.ofNat 0)), .int (.ofNat 1)])) x7 x8 x9 x10 x11 (some Tog_4_2_1_0) x13 x14) = nxt (S15 x0 x1 (J 4) x3 (J 2) (J 1) (some (.tuple [(.int (.ofNat 0)), .int (.ofNat 1)])) x7 x8 x9 x10 x11 (some Tog_4_2_1_0) x13 x14) := by kernel_rfl
theorem s8_4_2_1_1 : forO 13 Lb (ksOf [0, 1, 2, 3, 4]) (S15 x0 x1 (J 4) x3 (J 2) (J 1) (some (.tuple [(.int (.ofNat 1)), .int (.ofNat 1)])) x7 (some Tail_4_2) x9 x10 (some Means_4_2) (some (.list [])) none none) = nxt (S15 x0 x1 (J 4) x3 (J 2) (J 1) (some (.tuple [(.int (.ofNat 1)), .int (.ofNat 1)])) x7 (some Tail_4_2) x9 x10 (some Means_4_2) (some Tog_4_2_1_1) (J 4) (some Due_4_2)) := by kernel_rfl
theorem s9_4_2_1_1 : X_law_9 (S15 x0 x1 (J 4) x3 (J 2) (J 1) (some (.tuple [(.int (.ofNat 1)), .int (.ofNat 1)])) x7 x8 x9 x10 x11 (some Tog_4_2_1_1) x13 x14) = nxt (S15 x0 x1 (J 4) x3 (J 2) (J 1) (some (.tuple [(.int (.ofNat 1)), .int (.ofNat 1)])) x7 x8 x9 x10 x11 (some Tog_4_2_1_1) x13 x14) := by kernel_rfl
theorem s8_4_2_1_2 : forO 13 Lb (ksOf [0, 1, 2, 3, 4]) (S15 x0 x1 (J 4) x3 (J 2) (J 1) (some (.tuple [(.int (.ofNat 2)), .int (.ofNat 1)])) x7 (some Tail_4_2) x9 x10 (some Means_4_2) (some (.list [])) none none) = nxt (S15 x0 x1 (J 4) x3 (J 2) (J 1) (some (.tuple [(.int (.ofNat 2)), .int (.ofNat 1)])) x7 (some Tail_4_2) x9 x10 (some Means_4_2) (some Tog_4_2_1_2) (J 4) (some Due_4_2)) := by kernel_rfl
theorem s9_4_2_1_2 : X_law_9 (S15 x0 x1 (J 4) x3 (J 2) (J 1) (some (.tuple [(.int (.ofNat 2)), .int (.ofNat 1)])) x7 x8 x9 x10 x11 (some Tog_4_2_1_2) x13 x14) = nxt (S15 x0 x1 (J 4) x3 (J 2) (J 1) (some (.tuple [(.int (.ofNat 2)), .int (.ofNat 1)])) x7 x8 x9 x10 x11 (some Tog_4_2_1_2) x13 x14) := by kernel_rfl
theorem s8_4_2_2_n2 : forO 13 Lb (ksOf [0, 1, 2, 3, 4]) (S15 x0 x1 (J 4) x3 (J 2) (J 2) (some (.tuple [(.int (.negSucc 1)), .int (.ofNat 1)])) x7 (some Tail_4_2) x9 x10 (some Means_4_2) (some (.list [])) none none) = nxt (S15 x0 x1 (J 4) x3 (J 2) (J 2) (some (.tuple [(.int (.negSucc 1)), .int (.ofNat 1)])) x7 (some Tail_4_2) x9 x10 (some Means_4_2) (some Tog_4_2_2_n2) (J 4) (some Due_4_2)) := by kernel_rfl
theorem s9_4_2_2_n2 : X_law_9 (S15 x0 x1 (J 4) x3 (J 2) (J 2) (some (.tuple [(.int (.negSucc 1)), .int (.ofNat 1)])) x7 x8 x9 x10 x11 (some Tog_4_2_2_n2) x13 x14) = nxt (S15 x0 x1 (J 4) x3 (J 2) (J 2) (some (.tuple [(.int (.negSucc 1)), .int (.ofNat 1)])) x7 x8 x9 x10 x11 (some Tog_4_2_2_n2) x13 x14) := by kernel_rfl
theorem s8_4_2_2_n1 : forO 13 Lb (ksOf [0, 1, 2, 3, 4]) (S15 x0 x1 (J 4) x3 (J 2) (J 2) (some (.tuple [(.int (.negSucc 0)), .int (.ofNat 1)])) x7 (some Tail_4_2) x9 x10 (some Means_4_2) (some (.list [])) none none) = nxt (S15 x0 x1 (J 4) x3 (J 2) (J 2) (some (.tuple [(.int (.negSucc 0)), .int (.ofNat 1)])) x7 (some Tail_4_2) x9 x10 (some Means_4_2) (some Tog_4_2_2_n1) (J 4) (some Due_4_2)) := by kernel_rfl
theorem s9_4_2_2_n1 : X_law_9 (S15 x0 x1 (J 4) x3 (J 2) (J 2) (some (.tuple [(.int (.negSucc 0)), .int (.ofNat 1)])) x7 x8 x9 x10 x11 (some Tog_4_2_2_n1) x13 x14) = nxt (S15 x0 x1 (J 4) x3 (J 2) (J 2) (some (.tuple [(.int (.negSucc 0)), .int (.ofNat 1)])) x7 x8 x9 x10 x11 (some Tog_4_2_2_n1) x13 x14) := by kernel_rfl
theorem s8_4_2_2_0 : forO 13 Lb (ksOf [0, 1, 2, 3, 4]) (S15 x0 x1 (J 4) x3 (J 2) (J 2) (some (.tuple [(.int (.ofNat 0)), .int (.ofNat 1)])) x7 (some Tail_4_2) x9 x10 (some Means_4_2) (some (.list [])) none none) = nxt (S15 x0 x1 (J 4) x3 (J 2) (J 2) (some (.tuple [(.int (.ofNat 0)), .int (.ofNat 1)])) x7 (some Tail_4_2) x9 x10 (some Means_4_2) (some Tog_4_2_2_0) (J 4) (some Due_4_2)) := by kernel_rfl
theorem s9_4_2_2_0 : X_law_9 (S15 x0 x1 (J 4) x3 (J 2) (J 2) (some (.tuple [(.int (.ofNat 0)), .int (.ofNat 1)])) x7 x8 x9 x10 x11 (some Tog_4_2_2_0) x13 x14) = nxt (S15 x0 x1 (J 4) x3 (J 2) (J 2) (some (.tuple [(.int (.ofNat 0)), .int (.ofNat 1)])) x7 x8 x9 x10 x11 (some Tog_4_2_2_0) x13 x14) := by kernel_rfl
theorem s8_4_2_2_1 : forO 13 Lb (ksOf [0, 1, 2, 3, 4]) (S15 x0 x1 (J 4) x3 (J 2) (J 2) (some (.tuple [(.int (.ofNat 1)), .int (.ofNat 1)])) x7 (some Tail_4_2) x9 x10 (some Means_4_2) (some (.list [])) none none) = nxt (S15 x0 x1 (J 4) x3 (J 2) (J 2) (some (.tuple [(.int (.ofNat 1)), .int (.ofNat 1)])) x7 (some Tail_4_2) x9 x10 (some Means_4_2) (some Tog_4_2_2_1) (J 4) (some Due_4_2)) := by kernel_rfl
theorem s9_4_2_2_1 : X_law_9 (S15 x0 x1 (J 4) x3 (J 2) (J 2) (some (.tuple [(.int (.ofNat 1)), .int (.ofNat 1)])) x7 x8 x9 x10 x11 (some Tog_4_2_2_1) x13 x14) = nxt (S15 x0 x1 (J 4) x3 (J 2) (J 2) (some (.tuple [(.int (.ofNat 1)), .int (.ofNat 1)])) x7 x8 x9 x10 x11 (some Tog_4_2_2_1) x13 x14) := by kernel_rfl
theorem s8_4_2_2_2 : forO 13 Lb (ksOf [0, 1, 2, 3, 4]) (S15 x0 x1 (J 4) x3 (J 2) (J 2) (some (.tuple [(.int (.ofNat 2)), .int (.ofNat 1)])) x7 (some Tail_4_2) x9 x10 (some Means_4_2) (some (.list [])) none none) = nxt (S15 x0 x1 (J 4) x3 (J 2) (J 2) (some (.tuple [(.int (.ofNat 2)), .int (.ofNat 1)])) x7 (some Tail_4_2) x9 x10 (some Means_4_2) (some Tog_4_2_2_2) (J 4) (some Due_4_2)) := by kernel_rfl
theorem s9_4_2_2_2 : X_law_9 (S15 x0 x1 (J 4) x3 (J 2) (J 2) (some (.tuple [(.int (.ofNat 2)), .int (.ofNat 1)])) x7 x8 x9 x10 x11 (some Tog_4_2_2_2) x13 x14) = nxt (S15 x0 x1 (J 4) x3 (J 2) (J 2) (some (.tuple [(.int (.ofNat 2)), .int (.ofNat 1)])) x7 x8 x9 x10 x11 (some Tog_4_2_2_2) x13 x14) := by kernel_rfl
theorem s10_4_2 : X_end (S15 x0 x1 (J 4) x3 (J 2) x5 x6 (some Rows_4) (some Tail_4_2) x9 x10 x11 x12 x13 x14) = some (.ret (.bool true)) := by kernel_rfl
end
end Mine

namespace Mine
open PySem PySem.W PySem.Spec PySem.Calls PyProof.Rows

theorem fa {α : Type} {p : α → Prop} {a : α} {l : List α} (h : p a) (hs : ∀ x ∈ l, p x) : ∀ x ∈ a :: l, p x := List.forall_mem_cons.mpr ⟨h, hs⟩
theorem fz {α : Type} {p : α → Prop} : ∀ x ∈ ([] : List α), p x := fun _ h => nomatch h
noncomputable def PR (m a rows tail line means : PyData) (ks : List PyData) (r : PyData) : Prop :=
  F__law_hermite_right [m, r, rows] = some (.bool true) ∧ ∃ told : PyData, ∀ x0 x1 x5 x6 : OD,
    X_law_6 (S19 x0 x1 (some m) (some r) (some a) x5 x6 (some rows) (some tail) (some line) none none none none none none none none none) = nxt (S19 x0 x1 (some m) (some r) (some a) x5 x6 (some rows) (some tail) (some line) (some told) (some means) none none none none none none none) ∧
    ∀ k ∈ ks, ∃ due : PyData, ∀ tog d : OD,
      X_l8_0 (S19 x0 x1 (some m) (some r) (some a) x5 x6 (some rows) (some tail) (some line) (some told) (some means) tog (some k) d none none none none) = nxt (S19 x0 x1 (some m) (some r) (some a) x5 x6 (some rows) (some tail) (some line) (some told) (some means) tog (some k) (some due) none none none none) ∧
      X_l8_1 (S19 x0 x1 (some m) (some r) (some a) x5 x6 (some rows) (some tail) (some line) (some told) (some means) tog (some k) (some due) none none none none) = nxt (S19 x0 x1 (some m) (some r) (some a) x5 x6 (some rows) (some tail) (some line) (some told) (some means) tog (some k) (some due) none none none none)
noncomputable def PBC (m a tail means due : PyData) (ks : List PyData) (b c : PyData) : Prop :=
  ∃ tog : PyData, ∀ x0 x1 x3 x7 x9 x10 : OD,
    forO 13 Lb ks (S19 x0 x1 (some m) x3 (some a) (some b) (some c) x7 (some tail) x9 x10 (some means) (some (.list [])) none none none none none none) = nxt (S19 x0 x1 (some m) x3 (some a) (some b) (some c) x7 (some tail) x9 x10 (some means) (some tog) (some m) (some due) none none none none) ∧
    X_law_9 (S19 x0 x1 (some m) x3 (some a) (some b) (some c) x7 (some tail) x9 x10 (some means) (some tog) (some m) (some due) none none none none) = nxt (S19 x0 x1 (some m) x3 (some a) (some b) (some c) x7 (some tail) x9 x10 (some means) (some tog) (some m) (some due) none none none none)
theorem run {m a rows tail line means due : PyData} {ks : List PyData}
    (h3 : ∀ x0 x1 x3 x5 x6 : OD, X_law_3 (S19 x0 x1 (some m) x3 (some a) x5 x6 none none none none none none none none none none none none) = nxt (S19 x0 x1 (some m) x3 (some a) x5 x6 (some rows) (some tail) none none none none none none none none none none))
    (h5 : ∀ x0 x1 x3 x5 x6 : OD, X_law_5 (S19 x0 x1 (some m) x3 (some a) x5 x6 (some rows) (some tail) none none none none none none none none none none) = nxt (S19 x0 x1 (some m) x3 (some a) x5 x6 (some rows) (some tail) (some line) none none none none none none none none none))
    (hks : (o1 (bind2 (fun ρ => vg ρ 2) (fun _ => some (.int 1)) (binD .Add)) rngD1) [none, none, some m] = some ks)
    (h10 : ∀ x0 x1 x3 x5 x6 x9 x10 x11 x12 x13 x14 : OD, X_end (S19 x0 x1 (some m) x3 (some a) x5 x6 (some rows) (some tail) x9 x10 x11 x12 x13 x14 none none none none) = some (.ret (.bool true)))
    {r b c : PyData} (hr : PR m a rows tail line means ks r) (hbc : PBC m a tail means due ks b c) (x0 x1 : OD) :
    X_rest (S19 x0 x1 (some m) (some r) (some a) (some b) (some c) none none none none none none none none none none none none) = some (.ret (.bool true)) := by
  obtain ⟨h4, told, hr⟩ := hr
  obtain ⟨tog, hbc⟩ := hbc
  obtain ⟨h6, hT⟩ := hr x0 x1 (some b) (some c)
  obtain ⟨h8, h9⟩ := hbc x0 x1 (some r) (some rows) (some line) (some told)
  exact glue (h3 _ _ _ _ _) h4 (h5 _ _ _ _ _) h6 hks hT h8 h9 (h10 _ _ _ _ _ _ _ _ _ _ _)

noncomputable def RL : List PyData := [Rr0, Rr1, Rr2, Rr3, Rr4, Rr5, Rr6, Rr7, Rr8, Rr9, Rr10]
noncomputable def BL : List PyData := [(.int (.ofNat 0)), (.int (.ofNat 1)), (.int (.ofNat 2))]
noncomputable def ML : List PyData := [(.int (.ofNat 2)), (.int (.ofNat 3)), (.int (.ofNat 4))]
noncomputable def CL : List PyData := [(.tuple [(.int (.negSucc 1)), .int (.ofNat 1)]), (.tuple [(.int (.negSucc 0)), .int (.ofNat 1)]), (.tuple [(.int (.ofNat 0)), .int (.ofNat 1)]), (.tuple [(.int (.ofNat 1)), .int (.ofNat 1)]), (.tuple [(.int (.ofNat 2)), .int (.ofNat 1)])]
theorem pr_2_0_0 : PR (.int (.ofNat 2)) (.int (.ofNat 0)) Rows_2 Tail_2_0 Line_2_0 Means_2_0 (ksOf [0, 1, 2]) Rr0 := ⟨hm_2_0, Told_2_0_0, fun _ _ _ _ => ⟨s6_2_0_0 .., (fa ⟨.tuple [.int (.ofNat 0), .int (.ofNat 1)], fun _ _ => ⟨d_2_0_0 .., t8 (t1_2_0_0_0 ..) (t2_2_0_0 ..)⟩⟩ (fa ⟨.tuple [.int (.ofNat 0), .int (.ofNat 1)], fun _ _ => ⟨d_2_0_1 .., t8 (t1_2_0_0_1 ..) (t2_2_0_1 ..)⟩⟩ (fa ⟨Due_2_0, fun _ _ => ⟨d_2_0_2 .., t8 (t1_2_0_0_2 ..) (t2_2_0_2 ..)⟩⟩ fz)))⟩⟩
theorem pr_2_0_1 : PR (.int (.ofNat 2)) (.int (.ofNat 0)) Rows_2 Tail_2_0 Line_2_0 Means_2_0 (ksOf [0, 1, 2]) Rr1 := ⟨hm_2_1, Told_2_0_1, fun _ _ _ _ => ⟨s6_2_0_1 .., (fa ⟨.tuple [.int (.ofNat 0), .int (.ofNat 1)], fun _ _ => ⟨d_2_0_0 .., t8 (t1_2_0_1_0 ..) (t2_2_0_0 ..)⟩⟩ (fa ⟨.tuple [.int (.ofNat 0), .int (.ofNat 1)], fun _ _ => ⟨d_2_0_1 .., t8 (t1_2_0_1_1 ..) (t2_2_0_1 ..)⟩⟩ (fa ⟨Due_2_0, fun _ _ => ⟨d_2_0_2 .., t8 (t1_2_0_1_2 ..) (t2_2_0_2 ..)⟩⟩ fz)))⟩⟩
theorem pr_2_0_2 : PR (.int (.ofNat 2)) (.int (.ofNat 0)) Rows_2 Tail_2_0 Line_2_0 Means_2_0 (ksOf [0, 1, 2]) Rr2 := ⟨hm_2_2, Told_2_0_2, fun _ _ _ _ => ⟨s6_2_0_2 .., (fa ⟨.tuple [.int (.ofNat 0), .int (.ofNat 1)], fun _ _ => ⟨d_2_0_0 .., t8 (t1_2_0_2_0 ..) (t2_2_0_0 ..)⟩⟩ (fa ⟨.tuple [.int (.ofNat 0), .int (.ofNat 1)], fun _ _ => ⟨d_2_0_1 .., t8 (t1_2_0_2_1 ..) (t2_2_0_1 ..)⟩⟩ (fa ⟨Due_2_0, fun _ _ => ⟨d_2_0_2 .., t8 (t1_2_0_2_2 ..) (t2_2_0_2 ..)⟩⟩ fz)))⟩⟩
theorem pr_2_0_3 : PR (.int (.ofNat 2)) (.int (.ofNat 0)) Rows_2 Tail_2_0 Line_2_0 Means_2_0 (ksOf [0, 1, 2]) Rr3 := ⟨hm_2_3, Told_2_0_3, fun _ _ _ _ => ⟨s6_2_0_3 .., (fa ⟨.tuple [.int (.ofNat 0), .int (.ofNat 1)], fun _ _ => ⟨d_2_0_0 .., t8 (t1_2_0_3_0 ..) (t2_2_0_0 ..)⟩⟩ (fa ⟨.tuple [.int (.ofNat 0), .int (.ofNat 1)], fun _ _ => ⟨d_2_0_1 .., t8 (t1_2_0_3_1 ..) (t2_2_0_1 ..)⟩⟩ (fa ⟨Due_2_0, fun _ _ => ⟨d_2_0_2 .., t8 (t1_2_0_3_2 ..) (t2_2_0_2 ..)⟩⟩ fz)))⟩⟩
theorem pr_2_0_4 : PR (.int (.ofNat 2)) (.int (.ofNat 0)) Rows_2 Tail_2_0 Line_2_0 Means_2_0 (ksOf [0, 1, 2]) Rr4 := ⟨hm_2_4, Told_2_0_4, fun _ _ _ _ => ⟨s6_2_0_4 .., (fa ⟨.tuple [.int (.ofNat 0), .int (.ofNat 1)], fun _ _ => ⟨d_2_0_0 .., t8 (t1_2_0_4_0 ..) (t2_2_0_0 ..)⟩⟩ (fa ⟨.tuple [.int (.ofNat 0), .int (.ofNat 1)], fun _ _ => ⟨d_2_0_1 .., t8 (t1_2_0_4_1 ..) (t2_2_0_1 ..)⟩⟩ (fa ⟨Due_2_0, fun _ _ => ⟨d_2_0_2 .., t8 (t1_2_0_4_2 ..) (t2_2_0_2 ..)⟩⟩ fz)))⟩⟩
theorem pr_2_0_5 : PR (.int (.ofNat 2)) (.int (.ofNat 0)) Rows_2 Tail_2_0 Line_2_0 Means_2_0 (ksOf [0, 1, 2]) Rr5 := ⟨hm_2_5, Told_2_0_5, fun _ _ _ _ => ⟨s6_2_0_5 .., (fa ⟨.tuple [.int (.ofNat 0), .int (.ofNat 1)], fun _ _ => ⟨d_2_0_0 .., t8 (t1_2_0_5_0 ..) (t2_2_0_0 ..)⟩⟩ (fa ⟨.tuple [.int (.ofNat 0), .int (.ofNat 1)], fun _ _ => ⟨d_2_0_1 .., t8 (t1_2_0_5_1 ..) (t2_2_0_1 ..)⟩⟩ (fa ⟨Due_2_0, fun _ _ => ⟨d_2_0_2 .., t8 (t1_2_0_5_2 ..) (t2_2_0_2 ..)⟩⟩ fz)))⟩⟩
theorem pr_2_0_6 : PR (.int (.ofNat 2)) (.int (.ofNat 0)) Rows_2 Tail_2_0 Line_2_0 Means_2_0 (ksOf [0, 1, 2]) Rr6 := ⟨hm_2_6, Told_2_0_6, fun _ _ _ _ => ⟨s6_2_0_6 .., (fa ⟨.tuple [.int (.ofNat 0), .int (.ofNat 1)], fun _ _ => ⟨d_2_0_0 .., t8 (t1_2_0_6_0 ..) (t2_2_0_0 ..)⟩⟩ (fa ⟨.tuple [.int (.ofNat 0), .int (.ofNat 1)], fun _ _ => ⟨d_2_0_1 .., t8 (t1_2_0_6_1 ..) (t2_2_0_1 ..)⟩⟩ (fa ⟨Due_2_0, fun _ _ => ⟨d_2_0_2 .., t8 (t1_2_0_6_2 ..) (t2_2_0_2 ..)⟩⟩ fz)))⟩⟩
theorem pr_2_0_7 : PR (.int (.ofNat 2)) (.int (.ofNat 0)) Rows_2 Tail_2_0 Line_2_0 Means_2_0 (ksOf [0, 1, 2]) Rr7 := ⟨hm_2_7, Told_2_0_7, fun _ _ _ _ => ⟨s6_2_0_7 .., (fa ⟨.tuple [.int (.ofNat 0), .int (.ofNat 1)], fun _ _ => ⟨d_2_0_0 .., t8 (t1_2_0_7_0 ..) (t2_2_0_0 ..)⟩⟩ (fa ⟨.tuple [.int (.ofNat 0), .int (.ofNat 1)], fun _ _ => ⟨d_2_0_1 .., t8 (t1_2_0_7_1 ..) (t2_2_0_1 ..)⟩⟩ (fa ⟨Due_2_0, fun _ _ => ⟨d_2_0_2 .., t8 (t1_2_0_7_2 ..) (t2_2_0_2 ..)⟩⟩ fz)))⟩⟩
theorem pr_2_0_8 : PR (.int (.ofNat 2)) (.int (.ofNat 0)) Rows_2 Tail_2_0 Line_2_0 Means_2_0 (ksOf [0, 1, 2]) Rr8 := ⟨hm_2_8, Told_2_0_8, fun _ _ _ _ => ⟨s6_2_0_8 .., (fa ⟨.tuple [.int (.ofNat 0), .int (.ofNat 1)], fun _ _ => ⟨d_2_0_0 .., t8 (t1_2_0_8_0 ..) (t2_2_0_0 ..)⟩⟩ (fa ⟨.tuple [.int (.ofNat 0), .int (.ofNat 1)], fun _ _ => ⟨d_2_0_1 .., t8 (t1_2_0_8_1 ..) (t2_2_0_1 ..)⟩⟩ (fa ⟨Due_2_0, fun _ _ => ⟨d_2_0_2 .., t8 (t1_2_0_8_2 ..) (t2_2_0_2 ..)⟩⟩ fz)))⟩⟩
theorem pr_2_0_9 : PR (.int (.ofNat 2)) (.int (.ofNat 0)) Rows_2 Tail_2_0 Line_2_0 Means_2_0 (ksOf [0, 1, 2]) Rr9 := ⟨hm_2_9, Told_2_0_9, fun _ _ _ _ => ⟨s6_2_0_9 .., (fa ⟨.tuple [.int (.ofNat 0), .int (.ofNat 1)], fun _ _ => ⟨d_2_0_0 .., t8 (t1_2_0_9_0 ..) (t2_2_0_0 ..)⟩⟩ (fa ⟨.tuple [.int (.ofNat 0), .int (.ofNat 1)], fun _ _ => ⟨d_2_0_1 .., t8 (t1_2_0_9_1 ..) (t2_2_0_1 ..)⟩⟩ (fa ⟨Due_2_0, fun _ _ => ⟨d_2_0_2 .., t8 (t1_2_0_9_2 ..) (t2_2_0_2 ..)⟩⟩ fz)))⟩⟩
theorem pr_2_0_10 : PR (.int (.ofNat 2)) (.int (.ofNat 0)) Rows_2 Tail_2_0 Line_2_0 Means_2_0 (ksOf [0, 1, 2]) Rr10 := ⟨hm_2_10, Told_2_0_10, fun _ _ _ _ => ⟨s6_2_0_10 .., (fa ⟨.tuple [.int (.ofNat 0), .int (.ofNat 1)], fun _ _ => ⟨d_2_0_0 .., t8 (t1_2_0_10_0 ..) (t2_2_0_0 ..)⟩⟩ (fa ⟨.tuple [.int (.ofNat 0), .int (.ofNat 1)], fun _ _ => ⟨d_2_0_1 .., t8 (t1_2_0_10_1 ..) (t2_2_0_1 ..)⟩⟩ (fa ⟨Due_2_0, fun _ _ => ⟨d_2_0_2 .., t8 (t1_2_0_10_2 ..) (t2_2_0_2 ..)⟩⟩ fz)))⟩⟩
theorem pr_2_0 : ∀ r ∈ RL, PR (.int (.ofNat 2)) (.int (.ofNat 0)) Rows_2 Tail_2_0 Line_2_0 Means_2_0 (ksOf [0, 1, 2]) r := (fa pr_2_0_0 (fa pr_2_0_1 (fa pr_2_0_2 (fa pr_2_0_3 (fa pr_2_0_4 (fa pr_2_0_5 (fa pr_2_0_6 (fa pr_2_0_7 (fa pr_2_0_8 (fa pr_2_0_9 (fa pr_2_0_10 fz)))))))))))
theorem pbc_2_0 : ∀ b ∈ BL, ∀ c ∈ CL, PBC (.int (.ofNat 2)) (.int (.ofNat 0)) Tail_2_0 Means_2_0 Due_2_0 (ksOf [0, 1, 2]) b c := (fa (fa ⟨Tog_2_0_0_n2, fun _ _ _ _ _ _ => ⟨s8_2_0_0_n2 .., s9_2_0_0_n2 ..⟩⟩ (fa ⟨Tog_2_0_0_n1, fun _ _ _ _ _ _ => ⟨s8_2_0_0_n1 .., s9_2_0_0_n1 ..⟩⟩ (fa ⟨Tog_2_0_0_0, fun _ _ _ _ _ _ => ⟨s8_2_0_0_0 .., s9_2_0_0_0 ..⟩⟩ (fa ⟨Tog_2_0_0_1, fun _ _ _ _ _ _ => ⟨s8_2_0_0_1 .., s9_2_0_0_1 ..⟩⟩ (fa ⟨Tog_2_0_0_2, fun _ _ _ _ _ _ => ⟨s8_2_0_0_2 .., s9_2_0_0_2 ..⟩⟩ fz))))) (fa (fa ⟨Tog_2_0_1_n2, fun _ _ _ _ _ _ => ⟨s8_2_0_1_n2 .., s9_2_0_1_n2 ..⟩⟩ (fa ⟨Tog_2_0_1_n1, fun _ _ _ _ _ _ => ⟨s8_2_0_1_n1 .., s9_2_0_1_n1 ..⟩⟩ (fa ⟨Tog_2_0_1_0, fun _ _ _ _ _ _ => ⟨s8_2_0_1_0 .., s9_2_0_1_0 ..⟩⟩ (fa ⟨Tog_2_0_1_1, fun _ _ _ _ _ _ => ⟨s8_2_0_1_1 .., s9_2_0_1_1 ..⟩⟩ (fa ⟨Tog_2_0_1_2, fun _ _ _ _ _ _ => ⟨s8_2_0_1_2 .., s9_2_0_1_2 ..⟩⟩ fz))))) (fa (fa ⟨Tog_2_0_2_n2, fun _ _ _ _ _ _ => ⟨s8_2_0_2_n2 .., s9_2_0_2_n2 ..⟩⟩ (fa ⟨Tog_2_0_2_n1, fun _ _ _ _ _ _ => ⟨s8_2_0_2_n1 .., s9_2_0_2_n1 ..⟩⟩ (fa ⟨Tog_2_0_2_0, fun _ _ _ _ _ _ => ⟨s8_2_0_2_0 .., s9_2_0_2_0 ..⟩⟩ (fa ⟨Tog_2_0_2_1, fun _ _ _ _ _ _ => ⟨s8_2_0_2_1 .., s9_2_0_2_1 ..⟩⟩ (fa ⟨Tog_2_0_2_2, fun _ _ _ _ _ _ => ⟨s8_2_0_2_2 .., s9_2_0_2_2 ..⟩⟩ fz))))) fz)))
theorem run_2_0 : ∀ r ∈ RL, ∀ b ∈ BL, ∀ c ∈ CL, ∀ x0 x1 : OD, X_rest (S19 x0 x1 (some (.int (.ofNat 2))) (some r) (some (.int (.ofNat 0))) (some b) (some c) none none none none none none none none none none none none) = some (.ret (.bool true)) :=
  fun r hr b hb c hc x0 x1 => run (s3_2_0) (s5_2_0) (by kernel_rfl) (s10_2_0) (pr_2_0 r hr) (pbc_2_0 b hb c hc) x0 x1
theorem pr_2_1_0 : PR (.int (.ofNat 2)) (.int (.ofNat 1)) Rows_2 Tail_2_1 Line_2_1 Means_2_1 (ksOf [0, 1, 2]) Rr0 := ⟨hm_2_0, Told_2_1_0, fun _ _ _ _ => ⟨s6_2_1_0 .., (fa ⟨.tuple [.int (.ofNat 0), .int (.ofNat 1)], fun _ _ => ⟨d_2_1_0 .., t8 (t1_2_1_0_0 ..) (t2_2_1_0 ..)⟩⟩ (fa ⟨.tuple [.int (.ofNat 0), .int (.ofNat 1)], fun _ _ => ⟨d_2_1_1 .., t8 (t1_2_1_0_1 ..) (t2_2_1_1 ..)⟩⟩ (fa ⟨Due_2_1, fun _ _ => ⟨d_2_1_2 .., t8 (t1_2_1_0_2 ..) (t2_2_1_2 ..)⟩⟩ fz)))⟩⟩
theorem pr_2_1_1 : PR (.int (.ofNat 2)) (.int (.ofNat 1)) Rows_2 Tail_2_1 Line_2_1 Means_2_1 (ksOf [0, 1, 2]) Rr1 := ⟨hm_2_1, Told_2_1_1, fun _ _ _ _ => ⟨s6_2_1_1 .., (fa ⟨.tuple [.int (.ofNat 0), .int (.ofNat 1)], fun _ _ => ⟨d_2_1_0 .., t8 (t1_2_1_1_0 ..) (t2_2_1_0 ..)⟩⟩ (fa ⟨.tuple [.int (.ofNat 0), .int (.ofNat 1)], fun _ _ => ⟨d_2_1_1 .., t8 (t1_2_1_1_1 ..) (t2_2_1_1 ..)⟩⟩ (fa ⟨Due_2_1, fun _ _ => ⟨d_2_1_2 .., t8 (t1_2_1_1_2 ..) (t2_2_1_2 ..)⟩⟩ fz)))⟩⟩
theorem pr_2_1_2 : PR (.int (.ofNat 2)) (.int (.ofNat 1)) Rows_2 Tail_2_1 Line_2_1 Means_2_1 (ksOf [0, 1, 2]) Rr2 := ⟨hm_2_2, Told_2_1_2, fun _ _ _ _ => ⟨s6_2_1_2 .., (fa ⟨.tuple [.int (.ofNat 0), .int (.ofNat 1)], fun _ _ => ⟨d_2_1_0 .., t8 (t1_2_1_2_0 ..) (t2_2_1_0 ..)⟩⟩ (fa ⟨.tuple [.int (.ofNat 0), .int (.ofNat 1)], fun _ _ => ⟨d_2_1_1 .., t8 (t1_2_1_2_1 ..) (t2_2_1_1 ..)⟩⟩ (fa ⟨Due_2_1, fun _ _ => ⟨d_2_1_2 .., t8 (t1_2_1_2_2 ..) (t2_2_1_2 ..)⟩⟩ fz)))⟩⟩
theorem pr_2_1_3 : PR (.int (.ofNat 2)) (.int (.ofNat 1)) Rows_2 Tail_2_1 Line_2_1 Means_2_1 (ksOf [0, 1, 2]) Rr3 := ⟨hm_2_3, Told_2_1_3, fun _ _ _ _ => ⟨s6_2_1_3 .., (fa ⟨.tuple [.int (.ofNat 0), .int (.ofNat 1)], fun _ _ => ⟨d_2_1_0 .., t8 (t1_2_1_3_0 ..) (t2_2_1_0 ..)⟩⟩ (fa ⟨.tuple [.int (.ofNat 0), .int (.ofNat 1)], fun _ _ => ⟨d_2_1_1 .., t8 (t1_2_1_3_1 ..) (t2_2_1_1 ..)⟩⟩ (fa ⟨Due_2_1, fun _ _ => ⟨d_2_1_2 .., t8 (t1_2_1_3_2 ..) (t2_2_1_2 ..)⟩⟩ fz)))⟩⟩
theorem pr_2_1_4 : PR (.int (.ofNat 2)) (.int (.ofNat 1)) Rows_2 Tail_2_1 Line_2_1 Means_2_1 (ksOf [0, 1, 2]) Rr4 := ⟨hm_2_4, Told_2_1_4, fun _ _ _ _ => ⟨s6_2_1_4 .., (fa ⟨.tuple [.int (.ofNat 0), .int (.ofNat 1)], fun _ _ => ⟨d_2_1_0 .., t8 (t1_2_1_4_0 ..) (t2_2_1_0 ..)⟩⟩ (fa ⟨.tuple [.int (.ofNat 0), .int (.ofNat 1)], fun _ _ => ⟨d_2_1_1 .., t8 (t1_2_1_4_1 ..) (t2_2_1_1 ..)⟩⟩ (fa ⟨Due_2_1, fun _ _ => ⟨d_2_1_2 .., t8 (t1_2_1_4_2 ..) (t2_2_1_2 ..)⟩⟩ fz)))⟩⟩
theorem pr_2_1_5 : PR (.int (.ofNat 2)) (.int (.ofNat 1)) Rows_2 Tail_2_1 Line_2_1 Means_2_1 (ksOf [0, 1, 2]) Rr5 := ⟨hm_2_5, Told_2_1_5, fun _ _ _ _ => ⟨s6_2_1_5 .., (fa ⟨.tuple [.int (.ofNat 0), .int (.ofNat 1)], fun _ _ => ⟨d_2_1_0 .., t8 (t1_2_1_5_0 ..) (t2_2_1_0 ..)⟩⟩ (fa ⟨.tuple [.int (.ofNat 0), .int (.ofNat 1)], fun _ _ => ⟨d_2_1_1 .., t8 (t1_2_1_5_1 ..) (t2_2_1_1 ..)⟩⟩ (fa ⟨Due_2_1, fun _ _ => ⟨d_2_1_2 .., t8 (t1_2_1_5_2 ..) (t2_2_1_2 ..)⟩⟩ fz)))⟩⟩
theorem pr_2_1_6 : PR (.int (.ofNat 2)) (.int (.ofNat 1)) Rows_2 Tail_2_1 Line_2_1 Means_2_1 (ksOf [0, 1, 2]) Rr6 := ⟨hm_2_6, Told_2_1_6, fun _ _ _ _ => ⟨s6_2_1_6 .., (fa ⟨.tuple [.int (.ofNat 0), .int (.ofNat 1)], fun _ _ => ⟨d_2_1_0 .., t8 (t1_2_1_6_0 ..) (t2_2_1_0 ..)⟩⟩ (fa ⟨.tuple [.int (.ofNat 0), .int (.ofNat 1)], fun _ _ => ⟨d_2_1_1 .., t8 (t1_2_1_6_1 ..) (t2_2_1_1 ..)⟩⟩ (fa ⟨Due_2_1, fun _ _ => ⟨d_2_1_2 .., t8 (t1_2_1_6_2 ..) (t2_2_1_2 ..)⟩⟩ fz)))⟩⟩
theorem pr_2_1_7 : PR (.int (.ofNat 2)) (.int (.ofNat 1)) Rows_2 Tail_2_1 Line_2_1 Means_2_1 (ksOf [0, 1, 2]) Rr7 := ⟨hm_2_7, Told_2_1_7, fun _ _ _ _ => ⟨s6_2_1_7 .., (fa ⟨.tuple [.int (.ofNat 0), .int (.ofNat 1)], fun _ _ => ⟨d_2_1_0 .., t8 (t1_2_1_7_0 ..) (t2_2_1_0 ..)⟩⟩ (fa ⟨.tuple [.int (.ofNat 0), .int (.ofNat 1)], fun _ _ => ⟨d_2_1_1 .., t8 (t1_2_1_7_1 ..) (t2_2_1_1 ..)⟩⟩ (fa ⟨Due_2_1, fun _ _ => ⟨d_2_1_2 .., t8 (t1_2_1_7_2 ..) (t2_2_1_2 ..)⟩⟩ fz)))⟩⟩
theorem pr_2_1_8 : PR (.int (.ofNat 2)) (.int (.ofNat 1)) Rows_2 Tail_2_1 Line_2_1 Means_2_1 (ksOf [0, 1, 2]) Rr8 := ⟨hm_2_8, Told_2_1_8, fun _ _ _ _ => ⟨s6_2_1_8 .., (fa ⟨.tuple [.int (.ofNat 0), .int (.ofNat 1)], fun _ _ => ⟨d_2_1_0 .., t8 (t1_2_1_8_0 ..) (t2_2_1_0 ..)⟩⟩ (fa ⟨.tuple [.int (.ofNat 0), .int (.ofNat 1)], fun _ _ => ⟨d_2_1_1 .., t8 (t1_2_1_8_1 ..) (t2_2_1_1 ..)⟩⟩ (fa ⟨Due_2_1, fun _ _ => ⟨d_2_1_2 .., t8 (t1_2_1_8_2 ..) (t2_2_1_2 ..)⟩⟩ fz)))⟩⟩
theorem pr_2_1_9 : PR (.int (.ofNat 2)) (.int (.ofNat 1)) Rows_2 Tail_2_1 Line_2_1 Means_2_1 (ksOf [0, 1, 2]) Rr9 := ⟨hm_2_9, Told_2_1_9, fun _ _ _ _ => ⟨s6_2_1_9 .., (fa ⟨.tuple [.int (.ofNat 0), .int (.ofNat 1)], fun _ _ => ⟨d_2_1_0 .., t8 (t1_2_1_9_0 ..) (t2_2_1_0 ..)⟩⟩ (fa ⟨.tuple [.int (.ofNat 0), .int (.ofNat 1)], fun _ _ => ⟨d_2_1_1 .., t8 (t1_2_1_9_1 ..) (t2_2_1_1 ..)⟩⟩ (fa ⟨Due_2_1, fun _ _ => ⟨d_2_1_2 .., t8 (t1_2_1_9_2 ..) (t2_2_1_2 ..)⟩⟩ fz)))⟩⟩
theorem pr_2_1_10 : PR (.int (.ofNat 2)) (.int (.ofNat 1)) Rows_2 Tail_2_1 Line_2_1 Means_2_1 (ksOf [0, 1, 2]) Rr10 := ⟨hm_2_10, Told_2_1_10, fun _ _ _ _ => ⟨s6_2_1_10 .., (fa ⟨.tuple [.int (.ofNat 0), .int (.ofNat 1)], fun _ _ => ⟨d_2_1_0 .., t8 (t1_2_1_10_0 ..) (t2_2_1_0 ..)⟩⟩ (fa ⟨.tuple [.int (.ofNat 0), .int (.ofNat 1)], fun _ _ => ⟨d_2_1_1 .., t8 (t1_2_1_10_1 ..) (t2_2_1_1 ..)⟩⟩ (fa ⟨Due_2_1, fun _ _ => ⟨d_2_1_2 .., t8 (t1_2_1_10_2 ..) (t2_2_1_2 ..)⟩⟩ fz)))⟩⟩
theorem pr_2_1 : ∀ r ∈ RL, PR (.int (.ofNat 2)) (.int (.ofNat 1)) Rows_2 Tail_2_1 Line_2_1 Means_2_1 (ksOf [0, 1, 2]) r := (fa pr_2_1_0 (fa pr_2_1_1 (fa pr_2_1_2 (fa pr_2_1_3 (fa pr_2_1_4 (fa pr_2_1_5 (fa pr_2_1_6 (fa pr_2_1_7 (fa pr_2_1_8 (fa pr_2_1_9 (fa pr_2_1_10 fz)))))))))))
theorem pbc_2_1 : ∀ b ∈ BL, ∀ c ∈ CL, PBC (.int (.ofNat 2)) (.int (.ofNat 1)) Tail_2_1 Means_2_1 Due_2_1 (ksOf [0, 1, 2]) b c := (fa (fa ⟨Tog_2_1_0_n2, fun _ _ _ _ _ _ => ⟨s8_2_1_0_n2 .., s9_2_1_0_n2 ..⟩⟩ (fa ⟨Tog_2_1_0_n1, fun _ _ _ _ _ _ => ⟨s8_2_1_0_n1 .., s9_2_1_0_n1 ..⟩⟩ (fa ⟨Tog_2_1_0_0, fun _ _ _ _ _ _ => ⟨s8_2_1_0_0 .., s9_2_1_0_0 ..⟩⟩ (fa ⟨Tog_2_1_0_1, fun _ _ _ _ _ _ => ⟨s8_2_1_0_1 .., s9_2_1_0_1 ..⟩⟩ (fa ⟨Tog_2_1_0_2, fun _ _ _ _ _ _ => ⟨s8_2_1_0_2 .., s9_2_1_0_2 ..⟩⟩ fz))))) (fa (fa ⟨Tog_2_1_1_n2, fun _ _ _ _ _ _ => ⟨s8_2_1_1_n2 .., s9_2_1_1_n2 ..⟩⟩ (fa ⟨Tog_2_1_1_n1, fun _ _ _ _ _ _ => ⟨s8_2_1_1_n1 .., s9_2_1_1_n1 ..⟩⟩ (fa ⟨Tog_2_1_1_0, fun _ _ _ _ _ _ => ⟨s8_2_1_1_0 .., s9_2_1_1_0 ..⟩⟩ (fa ⟨Tog_2_1_1_1, fun _ _ _ _ _ _ => ⟨s8_2_1_1_1 .., s9_2_1_1_1 ..⟩⟩ (fa ⟨Tog_2_1_1_2, fun _ _ _ _ _ _ => ⟨s8_2_1_1_2 .., s9_2_1_1_2 ..⟩⟩ fz))))) (fa (fa ⟨Tog_2_1_2_n2, fun _ _ _ _ _ _ => ⟨s8_2_1_2_n2 .., s9_2_1_2_n2 ..⟩⟩ (fa ⟨Tog_2_1_2_n1, fun _ _ _ _ _ _ => ⟨s8_2_1_2_n1 .., s9_2_1_2_n1 ..⟩⟩ (fa ⟨Tog_2_1_2_0, fun _ _ _ _ _ _ => ⟨s8_2_1_2_0 .., s9_2_1_2_0 ..⟩⟩ (fa ⟨Tog_2_1_2_1, fun _ _ _ _ _ _ => ⟨s8_2_1_2_1 .., s9_2_1_2_1 ..⟩⟩ (fa ⟨Tog_2_1_2_2, fun _ _ _ _ _ _ => ⟨s8_2_1_2_2 .., s9_2_1_2_2 ..⟩⟩ fz))))) fz)))
theorem run_2_1 : ∀ r ∈ RL, ∀ b ∈ BL, ∀ c ∈ CL, ∀ x0 x1 : OD, X_rest (S19 x0 x1 (some (.int (.ofNat 2))) (some r) (some (.int (.ofNat 1))) (some b) (some c) none none none none none none none none none none none none) = some (.ret (.bool true)) :=
  fun r hr b hb c hc x0 x1 => run (s3_2_1) (s5_2_1) (by kernel_rfl) (s10_2_1) (pr_2_1 r hr) (pbc_2_1 b hb c hc) x0 x1
theorem pr_2_2_0 : PR (.int (.ofNat 2)) (.int (.ofNat 2)) Rows_2 Tail_2_2 Line_2_2 Means_2_2 (ksOf [0, 1, 2]) Rr0 := ⟨hm_2_0, Told_2_2_0, fun _ _ _ _ => ⟨s6_2_2_0 .., (fa ⟨.tuple [.int (.ofNat 0), .int (.ofNat 1)], fun _ _ => ⟨d_2_2_0 .., t8 (t1_2_2_0_0 ..) (t2_2_2_0 ..)⟩⟩ (fa ⟨.tuple [.int (.ofNat 0), .int (.ofNat 1)], fun _ _ => ⟨d_2_2_1 .., t8 (t1_2_2_0_1 ..) (t2_2_2_1 ..)⟩⟩ (fa ⟨Due_2_2, fun _ _ => ⟨d_2_2_2 .., t8 (t1_2_2_0_2 ..) (t2_2_2_2 ..)⟩⟩ fz)))⟩⟩
theorem pr_2_2_1 : PR (.int (.ofNat 2)) (.int (.ofNat 2)) Rows_2 Tail_2_2 Line_2_2 Means_2_2 (ksOf [0, 1, 2]) Rr1 := ⟨hm_2_1, Told_2_2_1, fun _ _ _ _ => ⟨s6_2_2_1 .., (fa ⟨.tuple [.int (.ofNat 0), .int (.ofNat 1)], fun _ _ => ⟨d_2_2_0 .., t8 (t1_2_2_1_0 ..) (t2_2_2_0 ..)⟩⟩ (fa ⟨.tuple [.int (.ofNat 0), .int (.ofNat 1)], fun _ _ => ⟨d_2_2_1 .., t8 (t1_2_2_1_1 ..) (t2_2_2_1 ..)⟩⟩ (fa ⟨Due_2_2, fun _ _ => ⟨d_2_2_2 .., t8 (t1_2_2_1_2 ..) (t2_2_2_2 ..)⟩⟩ fz)))⟩⟩
theorem pr_2_2_2 : PR (.int (.ofNat 2)) (.int (.ofNat 2)) Rows_2 Tail_2_2 Line_2_2 Means_2_2 (ksOf [0, 1, 2]) Rr2 := ⟨hm_2_2, Told_2_2_2, fun _ _ _ _ => ⟨s6_2_2_2 .., (fa ⟨.tuple [.int (.ofNat 0), .int (.ofNat 1)], fun _ _ => ⟨d_2_2_0 .., t8 (t1_2_2_2_0 ..) (t2_2_2_0 ..)⟩⟩ (fa ⟨.tuple [.int (.ofNat 0), .int (.ofNat 1)], fun _ _ => ⟨d_2_2_1 .., t8 (t1_2_2_2_1 ..) (t2_2_2_1 ..)⟩⟩ (fa ⟨Due_2_2, fun _ _ => ⟨d_2_2_2 .., t8 (t1_2_2_2_2 ..) (t2_2_2_2 ..)⟩⟩ fz)))⟩⟩
theorem pr_2_2_3 : PR (.int (.ofNat 2)) (.int (.ofNat 2)) Rows_2 Tail_2_2 Line_2_2 Means_2_2 (ksOf [0, 1, 2]) Rr3 := ⟨hm_2_3, Told_2_2_3, fun _ _ _ _ => ⟨s6_2_2_3 .., (fa ⟨.tuple [.int (.ofNat 0), .int (.ofNat 1)], fun _ _ => ⟨d_2_2_0 .., t8 (t1_2_2_3_0 ..) (t2_2_2_0 ..)⟩⟩ (fa ⟨.tuple [.int (.ofNat 0), .int (.ofNat 1)], fun _ _ => ⟨d_2_2_1 .., t8 (t1_2_2_3_1 ..) (t2_2_2_1 ..)⟩⟩ (fa ⟨Due_2_2, fun _ _ => ⟨d_2_2_2 .., t8 (t1_2_2_3_2 ..) (t2_2_2_2 ..)⟩⟩ fz)))⟩⟩
theorem pr_2_2_4 : PR (.int (.ofNat 2)) (.int (.ofNat 2)) Rows_2 Tail_2_2 Line_2_2 Means_2_2 (ksOf [0, 1, 2]) Rr4 := ⟨hm_2_4, Told_2_2_4, fun _ _ _ _ => ⟨s6_2_2_4 .., (fa ⟨.tuple [.int (.ofNat 0), .int (.ofNat 1)], fun _ _ => ⟨d_2_2_0 .., t8 (t1_2_2_4_0 ..) (t2_2_2_0 ..)⟩⟩ (fa ⟨.tuple [.int (.ofNat 0), .int (.ofNat 1)], fun _ _ => ⟨d_2_2_1 .., t8 (t1_2_2_4_1 ..) (t2_2_2_1 ..)⟩⟩ (fa ⟨Due_2_2, fun _ _ => ⟨d_2_2_2 .., t8 (t1_2_2_4_2 ..) (t2_2_2_2 ..)⟩⟩ fz)))⟩⟩
theorem pr_2_2_5 : PR (.int (.ofNat 2)) (.int (.ofNat 2)) Rows_2 Tail_2_2 Line_2_2 Means_2_2 (ksOf [0, 1, 2]) Rr5 := ⟨hm_2_5, Told_2_2_5, fun _ _ _ _ => ⟨s6_2_2_5 .., (fa ⟨.tuple [.int (.ofNat 0), .int (.ofNat 1)], fun _ _ => ⟨d_2_2_0 .., t8 (t1_2_2_5_0 ..) (t2_2_2_0 ..)⟩⟩ (fa ⟨.tuple [.int (.ofNat 0), .int (.ofNat 1)], fun _ _ => ⟨d_2_2_1 .., t8 (t1_2_2_5_1 ..) (t2_2_2_1 ..)⟩⟩ (fa ⟨Due_2_2, fun _ _ => ⟨d_2_2_2 .., t8 (t1_2_2_5_2 ..) (t2_2_2_2 ..)⟩⟩ fz)))⟩⟩
theorem pr_2_2_6 : PR (.int (.ofNat 2)) (.int (.ofNat 2)) Rows_2 Tail_2_2 Line_2_2 Means_2_2 (ksOf [0, 1, 2]) Rr6 := ⟨hm_2_6, Told_2_2_6, fun _ _ _ _ => ⟨s6_2_2_6 .., (fa ⟨.tuple [.int (.ofNat 0), .int (.ofNat 1)], fun _ _ => ⟨d_2_2_0 .., t8 (t1_2_2_6_0 ..) (t2_2_2_0 ..)⟩⟩ (fa ⟨.tuple [.int (.ofNat 0), .int (.ofNat 1)], fun _ _ => ⟨d_2_2_1 .., t8 (t1_2_2_6_1 ..) (t2_2_2_1 ..)⟩⟩ (fa ⟨Due_2_2, fun _ _ => ⟨d_2_2_2 .., t8 (t1_2_2_6_2 ..) (t2_2_2_2 ..)⟩⟩ fz)))⟩⟩
theorem pr_2_2_7 : PR (.int (.ofNat 2)) (.int (.ofNat 2)) Rows_2 Tail_2_2 Line_2_2 Means_2_2 (ksOf [0, 1, 2]) Rr7 := ⟨hm_2_7, Told_2_2_7, fun _ _ _ _ => ⟨s6_2_2_7 .., (fa ⟨.tuple [.int (.ofNat 0), .int (.ofNat 1)], fun _ _ => ⟨d_2_2_0 .., t8 (t1_2_2_7_0 ..) (t2_2_2_0 ..)⟩⟩ (fa ⟨.tuple [.int (.ofNat 0), .int (.ofNat 1)], fun _ _ => ⟨d_2_2_1 .., t8 (t1_2_2_7_1 ..) (t2_2_2_1 ..)⟩⟩ (fa ⟨Due_2_2, fun _ _ => ⟨d_2_2_2 .., t8 (t1_2_2_7_2 ..) (t2_2_2_2 ..)⟩⟩ fz)))⟩⟩
theorem pr_2_2_8 : PR (.int (.ofNat 2)) (.int (.ofNat 2)) Rows_2 Tail_2_2 Line_2_2 Means_2_2 (ksOf [0, 1, 2]) Rr8 := ⟨hm_2_8, Told_2_2_8, fun _ _ _ _ => ⟨s6_2_2_8 .., (fa ⟨.tuple [.int (.ofNat 0), .int (.ofNat 1)], fun _ _ => ⟨d_2_2_0 .., t8 (t1_2_2_8_0 ..) (t2_2_2_0 ..)⟩⟩ (fa ⟨.tuple [.int (.ofNat 0), .int (.ofNat 1)], fun _ _ => ⟨d_2_2_1 .., t8 (t1_2_2_8_1 ..) (t2_2_2_1 ..)⟩⟩ (fa ⟨Due_2_2, fun _ _ => ⟨d_2_2_2 .., t8 (t1_2_2_8_2 ..) (t2_2_2_2 ..)⟩⟩ fz)))⟩⟩
theorem pr_2_2_9 : PR (.int (.ofNat 2)) (.int (.ofNat 2)) Rows_2 Tail_2_2 Line_2_2 Means_2_2 (ksOf [0, 1, 2]) Rr9 := ⟨hm_2_9, Told_2_2_9, fun _ _ _ _ => ⟨s6_2_2_9 .., (fa ⟨.tuple [.int (.ofNat 0), .int (.ofNat 1)], fun _ _ => ⟨d_2_2_0 .., t8 (t1_2_2_9_0 ..) (t2_2_2_0 ..)⟩⟩ (fa ⟨.tuple [.int (.ofNat 0), .int (.ofNat 1)], fun _ _ => ⟨d_2_2_1 .., t8 (t1_2_2_9_1 ..) (t2_2_2_1 ..)⟩⟩ (fa ⟨Due_2_2, fun _ _ => ⟨d_2_2_2 .., t8 (t1_2_2_9_2 ..) (t2_2_2_2 ..)⟩⟩ fz)))⟩⟩
theorem pr_2_2_10 : PR (.int (.ofNat 2)) (.int (.ofNat 2)) Rows_2 Tail_2_2 Line_2_2 Means_2_2 (ksOf [0, 1, 2]) Rr10 := ⟨hm_2_10, Told_2_2_10, fun _ _ _ _ => ⟨s6_2_2_10 .., (fa ⟨.tuple [.int (.ofNat 0), .int (.ofNat 1)], fun _ _ => ⟨d_2_2_0 .., t8 (t1_2_2_10_0 ..) (t2_2_2_0 ..)⟩⟩ (fa ⟨.tuple [.int (.ofNat 0), .int (.ofNat 1)], fun _ _ => ⟨d_2_2_1 .., t8 (t1_2_2_10_1 ..) (t2_2_2_1 ..)⟩⟩ (fa ⟨Due_2_2, fun _ _ => ⟨d_2_2_2 .., t8 (t1_2_2_10_2 ..) (t2_2_2_2 ..)⟩⟩ fz)))⟩⟩
theorem pr_2_2 : ∀ r ∈ RL, PR (.int (.ofNat 2)) (.int (.ofNat 2)) Rows_2 Tail_2_2 Line_2_2 Means_2_2 (ksOf [0, 1, 2]) r := (fa pr_2_2_0 (fa pr_2_2_1 (fa pr_2_2_2 (fa pr_2_2_3 (fa pr_2_2_4 (fa pr_2_2_5 (fa pr_2_2_6 (fa pr_2_2_7 (fa pr_2_2_8 (fa pr_2_2_9 (fa pr_2_2_10 fz)))))))))))
theorem pbc_2_2 : ∀ b ∈ BL, ∀ c ∈ CL, PBC (.int (.ofNat 2)) (.int (.ofNat 2)) Tail_2_2 Means_2_2 Due_2_2 (ksOf [0, 1, 2]) b c := (fa (fa ⟨Tog_2_2_0_n2, fun _ _ _ _ _ _ => ⟨s8_2_2_0_n2 .., s9_2_2_0_n2 ..⟩⟩ (fa ⟨Tog_2_2_0_n1, fun _ _ _ _ _ _ => ⟨s8_2_2_0_n1 .., s9_2_2_0_n1 ..⟩⟩ (fa ⟨Tog_2_2_0_0, fun _ _ _ _ _ _ => ⟨s8_2_2_0_0 .., s9_2_2_0_0 ..⟩⟩ (fa ⟨Tog_2_2_0_1, fun _ _ _ _ _ _ => ⟨s8_2_2_0_1 .., s9_2_2_0_1 ..⟩⟩ (fa ⟨Tog_2_2_0_2, fun _ _ _ _ _ _ => ⟨s8_2_2_0_2 .., s9_2_2_0_2 ..⟩⟩ fz))))) (fa (fa ⟨Tog_2_2_1_n2, fun _ _ _ _ _ _ => ⟨s8_2_2_1_n2 .., s9_2_2_1_n2 ..⟩⟩ (fa ⟨Tog_2_2_1_n1, fun _ _ _ _ _ _ => ⟨s8_2_2_1_n1 .., s9_2_2_1_n1 ..⟩⟩ (fa ⟨Tog_2_2_1_0, fun _ _ _ _ _ _ => ⟨s8_2_2_1_0 .., s9_2_2_1_0 ..⟩⟩ (fa ⟨Tog_2_2_1_1, fun _ _ _ _ _ _ => ⟨s8_2_2_1_1 .., s9_2_2_1_1 ..⟩⟩ (fa ⟨Tog_2_2_1_2, fun _ _ _ _ _ _ => ⟨s8_2_2_1_2 .., s9_2_2_1_2 ..⟩⟩ fz))))) (fa (fa ⟨Tog_2_2_2_n2, fun _ _ _ _ _ _ => ⟨s8_2_2_2_n2 .., s9_2_2_2_n2 ..⟩⟩ (fa ⟨Tog_2_2_2_n1, fun _ _ _ _ _ _ => ⟨s8_2_2_2_n1 .., s9_2_2_2_n1 ..⟩⟩ (fa ⟨Tog_2_2_2_0, fun _ _ _ _ _ _ => ⟨s8_2_2_2_0 .., s9_2_2_2_0 ..⟩⟩ (fa ⟨Tog_2_2_2_1, fun _ _ _ _ _ _ => ⟨s8_2_2_2_1 .., s9_2_2_2_1 ..⟩⟩ (fa ⟨Tog_2_2_2_2, fun _ _ _ _ _ _ => ⟨s8_2_2_2_2 .., s9_2_2_2_2 ..⟩⟩ fz))))) fz)))
theorem run_2_2 : ∀ r ∈ RL, ∀ b ∈ BL, ∀ c ∈ CL, ∀ x0 x1 : OD, X_rest (S19 x0 x1 (some (.int (.ofNat 2))) (some r) (some (.int (.ofNat 2))) (some b) (some c) none none none none none none none none none none none none) = some (.ret (.bool true)) :=
  fun r hr b hb c hc x0 x1 => run (s3_2_2) (s5_2_2) (by kernel_rfl) (s10_2_2) (pr_2_2 r hr) (pbc_2_2 b hb c hc) x0 x1
theorem pr_3_0_0 : PR (.int (.ofNat 3)) (.int (.ofNat 0)) Rows_3 Tail_3_0 Line_3_0 Means_3_0 (ksOf [0, 1, 2, 3]) Rr0 := ⟨hm_3_0, Told_3_0_0, fun _ _ _ _ => ⟨s6_3_0_0 .., (fa ⟨.tuple [.int (.ofNat 0), .int (.ofNat 1)], fun _ _ => ⟨d_3_0_0 .., t8 (t1_3_0_0_0 ..) (t2_3_0_0 ..)⟩⟩ (fa ⟨.tuple [.int (.ofNat 0), .int (.ofNat 1)], fun _ _ => ⟨d_3_0_1 .., t8 (t1_3_0_0_1 ..) (t2_3_0_1 ..)⟩⟩ (fa ⟨.tuple [.int (.ofNat 0), .int (.ofNat 1)], fun _ _ => ⟨d_3_0_2 .., t8 (t1_3_0_0_2 ..) (t2_3_0_2 ..)⟩⟩ (fa ⟨Due_3_0, fun _ _ => ⟨d_3_0_3 .., t8 (t1_3_0_0_3 ..) (t2_3_0_3 ..)⟩⟩ fz))))⟩⟩
theorem pr_3_0_1 : PR (.int (.ofNat 3)) (.int (.ofNat 0)) Rows_3 Tail_3_0 Line_3_0 Means_3_0 (ksOf [0, 1, 2, 3]) Rr1 := ⟨hm_3_1, Told_3_0_1, fun _ _ _ _ => ⟨s6_3_0_1 .., (fa ⟨.tuple [.int (.ofNat 0), .int (.ofNat 1)], fun _ _ => ⟨d_3_0_0 .., t8 (t1_3_0_1_0 ..) (t2_3_0_0 ..)⟩⟩ (fa ⟨.tuple [.int (.ofNat 0), .int (.ofNat 1)], fun _ _ => ⟨d_3_0_1 .., t8 (t1_3_0_1_1 ..) (t2_3_0_1 ..)⟩⟩ (fa ⟨.tuple [.int (.ofNat 0), .int (.ofNat 1)], fun _ _ => ⟨d_3_0_2 .., t8 (t1_3_0_1_2 ..) (t2_3_0_2 ..)⟩⟩ (fa ⟨Due_3_0, fun _ _ => ⟨d_3_0_3 .., t8 (t1_3_0_1_3 ..) (t2_3_0_3 ..)⟩⟩ fz))))⟩⟩
theorem pr_3_0_2 : PR (.int (.ofNat 3)) (.int (.ofNat 0)) Rows_3 Tail_3_0 Line_3_0 Means_3_0 (ksOf [0, 1, 2, 3]) Rr2 := ⟨hm_3_2, Told_3_0_2, fun _ _ _ _ => ⟨s6_3_0_2 .., (fa ⟨.tuple [.int (.ofNat 0), .int (.ofNat 1)], fun _ _ => ⟨d_3_0_0 .., t8 (t1_3_0_2_0 ..) (t2_3_0_0 ..)⟩⟩ (fa ⟨.tuple [.int (.ofNat 0), .int (.ofNat 1)], fun _ _ => ⟨d_3_0_1 .., t8 (t1_3_0_2_1 ..) (t2_3_0_1 ..)⟩⟩ (fa ⟨.tuple [.int (.ofNat 0), .int (.ofNat 1)], fun _ _ => ⟨d_3_0_2 .., t8 (t1_3_0_2_2 ..) (t2_3_0_2 ..)⟩⟩ (fa ⟨Due_3_0, fun _ _ => ⟨d_3_0_3 .., t8 (t1_3_0_2_3 ..) (t2_3_0_3 ..)⟩⟩ fz))))⟩⟩
theorem pr_3_0_3 : PR (.int (.ofNat 3)) (.int (.ofNat 0)) Rows_3 Tail_3_0 Line_3_0 Means_3_0 (ksOf [0, 1, 2, 3]) Rr3 := ⟨hm_3_3, Told_3_0_3, fun _ _ _ _ => ⟨s6_3_0_3 .., (fa ⟨.tuple [.int (.ofNat 0), .int (.ofNat 1)], fun _ _ => ⟨d_3_0_0 .., t8 (t1_3_0_3_0 ..) (t2_3_0_0 ..)⟩⟩ (fa ⟨.tuple [.int (.ofNat 0), .int (.ofNat 1)], fun _ _ => ⟨d_3_0_1 .., t8 (t1_3_0_3_1 ..) (t2_3_0_1 ..)⟩⟩ (fa ⟨.tuple [.int (.ofNat 0), .int (.ofNat 1)], fun _ _ => ⟨d_3_0_2 .., t8 (t1_3_0_3_2 ..) (t2_3_0_2 ..)⟩⟩ (fa ⟨Due_3_0, fun _ _ => ⟨d_3_0_3 .., t8 (t1_3_0_3_3 ..) (t2_3_0_3 ..)⟩⟩ fz))))⟩⟩
theorem pr_3_0_4 : PR (.int (.ofNat 3)) (.int (.ofNat 0)) Rows_3 Tail_3_0 Line_3_0 Means_3_0 (ksOf [0, 1, 2, 3]) Rr4 := ⟨hm_3_4, Told_3_0_4, fun _ _ _ _ => ⟨s6_3_0_4 .., (fa ⟨.tuple [.int (.ofNat 0), .int (.ofNat 1)], fun _ _ => ⟨d_3_0_0 .., t8 (t1_3_0_4_0 ..) (t2_3_0_0 ..)⟩⟩ (fa ⟨.tuple [.int (.ofNat 0), .int (.ofNat 1)], fun _ _ => ⟨d_3_0_1 .., t8 (t1_3_0_4_1 ..) (t2_3_0_1 ..)⟩⟩ (fa ⟨.tuple [.int (.ofNat 0), .int (.ofNat 1)], fun _ _ => ⟨d_3_0_2 .., t8 (t1_3_0_4_2 ..) (t2_3_0_2 ..)⟩⟩ (fa ⟨Due_3_0, fun _ _ => ⟨d_3_0_3 .., t8 (t1_3_0_4_3 ..) (t2_3_0_3 ..)⟩⟩ fz))))⟩⟩
theorem pr_3_0_5 : PR (.int (.ofNat 3)) (.int (.ofNat 0)) Rows_3 Tail_3_0 Line_3_0 Means_3_0 (ksOf [0, 1, 2, 3]) Rr5 := ⟨hm_3_5, Told_3_0_5, fun _ _ _ _ => ⟨s6_3_0_5 .., (fa ⟨.tuple [.int (.ofNat 0), .int (.ofNat 1)], fun _ _ => ⟨d_3_0_0 .., t8 (t1_3_0_5_0 ..) (t2_3_0_0 ..)⟩⟩ (fa ⟨.tuple [.int (.ofNat 0), .int (.ofNat 1)], fun _ _ => ⟨d_3_0_1 .., t8 (t1_3_0_5_1 ..) (t2_3_0_1 ..)⟩⟩ (fa ⟨.tuple [.int (.ofNat 0), .int (.ofNat 1)], fun _ _ => ⟨d_3_0_2 .., t8 (t1_3_0_5_2 ..) (t2_3_0_2 ..)⟩⟩ (fa ⟨Due_3_0, fun _ _ => ⟨d_3_0_3 .., t8 (t1_3_0_5_3 ..) (t2_3_0_3 ..)⟩⟩ fz))))⟩⟩
theorem pr_3_0_6 : PR (.int (.ofNat 3)) (.int (.ofNat 0)) Rows_3 Tail_3_0 Line_3_0 Means_3_0 (ksOf [0, 1, 2, 3]) Rr6 := ⟨hm_3_6, Told_3_0_6, fun _ _ _ _ => ⟨s6_3_0_6 .., (fa ⟨.tuple [.int (.ofNat 0), .int (.ofNat 1)], fun _ _ => ⟨d_3_0_0 .., t8 (t1_3_0_6_0 ..) (t2_3_0_0 ..)⟩⟩ (fa ⟨.tuple [.int (.ofNat 0), .int (.ofNat 1)], fun _ _ => ⟨d_3_0_1 .., t8 (t1_3_0_6_1 ..) (t2_3_0_1 ..)⟩⟩ (fa ⟨.tuple [.int (.ofNat 0), .int (.ofNat 1)], fun _ _ => ⟨d_3_0_2 .., t8 (t1_3_0_6_2 ..) (t2_3_0_2 ..)⟩⟩ (fa ⟨Due_3_0, fun _ _ => ⟨d_3_0_3 .., t8 (t1_3_0_6_3 ..) (t2_3_0_3 ..)⟩⟩ fz))))⟩⟩
theorem pr_3_0_7 : PR (.int (.ofNat 3)) (.int (.ofNat 0)) Rows_3 Tail_3_0 Line_3_0 Means_3_0 (ksOf [0, 1, 2, 3]) Rr7 := ⟨hm_3_7, Told_3_0_7, fun _ _ _ _ => ⟨s6_3_0_7 .., (fa ⟨.tuple [.int (.ofNat 0), .int (.ofNat 1)], fun _ _ => ⟨d_3_0_0 .., t8 (t1_3_0_7_0 ..) (t2_3_0_0 ..)⟩⟩ (fa ⟨.tuple [.int (.ofNat 0), .int (.ofNat 1)], fun _ _ => ⟨d_3_0_1 .., t8 (t1_3_0_7_1 ..) (t2_3_0_1 ..)⟩⟩ (fa ⟨.tuple [.int (.ofNat 0), .int (.ofNat 1)], fun _ _ => ⟨d_3_0_2 .., t8 (t1_3_0_7_2 ..) (t2_3_0_2 ..)⟩⟩ (fa ⟨Due_3_0, fun _ _ => ⟨d_3_0_3 .., t8 (t1_3_0_7_3 ..) (t2_3_0_3 ..)⟩⟩ fz))))⟩⟩
theorem pr_3_0_8 : PR (.int (.ofNat 3)) (.int (.ofNat 0)) Rows_3 Tail_3_0 Line_3_0 Means_3_0 (ksOf [0, 1, 2, 3]) Rr8 := ⟨hm_3_8, Told_3_0_8, fun _ _ _ _ => ⟨s6_3_0_8 .., (fa ⟨.tuple [.int (.ofNat 0), .int (.ofNat 1)], fun _ _ => ⟨d_3_0_0 .., t8 (t1_3_0_8_0 ..) (t2_3_0_0 ..)⟩⟩ (fa ⟨.tuple [.int (.ofNat 0), .int (.ofNat 1)], fun _ _ => ⟨d_3_0_1 .., t8 (t1_3_0_8_1 ..) (t2_3_0_1 ..)⟩⟩ (fa ⟨.tuple [.int (.ofNat 0), .int (.ofNat 1)], fun _ _ => ⟨d_3_0_2 .., t8 (t1_3_0_8_2 ..) (t2_3_0_2 ..)⟩⟩ (fa ⟨Due_3_0, fun _ _ => ⟨d_3_0_3 .., t8 (t1_3_0_8_3 ..) (t2_3_0_3 ..)⟩⟩ fz))))⟩⟩
theorem pr_3_0_9 : PR (.int (.ofNat 3)) (.int (.ofNat 0)) Rows_3 Tail_3_0 Line_3_0 Means_3_0 (ksOf [0, 1, 2, 3]) Rr9 := ⟨hm_3_9, Told_3_0_9, fun _ _ _ _ => ⟨s6_3_0_9 .., (fa ⟨.tuple [.int (.ofNat 0), .int (.ofNat 1)], fun _ _ => ⟨d_3_0_0 .., t8 (t1_3_0_9_0 ..) (t2_3_0_0 ..)⟩⟩ (fa ⟨.tuple [.int (.ofNat 0), .int (.ofNat 1)], fun _ _ => ⟨d_3_0_1 .., t8 (t1_3_0_9_1 ..) (t2_3_0_1 ..)⟩⟩ (fa ⟨.tuple [.int (.ofNat 0), .int (.ofNat 1)], fun _ _ => ⟨d_3_0_2 .., t8 (t1_3_0_9_2 ..) (t2_3_0_2 ..)⟩⟩ (fa ⟨Due_3_0, fun _ _ => ⟨d_3_0_3 .., t8 (t1_3_0_9_3 ..) (t2_3_0_3 ..)⟩⟩ fz))))⟩⟩
theorem pr_3_0_10 : PR (.int (.ofNat 3)) (.int (.ofNat 0)) Rows_3 Tail_3_0 Line_3_0 Means_3_0 (ksOf [0, 1, 2, 3]) Rr10 := ⟨hm_3_10, Told_3_0_10, fun _ _ _ _ => ⟨s6_3_0_10 .., (fa ⟨.tuple [.int (.ofNat 0), .int (.ofNat 1)], fun _ _ => ⟨d_3_0_0 .., t8 (t1_3_0_10_0 ..) (t2_3_0_0 ..)⟩⟩ (fa ⟨.tuple [.int (.ofNat 0), .int (.ofNat 1)], fun _ _ => ⟨d_3_0_1 .., t8 (t1_3_0_10_1 ..) (t2_3_0_1 ..)⟩⟩ (fa ⟨.tuple [.int (.ofNat 0), .int (.ofNat 1)], fun _ _ => ⟨d_3_0_2 .., t8 (t1_3_0_10_2 ..) (t2_3_0_2 ..)⟩⟩ (fa ⟨Due_3_0, fun _ _ => ⟨d_3_0_3 .., t8 (t1_3_0_10_3 ..) (t2_3_0_3 ..)⟩⟩ fz))))⟩⟩
theorem pr_3_0 : ∀ r ∈ RL, PR (.int (.ofNat 3)) (.int (.ofNat 0)) Rows_3 Tail_3_0 Line_3_0 Means_3_0 (ksOf [0, 1, 2, 3]) r := (fa pr_3_0_0 (fa pr_3_0_1 (fa pr_3_0_2 (fa pr_3_0_3 (fa pr_3_0_4 (fa pr_3_0_5 (fa pr_3_0_6 (fa pr_3_0_7 (fa pr_3_0_8 (fa pr_3_0_9 (fa pr_3_0_10 fz)))))))))))
theorem pbc_3_0 : ∀ b ∈ BL, ∀ c ∈ CL, PBC (.int (.ofNat 3)) (.int (.ofNat 0)) Tail_3_0 Means_3_0 Due_3_0 (ksOf [0, 1, 2, 3]) b c := (fa (fa ⟨Tog_3_0_0_n2, fun _ _ _ _ _ _ => ⟨s8_3_0_0_n2 .., s9_3_0_0_n2 ..⟩⟩ (fa ⟨Tog_3_0_0_n1, fun _ _ _ _ _ _ => ⟨s8_3_0_0_n1 .., s9_3_0_0_n1 ..⟩⟩ (fa ⟨Tog_3_0_0_0, fun _ _ _ _ _ _ => ⟨s8_3_0_0_0 .., s9_3_0_0_0 ..⟩⟩ (fa ⟨Tog_3_0_0_1, fun _ _ _ _ _ _ => ⟨s8_3_0_0_1 .., s9_3_0_0_1 ..⟩⟩ (fa ⟨Tog_3_0_0_2, fun _ _ _ _ _ _ => ⟨s8_3_0_0_2 .., s9_3_0_0_2 ..⟩⟩ fz))))) (fa (fa ⟨Tog_3_0_1_n2, fun _ _ _ _ _ _ => ⟨s8_3_0_1_n2 .., s9_3_0_1_n2 ..⟩⟩ (fa ⟨Tog_3_0_1_n1, fun _ _ _ _ _ _ => ⟨s8_3_0_1_n1 .., s9_3_0_1_n1 ..⟩⟩ (fa ⟨Tog_3_0_1_0, fun _ _ _ _ _ _ => ⟨s8_3_0_1_0 .., s9_3_0_1_0 ..⟩⟩ (fa ⟨Tog_3_0_1_1, fun _ _ _ _ _ _ => ⟨s8_3_0_1_1 .., s9_3_0_1_1 ..⟩⟩ (fa ⟨Tog_3_0_1_2, fun _ _ _ _ _ _ => ⟨s8_3_0_1_2 .., s9_3_0_1_2 ..⟩⟩ fz))))) (fa (fa ⟨Tog_3_0_2_n2, fun _ _ _ _ _ _ => ⟨s8_3_0_2_n2 .., s9_3_0_2_n2 ..⟩⟩ (fa ⟨Tog_3_0_2_n1, fun _ _ _ _ _ _ => ⟨s8_3_0_2_n1 .., s9_3_0_2_n1 ..⟩⟩ (fa ⟨Tog_3_0_2_0, fun _ _ _ _ _ _ => ⟨s8_3_0_2_0 .., s9_3_0_2_0 ..⟩⟩ (fa ⟨Tog_3_0_2_1, fun _ _ _ _ _ _ => ⟨s8_3_0_2_1 .., s9_3_0_2_1 ..⟩⟩ (fa ⟨Tog_3_0_2_2, fun _ _ _ _ _ _ => ⟨s8_3_0_2_2 .., s9_3_0_2_2 ..⟩⟩ fz))))) fz)))
theorem run_3_0 : ∀ r ∈ RL, ∀ b ∈ BL, ∀ c ∈ CL, ∀ x0 x1 : OD, X_rest (S19 x0 x1 (some (.int (.ofNat 3))) (some r) (some (.int (.ofNat 0))) (some b) (some c) none none none none none none none none none none none none) = some (.ret (.bool true)) :=
  fun r hr b hb c hc x0 x1 => run (s3_3_0) (s5_3_0) (by kernel_rfl) (s10_3_0) (pr_3_0 r hr) (pbc_3_0 b hb c hc) x0 x1
theorem pr_3_1_0 : PR (.int (.ofNat 3)) (.int (.ofNat 1)) Rows_3 Tail_3_1 Line_3_1 Means_3_1 (ksOf [0, 1, 2, 3]) Rr0 := ⟨hm_3_0, Told_3_1_0, fun _ _ _ _ => ⟨s6_3_1_0 .., (fa ⟨.tuple [.int (.ofNat 0), .int (.ofNat 1)], fun _ _ => ⟨d_3_1_0 .., t8 (t1_3_1_0_0 ..) (t2_3_1_0 ..)⟩⟩ (fa ⟨.tuple [.int (.ofNat 0), .int (.ofNat 1)], fun _ _ => ⟨d_3_1_1 .., t8 (t1_3_1_0_1 ..) (t2_3_1_1 ..)⟩⟩ (fa ⟨.tuple [.int (.ofNat 0), .int (.ofNat 1)], fun _ _ => ⟨d_3_1_2 .., t8 (t1_3_1_0_2 ..) (t2_3_1_2 ..)⟩⟩ (fa ⟨Due_3_1, fun _ _ => ⟨d_3_1_3 .., t8 (t1_3_1_0_3 ..) (t2_3_1_3 ..)⟩⟩ fz))))⟩⟩
theorem pr_3_1_1 : PR (.int (.ofNat 3)) (.int (.ofNat 1)) Rows_3 Tail_3_1 Line_3_1 Means_3_1 (ksOf [0, 1, 2, 3]) Rr1 := ⟨hm_3_1, Told_3_1_1, fun _ _ _ _ => ⟨s6_3_1_1 .., (fa ⟨.tuple [.int (.ofNat 0), .int (.ofNat 1)], fun _ _ => ⟨d_3_1_0 .., t8 (t1_3_1_1_0 ..) (t2_3_1_0 ..)⟩⟩ (fa ⟨.tuple [.int (.ofNat 0), .int (.ofNat 1)], fun _ _ => ⟨d_3_1_1 .., t8 (t1_3_1_1_1 ..) (t2_3_1_1 ..)⟩⟩ (fa ⟨.tuple [.int (.ofNat 0), .int (.ofNat 1)], fun _ _ => ⟨d_3_1_2 .., t8 (t1_3_1_1_2 ..) (t2_3_1_2 ..)⟩⟩ (fa ⟨Due_3_1, fun _ _ => ⟨d_3_1_3 .., t8 (t1_3_1_1_3 ..) (t2_3_1_3 ..)⟩⟩ fz))))⟩⟩
theorem pr_3_1_2 : PR (.int (.ofNat 3)) (.int (.ofNat 1)) Rows_3 Tail_3_1 Line_3_1 Means_3_1 (ksOf [0, 1, 2, 3]) Rr2 := ⟨hm_3_2, Told_3_1_2, fun _ _ _ _ => ⟨s6_3_1_2 .., (fa ⟨.tuple [.int (.ofNat 0), .int (.ofNat 1)], fun _ _ => ⟨d_3_1_0 .., t8 (t1_3_1_2_0 ..) (t2_3_1_0 ..)⟩⟩ (fa ⟨.tuple [.int (.ofNat 0), .int (.ofNat 1)], fun _ _ => ⟨d_3_1_1 .., t8 (t1_3_1_2_1 ..) (t2_3_1_1 ..)⟩⟩ (fa ⟨.tuple [.int (.ofNat 0), .int (.ofNat 1)], fun _ _ => ⟨d_3_1_2 .., t8 (t1_3_1_2_2 ..) (t2_3_1_2 ..)⟩⟩ (fa ⟨Due_3_1, fun _ _ => ⟨d_3_1_3 .., t8 (t1_3_1_2_3 ..) (t2_3_1_3 ..)⟩⟩ fz))))⟩⟩
theorem pr_3_1_3 : PR (.int (.ofNat 3)) (.int (.ofNat 1)) Rows_3 Tail_3_1 Line_3_1 Means_3_1 (ksOf [0, 1, 2, 3]) Rr3 := ⟨hm_3_3, Told_3_1_3, fun _ _ _ _ => ⟨s6_3_1_3 .., (fa ⟨.tuple [.int (.ofNat 0), .int (.ofNat 1)], fun _ _ => ⟨d_3_1_0 .., t8 (t1_3_1_3_0 ..) (t2_3_1_0 ..)⟩⟩ (fa ⟨.tuple [.int (.ofNat 0), .int (.ofNat 1)], fun _ _ => ⟨d_3_1_1 .., t8 (t1_3_1_3_1 ..) (t2_3_1_1 ..)⟩⟩ (fa ⟨.tuple [.int (.ofNat 0), .int (.ofNat 1)], fun _ _ => ⟨d_3_1_2 .., t8 (t1_3_1_3_2 ..) (t2_3_1_2 ..)⟩⟩ (fa ⟨Due_3_1, fun _ _ => ⟨d_3_1_3 .., t8 (t1_3_1_3_3 ..) (t2_3_1_3 ..)⟩⟩ fz))))⟩⟩
theorem pr_3_1_4 : PR (.int (.ofNat 3)) (.int (.ofNat 1)) Rows_3 Tail_3_1 Line_3_1 Means_3_1 (ksOf [0, 1, 2, 3]) Rr4 := ⟨hm_3_4, Told_3_1_4, fun _ _ _ _ => ⟨s6_3_1_4 .., (fa ⟨.tuple [.int (.ofNat 0), .int (.ofNat 1)], fun _ _ => ⟨d_3_1_0 .., t8 (t1_3_1_4_0 ..) (t2_3_1_0 ..)⟩⟩ (fa ⟨.tuple [.int (.ofNat 0), .int (.ofNat 1)], fun _ _ => ⟨d_3_1_1 .., t8 (t1_3_1_4_1 ..) (t2_3_1_1 ..)⟩⟩ (fa ⟨.tuple [.int (.ofNat 0), .int (.ofNat 1)], fun _ _ => ⟨d_3_1_2 .., t8 (t1_3_1_4_2 ..) (t2_3_1_2 ..)⟩⟩ (fa ⟨Due_3_1, fun _ _ => ⟨d_3_1_3 .., t8 (t1_3_1_4_3 ..) (t2_3_1_3 ..)⟩⟩ fz))))⟩⟩
theorem pr_3_1_5 : PR (.int (.ofNat 3)) (.int (.ofNat 1)) Rows_3 Tail_3_1 Line_3_1 Means_3_1 (ksOf [0, 1, 2, 3]) Rr5 := ⟨hm_3_5, Told_3_1_5, fun _ _ _ _ => ⟨s6_3_1_5 .., (fa ⟨.tuple [.int (.ofNat 0), .int (.ofNat 1)], fun _ _ => ⟨d_3_1_0 .., t8 (t1_3_1_5_0 ..) (t2_3_1_0 ..)⟩⟩ (fa ⟨.tuple [.int (.ofNat 0), .int (.ofNat 1)], fun _ _ => ⟨d_3_1_1 .., t8 (t1_3_1_5_1 ..) (t2_3_1_1 ..)⟩⟩ (fa ⟨.tuple [.int (.ofNat 0), .int (.ofNat 1)], fun _ _ => ⟨d_3_1_2 .., t8 (t1_3_1_5_2 ..) (t2_3_1_2 ..)⟩⟩ (fa ⟨Due_3_1, fun _ _ => ⟨d_3_1_3 .., t8 (t1_3_1_5_3 ..) (t2_3_1_3 ..)⟩⟩ fz))))⟩⟩
theorem pr_3_1_6 : PR (.int (.ofNat 3)) (.int (.ofNat 1)) Rows_3 Tail_3_1 Line_3_1 Means_3_1 (ksOf [0, 1, 2, 3]) Rr6 := ⟨hm_3_6, Told_3_1_6, fun _ _ _ _ => ⟨s6_3_1_6 .., (fa ⟨.tuple [.int (.ofNat 0), .int (.ofNat 1)], fun _ _ => ⟨d_3_1_0 .., t8 (t1_3_1_6_0 ..) (t2_3_1_0 ..)⟩⟩ (fa ⟨.tuple [.int (.ofNat 0), .int (.ofNat 1)], fun _ _ => ⟨d_3_1_1 .., t8 (t1_3_1_6_1 ..) (t2_3_1_1 ..)⟩⟩ (fa ⟨.tuple [.int (.ofNat 0), .int (.ofNat 1)], fun _ _ => ⟨d_3_1_2 .., t8 (t1_3_1_6_2 ..) (t2_3_1_2 ..)⟩⟩ (fa ⟨Due_3_1, fun _ _ => ⟨d_3_1_3 .., t8 (t1_3_1_6_3 ..) (t2_3_1_3 ..)⟩⟩ fz))))⟩⟩
theorem pr_3_1_7 : PR (.int (.ofNat 3)) (.int (.ofNat 1)) Rows_3 Tail_3_1 Line_3_1 Means_3_1 (ksOf [0, 1, 2, 3]) Rr7 := ⟨hm_3_7, Told_3_1_7, fun _ _ _ _ => ⟨s6_3_1_7 .., (fa ⟨.tuple [.int (.ofNat 0), .int (.ofNat 1)], fun _ _ => ⟨d_3_1_0 .., t8 (t1_3_1_7_0 ..) (t2_3_1_0 ..)⟩⟩ (fa ⟨.tuple [.int (.ofNat 0), .int (.ofNat 1)], fun _ _ => ⟨d_3_1_1 .., t8 (t1_3_1_7_1 ..) (t2_3_1_1 ..)⟩⟩ (fa ⟨.tuple [.int (.ofNat 0), .int (.ofNat 1)], fun _ _ => ⟨d_3_1_2 .., t8 (t1_3_1_7_2 ..) (t2_3_1_2 ..)⟩⟩ (fa ⟨Due_3_1, fun _ _ => ⟨d_3_1_3 .., t8 (t1_3_1_7_3 ..) (t2_3_1_3 ..)⟩⟩ fz))))⟩⟩
theorem pr_3_1_8 : PR (.int (.ofNat 3)) (.int (.ofNat 1)) Rows_3 Tail_3_1 Line_3_1 Means_3_1 (ksOf [0, 1, 2, 3]) Rr8 := ⟨hm_3_8, Told_3_1_8, fun _ _ _ _ => ⟨s6_3_1_8 .., (fa ⟨.tuple [.int (.ofNat 0), .int (.ofNat 1)], fun _ _ => ⟨d_3_1_0 .., t8 (t1_3_1_8_0 ..) (t2_3_1_0 ..)⟩⟩ (fa ⟨.tuple [.int (.ofNat 0), .int (.ofNat 1)], fun _ _ => ⟨d_3_1_1 .., t8 (t1_3_1_8_1 ..) (t2_3_1_1 ..)⟩⟩ (fa ⟨.tuple [.int (.ofNat 0), .int (.ofNat 1)], fun _ _ => ⟨d_3_1_2 .., t8 (t1_3_1_8_2 ..) (t2_3_1_2 ..)⟩⟩ (fa ⟨Due_3_1, fun _ _ => ⟨d_3_1_3 .., t8 (t1_3_1_8_3 ..) (t2_3_1_3 ..)⟩⟩ fz))))⟩⟩
theorem pr_3_1_9 : PR (.int (.ofNat 3)) (.int (.ofNat 1)) Rows_3 Tail_3_1 Line_3_1 Means_3_1 (ksOf [0, 1, 2, 3]) Rr9 := ⟨hm_3_9, Told_3_1_9, fun _ _ _ _ => ⟨s6_3_1_9 .., (fa ⟨.tuple [.int (.ofNat 0), .int (.ofNat 1)], fun _ _ => ⟨d_3_1_0 .., t8 (t1_3_1_9_0 ..) (t2_3_1_0 ..)⟩⟩ (fa ⟨.tuple [.int (.ofNat 0), .int (.ofNat 1)], fun _ _ => ⟨d_3_1_1 .., t8 (t1_3_1_9_1 ..) (t2_3_1_1 ..)⟩⟩ (fa ⟨.tuple [.int (.ofNat 0), .int (.ofNat 1)], fun _ _ => ⟨d_3_1_2 .., t8 (t1_3_1_9_2 ..) (t2_3_1_2 ..)⟩⟩ (fa ⟨Due_3_1, fun _ _ => ⟨d_3_1_3 .., t8 (t1_3_1_9_3 ..) (t2_3_1_3 ..)⟩⟩ fz))))⟩⟩
theorem pr_3_1_10 : PR (.int (.ofNat 3)) (.int (.ofNat 1)) Rows_3 Tail_3_1 Line_3_1 Means_3_1 (ksOf [0, 1, 2, 3]) Rr10 := ⟨hm_3_10, Told_3_1_10, fun _ _ _ _ => ⟨s6_3_1_10 .., (fa ⟨.tuple [.int (.ofNat 0), .int (.ofNat 1)], fun _ _ => ⟨d_3_1_0 .., t8 (t1_3_1_10_0 ..) (t2_3_1_0 ..)⟩⟩ (fa ⟨.tuple [.int (.ofNat 0), .int (.ofNat 1)], fun _ _ => ⟨d_3_1_1 .., t8 (t1_3_1_10_1 ..) (t2_3_1_1 ..)⟩⟩ (fa ⟨.tuple [.int (.ofNat 0), .int (.ofNat 1)], fun _ _ => ⟨d_3_1_2 .., t8 (t1_3_1_10_2 ..) (t2_3_1_2 ..)⟩⟩ (fa ⟨Due_3_1, fun _ _ => ⟨d_3_1_3 .., t8 (t1_3_1_10_3 ..) (t2_3_1_3 ..)⟩⟩ fz))))⟩⟩
theorem pr_3_1 : ∀ r ∈ RL, PR (.int (.ofNat 3)) (.int (.ofNat 1)) Rows_3 Tail_3_1 Line_3_1 Means_3_1 (ksOf [0, 1, 2, 3]) r := (fa pr_3_1_0 (fa pr_3_1_1 (fa pr_3_1_2 (fa pr_3_1_3 (fa pr_3_1_4 (fa pr_3_1_5 (fa pr_3_1_6 (fa pr_3_1_7 (fa pr_3_1_8 (fa pr_3_1_9 (fa pr_3_1_10 fz)))))))))))
theorem pbc_3_1 : ∀ b ∈ BL, ∀ c ∈ CL, PBC (.int (.ofNat 3)) (.int (.ofNat 1)) Tail_3_1 Means_3_1 Due_3_1 (ksOf [0, 1, 2, 3]) b c := (fa (fa ⟨Tog_3_1_0_n2, fun _ _ _ _ _ _ => ⟨s8_3_1_0_n2 .., s9_3_1_0_n2 ..⟩⟩ (fa ⟨Tog_3_1_0_n1, fun _ _ _ _ _ _ => ⟨s8_3_1_0_n1 .., s9_3_1_0_n1 ..⟩⟩ (fa ⟨Tog_3_1_0_0, fun _ _ _ _ _ _ => ⟨s8_3_1_0_0 .., s9_3_1_0_0 ..⟩⟩ (fa ⟨Tog_3_1_0_1, fun _ _ _ _ _ _ => ⟨s8_3_1_0_1 .., s9_3_1_0_1 ..⟩⟩ (fa ⟨Tog_3_1_0_2, fun _ _ _ _ _ _ => ⟨s8_3_1_0_2 .., s9_3_1_0_2 ..⟩⟩ fz))))) (fa (fa ⟨Tog_3_1_1_n2, fun _ _ _ _ _ _ => ⟨s8_3_1_1_n2 .., s9_3_1_1_n2 ..⟩⟩ (fa ⟨Tog_3_1_1_n1, fun _ _ _ _ _ _ => ⟨s8_3_1_1_n1 .., s9_3_1_1_n1 ..⟩⟩ (fa ⟨Tog_3_1_1_0, fun _ _ _ _ _ _ => ⟨s8_3_1_1_0 .., s9_3_1_1_0 ..⟩⟩ (fa ⟨Tog_3_1_1_1, fun _ _ _ _ _ _ => ⟨s8_3_1_1_1 .., s9_3_1_1_1 ..⟩⟩ (fa ⟨Tog_3_1_1_2, fun _ _ _ _ _ _ => ⟨s8_3_1_1_2 .., s9_3_1_1_2 ..⟩⟩ fz))))) (fa (fa ⟨Tog_3_1_2_n2, fun _ _ _ _ _ _ => ⟨s8_3_1_2_n2 .., s9_3_1_2_n2 ..⟩⟩ (fa ⟨Tog_3_1_2_n1, fun _ _ _ _ _ _ => ⟨s8_3_1_2_n1 .., s9_3_1_2_n1 ..⟩⟩ (fa ⟨Tog_3_1_2_0, fun _ _ _ _ _ _ => ⟨s8_3_1_2_0 .., s9_3_1_2_0 ..⟩⟩ (fa ⟨Tog_3_1_2_1, fun _ _ _ _ _ _ => ⟨s8_3_1_2_1 .., s9_3_1_2_1 ..⟩⟩ (fa ⟨Tog_3_1_2_2, fun _ _ _ _ _ _ => ⟨s8_3_1_2_2 .., s9_3_1_2_2 ..⟩⟩ fz))))) fz)))
theorem run_3_1 : ∀ r ∈ RL, ∀ b ∈ BL, ∀ c ∈ CL, ∀ x0 x1 : OD, X_rest (S19 x0 x1 (some (.int (.ofNat 3))) (some r) (some (.int (.ofNat 1))) (some b) (some c) none none none none none none none none none none none none) = some (.ret (.bool true)) :=
  fun r hr b hb c hc x0 x1 => run (s3_3_1) (s5_3_1) (by kernel_rfl) (s10_3_1) (pr_3_1 r hr) (pbc_3_1 b hb c hc) x0 x1
theorem pr_3_2_0 : PR (.int (.ofNat 3)) (.int (.ofNat 2)) Rows_3 Tail_3_2 Line_3_2 Means_3_2 (ksOf [0, 1, 2, 3]) Rr0 := ⟨hm_3_0, Told_3_2_0, fun _ _ _ _ => ⟨s6_3_2_0 .., (fa ⟨.tuple [.int (.ofNat 0), .int (.ofNat 1)], fun _ _ => ⟨d_3_2_0 .., t8 (t1_3_2_0_0 ..) (t2_3_2_0 ..)⟩⟩ (fa ⟨.tuple [.int (.ofNat 0), .int (.ofNat 1)], fun _ _ => ⟨d_3_2_1 .., t8 (t1_3_2_0_1 ..) (t2_3_2_1 ..)⟩⟩ (fa ⟨.tuple [.int (.ofNat 0), .int (.ofNat 1)], fun _ _ => ⟨d_3_2_2 .., t8 (t1_3_2_0_2 ..) (t2_3_2_2 ..)⟩⟩ (fa ⟨Due_3_2, fun _ _ => ⟨d_3_2_3 .., t8 (t1_3_2_0_3 ..) (t2_3_2_3 ..)⟩⟩ fz))))⟩⟩
theorem pr_3_2_1 : PR (.int (.ofNat 3)) (.int (.ofNat 2)) Rows_3 Tail_3_2 Line_3_2 Means_3_2 (ksOf [0, 1, 2, 3]) Rr1 := ⟨hm_3_1, Told_3_2_1, fun _ _ _ _ => ⟨s6_3_2_1 .., (fa ⟨.tuple [.int (.ofNat 0), .int (.ofNat 1)], fun _ _ => ⟨d_3_2_0 .., t8 (t1_3_2_1_0 ..) (t2_3_2_0 ..)⟩⟩ (fa ⟨.tuple [.int (.ofNat 0), .int (.ofNat 1)], fun _ _ => ⟨d_3_2_1 .., t8 (t1_3_2_1_1 ..) (t2_3_2_1 ..)⟩⟩ (fa ⟨.tuple [.int (.ofNat 0), .int (.ofNat 1)], fun _ _ => ⟨d_3_2_2 .., t8 (t1_3_2_1_2 ..) (t2_3_2_2 ..)⟩⟩ (fa ⟨Due_3_2, fun _ _ => ⟨d_3_2_3 .., t8 (t1_3_2_1_3 ..) (t2_3_2_3 ..)⟩⟩ fz))))⟩⟩
theorem pr_3_2_2 : PR (.int (.ofNat 3)) (.int (.ofNat 2)) Rows_3 Tail_3_2 Line_3_2 Means_3_2 (ksOf [0, 1, 2, 3]) Rr2 := ⟨hm_3_2, Told_3_2_2, fun _ _ _ _ => ⟨s6_3_2_2 .., (fa ⟨.tuple [.int (.ofNat 0), .int (.ofNat 1)], fun _ _ => ⟨d_3_2_0 .., t8 (t1_3_2_2_0 ..) (t2_3_2_0 ..)⟩⟩ (fa ⟨.tuple [.int (.ofNat 0), .int (.ofNat 1)], fun _ _ => ⟨d_3_2_1 .., t8 (t1_3_2_2_1 ..) (t2_3_2_1 ..)⟩⟩ (fa ⟨.tuple [.int (.ofNat 0), .int (.ofNat 1)], fun _ _ => ⟨d_3_2_2 .., t8 (t1_3_2_2_2 ..) (t2_3_2_2 ..)⟩⟩ (fa ⟨Due_3_2, fun _ _ => ⟨d_3_2_3 .., t8 (t1_3_2_2_3 ..) (t2_3_2_3 ..)⟩⟩ fz))))⟩⟩
theorem pr_3_2_3 : PR (.int (.ofNat 3)) (.int (.ofNat 2)) Rows_3 Tail_3_2 Line_3_2 Means_3_2 (ksOf [0, 1, 2, 3]) Rr3 := ⟨hm_3_3, Told_3_2_3, fun _ _ _ _ => ⟨s6_3_2_3 .., (fa ⟨.tuple [.int (.ofNat 0), .int (.ofNat 1)], fun _ _ => ⟨d_3_2_0 .., t8 (t1_3_2_3_0 ..) (t2_3_2_0 ..)⟩⟩ (fa ⟨.tuple [.int (.ofNat 0), .int (.ofNat 1)], fun _ _ => ⟨d_3_2_1 .., t8 (t1_3_2_3_1 ..) (t2_3_2_1 ..)⟩⟩ (fa ⟨.tuple [.int (.ofNat 0), .int (.ofNat 1)], fun _ _ => ⟨d_3_2_2 .., t8 (t1_3_2_3_2 ..) (t2_3_2_2 ..)⟩⟩ (fa ⟨Due_3_2, fun _ _ => ⟨d_3_2_3 .., t8 (t1_3_2_3_3 ..) (t2_3_2_3 ..)⟩⟩ fz))))⟩⟩
theorem pr_3_2_4 : PR (.int (.ofNat 3)) (.int (.ofNat 2)) Rows_3 Tail_3_2 Line_3_2 Means_3_2 (ksOf [0, 1, 2, 3]) Rr4 := ⟨hm_3_4, Told_3_2_4, fun _ _ _ _ => ⟨s6_3_2_4 .., (fa ⟨.tuple [.int (.ofNat 0), .int (.ofNat 1)], fun _ _ => ⟨d_3_2_0 .., t8 (t1_3_2_4_0 ..) (t2_3_2_0 ..)⟩⟩ (fa ⟨.tuple [.int (.ofNat 0), .int (.ofNat 1)], fun _ _ => ⟨d_3_2_1 .., t8 (t1_3_2_4_1 ..) (t2_3_2_1 ..)⟩⟩ (fa ⟨.tuple [.int (.ofNat 0), .int (.ofNat 1)], fun _ _ => ⟨d_3_2_2 .., t8 (t1_3_2_4_2 ..) (t2_3_2_2 ..)⟩⟩ (fa ⟨Due_3_2, fun _ _ => ⟨d_3_2_3 .., t8 (t1_3_2_4_3 ..) (t2_3_2_3 ..)⟩⟩ fz))))⟩⟩
theorem pr_3_2_5 : PR (.int (.ofNat 3)) (.int (.ofNat 2)) Rows_3 Tail_3_2 Line_3_2 Means_3_2 (ksOf [0, 1, 2, 3]) Rr5 := ⟨hm_3_5, Told_3_2_5, fun _ _ _ _ => ⟨s6_3_2_5 .., (fa ⟨.tuple [.int (.ofNat 0), .int (.ofNat 1)], fun _ _ => ⟨d_3_2_0 .., t8 (t1_3_2_5_0 ..) (t2_3_2_0 ..)⟩⟩ (fa ⟨.tuple [.int (.ofNat 0), .int (.ofNat 1)], fun _ _ => ⟨d_3_2_1 .., t8 (t1_3_2_5_1 ..) (t2_3_2_1 ..)⟩⟩ (fa ⟨.tuple [.int (.ofNat 0), .int (.ofNat 1)], fun _ _ => ⟨d_3_2_2 .., t8 (t1_3_2_5_2 ..) (t2_3_2_2 ..)⟩⟩ (fa ⟨Due_3_2, fun _ _ => ⟨d_3_2_3 .., t8 (t1_3_2_5_3 ..) (t2_3_2_3 ..)⟩⟩ fz))))⟩⟩
theorem pr_3_2_6 : PR (.int (.ofNat 3)) (.int (.ofNat 2)) Rows_3 Tail_3_2 Line_3_2 Means_3_2 (ksOf [0, 1, 2, 3]) Rr6 := ⟨hm_3_6, Told_3_2_6, fun _ _ _ _ => ⟨s6_3_2_6 .., (fa ⟨.tuple [.int (.ofNat 0), .int (.ofNat 1)], fun _ _ => ⟨d_3_2_0 .., t8 (t1_3_2_6_0 ..) (t2_3_2_0 ..)⟩⟩ (fa ⟨.tuple [.int (.ofNat 0), .int (.ofNat 1)], fun _ _ => ⟨d_3_2_1 .., t8 (t1_3_2_6_1 ..) (t2_3_2_1 ..)⟩⟩ (fa ⟨.tuple [.int (.ofNat 0), .int (.ofNat 1)], fun _ _ => ⟨d_3_2_2 .., t8 (t1_3_2_6_2 ..) (t2_3_2_2 ..)⟩⟩ (fa ⟨Due_3_2, fun _ _ => ⟨d_3_2_3 .., t8 (t1_3_2_6_3 ..) (t2_3_2_3 ..)⟩⟩ fz))))⟩⟩
theorem pr_3_2_7 : PR (.int (.ofNat 3)) (.int (.ofNat 2)) Rows_3 Tail_3_2 Line_3_2 Means_3_2 (ksOf [0, 1, 2, 3]) Rr7 := ⟨hm_3_7, Told_3_2_7, fun _ _ _ _ => ⟨s6_3_2_7 .., (fa ⟨.tuple [.int (.ofNat 0), .int (.ofNat 1)], fun _ _ => ⟨d_3_2_0 .., t8 (t1_3_2_7_0 ..) (t2_3_2_0 ..)⟩⟩ (fa ⟨.tuple [.int (.ofNat 0), .int (.ofNat 1)], fun _ _ => ⟨d_3_2_1 .., t8 (t1_3_2_7_1 ..) (t2_3_2_1 ..)⟩⟩ (fa ⟨.tuple [.int (.ofNat 0), .int (.ofNat 1)], fun _ _ => ⟨d_3_2_2 .., t8 (t1_3_2_7_2 ..) (t2_3_2_2 ..)⟩⟩ (fa ⟨Due_3_2, fun _ _ => ⟨d_3_2_3 .., t8 (t1_3_2_7_3 ..) (t2_3_2_3 ..)⟩⟩ fz))))⟩⟩
theorem pr_3_2_8 : PR (.int (.ofNat 3)) (.int (.ofNat 2)) Rows_3 Tail_3_2 Line_3_2 Means_3_2 (ksOf [0, 1, 2, 3]) Rr8 := ⟨hm_3_8, Told_3_2_8, fun _ _ _ _ => ⟨s6_3_2_8 .., (fa ⟨.tuple [.int (.ofNat 0), .int (.ofNat 1)], fun _ _ => ⟨d_3_2_0 .., t8 (t1_3_2_8_0 ..) (t2_3_2_0 ..)⟩⟩ (fa ⟨.tuple [.int (.ofNat 0), .int (.ofNat 1)], fun _ _ => ⟨d_3_2_1 .., t8 (t1_3_2_8_1 ..) (t2_3_2_1 ..)⟩⟩ (fa ⟨.tuple [.int (.ofNat 0), .int (.ofNat 1)], fun _ _ => ⟨d_3_2_2 .., t8 (t1_3_2_8_2 ..) (t2_3_2_2 ..)⟩⟩ (fa ⟨Due_3_2, fun _ _ => ⟨d_3_2_3 .., t8 (t1_3_2_8_3 ..) (t2_3_2_3 ..)⟩⟩ fz))))⟩⟩
theorem pr_3_2_9 : PR (.int (.ofNat 3)) (.int (.ofNat 2)) Rows_3 Tail_3_2 Line_3_2 Means_3_2 (ksOf [0, 1, 2, 3]) Rr9 := ⟨hm_3_9, Told_3_2_9, fun _ _ _ _ => ⟨s6_3_2_9 .., (fa ⟨.tuple [.int (.ofNat 0), .int (.ofNat 1)], fun _ _ => ⟨d_3_2_0 .., t8 (t1_3_2_9_0 ..) (t2_3_2_0 ..)⟩⟩ (fa ⟨.tuple [.int (.ofNat 0), .int (.ofNat 1)], fun _ _ => ⟨d_3_2_1 .., t8 (t1_3_2_9_1 ..) (t2_3_2_1 ..)⟩⟩ (fa ⟨.tuple [.int (.ofNat 0), .int (.ofNat 1)], fun _ _ => ⟨d_3_2_2 .., t8 (t1_3_2_9_2 ..) (t2_3_2_2 ..)⟩⟩ (fa ⟨Due_3_2, fun _ _ => ⟨d_3_2_3 .., t8 (t1_3_2_9_3 ..) (t2_3_2_3 ..)⟩⟩ fz))))⟩⟩
theorem pr_3_2_10 : PR (.int (.ofNat 3)) (.int (.ofNat 2)) Rows_3 Tail_3_2 Line_3_2 Means_3_2 (ksOf [0, 1, 2, 3]) Rr10 := ⟨hm_3_10, Told_3_2_10, fun _ _ _ _ => ⟨s6_3_2_10 .., (fa ⟨.tuple [.int (.ofNat 0), .int (.ofNat 1)], fun _ _ => ⟨d_3_2_0 .., t8 (t1_3_2_10_0 ..) (t2_3_2_0 ..)⟩⟩ (fa ⟨.tuple [.int (.ofNat 0), .int (.ofNat 1)], fun _ _ => ⟨d_3_2_1 .., t8 (t1_3_2_10_1 ..) (t2_3_2_1 ..)⟩⟩ (fa ⟨.tuple [.int (.ofNat 0), .int (.ofNat 1)], fun _ _ => ⟨d_3_2_2 .., t8 (t1_3_2_10_2 ..) (t2_3_2_2 ..)⟩⟩ (fa ⟨Due_3_2, fun _ _ => ⟨d_3_2_3 .., t8 (t1_3_2_10_3 ..) (t2_3_2_3 ..)⟩⟩ fz))))⟩⟩
theorem pr_3_2 : ∀ r ∈ RL, PR (.int (.ofNat 3)) (.int (.ofNat 2)) Rows_3 Tail_3_2 Line_3_2 Means_3_2 (ksOf [0, 1, 2, 3]) r := (fa pr_3_2_0 (fa pr_3_2_1 (fa pr_3_2_2 (fa pr_3_2_3 (fa pr_3_2_4 (fa pr_3_2_5 (fa pr_3_2_6 (fa pr_3_2_7 (fa pr_3_2_8 (fa pr_3_2_9 (fa pr_3_2_10 fz)))))))))))
theorem pbc_3_2 : ∀ b ∈ BL, ∀ c ∈ CL, PBC (.int (.ofNat 3)) (.int (.ofNat 2)) Tail_3_2 Means_3_2 Due_3_2 (ksOf [0, 1, 2, 3]) b c := (fa (fa ⟨Tog_3_2_0_n2, fun _ _ _ _ _ _ => ⟨s8_3_2_0_n2 .., s9_3_2_0_n2 ..⟩⟩ (fa ⟨Tog_3_2_0_n1, fun _ _ _ _ _ _ => ⟨s8_3_2_0_n1 .., s9_3_2_0_n1 ..⟩⟩ (fa ⟨Tog_3_2_0_0, fun _ _ _ _ _ _ => ⟨s8_3_2_0_0 .., s9_3_2_0_0 ..⟩⟩ (fa ⟨Tog_3_2_0_1, fun _ _ _ _ _ _ => ⟨s8_3_2_0_1 .., s9_3_2_0_1 ..⟩⟩ (fa ⟨Tog_3_2_0_2, fun _ _ _ _ _ _ => ⟨s8_3_2_0_2 .., s9_3_2_0_2 ..⟩⟩ fz))))) (fa (fa ⟨Tog_3_2_1_n2, fun _ _ _ _ _ _ => ⟨s8_3_2_1_n2 .., s9_3_2_1_n2 ..⟩⟩ (fa ⟨Tog_3_2_1_n1, fun _ _ _ _ _ _ => ⟨s8_3_2_1_n1 .., s9_3_2_1_n1 ..⟩⟩ (fa ⟨Tog_3_2_1_0, fun _ _ _ _ _ _ => ⟨s8_3_2_1_0 .., s9_3_2_1_0 ..⟩⟩ (fa ⟨Tog_3_2_1_1, fun _ _ _ _ _ _ => ⟨s8_3_2_1_1 .., s9_3_2_1_1 ..⟩⟩ (fa ⟨Tog_3_2_1_2, fun _ _ _ _ _ _ => ⟨s8_3_2_1_2 .., s9_3_2_1_2 ..⟩⟩ fz))))) (fa (fa ⟨Tog_3_2_2_n2, fun _ _ _ _ _ _ => ⟨s8_3_2_2_n2 .., s9_3_2_2_n2 ..⟩⟩ (fa ⟨Tog_3_2_2_n1, fun _ _ _ _ _ _ => ⟨s8_3_2_2_n1 .., s9_3_2_2_n1 ..⟩⟩ (fa ⟨Tog_3_2_2_0, fun _ _ _ _ _ _ => ⟨s8_3_2_2_0 .., s9_3_2_2_0 ..⟩⟩ (fa ⟨Tog_3_2_2_1, fun _ _ _ _ _ _ => ⟨s8_3_2_2_1 .., s9_3_2_2_1 ..⟩⟩ (fa ⟨Tog_3_2_2_2, fun _ _ _ _ _ _ => ⟨s8_3_2_2_2 .., s9_3_2_2_2 ..⟩⟩ fz))))) fz)))
theorem run_3_2 : ∀ r ∈ RL, ∀ b ∈ BL, ∀ c ∈ CL, ∀ x0 x1 : OD, X_rest (S19 x0 x1 (some (.int (.ofNat 3))) (some r) (some (.int (.ofNat 2))) (some b) (some c) none none none none none none none none none none none none) = some (.ret (.bool true)) :=
  fun r hr b hb c hc x0 x1 => run (s3_3_2) (s5_3_2) (by kernel_rfl) (s10_3_2) (pr_3_2 r hr) (pbc_3_2 b hb c hc) x0 x1
theorem pr_4_0_0 : PR (.int (.ofNat 4)) (.int (.ofNat 0)) Rows_4 Tail_4_0 Line_4_0 Means_4_0 (ksOf [0, 1, 2, 3, 4]) Rr0 := ⟨hm_4_0, Told_4_0_0, fun _ _ _ _ => ⟨s6_4_0_0 .., (fa ⟨.tuple [.int (.ofNat 0), .int (.ofNat 1)], fun _ _ => ⟨d_4_0_0 .., t8 (t1_4_0_0_0 ..) (t2_4_0_0 ..)⟩⟩ (fa ⟨.tuple [.int (.ofNat 0), .int (.ofNat 1)], fun _ _ => ⟨d_4_0_1 .., t8 (t1_4_0_0_1 ..) (t2_4_0_1 ..)⟩⟩ (fa ⟨.tuple [.int (.ofNat 0), .int (.ofNat 1)], fun _ _ => ⟨d_4_0_2 .., t8 (t1_4_0_0_2 ..) (t2_4_0_2 ..)⟩⟩ (fa ⟨.tuple [.int (.ofNat 0), .int (.ofNat 1)], fun _ _ => ⟨d_4_0_3 .., t8 (t1_4_0_0_3 ..) (t2_4_0_3 ..)⟩⟩ (fa ⟨Due_4_0, fun _ _ => ⟨d_4_0_4 .., t8 (t1_4_0_0_4 ..) (t2_4_0_4 ..)⟩⟩ fz)))))⟩⟩
theorem pr_4_0_1 : PR (.int (.ofNat 4)) (.int (.ofNat 0)) Rows_4 Tail_4_0 Line_4_0 Means_4_0 (ksOf [0, 1, 2, 3, 4]) Rr1 := ⟨hm_4_1, Told_4_0_1, fun _ _ _ _ => ⟨s6_4_0_1 .., (fa ⟨.tuple [.int (.ofNat 0), .int (.ofNat 1)], fun _ _ => ⟨d_4_0_0 .., t8 (t1_4_0_1_0 ..) (t2_4_0_0 ..)⟩⟩ (fa ⟨.tuple [.int (.ofNat 0), .int (.ofNat 1)], fun _ _ => ⟨d_4_0_1 .., t8 (t1_4_0_1_1 ..) (t2_4_0_1 ..)⟩⟩ (fa ⟨.tuple [.int (.ofNat 0), .int (.ofNat 1)], fun _ _ => ⟨d_4_0_2 .., t8 (t1_4_0_1_2 ..) (t2_4_0_2 ..)⟩⟩ (fa ⟨.tuple [.int (.ofNat 0), .int (.ofNat 1)], fun _ _ => ⟨d_4_0_3 .., t8 (t1_4_0_1_3 ..) (t2_4_0_3 ..)⟩⟩ (fa ⟨Due_4_0, fun _ _ => ⟨d_4_0_4 .., t8 (t1_4_0_1_4 ..) (t2_4_0_4 ..)⟩⟩ fz)))))⟩⟩
theorem pr_4_0_2 : PR (.int (.ofNat 4)) (.int (.ofNat 0)) Rows_4 Tail_4_0 Line_4_0 Means_4_0 (ksOf [0, 1, 2, 3, 4]) Rr2 := ⟨hm_4_2, Told_4_0_2, fun _ _ _ _ => ⟨s6_4_0_2 .., (fa ⟨.tuple [.int (.ofNat 0), .int (.ofNat 1)], fun _ _ => ⟨d_4_0_0 .., t8 (t1_4_0_2_0 ..) (t2_4_0_0 ..)⟩⟩ (fa ⟨.tuple [.int (.ofNat 0), .int (.ofNat 1)], fun _ _ => ⟨d_4_0_1 .., t8 (t1_4_0_2_1 ..) (t2_4_0_1 ..)⟩⟩ (fa ⟨.tuple [.int (.ofNat 0), .int (.ofNat 1)], fun _ _ => ⟨d_4_0_2 .., t8 (t1_4_0_2_2 ..) (t2_4_0_2 ..)⟩⟩ (fa ⟨.tuple [.int (.ofNat 0), .int (.ofNat 1)], fun _ _ => ⟨d_4_0_3 .., t8 (t1_4_0_2_3 ..) (t2_4_0_3 ..)⟩⟩ (fa ⟨Due_4_0, fun _ _ => ⟨d_4_0_4 .., t8 (t1_4_0_2_4 ..) (t2_4_0_4 ..)⟩⟩ fz)))))⟩⟩
theorem pr_4_0_3 : PR (.int (.ofNat 4)) (.int (.ofNat 0)) Rows_4 Tail_4_0 Line_4_0 Means_4_0 (ksOf [0, 1, 2, 3, 4]) Rr3 := ⟨hm_4_3, Told_4_0_3, fun _ _ _ _ => ⟨s6_4_0_3 .., (fa ⟨.tuple [.int (.ofNat 0), .int (.ofNat 1)], fun _ _ => ⟨d_4_0_0 .., t8 (t1_4_0_3_0 ..) (t2_4_0_0 ..)⟩⟩ (fa ⟨.tuple [.int (.ofNat 0), .int (.ofNat 1)], fun _ _ => ⟨d_4_0_1 .., t8 (t1_4_0_3_1 ..) (t2_4_0_1 ..)⟩⟩ (fa ⟨.tuple [.int (.ofNat 0), .int (.ofNat 1)], fun _ _ => ⟨d_4_0_2 .., t8 (t1_4_0_3_2 ..) (t2_4_0_2 ..)⟩⟩ (fa ⟨.tuple [.int (.ofNat 0), .int (.ofNat 1)], fun _ _ => ⟨d_4_0_3 .., t8 (t1_4_0_3_3 ..) (t2_4_0_3 ..)⟩⟩ (fa ⟨Due_4_0, fun _ _ => ⟨d_4_0_4 .., t8 (t1_4_0_3_4 ..) (t2_4_0_4 ..)⟩⟩ fz)))))⟩⟩
theorem pr_4_0_4 : PR (.int (.ofNat 4)) (.int (.ofNat 0)) Rows_4 Tail_4_0 Line_4_0 Means_4_0 (ksOf [0, 1, 2, 3, 4]) Rr4 := ⟨hm_4_4, Told_4_0_4, fun _ _ _ _ => ⟨s6_4_0_4 .., (fa ⟨.tuple [.int (.ofNat 0), .int (.ofNat 1)], fun _ _ => ⟨d_4_0_0 .., t8 (t1_4_0_4_0 ..) (t2_4_0_0 ..)⟩⟩ (fa ⟨.tuple [.int (.ofNat 0), .int (.ofNat 1)], fun _ _ => ⟨d_4_0_1 .., t8 (t1_4_0_4_1 ..) (t2_4_0_1 ..)⟩⟩ (fa ⟨.tuple [.int (.ofNat 0), .int (.ofNat 1)], fun _ _ => ⟨d_4_0_2 .., t8 (t1_4_0_4_2 ..) (t2_4_0_2 ..)⟩⟩ (fa ⟨.tuple [.int (.ofNat 0), .int (.ofNat 1)], fun _ _ => ⟨d_4_0_3 .., t8 (t1_4_0_4_3 ..) (t2_4_0_3 ..)⟩⟩ (fa ⟨Due_4_0, fun _ _ => ⟨d_4_0_4 .., t8 (t1_4_0_4_4 ..) (t2_4_0_4 ..)⟩⟩ fz)))))⟩⟩
theorem pr_4_0_5 : PR (.int (.ofNat 4)) (.int (.ofNat 0)) Rows_4 Tail_4_0 Line_4_0 Means_4_0 (ksOf [0, 1, 2, 3, 4]) Rr5 := ⟨hm_4_5, Told_4_0_5, fun _ _ _ _ => ⟨s6_4_0_5 .., (fa ⟨.tuple [.int (.ofNat 0), .int (.ofNat 1)], fun _ _ => ⟨d_4_0_0 .., t8 (t1_4_0_5_0 ..) (t2_4_0_0 ..)⟩⟩ (fa ⟨.tuple [.int (.ofNat 0), .int (.ofNat 1)], fun _ _ => ⟨d_4_0_1 .., t8 (t1_4_0_5_1 ..) (t2_4_0_1 ..)⟩⟩ (fa ⟨.tuple [.int (.ofNat 0), .int (.ofNat 1)], fun _ _ => ⟨d_4_0_2 .., t8 (t1_4_0_5_2 ..) (t2_4_0_2 ..)⟩⟩ (fa ⟨.tuple [.int (.ofNat 0), .int (.ofNat 1)], fun _ _ => ⟨d_4_0_3 .., t8 (t1_4_0_5_3 ..) (t2_4_0_3 ..)⟩⟩ (fa ⟨Due_4_0, fun _ _ => ⟨d_4_0_4 .., t8 (t1_4_0_5_4 ..) (t2_4_0_4 ..)⟩⟩ fz)))))⟩⟩
theorem pr_4_0_6 : PR (.int (.ofNat 4)) (.int (.ofNat 0)) Rows_4 Tail_4_0 Line_4_0 Means_4_0 (ksOf [0, 1, 2, 3, 4]) Rr6 := ⟨hm_4_6, Told_4_0_6, fun _ _ _ _ => ⟨s6_4_0_6 .., (fa ⟨.tuple [.int (.ofNat 0), .int (.ofNat 1)], fun _ _ => ⟨d_4_0_0 .., t8 (t1_4_0_6_0 ..) (t2_4_0_0 ..)⟩⟩ (fa ⟨.tuple [.int (.ofNat 0), .int (.ofNat 1)], fun _ _ => ⟨d_4_0_1 .., t8 (t1_4_0_6_1 ..) (t2_4_0_1 ..)⟩⟩ (fa ⟨.tuple [.int (.ofNat 0), .int (.ofNat 1)], fun _ _ => ⟨d_4_0_2 .., t8 (t1_4_0_6_2 ..) (t2_4_0_2 ..)⟩⟩ (fa ⟨.tuple [.int (.ofNat 0), .int (.ofNat 1)], fun _ _ => ⟨d_4_0_3 .., t8 (t1_4_0_6_3 ..) (t2_4_0_3 ..)⟩⟩ (fa ⟨Due_4_0, fun _ _ => ⟨d_4_0_4 .., t8 (t1_4_0_6_4 ..) (t2_4_0_4 ..)⟩⟩ fz)))))⟩⟩
theorem pr_4_0_7 : PR (.int (.ofNat 4)) (.int (.ofNat 0)) Rows_4 Tail_4_0 Line_4_0 Means_4_0 (ksOf [0, 1, 2, 3, 4]) Rr7 := ⟨hm_4_7, Told_4_0_7, fun _ _ _ _ => ⟨s6_4_0_7 .., (fa ⟨.tuple [.int (.ofNat 0), .int (.ofNat 1)], fun _ _ => ⟨d_4_0_0 .., t8 (t1_4_0_7_0 ..) (t2_4_0_0 ..)⟩⟩ (fa ⟨.tuple [.int (.ofNat 0), .int (.ofNat 1)], fun _ _ => ⟨d_4_0_1 .., t8 (t1_4_0_7_1 ..) (t2_4_0_1 ..)⟩⟩ (fa ⟨.tuple [.int (.ofNat 0), .int (.ofNat 1)], fun _ _ => ⟨d_4_0_2 .., t8 (t1_4_0_7_2 ..) (t2_4_0_2 ..)⟩⟩ (fa ⟨.tuple [.int (.ofNat 0), .int (.ofNat 1)], fun _ _ => ⟨d_4_0_3 .., t8 (t1_4_0_7_3 ..) (t2_4_0_3 ..)⟩⟩ (fa ⟨Due_4_0, fun _ _ => ⟨d_4_0_4 .., t8 (t1_4_0_7_4 ..) (t2_4_0_4 ..)⟩⟩ fz)))))⟩⟩
theorem pr_4_0_8 : PR (.int (.ofNat 4)) (.int (.ofNat 0)) Rows_4 Tail_4_0 Line_4_0 Means_4_0 (ksOf [0, 1, 2, 3, 4]) Rr8 := ⟨hm_4_8, Told_4_0_8, fun _ _ _ _ => ⟨s6_4_0_8 .., (fa ⟨.tuple [.int (.ofNat 0), .int (.ofNat 1)], fun _ _ => ⟨d_4_0_0 .., t8 (t1_4_0_8_0 ..) (t2_4_0_0 ..)⟩⟩ (fa ⟨.tuple [.int (.ofNat 0), .int (.ofNat 1)], fun _ _ => ⟨d_4_0_1 .., t8 (t1_4_0_8_1 ..) (t2_4_0_1 ..)⟩⟩ (fa ⟨.tuple [.int (.ofNat 0), .int (.ofNat 1)], fun _ _ => ⟨d_4_0_2 .., t8 (t1_4_0_8_2 ..) (t2_4_0_2 ..)⟩⟩ (fa ⟨.tuple [.int (.ofNat 0), .int (.ofNat 1)], fun _ _ => ⟨d_4_0_3 .., t8 (t1_4_0_8_3 ..) (t2_4_0_3 ..)⟩⟩ (fa ⟨Due_4_0, fun _ _ => ⟨d_4_0_4 .., t8 (t1_4_0_8_4 ..) (t2_4_0_4 ..)⟩⟩ fz)))))⟩⟩
theorem pr_4_0_9 : PR (.int (.ofNat 4)) (.int (.ofNat 0)) Rows_4 Tail_4_0 Line_4_0 Means_4_0 (ksOf [0, 1, 2, 3, 4]) Rr9 := ⟨hm_4_9, Told_4_0_9, fun _ _ _ _ => ⟨s6_4_0_9 .., (fa ⟨.tuple [.int (.ofNat 0), .int (.ofNat 1)], fun _ _ => ⟨d_4_0_0 .., t8 (t1_4_0_9_0 ..) (t2_4_0_0 ..)⟩⟩ (fa ⟨.tuple [.int (.ofNat 0), .int (.ofNat 1)], fun _ _ => ⟨d_4_0_1 .., t8 (t1_4_0_9_1 ..) (t2_4_0_1 ..)⟩⟩ (fa ⟨.tuple [.int (.ofNat 0), .int (.ofNat 1)], fun _ _ => ⟨d_4_0_2 .., t8 (t1_4_0_9_2 ..) (t2_4_0_2 ..)⟩⟩ (fa ⟨.tuple [.int (.ofNat 0), .int (.ofNat 1)], fun _ _ => ⟨d_4_0_3 .., t8 (t1_4_0_9_3 ..) (t2_4_0_3 ..)⟩⟩ (fa ⟨Due_4_0, fun _ _ => ⟨d_4_0_4 .., t8 (t1_4_0_9_4 ..) (t2_4_0_4 ..)⟩⟩ fz)))))⟩⟩
theorem pr_4_0_10 : PR (.int (.ofNat 4)) (.int (.ofNat 0)) Rows_4 Tail_4_0 Line_4_0 Means_4_0 (ksOf [0, 1, 2, 3, 4]) Rr10 := ⟨hm_4_10, Told_4_0_10, fun _ _ _ _ => ⟨s6_4_0_10 .., (fa ⟨.tuple [.int (.ofNat 0), .int (.ofNat 1)], fun _ _ => ⟨d_4_0_0 .., t8 (t1_4_0_10_0 ..) (t2_4_0_0 ..)⟩⟩ (fa ⟨.tuple [.int (.ofNat 0), .int (.ofNat 1)], fun _ _ => ⟨d_4_0_1 .., t8 (t1_4_0_10_1 ..) (t2_4_0_1 ..)⟩⟩ (fa ⟨.tuple [.int (.ofNat 0), .int (.ofNat 1)], fun _ _ => ⟨d_4_0_2 .., t8 (t1_4_0_10_2 ..) (t2_4_0_2 ..)⟩⟩ (fa ⟨.tuple [.int (.ofNat 0), .int (.ofNat 1)], fun _ _ => ⟨d_4_0_3 .., t8 (t1_4_0_10_3 ..) (t2_4_0_3 ..)⟩⟩ (fa ⟨Due_4_0, fun _ _ => ⟨d_4_0_4 .., t8 (t1_4_0_10_4 ..) (t2_4_0_4 ..)⟩⟩ fz)))))⟩⟩
theorem pr_4_0 : ∀ r ∈ RL, PR (.int (.ofNat 4)) (.int (.ofNat 0)) Rows_4 Tail_4_0 Line_4_0 Means_4_0 (ksOf [0, 1, 2, 3, 4]) r := (fa pr_4_0_0 (fa pr_4_0_1 (fa pr_4_0_2 (fa pr_4_0_3 (fa pr_4_0_4 (fa pr_4_0_5 (fa pr_4_0_6 (fa pr_4_0_7 (fa pr_4_0_8 (fa pr_4_0_9 (fa pr_4_0_10 fz)))))))))))
theorem pbc_4_0 : ∀ b ∈ BL, ∀ c ∈ CL, PBC (.int (.ofNat 4)) (.int (.ofNat 0)) Tail_4_0 Means_4_0 Due_4_0 (ksOf [0, 1, 2, 3, 4]) b c := (fa (fa ⟨Tog_4_0_0_n2, fun _ _ _ _ _ _ => ⟨s8_4_0_0_n2 .., s9_4_0_0_n2 ..⟩⟩ (fa ⟨Tog_4_0_0_n1, fun _ _ _ _ _ _ => ⟨s8_4_0_0_n1 .., s9_4_0_0_n1 ..⟩⟩ (fa ⟨Tog_4_0_0_0, fun _ _ _ _ _ _ => ⟨s8_4_0_0_0 .., s9_4_0_0_0 ..⟩⟩ (fa ⟨Tog_4_0_0_1, fun _ _ _ _ _ _ => ⟨s8_4_0_0_1 .., s9_4_0_0_1 ..⟩⟩ (fa ⟨Tog_4_0_0_2, fun _ _ _ _ _ _ => ⟨s8_4_0_0_2 .., s9_4_0_0_2 ..⟩⟩ fz))))) (fa (fa ⟨Tog_4_0_1_n2, fun _ _ _ _ _ _ => ⟨s8_4_0_1_n2 .., s9_4_0_1_n2 ..⟩⟩ (fa ⟨Tog_4_0_1_n1, fun _ _ _ _ _ _ => ⟨s8_4_0_1_n1 .., s9_4_0_1_n1 ..⟩⟩ (fa ⟨Tog_4_0_1_0, fun _ _ _ _ _ _ => ⟨s8_4_0_1_0 .., s9_4_0_1_0 ..⟩⟩ (fa ⟨Tog_4_0_1_1, fun _ _ _ _ _ _ => ⟨s8_4_0_1_1 .., s9_4_0_1_1 ..⟩⟩ (fa ⟨Tog_4_0_1_2, fun _ _ _ _ _ _ => ⟨s8_4_0_1_2 .., s9_4_0_1_2 ..⟩⟩ fz))))) (fa (fa ⟨Tog_4_0_2_n2, fun _ _ _ _ _ _ => ⟨s8_4_0_2_n2 .., s9_4_0_2_n2 ..⟩⟩ (fa ⟨Tog_4_0_2_n1, fun _ _ _ _ _ _ => ⟨s8_4_0_2_n1 .., s9_4_0_2_n1 ..⟩⟩ (fa ⟨Tog_4_0_2_0, fun _ _ _ _ _ _ => ⟨s8_4_0_2_0 .., s9_4_0_2_0 ..⟩⟩ (fa ⟨Tog_4_0_2_1, fun _ _ _ _ _ _ => ⟨s8_4_0_2_1 .., s9_4_0_2_1 ..⟩⟩ (fa ⟨Tog_4_0_2_2, fun _ _ _ _ _ _ => ⟨s8_4_0_2_2 .., s9_4_0_2_2 ..⟩⟩ fz))))) fz)))
theorem run_4_0 : ∀ r ∈ RL, ∀ b ∈ BL, ∀ c ∈ CL, ∀ x0 x1 : OD, X_rest (S19 x0 x1 (some (.int (.ofNat 4))) (some r) (some (.int (.ofNat 0))) (some b) (some c) none none none none none none none none none none none none) = some (.ret (.bool true)) :=
  fun r hr b hb c hc x0 x1 => run (s3_4_0) (s5_4_0) (by kernel_rfl) (s10_4_0) (pr_4_0 r hr) (pbc_4_0 b hb c hc) x0 x1
theorem pr_4_1_0 : PR (.int (.ofNat 4)) (.int (.ofNat 1)) Rows_4 Tail_4_1 Line_4_1 Means_4_1 (ksOf [0, 1, 2, 3, 4]) Rr0 := ⟨hm_4_0, Told_4_1_0, fun _ _ _ _ => ⟨s6_4_1_0 .., (fa ⟨.tuple [.int (.ofNat 0), .int (.ofNat 1)], fun _ _ => ⟨d_4_1_0 .., t8 (t1_4_1_0_0 ..) (t2_4_1_0 ..)⟩⟩ (fa ⟨.tuple [.int (.ofNat 0), .int (.ofNat 1)], fun _ _ => ⟨d_4_1_1 .., t8 (t1_4_1_0_1 ..) (t2_4_1_1 ..)⟩⟩ (fa ⟨.tuple [.int (.ofNat 0), .int (.ofNat 1)], fun _ _ => ⟨d_4_1_2 .., t8 (t1_4_1_0_2 ..) (t2_4_1_2 ..)⟩⟩ (fa ⟨.tuple [.int (.ofNat 0), .int (.ofNat 1)], fun _ _ => ⟨d_4_1_3 .., t8 (t1_4_1_0_3 ..) (t2_4_1_3 ..)⟩⟩ (fa ⟨Due_4_1, fun _ _ => ⟨d_4_1_4 .., t8 (t1_4_1_0_4 ..) (t2_4_1_4 ..)⟩⟩ fz)))))⟩⟩
theorem pr_4_1_1 : PR (.int (.ofNat 4)) (.int (.ofNat 1)) Rows_4 Tail_4_1 Line_4_1 Means_4_1 (ksOf [0, 1, 2, 3, 4]) Rr1 := ⟨hm_4_1, Told_4_1_1, fun _ _ _ _ => ⟨s6_4_1_1 .., (fa ⟨.tuple [.int (.ofNat 0), .int (.ofNat 1)], fun _ _ => ⟨d_4_1_0 .., t8 (t1_4_1_1_0 ..) (t2_4_1_0 ..)⟩⟩ (fa ⟨.tuple [.int (.ofNat 0), .int (.ofNat 1)], fun _ _ => ⟨d_4_1_1 .., t8 (t1_4_1_1_1 ..) (t2_4_1_1 ..)⟩⟩ (fa ⟨.tuple [.int (.ofNat 0), .int (.ofNat 1)], fun _ _ => ⟨d_4_1_2 .., t8 (t1_4_1_1_2 ..) (t2_4_1_2 ..)⟩⟩ (fa ⟨.tuple [.int (.ofNat 0), .int (.ofNat 1)], fun _ _ => ⟨d_4_1_3 .., t8 (t1_4_1_1_3 ..) (t2_4_1_3 ..)⟩⟩ (fa ⟨Due_4_1, fun _ _ => ⟨d_4_1_4 .., t8 (t1_4_1_1_4 ..) (t2_4_1_4 ..)⟩⟩ fz)))))⟩⟩
theorem pr_4_1_2 : PR (.int (.ofNat 4)) (.int (.ofNat 1)) Rows_4 Tail_4_1 Line_4_1 Means_4_1 (ksOf [0, 1, 2, 3, 4]) Rr2 := ⟨hm_4_2, Told_4_1_2, fun _ _ _ _ => ⟨s6_4_1_2 .., (fa ⟨.tuple [.int (.ofNat 0), .int (.ofNat 1)], fun _ _ => ⟨d_4_1_0 .., t8 (t1_4_1_2_0 ..) (t2_4_1_0 ..)⟩⟩ (fa ⟨.tuple [.int (.ofNat 0), .int (.ofNat 1)], fun _ _ => ⟨d_4_1_1 .., t8 (t1_4_1_2_1 ..) (t2_4_1_1 ..)⟩⟩ (fa ⟨.tuple [.int (.ofNat 0), .int (.ofNat 1)], fun _ _ => ⟨d_4_1_2 .., t8 (t1_4_1_2_2 ..) (t2_4_1_2 ..)⟩⟩ (fa ⟨.tuple [.int (.ofNat 0), .int (.ofNat 1)], fun _ _ => ⟨d_4_1_3 .., t8 (t1_4_1_2_3 ..) (t2_4_1_3 ..)⟩⟩ (fa ⟨Due_4_1, fun _ _ => ⟨d_4_1_4 .., t8 (t1_4_1_2_4 ..) (t2_4_1_4 ..)⟩⟩ fz)))))⟩⟩
theorem pr_4_1_3 : PR (.int (.ofNat 4)) (.int (.ofNat 1)) Rows_4 Tail_4_1 Line_4_1 Means_4_1 (ksOf [0, 1, 2, 3, 4]) Rr3 := ⟨hm_4_3, Told_4_1_3, fun _ _ _ _ => ⟨s6_4_1_3 .., (fa ⟨.tuple [.int (.ofNat 0), .int (.ofNat 1)], fun _ _ => ⟨d_4_1_0 .., t8 (t1_4_1_3_0 ..) (t2_4_1_0 ..)⟩⟩ (fa ⟨.tuple [.int (.ofNat 0), .int (.ofNat 1)], fun _ _ => ⟨d_4_1_1 .., t8 (t1_4_1_3_1 ..) (t2_4_1_1 ..)⟩⟩ (fa ⟨.tuple [.int (.ofNat 0), .int (.ofNat 1)], fun _ _ => ⟨d_4_1_2 .., t8 (t1_4_1_3_2 ..) (t2_4_1_2 ..)⟩⟩ (fa ⟨.tuple [.int (.ofNat 0), .int (.ofNat 1)], fun _ _ => ⟨d_4_1_3 .., t8 (t1_4_1_3_3 ..) (t2_4_1_3 ..)⟩⟩ (fa ⟨Due_4_1, fun _ _ => ⟨d_4_1_4 .., t8 (t1_4_1_3_4 ..) (t2_4_1_4 ..)⟩⟩ fz)))))⟩⟩
theorem pr_4_1_4 : PR (.int (.ofNat 4)) (.int (.ofNat 1)) Rows_4 Tail_4_1 Line_4_1 Means_4_1 (ksOf [0, 1, 2, 3, 4]) Rr4 := ⟨hm_4_4, Told_4_1_4, fun _ _ _ _ => ⟨s6_4_1_4 .., (fa ⟨.tuple [.int (.ofNat 0), .int (.ofNat 1)], fun _ _ => ⟨d_4_1_0 .., t8 (t1_4_1_4_0 ..) (t2_4_1_0 ..)⟩⟩ (fa ⟨.tuple [.int (.ofNat 0), .int (.ofNat 1)], fun _ _ => ⟨d_4_1_1 .., t8 (t1_4_1_4_1 ..) (t2_4_1_1 ..)⟩⟩ (fa ⟨.tuple [.int (.ofNat 0), .int (.ofNat 1)], fun _ _ => ⟨d_4_1_2 .., t8 (t1_4_1_4_2 ..) (t2_4_1_2 ..)⟩⟩ (fa ⟨.tuple [.int (.ofNat 0), .int (.ofNat 1)], fun _ _ => ⟨d_4_1_3 .., t8 (t1_4_1_4_3 ..) (t2_4_1_3 ..)⟩⟩ (fa ⟨Due_4_1, fun _ _ => ⟨d_4_1_4 .., t8 (t1_4_1_4_4 ..) (t2_4_1_4 ..)⟩⟩ fz)))))⟩⟩
theorem pr_4_1_5 : PR (.int (.ofNat 4)) (.int (.ofNat 1)) Rows_4 Tail_4_1 Line_4_1 Means_4_1 (ksOf [0, 1, 2, 3, 4]) Rr5 := ⟨hm_4_5, Told_4_1_5, fun _ _ _ _ => ⟨s6_4_1_5 .., (fa ⟨.tuple [.int (.ofNat 0), .int (.ofNat 1)], fun _ _ => ⟨d_4_1_0 .., t8 (t1_4_1_5_0 ..) (t2_4_1_0 ..)⟩⟩ (fa ⟨.tuple [.int (.ofNat 0), .int (.ofNat 1)], fun _ _ => ⟨d_4_1_1 .., t8 (t1_4_1_5_1 ..) (t2_4_1_1 ..)⟩⟩ (fa ⟨.tuple [.int (.ofNat 0), .int (.ofNat 1)], fun _ _ => ⟨d_4_1_2 .., t8 (t1_4_1_5_2 ..) (t2_4_1_2 ..)⟩⟩ (fa ⟨.tuple [.int (.ofNat 0), .int (.ofNat 1)], fun _ _ => ⟨d_4_1_3 .., t8 (t1_4_1_5_3 ..) (t2_4_1_3 ..)⟩⟩ (fa ⟨Due_4_1, fun _ _ => ⟨d_4_1_4 .., t8 (t1_4_1_5_4 ..) (t2_4_1_4 ..)⟩⟩ fz)))))⟩⟩
theorem pr_4_1_6 : PR (.int (.ofNat 4)) (.int (.ofNat 1)) Rows_4 Tail_4_1 Line_4_1 Means_4_1 (ksOf [0, 1, 2, 3, 4]) Rr6 := ⟨hm_4_6, Told_4_1_6, fun _ _ _ _ => ⟨s6_4_1_6 .., (fa ⟨.tuple [.int (.ofNat 0), .int (.ofNat 1)], fun _ _ => ⟨d_4_1_0 .., t8 (t1_4_1_6_0 ..) (t2_4_1_0 ..)⟩⟩ (fa ⟨.tuple [.int (.ofNat 0), .int (.ofNat 1)], fun _ _ => ⟨d_4_1_1 .., t8 (t1_4_1_6_1 ..) (t2_4_1_1 ..)⟩⟩ (fa ⟨.tuple [.int (.ofNat 0), .int (.ofNat 1)], fun _ _ => ⟨d_4_1_2 .., t8 (t1_4_1_6_2 ..) (t2_4_1_2 ..)⟩⟩ (fa ⟨.tuple [.int (.ofNat 0), .int (.ofNat 1)], fun _ _ => ⟨d_4_1_3 .., t8 (t1_4_1_6_3 ..) (t2_4_1_3 ..)⟩⟩ (fa ⟨Due_4_1, fun _ _ => ⟨d_4_1_4 .., t8 (t1_4_1_6_4 ..) (t2_4_1_4 ..)⟩⟩ fz)))))⟩⟩
theorem pr_4_1_7 : PR (.int (.ofNat 4)) (.int (.ofNat 1)) Rows_4 Tail_4_1 Line_4_1 Means_4_1 (ksOf [0, 1, 2, 3, 4]) Rr7 := ⟨hm_4_7, Told_4_1_7, fun _ _ _ _ => ⟨s6_4_1_7 .., (fa ⟨.tuple [.int (.ofNat 0), .int (.ofNat 1)], fun _ _ => ⟨d_4_1_0 .., t8 (t1_4_1_7_0 ..) (t2_4_1_0 ..)⟩⟩ (fa ⟨.tuple [.int (.ofNat 0), .int (.ofNat 1)], fun _ _ => ⟨d_4_1_1 .., t8 (t1_4_1_7_1 ..) (t2_4_1_1 ..)⟩⟩ (fa ⟨.tuple [.int (.ofNat 0), .int (.ofNat 1)], fun _ _ => ⟨d_4_1_2 .., t8 (t1_4_1_7_2 ..) (t2_4_1_2 ..)⟩⟩ (fa ⟨.tuple [.int (.ofNat 0), .int (.ofNat 1)], fun _ _ => ⟨d_4_1_3 .., t8 (t1_4_1_7_3 ..) (t2_4_1_3 ..)⟩⟩ (fa ⟨Due_4_1, fun _ _ => ⟨d_4_1_4 .., t8 (t1_4_1_7_4 ..) (t2_4_1_4 ..)⟩⟩ fz)))))⟩⟩
theorem pr_4_1_8 : PR (.int (.ofNat 4)) (.int (.ofNat 1)) Rows_4 Tail_4_1 Line_4_1 Means_4_1 (ksOf [0, 1, 2, 3, 4]) Rr8 := ⟨hm_4_8, Told_4_1_8, fun _ _ _ _ => ⟨s6_4_1_8 .., (fa ⟨.tuple [.int (.ofNat 0), .int (.ofNat 1)], fun _ _ => ⟨d_4_1_0 .., t8 (t1_4_1_8_0 ..) (t2_4_1_0 ..)⟩⟩ (fa ⟨.tuple [.int (.ofNat 0), .int (.ofNat 1)], fun _ _ => ⟨d_4_1_1 .., t8 (t1_4_1_8_1 ..) (t2_4_1_1 ..)⟩⟩ (fa ⟨.tuple [.int (.ofNat 0), .int (.ofNat 1)], fun _ _ => ⟨d_4_1_2 .., t8 (t1_4_1_8_2 ..) (t2_4_1_2 ..)⟩⟩ (fa ⟨.tuple [.int (.ofNat 0), .int (.ofNat 1)], fun _ _ => ⟨d_4_1_3 .., t8 (t1_4_1_8_3 ..) (t2_4_1_3 ..)⟩⟩ (fa ⟨Due_4_1, fun _ _ => ⟨d_4_1_4 .., t8 (t1_4_1_8_4 ..) (t2_4_1_4 ..)⟩⟩ fz)))))⟩⟩
theorem pr_4_1_9 : PR (.int (.ofNat 4)) (.int (.ofNat 1)) Rows_4 Tail_4_1 Line_4_1 Means_4_1 (ksOf [0, 1, 2, 3, 4]) Rr9 := ⟨hm_4_9, Told_4_1_9, fun _ _ _ _ => ⟨s6_4_1_9 .., (fa ⟨.tuple [.int (.ofNat 0), .int (.ofNat 1)], fun _ _ => ⟨d_4_1_0 .., t8 (t1_4_1_9_0 ..) (t2_4_1_0 ..)⟩⟩ (fa ⟨.tuple [.int (.ofNat 0), .int (.ofNat 1)], fun _ _ => ⟨d_4_1_1 .., t8 (t1_4_1_9_1 ..) (t2_4_1_1 ..)⟩⟩ (fa ⟨.tuple [.int (.ofNat 0), .int (.ofNat 1)], fun _ _ => ⟨d_4_1_2 .., t8 (t1_4_1_9_2 ..) (t2_4_1_2 ..)⟩⟩ (fa ⟨.tuple [.int (.ofNat 0), .int (.ofNat 1)], fun _ _ => ⟨d_4_1_3 .., t8 (t1_4_1_9_3 ..) (t2_4_1_3 ..)⟩⟩ (fa ⟨Due_4_1, fun _ _ => ⟨d_4_1_4 .., t8 (t1_4_1_9_4 ..) (t2_4_1_4 ..)⟩⟩ fz)))))⟩⟩
theorem pr_4_1_10 : PR (.int (.ofNat 4)) (.int (.ofNat 1)) Rows_4 Tail_4_1 Line_4_1 Means_4_1 (ksOf [0, 1, 2, 3, 4]) Rr10 := ⟨hm_4_10, Told_4_1_10, fun _ _ _ _ => ⟨s6_4_1_10 .., (fa ⟨.tuple [.int (.ofNat 0), .int (.ofNat 1)], fun _ _ => ⟨d_4_1_0 .., t8 (t1_4_1_10_0 ..) (t2_4_1_0 ..)⟩⟩ (fa ⟨.tuple [.int (.ofNat 0), .int (.ofNat 1)], fun _ _ => ⟨d_4_1_1 .., t8 (t1_4_1_10_1 ..) (t2_4_1_1 ..)⟩⟩ (fa ⟨.tuple [.int (.ofNat 0), .int (.ofNat 1)], fun _ _ => ⟨d_4_1_2 .., t8 (t1_4_1_10_2 ..) (t2_4_1_2 ..)⟩⟩ (fa ⟨.tuple [.int (.ofNat 0), .int (.ofNat 1)], fun _ _ => ⟨d_4_1_3 .., t8 (t1_4_1_10_3 ..) (t2_4_1_3 ..)⟩⟩ (fa ⟨Due_4_1, fun _ _ => ⟨d_4_1_4 .., t8 (t1_4_1_10_4 ..) (t2_4_1_4 ..)⟩⟩ fz)))))⟩⟩
theorem pr_4_1 : ∀ r ∈ RL, PR (.int (.ofNat 4)) (.int (.ofNat 1)) Rows_4 Tail_4_1 Line_4_1 Means_4_1 (ksOf [0, 1, 2, 3, 4]) r := (fa pr_4_1_0 (fa pr_4_1_1 (fa pr_4_1_2 (fa pr_4_1_3 (fa pr_4_1_4 (fa pr_4_1_5 (fa pr_4_1_6 (fa pr_4_1_7 (fa pr_4_1_8 (fa pr_4_1_9 (fa pr_4_1_10 fz)))))))))))
theorem pbc_4_1 : ∀ b ∈ BL, ∀ c ∈ CL, PBC (.int (.ofNat 4)) (.int (.ofNat 1)) Tail_4_1 Means_4_1 Due_4_1 (ksOf [0, 1, 2, 3, 4]) b c := (fa (fa ⟨Tog_4_1_0_n2, fun _ _ _ _ _ _ => ⟨s8_4_1_0_n2 .., s9_4_1_0_n2 ..⟩⟩ (fa ⟨Tog_4_1_0_n1, fun _ _ _ _ _ _ => ⟨s8_4_1_0_n1 .., s9_4_1_0_n1 ..⟩⟩ (fa ⟨Tog_4_1_0_0, fun _ _ _ _ _ _ => ⟨s8_4_1_0_0 .., s9_4_1_0_0 ..⟩⟩ (fa ⟨Tog_4_1_0_1, fun _ _ _ _ _ _ => ⟨s8_4_1_0_1 .., s9_4_1_0_1 ..⟩⟩ (fa ⟨Tog_4_1_0_2, fun _ _ _ _ _ _ => ⟨s8_4_1_0_2 .., s9_4_1_0_2 ..⟩⟩ fz))))) (fa (fa ⟨Tog_4_1_1_n2, fun _ _ _ _ _ _ => ⟨s8_4_1_1_n2 .., s9_4_1_1_n2 ..⟩⟩ (fa ⟨Tog_4_1_1_n1, fun _ _ _ _ _ _ => ⟨s8_4_1_1_n1 .., s9_4_1_1_n1 ..⟩⟩ (fa ⟨Tog_4_1_1_0, fun _ _ _ _ _ _ => ⟨s8_4_1_1_0 .., s9_4_1_1_0 ..⟩⟩ (fa ⟨Tog_4_1_1_1, fun _ _ _ _ _ _ => ⟨s8_4_1_1_1 .., s9_4_1_1_1 ..⟩⟩ (fa ⟨Tog_4_1_1_2, fun _ _ _ _ _ _ => ⟨s8_4_1_1_2 .., s9_4_1_1_2 ..⟩⟩ fz))))) (fa (fa ⟨Tog_4_1_2_n2, fun _ _ _ _ _ _ => ⟨s8_4_1_2_n2 .., s9_4_1_2_n2 ..⟩⟩ (fa ⟨Tog_4_1_2_n1, fun _ _ _ _ _ _ => ⟨s8_4_1_2_n1 .., s9_4_1_2_n1 ..⟩⟩ (fa ⟨Tog_4_1_2_0, fun _ _ _ _ _ _ => ⟨s8_4_1_2_0 .., s9_4_1_2_0 ..⟩⟩ (fa ⟨Tog_4_1_2_1, fun _ _ _ _ _ _ => ⟨s8_4_1_2_1 .., s9_4_1_2_1 ..⟩⟩ (fa ⟨Tog_4_1_2_2, fun _ _ _ _ _ _ => ⟨s8_4_1_2_2 .., s9_4_1_2_2 ..⟩⟩ fz))))) fz)))
theorem run_4_1 : ∀ r ∈ RL, ∀ b ∈ BL, ∀ c ∈ CL, ∀ x0 x1 : OD, X_rest (S19 x0 x1 (some (.int (.ofNat 4))) (some r) (some (.int (.ofNat 1))) (some b) (some c) none none none none none none none none none none none none) = some (.ret (.bool true)) :=
  fun r hr b hb c hc x0 x1 => run (s3_4_1) (s5_4_1) (by kernel_rfl) (s10_4_1) (pr_4_1 r hr) (pbc_4_1 b hb c hc) x0 x1
theorem pr_4_2_0 : PR (.int (.ofNat 4)) (.int (.ofNat 2)) Rows_4 Tail_4_2 Line_4_2 Means_4_2 (ksOf [0, 1, 2, 3, 4]) Rr0 := ⟨hm_4_0, Told_4_2_0, fun _ _ _ _ => ⟨s6_4_2_0 .., (fa ⟨.tuple [.int (.ofNat 0), .int (.ofNat 1)], fun _ _ => ⟨d_4_2_0 .., t8 (t1_4_2_0_0 ..) (t2_4_2_0 ..)⟩⟩ (fa ⟨.tuple [.int (.ofNat 0), .int (.ofNat 1)], fun _ _ => ⟨d_4_2_1 .., t8 (t1_4_2_0_1 ..) (t2_4_2_1 ..)⟩⟩ (fa ⟨.tuple [.int (.ofNat 0), .int (.ofNat 1)], fun _ _ => ⟨d_4_2_2 .., t8 (t1_4_2_0_2 ..) (t2_4_2_2 ..)⟩⟩ (fa ⟨.tuple [.int (.ofNat 0), .int (.ofNat 1)], fun _ _ => ⟨d_4_2_3 .., t8 (t1_4_2_0_3 ..) (t2_4_2_3 ..)⟩⟩ (fa ⟨Due_4_2, fun _ _ => ⟨d_4_2_4 .., t8 (t1_4_2_0_4 ..) (t2_4_2_4 ..)⟩⟩ fz)))))⟩⟩
theorem pr_4_2_1 : PR (.int (.ofNat 4)) (.int (.ofNat 2)) Rows_4 Tail_4_2 Line_4_2 Means_4_2 (ksOf [0, 1, 2, 3, 4]) Rr1 := ⟨hm_4_1, Told_4_2_1, fun _ _ _ _ => ⟨s6_4_2_1 .., (fa ⟨.tuple [.int (.ofNat 0), .int (.ofNat 1)], fun _ _ => ⟨d_4_2_0 .., t8 (t1_4_2_1_0 ..) (t2_4_2_0 ..)⟩⟩ (fa ⟨.tuple [.int (.ofNat 0), .int (.ofNat 1)], fun _ _ => ⟨d_4_2_1 .., t8 (t1_4_2_1_1 ..) (t2_4_2_1 ..)⟩⟩ (fa ⟨.tuple [.int (.ofNat 0), .int (.ofNat 1)], fun _ _ => ⟨d_4_2_2 .., t8 (t1_4_2_1_2 ..) (t2_4_2_2 ..)⟩⟩ (fa ⟨.tuple [.int (.ofNat 0), .int (.ofNat 1)], fun _ _ => ⟨d_4_2_3 .., t8 (t1_4_2_1_3 ..) (t2_4_2_3 ..)⟩⟩ (fa ⟨Due_4_2, fun _ _ => ⟨d_4_2_4 .., t8 (t1_4_2_1_4 ..) (t2_4_2_4 ..)⟩⟩ fz)))))⟩⟩
theorem pr_4_2_2 : PR (.int (.ofNat 4)) (.int (.ofNat 2)) Rows_4 Tail_4_2 Line_4_2 Means_4_2 (ksOf [0, 1, 2, 3, 4]) Rr2 := ⟨hm_4_2, Told_4_2_2, fun _ _ _ _ => ⟨s6_4_2_2 .., (fa ⟨.tuple [.int (.ofNat 0), .int (.ofNat 1)], fun _ _ => ⟨d_4_2_0 .., t8 (t1_4_2_2_0 ..) (t2_4_2_0 ..)⟩⟩ (fa ⟨.tuple [.int (.ofNat 0), .int (.ofNat 1)], fun _ _ => ⟨d_4_2_1 .., t8 (t1_4_2_2_1 ..) (t2_4_2_1 ..)⟩⟩ (fa ⟨.tuple [.int (.ofNat 0), .int (.ofNat 1)], fun _ _ => ⟨d_4_2_2 .., t8 (t1_4_2_2_2 ..) (t2_4_2_2 ..)⟩⟩ (fa ⟨.tuple [.int (.ofNat 0), .int (.ofNat 1)], fun _ _ => ⟨d_4_2_3 .., t8 (t1_4_2_2_3 ..) (t2_4_2_3 ..)⟩⟩ (fa ⟨Due_4_2, fun _ _ => ⟨d_4_2_4 .., t8 (t1_4_2_2_4 ..) (t2_4_2_4 ..)⟩⟩ fz)))))⟩⟩
theorem pr_4_2_3 : PR (.int (.ofNat 4)) (.int (.ofNat 2)) Rows_4 Tail_4_2 Line_4_2 Means_4_2 (ksOf [0, 1, 2, 3, 4]) Rr3 := ⟨hm_4_3, Told_4_2_3, fun _ _ _ _ => ⟨s6_4_2_3 .., (fa ⟨.tuple [.int (.ofNat 0), .int (.ofNat 1)], fun _ _ => ⟨d_4_2_0 .., t8 (t1_4_2_3_0 ..) (t2_4_2_0 ..)⟩⟩ (fa ⟨.tuple [.int (.ofNat 0), .int (.ofNat 1)], fun _ _ => ⟨d_4_2_1 .., t8 (t1_4_2_3_1 ..) (t2_4_2_1 ..)⟩⟩ (fa ⟨.tuple [.int (.ofNat 0), .int (.ofNat 1)], fun _ _ => ⟨d_4_2_2 .., t8 (t1_4_2_3_2 ..) (t2_4_2_2 ..)⟩⟩ (fa ⟨.tuple [.int (.ofNat 0), .int (.ofNat 1)], fun _ _ => ⟨d_4_2_3 .., t8 (t1_4_2_3_3 ..) (t2_4_2_3 ..)⟩⟩ (fa ⟨Due_4_2, fun _ _ => ⟨d_4_2_4 .., t8 (t1_4_2_3_4 ..) (t2_4_2_4 ..)⟩⟩ fz)))))⟩⟩
theorem pr_4_2_4 : PR (.int (.ofNat 4)) (.int (.ofNat 2)) Rows_4 Tail_4_2 Line_4_2 Means_4_2 (ksOf [0, 1, 2, 3, 4]) Rr4 := ⟨hm_4_4, Told_4_2_4, fun _ _ _ _ => ⟨s6_4_2_4 .., (fa ⟨.tuple [.int (.ofNat 0), .int (.ofNat 1)], fun _ _ => ⟨d_4_2_0 .., t8 (t1_4_2_4_0 ..) (t2_4_2_0 ..)⟩⟩ (fa ⟨.tuple [.int (.ofNat 0), .int (.ofNat 1)], fun _ _ => ⟨d_4_2_1 .., t8 (t1_4_2_4_1 ..) (t2_4_2_1 ..)⟩⟩ (fa ⟨.tuple [.int (.ofNat 0), .int (.ofNat 1)], fun _ _ => ⟨d_4_2_2 .., t8 (t1_4_2_4_2 ..) (t2_4_2_2 ..)⟩⟩ (fa ⟨.tuple [.int (.ofNat 0), .int (.ofNat 1)], fun _ _ => ⟨d_4_2_3 .., t8 (t1_4_2_4_3 ..) (t2_4_2_3 ..)⟩⟩ (fa ⟨Due_4_2, fun _ _ => ⟨d_4_2_4 .., t8 (t1_4_2_4_4 ..) (t2_4_2_4 ..)⟩⟩ fz)))))⟩⟩
theorem pr_4_2_5 : PR (.int (.ofNat 4)) (.int (.ofNat 2)) Rows_4 Tail_4_2 Line_4_2 Means_4_2 (ksOf [0, 1, 2, 3, 4]) Rr5 := ⟨hm_4_5, Told_4_2_5, fun _ _ _ _ => ⟨s6_4_2_5 .., (fa ⟨.tuple [.int (.ofNat 0), .int (.ofNat 1)], fun _ _ => ⟨d_4_2_0 .., t8 (t1_4_2_5_0 ..) (t2_4_2_0 ..)⟩⟩ (fa ⟨.tuple [.int (.ofNat 0), .int (.ofNat 1)], fun _ _ => ⟨d_4_2_1 .., t8 (t1_4_2_5_1 ..) (t2_4_2_1 ..)⟩⟩ (fa ⟨.tuple [.int (.ofNat 0), .int (.ofNat 1)], fun _ _ => ⟨d_4_2_2 .., t8 (t1_4_2_5_2 ..) (t2_4_2_2 ..)⟩⟩ (fa ⟨.tuple [.int (.ofNat 0), .int (.ofNat 1)], fun _ _ => ⟨d_4_2_3 .., t8 (t1_4_2_5_3 ..) (t2_4_2_3 ..)⟩⟩ (fa ⟨Due_4_2, fun _ _ => ⟨d_4_2_4 .., t8 (t1_4_2_5_4 ..) (t2_4_2_4 ..)⟩⟩ fz)))))⟩⟩
theorem pr_4_2_6 : PR (.int (.ofNat 4)) (.int (.ofNat 2)) Rows_4 Tail_4_2 Line_4_2 Means_4_2 (ksOf [0, 1, 2, 3, 4]) Rr6 := ⟨hm_4_6, Told_4_2_6, fun _ _ _ _ => ⟨s6_4_2_6 .., (fa ⟨.tuple [.int (.ofNat 0), .int (.ofNat 1)], fun _ _ => ⟨d_4_2_0 .., t8 (t1_4_2_6_0 ..) (t2_4_2_0 ..)⟩⟩ (fa ⟨.tuple [.int (.ofNat 0), .int (.ofNat 1)], fun _ _ => ⟨d_4_2_1 .., t8 (t1_4_2_6_1 ..) (t2_4_2_1 ..)⟩⟩ (fa ⟨.tuple [.int (.ofNat 0), .int (.ofNat 1)], fun _ _ => ⟨d_4_2_2 .., t8 (t1_4_2_6_2 ..) (t2_4_2_2 ..)⟩⟩ (fa ⟨.tuple [.int (.ofNat 0), .int (.ofNat 1)], fun _ _ => ⟨d_4_2_3 .., t8 (t1_4_2_6_3 ..) (t2_4_2_3 ..)⟩⟩ (fa ⟨Due_4_2, fun _ _ => ⟨d_4_2_4 .., t8 (t1_4_2_6_4 ..) (t2_4_2_4 ..)⟩⟩ fz)))))⟩⟩
theorem pr_4_2_7 : PR (.int (.ofNat 4)) (.int (.ofNat 2)) Rows_4 Tail_4_2 Line_4_2 Means_4_2 (ksOf [0, 1, 2, 3, 4]) Rr7 := ⟨hm_4_7, Told_4_2_7, fun _ _ _ _ => ⟨s6_4_2_7 .., (fa ⟨.tuple [.int (.ofNat 0), .int (.ofNat 1)], fun _ _ => ⟨d_4_2_0 .., t8 (t1_4_2_7_0 ..) (t2_4_2_0 ..)⟩⟩ (fa ⟨.tuple [.int (.ofNat 0), .int (.ofNat 1)], fun _ _ => ⟨d_4_2_1 .., t8 (t1_4_2_7_1 ..) (t2_4_2_1 ..)⟩⟩ (fa ⟨.tuple [.int (.ofNat 0), .int (.ofNat 1)], fun _ _ => ⟨d_4_2_2 .., t8 (t1_4_2_7_2 ..) (t2_4_2_2 ..)⟩⟩ (fa ⟨.tuple [.int (.ofNat 0), .int (.ofNat 1)], fun _ _ => ⟨d_4_2_3 .., t8 (t1_4_2_7_3 ..) (t2_4_2_3 ..)⟩⟩ (fa ⟨Due_4_2, fun _ _ => ⟨d_4_2_4 .., t8 (t1_4_2_7_4 ..) (t2_4_2_4 ..)⟩⟩ fz)))))⟩⟩
theorem pr_4_2_8 : PR (.int (.ofNat 4)) (.int (.ofNat 2)) Rows_4 Tail_4_2 Line_4_2 Means_4_2 (ksOf [0, 1, 2, 3, 4]) Rr8 := ⟨hm_4_8, Told_4_2_8, fun _ _ _ _ => ⟨s6_4_2_8 .., (fa ⟨.tuple [.int (.ofNat 0), .int (.ofNat 1)], fun _ _ => ⟨d_4_2_0 .., t8 (t1_4_2_8_0 ..) (t2_4_2_0 ..)⟩⟩ (fa ⟨.tuple [.int (.ofNat 0), .int (.ofNat 1)], fun _ _ => ⟨d_4_2_1 .., t8 (t1_4_2_8_1 ..) (t2_4_2_1 ..)⟩⟩ (fa ⟨.tuple [.int (.ofNat 0), .int (.ofNat 1)], fun _ _ => ⟨d_4_2_2 .., t8 (t1_4_2_8_2 ..) (t2_4_2_2 ..)⟩⟩ (fa ⟨.tuple [.int (.ofNat 0), .int (.ofNat 1)], fun _ _ => ⟨d_4_2_3 .., t8 (t1_4_2_8_3 ..) (t2_4_2_3 ..)⟩⟩ (fa ⟨Due_4_2, fun _ _ => ⟨d_4_2_4 .., t8 (t1_4_2_8_4 ..) (t2_4_2_4 ..)⟩⟩ fz)))))⟩⟩
theorem pr_4_2_9 : PR (.int (.ofNat 4)) (.int (.ofNat 2)) Rows_4 Tail_4_2 Line_4_2 Means_4_2 (ksOf [0, 1, 2, 3, 4]) Rr9 := ⟨hm_4_9, Told_4_2_9, fun _ _ _ _ => ⟨s6_4_2_9 .., (fa ⟨.tuple [.int (.ofNat 0), .int (.ofNat 1)], fun _ _ => ⟨d_4_2_0 .., t8 (t1_4_2_9_0 ..) (t2_4_2_0 ..)⟩⟩ (fa ⟨.tuple [.int (.ofNat 0), .int (.ofNat 1)], fun _ _ => ⟨d_4_2_1 .., t8 (t1_4_2_9_1 ..) (t2_4_2_1 ..)⟩⟩ (fa ⟨.tuple [.int (.ofNat 0), .int (.ofNat 1)], fun _ _ => ⟨d_4_2_2 .., t8 (t1_4_2_9_2 ..) (t2_4_2_2 ..)⟩⟩ (fa ⟨.tuple [.int (.ofNat 0), .int (.ofNat 1)], fun _ _ => ⟨d_4_2_3 .., t8 (t1_4_2_9_3 ..) (t2_4_2_3 ..)⟩⟩ (fa ⟨Due_4_2, fun _ _ => ⟨d_4_2_4 .., t8 (t1_4_2_9_4 ..) (t2_4_2_4 ..)⟩⟩ fz)))))⟩⟩
theorem pr_4_2_10 : PR (.int (.ofNat 4)) (.int (.ofNat 2)) Rows_4 Tail_4_2 Line_4_2 Means_4_2 (ksOf [0, 1, 2, 3, 4]) Rr10 := ⟨hm_4_10, Told_4_2_10, fun _ _ _ _ => ⟨s6_4_2_10 .., (fa ⟨.tuple [.int (.ofNat 0), .int (.ofNat 1)], fun _ _ => ⟨d_4_2_0 .., t8 (t1_4_2_10_0 ..) (t2_4_2_0 ..)⟩⟩ (fa ⟨.tuple [.int (.ofNat 0), .int (.ofNat 1)], fun _ _ => ⟨d_4_2_1 .., t8 (t1_4_2_10_1 ..) (t2_4_2_1 ..)⟩⟩ (fa ⟨.tuple [.int (.ofNat 0), .int (.ofNat 1)], fun _ _ => ⟨d_4_2_2 .., t8 (t1_4_2_10_2 ..) (t2_4_2_2 ..)⟩⟩ (fa ⟨.tuple [.int (.ofNat 0), .int (.ofNat 1)], fun _ _ => ⟨d_4_2_3 .., t8 (t1_4_2_10_3 ..) (t2_4_2_3 ..)⟩⟩ (fa ⟨Due_4_2, fun _ _ => ⟨d_4_2_4 .., t8 (t1_4_2_10_4 ..) (t2_4_2_4 ..)⟩⟩ fz)))))⟩⟩
theorem pr_4_2 : ∀ r ∈ RL, PR (.int (.ofNat 4)) (.int (.ofNat 2)) Rows_4 Tail_4_2 Line_4_2 Means_4_2 (ksOf [0, 1, 2, 3, 4]) r := (fa pr_4_2_0 (fa pr_4_2_1 (fa pr_4_2_2 (fa pr_4_2_3 (fa pr_4_2_4 (fa pr_4_2_5 (fa pr_4_2_6 (fa pr_4_2_7 (fa pr_4_2_8 (fa pr_4_2_9 (fa pr_4_2_10 fz)))))))))))
theorem pbc_4_2 : ∀ b ∈ BL, ∀ c ∈ CL, PBC (.int (.ofNat 4)) (.int (.ofNat 2)) Tail_4_2 Means_4_2 Due_4_2 (ksOf [0, 1, 2, 3, 4]) b c := (fa (fa ⟨Tog_4_2_0_n2, fun _ _ _ _ _ _ => ⟨s8_4_2_0_n2 .., s9_4_2_0_n2 ..⟩⟩ (fa ⟨Tog_4_2_0_n1, fun _ _ _ _ _ _ => ⟨s8_4_2_0_n1 .., s9_4_2_0_n1 ..⟩⟩ (fa ⟨Tog_4_2_0_0, fun _ _ _ _ _ _ => ⟨s8_4_2_0_0 .., s9_4_2_0_0 ..⟩⟩ (fa ⟨Tog_4_2_0_1, fun _ _ _ _ _ _ => ⟨s8_4_2_0_1 .., s9_4_2_0_1 ..⟩⟩ (fa ⟨Tog_4_2_0_2, fun _ _ _ _ _ _ => ⟨s8_4_2_0_2 .., s9_4_2_0_2 ..⟩⟩ fz))))) (fa (fa ⟨Tog_4_2_1_n2, fun _ _ _ _ _ _ => ⟨s8_4_2_1_n2 .., s9_4_2_1_n2 ..⟩⟩ (fa ⟨Tog_4_2_1_n1, fun _ _ _ _ _ _ => ⟨s8_4_2_1_n1 .., s9_4_2_1_n1 ..⟩⟩ (fa ⟨Tog_4_2_1_0, fun _ _ _ _ _ _ => ⟨s8_4_2_1_0 .., s9_4_2_1_0 ..⟩⟩ (fa ⟨Tog_4_2_1_1, fun _ _ _ _ _ _ => ⟨s8_4_2_1_1 .., s9_4_2_1_1 ..⟩⟩ (fa ⟨Tog_4_2_1_2, fun _ _ _ _ _ _ => ⟨s8_4_2_1_2 .., s9_4_2_1_2 ..⟩⟩ fz))))) (fa (fa ⟨Tog_4_2_2_n2, fun _ _ _ _ _ _ => ⟨s8_4_2_2_n2 .., s9_4_2_2_n2 ..⟩⟩ (fa ⟨Tog_4_2_2_n1, fun _ _ _ _ _ _ => ⟨s8_4_2_2_n1 .., s9_4_2_2_n1 ..⟩⟩ (fa ⟨Tog_4_2_2_0, fun _ _ _ _ _ _ => ⟨s8_4_2_2_0 .., s9_4_2_2_0 ..⟩⟩ (fa ⟨Tog_4_2_2_1, fun _ _ _ _ _ _ => ⟨s8_4_2_2_1 .., s9_4_2_2_1 ..⟩⟩ (fa ⟨Tog_4_2_2_2, fun _ _ _ _ _ _ => ⟨s8_4_2_2_2 .., s9_4_2_2_2 ..⟩⟩ fz))))) fz)))
theorem run_4_2 : ∀ r ∈ RL, ∀ b ∈ BL, ∀ c ∈ CL, ∀ x0 x1 : OD, X_rest (S19 x0 x1 (some (.int (.ofNat 4))) (some r) (some (.int (.ofNat 2))) (some b) (some c) none none none none none none none none none none none none) = some (.ret (.bool true)) :=
  fun r hr b hb c hc x0 x1 => run (s3_4_2) (s5_4_2) (by kernel_rfl) (s10_4_2) (pr_4_2 r hr) (pbc_4_2 b hb c hc) x0 x1
theorem rest_ok : ∀ m ∈ ML, ∀ a ∈ BL, ∀ r ∈ RL, ∀ b ∈ BL, ∀ c ∈ CL, ∀ x0 x1 : OD, X_rest (S19 x0 x1 (some m) (some r) (some a) (some b) (some c) none none none none none none none none none none none none) = some (.ret (.bool true)) :=
  (fa (fa run_2_0 (fa run_2_1 (fa run_2_2 fz))) (fa (fa run_3_0 (fa run_3_1 (fa run_3_2 fz))) (fa (fa run_4_0 (fa run_4_1 (fa run_4_2 fz))) fz)))
end Mine

namespace Mine
open PySem PySem.W PySem.Spec PySem.Calls PyProof.Rows

noncomputable def pool (xs : List Int) (k : Nat) : PyData := .list [.list (xs.map .int), .int (.ofNat k)]

theorem ilt_nat (a b : Nat) : ilt (Int.ofNat a) (Int.ofNat b) = decide (a < b) := by
  rw [ilt_is]
  exact decide_eq_decide.mpr (by show ((a : Int) < (b : Int)) ↔ _; omega)
theorem fmod_lt {x : Int} {m : Nat} (h : 0 < m) : ∃ r : Nat, r < m ∧ Int.fmod x (Int.ofNat m) = Int.ofNat r := by
  have e : Int.fmod x (m : Int) = x % (m : Int) := Int.fmod_eq_emod_of_nonneg _ (by omega)
  have h0 : (0 : Int) ≤ Int.fmod x (m : Int) := by rw [e]; exact Int.emod_nonneg _ (by omega)
  have h1 : Int.fmod x (m : Int) < (m : Int) := by rw [e]; exact Int.emod_lt_of_pos _ (by omega)
  refine ⟨(Int.fmod x (m : Int)).toNat, by omega, ?_⟩
  show Int.fmod x (m : Int) = ((Int.fmod x (m : Int)).toNat : Int)
  omega
theorem oMod {x : Int} {m : Nat} (h : 0 < m) : oInt .Mod x (Int.ofNat m) = some (Int.fmod x (Int.ofNat m)) := by
  have : nz (Int.ofNat m) = true := nz_iff.mpr (by show (m : Int) ≠ 0; omega)
  show (bif nz (Int.ofNat m) then some (Int.fmod x (Int.ofNat m)) else none) = _
  rw [this]; rfl

theorem drest_is (xs : List Int) (hx : xs.length ≤ 6) (k m : Nat) (hk : k ≤ 5) (hm : 0 < m) : ∃ r : Nat, r < m ∧ X_drest [some (pool xs (k + 1)), some (.int (.ofNat m)), some (.int (.ofNat k))] = some (.ret (.int (.ofNat r))) := by
  by_cases h : k < xs.length
  · obtain ⟨r, hr, e⟩ := fmod_lt (x := iabs xs[k]) hm
    refine ⟨r, hr, ?_⟩
    have hl : cmpD .Lt (.int (.ofNat k)) (.int (.ofNat (xs.map PyData.int).length)) = some true := by
      show some (ilt (Int.ofNat k) (Int.ofNat (xs.map PyData.int).length)) = _
      rw [ilt_nat, List.length_map, decide_eq_true h]
    have hn : idxD (.list (xs.map .int)) (.int (.ofNat k)) = some (.int xs[k]) := by
      show (bif szOk k then nth (xs.map PyData.int) k else none) = _
      have : szOk k = true := Nat.ble_eq.mpr (by omega)
      rw [this, nth_is]
      simp [h]
    have h0 : idxD (pool xs (k + 1)) (.int 0) = some (.list (xs.map .int)) := rfl
    have h1 : lenD (.list (xs.map .int)) = some (.int (.ofNat (xs.map PyData.int).length)) := by
      show (bif szOk (xs.map PyData.int).length then some (PyData.int (xs.map PyData.int).length) else none) = _
      have : szOk (xs.map PyData.int).length = true := Nat.ble_eq.mpr (by rw [List.length_map]; omega)
      rw [this]; rfl
    have h2 : binD .Mod (.int (iabs xs[k])) (.int (.ofNat m)) = some (.int (.ofNat r)) := by
      show (oInt .Mod (iabs xs[k]) (Int.ofNat m)).map PyData.int = _
      rw [oMod hm, e]; rfl
    have h3 : absD (.int xs[k]) = some (.int (iabs xs[k])) := rfl
    unfold X_drest
    simp only [seqO, iteD, bind2b, vg, o1, bind2, h0, h1, hl, retO, hn, h3, h2]
  · obtain ⟨r, hr, e⟩ := fmod_lt (x := (([1, 4, 1, 1, 0, 4] : List Int)[k]?).getD 0) hm
    refine ⟨r, hr, ?_⟩
    have hl : cmpD .Lt (.int (.ofNat k)) (.int (.ofNat (xs.map PyData.int).length)) = some false := by
      show some (ilt (Int.ofNat k) (Int.ofNat (xs.map PyData.int).length)) = _
      rw [ilt_nat, List.length_map, decide_eq_false h]
    have h0 : idxD (pool xs (k + 1)) (.int 0) = some (.list (xs.map .int)) := rfl
    have h1 : lenD (.list (xs.map .int)) = some (.int (.ofNat (xs.map PyData.int).length)) := by
      show (bif szOk (xs.map PyData.int).length then some (PyData.int (xs.map PyData.int).length) else none) = _
      have : szOk (xs.map PyData.int).length = true := Nat.ble_eq.mpr (by rw [List.length_map]; omega)
      rw [this]; rfl
    have h2 : ∃ j : Int, binD .Mod (.int (.ofNat k)) (.int 6) = some (.int j) ∧ idxD (.tuple [.int 1, .int 4, .int 1, .int 1, .int 0, .int 4]) (.int j) = some (.int ((([1, 4, 1, 1, 0, 4] : List Int)[k]?).getD 0)) := by
      match k, hk with
      | 0, _ => exact ⟨_, rfl, rfl⟩
      | 1, _ => exact ⟨_, rfl, rfl⟩
      | 2, _ => exact ⟨_, rfl, rfl⟩
      | 3, _ => exact ⟨_, rfl, rfl⟩
      | 4, _ => exact ⟨_, rfl, rfl⟩
      | 5, _ => exact ⟨_, rfl, rfl⟩
    obtain ⟨j, h2, h4⟩ := h2
    have h3 : binD .Mod (.int ((([1, 4, 1, 1, 0, 4] : List Int)[k]?).getD 0)) (.int (.ofNat m)) = some (.int (.ofNat r)) := by
      show (oInt .Mod _ (Int.ofNat m)).map PyData.int = _
      rw [oMod hm, e]; rfl
    have h5 : tupD [.int 1, .int 4, .int 1, .int 1, .int 0, .int 4] = some (.tuple [.int 1, .int 4, .int 1, .int 1, .int 0, .int 4]) := rfl
    unfold X_drest
    simp only [seqO, iteD, bind2b, vg, o1, bind2, h0, h1, hl, retO, consD, h5, h2, h4, h3]

theorem draw_is (xs : List Int) (hx : xs.length ≤ 6) (k m : Nat) (hk : k ≤ 5) (hm : 0 < m) : ∃ r : Nat, r < m ∧ ∀ x0 x2 x3 x4 x5 x6 x7 x8 x9 x10 x11 x12 x13 x14 x15 x16 x17 x18 : OD,
    drawD 1 (.ofNat m) X_drest (S19 x0 (some (pool xs k)) x2 x3 x4 x5 x6 x7 x8 x9 x10 x11 x12 x13 x14 x15 x16 x17 x18) = some (.int (.ofNat r), S19 x0 (some (pool xs (k + 1))) x2 x3 x4 x5 x6 x7 x8 x9 x10 x11 x12 x13 x14 x15 x16 x17 x18) := by
  obtain ⟨r, hr, e⟩ := drest_is xs hx k m hk hm
  refine ⟨r, hr, fun x0 x2 x3 x4 x5 x6 x7 x8 x9 x10 x11 x12 x13 x14 x15 x16 x17 x18 => ?_⟩
  show (match X_drest [some (pool xs (k + 1)), some (.int (.ofNat m)), some (.int (.ofNat k))] with
    | some (.ret (.int r)) => some (PyData.int r, vput (S19 x0 (some (pool xs k)) x2 x3 x4 x5 x6 x7 x8 x9 x10 x11 x12 x13 x14 x15 x16 x17 x18) 1 (pool xs (k + 1)))
    | _ => none) = _
  rw [e]
  rfl

theorem rats : ∀ p, p < 7 → ∀ q, q < 2 → ∃ R ∈ RL, F_rat [.int (.ofNat p - 3), .int (1 + .ofNat q)] = some R
  | 0, _, 0, _ => ⟨Rr0, .head _, by kernel_rfl⟩
  | 1, _, 0, _ => ⟨Rr1, .tail _ (.head _), by kernel_rfl⟩
  | 2, _, 0, _ => ⟨Rr2, .tail _ (.tail _ (.head _)), by kernel_rfl⟩
  | 3, _, 0, _ => ⟨Rr3, .tail _ (.tail _ (.tail _ (.head _))), by kernel_rfl⟩
  | 4, _, 0, _ => ⟨Rr4, .tail _ (.tail _ (.tail _ (.tail _ (.head _)))), by kernel_rfl⟩
  | 5, _, 0, _ => ⟨Rr5, .tail _ (.tail _ (.tail _ (.tail _ (.tail _ (.head _))))), by kernel_rfl⟩
  | 6, _, 0, _ => ⟨Rr6, .tail _ (.tail _ (.tail _ (.tail _ (.tail _ (.tail _ (.head _)))))), by kernel_rfl⟩
  | 0, _, 1, _ => ⟨Rr7, .tail _ (.tail _ (.tail _ (.tail _ (.tail _ (.tail _ (.tail _ (.head _))))))), by kernel_rfl⟩
  | 1, _, 1, _ => ⟨Rr2, .tail _ (.tail _ (.head _)), by kernel_rfl⟩
  | 2, _, 1, _ => ⟨Rr8, .tail _ (.tail _ (.tail _ (.tail _ (.tail _ (.tail _ (.tail _ (.tail _ (.head _)))))))), by kernel_rfl⟩
  | 3, _, 1, _ => ⟨Rr3, .tail _ (.tail _ (.tail _ (.head _))), by kernel_rfl⟩
  | 4, _, 1, _ => ⟨Rr9, .tail _ (.tail _ (.tail _ (.tail _ (.tail _ (.tail _ (.tail _ (.tail _ (.tail _ (.head _))))))))), by kernel_rfl⟩
  | 5, _, 1, _ => ⟨Rr4, .tail _ (.tail _ (.tail _ (.tail _ (.head _)))), by kernel_rfl⟩
  | 6, _, 1, _ => ⟨Rr10, .tail _ (.tail _ (.tail _ (.tail _ (.tail _ (.tail _ (.tail _ (.tail _ (.tail _ (.tail _ (.head _)))))))))), by kernel_rfl⟩
  | n + 7, h, _, _ => by omega
  | _, _, n + 2, h => by omega

theorem o1_eq {α β : Type} {f : Sto → Option α} {k : α → Option β} {ρ : Sto} {a : α} (h : f ρ = some a) : o1 f k ρ = k a := by
  unfold o1; rw [h]
theorem mapF_int : ∀ xs : List Int, mapF (fun _ => some true) intD (xs.map .int) = some (xs.map .int)
  | [] => rfl
  | x :: xs => by
    show (match mapF (fun _ => some true) intD (xs.map .int) with | some rs => some (PyData.int x :: rs) | none => none) = _
    rw [mapF_int xs]; rfl
theorem law0 (ns : List Int) (h : ns.length ≤ 63) : ∃ xs : List Int, xs.length ≤ 6 ∧ X_law_0 (S19 (some (.list (ns.map .int))) none none none none none none none none none none none none none none none none none none) = nxt (S19 (some (.list (ns.map .int))) (some (pool xs 0)) none none none none none none none none none none none none none none none none none) := by
  refine ⟨ns.take (min 6 ns.length), by rw [List.length_take]; omega, ?_⟩
  have hs : szOk (ns.map PyData.int).length = true := Nat.ble_eq.mpr (by rw [List.length_map]; omega)
  have hp : pick (ns.map PyData.int) none (some 6) = (ns.take (min 6 ns.length)).map PyData.int := by
    show ((ns.map PyData.int).drop 0).take (min 6 (ns.map PyData.int).length - 0) = _
    rw [List.length_map, List.drop_zero, Nat.sub_zero, List.map_take]
  unfold X_law_0 S19
  have e : sliceD (fun ρ => vg ρ 0) (fun _ => some none) (o1 (fun _ => some (.int 6)) asI) [some (.list (ns.map .int)), none, none, none, none, none, none, none, none, none, none, none, none, none, none, none, none, none, none] = some (.list ((ns.take (min 6 ns.length)).map PyData.int)) := by
    show (bif szOk (ns.map PyData.int).length then some (PyData.list (pick (ns.map PyData.int) none (some 6))) else none) = _
    rw [hs, hp]; rfl
  have e2 : compO (o1 (sliceD (fun ρ => vg ρ 0) (fun _ => some none) (o1 (fun _ => some (.int 6)) asI)) asL) [] (fun _ => some true) (o1 (fun ρ => vg ρ 0) intD) [some (.list (ns.map .int)), none, none, none, none, none, none, none, none, none, none, none, none, none, none, none, none, none, none] = some (.list ((ns.take (min 6 ns.length)).map PyData.int)) := by
    have e1 : o1 (sliceD (fun ρ => vg ρ 0) (fun _ => some none) (o1 (fun _ => some (.int 6)) asI)) asL [some (.list (ns.map .int)), none, none, none, none, none, none, none, none, none, none, none, none, none, none, none, none, none, none] = some ((ns.take (min 6 ns.length)).map PyData.int) := by
      rw [o1_eq e]
      have hz : szOk ((ns.take (min 6 ns.length)).map PyData.int).length = true := Nat.ble_eq.mpr (by rw [List.length_map, List.length_take]; omega)
      show (bif szOk ((ns.take (min 6 ns.length)).map PyData.int).length then some ((ns.take (min 6 ns.length)).map PyData.int) else none) = _
      rw [hz]; rfl
    unfold compO
    rw [e1]
    show (match mapF (fun _ => some true) intD ((ns.take (min 6 ns.length)).map PyData.int) with | some out => some (PyData.list out) | none => none) = _
    rw [mapF_int]
  have e3 : consD (compO (o1 (sliceD (fun ρ => vg ρ 0) (fun _ => some none) (o1 (fun _ => some (.int 6)) asI)) asL) [] (fun _ => some true) (o1 (fun ρ => vg ρ 0) intD)) (consD (fun _ => some (.int 0)) (fun _ => some [])) [some (.list (ns.map .int)), none, none, none, none, none, none, none, none, none, none, none, none, none, none, none, none, none, none] = some [.list ((ns.take (min 6 ns.length)).map PyData.int), .int 0] := by
    unfold consD
    rw [e2]
  unfold asgO
  rw [o1_eq e3]
  rfl

theorem law1 (xs : List Int) (hx : xs.length ≤ 6) (x0 : OD) : ∃ m ∈ ML, ∃ R ∈ RL, X_law_1 (S19 x0 (some (pool xs 0)) none none none none none none none none none none none none none none none none none) = nxt (S19 x0 (some (pool xs 3)) (some m) (some R) none none none none none none none none none none none none none none none) := by
  obtain ⟨r1, l1, e1⟩ := draw_is xs hx 0 3 (by decide) (by decide)
  obtain ⟨r2, l2, e2⟩ := draw_is xs hx 1 7 (by decide) (by decide)
  obtain ⟨r3, l3, e3⟩ := draw_is xs hx 2 2 (by decide) (by decide)
  obtain ⟨R, hR, eR⟩ := rats r2 l2 r3 l3
  refine ⟨.int (2 + .ofNat r1), ?_, R, hR, ?_⟩
  · match r1, l1 with
    | 0, _ => exact .head _
    | 1, _ => exact .tail _ (.head _)
    | 2, _ => exact .tail _ (.tail _ (.head _))
  · have f1 : ∀ ρ : Sto, ρ = S19 x0 (some (pool xs 0)) none none none none none none none none none none none none none none none none none → drawD 1 3 X_drest ρ = some (.int (.ofNat r1), S19 x0 (some (pool xs 1)) none none none none none none none none none none none none none none none none none) := fun ρ h => by subst h; exact e1 ..
    have f2 : drawD 1 7 X_drest (S19 x0 (some (pool xs 1)) none none none none none none none none none none none none none none none none none) = some (.int (.ofNat r2), S19 x0 (some (pool xs 2)) none none none none none none none none none none none none none none none none none) := e2 ..
    have f3 : drawD 1 2 X_drest (S19 x0 (some (pool xs 2)) none none none none none none none none none none none none none none none none none) = some (.int (.ofNat r3), S19 x0 (some (pool xs 3)) none none none none none none none none none none none none none none none none none) := e3 ..
    have f1 := f1 _ rfl
    have b1 : binD .Add (.int 2) (.int (.ofNat r1)) = some (.int (2 + .ofNat r1)) := rfl
    have b2 : binD .Sub (.int (.ofNat r2)) (.int 3) = some (.int (.ofNat r2 - 3)) := rfl
    have b3 : binD .Add (.int 1) (.int (.ofNat r3)) = some (.int (1 + .ofNat r3)) := rfl
    have t : tupD [.int (2 + .ofNat r1), R] = some (.tuple [.int (2 + .ofNat r1), R]) := rfl
    unfold X_law_1
    simp only [unpDO, oDD, consDD, binDD, pureD, f1, f2, f3, b1, b2, b3, eR, t]
    rfl

theorem law2 (xs : List Int) (hx : xs.length ≤ 6) (x0 x2 x3 : OD) : ∃ a ∈ BL, ∃ b ∈ BL, ∃ c ∈ CL, X_law_2 (S19 x0 (some (pool xs 3)) x2 x3 none none none none none none none none none none none none none none none) = nxt (S19 x0 (some (pool xs 6)) x2 x3 (some a) (some b) (some c) none none none none none none none none none none none none) := by
  obtain ⟨r1, l1, e1⟩ := draw_is xs hx 3 3 (by decide) (by decide)
  obtain ⟨r2, l2, e2⟩ := draw_is xs hx 4 3 (by decide) (by decide)
  obtain ⟨r3, l3, e3⟩ := draw_is xs hx 5 5 (by decide) (by decide)
  have in3 : ∀ r < 3, PyData.int (.ofNat r) ∈ BL := fun r h => by
    match r, h with
    | 0, _ => exact .head _
    | 1, _ => exact .tail _ (.head _)
    | 2, _ => exact .tail _ (.tail _ (.head _))
  refine ⟨.int (.ofNat r1), in3 _ l1, .int (.ofNat r2), in3 _ l2, .tuple [.int (.ofNat r3 - 2), .int 1], ?_, ?_⟩
  · match r3, l3 with
    | 0, _ => exact .head _
    | 1, _ => exact .tail _ (.head _)
    | 2, _ => exact .tail _ (.tail _ (.head _))
    | 3, _ => exact .tail _ (.tail _ (.tail _ (.head _)))
    | 4, _ => exact .tail _ (.tail _ (.tail _ (.tail _ (.head _))))
  · have f1 : drawD 1 3 X_drest (S19 x0 (some (pool xs 3)) x2 x3 none none none none none none none none none none none none none none none) = some (.int (.ofNat r1), S19 x0 (some (pool xs 4)) x2 x3 none none none none none none none none none none none none none none none) := e1 ..
    have f2 : drawD 1 3 X_drest (S19 x0 (some (pool xs 4)) x2 x3 none none none none none none none none none none none none none none none) = some (.int (.ofNat r2), S19 x0 (some (pool xs 5)) x2 x3 none none none none none none none none none none none none none none none) := e2 ..
    have f3 : drawD 1 5 X_drest (S19 x0 (some (pool xs 5)) x2 x3 none none none none none none none none none none none none none none none) = some (.int (.ofNat r3), S19 x0 (some (pool xs 6)) x2 x3 none none none none none none none none none none none none none none none) := e3 ..
    have b3 : binD .Sub (.int (.ofNat r3)) (.int 2) = some (.int (.ofNat r3 - 2)) := rfl
    have t : tupD [.int (.ofNat r3 - 2), .int 1] = some (.tuple [.int (.ofNat r3 - 2), .int 1]) := rfl
    have t2 : tupD [.int (.ofNat r1), .int (.ofNat r2), .tuple [.int (.ofNat r3 - 2), .int 1]] = some (.tuple [.int (.ofNat r1), .int (.ofNat r2), .tuple [.int (.ofNat r3 - 2), .int 1]]) := rfl
    unfold X_law_2
    simp only [unpDO, oDD, consDD, binDD, pureD, f1, f2, f3, b3, t, t2]
    rfl

theorem law_ok (ns : List Int) (h : ns.length ≤ 63) : X_law (S19 (some (.list (ns.map .int))) none none none none none none none none none none none none none none none none none none) = some (.ret (.bool true)) := by
  obtain ⟨xs, hx, e0⟩ := law0 ns h
  obtain ⟨m, hm, R, hR, e1⟩ := law1 xs hx (some (.list (ns.map .int)))
  obtain ⟨a, ha, b, hb, c, hc, e2⟩ := law2 xs hx (some (.list (ns.map .int))) (some m) (some R)
  rw [X_law_is, seqO_next e0, seqO_next e1, seqO_next e2]
  exact rest_ok m hm a ha R hR b hb c hc _ _
end Mine

set_option maxHeartbeats 0
namespace Mine
open PySem PySem.W PySem.Spec PySem.Calls PyProof.Rows

theorem well_ints {P : Params} {h : Heap} {N : Addr → Prop} : ∀ (ns : List Int) (vs : List Value), WellAll P h vs (ofPys (ns.map PyData.int)) → EncL N h vs (ns.map PyData.int)
  | [], vs, w => by
    cases w
    exact .nil
  | n :: ns, vs, w => by
    cases w with
    | cons a r =>
      cases a
      exact .cons (.int _ _) (well_ints ns _ r)
theorem well_list {P : Params} {h : Heap} {v : Value} {ns : List Int} (w : Well P h v (ofPy (PyData.list (ns.map PyData.int)))) : Enc (fun _ => False) h v (.list (ns.map .int)) := by
  cases w with
  | list e r => exact .list id e (well_ints ns _ r)

theorem enc_k {h : Heap} {a : Addr} {i j : Int} {t u : Tok} {n : Nat} (e : h.get? a = some (tupO [.int i t, .int j u] n)) (N : Addr → Prop) : Enc N h (.ref a) (.tuple [.int i, .int j]) := .tuple e (.cons (.int _ _) (.cons (.int _ _) .nil))

theorem blt_top {w : World} {mean : ExcName → Option Value} {mg mb : Str → Option Value} {h : Heap} {x : Str} {v : Value} (T : Top viewQ (looseW viewQ []) mean mg mb h) (e1 : (startupNames.contains x || (looseW viewQ []).contains x || ((recsOf viewQ).map (·.name)).contains x || ((litsOf viewQ).map (·.1)).contains x || ((clssOf viewQ (looseW viewQ [])).map (·.name)).contains x) = false) (hn : x ≠ "__name__") (e2 : bootBuiltins x = some v) : mg x = none ∧ mb x = some v := by
  simp only [Bool.or_eq_false_iff] at e1
  obtain ⟨⟨⟨⟨a1, a2⟩, a3⟩, a4⟩, a5⟩ := e1
  have no : ∀ {l : List Str}, l.contains x = false → x ∉ l := fun h q => by rw [List.contains_iff_mem.mpr q] at h; cases h
  exact ⟨T.free x (no a1) (no a2) (no a3) (no a4) (no a5), (T.builtins x hn).trans e2⟩
theorem g0_top {w : World} {mean : ExcName → Option Value} {mg mb : Str → Option Value} {h : Heap} (T : Top viewQ (looseW viewQ []) mean mg mb h) (Y : RSays h) : G0 ⟨PySem.Challenge.rw_xm0105_01.row.toRowW.prog, w, mg, mb⟩ h where
  g := T.g
  b := T.b
  nolimit := T.nolimit
  fn := fun d hm => T.fn d (by rw [recs_view]; exact hm)
  blt := List.forall_mem_cons.mpr ⟨blt_top (w := w) T (by kernel_rfl) (by decide) (by kernel_rfl), List.forall_mem_cons.mpr ⟨blt_top (w := w) T (by kernel_rfl) (by decide) (by kernel_rfl), List.forall_mem_cons.mpr ⟨blt_top (w := w) T (by kernel_rfl) (by decide) (by kernel_rfl),
    List.forall_mem_cons.mpr ⟨blt_top (w := w) T (by kernel_rfl) (by decide) (by kernel_rfl), List.forall_mem_cons.mpr ⟨blt_top (w := w) T (by kernel_rfl) (by decide) (by kernel_rfl), List.forall_mem_cons.mpr ⟨blt_top (w := w) T (by kernel_rfl) (by decide) (by kernel_rfl),
    List.forall_mem_cons.mpr ⟨blt_top (w := w) T (by kernel_rfl) (by decide) (by kernel_rfl), List.forall_mem_cons.mpr ⟨blt_top (w := w) T (by kernel_rfl) (by decide) (by kernel_rfl), List.forall_mem_cons.mpr ⟨blt_top (w := w) T (by kernel_rfl) (by decide) (by kernel_rfl),
    List.forall_mem_cons.mpr ⟨blt_top (w := w) T (by kernel_rfl) (by decide) (by kernel_rfl), List.forall_mem_cons.mpr ⟨blt_top (w := w) T (by kernel_rfl) (by decide) (by kernel_rfl), fun _ h => nomatch h⟩⟩⟩⟩⟩⟩⟩⟩⟩⟩⟩
  r0 := by
    obtain ⟨⟨mg', x1, x2, x3⟩, x4, x5⟩ := Y
    obtain rfl := Heap.Ns.uniq T.g x1
    exact ⟨_, x2, fun N => enc_k (n := 0) x4 N⟩
  r1 := by
    obtain ⟨⟨mg', x1, x2, x3⟩, x4, x5⟩ := Y
    obtain rfl := Heap.Ns.uniq T.g x1
    exact ⟨_, x3, fun N => enc_k (n := 0) x5 N⟩
theorem run_good {w : World} {s₀ s₁ : Shared} {mean : ExcName → Option Value} {mg mb : Str → Option Value} {fa : Addr} {v : Value} {ns : List Int} {P : Params} (T : Top viewQ (looseW viewQ []) mean mg mb s₁.heap) (KX : RSays s₁.heap)
    (hm : mg "law" = some (.ref fa)) (wl : Well P s₁.heap v (ofPy (PyData.list (ns.map PyData.int)))) (hl : ¬ ((63 : Nat) : Int) < (ns.length : Int)) (hg : s₁.gens = #[]) :
    wpAny (model PySem.Challenge.rw_xm0105_01.row.toRowW.prog w) callerA (call (.ref fa) [v]) (fun v s' => GoodWG PySem.Challenge.rw_xm0105_01.row.toRowW.claim (classAt s₀.heap) (ExcName.means s₀.heap) [ofPy (PyData.list (ns.map PyData.int))] s₁ (.ok (.ret v)) s')
      (fun e s' => GoodWG PySem.Challenge.rw_xm0105_01.row.toRowW.claim (classAt s₀.heap) (ExcName.means s₀.heap) [ofPy (PyData.list (ns.map PyData.int))] s₁ (.error e) s') s₁ := by
  refine (law_fn ⟨PySem.Challenge.rw_xm0105_01.row.toRowW.prog, w, mg, mb⟩).2 callerA (fun _ => False) [v] [.list (ns.map .int)] (.bool true) fa s₁ _ _ ⟨rfl, by decide, by decide⟩ (g0_top T KX) (fun _ h => h.elim) hm (.cons (well_list wl) .nil) ?_ (fun v h' tk kk e => ?_)
  · show outD (X_law (S19 (some (.list (ns.map .int))) none none none none none none none none none none none none none none none none none none)) = _
    rw [law_ok ns (by omega)]; rfl
  · cases e
    exact GoodW.toG ⟨.inl ⟨_, .bool true, [], rfl, fun _ => rfl, .bool true, by wrow_post, fun _ => ⟨.nil, fun _ h => nomatch h⟩⟩, kk, rfl, hg⟩

theorem lawHead (left : LeftO PySem.Challenge.rw_xm0105_01.row.prog viewQ [] (fun s => xlAt viewQ [] s && recOk (RowW.records (OpenRow.toRowW PySem.Challenge.rw_xm0105_01.row)) s) rHook.obs rHook.val 4866) : PySem.Challenge.rw_xm0105_01.Holds := by
  w_on
  refine holds_law k_said fun said => ?_
  refine holds_open (q := viewQ) (loose := []) (Xt := fun s => xlAt viewQ [] s && recOk (RowW.records (OpenRow.toRowW PySem.Challenge.rw_xm0105_01.row)) s) (XP := XL viewQ []) (Yf := Hook.obs rHook) (Ya := Hook.val rHook) (YP := Hook.says rHook) (N := 4866) left (Hook.of rHook) (Hook.keeps rHook) (fun s e => xl_of s (Bool.and_eq_true_iff.mp e).1) XL.keeps (by rfl) (by rfl) (by rfl) (fun s e => recFacts_of (Bool.and_eq_true_iff.mp e).2) (by rfl) said (look_both k_chain (look_both k_opens (look_both k_frees k_within))) k_bare k_prom ?hc
  case hc =>
    intro w s₀ s₁ mg mb G Y fa o pm cd doc dV kV ho hd' hcd hD hmg hg args vals as hpre hlay hrd hwl hlo
    refine Ground.open G ?_
    intro T B D TE TW
    wrow_args hpre hlay hrd hwl hlo
    rename Well _ _ _ _ => w9
    rename ¬ _ => c9
    exact run_good T Y hmg w9 c9 hg

end Mine


open PySem PySem.W PySem.Spec PySem.Calls PyProof.Rows
theorem PySem.Challenge.cw_xm0105_01_holds : PySem.Challenge.rw_xm0105_01.Holds :=
  Mine.lawHead Mine.leftQ

