import PyProof.Rows.All
import Wide.All
import OpenK.AllK
import Wide.FinOn
import PyProof.EnumMake
import PyProof.WalkInts
import PyProof.Rows.TupTab
import KE.KDictOf
import KE.KEqDict
import PyProof.Rows.TupDisplay
import PyProof.Rows.Lst
import PyProof.ListMulRoad
import Lean
import PySem.Challenge.RW_nn0270_01
set_option Elab.async false
set_option maxRecDepth 100000
set_option compiler.extract_closed false
set_option linter.all false
set_option linter.unusedVariables false
set_option linter.unusedSimpArgs false
set_option linter.deprecated false

section
open PySem PySem.W PyProof.Rows
set_option Elab.async false
set_option maxRecDepth 100000
set_option maxHeartbeats 8000000
namespace Mine
theorem left_of_boot {p q : Program} {loose : List Str} {Xt : Shared → Bool} {α : Type} {Yf : Shared → α} {Ya : World → α} {N : Nat}
    (e : opening p = plainProg p.main.scope.names) (hN : Nat.ble 600 N = true) (f : ∀ s, fenceModules? p s = some s)
    (h : ∀ w : World, (fun os => (topFrom treeTable p w N ⟨boot_heap w.params, Array.mk [], boot_drawn, boot_toks, os⟩).map fun s => (openSeen q loose (importedModules p.main.body) Xt true s, Yf s)) = fun _ => some (openGood q loose, Ya w)) :
    LeftO p q loose Xt Yf Ya N := fun w => by
  obtain ⟨s, hs, hv⟩ := Option.map_eq_some_iff.mp (boot_open (N := N) e hN f w)
  obtain ⟨h1, g1, d1, k1, os⟩ := s
  simp only [Prod.mk.injEq] at hv
  obtain ⟨rfl, rfl, rfl, rfl⟩ := hv
  unfold openEnds
  rw [hs]
  exact congrFun (h w) os
theorem quick_h {p q : Program} {loose : List Str} {Xt : Shared → Bool} {α : Type} {Yf : Shared → α} {Ya : World → α} {N : Nat} {w : World}
    (h : (fun os => match (boot_heap w.params).isNs mainGlobals with
      | true => (Fast.tw14082659384304107361 Fast.tw14364793385576792824 p w (boot_heap w.params).objs.size (Fast.tw8920871248978507458 (boot_heap w.params) mainGlobals "__annotations__") N ⟨boot_heap w.params, Array.mk [], boot_drawn, boot_toks, os⟩ (topStub p)).map fun s₁ =>
        ((staticsOk (importedModules p.main.body) (boot_heap w.params) s₁.heap && namesBound p s₁.heap && gensDone s₁ && laidKept (boot_heap w.params) s₁.heap), Fast.tw4187177175401517315 q loose (importedModules p.main.body) Xt true s₁, Yf s₁)
      | false => none) = fun _ => some (true, openGood q loose, Ya w)) :
    (fun os => (topFrom treeTable p w N ⟨boot_heap w.params, Array.mk [], boot_drawn, boot_toks, os⟩).map fun s => (openSeen q loose (importedModules p.main.body) Xt true s, Yf s)) = fun _ => some (openGood q loose, Ya w) := by
  funext os
  have h := congrFun h os
  rw [← Fast.te14082659384304107361, ← Fast.te14364793385576792824, ← Fast.te8920871248978507458, ← Fast.te4187177175401517315] at h
  unfold topFrom
  have hg : ((Array.mk ([] : List GenState)).size == 0) = true := rfl
  dsimp only
  rw [hg, Bool.and_true]
  generalize (boot_heap w.params).isNs mainGlobals = c at h ⊢
  cases c with
  | false => cases h
  | true =>
    dsimp only at h ⊢
    obtain ⟨s, hs, hv⟩ := Option.map_eq_some_iff.mp h
    rw [hs, Option.bind_some]
    simp only [Prod.mk.injEq] at hv
    obtain ⟨v1, v2, v3⟩ := hv
    rw [v1]
    dsimp only
    rw [Option.map_some, v2, v3]
noncomputable def vw : Program := view PySem.Challenge.pw_nn0270_01 [1, 3, 4, 5, 6, 7, 8, 9, 11, 13, 14, 15, 16, 17, 18, 19, 20, 21, 23, 24, 25, 26, 27, 28, 29, 30, 31, 32, 33, 34, 36, 37, 38, 39, 41, 42, 43, 44, 45, 47, 48, 50, 51, 52, 53, 54, 55]
theorem said_ok : PySem.Challenge.rw_nn0270_01.wellSaid = true := by
  rw [Fast.te9446332074065402090]
  kernel_rfl
local macro_rules | `(tactic| o_law) => `(tactic| refine holds_law said_ok fun said => ?_)
local macro_rules | `(tactic| o_head $H) => `(tactic| (
  refine PySem.W.holds_open (q := vw) (loose := []) (Xt := fun s => xlAt vw [] s && recOk (RowW.records PySem.Challenge.rw_nn0270_01.row.toRowW) s) (XP := XL vw []) (Yf := Hook.obs $H) (Ya := Hook.val $H) (YP := Hook.says $H) (N := 3426) ?hl (Hook.of $H) (Hook.keeps $H) (fun s e => xl_of s (Bool.and_eq_true_iff.mp e).1) XL.keeps (by rfl) (by rfl) (by rfl) (fun s e => recFacts_of (Bool.and_eq_true_iff.mp e).2) (by rfl) (by first | assumption | decide +kernel) (by decide +kernel) ⟨rfl, rfl, rfl, rfl, rfl, by decide +kernel⟩ ?hw ?hc;
  (case hl => exact left_of_boot (by kernel_rfl) (by kernel_rfl) (fun s => by kernel_rfl) (fun w => quick_h (by kernel_rfl)))))
open_top hd for PySem.Challenge.rw_nn0270_01
end Mine
end
section
set_option maxRecDepth 100000
namespace Mine
open PySem PySem.W PyProof.Rows PySem.Calls

noncomputable abbrev Mono := Int × Int
noncomputable abbrev Poly := List (Mono × Rat)
noncomputable abbrev Keep (h h' : Heap) : Prop := ∀ b o, h.get? b = some o → h'.get? b = some o
theorem Keep.refl (h : Heap) : Keep h h := fun _ _ e => e
theorem Keep.trans {a b c : Heap} (x : Keep a b) (y : Keep b c) : Keep a c := fun _ _ e => y _ _ (x _ _ e)

/-! ### heaps cut down -/
noncomputable def cut (h : Heap) (p : Nat → Bool) : Heap :=
  ⟨h.objs.mapIdx fun i o => if p i then o else { cls := .none, data := .freed }, h.life⟩
theorem cut_get (h : Heap) (p : Nat → Bool) (a : Addr) : (cut h p).get? a = if p a then h.get? a else none := by
  unfold cut Heap.get?
  simp only [Array.getElem?_mapIdx]
  cases hx : h.objs[a]? with
  | none => simp
  | some o =>
    simp only [Option.map_some]
    by_cases hp : p a = true
    · simp only [hp, if_true]
    · simp only [hp, if_false, Bool.false_eq_true]

theorem extend {b h : Heap} (bs : Keep b h) (N : Addr → Bool) :
    ∃ b', Keep b b' ∧ Keep b' h ∧ (∀ a, N a = true → b'.get? a = h.get? a) ∧ (∀ a, N a = false → b.get? a = none → b'.get? a = none) := by
  refine ⟨cut h (fun a => (b.get? a).isSome || N a), ?_, ?_, ?_, ?_⟩
  · intro a o e; rw [cut_get]; simp [e, bs a o e]
  · intro a o e; rw [cut_get] at e; split at e
    · exact e
    · cases e
  · intro a e; rw [cut_get]; simp [e]
  · intro a e e'; rw [cut_get]; simp [e, e']

/-! ### data -/
inductive D where
  | none
  | int (i : Int)
  | tup (l : List D)

mutual
noncomputable def Is (h : Heap) : D → Value → Prop
  | .none, v => v = .none
  | .int i, v => ∃ t, v = .int i t
  | .tup l, v => ∃ a vs, v = .ref a ∧ h.IsTuple a vs ∧ IsL h l vs.toList
noncomputable def IsL (h : Heap) : List D → List Value → Prop
  | [], vs => vs = []
  | d :: l, vs => ∃ v r, vs = v :: r ∧ Is h d v ∧ IsL h l r
end

theorem isTuple_keep {h h' : Heap} {a : Addr} {vs} (k : Keep h h') (x : h.IsTuple a vs) : h'.IsTuple a vs :=
  let ⟨o, ho, r⟩ := x; ⟨o, k _ _ ho, r⟩

mutual
theorem Is.keep {h h' : Heap} (k : Keep h h') : ∀ (d : D) (v : Value), Is h d v → Is h' d v
  | .none, _, x => by simpa [Is] using x
  | .int _, _, x => by simpa [Is] using x
  | .tup l, v, x => by
    unfold Is at x ⊢
    obtain ⟨a, vs, e, t, r⟩ := x
    exact ⟨a, vs, e, isTuple_keep k t, IsL.keep k l _ r⟩
theorem IsL.keep {h h' : Heap} (k : Keep h h') : ∀ (l : List D) (vs : List Value), IsL h l vs → IsL h' l vs
  | [], _, x => by simpa [IsL] using x
  | d :: l, vs, x => by
    unfold IsL at x ⊢
    obtain ⟨v, r, e, a, b⟩ := x
    exact ⟨v, r, e, Is.keep k d v a, IsL.keep k l r b⟩
end

noncomputable def dR (q : Rat) : D := .tup [.int q.num, .int (q.den : Int)]
noncomputable def dM (m : Mono) : D := .tup [.int m.1, .int m.2]
noncomputable def keyL (m : Mono) : List Int := [m.1, m.2]

/-! ### dicts from powers to rationals -/
section
variable (prog : Program) (w : World)
noncomputable def tk : HeapKind prog w (List Int) := tupleKind (intKind prog w)

noncomputable def Ents (h : Heap) : List (List Int × Addr × Value) → Poly → Prop
  | [], p => p = []
  | x :: xs, p => ∃ y q, p = y :: q ∧ x.1 = keyL y.1 ∧ Is h (dM y.1) (.ref x.2.1) ∧ Is h (dR y.2) x.2.2 ∧ Ents h xs q

theorem Ents.keep {h h' : Heap} (k : Keep h h') : ∀ (xs : List (List Int × Addr × Value)) (p : Poly), Ents h xs p → Ents h' xs p
  | [], _, x => x
  | _ :: xs, _, x => by
    obtain ⟨y, q, e, a, m, b, c⟩ := x
    exact ⟨y, q, e, a, Is.keep k _ _ m, Is.keep k _ _ b, Ents.keep k xs q c⟩

noncomputable def OPoly (h : Heap) (o : Obj) (p : Poly) : Prop :=
  ∃ es ep xs, o.ExactDict ∧ o.data = .dict es ep ∧ es.toList = xs.map (entryOfKey (tk prog w)) ∧ (∀ x ∈ xs, (tk prog w).is h x.1 x.2.1) ∧ (xs.map (·.1)).Nodup ∧ Ents h xs p
end

theorem tupKey_keep {prog : Program} {w : World} {h h' : Heap} (k : Keep h h') {x : List Int} {a : Addr} (e : (tk prog w).is h x a) : (tk prog w).is h' x a := by
  obtain ⟨o, items, n, ho, r⟩ := e
  exact ⟨o, items, n, k _ _ ho, r⟩
theorem OPoly.keep {prog : Program} {w : World} {h h' : Heap} (k : Keep h h') {o : Obj} {p : Poly} (x : OPoly prog w h o p) : OPoly prog w h' o p := by
  obtain ⟨es, ep, xs, a, b, c, d, e, f⟩ := x
  exact ⟨es, ep, xs, a, b, c, fun y hy => tupKey_keep k (d y hy), e, Ents.keep k _ _ f⟩

/-! ### assertions -/
inductive As where
  | is (v : Value) (d : D)
  | poly (v : Value) (p : Poly)
  | lst (v : Value) (vs : List Value)
  | polys (vs : List Value) (ps : List Poly)
  | iss (vs : List Value) (ds : List D)
  | tv (v : Value) (vs : List Value)

noncomputable def Polys (prog : Program) (w : World) (h : Heap) : List Value → List Poly → Prop
  | [], ps => ps = []
  | v :: vs, ps => ∃ p q, ps = p :: q ∧ (∃ d o, v = .ref d ∧ (d == sysModules) = false ∧ h.get? d = some o ∧ OPoly prog w h o p) ∧ Polys prog w h vs q
theorem Polys.keep {prog : Program} {w : World} {h h' : Heap} (k : Keep h h') : ∀ (vs : List Value) (ps : List Poly), Polys prog w h vs ps → Polys prog w h' vs ps
  | [], _, x => x
  | _ :: vs, _, x => by
    obtain ⟨p, q, e, ⟨d, o, a, g, b, c⟩, r⟩ := x
    exact ⟨p, q, e, ⟨d, o, a, g, k _ _ b, c.keep k⟩, Polys.keep k vs q r⟩

noncomputable def As.on (prog : Program) (w : World) (h : Heap) : As → Prop
  | .is v d => Is h d v
  | .poly v p => ∃ d o, v = .ref d ∧ (d == sysModules) = false ∧ h.get? d = some o ∧ OPoly prog w h o p
  | .lst v vs => ∃ a, v = .ref a ∧ h.PlainList a vs.toArray
  | .polys vs ps => Polys prog w h vs ps
  | .iss vs ds => IsL h ds vs
  | .tv v vs => ∃ a, v = .ref a ∧ h.IsTuple a vs.toArray
theorem As.keep {prog : Program} {w : World} {h h' : Heap} (k : Keep h h') : ∀ (p : As), p.on prog w h → p.on prog w h'
  | .is v d, x => Is.keep k d v x
  | .poly _ _, ⟨d, o, e, g, a, b⟩ => ⟨d, o, e, g, k _ _ a, b.keep k⟩
  | .lst _ _, ⟨a, e, n, ho⟩ => ⟨a, e, n, k _ _ ho⟩
  | .polys vs ps, x => Polys.keep k vs ps x
  | .iss vs ds, x => IsL.keep k ds vs x
  | .tv _ _, ⟨a, e, t⟩ => ⟨a, e, isTuple_keep k t⟩

inductive Ow where
  | dict (a : Addr) (p : Poly)
  | list (a : Addr) (vs : List Value)
  | gen (a : Addr) (R : Obj → Prop)
noncomputable def Ow.a : Ow → Addr
  | .dict a _ => a
  | .list a _ => a
  | .gen a _ => a
noncomputable def Ow.on (prog : Program) (w : World) (b h : Heap) : Ow → Prop
  | .dict a p => ∃ o, (a == sysModules) = false ∧ h.get? a = some o ∧ OPoly prog w b o p
  | .list a vs => h.PlainList a vs.toArray
  | .gen a R => ∃ o, h.get? a = some o ∧ R o
theorem Ow.mono {prog : Program} {w : World} {b b' h h' : Heap} {x : Ow} (kb : Keep b b') (kh : ∀ o, h.get? x.a = some o → h'.get? x.a = some o) (e : x.on prog w b h) : x.on prog w b' h' := by
  cases x with
  | dict a p => obtain ⟨o, g, e1, e2⟩ := e; exact ⟨o, g, kh o e1, e2.keep kb⟩
  | list a vs => obtain ⟨n, e1⟩ := e; exact ⟨n, kh _ e1⟩
  | gen a R => obtain ⟨o, e1, e2⟩ := e; exact ⟨o, kh o e1, e2⟩
theorem Ow.some {prog : Program} {w : World} {b h : Heap} {x : Ow} (e : x.on prog w b h) : ∃ o, h.get? x.a = some o := by
  cases x with
  | dict a p => obtain ⟨o, _, e1, _⟩ := e; exact ⟨o, e1⟩
  | list a vs => obtain ⟨n, e1⟩ := e; exact ⟨_, e1⟩
  | gen a R => obtain ⟨o, e1, _⟩ := e; exact ⟨o, e1⟩

/-! ### the text's own objects -/
structure Pg (w : World) (h : Heap) : Prop where
  K : (Mine.hd.heap_1 w.params).In h
  lim : h.NoLimit
  g : ∃ mg, h.Ns mainGlobals mg
  bi : ∃ mb, h.Ns builtinsNs mb ∧ ∀ x : Str, x ≠ "__name__" → mb x = bootBuiltins x
  seer : h.NoSeer
theorem Pg.keep {w : World} {h h' : Heap} (k : Keep h h') (x : Pg w h) : Pg w h' :=
  ⟨x.K.keeps k, x.lim.keeps k, x.g.imp fun _ e => e.keeps k, x.bi.imp fun _ e => ⟨e.1.keeps k, e.2⟩, x.seer.keeps k⟩

structure Room (A : Around) (n : Nat) : Prop where
  handled : A.handled = none
  depth : A.depth + n + 110 < recursionLimit
  units : A.units + 10 * n + 50 < cLine
  frames : ∃ l, A.frames = some l
theorem Room.deeper {A : Around} {n : Nat} (r : Room A (n + 1)) (env : Env) : Room (A.deeper env) n where
  handled := r.handled
  depth := by have := r.depth; show A.depth + 1 + n + 110 < _; lia
  units := by have := r.units; show A.units + 3 + 10 * n + 50 < _; lia
  frames := let ⟨l, e⟩ := r.frames; ⟨env :: l, by show A.frames.map (env :: ·) = _; rw [e]; rfl⟩
theorem Room.le {A : Around} {n k : Nat} (r : Room A n) (h : k ≤ n) : Room A k :=
  ⟨r.handled, by have := r.depth; lia, by have := r.units; lia, r.frames⟩
theorem Room.lim {A : Around} {n : Nat} (r : Room A n) : A.depth < recursionLimit := by have := r.depth; lia

/-! ### the state of a frame -/
structure StB (prog : Program) (w : World) (s₀ : Shared) (DD : List Addr) (b₀ : Heap) (env : Env) (cw : Bool) (m cm : Str → Option Value) (P : List As) (O : List Ow) (s : Shared) (b : Heap) : Prop where
  same : ∃ h' tk, s = { s₀ with heap := h', toks := tk }
  frame : ∀ a o, a ∉ DD → s₀.heap.get? a = some o → s.heap.get? a = some o
  bb : Keep b₀ b
  fresh : ∀ a, a < s₀.heap.objs.size → b₀.get? a = none → b.get? a = none
  bs : Keep b s.heap
  pg : Pg w b
  ns : s.heap.Ns env.locals m
  nsb : b.get? env.locals = none
  nsn : s₀.heap.objs.size ≤ env.locals
  cell : ∀ n c, env.cells.lookup n = some c → s.heap.IsCell c (cm n) ∧ b.get? c = none ∧ c ≠ env.locals ∧ (cw = true → s₀.heap.objs.size ≤ c)
  cap : ∀ n n' c, env.cells.lookup n = some c → env.cells.lookup n' = some c → n = n'
  own : ∀ x ∈ O, x.on prog w b s.heap ∧ b.get? x.a = none ∧ x.a ≠ env.locals ∧ (∀ n c, env.cells.lookup n = some c → x.a ≠ c) ∧ (x.a ∈ DD ∨ s₀.heap.objs.size ≤ x.a)
  oap : O.Pairwise (fun x y => x.a ≠ y.a)
  facts : ∀ p ∈ P, p.on prog w b

theorem StB.grow {prog : Program} {w : World} {s₀ : Shared} {DD : List Addr} {b₀ : Heap} {env : Env} {cw : Bool} {m cm : Str → Option Value} {P : List As} {O : List Ow} {s : Shared} {b : Heap}
    (S : StB prog w s₀ DD b₀ env cw m cm P O s b) : s₀.heap.objs.size ≤ s.heap.objs.size := Nat.le_trans S.nsn (Nat.le_of_lt S.ns.lt)

noncomputable def St (prog : Program) (w : World) (s₀ : Shared) (DD : List Addr) (b₀ : Heap) (env : Env) (cw : Bool) (m cm : Str → Option Value) (P : List As) (O : List Ow) (s : Shared) : Prop :=
  ∃ b, StB prog w s₀ DD b₀ env cw m cm P O s b

noncomputable def upd (m : Str → Option Value) (x : Str) (v : Value) : Str → Option Value := fun y => if y = x then some v else m y

inductive Rep (x y : Ow) : List Ow → List Ow → Prop where
  | head {r} : Rep x y (x :: r) (y :: r)
  | tail {z r r'} : Rep x y r r' → Rep x y (z :: r) (z :: r')
theorem Rep.mem {x y : Ow} : ∀ {l l' : List Ow}, Rep x y l l' → x ∈ l
  | _, _, .head => .head _
  | _, _, .tail r => .tail _ r.mem
theorem Rep.pw {x y : Ow} (e : x.a = y.a) : ∀ {l l' : List Ow}, Rep x y l l' → l.Pairwise (fun x y => x.a ≠ y.a) → l'.Pairwise (fun x y => x.a ≠ y.a)
  | _, _, .head, h => by
    obtain ⟨h1, h2⟩ := List.pairwise_cons.mp h
    exact List.pairwise_cons.mpr ⟨fun z hz => e ▸ h1 z hz, h2⟩
  | _, _, .tail r, h => by
    obtain ⟨h1, h2⟩ := List.pairwise_cons.mp h
    refine List.pairwise_cons.mpr ⟨fun z hz => ?_, r.pw e h2⟩
    have key : ∀ {l l' : List Ow}, Rep x y l l' → ∀ z ∈ l', z = y ∨ z ∈ l := by
      intro l l' r
      induction r with
      | head => intro z hz; rcases List.mem_cons.mp hz with h | h; exact .inl h; exact .inr (.tail _ h)
      | tail r ih => intro z hz; rcases List.mem_cons.mp hz with h | h; exact .inr (h ▸ .head _); exact (ih z h).imp id (.tail _)
    rcases key r z hz with rfl | hz
    · exact e ▸ h1 x r.mem
    · exact h1 z hz
theorem Rep.cases {x y : Ow} : ∀ {l l' : List Ow}, Rep x y l l' → l.Pairwise (fun x y => x.a ≠ y.a) → ∀ z ∈ l', z = y ∨ (z ∈ l ∧ z.a ≠ x.a)
  | _, _, .head, h, z, hz => by
    rcases List.mem_cons.mp hz with rfl | hz
    · exact .inl rfl
    · exact .inr ⟨.tail _ hz, ((List.pairwise_cons.mp h).1 z hz).symm⟩
  | _, _, .tail r, h, z, hz => by
    rcases List.mem_cons.mp hz with rfl | hz
    · exact .inr ⟨.head _, (List.pairwise_cons.mp h).1 _ r.mem⟩
    · exact (r.cases (List.pairwise_cons.mp h).2 z hz).imp id fun ⟨a, b⟩ => ⟨.tail _ a, b⟩
end Mine
end
section
set_option maxRecDepth 100000
namespace Mine
open PySem PySem.W PyProof.Rows PySem.Calls

section
variable {prog : Program} {w : World} {s₀ s : Shared} {DD : List Addr} {b₀ b : Heap} {env : Env} {cw : Bool} {m cm : Str → Option Value} {P : List As} {O : List Ow}

theorem get_none_of_size {h : Heap} {a : Addr} (e : h.objs.size ≤ a) : h.get? a = none := by
  cases x : h.get? a with
  | none => rfl
  | some o => exact absurd (Heap.lt_size x) (Nat.not_lt.mpr e)
theorem none_of_keep {h h' : Heap} {a : Addr} (k : Keep h h') (e : h'.get? a = none) : h.get? a = none := by
  cases x : h.get? a with
  | none => rfl
  | some o => rw [k _ _ x] at e; cases e

/-- only new objects -/
theorem StB.kept (S : StB prog w s₀ DD b₀ env cw m cm P O s b) {h' : Heap} {tk : Nat} (k : Keep s.heap h') :
    StB prog w s₀ DD b₀ env cw m cm P O { s with heap := h', toks := tk } b where
  same := by obtain ⟨h, t, rfl⟩ := S.same; exact ⟨h', tk, rfl⟩
  frame := fun a o hd e => k _ _ (S.frame a o hd e)
  bb := S.bb
  fresh := S.fresh
  bs := S.bs.trans k
  pg := S.pg
  ns := S.ns.keeps k
  nsb := S.nsb
  nsn := S.nsn
  cell := fun n c e => ⟨(S.cell n c e).1.keeps k, (S.cell n c e).2⟩
  cap := S.cap
  own := fun x hx => ⟨Ow.mono (Keep.refl b) (fun o e => k _ _ e) (S.own x hx).1, (S.own x hx).2⟩
  oap := S.oap
  facts := S.facts

/-- the base grows by new places of the heap -/
theorem StB.grown (S : StB prog w s₀ DD b₀ env cw m cm P O s b) {b' : Heap} (k : Keep b b') (ks : Keep b' s.heap)
    (hn : ∀ a, b.get? a = none → b'.get? a ≠ none → s₀.heap.objs.size ≤ a ∧ a ≠ env.locals ∧ (∀ n c, env.cells.lookup n = some c → a ≠ c) ∧ ∀ x ∈ O, a ≠ x.a) :
    StB prog w s₀ DD b₀ env cw m cm P O s b' where
  same := S.same
  frame := S.frame
  bb := S.bb.trans k
  fresh := fun a ha e => by
    cases x : b'.get? a with
    | none => rfl
    | some o => exact absurd (hn a (S.fresh a ha e) (by simp [x])).1 (Nat.not_le.mpr ha)
  bs := ks
  pg := S.pg.keep k
  ns := S.ns
  nsb := by
    cases x : b'.get? env.locals with
    | none => rfl
    | some o => exact absurd rfl (hn _ S.nsb (by simp [x])).2.1
  nsn := S.nsn
  cell := fun n c e => by
    refine ⟨(S.cell n c e).1, ?_, (S.cell n c e).2.2⟩
    cases x : b'.get? c with
    | none => rfl
    | some o => exact absurd rfl ((hn _ (S.cell n c e).2.1 (by simp [x])).2.2.1 n c e)
  cap := S.cap
  own := fun x hx => by
    refine ⟨Ow.mono k (fun o e => e) (S.own x hx).1, ?_, (S.own x hx).2.2⟩
    cases y : b'.get? x.a with
    | none => rfl
    | some o => exact absurd rfl ((hn _ (S.own x hx).2.1 (by simp [y])).2.2.2 x hx)
  oap := S.oap
  facts := fun p hp => As.keep k p (S.facts p hp)

theorem St.kept (S : St prog w s₀ DD b₀ env cw m cm P O s) {h' : Heap} {tk : Nat} (k : Keep s.heap h') :
    St prog w s₀ DD b₀ env cw m cm P O { s with heap := h', toks := tk } := let ⟨b, B⟩ := S; ⟨b, B.kept k⟩
theorem St.tok (S : St prog w s₀ DD b₀ env cw m cm P O s) (tk : Nat) : St prog w s₀ DD b₀ env cw m cm P O { s with toks := tk } := S.kept (h' := s.heap) (Keep.refl _)
theorem keep_push (h : Heap) (o : Obj) : Keep h (h.push o) := fun _ _ e => Heap.get?_push_of_some o e
theorem St.push (S : St prog w s₀ DD b₀ env cw m cm P O s) (o : Obj) (tk : Nat) : St prog w s₀ DD b₀ env cw m cm P O { s with heap := s.heap.push o, toks := tk } :=
  S.kept (keep_push _ _)

/-- other facts, fewer owned objects -/
theorem St.weaken (S : St prog w s₀ DD b₀ env cw m cm P O s) {P' : List As} {O' : List Ow} (hP : ∀ b, (∀ p ∈ P, p.on prog w b) → ∀ p ∈ P', p.on prog w b) (hO : O'.Sublist O) :
    St prog w s₀ DD b₀ env cw m cm P' O' s := by
  obtain ⟨b, S⟩ := S
  exact ⟨b, { S with own := fun x hx => S.own x (hO.subset hx), oap := S.oap.sublist hO, facts := hP b S.facts }⟩

theorem St.fact (S : St prog w s₀ DD b₀ env cw m cm P O s) {h' : Heap} {tk : Nat} {a : Addr} {o : Obj} {F : List As} (k : Keep s.heap h') (ha : s.heap.objs.size ≤ a) (ho : h'.get? a = some o)
    (hF : ∀ b', (∀ p ∈ P, p.on prog w b') → b'.get? a = some o → ∀ p ∈ F, p.on prog w b') :
    St prog w s₀ DD b₀ env cw m cm (F ++ P) O { s with heap := h', toks := tk } := by
  obtain ⟨b, S⟩ := S
  have S1 := S.kept (tk := tk) k
  obtain ⟨b', k1, k2, k3, k4⟩ := extend (b := b) (h := h') S1.bs (fun x => x == a)
  have S2 := S1.grown k1 k2 (fun x hx hx' => by
    have e : x = a := by
      cases hc : (x == a) with
      | true => exact beq_iff_eq.mp hc
      | false => exact absurd (k4 x hc hx) hx'
    subst e
    refine ⟨Nat.le_trans S.grow ha, fun e => ?_, fun n c hc e => ?_, fun y hy e => ?_⟩
    · exact absurd S.ns.lt (Nat.not_lt.mpr (e ▸ ha))
    · obtain ⟨oc, hoc, _⟩ := (S.cell n c hc).1
      exact absurd (Heap.lt_size hoc) (Nat.not_lt.mpr (e ▸ ha))
    · obtain ⟨oc, hoc⟩ := Ow.some (S.own y hy).1
      exact absurd (Heap.lt_size hoc) (Nat.not_lt.mpr (e ▸ ha)))
  have hf : ∀ p ∈ F ++ P, p.on prog w b' := fun p hp => by
    rcases List.mem_append.mp hp with hp | hp
    · exact hF b' S2.facts ((k3 a (by simp)).trans ho) p hp
    · exact S2.facts p hp
  exact ⟨b', { S2 with facts := hf }⟩

theorem St.owns (S : St prog w s₀ DD b₀ env cw m cm P O s) {h' : Heap} {tk : Nat} {x : Ow} (k : Keep s.heap h') (ha : s.heap.objs.size ≤ x.a)
    (hx : ∀ b, Keep b s.heap → (∀ p ∈ P, p.on prog w b) → x.on prog w b h') :
    St prog w s₀ DD b₀ env cw m cm P (x :: O) { s with heap := h', toks := tk } := by
  obtain ⟨b, S⟩ := S
  have S1 := S.kept (tk := tk) k
  refine ⟨b, { S1 with own := fun y hy => ?_, oap := List.pairwise_cons.mpr ⟨fun y hy e => ?_, S1.oap⟩ }⟩
  · rcases List.mem_cons.mp hy with rfl | hy
    · refine ⟨hx b S.bs S.facts, ?_, fun e => ?_, fun n c hc e => ?_, .inr (Nat.le_trans S.grow ha)⟩
      · exact none_of_keep S.bs (get_none_of_size ha)
      · exact absurd S.ns.lt (Nat.not_lt.mpr (e ▸ ha))
      · obtain ⟨oc, hoc, _⟩ := (S.cell n c hc).1
        exact absurd (Heap.lt_size hoc) (Nat.not_lt.mpr (e ▸ ha))
    · exact S1.own y hy
  · obtain ⟨oc, hoc⟩ := Ow.some (S.own y hy).1
    exact absurd (Heap.lt_size hoc) (Nat.not_lt.mpr (e ▸ ha))

/-- an owned object is changed -/
theorem StB.change {b : Heap} (S : StB prog w s₀ DD b₀ env cw m cm P O s b) {h' : Heap} {tk : Nat} {x y : Ow} {O' : List Ow} (hr : Rep x y O O') (hxy : x.a = y.a) (hs : Heap.SameBut x.a s.heap h')
    (hy : y.on prog w b h') : StB prog w s₀ DD b₀ env cw m cm P O' { s with heap := h', toks := tk } b := by
  have hx := S.own x hr.mem
  have ke : ∀ a o, a ≠ x.a → s.heap.get? a = some o → h'.get? a = some o := fun a o e e' => (hs.2 a e).trans e'
  exact {
    same := by obtain ⟨h, t, rfl⟩ := S.same; exact ⟨h', tk, rfl⟩
    frame := fun a o hd e => by
      refine ke a o (fun e' => ?_) (S.frame a o hd e)
      rcases hx.2.2.2.2 with q | q
      · exact hd (e' ▸ q)
      · exact absurd (Heap.lt_size e) (Nat.not_lt.mpr (e' ▸ q))
    bb := S.bb
    fresh := S.fresh
    bs := fun a o e => ke a o (fun e' => by rw [e', hx.2.1] at e; cases e) (S.bs a o e)
    pg := S.pg
    ns := S.ns.sameBut hs (Ne.symm hx.2.2.1)
    nsb := S.nsb
    nsn := S.nsn
    cell := fun n c e => ⟨(S.cell n c e).1.sameBut hs (Ne.symm (hx.2.2.2.1 n c e)), (S.cell n c e).2⟩
    cap := S.cap
    own := fun z hz => by
      rcases hr.cases S.oap z hz with rfl | ⟨hz, hne⟩
      · rw [← hxy]
        exact ⟨hy, hx.2⟩
      · exact ⟨Ow.mono (Keep.refl b) (fun o e => ke _ o hne e) (S.own z hz).1, (S.own z hz).2⟩
    oap := hr.pw hxy S.oap
    facts := S.facts }
theorem St.change (S : St prog w s₀ DD b₀ env cw m cm P O s) {h' : Heap} {tk : Nat} {x y : Ow} {O' : List Ow} (hr : Rep x y O O') (hxy : x.a = y.a) (hs : Heap.SameBut x.a s.heap h')
    (hy : ∀ b, (∀ p ∈ P, p.on prog w b) → x.on prog w b s.heap → y.on prog w b h') :
    St prog w s₀ DD b₀ env cw m cm P O' { s with heap := h', toks := tk } := by
  obtain ⟨b, S⟩ := S
  exact ⟨b, S.change hr hxy hs (hy b S.facts (S.own x hr.mem).1)⟩

/-- an owned object is given up to the base -/
theorem St.freeze (S : St prog w s₀ DD b₀ env cw m cm P O s) {x : Ow} {O' : List Ow} {F : List As} (hx : x ∈ O) (hO : O'.Sublist O) (hn : ∀ y ∈ O', y.a ≠ x.a) (hd : s₀.heap.objs.size ≤ x.a)
    (hF : ∀ b', (∀ p ∈ P, p.on prog w b') → x.on prog w b' b' → ∀ p ∈ F, p.on prog w b') :
    St prog w s₀ DD b₀ env cw m cm (F ++ P) O' s := by
  obtain ⟨b, S⟩ := S
  have hx' := S.own x hx
  have S1 : StB prog w s₀ DD b₀ env cw m cm P O' s b := { S with own := fun y hy => S.own y (hO.subset hy), oap := S.oap.sublist hO }
  obtain ⟨b', k1, k2, k3, k4⟩ := extend (b := b) (h := s.heap) S.bs (fun z => z == x.a)
  have S2 := S1.grown k1 k2 (fun z hz hz' => by
    have e : z = x.a := by
      cases hc : (z == x.a) with
      | true => exact beq_iff_eq.mp hc
      | false => exact absurd (k4 z hc hz) hz'
    subst e
    exact ⟨hd, hx'.2.2.1, hx'.2.2.2.1, fun y hy => (hn y hy).symm⟩)
  have hf : ∀ p ∈ F ++ P, p.on prog w b' := fun p hp => by
    rcases List.mem_append.mp hp with hp | hp
    · exact hF b' S2.facts (Ow.mono k1 (fun o e => (k3 x.a (by simp)).trans e) hx'.1) p hp
    · exact S2.facts p hp
  exact ⟨b', { S2 with facts := hf }⟩

theorem St.store (S : St prog w s₀ DD b₀ env cw m cm P O s) {h' : Heap} {tk : Nat} {m' : Str → Option Value} (hn : h'.Ns env.locals m') (hs : Heap.SameBut env.locals s.heap h') :
    St prog w s₀ DD b₀ env cw m' cm P O { s with heap := h', toks := tk } := by
  obtain ⟨b, S⟩ := S
  have ke : ∀ a o, a ≠ env.locals → s.heap.get? a = some o → h'.get? a = some o := fun a o e e' => (hs.2 a e).trans e'
  exact ⟨b, {
    same := by obtain ⟨h, t, rfl⟩ := S.same; exact ⟨h', tk, rfl⟩
    frame := fun a o hd e => ke a o (fun e' => absurd (Heap.lt_size e) (Nat.not_lt.mpr (e' ▸ S.nsn))) (S.frame a o hd e)
    bb := S.bb
    fresh := S.fresh
    bs := fun a o e => ke a o (fun e' => by rw [e', S.nsb] at e; cases e) (S.bs a o e)
    pg := S.pg
    ns := hn
    nsb := S.nsb
    nsn := S.nsn
    cell := fun n c e => ⟨(S.cell n c e).1.sameBut hs (S.cell n c e).2.2.1, (S.cell n c e).2⟩
    cap := S.cap
    own := fun z hz => ⟨Ow.mono (Keep.refl b) (fun o e => ke _ o (S.own z hz).2.2.1 e) (S.own z hz).1, (S.own z hz).2⟩
    oap := S.oap
    facts := S.facts }⟩

theorem St.storeCell (S : St prog w s₀ DD b₀ env true m cm P O s) {h' : Heap} {tk : Nat} {n : Str} {c : Addr} {v : Value} (hc : env.cells.lookup n = some c) (hv : h'.IsCell c (some v)) (hs : Heap.SameBut c s.heap h') :
    St prog w s₀ DD b₀ env true m (upd cm n v) P O { s with heap := h', toks := tk } := by
  obtain ⟨b, S⟩ := S
  have ke : ∀ a o, a ≠ c → s.heap.get? a = some o → h'.get? a = some o := fun a o e e' => (hs.2 a e).trans e'
  have hcc := S.cell n c hc
  exact ⟨b, {
    same := by obtain ⟨h, t, rfl⟩ := S.same; exact ⟨h', tk, rfl⟩
    frame := fun a o hd e => ke a o (fun e' => absurd (Heap.lt_size e) (Nat.not_lt.mpr (e' ▸ hcc.2.2.2 rfl))) (S.frame a o hd e)
    bb := S.bb
    fresh := S.fresh
    bs := fun a o e => ke a o (fun e' => by rw [e', hcc.2.1] at e; cases e) (S.bs a o e)
    pg := S.pg
    ns := S.ns.sameBut hs (Ne.symm hcc.2.2.1)
    nsb := S.nsb
    nsn := S.nsn
    cell := fun n' c' e => by
      refine ⟨?_, (S.cell n' c' e).2⟩
      by_cases hnn : n' = n
      · subst hnn
        rw [hc] at e; cases e
        simpa [upd] using hv
      · simp only [upd, hnn, if_false]
        exact (S.cell n' c' e).1.sameBut hs fun e' => hnn (S.cap _ _ _ (e' ▸ e) hc)
    cap := S.cap
    own := fun z hz => ⟨Ow.mono (Keep.refl b) (fun o e => ke _ o ((S.own z hz).2.2.2.1 n c hc) e) (S.own z hz).1, (S.own z hz).2⟩
    oap := S.oap
    facts := S.facts }⟩

/-! ### what a call does -/
structure Ret (prog : Program) (w : World) (s : Shared) (DD : List Addr) (b : Heap) (s' : Shared) (b' : Heap) (F : List As) (N : List Ow) : Prop where
  same : ∃ h' tk, s' = { s with heap := h', toks := tk }
  frame : ∀ a o, a ∉ DD → s.heap.get? a = some o → s'.heap.get? a = some o
  grow : s.heap.objs.size ≤ s'.heap.objs.size
  bb : Keep b b'
  fresh : ∀ a, a < s.heap.objs.size → b.get? a = none → b'.get? a = none
  bs : Keep b' s'.heap
  facts : ∀ p ∈ F, p.on prog w b'
  own : ∀ x ∈ N, x.on prog w b' s'.heap ∧ b'.get? x.a = none ∧ (x.a ∈ DD ∨ s.heap.objs.size ≤ x.a)
  oap : N.Pairwise (fun x y => x.a ≠ y.a)

noncomputable def Does (prog : Program) (w : World) (A : Around) (s : Shared) (DD : List Addr) (b : Heap) (t : Sem Value) (Rel : Value → List As → List Ow → Prop) : Prop :=
  ∀ (Q : Value → Shared → Prop) (E : Value → Shared → Prop), (∀ v s' b' F N, Rel v F N → Ret prog w s DD b s' b' F N → Q v s') → wpAny (model prog w) A t Q E s

theorem St.ret (S : St prog w s₀ DD b₀ env cw m cm P O s) {F : List As} {N : List Ow} (hF : ∀ b, (∀ p ∈ P, p.on prog w b) → ∀ p ∈ F, p.on prog w b) (hN : N.Sublist O) : ∃ b', Ret prog w s₀ DD b₀ s b' F N := by
  obtain ⟨b, S⟩ := S
  exact ⟨b, S.same, S.frame, S.grow, S.bb, S.fresh, S.bs, hF b S.facts, fun x hx => ⟨(S.own x (hN.subset hx)).1, (S.own x (hN.subset hx)).2.1, (S.own x (hN.subset hx)).2.2.2.2⟩, S.oap.sublist hN⟩

theorem StB.called (S : StB prog w s₀ DD b₀ env cw m cm P O s b) {D' : List Addr} {O' : List Ow} {s' : Shared} {b' : Heap} {F : List As} {N : List Ow} (R : Ret prog w s D' b s' b' F N)
    (hsub : ∀ a ∈ D', ∃ x ∈ O, x.a = a) (hr : O'.Sublist O) (hn : ∀ x ∈ O', x.a ∉ D') : StB prog w s₀ DD b₀ env cw m cm (F ++ P) (N ++ O') s' b' := by
  have hL : env.locals ∉ D' := fun e => by obtain ⟨x, hx, e'⟩ := hsub _ e; exact (S.own x hx).2.2.1 e'
  have hC : ∀ n c, env.cells.lookup n = some c → c ∉ D' := fun n c hc e => by obtain ⟨x, hx, e'⟩ := hsub _ e; exact (S.own x hx).2.2.2.1 n c hc e'
  refine {
    same := ?_, frame := fun a o hd e => ?_, bb := S.bb.trans R.bb, fresh := fun a ha e => R.fresh a (Nat.lt_of_lt_of_le ha S.grow) (S.fresh a ha e), bs := R.bs,
    pg := S.pg.keep R.bb, ns := ?_, nsb := R.fresh _ S.ns.lt S.nsb, nsn := S.nsn, cell := fun n c hc => ?_, cap := S.cap, own := fun x hx => ?_, oap := ?_, facts := fun p hp => ?_ }
  · obtain ⟨h, t, rfl⟩ := S.same; obtain ⟨h2, t2, e2⟩ := R.same; exact ⟨h2, t2, e2⟩
  · refine R.frame a o (fun e' => ?_) (S.frame a o hd e)
    obtain ⟨x, hx, e''⟩ := hsub a e'
    rcases (S.own x hx).2.2.2.2 with q | q
    · exact hd (e'' ▸ q)
    · exact absurd (Heap.lt_size e) (Nat.not_lt.mpr (e'' ▸ q))
  · obtain ⟨o, es, ep, ho, r⟩ := S.ns
    exact ⟨o, es, ep, R.frame _ o hL ho, r⟩
  · obtain ⟨⟨o, ho, r⟩, r2⟩ := S.cell n c hc
    exact ⟨⟨o, R.frame _ o (hC n c hc) ho, r⟩, R.fresh c (Heap.lt_size ho) r2.1, r2.2⟩
  · rcases List.mem_append.mp hx with hx | hx
    · obtain ⟨h1, h2, h3⟩ := R.own x hx
      refine ⟨h1, h2, fun e => ?_, fun n c hc e => ?_, ?_⟩
      · rcases h3 with q | q
        · exact hL (e ▸ q)
        · exact absurd S.ns.lt (Nat.not_lt.mpr (e ▸ q))
      · rcases h3 with q | q
        · exact hC n c hc (e ▸ q)
        · obtain ⟨o, ho, _⟩ := (S.cell n c hc).1
          exact absurd (Heap.lt_size ho) (Nat.not_lt.mpr (e ▸ q))
      · rcases h3 with q | q
        · obtain ⟨y, hy, e⟩ := hsub _ q
          rw [← e]; exact (S.own y hy).2.2.2.2
        · exact .inr (Nat.le_trans S.grow q)
    · have hx0 := S.own x (hr.subset hx)
      obtain ⟨o, ho⟩ := Ow.some hx0.1
      exact ⟨Ow.mono R.bb (fun o e => R.frame _ o (hn x hx) e) hx0.1, R.fresh _ (Heap.lt_size ho) hx0.2.1, hx0.2.2⟩
  · refine List.pairwise_append.mpr ⟨R.oap, S.oap.sublist hr, fun x hx y hy e => ?_⟩
    have hy0 := S.own y (hr.subset hy)
    obtain ⟨o, ho⟩ := Ow.some hy0.1
    rcases (R.own x hx).2.2 with q | q
    · exact hn y hy (e ▸ q)
    · exact absurd (Heap.lt_size ho) (Nat.not_lt.mpr (e ▸ q))
  · rcases List.mem_append.mp hp with hp | hp
    · exact R.facts p hp
    · exact As.keep R.bb p (S.facts p hp)

theorem St.does (S : St prog w s₀ DD b₀ env cw m cm P O s) {A : Around} {D' : List Addr} {O' : List Ow} {t : Sem Value} {Rel : Value → List As → List Ow → Prop} {Q : Value → Shared → Prop} {E : Value → Shared → Prop}
    (hd : ∀ b, Keep b s.heap → Pg w b → (∀ p ∈ P, p.on prog w b) → (∀ x ∈ O, x.on prog w b s.heap ∧ b.get? x.a = none) → Does prog w A s D' b t Rel)
    (hsub : ∀ a ∈ D', ∃ x ∈ O, x.a = a) (hr : O'.Sublist O) (hn : ∀ x ∈ O', x.a ∉ D')
    (h : ∀ v s' F N, Rel v F N → St prog w s₀ DD b₀ env cw m cm (F ++ P) (N ++ O') s' → Q v s') : wpAny (model prog w) A t Q E s := by
  obtain ⟨b, B⟩ := S
  exact hd b B.bs B.pg B.facts (fun x hx => ⟨(B.own x hx).1, (B.own x hx).2.1⟩) Q E fun v s' b' F N hrel R => h v s' F N hrel ⟨b', B.called R hsub hr hn⟩
theorem St.does0 (S : St prog w s₀ DD b₀ env cw m cm P O s) {A : Around} {t : Sem Value} {Rel : Value → List As → List Ow → Prop} {Q : Value → Shared → Prop} {E : Value → Shared → Prop}
    (hd : ∀ b, Keep b s.heap → Pg w b → (∀ p ∈ P, p.on prog w b) → (∀ x ∈ O, x.on prog w b s.heap ∧ b.get? x.a = none) → Does prog w A s [] b t Rel)
    (h : ∀ v s' F N, Rel v F N → St prog w s₀ DD b₀ env cw m cm (F ++ P) (N ++ O) s' → Q v s') : wpAny (model prog w) A t Q E s :=
  S.does hd (fun _ h => (nomatch h)) (List.Sublist.refl _) (fun _ _ h => (nomatch h)) h
end

/-! ### a def of the text is entered -/
section
variable {prog : Program} {w : World} {A : Around} {s : Shared} {DD : List Addr} {b : Heap} {P : List As} {O : List Ow}

noncomputable def retOf : Flow → Value
  | .ret v => v
  | _ => .none

noncomputable def Comes (prog : Program) (w : World) (s : Shared) (DD : List Addr) (b : Heap) (Rel : Value → List As → List Ow → Prop) (f : Flow) (s' : Shared) : Prop :=
  ∃ b' F N, Rel (retOf f) F N ∧ Ret prog w s DD b s' b' F N

theorem St.comes {s₀ : Shared} {b₀ : Heap} {env : Env} {cw : Bool} {m cm : Str → Option Value} {f : Flow} {Rel : Value → List As → List Ow → Prop} (S : St prog w s₀ DD b₀ env cw m cm P O s) {F : List As} {N : List Ow} (hR : Rel (retOf f) F N)
    (hF : ∀ b, (∀ p ∈ P, p.on prog w b) → ∀ p ∈ F, p.on prog w b) (hN : N.Sublist O) : Comes prog w s₀ DD b₀ Rel f s :=
  let ⟨b', R⟩ := S.ret hF hN; ⟨b', F, N, hR, R⟩

theorem does_def {Rel : Value → List As → List Ow → Prop} {a : Addr} {fd : FuncData} {oc : Value} {od : Option Addr} {sl : Array (Option Value)} {body : List Stmt} {vals : List Value} {binds : List (Str × Value)}
    (hk : Keep b s.heap) (pg : Pg w b) (hP : ∀ p ∈ P, p.on prog w b) (hO : ∀ x ∈ O, x.on prog w b s.heap ∧ b.get? x.a = none) (hDD : ∀ x ∈ O, x.a ∈ DD) (hpw : O.Pairwise (fun x y => x.a ≠ y.a))
    (hroom : A.depth < recursionLimit) (hfn : (Mine.hd.heap_1 w.params).lookup a = some ⟨oc, od, .func fd, sl⟩) (hcd : codeIn (Mine.hd.heap_1 w.params) fd.code fd.qualname = true)
    (hbody : fd.body = .stmts body) (hbind : bindArgs fd ⟨vals, []⟩ = pure binds) (hclo : fd.closure = [])
    (hkind : ∀ n, ∀ x ∈ binds, fd.scope.names.lookup x.1 = some .local ∨ (fd.scope.names.lookup x.1 = some .cell ∧ ((cellsFrom n fd.scope.names []).lookup x.1).isSome = true))
    (h : ∀ s₁ L, St prog w s DD b (callEnvC fd L a) true (bindL (callEnvC fd L a).kindOf binds fun _ => none) (bindC (callEnvC fd L a).kindOf binds fun _ => none) P O s₁ →
      wpAny (model prog w) (A.deeper (callEnvC fd L a)) (execs body (callEnvC fd L a)) (Comes prog w s DD b Rel) (fun _ _ => False) s₁)
    (hco : fd.scope.isCoroutine = false := by rfl) (hgen : fd.scope.isGenerator = false := by rfl) (hkf : fd.scope.kind = .function := by rfl) :
    Does prog w A s DD b (call (.ref a) vals) Rel := by
  intro Q E hQ
  have hK := pg.K.keeps hk
  refine wpAny_call (codeAny_call_cells hroom (hK _ _ hfn) rfl (pg.lim.keeps hk) (codeRec_of hK hcd) hbody hbind hclo (hkind _) (fun s₁ x => ?_) hco hgen hkf)
  have x' := x
  obtain ⟨⟨same, ns, keep, fresh⟩, hcell, apart, above⟩ := x'
  have S : St prog w s DD b (callEnvC fd s.heap.objs.size a) true (bindL (callEnvC fd s.heap.objs.size a).kindOf binds fun _ => none) (bindC (callEnvC fd s.heap.objs.size a).kindOf binds fun _ => none) P O s₁ := by
    refine ⟨b, same, fun a o _ e => keep a o e, Keep.refl b, fun _ _ e => e, hk.trans keep, pg, ns, ?_, fresh, fun n c hc => ?_, fun n n' c hc hc' => ?_, fun y hy => ?_, hpw, hP⟩
    · exact none_of_keep hk (get_none_of_size fresh)
    · have hab := above n c (mem_of_lookup hc)
      exact ⟨hcell n c hc, none_of_keep hk (get_none_of_size (Nat.le_trans fresh (Nat.le_of_lt hab))), Nat.ne_of_gt hab, fun _ => Nat.le_trans fresh (Nat.le_of_lt hab)⟩
    · exact name_of_addr apart (mem_of_lookup hc) (mem_of_lookup hc')
    · obtain ⟨o, ho⟩ := Ow.some (hO y hy).1
      refine ⟨Ow.mono (Keep.refl b) (fun o e => keep _ o e) (hO y hy).1, (hO y hy).2, fun e => ?_, fun n c hc e => ?_, .inl (hDD y hy)⟩
      · exact absurd (Heap.lt_size ho) (Nat.not_lt.mpr (e ▸ fresh))
      · have hab := above n c (mem_of_lookup hc)
        exact absurd (Heap.lt_size ho) (Nat.not_lt.mpr (e ▸ Nat.le_trans fresh (Nat.le_of_lt hab)))
  refine wpAny_mono (h s₁ _ S) (fun f s' hc => ?_) (fun _ _ e => e.elim)
  obtain ⟨b', F, N, hR, R⟩ := hc
  have q := hQ _ _ b' F N hR R
  cases f <;> exact q
end
end Mine
end
section
set_option maxRecDepth 100000
namespace Mine
open PySem PySem.W PyProof.Rows PySem.Calls

section
variable {M : Model} {A : Around} {env : Env} {E : Value → Shared → Prop} {rest : List Stmt} {s : Shared}
/-- what holds behind a statement -/
noncomputable def Nx (M : Model) (A : Around) (env : Env) (rest : List Stmt) (Q : Flow → Shared → Prop) (E : Value → Shared → Prop) (f : Flow) (s' : Shared) : Prop :=
  match f with
  | .next => wpAny M A (execs rest env) Q E s'
  | f => Q f s'
theorem execs_gen {st : Stmt} {Q : Flow → Shared → Prop} (h : ∀ (QG : Flow → Shared → Prop) (_hG : ∀ f s', Nx M A env rest Q E f s' → QG f s'), wpAny M A (exec st env) QG E s) : wpAny M A (execs (st :: rest) env) Q E s :=
  wpAny_execs_cons (wpAny_mono (h _ fun _ _ x => x) (fun f _ x => by cases f <;> exact x) fun _ _ x => x)
theorem nx_next {Q Q' : Flow → Shared → Prop} (h : ∀ f s', Nx M A env rest Q E f s' → Q' f s') (x : wpAny M A (execs rest env) Q E s) : Q' .next s := h _ _ x
theorem nx_brk {Q Q' : Flow → Shared → Prop} (h : ∀ f s', Nx M A env rest Q E f s' → Q' f s') (x : Q .brk s) : Q' .brk s := h _ _ x
theorem nx_cont {Q Q' : Flow → Shared → Prop} (h : ∀ f s', Nx M A env rest Q E f s' → Q' f s') (x : Q .cont s) : Q' .cont s := h _ _ x
theorem nx_ret {Q Q' : Flow → Shared → Prop} {v : Value} (h : ∀ f s', Nx M A env rest Q E f s' → Q' f s') (x : Q (.ret v) s) : Q' (.ret v) s := h _ _ x
/-- what holds behind a loop -/
noncomputable def Lp (Q : Flow → Shared → Prop) (r : Result) (s' : Shared) : Prop := match r with
  | .ok f => Q f s'
  | .error _ => False
theorem lp_ok {Q : Flow → Shared → Prop} {R : Result → Shared → Prop} {f : Flow} (h : ∀ r s', Lp Q r s' → R r s') (x : Q f s) : R (.ok f) s := h _ _ x
theorem outR {R R' : Result → Shared → Prop} {r : Result} (h : ∀ r s', R r s' → R' r s') (x : R r s) : R' r s := h _ _ x
theorem outF {Q Q' : Flow → Shared → Prop} {f : Flow} (h : ∀ f s', Q f s' → Q' f s') (x : Q f s) : Q' f s := h _ _ x
end
end Mine
end
section
set_option maxRecDepth 100000
namespace Mine
open PySem PySem.W PyProof.Rows PySem.Calls

section
variable {prog : Program} {w : World} {s₀ s : Shared} {DD : List Addr} {b₀ : Heap} {env : Env} {cw : Bool} {m cm : Str → Option Value} {P : List As} {O : List Ow}
variable {M : Model} {A : Around} {E : Value → Shared → Prop}

theorem St.inK (S : St prog w s₀ DD b₀ env cw m cm P O s) : (Mine.hd.heap_1 w.params).In s.heap := let ⟨_, B⟩ := S; B.pg.K.keeps B.bs
theorem St.has (S : St prog w s₀ DD b₀ env cw m cm P O s) {p : As} (hp : p ∈ P) : p.on prog w s.heap := let ⟨_, B⟩ := S; As.keep B.bs p (B.facts p hp)

theorem St.more {v : Value} {d : D} (S : St prog w s₀ DD b₀ env cw m cm P O s) (h : ∀ b, Pg w b → Is b d v) : St prog w s₀ DD b₀ env cw m cm (As.is v d :: P) O s := by
  obtain ⟨b, B⟩ := S
  refine ⟨b, { B with facts := fun p hp => ?_ }⟩
  rcases List.mem_cons.mp hp with rfl | hp
  · exact h b B.pg
  · exact B.facts p hp

/-! names -/
theorem nmL {x : Str} {pos : Pos} {v : Value} {Q : Value → Shared → Prop} (S : St prog w s₀ DD b₀ env cw m cm P O s) (hk : env.scope.kind = .function) (hl : env.kindOf x = some .local) (hv : m x = some v)
    (hdb : (x == ("__debug__" : Str)) = false) (h : Q v s) : wpAny M A (eval (.Name x pos) env) Q E s := by
  obtain ⟨b, B⟩ := S
  exact wpAny_Name (wpAny_loadName_local hk hl B.ns hv h) hdb
theorem nmC {x : Str} {pos : Pos} {c : Addr} {v : Value} {Q : Value → Shared → Prop} (S : St prog w s₀ DD b₀ env cw m cm P O s) (hk : env.scope.kind = .function) (hl : env.kindOf x = some .cell) (hc : env.cells.lookup x = some c) (hv : cm x = some v)
    (hdb : (x == ("__debug__" : Str)) = false) (h : Q v s) : wpAny M A (eval (.Name x pos) env) Q E s := by
  obtain ⟨b, B⟩ := S
  exact wpAny_Name (wpAny_loadName_cell hk hl hc (hv ▸ (B.cell x c hc).1) h) hdb
theorem nmG {x : Str} {pos : Pos} {v : Value} {Q : Value → Shared → Prop} (S : St prog w s₀ DD b₀ env cw m cm P O s) (hk : env.scope.kind = .function) (hl : env.kindOf x = some .globalImplicit) (hg : env.globals = mainGlobals)
    (hdb : (x == ("__debug__" : Str)) = false) (hv : nsIn (Mine.hd.heap_1 w.params) mainGlobals x = some (some v)) (h : Q v s) : wpAny M A (eval (.Name x pos) env) Q E s := by
  obtain ⟨b, B⟩ := S
  obtain ⟨mg, hmg⟩ := B.pg.g
  exact Name_function_global hk hl (loadGlobal_global (hg ▸ hmg.keeps B.bs) (mg_of B.pg.K hmg hv) h) hdb
theorem nmB {x : Str} {pos : Pos} {v : Value} {Q : Value → Shared → Prop} (S : St prog w s₀ DD b₀ env cw m cm P O s) (hk : env.scope.kind = .function) (hl : env.kindOf x = some .globalImplicit) (hg : env.globals = mainGlobals) (hb : env.builtins = builtinsNs)
    (hdb : (x == ("__debug__" : Str)) = false) (hv : nsIn (Mine.hd.heap_1 w.params) mainGlobals x = some none) (hn : x ≠ "__name__") (hbv : bootBuiltins x = some v) (h : Q v s) : wpAny M A (eval (.Name x pos) env) Q E s := by
  obtain ⟨b, B⟩ := S
  obtain ⟨mg, hmg⟩ := B.pg.g
  obtain ⟨mb, hmb, hbb⟩ := B.pg.bi
  exact Name_function_global hk hl (loadGlobal_builtin (hg ▸ hmg.keeps B.bs) (mg_none_of B.pg.K hmg hv) (hb ▸ hmb.keeps B.bs) ((hbb x hn).trans hbv) h) hdb

/-! stores -/
theorem stL {x : Str} {v : Value} {Q : Unit → Shared → Prop} (S : St prog w s₀ DD b₀ env cw m cm P O s) (hk : env.scope.kind = .function) (hl : env.kindOf x = some .local)
    (h : ∀ s', St prog w s₀ DD b₀ env cw (upd m x v) cm P O s' → Q () s') : wpAny M A (storeName env x v) Q E s := by
  have S0 := S
  obtain ⟨b, B⟩ := S
  exact wpAny_storeName_local hl B.ns (fun h' hn hs => h _ (S0.store hn hs)) (by rw [hk]; rfl)
theorem stC {x : Str} {c : Addr} {v : Value} {Q : Unit → Shared → Prop} (S : St prog w s₀ DD b₀ env true m cm P O s) (hk : env.scope.kind = .function) (hl : env.kindOf x = some .cell) (hc : env.cells.lookup x = some c)
    (h : ∀ s', St prog w s₀ DD b₀ env true m (upd cm x v) P O s' → Q () s') : wpAny M A (storeName env x v) Q E s := by
  have S0 := S
  obtain ⟨b, B⟩ := S
  refine wpAny_storeName_cell hk hl hc (B.cell x c hc).1 (fun h' hn hs => ?_)
  exact h _ (S0.storeCell (tk := s.toks) hc hn hs)

/-! literals -/
theorem lit {i : Int} {k pos} {Q : Value → Shared → Prop} (S : St prog w s₀ DD b₀ env cw m cm P O s) (h : ∀ t s', St prog w s₀ DD b₀ env cw m cm P O s' → Q (.int i t) s') :
    wpAny M A (eval (.Constant (.int i) k pos) env) Q E s := wpAny_Constant_int (h _ _ (S.tok _))
theorem litS {x : Str} {k pos} {Q : Value → Shared → Prop} (S : St prog w s₀ DD b₀ env cw m cm P O s) (h : ∀ t s', St prog w s₀ DD b₀ env cw m cm P O s' → Q (.str x t) s') :
    wpAny M A (eval (.Constant (.str x) k pos) env) Q E s := wpAny_Constant_str (h _ _ (S.tok _))

/-! ints -/
theorem iAdd {a c : Int} {t u : Tok} {Q : Value → Shared → Prop} (S : St prog w s₀ DD b₀ env cw m cm P O s) (h : ∀ t s', St prog w s₀ DD b₀ env cw m cm P O s' → Q (.int (a + c) t) s') :
    wpAny (model prog w) A (binaryOp .Add (.int a t) (.int c u)) Q E s := PySem.P.add_int (h _ _ (S.tok _))
theorem iSub {a c : Int} {t u : Tok} {Q : Value → Shared → Prop} (S : St prog w s₀ DD b₀ env cw m cm P O s) (h : ∀ t s', St prog w s₀ DD b₀ env cw m cm P O s' → Q (.int (a - c) t) s') :
    wpAny (model prog w) A (binaryOp .Sub (.int a t) (.int c u)) Q E s := PySem.P.sub_int (h _ _ (S.tok _))
theorem iMul {a c : Int} {t u : Tok} {Q : Value → Shared → Prop} (S : St prog w s₀ DD b₀ env cw m cm P O s) (hm : IntMulOk a c) (h : ∀ t s', St prog w s₀ DD b₀ env cw m cm P O s' → Q (.int (a * c) t) s') :
    wpAny (model prog w) A (binaryOp .Mult (.int a t) (.int c u)) Q E s := PySem.P.mul_int (h _ _ (S.tok _)) hm
theorem iNeg {a : Int} {t : Tok} {Q : Value → Shared → Prop} (S : St prog w s₀ DD b₀ env cw m cm P O s) (h : ∀ t s', St prog w s₀ DD b₀ env cw m cm P O s' → Q (.int (-a) t) s') :
    wpAny (model prog w) A (unaryOp .USub (.int a t)) Q E s := PySem.P.neg_int (h _ _ (S.tok _))

/-! tuples and lists are made -/
inductive DI (P : List As) : Value → D → Prop where
  | none : DI P .none .none
  | int {i t} : DI P (.int i t) (.int i)
  | mem {v d} : As.is v d ∈ P → DI P v d
inductive DIs (P : List As) : List Value → List D → Prop where
  | nil : DIs P [] []
  | cons {v d vs ds} : DI P v d → DIs P vs ds → DIs P (v :: vs) (d :: ds)
theorem DI.on {b : Heap} (hP : ∀ p ∈ P, p.on prog w b) {v : Value} {d : D} : DI P v d → Is b d v
  | .none => by simp [Is]
  | .int => by unfold Is; exact ⟨_, rfl⟩
  | .mem h => hP _ h
theorem DIs.on {b : Heap} (hP : ∀ p ∈ P, p.on prog w b) : ∀ {vs : List Value} {ds : List D}, DIs P vs ds → IsL b ds vs
  | _, _, .nil => by simp [IsL]
  | _, _, .cons h r => by unfold IsL; exact ⟨_, _, rfl, h.on hP, r.on hP⟩

noncomputable def TupEnd (Q : Value → Shared → Prop) (vs : List Value) (s : Shared) : Prop :=
  vs.length ≤ sizeLine ∧ Q (.ref s.heap.objs.size) { s with heap := s.heap.push { cls := .type "tuple", data := .seq vs.toArray } }
noncomputable def ListEnd (Q : Value → Shared → Prop) (vs : List Value) (s : Shared) : Prop :=
  vs.length ≤ sizeLine ∧ Q (.ref s.heap.objs.size) { s with heap := s.heap.push { cls := .type "list", data := .seq vs.toArray } }
theorem tupE {elts : List Expr} {k : Nat} {pos : Pos} {Q : Value → Shared → Prop} (h : wpAny M A (spliced (backTo pos (starEach elts env))) (TupEnd Q) E s) : wpAny M A (eval (.Tuple elts k pos) env) Q E s := wpAny_Tuple h
theorem listE {elts : List Expr} {pos : Pos} {Q : Value → Shared → Prop} (h : wpAny M A (spliced (backTo pos (starEach elts env))) (ListEnd Q) E s) : wpAny M A (eval (.List elts pos) env) Q E s := wpAny_List h
theorem retLast {e : Expr} {pos : Pos} {rest : List Stmt} {Q : Flow → Shared → Prop} (h : wpAny M A (eval e env) (fun v s' => Q (.ret v) s') E s) : wpAny M A (execs (.Return (some e) pos :: rest) env) Q E s :=
  wpAny_execs_cons (wpAny_Return_some h)
theorem few {n : Nat} (h : n ≤ 1000) : n ≤ sizeLine := Nat.le_trans h (by rw [sizeLine]; decide)

theorem mkTup {vs : List Value} {ds : List D} {Q : Value → Shared → Prop} (S : St prog w s₀ DD b₀ env cw m cm P O s) (hd : DIs P vs ds) (hl : ds.length ≤ 1000)
    (h : ∀ v s', St prog w s₀ DD b₀ env cw m cm (As.is v (.tup ds) :: P) O s' → Q v s') : TupEnd Q vs s := by
  have hlen : vs.length = ds.length := by
    clear h hl S
    induction hd with
    | nil => rfl
    | cons _ _ ih => simp [ih]
  refine ⟨few (by lia), h _ _ ?_⟩
  refine S.fact (tk := s.toks) (F := [As.is (.ref s.heap.objs.size) (.tup ds)]) (keep_push _ _) (Nat.le_refl _) (Heap.get?_push_size _ rfl) fun b' hP ho p hp => ?_
  obtain rfl := List.mem_singleton.mp hp
  show Is b' (.tup ds) _
  unfold Is
  exact ⟨_, _, rfl, ⟨_, ho, rfl, _, rfl⟩, by simpa using hd.on hP⟩
end
end Mine
end
section
set_option maxRecDepth 100000
namespace Mine
open PySem PySem.W PyProof.Rows PySem.Calls

noncomputable def fnAt (a : Addr) (fd : FuncData) : Prop := ∀ P, ∃ oc od sl, (Mine.hd.heap_1 P).lookup a = some ⟨oc, od, .func fd, sl⟩

section
variable {prog : Program} {w : World} {s₀ s : Shared} {DD : List Addr} {b₀ : Heap} {env : Env} {cw : Bool} {m cm : Str → Option Value} {P : List As} {O : List Ow}
variable {A : Around} {E : Value → Shared → Prop}

theorem IsL.get {h : Heap} : ∀ {ds : List D} {vs : List Value} {j : Nat} {d : D}, IsL h ds vs → ds[j]? = some d → ∃ v, vs[j]? = some v ∧ Is h d v
  | [], _, _, _, _, e => by simp at e
  | d0 :: ds, vs, j, d, x, e => by
    unfold IsL at x
    obtain ⟨v, r, rfl, a, b⟩ := x
    cases j with
    | zero => simp at e; subst e; exact ⟨v, rfl, a⟩
    | succ j => simpa using b.get (by simpa using e)
theorem IsL.length {h : Heap} : ∀ {ds : List D} {vs : List Value}, IsL h ds vs → vs.length = ds.length
  | [], _, x => by unfold IsL at x; simp [x]
  | d :: ds, vs, x => by
    unfold IsL at x
    obtain ⟨v, r, rfl, a, b⟩ := x
    simp [b.length]

theorem Is.tupOf {h : Heap} {v : Value} {ds : List D} (x : Is h (.tup ds) v) : ∃ a vs, v = .ref a ∧ IsTup h a vs.toArray ∧ IsL h ds vs := by
  unfold Is at x
  obtain ⟨a, vs, e, t, r⟩ := x
  exact ⟨a, vs.toList, e, by rw [Array.toArray_toList]; exact t, r⟩

theorem seqIndex_nat {k : Int} {n : Nat} (h0 : 0 ≤ k) (hlt : k.toNat < n) : seqIndex? k n = some k.toNat := by
  unfold seqIndex?
  have h1 : ¬ k < 0 := by lia
  have h2 : k < n := by lia
  simp [h1, h2, h0]

theorem subI {value slice : Expr} {v : Value} {ds : List D} {k : Int} {i : Int} {u : Tok} {Q : Value → Shared → Prop} (S : St prog w s₀ DD b₀ env cw m cm P O s) (hv : As.is v (.tup ds) ∈ P)
    (h0 : 0 ≤ k) (hk : k < 2 ^ 63) (hd : ds[k.toNat]? = some (.int i))
    (hs : ∀ t, subscripted slice false (.ref t) (.int k u) = operate [.ref t, .int k u] (getItem (.ref t) (.int k u)))
    (h : ∀ t', Q (.int i t') s) :
    wpAny (model prog w) A (subscriptTail value slice v (.int k u)) Q E s := by
  obtain ⟨a, vs, rfl, ht, hL⟩ := Is.tupOf (S.has hv)
  obtain ⟨x, hx, hi⟩ := hL.get hd
  unfold Is at hi
  obtain ⟨t', rfl⟩ := hi
  have hlt : k.toNat < vs.length := (List.getElem?_eq_some_iff.mp hx).1
  refine item_tupleT ht (by lia) hk (j := k.toNat) ?_ hx (h _) (hs _)
  exact seqIndex_nat h0 hlt
theorem subD {value slice : Expr} {v : Value} {ds : List D} {k : Int} {d : D} {u : Tok} {Q : Value → Shared → Prop} (S : St prog w s₀ DD b₀ env cw m cm P O s) (hv : As.is v (.tup ds) ∈ P)
    (h0 : 0 ≤ k) (hk : k < 2 ^ 63) (hd : ds[k.toNat]? = some d)
    (hs : ∀ t, subscripted slice false (.ref t) (.int k u) = operate [.ref t, .int k u] (getItem (.ref t) (.int k u)))
    (h : ∀ v', St prog w s₀ DD b₀ env cw m cm (As.is v' d :: P) O s → Q v' s) :
    wpAny (model prog w) A (subscriptTail value slice v (.int k u)) Q E s := by
  obtain ⟨b, B⟩ := S
  have hb : Is b (.tup ds) v := B.facts _ hv
  obtain ⟨a, vs, rfl, ht, hL⟩ := Is.tupOf hb
  obtain ⟨x, hx, hi⟩ := hL.get hd
  have hlt : k.toNat < vs.length := (List.getElem?_eq_some_iff.mp hx).1
  refine item_tupleT (ht.keeps B.bs) (by lia) hk (j := k.toNat) ?_ hx (h _ ⟨b, { B with facts := ?_ }⟩) (hs _)
  · exact seqIndex_nat h0 hlt
  · intro p hp
    rcases List.mem_cons.mp hp with rfl | hp
    · exact hi
    · exact B.facts p hp

theorem callF {f : Str} {fp pos : Pos} {e : Expr} {args : List Expr} {a : Addr} {fd : FuncData} {Q : Value → Shared → Prop} (S : St prog w s₀ DD b₀ env cw m cm P O s) (hk : env.scope.kind = .function)
    (hl : env.kindOf f = some .globalImplicit) (hg : env.globals = mainGlobals) (hdb : (f == ("__debug__" : Str)) = false) (hv : nsIn (Mine.hd.heap_1 w.params) mainGlobals f = some (some (.ref a))) (hfn : fnAt a fd)
    (he : starEach (e :: args) env = (false, eval e env) :: starEach args env)
    (h : wpAny (model prog w) A (spliced (backTo pos (starEach (e :: args) env))) (fun vs s₁ => (Mine.hd.heap_1 w.params).In s₁.heap ∧ wpAny (model prog w) A (call (.ref a) vs) Q E s₁) E s) :
    wpAny (model prog w) A (eval (.Call (.Name f fp) (e :: args) [] pos) env) Q E s := by
  obtain ⟨oc, od, sl, hlk⟩ := hfn w.params
  refine wpAny_Call_NameR (nmG S hk hl hg hdb hv (callWith_function (o := ⟨oc, od, .func fd, sl⟩) (fd := fd) ?_))
  rw [he] at h ⊢
  exact evalArgs_plain (wpAny_mono h (fun vs s₁ h₁ => ⟨⟨h₁.1 _ _ hlk, rfl⟩, h₁.2⟩) fun _ _ x => x)

theorem args1 {pos : Pos} {e : Expr} {rest : List Expr} {Q : List Value → Shared → Prop} {M : Model}
    (he : starEach (e :: rest) env = (false, eval e env) :: starEach rest env)
    (h : wpAny M A (eval e env) (fun v s₁ => wpAny M A (spliced (backTo pos (starEach rest env))) (fun vs s₂ => Q (v :: vs) s₂) E s₁) E s)
     : wpAny M A (spliced (backTo pos (starEach (e :: rest) env))) Q E s := wpAny_items_cons h he

theorem def_ {Rel : Value → List As → List Ow → Prop} {b : Heap} {a : Addr} {fd : FuncData} {body : List Stmt} {vals : List Value} {n : Nat}
    (r : Room A n) (hfn : fnAt a fd) (hk : Keep b s.heap) (pg : Pg w b) (hP : ∀ p ∈ P, p.on prog w b) (hO : ∀ x ∈ O, x.on prog w b s.heap ∧ b.get? x.a = none) (hDD : ∀ x ∈ O, x.a ∈ DD) (hpw : O.Pairwise (fun x y => x.a ≠ y.a))
    (binds : List (Str × Value)) (hbody : fd.body = .stmts body)
    (h : ∀ s₁ L, St prog w s DD b (callEnvC fd L a) true (bindL (callEnvC fd L a).kindOf binds fun _ => none) (bindC (callEnvC fd L a).kindOf binds fun _ => none) P O s₁ →
      wpAny (model prog w) (A.deeper (callEnvC fd L a)) (execs body (callEnvC fd L a)) (Comes prog w s DD b Rel) (fun _ _ => False) s₁)
    (hcd : codeIn (Mine.hd.heap_1 w.params) fd.code fd.qualname = true := by rfl)
    (hbind : bindArgs fd ⟨vals, []⟩ = pure binds := by rfl) (hclo : fd.closure = [] := by rfl)
    (hkind : (binds.all fun y => fd.scope.names.lookup y.1 == some .local || fd.scope.names.lookup y.1 == some .cell) = true := by rfl)
    (hco : fd.scope.isCoroutine = false := by rfl) (hgen : fd.scope.isGenerator = false := by rfl) (hkf : fd.scope.kind = .function := by rfl) :
    Does prog w A s DD b (call (.ref a) vals) Rel := by
  obtain ⟨oc, od, sl, hlk⟩ := hfn w.params
  exact does_def hk pg hP hO hDD hpw r.lim hlk hcd hbody hbind hclo (kindsX hkind) h hco hgen hkf
/-- the locals of a call whose parameters are locals all -/
noncomputable def ups (binds : List (Str × Value)) : Str → Option Value := binds.foldl (fun m y => upd m y.1 y.2) (fun _ => none)
theorem bindL_ups {k : Str → Option NameKind} : ∀ {binds : List (Str × Value)} {m : Str → Option Value}, (∀ y ∈ binds, k y.1 = some .local) → bindL k binds m = binds.foldl (fun m y => upd m y.1 y.2) m
  | [], _, _ => rfl
  | (n, v) :: r, m, h => by
    show bindL k r (if k n = some .local then upd m n v else m) = _
    rw [if_pos (h _ List.mem_cons_self)]
    exact bindL_ups fun y hy => h y (List.mem_cons_of_mem _ hy)
theorem allLoc {scope : Scope} {binds : List (Str × Value)} (e : (binds.all fun y => scope.names.lookup y.1 == some .local) = true) : ∀ y ∈ binds, scope.names.lookup y.1 = some .local := fun y hy => by
  simpa using List.all_eq_true.mp e y hy
theorem allLoc2 {scope : Scope} {binds : List (Str × Value)} (e : (binds.all fun y => scope.names.lookup y.1 == some .local) = true) : (binds.all fun y => scope.names.lookup y.1 == some .local || scope.names.lookup y.1 == some .cell) = true :=
  List.all_eq_true.mpr fun y hy => by rw [List.all_eq_true.mp e y hy, Bool.true_or]
theorem def0c {Rel : Value → List As → List Ow → Prop} {b : Heap} {a : Addr} {fd : FuncData} {body : List Stmt} {vals : List Value} {n : Nat}
    (r : Room A n) (hfn : fnAt a fd) (hk : Keep b s.heap) (pg : Pg w b) (P : List As) (hP : ∀ p ∈ P, p.on prog w b)
    (binds : List (Str × Value)) (hbody : fd.body = .stmts body)
    (h : ∀ s₁ L (Q0 : Flow → Shared → Prop), (∀ f s', Comes prog w s [] b Rel f s' → Q0 f s') → St prog w s [] b (callEnvC fd L a) true (bindL (callEnvC fd L a).kindOf binds fun _ => none) (bindC (callEnvC fd L a).kindOf binds fun _ => none) P [] s₁ →
      wpAny (model prog w) (A.deeper (callEnvC fd L a)) (execs body (callEnvC fd L a)) Q0 (fun _ _ => False) s₁)
    (hcd : codeIn (Mine.hd.heap_1 w.params) fd.code fd.qualname = true := by rfl)
    (hbind : bindArgs fd ⟨vals, []⟩ = pure binds := by rfl) (hclo : fd.closure = [] := by rfl)
    (hkind : (binds.all fun y => fd.scope.names.lookup y.1 == some .local || fd.scope.names.lookup y.1 == some .cell) = true := by rfl)
    (hco : fd.scope.isCoroutine = false := by rfl) (hgen : fd.scope.isGenerator = false := by rfl) (hkf : fd.scope.kind = .function := by rfl) :
    Does prog w A s [] b (call (.ref a) vals) Rel :=
  def_ (O := []) r hfn hk pg hP (fun _ h => (nomatch h)) (fun _ h => (nomatch h)) .nil binds hbody (fun s₁ L S => h s₁ L _ (fun _ _ x => x) S) hcd hbind hclo hkind hco hgen hkf
theorem def0 {Rel : Value → List As → List Ow → Prop} {b : Heap} {a : Addr} {fd : FuncData} {body : List Stmt} {vals : List Value} {n : Nat}
    (r : Room A n) (hfn : fnAt a fd) (hk : Keep b s.heap) (pg : Pg w b) (P : List As) (hP : ∀ p ∈ P, p.on prog w b)
    (binds : List (Str × Value)) (hbody : fd.body = .stmts body)
    (h : ∀ s₁ L (Q0 : Flow → Shared → Prop) (cm0 : Str → Option Value), (∀ f s', Comes prog w s [] b Rel f s' → Q0 f s') → St prog w s [] b (callEnvC fd L a) true (ups binds) cm0 P [] s₁ →
      wpAny (model prog w) (A.deeper (callEnvC fd L a)) (execs body (callEnvC fd L a)) Q0 (fun _ _ => False) s₁)
    (hcd : codeIn (Mine.hd.heap_1 w.params) fd.code fd.qualname = true := by rfl)
    (hbind : bindArgs fd ⟨vals, []⟩ = pure binds := by rfl) (hclo : fd.closure = [] := by rfl)
    (hkl : (binds.all fun y => fd.scope.names.lookup y.1 == some .local) = true := by rfl)
    (hco : fd.scope.isCoroutine = false := by rfl) (hgen : fd.scope.isGenerator = false := by rfl) (hkf : fd.scope.kind = .function := by rfl) :
    Does prog w A s [] b (call (.ref a) vals) Rel :=
  def0c r hfn hk pg P hP binds hbody (fun s₁ L Q0 hC S => h s₁ L Q0 _ hC (by
    have e : bindL (callEnvC fd L a).kindOf binds (fun _ => none) = ups binds := bindL_ups (allLoc hkl)
    rw [e] at S
    exact S)) hcd hbind hclo (allLoc2 hkl) hco hgen hkf
end
end Mine
end
section
set_option maxRecDepth 100000
namespace Mine
open PySem PySem.W PyProof.Rows PySem.Calls

section
variable {prog : Program} {w : World} {s₀ s : Shared} {DD : List Addr} {b₀ : Heap} {env : Env} {cw : Bool} {m cm : Str → Option Value} {P : List As} {O : List Ow}
variable {A : Around} {E : Value → Shared → Prop}

/-- arguments that are names, each with its value -/
inductive SA (env : Env) (m cm : Str → Option Value) : List Expr → List Value → Prop where
  | nil : SA env m cm [] []
  | loc {x : Str} {pos : Pos} {v : Value} {es : List Expr} {vs : List Value} (hl : env.kindOf x = some .local) (hd : (x == ("__debug__" : Str)) = false) (hv : m x = some v) (t : SA env m cm es vs) : SA env m cm (.Name x pos :: es) (v :: vs)
  | cel {x : Str} {pos : Pos} {c : Addr} {v : Value} {es : List Expr} {vs : List Value} (hl : env.kindOf x = some .cell) (hd : (x == ("__debug__" : Str)) = false) (hc : env.cells.lookup x = some c) (hv : cm x = some v) (t : SA env m cm es vs) :
      SA env m cm (.Name x pos :: es) (v :: vs)
theorem argsS {pos : Pos} {es : List Expr} {vs : List Value} (S : St prog w s₀ DD b₀ env cw m cm P O s) (hk : env.scope.kind = .function) (hv : SA env m cm es vs) : ∀ {Q : List Value → Shared → Prop}, Q vs s →
    wpAny (model prog w) A (spliced (backTo pos (starEach es env))) Q E s := by
  induction hv with
  | nil => exact fun h => wpAny_items_nil h
  | loc hl hd hv _ ih => exact fun h => args1 rfl (nmL S hk hl hv hd (ih h))
  | cel hl hd hc hv _ ih => exact fun h => args1 rfl (nmC S hk hl hc hv hd (ih h))
end
end Mine
end
section
set_option maxRecDepth 100000
namespace Mine
open PySem PySem.W PyProof.Rows PySem.Calls

section
variable {M : Model} {A : Around} {env : Env} {E : Value → Shared → Prop} {s : Shared}
/-! what waits behind an expression, each under a name -/
@[reducible] noncomputable def BinQ2 (M : Model) (A : Around) (op : Operator) (a : Value) (Q E : Value → Shared → Prop) : Value → Shared → Prop := fun b s₂ => wpAny M A (binaryOp op a b) Q E s₂
@[reducible] noncomputable def BinQ (M : Model) (A : Around) (env : Env) (op : Operator) (r : Expr) (Q E : Value → Shared → Prop) : Value → Shared → Prop := fun a s₁ => wpAny M A (eval r env) (BinQ2 M A op a Q E) E s₁
theorem xBin {l op r pos} {Q : Value → Shared → Prop} (h : wpAny M A (eval l env) (BinQ M A env op r Q E) E s) : wpAny M A (eval (.BinOp l op r pos) env) Q E s := wpAny_BinOp h
@[reducible] noncomputable def CmpQ2 (M : Model) (A : Around) (op : CmpOp) (a : Value) (Q E : Value → Shared → Prop) : Value → Shared → Prop := fun b s₂ => wpAny M A (compareOp op a b) Q E s₂
@[reducible] noncomputable def CmpQ (M : Model) (A : Around) (env : Env) (op : CmpOp) (r : Expr) (Q E : Value → Shared → Prop) : Value → Shared → Prop := fun a s₁ => wpAny M A (eval r env) (CmpQ2 M A op a Q E) E s₁
theorem xCmp {l op r pos} {Q : Value → Shared → Prop} (h : wpAny M A (eval l env) (CmpQ M A env op r Q E) E s) (hm : behindInMarks op r = false) :
    wpAny M A (eval (.Compare l [op] [r] pos) env) Q E s := wpAny_Compare1 h hm
@[reducible] noncomputable def TruQ (M : Model) (A : Around) (Q : Bool → Shared → Prop) (E : Value → Shared → Prop) : Value → Shared → Prop := fun c s₃ => wpAny M A (truthy c) Q E s₃
theorem xTCmp {l op r pos whole} {Q : Bool → Shared → Prop} (h : wpAny M A (eval l env) (CmpQ M A env op r (TruQ M A Q E) E) E s) (hm : behindInMarks op r = false) :
    wpAny M A (isTrue (.Compare l [op] [r] pos) env whole) Q E s := wpAny_isTrue_Compare1 h hm
theorem xTVal {e : Expr} {whole : Sem Value} {Q : Bool → Shared → Prop} (h : wpAny M A whole (TruQ M A Q E) E s)
    (he : isTrue e env whole = (do let v ← whole; standAt e.pos; holding [v] (truthy v))) : wpAny M A (isTrue e env whole) Q E s := wpAny_isTrue_value h he
@[reducible] noncomputable def NxtQ (Q : Flow → Shared → Prop) : Unit → Shared → Prop := fun _ => Q .next
@[reducible] noncomputable def StoQ (M : Model) (A : Around) (env : Env) (x : Str) (Q : Flow → Shared → Prop) (E : Value → Shared → Prop) : Value → Shared → Prop := fun v s₁ => wpAny M A (storeName env x v) (NxtQ Q) E s₁
theorem xAsg {x pos' value pos} {Q : Flow → Shared → Prop} (h : wpAny M A (eval value env) (StoQ M A env x Q E) E s) (hs : swapsWith value (some (.Name x pos')) pos.line env = pure false) :
    wpAny M A (exec (.Assign [.Name x pos'] value pos) env) Q E s := wpAny_Assign_Name h hs
@[reducible] noncomputable def AugQ2 (M : Model) (A : Around) (env : Env) (op : Operator) (x : Str) (old : Value) (Q : Flow → Shared → Prop) (E : Value → Shared → Prop) : Value → Shared → Prop := fun v s₂ => wpAny M A (inplaceOp op old v) (StoQ M A env x Q E) E s₂
@[reducible] noncomputable def AugQ (M : Model) (A : Around) (env : Env) (op : Operator) (x : Str) (value : Expr) (Q : Flow → Shared → Prop) (E : Value → Shared → Prop) : Value → Shared → Prop := fun old s₁ => wpAny M A (eval value env) (AugQ2 M A env op x old Q E) E s₁
theorem xAug {x pos' op value pos} {Q : Flow → Shared → Prop} (h : wpAny M A (loadName env x) (AugQ M A env op x value Q E) E s) : wpAny M A (exec (.AugAssign (.Name x pos') op value pos) env) Q E s := wpAny_AugAssign_Name h
@[reducible] noncomputable def ConsQ (v : Value) (Q : List Value → Shared → Prop) : List Value → Shared → Prop := fun vs s₂ => Q (v :: vs) s₂
@[reducible] noncomputable def ArgQ (M : Model) (A : Around) (env : Env) (pos : Pos) (rest : List Expr) (Q : List Value → Shared → Prop) (E : Value → Shared → Prop) : Value → Shared → Prop := fun v s₁ => wpAny M A (spliced (backTo pos (starEach rest env))) (ConsQ v Q) E s₁
theorem xArg {pos : Pos} {e : Expr} {rest : List Expr} {Q : List Value → Shared → Prop} (he : starEach (e :: rest) env = (false, eval e env) :: starEach rest env)
    (h : wpAny M A (eval e env) (ArgQ M A env pos rest Q E) E s) : wpAny M A (spliced (backTo pos (starEach (e :: rest) env))) Q E s := args1 he h
@[reducible] noncomputable def SubQ2 (M : Model) (A : Around) (value slice : Expr) (o : Value) (Q E : Value → Shared → Prop) : Value → Shared → Prop := fun i s₂ => wpAny M A (subscriptTail value slice o i) Q E s₂
@[reducible] noncomputable def SubQ (M : Model) (A : Around) (env : Env) (value slice : Expr) (Q E : Value → Shared → Prop) : Value → Shared → Prop := fun o s₁ => wpAny M A (eval slice env) (SubQ2 M A value slice o Q E) E s₁
theorem xSub {value slice pos} {Q : Value → Shared → Prop} (h : wpAny M A (eval value env) (SubQ M A env value slice Q E) E s) : wpAny M A (eval (.Subscript value slice pos) env) Q E s := Subscript_ h
@[reducible] noncomputable def UnQ (M : Model) (A : Around) (op : UnaryOp) (Q E : Value → Shared → Prop) : Value → Shared → Prop := fun v s₁ => wpAny M A (unaryOp op v) Q E s₁
theorem xUn {op : UnaryOp} {x : Expr} {pos : Pos} {Q : Value → Shared → Prop} (h : wpAny M A (eval x env) (UnQ M A op Q E) E s) : wpAny M A (eval (.UnaryOp op x pos) env) Q E s := wpAny_UnaryOp h
@[reducible] noncomputable def RetQ (Q : Flow → Shared → Prop) : Value → Shared → Prop := fun v => Q (.ret v)
theorem xRet {e : Expr} {pos : Pos} {rest : List Stmt} {Q : Flow → Shared → Prop} (h : wpAny M A (eval e env) (RetQ Q) E s) : wpAny M A (execs (.Return (some e) pos :: rest) env) Q E s := retLast h
theorem xRet1 {e pos} {Q : Flow → Shared → Prop} (h : wpAny M A (eval e env) (RetQ Q) E s) : wpAny M A (exec (.Return (some e) pos) env) Q E s := wpAny_Return_some h
@[reducible] noncomputable def ItQ (M : Model) (A : Around) (K E : Value → Shared → Prop) : Value → Shared → Prop := fun x s₁ => wpAny M A (pyIter x) K E s₁
@[reducible] noncomputable def EvQ (M : Model) (A : Around) (env : Env) (e : Expr) (Q E : Value → Shared → Prop) : Unit → Shared → Prop := fun _ s₂ => wpAny M A (eval e env) Q E s₂
@[reducible] noncomputable def ExQ (M : Model) (A : Around) (env : Env) (b : List Stmt) (Q : Flow → Shared → Prop) (E : Value → Shared → Prop) : Unit → Shared → Prop := fun _ s₂ => wpAny M A (execs b env) Q E s₂
end
end Mine
end
section
set_option maxRecDepth 100000
namespace Mine
open PySem PySem.W PyProof.Rows PySem.Calls

section
variable {prog : Program} {w : World} {s₀ s : Shared} {DD : List Addr} {b₀ : Heap} {env : Env} {cw : Bool} {m cm : Str → Option Value} {P : List As} {O : List Ow}
variable {A : Around} {E : Value → Shared → Prop}

/-! tuples -/
theorem mkTv {vs : List Value} {Q : Value → Shared → Prop} (S : St prog w s₀ DD b₀ env cw m cm P O s) (hl : vs.length ≤ 1000)
    (h : ∀ v s', St prog w s₀ DD b₀ env cw m cm (As.tv v vs :: P) O s' → Q v s') : TupEnd Q vs s := by
  refine ⟨few hl, h _ _ ?_⟩
  refine S.fact (tk := s.toks) (F := [As.tv (.ref s.heap.objs.size) vs]) (keep_push _ _) (Nat.le_refl _) (Heap.get?_push_size _ rfl) fun b' hP ho p hp => ?_
  obtain rfl := List.mem_singleton.mp hp
  exact ⟨_, rfl, _, ho, rfl, _, rfl⟩

theorem mkList {vs : List Value} {Q : Value → Shared → Prop} (S : St prog w s₀ DD b₀ env cw m cm P O s) (hl : vs.length ≤ 1000)
    (h : ∀ a s', St prog w s₀ DD b₀ env cw m cm P (Ow.list a vs :: O) s' → Q (.ref a) s') : ListEnd Q vs s := by
  refine ⟨few hl, h _ _ ?_⟩
  exact S.owns (tk := s.toks) (x := Ow.list s.heap.objs.size vs) (keep_push _ _) (Nat.le_refl _) fun b _ _ => ⟨_, Heap.get?_push_size _ rfl⟩

theorem St.split {v : Value} {ds : List D} (S : St prog w s₀ DD b₀ env cw m cm P O s) (hv : As.is v (.tup ds) ∈ P) :
    ∃ vs, vs.length = ds.length ∧ St prog w s₀ DD b₀ env cw m cm (As.tv v vs :: As.iss vs ds :: P) O s := by
  obtain ⟨b, B⟩ := S
  obtain ⟨a, vs, rfl, ht, hL⟩ := Is.tupOf (show Is b (.tup ds) v from B.facts _ hv)
  refine ⟨vs, hL.length, b, { B with facts := fun p hp => ?_ }⟩
  rcases List.mem_cons.mp hp with rfl | hp
  · exact ⟨a, rfl, ht⟩
  · rcases List.mem_cons.mp hp with rfl | hp
    · exact hL
    · exact B.facts p hp
theorem St.intOf {v : Value} {i : Int} (S : St prog w s₀ DD b₀ env cw m cm P O s) (hv : As.is v (.int i) ∈ P) : ∃ t, v = .int i t := by
  have := S.has hv
  unfold As.on Is at this
  exact this
theorem St.noneOf {v : Value} (S : St prog w s₀ DD b₀ env cw m cm P O s) (hv : As.is v .none ∈ P) : v = .none := by
  have := S.has hv
  unfold As.on Is at this
  exact this

/-! assignments to two names -/
theorem extKept (S : St prog w s₀ DD b₀ env cw m cm P O s) {h' : Heap} (hx : Heap.ExtBut s.heap.objs.size s.heap h') (tk : Nat) : St prog w s₀ DD b₀ env cw m cm P O { s with heap := h', toks := tk } :=
  S.kept fun a o e => hx a o (Nat.ne_of_lt (Heap.lt_size e)) e

/-- two values on their way into two names -/
noncomputable def TT (prog : Program) (w : World) (A : Around) (E : Value → Shared → Prop) (env : Env) (x1 x2 : Str) (Q : Shared → Prop) (vs : List Value) (s₁ : Shared) : Prop :=
  ∃ v1 v2 s₀ DD b₀ cw m cm P O, vs = [v1, v2] ∧ St prog w s₀ DD b₀ env cw m cm P O s₁ ∧
    ∀ s₂, St prog w s₀ DD b₀ env cw m cm P O s₂ → wpAny (model prog w) A (storeName env x2 v2) (fun _ s₃ => wpAny (model prog w) A (storeName env x1 v1) (fun _ s₄ => Q s₄) E s₃) E s₂
theorem TT.mk {x1 x2 : Str} {Q : Shared → Prop} {v1 v2 : Value} (S : St prog w s₀ DD b₀ env cw m cm P O s)
    (h : ∀ s₂, St prog w s₀ DD b₀ env cw m cm P O s₂ → wpAny (model prog w) A (storeName env x2 v2) (fun _ s₃ => wpAny (model prog w) A (storeName env x1 v1) (fun _ s₄ => Q s₄) E s₃) E s₂) :
    TT prog w A E env x1 x2 Q [v1, v2] s := ⟨_, _, _, _, _, _, _, _, _, _, rfl, S, h⟩
theorem asgTT {x1 x2 : Str} {p1 p2 pt pt2 pos : Pos} {k k2 : Nat} {e1 e2 : Expr} {Q : Flow → Shared → Prop} (hh : A.handled = none)
    (hsole : swapsWithSole [.Tuple [.Name x1 p1, .Name x2 p2] k pt] (.Tuple [e1, e2] k2 pt2) pos.line env = pure false)
    (hsw : swappedStores [.Tuple [.Name x1 p1, .Name x2 p2] k pt] (.Tuple [e1, e2] k2 pt2) env = pure (some [x1, x2]))
    (h : wpAny (model prog w) A (spliced (backTo pt2 (starEach [e1, e2] env))) (TT prog w A E env x1 x2 (Q .next)) E s) :
    wpAny (model prog w) A (exec (.Assign [.Tuple [.Name x1 p1, .Name x2 p2] k pt] (.Tuple [e1, e2] k2 pt2) pos) env) Q E s := by
  rw [exec_Assign_arm]
  refine wpAny_bind (wpAny_standAt ?_)
  rw [hsole]
  refine wpAny_bind (wpAny_pure ?_)
  rw [if_neg (by decide)]
  refine wpAny_bind (wpAny_Tuple (wpAny_mono h (fun vs s₁ h₁ => ?_) fun _ _ x => x))
  obtain ⟨v1, v2, s₀, DD, b₀, cw, m, cm, P, O, rfl, S, hst⟩ := h₁
  refine ⟨show 2 ≤ sizeLine by (rw [sizeLine]; decide), ?_⟩
  rw [hsw]
  refine wpAny_bind (wpAny_pure ?_)
  unfold assignStores
  refine wpAny_bind (wpAny_rule ?_)
  have ht : (s₁.heap.push { cls := .type "tuple", data := .seq [v1, v2].toArray }).IsTuple s₁.heap.objs.size #[v1, v2] := ⟨_, Heap.get?_push_size _ rfl, rfl, _, rfl⟩
  refine wpAny_bind (wpAny_unpackItems_tuple (items := #[v1, v2]) (s := { s₁ with heap := s₁.heap.push { cls := .type "tuple", data := .seq [v1, v2].toArray } }) hh ht fun h' hx => ?_)
  have S2 := extKept (S.push { cls := .type "tuple", data := .seq [v1, v2].toArray } s₁.toks) hx s₁.toks
  show wpAny _ _ (do assignInOrder [fun v => bindName env x2 v, fun v => bindName env x1 v] [v2, v1]; pure .next) Q E _
  refine wpAny_bind ?_
  show wpAny _ _ (do holding [v1] (bindName env x2 v2); (do holding [] (bindName env x1 v1); pure ())) _ E _
  refine wpAny_bind (wpAny_holding (wpAny_bindName (wpAny_mono (hst _ S2) (fun _ s₃ h₃ => ?_) fun _ _ x => x)))
  refine wpAny_bind (wpAny_holding (wpAny_bindName (wpAny_mono h₃ (fun _ s₄ h₄ => wpAny_pure (wpAny_pure h₄)) fun _ _ x => x)))

theorem assign2 {x1 x2 : Str} {p1 p2 pt : Pos} {k : Nat} {v v1 v2 : Value} {Q : Unit → Shared → Prop} (hh : A.handled = none) (S : St prog w s₀ DD b₀ env cw m cm P O s) (hv : As.tv v [v1, v2] ∈ P)
    (h : ∀ s₂, St prog w s₀ DD b₀ env cw m cm P O s₂ → wpAny (model prog w) A (storeName env x1 v1) (fun _ s₃ => wpAny (model prog w) A (storeName env x2 v2) (fun _ s₄ => Q () s₄) E s₃) E s₂) :
    wpAny (model prog w) A (assign (.Tuple [.Name x1 p1, .Name x2 p2] k pt) env v) Q E s := by
  obtain ⟨a, rfl, ht⟩ := S.has hv
  refine wpAny_assign_Tuple hh ht rfl rfl fun h' hx => ?_
  show wpAny _ _ (do holding [v2] (assign (.Name x1 p1) env v1); (do holding [] (assign (.Name x2 p2) env v2); pure ())) _ E _
  refine wpAny_bind (wpAny_holding (wpAny_assign_Name (wpAny_mono (h _ (extKept S hx s.toks)) (fun _ s₃ h₃ => ?_) fun _ _ x => x)))
  refine wpAny_bind (wpAny_holding (wpAny_assign_Name (wpAny_mono h₃ (fun _ s₄ h₄ => wpAny_pure h₄) fun _ _ x => x)))

theorem asgTV {x1 x2 : Str} {p1 p2 pt pos : Pos} {k : Nat} {e : Expr} {Q : Flow → Shared → Prop}
    (hsole : swapsWithSole [.Tuple [.Name x1 p1, .Name x2 p2] k pt] e pos.line env = pure false)
    (hsw : swappedStores [.Tuple [.Name x1 p1, .Name x2 p2] k pt] e env = pure none)
    (h : wpAny (model prog w) A (eval e env) (fun v s₁ => wpAny (model prog w) A (assign (.Tuple [.Name x1 p1, .Name x2 p2] k pt) env v) (fun _ => Q .next) E s₁) E s) :
    wpAny (model prog w) A (exec (.Assign [.Tuple [.Name x1 p1, .Name x2 p2] k pt] e pos) env) Q E s := by
  refine wpAny_Assign_stores (wpAny_mono h (fun v s₁ h₁ => ?_) fun _ _ x => x) hsole hsw
  exact h₁

/-! loops, one turn -/
/-- what holds at the end of a loop's body -/
@[reducible] noncomputable def LoopQ (prog : Program) (w : World) (A : Around) (c : Code) (R : Result → Shared → Prop) : Flow → Shared → Prop := fun f s₃ => match f with
  | .next | .cont => codeAny (model prog w) A c R s₃
  | .brk => R (.ok .next) s₃
  | .ret v => R (.ok (.ret v)) s₃
theorem while_step {test : Expr} {body orelse : List Stmt} {R : Result → Shared → Prop}
    (h : wpAny (model prog w) A (isTrue test env (eval test env)) (fun b s₂ =>
        if b then wpAny (model prog w) A (execs body env) (LoopQ prog w A (.whileLoop test body orelse env) R) (fun _ _ => False) s₂
        else wpAny (model prog w) A (execs orelse env) (fun f s₃ => R (.ok f) s₃) (fun _ _ => False) s₂)
        (fun _ _ => False) s) : codeAny (model prog w) A (.whileLoop test body orelse env) R s := by
  refine codeAny_of_tree ?_
  show wpAny _ A ((whileTurn test body orelse env).onRaise (fun x => do noteFrame x env; theTreesLotGoes x)) _ _ s
  refine wpAny_noted ?_
  simp only [whileTurn]
  refine wpAny_bind (wpAny_mono h (fun b s₂ h₂ => ?_) fun _ _ h' => h'.elim)
  cases b with
  | false =>
    simp only [Bool.false_eq_true, if_false] at h₂ ⊢
    exact wpAny_bind (wpAny_mono h₂ (fun f s₃ h₃ => wpAny_pure h₃) fun _ _ h' => h'.elim)
  | true =>
    simp only [if_true] at h₂ ⊢
    refine wpAny_bind (wpAny_mono h₂ (fun f s₃ h₃ => ?_) fun _ _ h' => h'.elim)
    cases f with
    | next => exact wpAny_pure ⟨rfl, h₃⟩
    | cont => exact wpAny_pure ⟨rfl, h₃⟩
    | brk => exact wpAny_pure h₃
    | ret v => exact wpAny_pure h₃

theorem for_step {target : Expr} {it : Value} {body orelse : List Stmt} {R : Result → Shared → Prop}
    (h : wpAny (model prog w) A (pyNext it) (fun r s₁ => match r with
      | none => wpAny (model prog w) A (execs orelse env) (fun f s₃ => R (.ok f) s₃) (fun _ _ => False) s₁
      | some v => wpAny (model prog w) A (letOwnedTupleGo target it v) (fun _ s₁' =>
          wpAny (model prog w) A (assign target env v) (fun _ s₂ => wpAny (model prog w) A (execs body env) (LoopQ prog w A (.forLoop target it body orelse env) R) (fun _ _ => False) s₂) (fun _ _ => False) s₁') (fun _ _ => False) s₁) (fun _ _ => False) s) :
    codeAny (model prog w) A (.forLoop target it body orelse env) R s := by
  refine codeAny_of_tree ?_
  show wpAny _ A ((forTurn target it body orelse env).onRaise (fun x => do noteFrame x env; theTreesLotGoes x)) _ _ s
  refine wpAny_noted ?_
  simp only [forTurn]
  refine wpAny_bind (wpAny_standAt (wpAny_bind (wpAny_onRaise (wpAny_mono h (fun r s₁ h₁ => ?_) fun _ _ h' => h'.elim))))
  cases r with
  | none => exact wpAny_pure ⟨rfl, codeAny_block (wpAny_mono h₁ (fun _ _ x => x) fun _ _ h' => h'.elim)⟩
  | some v =>
    refine wpAny_bind (wpAny_mono h₁ (fun _ s₁' h₁' => ?_) fun _ _ h' => h'.elim)
    refine wpAny_bind (wpAny_mono h₁' (fun _ s₂ h₂ => wpAny_bind (wpAny_mono h₂ (fun f s₃ h₃ => ?_) fun _ _ h' => h'.elim)) fun _ _ h' => h'.elim)
    cases f with
    | next => exact wpAny_pure ⟨rfl, h₃⟩
    | cont => exact wpAny_pure ⟨rfl, h₃⟩
    | brk => exact wpAny_pure h₃
    | ret v => exact wpAny_pure h₃

theorem whileS {test body orelse pos} {Q : Flow → Shared → Prop}
    (h : ∀ (RG : Result → Shared → Prop) (_hRG : ∀ r s', Lp Q r s' → RG r s'), codeAny (model prog w) A (.whileLoop test body orelse env) RG s) :
    wpAny (model prog w) A (exec (.While test body orelse pos) env) Q E s :=
  wpAny_While (codeAny_mono (h _ fun _ _ x => x) fun r _ x => by cases r; exact x.elim; exact x)
@[reducible] noncomputable def ForGo (prog : Program) (w : World) (A : Around) (env : Env) (target : Expr) (body orelse : List Stmt) (R : Result → Shared → Prop) : Value → Shared → Prop := fun it s₂ => codeAny (model prog w) A (.forLoop target it body orelse env) R s₂
theorem forS {target iter body orelse pos} {Q : Flow → Shared → Prop}
    (h : ∀ R : Result → Shared → Prop, (∀ r s', Lp Q r s' → R r s') → wpAny (model prog w) A (eval iter env) (ItQ (model prog w) A (ForGo prog w A env target body orelse R) E) E s)
    (hs : ∀ x, foldedSetIterable iter env x = pure x) :
    wpAny (model prog w) A (exec (.For target iter body orelse pos) env) Q E s :=
  wpAny_For (wpAny_mono (h _ fun _ _ x => x) (fun _ _ h₁ => wpAny_mono h₁ (fun _ _ h₂ => codeAny_mono h₂ fun r _ x => by cases r; exact x.elim; exact x) fun _ _ x => x) fun _ _ x => x) hs
end
theorem St.end1 {prog : Program} {w : World} {s₀ s : Shared} {DD : List Addr} {b₀ : Heap} {env : Env} {cw : Bool} {m cm : Str → Option Value} {P : List As} {O : List Ow} {v : Value} {p : As} {Rel : Value → List As → List Ow → Prop}
    (S : St prog w s₀ DD b₀ env cw m cm P O s) (hR : Rel v [p] []) (hp : p ∈ P) : Comes prog w s₀ DD b₀ Rel (.ret v) s :=
  S.comes (F := [p]) (N := []) hR (fun _ h q hq => by obtain rfl := List.mem_singleton.mp hq; exact h _ hp) (List.nil_sublist _)
theorem St.end0 {prog : Program} {w : World} {s₀ s : Shared} {DD : List Addr} {b₀ : Heap} {env : Env} {cw : Bool} {m cm : Str → Option Value} {P : List As} {O : List Ow} {f : Flow} {Rel : Value → List As → List Ow → Prop}
    (S : St prog w s₀ DD b₀ env cw m cm P O s) (hR : Rel (retOf f) [] []) : Comes prog w s₀ DD b₀ Rel f s :=
  S.comes (F := []) (N := []) hR (fun _ _ q hq => (nomatch hq)) (List.nil_sublist _)

noncomputable abbrev Rl := Value → List As → List Ow → Prop
noncomputable def RInt (i : Int) : Rl := fun v F N => (∃ t, v = .int i t) ∧ F = [] ∧ N = []
noncomputable def RIs (d : D) : Rl := fun v F N => F = [As.is v d] ∧ N = []
noncomputable def RBool (x : Bool) : Rl := fun v F N => v = .bool x ∧ F = [] ∧ N = []
noncomputable def RNone : Rl := fun v F N => v = .none ∧ F = [] ∧ N = []

section
variable {prog : Program} {w : World} {s₀ s : Shared} {DD : List Addr} {b b₀ : Heap} {env : Env} {cw : Bool} {m cm : Str → Option Value} {P : List As} {O : List Ow}
variable {A : Around} {E : Value → Shared → Prop}

theorem iNe {a c : Int} {t u : Tok} {Q : Value → Shared → Prop} (h : Q (.bool (a != c)) s) : wpAny (model prog w) A (compareOp .NotEq (.int a t) (.int c u)) Q E s := PySem.P.ne_int h
theorem iLt {a c : Int} {t u : Tok} {Q : Value → Shared → Prop} (h : Q (.bool (decide (a < c))) s) : wpAny (model prog w) A (compareOp .Lt (.int a t) (.int c u)) Q E s := PySem.P.lt_int h
theorem iGt {a c : Int} {t u : Tok} {Q : Value → Shared → Prop} (h : Q (.bool (decide (a > c))) s) : wpAny (model prog w) A (compareOp .Gt (.int a t) (.int c u)) Q E s := PySem.P.gt_int h
theorem iEq {a c : Int} {t u : Tok} {Q : Value → Shared → Prop} (h : Q (.bool (a == c)) s) : wpAny (model prog w) A (compareOp .Eq (.int a t) (.int c u)) Q E s := PySem.P.eq_int h
theorem iMod {a c : Int} {t u : Tok} {Q : Value → Shared → Prop} (S : St prog w s₀ DD b₀ env cw m cm P O s) (hc : c ≠ 0) (h : ∀ t s', St prog w s₀ DD b₀ env cw m cm P O s' → Q (.int (a.fmod c) t) s') :
    wpAny (model prog w) A (binaryOp .Mod (.int a t) (.int c u)) Q E s := mod_int' hc (h _ _ (S.tok _))
theorem callB {f : Str} {fp pos : Pos} {e : Expr} {args : List Expr} {id : String} {Q : Value → Shared → Prop} (S : St prog w s₀ DD b₀ env cw m cm P O s) (hk : env.scope.kind = .function)
    (hl : env.kindOf f = some .globalImplicit) (hg : env.globals = mainGlobals) (hb : env.builtins = builtinsNs) (hdb : (f == ("__debug__" : Str)) = false) (hv : nsIn (Mine.hd.heap_1 w.params) mainGlobals f = some none)
    (hn : f ≠ "__name__") (hbv : bootBuiltins f = some (.builtin id))
    (he : starEach (e :: args) env = (false, eval e env) :: starEach args env) (hpl : (backTo pos (starEach (e :: args) env)).any (·.1) = false)
    (h : wpAny (model prog w) A (spliced (backTo pos (starEach (e :: args) env))) (fun vs s₁ => wpAny (model prog w) A (call (.builtin id) vs) Q E s₁) E s) :
    wpAny (model prog w) A (eval (.Call (.Name f fp) (e :: args) [] pos) env) Q E s := by
  refine wpAny_Call_NameR (nmB S hk hl hg hb hdb hv hn hbv (callWith_builtin hpl ?_))
  rw [he] at h ⊢
  exact evalArgs_plain (wpAny_mono h (fun vs s₁ h₁ => h₁) fun _ _ x => x)
theorem callT {f : Str} {fp pos : Pos} {e : Expr} {args : List Expr} {T : String} {Q : Value → Shared → Prop} (S : St prog w s₀ DD b₀ env cw m cm P O s) (hk : env.scope.kind = .function)
    (hl : env.kindOf f = some .globalImplicit) (hg : env.globals = mainGlobals) (hb : env.builtins = builtinsNs) (hdb : (f == ("__debug__" : Str)) = false) (hv : nsIn (Mine.hd.heap_1 w.params) mainGlobals f = some none)
    (hn : f ≠ "__name__") (hbv : bootBuiltins f = some (.type T))
    (he : starEach (e :: args) env = (false, eval e env) :: starEach args env) (hpl : (backTo pos (starEach (e :: args) env)).any (·.1) = false)
    (h : wpAny (model prog w) A (spliced (backTo pos (starEach (e :: args) env))) (fun vs s₁ => wpAny (model prog w) A (call (.type T) vs) Q E s₁) E s) :
    wpAny (model prog w) A (eval (.Call (.Name f fp) (e :: args) [] pos) env) Q E s := by
  refine wpAny_Call_NameR (nmB S hk hl hg hb hdb hv hn hbv (PySem.callWith_type hpl ?_))
  rw [he] at h ⊢
  exact evalArgs_plain (wpAny_mono h (fun vs s₁ h₁ => h₁) fun _ _ x => x)
theorem bAbs {a : Int} {t : Tok} {Q : Value → Shared → Prop} (S : St prog w s₀ DD b₀ env cw m cm P O s) (h : ∀ t s', St prog w s₀ DD b₀ env cw m cm P O s' → Q (.int a.natAbs t) s') :
    wpAny (model prog w) A (call (.builtin "abs") [.int a t]) Q E s := by
  refine call_abs_int fun u tk => ?_
  have e : (if a < 0 then -a else a) = (a.natAbs : Int) := by split <;> omega
  rw [e]
  exact h _ _ (S.tok tk)
end


section
variable {prog : Program} {w : World} {s₀ s : Shared} {DD : List Addr} {b b₀ : Heap} {env : Env} {cw : Bool} {m cm : Str → Option Value} {P : List As} {O : List Ow}
variable {A : Around} {E : Value → Shared → Prop}
/-- one rational's item -/
theorem subR0 {value slice : Expr} {v : Value} {q : Rat} {u : Tok} {Q : Value → Shared → Prop} (S : St prog w s₀ DD b₀ env cw m cm P O s) (hv : As.is v (dR q) ∈ P)
    (hs : ∀ t, subscripted slice false (.ref t) (.int 0 u) = operate [.ref t, .int 0 u] (getItem (.ref t) (.int 0 u)))
    (h : ∀ t', Q (.int q.num t') s) : wpAny (model prog w) A (subscriptTail value slice v (.int 0 u)) Q E s := subI S hv (by decide) (by decide) rfl hs h
theorem subR1 {value slice : Expr} {v : Value} {q : Rat} {u : Tok} {Q : Value → Shared → Prop} (S : St prog w s₀ DD b₀ env cw m cm P O s) (hv : As.is v (dR q) ∈ P)
    (hs : ∀ t, subscripted slice false (.ref t) (.int 1 u) = operate [.ref t, .int 1 u] (getItem (.ref t) (.int 1 u)))
    (h : ∀ t', Q (.int (q.den : Int) t') s) : wpAny (model prog w) A (subscriptTail value slice v (.int 1 u)) Q E s := subI S hv (by decide) (by decide) rfl hs h
theorem subM0 {value slice : Expr} {v : Value} {q : Mono} {u : Tok} {Q : Value → Shared → Prop} (S : St prog w s₀ DD b₀ env cw m cm P O s) (hv : As.is v (dM q) ∈ P)
    (hs : ∀ t, subscripted slice false (.ref t) (.int 0 u) = operate [.ref t, .int 0 u] (getItem (.ref t) (.int 0 u)))
    (h : ∀ t', Q (.int q.1 t') s) : wpAny (model prog w) A (subscriptTail value slice v (.int 0 u)) Q E s := subI S hv (by decide) (by decide) rfl hs h
theorem subM1 {value slice : Expr} {v : Value} {q : Mono} {u : Tok} {Q : Value → Shared → Prop} (S : St prog w s₀ DD b₀ env cw m cm P O s) (hv : As.is v (dM q) ∈ P)
    (hs : ∀ t, subscripted slice false (.ref t) (.int 1 u) = operate [.ref t, .int 1 u] (getItem (.ref t) (.int 1 u)))
    (h : ∀ t', Q (.int q.2 t') s) : wpAny (model prog w) A (subscriptTail value slice v (.int 1 u)) Q E s := subI S hv (by decide) (by decide) rfl hs h
theorem mems1 {p : As} {Q : As → Prop} (h : Q p) : ∀ x ∈ [p], Q x := fun _ hx => by obtain rfl := List.mem_singleton.mp hx; exact h
theorem mems2 {p q : As} {Q : As → Prop} (h : Q p) (h' : Q q) : ∀ x ∈ [p, q], Q x := fun x hx => by
  rcases List.mem_cons.mp hx with rfl | hx
  · exact h
  · exact mems1 h' x hx
theorem mems3 {p q r : As} {Q : As → Prop} (h : Q p) (h' : Q q) (h'' : Q r) : ∀ x ∈ [p, q, r], Q x := fun x hx => by
  rcases List.mem_cons.mp hx with rfl | hx
  · exact h
  · exact mems2 h' h'' x hx


theorem useIs {t : Sem Value} {d : D} {Q : Value → Shared → Prop} (S : St prog w s₀ DD b₀ env cw m cm P O s) (hd : ∀ b, Keep b s.heap → Pg w b → (∀ p ∈ P, p.on prog w b) → Does prog w A s [] b t (RIs d))
    (h : ∀ v s', St prog w s₀ DD b₀ env cw m cm (As.is v d :: P) O s' → Q v s') : (Mine.hd.heap_1 w.params).In s.heap ∧ wpAny (model prog w) A t Q E s := by
  refine ⟨S.inK, S.does0 (fun b k pg hP _ => hd b k pg hP) fun v s' F N hR S' => ?_⟩
  obtain ⟨rfl, rfl⟩ := hR
  exact h v s' S'
theorem useBool {t : Sem Value} {x : Bool} {Q : Value → Shared → Prop} (S : St prog w s₀ DD b₀ env cw m cm P O s) (hd : ∀ b, Keep b s.heap → Pg w b → (∀ p ∈ P, p.on prog w b) → Does prog w A s [] b t (RBool x))
    (h : ∀ s', St prog w s₀ DD b₀ env cw m cm P O s' → Q (.bool x) s') : (Mine.hd.heap_1 w.params).In s.heap ∧ wpAny (model prog w) A t Q E s := by
  refine ⟨S.inK, S.does0 (fun b k pg hP _ => hd b k pg hP) fun v s' F N hR S' => ?_⟩
  obtain ⟨rfl, rfl, rfl⟩ := hR
  exact h s' S'
end
end Mine
end
section
set_option maxRecDepth 100000
namespace Mine
open PySem PySem.W PyProof.Rows PySem.Calls

noncomputable def F39 : { fd : FuncData // fnAt 39 fd } := ⟨_, fun P => ⟨_, _, _, by rfl⟩⟩
noncomputable def F44 : { fd : FuncData // fnAt 44 fd } := ⟨_, fun P => ⟨_, _, _, by rfl⟩⟩
noncomputable def F51 : { fd : FuncData // fnAt 51 fd } := ⟨_, fun P => ⟨_, _, _, by rfl⟩⟩
noncomputable def F56 : { fd : FuncData // fnAt 56 fd } := ⟨_, fun P => ⟨_, _, _, by rfl⟩⟩
noncomputable def F61 : { fd : FuncData // fnAt 61 fd } := ⟨_, fun P => ⟨_, _, _, by rfl⟩⟩
noncomputable def F66 : { fd : FuncData // fnAt 66 fd } := ⟨_, fun P => ⟨_, _, _, by rfl⟩⟩
noncomputable def F73 : { fd : FuncData // fnAt 73 fd } := ⟨_, fun P => ⟨_, _, _, by rfl⟩⟩
noncomputable def F80 : { fd : FuncData // fnAt 80 fd } := ⟨_, fun P => ⟨_, _, _, by rfl⟩⟩
noncomputable def F89 : { fd : FuncData // fnAt 89 fd } := ⟨_, fun P => ⟨_, _, _, by rfl⟩⟩
noncomputable def F96 : { fd : FuncData // fnAt 96 fd } := ⟨_, fun P => ⟨_, _, _, by rfl⟩⟩
noncomputable def F103 : { fd : FuncData // fnAt 103 fd } := ⟨_, fun P => ⟨_, _, _, by rfl⟩⟩
noncomputable def F110 : { fd : FuncData // fnAt 110 fd } := ⟨_, fun P => ⟨_, _, _, by rfl⟩⟩
noncomputable def F117 : { fd : FuncData // fnAt 117 fd } := ⟨_, fun P => ⟨_, _, _, by rfl⟩⟩
noncomputable def F124 : { fd : FuncData // fnAt 124 fd } := ⟨_, fun P => ⟨_, _, _, by rfl⟩⟩
noncomputable def F131 : { fd : FuncData // fnAt 131 fd } := ⟨_, fun P => ⟨_, _, _, by rfl⟩⟩
noncomputable def F138 : { fd : FuncData // fnAt 138 fd } := ⟨_, fun P => ⟨_, _, _, by rfl⟩⟩
noncomputable def F145 : { fd : FuncData // fnAt 145 fd } := ⟨_, fun P => ⟨_, _, _, by rfl⟩⟩
noncomputable def F152 : { fd : FuncData // fnAt 152 fd } := ⟨_, fun P => ⟨_, _, _, by rfl⟩⟩
noncomputable def F159 : { fd : FuncData // fnAt 159 fd } := ⟨_, fun P => ⟨_, _, _, by rfl⟩⟩
noncomputable def F164 : { fd : FuncData // fnAt 164 fd } := ⟨_, fun P => ⟨_, _, _, by rfl⟩⟩
noncomputable def F171 : { fd : FuncData // fnAt 171 fd } := ⟨_, fun P => ⟨_, _, _, by rfl⟩⟩
noncomputable def F176 : { fd : FuncData // fnAt 176 fd } := ⟨_, fun P => ⟨_, _, _, by rfl⟩⟩
noncomputable def F181 : { fd : FuncData // fnAt 181 fd } := ⟨_, fun P => ⟨_, _, _, by rfl⟩⟩
noncomputable def F188 : { fd : FuncData // fnAt 188 fd } := ⟨_, fun P => ⟨_, _, _, by rfl⟩⟩
noncomputable def F195 : { fd : FuncData // fnAt 195 fd } := ⟨_, fun P => ⟨_, _, _, by rfl⟩⟩
noncomputable def F202 : { fd : FuncData // fnAt 202 fd } := ⟨_, fun P => ⟨_, _, _, by rfl⟩⟩
noncomputable def F209 : { fd : FuncData // fnAt 209 fd } := ⟨_, fun P => ⟨_, _, _, by rfl⟩⟩
noncomputable def F216 : { fd : FuncData // fnAt 216 fd } := ⟨_, fun P => ⟨_, _, _, by rfl⟩⟩
noncomputable def F221 : { fd : FuncData // fnAt 221 fd } := ⟨_, fun P => ⟨_, _, _, by rfl⟩⟩
noncomputable def F228 : { fd : FuncData // fnAt 228 fd } := ⟨_, fun P => ⟨_, _, _, by rfl⟩⟩
noncomputable def F235 : { fd : FuncData // fnAt 235 fd } := ⟨_, fun P => ⟨_, _, _, by rfl⟩⟩
noncomputable def F242 : { fd : FuncData // fnAt 242 fd } := ⟨_, fun P => ⟨_, _, _, by rfl⟩⟩
noncomputable def F249 : { fd : FuncData // fnAt 249 fd } := ⟨_, fun P => ⟨_, _, _, by rfl⟩⟩
noncomputable def F256 : { fd : FuncData // fnAt 256 fd } := ⟨_, fun P => ⟨_, _, _, by rfl⟩⟩
noncomputable def F261 : { fd : FuncData // fnAt 261 fd } := ⟨_, fun P => ⟨_, _, _, by rfl⟩⟩
noncomputable def F266 : { fd : FuncData // fnAt 266 fd } := ⟨_, fun P => ⟨_, _, _, by rfl⟩⟩
noncomputable def F273 : { fd : FuncData // fnAt 273 fd } := ⟨_, fun P => ⟨_, _, _, by rfl⟩⟩
noncomputable def F278 : { fd : FuncData // fnAt 278 fd } := ⟨_, fun P => ⟨_, _, _, by rfl⟩⟩
noncomputable def F285 : { fd : FuncData // fnAt 285 fd } := ⟨_, fun P => ⟨_, _, _, by rfl⟩⟩
noncomputable def F292 : { fd : FuncData // fnAt 292 fd } := ⟨_, fun P => ⟨_, _, _, by rfl⟩⟩
noncomputable def F299 : { fd : FuncData // fnAt 299 fd } := ⟨_, fun P => ⟨_, _, _, by rfl⟩⟩
noncomputable def F304 : { fd : FuncData // fnAt 304 fd } := ⟨_, fun P => ⟨_, _, _, by rfl⟩⟩
noncomputable def F311 : { fd : FuncData // fnAt 311 fd } := ⟨_, fun P => ⟨_, _, _, by rfl⟩⟩
theorem g_R0 (w : World) : nsIn (Mine.hd.heap_1 w.params) mainGlobals "R0" = some (some (.ref 81)) := by kernel_rfl
theorem g_R1 (w : World) : nsIn (Mine.hd.heap_1 w.params) mainGlobals "R1" = some (some (.ref 82)) := by kernel_rfl

section
variable {prog : Program} {w : World} {s₀ s : Shared} {DD : List Addr} {b₀ : Heap} {env : Env} {cw : Bool} {m cm : Str → Option Value} {P : List As} {O : List Ow}
variable {A : Around} {E : Value → Shared → Prop}

/-- a name of the text that is a function -/
structure FnOk (f : Str) (a : Addr) : Prop where
  nd : (f == ("__debug__" : Str)) = false
  g : ∀ w : World, nsIn (Mine.hd.heap_1 w.params) mainGlobals f = some (some (.ref a))
  fn : ∃ fd, fnAt a fd
/-- a name that is a builtin -/
structure BiOk (f : Str) (v : Value) : Prop where
  nd : (f == ("__debug__" : Str)) = false
  g : ∀ w : World, nsIn (Mine.hd.heap_1 w.params) mainGlobals f = some none
  nn : f ≠ "__name__"
  bb : bootBuiltins f = some v
  vv : (∃ i, v = .builtin i) ∨ ∃ T, v = .type T

theorem k_order_key : FnOk "order_key" 39 := ⟨by kernel_rfl, fun w => by kernel_rfl, _, F39.2⟩
theorem k_powers_product : FnOk "powers_product" 44 := ⟨by kernel_rfl, fun w => by kernel_rfl, _, F44.2⟩
theorem k_powers_divide : FnOk "powers_divide" 51 := ⟨by kernel_rfl, fun w => by kernel_rfl, _, F51.2⟩
theorem k_powers_quotient : FnOk "powers_quotient" 56 := ⟨by kernel_rfl, fun w => by kernel_rfl, _, F56.2⟩
theorem k_powers_join : FnOk "powers_join" 61 := ⟨by kernel_rfl, fun w => by kernel_rfl, _, F61.2⟩
theorem k_powers_meet : FnOk "powers_meet" 66 := ⟨by kernel_rfl, fun w => by kernel_rfl, _, F66.2⟩
theorem k_are_apart : FnOk "are_apart" 73 := ⟨by kernel_rfl, fun w => by kernel_rfl, _, F73.2⟩
theorem k_gcd : FnOk "gcd" 80 := ⟨by kernel_rfl, fun w => by kernel_rfl, _, F80.2⟩
theorem k_rat : FnOk "rat" 89 := ⟨by kernel_rfl, fun w => by kernel_rfl, _, F89.2⟩
theorem k_radd : FnOk "radd" 96 := ⟨by kernel_rfl, fun w => by kernel_rfl, _, F96.2⟩
theorem k_rmul : FnOk "rmul" 103 := ⟨by kernel_rfl, fun w => by kernel_rfl, _, F103.2⟩
theorem k_rdiv : FnOk "rdiv" 110 := ⟨by kernel_rfl, fun w => by kernel_rfl, _, F110.2⟩
theorem k_rneg : FnOk "rneg" 117 := ⟨by kernel_rfl, fun w => by kernel_rfl, _, F117.2⟩
theorem k_rinv : FnOk "rinv" 124 := ⟨by kernel_rfl, fun w => by kernel_rfl, _, F124.2⟩
theorem k_rpower : FnOk "rpower" 131 := ⟨by kernel_rfl, fun w => by kernel_rfl, _, F131.2⟩
theorem k_mvterm : FnOk "mvterm" 138 := ⟨by kernel_rfl, fun w => by kernel_rfl, _, F138.2⟩
theorem k_mvnumber : FnOk "mvnumber" 145 := ⟨by kernel_rfl, fun w => by kernel_rfl, _, F145.2⟩
theorem k_mvadd : FnOk "mvadd" 152 := ⟨by kernel_rfl, fun w => by kernel_rfl, _, F152.2⟩
theorem k_add_term : FnOk "add_term" 159 := ⟨by kernel_rfl, fun w => by kernel_rfl, _, F159.2⟩
theorem k_mvneg : FnOk "mvneg" 164 := ⟨by kernel_rfl, fun w => by kernel_rfl, _, F164.2⟩
theorem k_mvsub : FnOk "mvsub" 171 := ⟨by kernel_rfl, fun w => by kernel_rfl, _, F171.2⟩
theorem k_mvscale : FnOk "mvscale" 176 := ⟨by kernel_rfl, fun w => by kernel_rfl, _, F176.2⟩
theorem k_mvshift : FnOk "mvshift" 181 := ⟨by kernel_rfl, fun w => by kernel_rfl, _, F181.2⟩
theorem k_mvmul : FnOk "mvmul" 188 := ⟨by kernel_rfl, fun w => by kernel_rfl, _, F188.2⟩
theorem k_mvat : FnOk "mvat" 195 := ⟨by kernel_rfl, fun w => by kernel_rfl, _, F195.2⟩
theorem k_mvlead : FnOk "mvlead" 202 := ⟨by kernel_rfl, fun w => by kernel_rfl, _, F202.2⟩
theorem k_mvmonic : FnOk "mvmonic" 209 := ⟨by kernel_rfl, fun w => by kernel_rfl, _, F209.2⟩
theorem k_first_divisor : FnOk "first_divisor" 216 := ⟨by kernel_rfl, fun w => by kernel_rfl, _, F216.2⟩
theorem k_mvdivide : FnOk "mvdivide" 221 := ⟨by kernel_rfl, fun w => by kernel_rfl, _, F221.2⟩
theorem k_rest_of : FnOk "rest_of" 228 := ⟨by kernel_rfl, fun w => by kernel_rfl, _, F228.2⟩
theorem k_s_poly : FnOk "s_poly" 235 := ⟨by kernel_rfl, fun w => by kernel_rfl, _, F235.2⟩
theorem k_pair_key : FnOk "pair_key" 242 := ⟨by kernel_rfl, fun w => by kernel_rfl, _, F242.2⟩
theorem k_is_needless : FnOk "is_needless" 249 := ⟨by kernel_rfl, fun w => by kernel_rfl, _, F249.2⟩
theorem k_least_pair : FnOk "least_pair" 256 := ⟨by kernel_rfl, fun w => by kernel_rfl, _, F256.2⟩
theorem k_groebner : FnOk "groebner" 261 := ⟨by kernel_rfl, fun w => by kernel_rfl, _, F261.2⟩
theorem k_is_basis : FnOk "is_basis" 266 := ⟨by kernel_rfl, fun w => by kernel_rfl, _, F266.2⟩
theorem k_is_member : FnOk "is_member" 273 := ⟨by kernel_rfl, fun w => by kernel_rfl, _, F273.2⟩
theorem k_is_whole : FnOk "is_whole" 278 := ⟨by kernel_rfl, fun w => by kernel_rfl, _, F278.2⟩
theorem k_law_take : FnOk "_law_take" 285 := ⟨by kernel_rfl, fun w => by kernel_rfl, _, F285.2⟩
theorem k_law_box : FnOk "_law_box" 292 := ⟨by kernel_rfl, fun w => by kernel_rfl, _, F292.2⟩
theorem k_law_zero_at : FnOk "_law_zero_at" 299 := ⟨by kernel_rfl, fun w => by kernel_rfl, _, F299.2⟩
theorem k_law_rest : FnOk "_law_rest" 304 := ⟨by kernel_rfl, fun w => by kernel_rfl, _, F304.2⟩
theorem k_law_all_to_zero : FnOk "_law_all_to_zero" 311 := ⟨by kernel_rfl, fun w => by kernel_rfl, _, F311.2⟩
theorem k_abs : BiOk "abs" (.builtin "abs") := ⟨by kernel_rfl, fun w => by kernel_rfl, by decide, by kernel_rfl, .inl ⟨_, rfl⟩⟩
theorem k_len : BiOk "len" (.builtin "len") := ⟨by kernel_rfl, fun w => by kernel_rfl, by decide, by kernel_rfl, .inl ⟨_, rfl⟩⟩
theorem k_sum : BiOk "sum" (.builtin "sum") := ⟨by kernel_rfl, fun w => by kernel_rfl, by decide, by kernel_rfl, .inl ⟨_, rfl⟩⟩
theorem k_max : BiOk "max" (.builtin "max") := ⟨by kernel_rfl, fun w => by kernel_rfl, by decide, by kernel_rfl, .inl ⟨_, rfl⟩⟩
theorem k_min : BiOk "min" (.builtin "min") := ⟨by kernel_rfl, fun w => by kernel_rfl, by decide, by kernel_rfl, .inl ⟨_, rfl⟩⟩
theorem k_any : BiOk "any" (.builtin "any") := ⟨by kernel_rfl, fun w => by kernel_rfl, by decide, by kernel_rfl, .inl ⟨_, rfl⟩⟩
theorem k_sorted : BiOk "sorted" (.builtin "sorted") := ⟨by kernel_rfl, fun w => by kernel_rfl, by decide, by kernel_rfl, .inl ⟨_, rfl⟩⟩
theorem k_range : BiOk "range" (.type "range") := ⟨by kernel_rfl, fun w => by kernel_rfl, by decide, by kernel_rfl, .inr ⟨_, rfl⟩⟩
theorem k_enumerate : BiOk "enumerate" (.type "enumerate") := ⟨by kernel_rfl, fun w => by kernel_rfl, by decide, by kernel_rfl, .inr ⟨_, rfl⟩⟩
theorem k_tuple : BiOk "tuple" (.type "tuple") := ⟨by kernel_rfl, fun w => by kernel_rfl, by decide, by kernel_rfl, .inr ⟨_, rfl⟩⟩
theorem k_list : BiOk "list" (.type "list") := ⟨by kernel_rfl, fun w => by kernel_rfl, by decide, by kernel_rfl, .inr ⟨_, rfl⟩⟩
theorem k_dict : BiOk "dict" (.type "dict") := ⟨by kernel_rfl, fun w => by kernel_rfl, by decide, by kernel_rfl, .inr ⟨_, rfl⟩⟩
@[reducible] noncomputable def fnTab : List (Str × Addr) := [(Str.ofString "order_key", 39), (Str.ofString "powers_product", 44), (Str.ofString "powers_divide", 51), (Str.ofString "powers_quotient", 56), (Str.ofString "powers_join", 61), (Str.ofString "powers_meet", 66), (Str.ofString "are_apart", 73), (Str.ofString "gcd", 80), (Str.ofString "rat", 89), (Str.ofString "radd", 96), (Str.ofString "rmul", 103), (Str.ofString "rdiv", 110), (Str.ofString "rneg", 117), (Str.ofString "rinv", 124), (Str.ofString "rpower", 131), (Str.ofString "mvterm", 138), (Str.ofString "mvnumber", 145), (Str.ofString "mvadd", 152), (Str.ofString "add_term", 159), (Str.ofString "mvneg", 164), (Str.ofString "mvsub", 171), (Str.ofString "mvscale", 176), (Str.ofString "mvshift", 181), (Str.ofString "mvmul", 188), (Str.ofString "mvat", 195), (Str.ofString "mvlead", 202), (Str.ofString "mvmonic", 209), (Str.ofString "first_divisor", 216), (Str.ofString "mvdivide", 221), (Str.ofString "rest_of", 228), (Str.ofString "s_poly", 235), (Str.ofString "pair_key", 242), (Str.ofString "is_needless", 249), (Str.ofString "least_pair", 256), (Str.ofString "groebner", 261), (Str.ofString "is_basis", 266), (Str.ofString "is_member", 273), (Str.ofString "is_whole", 278), (Str.ofString "_law_take", 285), (Str.ofString "_law_box", 292), (Str.ofString "_law_zero_at", 299), (Str.ofString "_law_rest", 304), (Str.ofString "_law_all_to_zero", 311)]
@[reducible] noncomputable def biTab : List (Str × Value) := [(Str.ofString "abs", .builtin "abs"), (Str.ofString "len", .builtin "len"), (Str.ofString "sum", .builtin "sum"), (Str.ofString "max", .builtin "max"), (Str.ofString "min", .builtin "min"), (Str.ofString "any", .builtin "any"), (Str.ofString "sorted", .builtin "sorted"), (Str.ofString "range", .type "range"), (Str.ofString "enumerate", .type "enumerate"), (Str.ofString "tuple", .type "tuple"), (Str.ofString "list", .type "list"), (Str.ofString "dict", .type "dict")]
theorem fnAll : ∀ p ∈ fnTab, FnOk p.1 p.2 := List.forall_mem_cons.mpr ⟨k_order_key, List.forall_mem_cons.mpr ⟨k_powers_product, List.forall_mem_cons.mpr ⟨k_powers_divide, List.forall_mem_cons.mpr ⟨k_powers_quotient, List.forall_mem_cons.mpr ⟨k_powers_join, List.forall_mem_cons.mpr ⟨k_powers_meet, List.forall_mem_cons.mpr ⟨k_are_apart, List.forall_mem_cons.mpr ⟨k_gcd, List.forall_mem_cons.mpr ⟨k_rat, List.forall_mem_cons.mpr ⟨k_radd, List.forall_mem_cons.mpr ⟨k_rmul, List.forall_mem_cons.mpr ⟨k_rdiv, List.forall_mem_cons.mpr ⟨k_rneg, List.forall_mem_cons.mpr ⟨k_rinv, List.forall_mem_cons.mpr ⟨k_rpower, List.forall_mem_cons.mpr ⟨k_mvterm, List.forall_mem_cons.mpr ⟨k_mvnumber, List.forall_mem_cons.mpr ⟨k_mvadd, List.forall_mem_cons.mpr ⟨k_add_term, List.forall_mem_cons.mpr ⟨k_mvneg, List.forall_mem_cons.mpr ⟨k_mvsub, List.forall_mem_cons.mpr ⟨k_mvscale, List.forall_mem_cons.mpr ⟨k_mvshift, List.forall_mem_cons.mpr ⟨k_mvmul, List.forall_mem_cons.mpr ⟨k_mvat, List.forall_mem_cons.mpr ⟨k_mvlead, List.forall_mem_cons.mpr ⟨k_mvmonic, List.forall_mem_cons.mpr ⟨k_first_divisor, List.forall_mem_cons.mpr ⟨k_mvdivide, List.forall_mem_cons.mpr ⟨k_rest_of, List.forall_mem_cons.mpr ⟨k_s_poly, List.forall_mem_cons.mpr ⟨k_pair_key, List.forall_mem_cons.mpr ⟨k_is_needless, List.forall_mem_cons.mpr ⟨k_least_pair, List.forall_mem_cons.mpr ⟨k_groebner, List.forall_mem_cons.mpr ⟨k_is_basis, List.forall_mem_cons.mpr ⟨k_is_member, List.forall_mem_cons.mpr ⟨k_is_whole, List.forall_mem_cons.mpr ⟨k_law_take, List.forall_mem_cons.mpr ⟨k_law_box, List.forall_mem_cons.mpr ⟨k_law_zero_at, List.forall_mem_cons.mpr ⟨k_law_rest, List.forall_mem_cons.mpr ⟨k_law_all_to_zero, fun _ h => nomatch h⟩⟩⟩⟩⟩⟩⟩⟩⟩⟩⟩⟩⟩⟩⟩⟩⟩⟩⟩⟩⟩⟩⟩⟩⟩⟩⟩⟩⟩⟩⟩⟩⟩⟩⟩⟩⟩⟩⟩⟩⟩⟩⟩
theorem biAll : ∀ p ∈ biTab, BiOk p.1 p.2 := List.forall_mem_cons.mpr ⟨k_abs, List.forall_mem_cons.mpr ⟨k_len, List.forall_mem_cons.mpr ⟨k_sum, List.forall_mem_cons.mpr ⟨k_max, List.forall_mem_cons.mpr ⟨k_min, List.forall_mem_cons.mpr ⟨k_any, List.forall_mem_cons.mpr ⟨k_sorted, List.forall_mem_cons.mpr ⟨k_range, List.forall_mem_cons.mpr ⟨k_enumerate, List.forall_mem_cons.mpr ⟨k_tuple, List.forall_mem_cons.mpr ⟨k_list, List.forall_mem_cons.mpr ⟨k_dict, fun _ h => nomatch h⟩⟩⟩⟩⟩⟩⟩⟩⟩⟩⟩⟩
@[reducible] noncomputable def CallQ (prog : Program) (w : World) (A : Around) (a : Addr) (Q E : Value → Shared → Prop) : List Value → Shared → Prop := fun vs s₁ => (Mine.hd.heap_1 w.params).In s₁.heap ∧ wpAny (model prog w) A (call (.ref a) vs) Q E s₁
@[reducible] noncomputable def CallYQ (prog : Program) (w : World) (A : Around) (v : Value) (Q E : Value → Shared → Prop) : List Value → Shared → Prop := fun vs s₁ => wpAny (model prog w) A (call v vs) Q E s₁
theorem callX {f : Str} {a : Addr} {fp pos : Pos} {e : Expr} {args : List Expr} {Q : Value → Shared → Prop} (S : St prog w s₀ DD b₀ env cw m cm P O s) (n : fnTab.lookup f = some a) (hk : env.scope.kind = .function) (hl : env.kindOf f = some .globalImplicit) (hg : env.globals = mainGlobals) (he : starEach (e :: args) env = (false, eval e env) :: starEach args env)
    (h : wpAny (model prog w) A (spliced (backTo pos (starEach (e :: args) env))) (CallQ prog w A a Q E) E s) :
    wpAny (model prog w) A (eval (.Call (.Name f fp) (e :: args) [] pos) env) Q E s := by
  have n := fnAll _ (mem_of_lookup n)
  obtain ⟨fd, hfd⟩ := n.fn
  exact callF S hk hl hg n.nd (n.g w) hfd he h
theorem callY {f : Str} {v : Value} {fp pos : Pos} {e : Expr} {args : List Expr} {Q : Value → Shared → Prop} (S : St prog w s₀ DD b₀ env cw m cm P O s) (n : biTab.lookup f = some v) (hk : env.scope.kind = .function) (hl : env.kindOf f = some .globalImplicit) (hg : env.globals = mainGlobals) (hb : env.builtins = builtinsNs) (he : starEach (e :: args) env = (false, eval e env) :: starEach args env) (hpl : (backTo pos (starEach (e :: args) env)).any (·.1) = false)
    (h : wpAny (model prog w) A (spliced (backTo pos (starEach (e :: args) env))) (CallYQ prog w A v Q E) E s) :
    wpAny (model prog w) A (eval (.Call (.Name f fp) (e :: args) [] pos) env) Q E s := by
  have n := biAll _ (mem_of_lookup n)
  obtain ⟨i, e⟩ | ⟨T, e⟩ := n.vv <;> dsimp only at e <;> subst e
  · exact callB S hk hl hg hb n.nd (n.g w) n.nn n.bb he hpl h
  · exact callT S hk hl hg hb n.nd (n.g w) n.nn n.bb he hpl h
theorem n_R0 {pos : Pos} {Q : Value → Shared → Prop} (S : St prog w s₀ DD b₀ env cw m cm P O s) (hk : env.scope.kind = .function) (hl : env.kindOf "R0" = some .globalImplicit) (hg : env.globals = mainGlobals)
    (h : St prog w s₀ DD b₀ env cw m cm (As.is (.ref 81) (dR 0) :: P) O s → Q (.ref 81) s) : wpAny (model prog w) A (eval (.Name "R0" pos) env) Q E s :=
  nmG S hk hl hg (by kernel_rfl) (g_R0 w) (h (S.more fun b B => ⟨_, _, rfl, ⟨_, B.K 81 _ (by rfl), rfl, _, rfl⟩, by unfold IsL; exact ⟨_, _, rfl, ⟨_, rfl⟩, by unfold IsL; exact ⟨_, _, rfl, ⟨_, rfl⟩, rfl⟩⟩⟩))
theorem n_R1 {pos : Pos} {Q : Value → Shared → Prop} (S : St prog w s₀ DD b₀ env cw m cm P O s) (hk : env.scope.kind = .function) (hl : env.kindOf "R1" = some .globalImplicit) (hg : env.globals = mainGlobals)
    (h : St prog w s₀ DD b₀ env cw m cm (As.is (.ref 82) (dR 1) :: P) O s → Q (.ref 82) s) : wpAny (model prog w) A (eval (.Name "R1" pos) env) Q E s :=
  nmG S hk hl hg (by kernel_rfl) (g_R1 w) (h (S.more fun b B => ⟨_, _, rfl, ⟨_, B.K 82 _ (by rfl), rfl, _, rfl⟩, by unfold IsL; exact ⟨_, _, rfl, ⟨_, rfl⟩, by unfold IsL; exact ⟨_, _, rfl, ⟨_, rfl⟩, rfl⟩⟩⟩))
end
end Mine
end
section
set_option maxRecDepth 100000
namespace Mine
open PySem PySem.W PyProof.Rows PySem.Calls
open PySem.AutoSeq1 (wpAny_loadPart')

section
variable {prog : Program} {w : World} {s₀ s : Shared} {DD : List Addr} {b₀ : Heap} {env : Env} {cw : Bool} {m cm : Str → Option Value} {P : List As} {O : List Ow}
variable {A : Around} {E : Value → Shared → Prop}

theorem St.lose {x : Ow} (S : St prog w s₀ DD b₀ env cw m cm P (x :: O) s) {h' : Heap} {tk : Nat} (hs : Heap.ExtBut x.a s.heap h') : St prog w s₀ DD b₀ env cw m cm P O { s with heap := h', toks := tk } := by
  obtain ⟨b, S⟩ := S
  have hx := S.own x (.head _)
  obtain ⟨hp1, hp2⟩ := List.pairwise_cons.mp S.oap
  have ke : ∀ a o, a ≠ x.a → s.heap.get? a = some o → h'.get? a = some o := fun a o e e' => hs a o e e'
  exact ⟨b, {
    same := by obtain ⟨h, t, rfl⟩ := S.same; exact ⟨h', tk, rfl⟩
    frame := fun a o hd e => by
      refine ke a o (fun e' => ?_) (S.frame a o hd e)
      rcases hx.2.2.2.2 with q | q
      · exact hd (e' ▸ q)
      · exact absurd (Heap.lt_size e) (Nat.not_lt.mpr (e' ▸ q))
    bb := S.bb
    fresh := S.fresh
    bs := fun a o e => ke a o (fun e' => by rw [e', hx.2.1] at e; cases e) (S.bs a o e)
    pg := S.pg
    ns := S.ns.extBut hs (Ne.symm hx.2.2.1)
    nsb := S.nsb
    nsn := S.nsn
    cell := fun n c e => by
      obtain ⟨⟨o, ho, r⟩, r2⟩ := S.cell n c e
      exact ⟨⟨o, ke c o (Ne.symm (hx.2.2.2.1 n c e)) ho, r⟩, r2⟩
    cap := S.cap
    own := fun z hz => ⟨Ow.mono (Keep.refl b) (fun o e => ke _ o (hp1 z hz).symm e) (S.own z (.tail _ hz)).1, (S.own z (.tail _ hz)).2⟩
    oap := hp2
    facts := S.facts }⟩

theorem St.perm (S : St prog w s₀ DD b₀ env cw m cm P O s) {O' : List Ow} (hp : O.Perm O') : St prog w s₀ DD b₀ env cw m cm P O' s := by
  obtain ⟨b, S⟩ := S
  exact ⟨b, { S with own := fun x hx => S.own x (hp.mem_iff.mpr hx), oap := (hp.pairwise_iff (fun h => h.symm)).mp S.oap }⟩

theorem St.ownAt {x : Ow} (S : St prog w s₀ DD b₀ env cw m cm P O s) (hx : x ∈ O) : ∃ b, Keep b s.heap ∧ (∀ p ∈ P, p.on prog w b) ∧ x.on prog w b s.heap := by
  obtain ⟨b, S⟩ := S
  exact ⟨b, S.bs, S.facts, (S.own x hx).1⟩

/-! iterators -/
noncomputable def ilst (I l : Addr) (i : Nat) : Ow := .gen I fun o => o.cls = .type "list_iterator" ∧ o.data = .fields #[.ref l, .int i 0]
noncomputable def itup (I l : Addr) (i : Nat) : Ow := .gen I fun o => o.cls = .type "tuple_iterator" ∧ o.data = .fields #[.ref l, .int i 0]
noncomputable def ienu (e it : Addr) (i : Nat) : Ow := .gen e fun o => ∃ old, o = { cls := .type "enumerate", dict := none, data := .fields #[.none, .bool false, .ref it, rawInt i, .none, old], slots := #[] }
noncomputable def irng (I : Addr) (x left : Int) : Ow := .gen I fun o => o = { cls := .type "range_iterator", dict := none, data := .fields #[rawInt x, rawInt left, rawInt 1], slots := #[] }

theorem ilst_is {prog : Program} {w : World} {b h : Heap} {I l : Addr} {i : Nat} : (ilst I l i).on prog w b h ↔ h.IsListIter I l i := Iff.rfl
theorem itup_is {prog : Program} {w : World} {b h : Heap} {I l : Addr} {i : Nat} : (itup I l i).on prog w b h ↔ h.IsTupleIter I l i := Iff.rfl

theorem ih_list {l : Addr} {items : Array Value} {Q : Value → Shared → Prop} (S : St prog w s₀ DD b₀ env cw m cm P O s) (hl : s.heap.IsList l items)
    (h : ∀ I s', l ≠ I → St prog w s₀ DD b₀ env cw m cm P (ilst I l 0 :: O) s' → Keep s.heap s'.heap → Q (.ref I) s') : wpAny (model prog w) A (pyIter (.ref l)) Q E s := by
  refine wpAny_pyIter_list hl (h _ _ ?_ ?_ (keep_push _ _))
  · obtain ⟨o, ho, _⟩ := hl; exact Nat.ne_of_lt (Heap.lt_size ho)
  · exact S.owns (tk := s.toks) (x := ilst _ l 0) (keep_push _ _) (Nat.le_refl _) fun b _ _ => ⟨_, Heap.get?_push_size _ rfl, rfl, rfl⟩
theorem ih_tup {l : Addr} {items : Array Value} {Q : Value → Shared → Prop} (S : St prog w s₀ DD b₀ env cw m cm P O s) (hl : s.heap.IsTuple l items)
    (h : ∀ I s', St prog w s₀ DD b₀ env cw m cm P (itup I l 0 :: O) s' → Keep s.heap s'.heap → Q (.ref I) s') : wpAny (model prog w) A (pyIter (.ref l)) Q E s := by
  refine wpAny_pyIter_tuple hl (h _ _ ?_ (keep_push _ _))
  exact S.owns (tk := s.toks) (x := itup _ l 0) (keep_push _ _) (Nat.le_refl _) fun b _ _ => ⟨_, Heap.get?_push_size _ rfl, rfl, rfl⟩

theorem nx_list {I l : Addr} {i : Nat} {items : Array Value} {v : Value} {Q : Option Value → Shared → Prop} (S : St prog w s₀ DD b₀ env cw m cm P (ilst I l i :: O) s) (hl : s.heap.IsList l items) (hx : items[i]? = some v)
    (h : ∀ s', St prog w s₀ DD b₀ env cw m cm P (ilst I l (i + 1) :: O) s' → Q (some v) s') : wpAny (model prog w) A (pyNext (.ref I)) Q E s := by
  obtain ⟨b, _, _, hi⟩ := S.ownAt List.mem_cons_self
  refine wpAny_pyNext_list_item (ilst_is.mp hi) hl hx fun h' hit hs => h _ ?_
  exact S.change (tk := s.toks) (x := ilst I l i) (y := ilst I l (i + 1)) .head rfl hs fun _ _ _ => ilst_is.mpr hit
theorem nx_listE {I l : Addr} {i : Nat} {items : Array Value} {Q : Option Value → Shared → Prop} (S : St prog w s₀ DD b₀ env cw m cm P (ilst I l i :: O) s) (hh : A.handled = none) (hl : s.heap.IsList l items) (hx : items[i]? = none)
    (h : ∀ s', St prog w s₀ DD b₀ env cw m cm P O s' → Q none s') : wpAny (model prog w) A (pyNext (.ref I)) Q E s := by
  obtain ⟨b, _, _, hi⟩ := S.ownAt List.mem_cons_self
  exact wpAny_pyNext_list_end hh (ilst_is.mp hi) hl hx fun h' he => h _ (S.lose (tk := s.toks) he)

/-! enumerate over a tuple -/
theorem nextOf_tup {it l : Addr} {i : Nat} {items} {x : Value} {Q : Value → Shared → Prop} (hit : s.heap.IsTupleIter it l i) (hl : s.heap.IsTuple l items) (hx : items[i]? = some x)
    (hQ : ∀ h', h'.IsTupleIter it l (i + 1) → Heap.SameBut it s.heap h' → Q x { s with heap := h' }) : wpAny (model prog w) A (Builtin.SmallTypes.nextOf (.ref it)) Q E s := by
  obtain ⟨o, ho, hc, hd⟩ := id hit
  obtain ⟨ol, hol, _, nl, hdl⟩ := hl
  unfold Builtin.SmallTypes.nextOf
  refine wpAny_bind (wpAny_callSpecial?_slot (name := Str.ofString "__next__") hit.typeIs F.slot_tuple_iterator_next
    (wpAny_call_entry F.slot_tuple_iterator_next hit.typeIs F.entry_tuple_iterator_next ?_ (F.args_tuple_iterator_next_1 _)))
  show wpAny _ _ (field (.ref it) 0 >>= _) _ _ s
  refine wpAny_bind (wpAny_field ho hd (x := .ref l) rfl ?_)
  show wpAny _ _ (if (Value.ref l == Value.none) = true then _ else _) _ _ s
  rw [if_neg (show ¬ ((Value.ref l == Value.none) = true) from Bool.false_ne_true)]
  show wpAny _ _ (field (.ref it) 1 >>= _) _ _ s
  refine wpAny_bind (wpAny_field ho hd (x := .int i 0) rfl ?_)
  show wpAny _ _ (seqItems? (.ref l) >>= _) _ _ s
  refine wpAny_bind (wpAny_seqItems hol hdl ?_)
  simp only [Int.toNat_natCast, hx]
  refine wpAny_bind (wpAny_setField ho hd (by simp) (wpAny_pure ⟨x, rfl, wpAny_pure (hQ _ ?_ (Heap.SameBut.update ..))⟩))
  exact ⟨_, Heap.get?_update_self _ ho (Obj.isFreed_of_fields (Obj.data_mapFields hd _)), (Obj.cls_mapFields ..).trans hc, by
    rw [Obj.data_mapFields hd]; simp [rawInt]⟩

theorem nextOf_tupE {it l : Addr} {i : Nat} {items} {Q : Value → Shared → Prop} (hh : A.handled = none) (hit : s.heap.IsTupleIter it l i) (hl : s.heap.IsTuple l items) (hx : items[i]? = none)
    (hE : ∀ h' e, Heap.ExtBut it s.heap h' → (∃ o, h'.get? e = some o ∧ o.cls = .type "StopIteration") → E (.ref e) { s with heap := h' }) :
    wpAny (model prog w) A (Builtin.SmallTypes.nextOf (.ref it)) Q E s := by
  obtain ⟨o, ho, hc, hd⟩ := id hit
  obtain ⟨ol, hol, _, nl, hdl⟩ := hl
  unfold Builtin.SmallTypes.nextOf
  refine wpAny_bind (wpAny_callSpecial?_slot (name := Str.ofString "__next__") hit.typeIs F.slot_tuple_iterator_next
    (wpAny_call_entry F.slot_tuple_iterator_next hit.typeIs F.entry_tuple_iterator_next ?_ (F.args_tuple_iterator_next_1 _)))
  show wpAny _ _ (field (.ref it) 0 >>= _) _ _ s
  refine wpAny_bind (wpAny_field ho hd (x := .ref l) rfl ?_)
  show wpAny _ _ (if (Value.ref l == Value.none) = true then _ else _) _ _ s
  rw [if_neg (show ¬ ((Value.ref l == Value.none) = true) from Bool.false_ne_true)]
  show wpAny _ _ (field (.ref it) 1 >>= _) _ _ s
  refine wpAny_bind (wpAny_field ho hd (x := .int i 0) rfl ?_)
  show wpAny _ _ (seqItems? (.ref l) >>= _) _ _ s
  refine wpAny_bind (wpAny_seqItems hol hdl ?_)
  simp only [Int.toNat_natCast, hx]
  refine wpAny_bind (wpAny_rule (wpAny_bind (wpAny_setField ho hd (by simp) ?_)))
  show wpAny _ _ (newExc (.type "StopIteration") [] >>= _) _ _ _
  refine wpAny_bind ?_
  simp only [newExc, newTuple]
  refine wpAny_bind (wpAny_newObj_type ?_ (by size_fits))
  refine wpAny_bind (m := firstArgMember _ _) (wpAny_of_eq (a := Value.none) (by first | rfl | (simp only [firstArgMember]; rfl)) ?_)
  refine wpAny_newObj_type ?_ (by size_fits)
  simp only [raiseNew]
  refine wpAny_bind (wpAny_handled ?_)
  first | rw [show A.in1.handled = none from hh] | rw [hh]
  refine wpAny_bind (wpAny_pure (wpAny_throw ?_))
  exact hE _ _ (((Heap.SameBut.update ..).extBut.push _).push _) ⟨_, Heap.get?_push_size _ rfl, rfl⟩

/-- the next pair of an enumerate, whatever it goes over -/
theorem enum_item {e it : Addr} {i : Nat} {x old : Value} {J : Heap → Prop} {Q : Option Value → Shared → Prop} (he : IsEnum s.heap e it i old) (hne : e ≠ it) (hitm : ∃ o, s.heap.get? it = some o)
    (hJ : ∀ h h', J h → (∀ o, h.get? it = some o → h'.get? it = some o) → J h')
    (hn : ∀ (A : Around) (E : Value → Shared → Prop) (Q : Value → Shared → Prop), (∀ h', J h' → Heap.SameBut it s.heap h' → Q x { s with heap := h' }) → wpAny (model prog w) A (Builtin.SmallTypes.nextOf (.ref it)) Q E s)
    (hQ : ∀ h', IsEnumOut h' e it ((i : Int) + 1) x s.heap.objs.size → J h' → h'.get? s.heap.objs.size = some { cls := .type "tuple", data := .seq #[.int i s.toks, x] } →
      h'.objs.size = s.heap.objs.size + 1 → (∀ b o, b ≠ e → b ≠ it → s.heap.get? b = some o → h'.get? b = some o) → Q (some (.ref s.heap.objs.size)) { s with heap := h', toks := s.toks + 1 }) :
    wpAny (model prog w) A (pyNext (.ref e)) Q E s := by
  have hT : s.TypeIs (.ref e) "enumerate" := ⟨_, he, rfl⟩
  unfold pyNext
  refine wpAny_bind (wpAny_attempt (wpAny_callSpecial?_slot (name := Str.ofString "__next__") hT F.slot_enumerate_next
    (wpAny_call_entry F.slot_enumerate_next hT F.entry_enumerate_next ?_ (F.args_enumerate_next_1 _))))
  obtain ⟨hp, g, d, tk, os⟩ := s
  show wpAny _ _ (field (.ref e) 2 >>= _) _ _ _
  refine wpAny_bind (wpAny_field he rfl (x := .ref it) rfl ?_)
  refine wpAny_bind (hn _ _ _ fun h₁ hJ₁ hs₁ => ?_)
  replace hs₁ : Heap.SameBut it hp h₁ := hs₁
  have he₁ : IsEnum h₁ e it i old := (hs₁.2 e hne).trans he
  show wpAny _ _ (field (.ref e) 3 >>= _) _ _ ⟨h₁, g, d, tk, os⟩
  refine wpAny_bind (wpAny_field he₁ rfl (x := rawInt i) rfl ?_)
  show wpAny _ _ (field (.ref e) 4 >>= _) _ _ ⟨h₁, g, d, tk, os⟩
  refine wpAny_bind (wpAny_field he₁ rfl (x := .none) rfl ?_)
  show wpAny _ _ (mkInt i >>= _) _ _ ⟨h₁, g, d, tk, os⟩
  refine wpAny_bind (wpAny_mkInt ?_)
  show wpAny _ _ (setField (.ref e) 3 (rawInt ((i : Int) + 1)) >>= _) _ _ ⟨h₁, g, d, tk + 1, os⟩
  refine wpAny_bind (wpAny_setField_rec he₁ (by simp) fun h₂ he₂ hs₂ => ?_)
  replace hs₂ : Heap.SameBut e h₁ h₂ := hs₂
  replace he₂ : IsEnum h₂ e it ((i : Int) + 1) old := he₂
  show wpAny _ _ (setField (.ref e) 4 .none >>= _) _ _ ⟨h₂, g, d, tk + 1, os⟩
  refine wpAny_bind (wpAny_setField_rec he₂ (by simp) fun h₃ he₃ hs₃ => ?_)
  replace hs₃ : Heap.SameBut e h₂ h₃ := hs₃
  replace he₃ : IsEnum h₃ e it ((i : Int) + 1) old := he₃
  show wpAny _ _ (newTuple [.int i tk, x] >>= _) _ _ ⟨h₃, g, d, tk + 1, os⟩
  refine wpAny_bind (wpAny_newTuple ?_)
  have he₄ : IsEnum (h₃.push { cls := .type "tuple", data := .seq #[.int i tk, x] }) e it ((i : Int) + 1) old := Heap.get?_push_of_some _ he₃
  have hJ₄ : J (h₃.push { cls := .type "tuple", data := .seq #[.int i tk, x] }) := hJ _ _ hJ₁ fun o ho => Heap.get?_push_of_some _ (hs₃.extBut it o (Ne.symm hne) (hs₂.extBut it o (Ne.symm hne) ho))
  generalize hh₄ : h₃.push { cls := .type "tuple", data := .seq #[.int i tk, x] } = h₄ at he₄ hJ₄
  have hsz : h₃.objs.size = hp.objs.size := by rw [hs₃.1, hs₂.1, hs₁.1]
  have hel : e < hp.objs.size := Heap.lt_size he
  have ht₄ : h₄.get? hp.objs.size = some { cls := .type "tuple", data := .seq #[.int i tk, x] } := by rw [← hh₄, ← hsz]; exact Heap.get?_push_size _ rfl
  have hz₄ : h₄.objs.size = hp.objs.size + 1 := by rw [← hh₄, Heap.size_push, hsz]
  have hk₄ : ∀ b o, b ≠ e → b ≠ it → hp.get? b = some o → h₄.get? b = some o := fun b o hbe hbi hb => by
    rw [← hh₄]; exact Heap.get?_push_of_some _ (hs₃.extBut b o hbe (hs₂.extBut b o hbe (hs₁.extBut b o hbi hb)))
  show wpAny _ _ (Builtin.SmallTypes.ownedTupleIsFree (.ref e) >>= _) _ _ ⟨h₄, g, d, tk + 1, os⟩
  rw [hsz]
  clear hh₄ he₃ hs₃ he₂ hs₂ he₁ hs₁ hJ₁ hsz h₃ h₂ h₁
  refine wpAny_bind ?_
  unfold Builtin.SmallTypes.ownedTupleIsFree
  refine wpAny_bind (wpAny_field he₄ rfl (x := .none) rfl (wpAny_pure ?_))
  simp only [if_true]
  refine wpAny_bind (wpAny_rule ?_)
  refine wpAny_bind (wpAny_field he₄ rfl (x := old) rfl ?_)
  refine wpAny_bind (wpAny_setField_rec he₄ (by simp) fun h₅ he₅ hs₅ => ?_)
  replace hs₅ : Heap.SameBut e h₄ h₅ := hs₅
  replace he₅ : IsEnum h₅ e it ((i : Int) + 1) x := he₅
  show wpAny _ _ (Builtin.SmallTypes.ownedTupleHandOut (.ref e) (.ref hp.objs.size) >>= _) _ _ ⟨h₅, g, d, tk + 1, os⟩
  refine wpAny_bind ?_
  unfold Builtin.SmallTypes.ownedTupleHandOut
  refine wpAny_bind (wpAny_setField_rec he₅ (by simp) fun h₆ he₆ hs₆ => ?_)
  replace hs₆ : Heap.SameBut e h₅ h₆ := hs₆
  replace he₆ : IsEnumOut h₆ e it ((i : Int) + 1) x hp.objs.size := he₆
  refine wpAny_setField_rec he₆ (by simp) fun h₇ he₇ hs₇ => ?_
  replace hs₇ : Heap.SameBut e h₆ h₇ := hs₇
  replace he₇ : IsEnumOut h₇ e it ((i : Int) + 1) x hp.objs.size := he₇
  refine wpAny_bind (wpAny_letGo (wpAny_pure ⟨_, rfl, wpAny_pure (hQ h₇ he₇ ?_ ?_ ?_ ?_)⟩))
  · exact hJ _ _ hJ₄ fun o ho => hs₇.extBut it o (Ne.symm hne) (hs₆.extBut it o (Ne.symm hne) (hs₅.extBut it o (Ne.symm hne) ho))
  · exact hs₇.extBut _ _ (Nat.ne_of_gt hel) (hs₆.extBut _ _ (Nat.ne_of_gt hel) (hs₅.extBut _ _ (Nat.ne_of_gt hel) ht₄))
  · rw [hs₇.1, hs₆.1, hs₅.1, hz₄]
  · exact fun b o hbe hbi hb => hs₇.extBut b o hbe (hs₆.extBut b o hbe (hs₅.extBut b o hbe (hk₄ b o hbe hbi hb)))

theorem enum_stop {e it : Addr} {i : Nat} {old : Value} {Q : Option Value → Shared → Prop} (he : IsEnum s.heap e it i old)
    (hn : ∀ (A' : Around) (E : Value → Shared → Prop) (Q : Value → Shared → Prop), A'.handled = A.handled → (∀ h' e', Heap.ExtBut it s.heap h' → (∃ o, h'.get? e' = some o ∧ o.cls = .type "StopIteration") → E (.ref e') { s with heap := h' }) → wpAny (model prog w) A' (Builtin.SmallTypes.nextOf (.ref it)) Q E s)
    (hQ : ∀ h', Heap.ExtBut it s.heap h' → Q none { s with heap := h' }) : wpAny (model prog w) A (pyNext (.ref e)) Q E s := by
  have hT : s.TypeIs (.ref e) "enumerate" := ⟨_, he, rfl⟩
  unfold pyNext
  refine wpAny_bind (wpAny_attempt (wpAny_callSpecial?_slot (name := Str.ofString "__next__") hT F.slot_enumerate_next
    (wpAny_call_entry F.slot_enumerate_next hT F.entry_enumerate_next ?_ (F.args_enumerate_next_1 _))))
  show wpAny _ _ (field (.ref e) 2 >>= _) _ _ _
  refine wpAny_bind (wpAny_field he rfl (x := .ref it) rfl ?_)
  refine wpAny_bind (hn _ _ _ rfl fun h' x he' hx' => ?_)
  obtain ⟨o, ho, hc⟩ := hx'
  refine wpAny_bind (wpAny_isInstance (T := "StopIteration") (b := true) ⟨o, ho, hc⟩ isSubtype_stop ?_)
  exact wpAny_pure (hQ _ he')

theorem meets_enumerate_newT (l : Addr) (items : Array Value) :
    Meets (Builtin.«enumerate.__new__» ⟨[.type "enumerate", .ref l], []⟩) (fun _ R s => s.heap.IsTuple l items ∧
      R (.ok (.ret (.ref (s.heap.push { cls := .type "tuple_iterator", data := .fields #[.ref l, .int 0 0] }).objs.size)))
        { s with heap := (s.heap.push { cls := .type "tuple_iterator", data := .fields #[.ref l, .int 0 0] }).push { cls := .type "enumerate", data := .fields #[.none, .bool false, .ref s.heap.objs.size, rawInt 0, .none, .none] } }) :=
  .of_wp fun prog w A R s h => by
    obtain ⟨hp, g, d, tk, os⟩ := s; obtain ⟨hT, h⟩ := h
    have hsub := sub_enumerate
    have hT2 := hT
    obtain ⟨o, hl, _⟩ := hT2
    wp_walk using wpAny_loadPart' hl
    refine wpAny_stack_any fun st => wpAny_pure ?_
    split
    · rename_i c _ _ _ _ _
      cases (c == Value.type "enumerate")
      · wp_walk using wpAny_loadPart' hl, wpAny_pyIter_tuple hT
        exact ⟨_, rfl, h⟩
      · wp_walk using wpAny_loadPart' hl, wpAny_pyIter_tuple hT
        exact ⟨_, rfl, h⟩
    · wp_walk using wpAny_loadPart' hl, wpAny_pyIter_tuple hT
      exact ⟨_, rfl, h⟩
end
end Mine
end
section
set_option maxRecDepth 100000
namespace Mine
open PySem PySem.W PyProof.Rows PySem.Calls

section
variable {prog : Program} {w : World} {s₀ s : Shared} {DD : List Addr} {b₀ : Heap} {env : Env} {cw : Bool} {m cm : Str → Option Value} {P : List As} {O : List Ow}
variable {A : Around} {E : Value → Shared → Prop}

theorem pw_map {l l' : List Ow} (e : l'.map Ow.a = l.map Ow.a) (h : l.Pairwise (fun x y => x.a ≠ y.a)) : l'.Pairwise (fun x y => x.a ≠ y.a) := by
  have h1 : (l.map Ow.a).Pairwise (fun a b => a ≠ b) := List.pairwise_map.mpr h
  rw [← e] at h1
  exact List.pairwise_map.mp h1

theorem St.step {X Y : List Ow} {F : List As} (S : St prog w s₀ DD b₀ env cw m cm P (X ++ O) s) {h' : Heap} {tk : Nat} (N : Addr → Bool) (he : Y.map Ow.a = X.map Ow.a)
    (hk : ∀ a o, a ∉ X.map Ow.a → s.heap.get? a = some o → h'.get? a = some o) (hN : ∀ a, N a = true → s.heap.objs.size ≤ a)
    (hy : ∀ b', (∀ p ∈ P, p.on prog w b') → (∀ a, N a = true → b'.get? a = h'.get? a) → ∀ y ∈ Y, y.on prog w b' h')
    (hF : ∀ b', (∀ p ∈ P, p.on prog w b') → (∀ a, N a = true → b'.get? a = h'.get? a) → ∀ p ∈ F, p.on prog w b') :
    St prog w s₀ DD b₀ env cw m cm (F ++ P) (Y ++ O) { s with heap := h', toks := tk } := by
  obtain ⟨b, S⟩ := S
  have hXo : ∀ a ∈ X.map Ow.a, ∃ x ∈ X, x.a = a := fun a ha => by obtain ⟨x, hx, e⟩ := List.mem_map.mp ha; exact ⟨x, hx, e⟩
  have hXb : ∀ a ∈ X.map Ow.a, b.get? a = none := fun a ha => by
    obtain ⟨x, hx, rfl⟩ := hXo a ha; exact (S.own x (List.mem_append_left _ hx)).2.1
  have bs' : Keep b h' := fun a o e => hk a o (fun hm => by rw [hXb a hm] at e; cases e) (S.bs a o e)
  obtain ⟨b', k1, k2, k3, k4⟩ := extend bs' N
  have new : ∀ a, b.get? a = none → a < s.heap.objs.size → b'.get? a = none := fun a e hlt => by
    refine k4 a ?_ e
    cases hn : N a with
    | false => rfl
    | true => exact absurd (hN a hn) (Nat.not_le.mpr hlt)
  have hP' : ∀ p ∈ P, p.on prog w b' := fun p hp => As.keep k1 p (S.facts p hp)
  have hL : env.locals ∉ X.map Ow.a := fun hm => by obtain ⟨x, hx, e⟩ := hXo _ hm; exact (S.own x (List.mem_append_left _ hx)).2.2.1 e
  have hC : ∀ n c, env.cells.lookup n = some c → c ∉ X.map Ow.a := fun n c hc hm => by
    obtain ⟨x, hx, e⟩ := hXo _ hm; exact (S.own x (List.mem_append_left _ hx)).2.2.2.1 n c hc e
  refine ⟨b', {
    same := by obtain ⟨h, t, rfl⟩ := S.same; exact ⟨h', tk, rfl⟩
    frame := fun a o hd e => ?_
    bb := S.bb.trans k1
    fresh := fun a ha e => new a (S.fresh a ha e) (Nat.lt_of_lt_of_le ha S.grow)
    bs := k2
    pg := S.pg.keep k1
    ns := by obtain ⟨o, es, ep, ho, r⟩ := S.ns; exact ⟨o, es, ep, hk _ o hL ho, r⟩
    nsb := new _ S.nsb S.ns.lt
    nsn := S.nsn
    cell := fun n c e => ?_
    cap := S.cap
    own := fun z hz => ?_
    oap := pw_map (by rw [List.map_append, List.map_append, he]) S.oap
    facts := fun p hp => ?_ }⟩
  · refine hk a o (fun hm => ?_) (S.frame a o hd e)
    obtain ⟨x, hx, e'⟩ := hXo _ hm
    rcases (S.own x (List.mem_append_left _ hx)).2.2.2.2 with q | q
    · exact hd (e' ▸ q)
    · exact absurd (Heap.lt_size e) (Nat.not_lt.mpr (e' ▸ q))
  · obtain ⟨⟨o, ho, r⟩, r2⟩ := S.cell n c e
    exact ⟨⟨o, hk c o (hC n c e) ho, r⟩, new _ r2.1 (Heap.lt_size ho), r2.2⟩
  · rcases List.mem_append.mp hz with hz | hz
    · obtain ⟨x, hx, e⟩ := hXo z.a (he ▸ List.mem_map.mpr ⟨z, hz, rfl⟩)
      have hx0 := S.own x (List.mem_append_left _ hx)
      obtain ⟨o, ho⟩ := Ow.some hx0.1
      rw [← e]
      exact ⟨hy b' hP' k3 z hz, new _ hx0.2.1 (Heap.lt_size ho), hx0.2.2⟩
    · have hz0 := S.own z (List.mem_append_right _ hz)
      obtain ⟨o, ho⟩ := Ow.some hz0.1
      refine ⟨Ow.mono k1 (fun o e => hk _ o (fun hm => ?_) e) hz0.1, new _ hz0.2.1 (Heap.lt_size ho), hz0.2.2⟩
      obtain ⟨x, hx, e'⟩ := hXo _ hm
      exact (List.pairwise_append.mp S.oap).2.2 x hx z hz e'
  · rcases List.mem_append.mp hp with hp | hp
    · exact hF b' hP' k3 p hp
    · exact hP' p hp

/-- the next of an iterator, and what the target lets go -/
noncomputable def nextGo (prog : Program) (w : World) (A : Around) (E : Value → Shared → Prop) (target : Expr) (it : Value) (Q : Option Value → Shared → Prop) (s : Shared) : Prop :=
  wpAny (model prog w) A (pyNext it) (fun r s₁ => match r with
    | none => Q none s₁
    | some v => wpAny (model prog w) A (letOwnedTupleGo target it v) (fun _ s₂ => Q (some v) s₂) E s₁) E s

theorem enum_next {e it : Addr} {i : Nat} {x : Value} {inner : Nat → Ow} {elts : List Expr} {k : Nat} {pos : Pos} {Q : Option Value → Shared → Prop}
    (S : St prog w s₀ DD b₀ env cw m cm P (ienu e it i :: inner i :: O) s) (ha : ∀ i, (inner i).a = it)
    (hn : (∀ b, (inner i).on prog w b s.heap) → ∀ (A : Around) (E : Value → Shared → Prop) (Q : Value → Shared → Prop), (∀ h', (∀ b, (inner (i + 1)).on prog w b h') → Heap.SameBut it s.heap h' → Q x { s with heap := h' }) → wpAny (model prog w) A (Builtin.SmallTypes.nextOf (.ref it)) Q E s)
    (hb : ∀ j b b' h, (inner j).on prog w b h → (inner j).on prog w b' h)
    (h : ∀ t v s', St prog w s₀ DD b₀ env cw m cm (As.tv v [.int i t, x] :: P) (ienu e it (i + 1) :: inner (i + 1) :: O) s' → Q (some v) s') :
    nextGo prog w A E (.Tuple elts k pos) (.ref e) Q s := by
  obtain ⟨b, hb1, hb2, hon⟩ := S.ownAt (x := ienu e it i) List.mem_cons_self
  obtain ⟨_, _, _, hin⟩ := S.ownAt (x := inner i) (List.mem_cons_of_mem _ List.mem_cons_self)
  obtain ⟨oe, hoe, old, rfl⟩ := hon
  have hoe' : s.heap.get? e = some _ := hoe
  obtain ⟨oi, hoi⟩ := Ow.some hin
  rw [ha] at hoi
  have hne : e ≠ it := by
    obtain ⟨_, B⟩ := S
    have := (List.pairwise_cons.mp B.oap).1 (inner i) List.mem_cons_self
    rw [ha] at this
    exact this
  refine enum_item (J := fun h => ∀ b, (inner (i + 1)).on prog w b h) hoe' hne ⟨_, hoi⟩ (fun h1 h2 x1 x2 b => Ow.mono (Keep.refl b) (fun o e => by rw [ha] at e ⊢; exact x2 o e) (x1 b)) (hn fun b => hb _ _ _ _ hin) fun h' he hit ht hz hk => ?_
  refine wpAny_letOwnedTupleGo_enum he fun h₂ he₂ hs₂ => ?_
  replace hs₂ : Heap.SameBut e h' h₂ := hs₂
  have ht₂ : h₂.get? s.heap.objs.size = some { cls := .type "tuple", data := .seq #[.int i s.toks, x] } := (hs₂.2 _ (Nat.ne_of_gt (Heap.lt_size hoe'))).trans ht
  refine h s.toks _ _ (St.step (X := [ienu e it i, inner i]) (Y := [ienu e it (i + 1), inner (i + 1)]) (F := [As.tv (.ref s.heap.objs.size) [.int i s.toks, x]]) (O := O) (tk := s.toks + 1) S (fun a => a == s.heap.objs.size) ?_ ?_ ?_ ?_ ?_)
  · simp only [List.map_cons, List.map_nil, ha]; rfl
  · intro a o hm ho
    have h1 : a ≠ e := fun q => hm (by rw [q]; exact List.mem_cons_self)
    have h2 : a ≠ it := fun q => hm (by rw [q]; simp [ha])
    exact (hs₂.2 a h1).trans (hk a o h1 h2 ho)
  · intro a hN; exact Nat.le_of_eq (beq_iff_eq.mp hN).symm
  · intro b' _ _ y hy
    rcases List.mem_cons.mp hy with rfl | hy
    · exact ⟨_, he₂, x, rfl⟩
    · obtain rfl := List.mem_singleton.mp hy
      refine Ow.mono (Keep.refl b') (fun o e => ?_) (hit b')
      rw [ha] at e ⊢
      exact (hs₂.2 it (Ne.symm hne)).trans e
  · intro b' _ hN p hp
    obtain rfl := List.mem_singleton.mp hp
    exact ⟨_, rfl, _, (hN _ (by simp)).trans ht₂, rfl, _, rfl⟩

theorem enum_end {e it : Addr} {i : Nat} {inner : Nat → Ow} {target : Expr} {Q : Option Value → Shared → Prop}
    (S : St prog w s₀ DD b₀ env cw m cm P (ienu e it i :: inner i :: O) s) (ha : ∀ i, (inner i).a = it)
    (hn : (∀ b, (inner i).on prog w b s.heap) → ∀ (A' : Around) (E : Value → Shared → Prop) (Q : Value → Shared → Prop), A'.handled = A.handled → (∀ h' e', Heap.ExtBut it s.heap h' → (∃ o, h'.get? e' = some o ∧ o.cls = .type "StopIteration") → E (.ref e') { s with heap := h' }) → wpAny (model prog w) A' (Builtin.SmallTypes.nextOf (.ref it)) Q E s)
    (hb : ∀ j b b' h, (inner j).on prog w b h → (inner j).on prog w b' h)
    (h : ∀ s', St prog w s₀ DD b₀ env cw m cm P O s' → Q none s') : nextGo prog w A E target (.ref e) Q s := by
  obtain ⟨b, hb1, hb2, hon⟩ := S.ownAt (x := ienu e it i) List.mem_cons_self
  obtain ⟨_, _, _, hin⟩ := S.ownAt (x := inner i) (List.mem_cons_of_mem _ List.mem_cons_self)
  obtain ⟨oe, hoe, old, rfl⟩ := hon
  refine enum_stop (old := old) hoe (hn fun b => hb _ _ _ _ hin) fun h' he => h _ ?_
  have S1 : St prog w s₀ DD b₀ env cw m cm P (inner i :: O) s := S.weaken (fun _ h => h) (List.sublist_cons_self _ _)
  exact S1.lose (tk := s.toks) (by rw [ha]; exact he)

theorem nx_enuT {e it l : Addr} {i : Nat} {items : Array Value} {x : Value} {elts : List Expr} {k : Nat} {pos : Pos} {Q : Option Value → Shared → Prop}
    (S : St prog w s₀ DD b₀ env cw m cm P (ienu e it i :: itup it l i :: O) s) (hl : s.heap.IsTuple l items) (hx : items[i]? = some x)
    {j : Int} (hj : ((i : Nat) : Int) = j) (h : ∀ t v s', St prog w s₀ DD b₀ env cw m cm (As.tv v [.int j t, x] :: P) (ienu e it (i + 1) :: itup it l (i + 1) :: O) s' → Q (some v) s') :
    nextGo prog w A E (.Tuple elts k pos) (.ref e) Q s :=
  by subst hj; exact
  enum_next (inner := itup it l) S (fun _ => rfl) (fun hin A E Q hq => nextOf_tup (itup_is.mp (hin s.heap)) hl hx fun h' a b => hq h' (fun _ => itup_is.mpr a) b) (fun _ _ _ _ x => x) h
theorem nx_enuTE {e it l : Addr} {i : Nat} {items : Array Value} {target : Expr} {Q : Option Value → Shared → Prop}
    (S : St prog w s₀ DD b₀ env cw m cm P (ienu e it i :: itup it l i :: O) s) (hh : A.handled = none) (hl : s.heap.IsTuple l items) (hx : items[i]? = none)
    (h : ∀ s', St prog w s₀ DD b₀ env cw m cm P O s' → Q none s') : nextGo prog w A E target (.ref e) Q s :=
  enum_end (inner := itup it l) S (fun _ => rfl) (fun hin A' E Q e hq => nextOf_tupE (e.trans hh) (itup_is.mp (hin s.heap)) hl hx hq) (fun _ _ _ _ x => x) h
theorem nx_enuL {e it l : Addr} {i : Nat} {items : Array Value} {x : Value} {elts : List Expr} {k : Nat} {pos : Pos} {Q : Option Value → Shared → Prop}
    (S : St prog w s₀ DD b₀ env cw m cm P (ienu e it i :: ilst it l i :: O) s) (hl : s.heap.IsList l items) (hx : items[i]? = some x)
    {j : Int} (hj : ((i : Nat) : Int) = j) (h : ∀ t v s', St prog w s₀ DD b₀ env cw m cm (As.tv v [.int j t, x] :: P) (ienu e it (i + 1) :: ilst it l (i + 1) :: O) s' → Q (some v) s') :
    nextGo prog w A E (.Tuple elts k pos) (.ref e) Q s :=
  by subst hj; exact
  enum_next (inner := ilst it l) S (fun _ => rfl) (fun hin A E Q hq => wpAny_nextOf_list_item (ilst_is.mp (hin s.heap)) hl hx fun h' a b => hq h' (fun _ => ilst_is.mpr a) b) (fun _ _ _ _ x => x) h
theorem nx_enuLE {e it l : Addr} {i : Nat} {items : Array Value} {target : Expr} {Q : Option Value → Shared → Prop}
    (S : St prog w s₀ DD b₀ env cw m cm P (ienu e it i :: ilst it l i :: O) s) (hh : A.handled = none) (hl : s.heap.IsList l items) (hx : items[i]? = none)
    (h : ∀ s', St prog w s₀ DD b₀ env cw m cm P O s' → Q none s') : nextGo prog w A E target (.ref e) Q s :=
  enum_end (inner := ilst it l) S (fun _ => rfl) (fun hin A' E Q e hq => wpAny_nextOf_list_end (e.trans hh) (ilst_is.mp (hin s.heap)) hl hx hq) (fun _ _ _ _ x => x) h

/-- calls of enumerate -/
theorem mk_enuT {l : Addr} {items : Array Value} {Q : Value → Shared → Prop} (S : St prog w s₀ DD b₀ env cw m cm P O s) (hl : s.heap.IsTuple l items)
    (h : ∀ e it s', St prog w s₀ DD b₀ env cw m cm P (ienu e it 0 :: itup it l 0 :: O) s' → Keep s.heap s'.heap → Q (.ref e) s') :
    wpAny (model prog w) A (call (.type "enumerate") [.ref l]) Q E s := by
  refine callType_new F.called_enumerate (by decide) (F.typeCall_enumerate_1 _) (F.newCall_enumerate_1 _) (fun obj => F.args_object_init_2 obj _) F.entry_enumerate_new
    (meets_enumerate_newT l items) ⟨hl, ?_⟩
  refine ⟨⟨_, Heap.get?_push_size _ rfl, rfl⟩, h _ s.heap.objs.size _ ?_ ((keep_push _ _).trans (keep_push _ _))⟩
  have S1 := S.owns (tk := s.toks) (x := itup s.heap.objs.size l 0) (h' := s.heap.push { cls := .type "tuple_iterator", data := .fields #[.ref l, .int 0 0] }) (keep_push _ _) (Nat.le_refl _) fun b _ _ => ⟨_, Heap.get?_push_size _ rfl, rfl, rfl⟩
  exact S1.owns (tk := s.toks) (x := ienu _ s.heap.objs.size 0) (keep_push _ _) (Nat.le_refl _) fun b _ _ => ⟨_, Heap.get?_push_size _ rfl, _, rfl⟩
theorem ih_enu {e it : Addr} {i : Nat} {Q : Value → Shared → Prop} (S : St prog w s₀ DD b₀ env cw m cm P O s) (hx : ienu e it i ∈ O) (h : Q (.ref e) s) : wpAny (model prog w) A (pyIter (.ref e)) Q E s := by
  obtain ⟨b, hb1, hb2, hon⟩ := S.ownAt (x := ienu e it i) hx
  obtain ⟨oe, hoe, old, rfl⟩ := hon
  exact wpAny_pyIter_enum (i := i) (old := old) hoe h
theorem mk_enuL {l : Addr} {items : Array Value} {Q : Value → Shared → Prop} (S : St prog w s₀ DD b₀ env cw m cm P O s) (hl : s.heap.IsList l items)
    (h : ∀ e it s', St prog w s₀ DD b₀ env cw m cm P (ienu e it 0 :: ilst it l 0 :: O) s' → Keep s.heap s'.heap → Q (.ref e) s') :
    wpAny (model prog w) A (call (.type "enumerate") [.ref l]) Q E s := by
  obtain ⟨⟨c, dct, dt, sl⟩, hl', hc, n, hd⟩ := hl
  replace hc : c = .type "list" := hc
  replace hd : dt = .seq items n := hd
  subst hc hd
  refine callType_new F.called_enumerate (by decide) (F.typeCall_enumerate_1 _) (F.newCall_enumerate_1 _) (fun obj => F.args_object_init_2 obj _) F.entry_enumerate_new
    (meets_enumerate_newL l items n dct sl) ⟨hl', ?_⟩
  refine ⟨⟨_, Heap.get?_push_size _ rfl, rfl⟩, h _ s.heap.objs.size _ ?_ ((keep_push _ _).trans (keep_push _ _))⟩
  have S1 := S.owns (tk := s.toks) (x := ilst s.heap.objs.size l 0) (h' := s.heap.push { cls := .type "list_iterator", data := .fields #[.ref l, .int 0 0] }) (keep_push _ _) (Nat.le_refl _) fun b _ _ => ⟨_, Heap.get?_push_size _ rfl, rfl, rfl⟩
  exact S1.owns (tk := s.toks) (x := ienu _ s.heap.objs.size 0) (keep_push _ _) (Nat.le_refl _) fun b _ _ => ⟨_, Heap.get?_push_size _ rfl, _, rfl⟩
end
end Mine
end
section
set_option maxRecDepth 100000
namespace Mine
open PySem PySem.W PyProof.Rows PySem.Calls

section
variable {prog : Program} {w : World} {s₀ s : Shared} {DD : List Addr} {b₀ : Heap} {env : Env} {cw : Bool} {m cm : Str → Option Value} {P : List As} {O : List Ow}
variable {A : Around} {E : Value → Shared → Prop}

/-- what holds behind a loop's 'next' -/
@[reducible] noncomputable def ForQ (prog : Program) (w : World) (A : Around) (env : Env) (target : Expr) (it : Value) (body orelse : List Stmt) (R : Result → Shared → Prop) : Option Value → Shared → Prop := fun r s₁ => match r with
  | none => wpAny (model prog w) A (execs orelse env) (fun f s₃ => R (.ok f) s₃) (fun _ _ => False) s₁
  | some v => wpAny (model prog w) A (assign target env v) (ExQ (model prog w) A env body (LoopQ prog w A (.forLoop target it body orelse env) R) (fun _ _ => False)) (fun _ _ => False) s₁
theorem forG {target : Expr} {it : Value} {body orelse : List Stmt} {R : Result → Shared → Prop}
    (h : nextGo prog w A (fun _ _ => False) target it (ForQ prog w A env target it body orelse R) s) :
    codeAny (model prog w) A (.forLoop target it body orelse env) R s :=
  for_step (wpAny_mono h (fun r _ x => by cases r <;> exact x) fun _ _ x => x)

theorem nextName {x : Str} {p : Pos} {it : Value} {Q : Option Value → Shared → Prop} (h : wpAny (model prog w) A (pyNext it) Q E s) : nextGo prog w A E (.Name x p) it Q s :=
  wpAny_mono h (fun r s₁ h₁ => by
    cases r with
    | none => exact h₁
    | some v => exact wpAny_pure h₁) fun _ _ x => x

/-! one turn of a comprehension -/
@[reducible] noncomputable def AppQ (prog : Program) (w : World) (A : Around) (acc : Value) (c : Code) (R : Result → Shared → Prop) : Value → Shared → Prop := fun y s₃ =>
  wpAny (model prog w) A (call (.builtin "list.append") [acc, y]) (fun _ s₄ => codeAny (model prog w) A c R s₄) (fun _ _ => False) s₃
@[reducible] noncomputable def CsQ (prog : Program) (w : World) (A : Around) (env : Env) (target elt : Expr) (acc : Value) (c : Code) (R : Result → Shared → Prop) : Option Value → Shared → Prop := fun r s₁ => match r with
  | none => R (.ok .next) s₁
  | some v => wpAny (model prog w) A (assign target env v) (EvQ (model prog w) A env elt (AppQ prog w A acc c R) (fun _ _ => False)) (fun _ _ => False) s₁
@[reducible] noncomputable def CsQ1 (prog : Program) (w : World) (A : Around) (env : Env) (target elt t : Expr) (acc : Value) (c : Code) (R : Result → Shared → Prop) : Option Value → Shared → Prop := fun r s₁ => match r with
  | none => R (.ok .next) s₁
  | some v => wpAny (model prog w) A (assign target env v) (fun _ s₂ => wpAny (model prog w) A (isTrue t env (eval t env)) (fun ok s₂' =>
      if ok then wpAny (model prog w) A (eval elt env) (AppQ prog w A acc c R) (fun _ _ => False) s₂' else codeAny (model prog w) A c R s₂') (fun _ _ => False) s₂) (fun _ _ => False) s₁
theorem comp_stepL {elt target iter : Expr} {scope : Scope} {pos : Pos} {it acc : Value} {R : Result → Shared → Prop}
    (h : nextGo prog w A (fun _ _ => False) target it (CsQ prog w A env target elt acc (.compLoop (.ListComp elt [⟨target, iter, [], 0⟩] scope pos) 0 it acc env) R) s) :
    codeAny (model prog w) A (.compLoop (.ListComp elt [⟨target, iter, [], 0⟩] scope pos) 0 it acc env) R s := by
  refine codeAny_of_tree ?_
  show wpAny _ _ ((compTurn (.ListComp elt [⟨target, iter, [], 0⟩] scope pos) 0 it acc env).onRaise (fun x => do noteFrame x env; theTreesLotGoes x)) _ _ s
  refine wpAny_noted ?_
  rw [compTurn_list1]
  refine wpAny_bind (wpAny_standAt (wpAny_bind (wpAny_mono h (fun r s₁ h₁ => ?_) fun _ _ h' => h'.elim)))
  cases r with
  | none => exact wpAny_pure h₁
  | some v =>
    refine wpAny_bind (wpAny_mono h₁ (fun _ s₂ h₂ => ?_) fun _ _ h' => h'.elim)
    exact wpAny_bind (wpAny_mono h₂ (fun _ s₂ h₂ => wpAny_bind (wpAny_bind (wpAny_mono h₂ (fun x s₃ h₃ => wpAny_bind (wpAny_mono h₃
      (fun _ s₄ h₄ => wpAny_pure (wpAny_pure ⟨rfl, h₄⟩)) fun _ _ h' => h'.elim)) fun _ _ h' => h'.elim))) fun _ _ h' => h'.elim)

theorem tests1 {c : Expr} {M : Model} {Q : Bool → Shared → Prop} (h : wpAny M A (isTrue c env (eval c env)) Q E s) :
    wpAny M A (forIn [c] true fun c r => if r = true then do let ok ← isTrue c env (eval c env); pure (ForInStep.yield ok) else pure (ForInStep.yield r)) Q E s := by
  rw [List.forIn_cons]
  refine wpAny_bind ?_
  rw [if_pos rfl]
  refine wpAny_bind (wpAny_mono h (fun ok s₁ h₁ => wpAny_pure ?_) fun _ _ x => x)
  show wpAny M A (forIn [] ok _) Q E s₁
  rw [List.forIn_nil]
  exact wpAny_pure h₁
theorem tests0 {M : Model} {Q : Bool → Shared → Prop} (h : Q true s) :
    wpAny M A (forIn ([] : List Expr) true fun c r => if r = true then do let ok ← isTrue c env (eval c env); pure (ForInStep.yield ok) else pure (ForInStep.yield r)) Q E s := by
  rw [List.forIn_nil]
  exact wpAny_pure h

theorem comp_stepL1 {elt target iter c : Expr} {scope : Scope} {pos : Pos} {it acc : Value} {R : Result → Shared → Prop}
    (h : nextGo prog w A (fun _ _ => False) target it (CsQ1 prog w A env target elt c acc (.compLoop (.ListComp elt [⟨target, iter, [c], 0⟩] scope pos) 0 it acc env) R) s) :
    codeAny (model prog w) A (.compLoop (.ListComp elt [⟨target, iter, [c], 0⟩] scope pos) 0 it acc env) R s := by
  refine codeAny_of_tree ?_
  show wpAny _ _ ((compTurn (.ListComp elt [⟨target, iter, [c], 0⟩] scope pos) 0 it acc env).onRaise (fun x => do noteFrame x env; theTreesLotGoes x)) _ _ s
  refine wpAny_noted ?_
  rw [compTurn_list]
  refine wpAny_bind (wpAny_standAt (wpAny_bind (wpAny_mono h (fun r s₁ h₁ => ?_) fun _ _ h' => h'.elim)))
  cases r with
  | none => exact wpAny_pure h₁
  | some v =>
    refine wpAny_bind (wpAny_mono h₁ (fun _ s₂ h₂ => ?_) fun _ _ h' => h'.elim)
    refine wpAny_bind (wpAny_mono h₂ (fun _ s₂ h₂ => ?_) fun _ _ h' => h'.elim)
    refine wpAny_bind (tests1 (wpAny_mono h₂ (fun ok s₂' h₂' => ?_) fun _ _ h' => h'.elim))
    cases ok with
    | false => exact wpAny_pure ⟨rfl, h₂'⟩
    | true =>
      exact wpAny_bind (wpAny_bind (wpAny_mono h₂' (fun x s₃ h₃ => wpAny_bind (wpAny_mono h₃
        (fun _ s₄ h₄ => wpAny_pure (wpAny_pure ⟨rfl, h₄⟩)) fun _ _ h' => h'.elim)) fun _ _ h' => h'.elim))

@[reducible] noncomputable def CsD (prog : Program) (w : World) (A : Around) (env : Env) (target kx vx : Expr) (d : Addr) (c : Code) (R : Result → Shared → Prop) : Option Value → Shared → Prop := fun r s₁ => match r with
  | none => R (.ok .next) s₁
  | some v => wpAny (model prog w) A (assign target env v) (fun _ s₂ => wpAny (model prog w) A (eval kx env) (fun kv s₃ => wpAny (model prog w) A (eval vx env) (fun vv s₄ => wpAny (model prog w) A (dictSet d kv vv)
      (fun _ s₅ => codeAny (model prog w) A c R s₅) (fun _ _ => False) s₄) (fun _ _ => False) s₃) (fun _ _ => False) s₂) (fun _ _ => False) s₁
theorem comp_stepD {kx vx target iter : Expr} {scope : Scope} {pos : Pos} {it : Value} {d : Addr} {R : Result → Shared → Prop}
    (h : nextGo prog w A (fun _ _ => False) target it (CsD prog w A env target kx vx d (.compLoop (.DictComp kx vx [⟨target, iter, [], 0⟩] scope pos) 0 it (.ref d) env) R) s) :
    codeAny (model prog w) A (.compLoop (.DictComp kx vx [⟨target, iter, [], 0⟩] scope pos) 0 it (.ref d) env) R s := by
  refine codeAny_of_tree ?_
  show wpAny _ _ ((compTurn (.DictComp kx vx [⟨target, iter, [], 0⟩] scope pos) 0 it (.ref d) env).onRaise (fun x => do noteFrame x env; theTreesLotGoes x)) _ _ s
  refine wpAny_noted ?_
  rw [compTurn_dict]
  refine wpAny_bind (wpAny_standAt (wpAny_bind (wpAny_mono h (fun r s₁ h₁ => ?_) fun _ _ h' => h'.elim)))
  cases r with
  | none => exact wpAny_pure h₁
  | some v =>
    refine wpAny_bind (wpAny_mono h₁ (fun _ s₂ h₂ => ?_) fun _ _ h' => h'.elim)
    refine wpAny_bind (wpAny_mono h₂ (fun _ s₂ h₂ => ?_) fun _ _ h' => h'.elim)
    refine wpAny_bind (tests0 ?_)
    exact wpAny_bind (wpAny_bind (wpAny_mono h₂ (fun kv s₃ h₃ => wpAny_bind (wpAny_holding (wpAny_mono h₃ (fun vv s₄ h₄ => wpAny_bind (wpAny_standAt (wpAny_holding (wpAny_mono h₄
      (fun _ s₅ h₅ => wpAny_pure ⟨rfl, h₅⟩) fun _ _ h' => h'.elim)))) fun _ _ h' => h'.elim))) fun _ _ h' => h'.elim))

theorem compStart_ {e : Expr} {it acc : Value} {R : Result → Shared → Prop} (hq : (Code.compLoop e 0 it acc env).quiet = true) (hf : (Code.compStart e 0 it acc env).isFrame = false)
    (has : ((clausesOf e)[0]?).elim false (·.is_async != 0) = false)
    (hit : ∀ (Q : Value → Shared → Prop) (E : Value → Shared → Prop), Q it s → wpAny (model prog w) (A.under (Code.compStart e 0 it acc env)) (pyIter it) Q E s)
    (h : codeAny (model prog w) A (.compLoop e 0 it acc env) R s) : codeAny (model prog w) A (.compStart e 0 it acc env) R s := by
  refine codeAny_of_tree ?_
  have e1 : (model prog w).den (.compStart e 0 it acc env) = (compStart e 0 it acc env).onRaise (fun x => do noteFrame x env; standAt theWindowsPlace) := by
    show (if (Code.compStart e 0 it acc env).isFrame = true then _ else _) = _
    rw [hf]; rfl
  rw [e1]
  refine wpAny_notedAt ?_
  unfold compStart
  rw [has]
  simp only [Bool.false_eq_true, if_false]
  refine wpAny_bind (wpAny_askSetting ?_)
  split
  · first
      | exact wpAny_bind (wpAny_pure (wpAny_pure ⟨hq, h⟩))
      | exact wpAny_pure ⟨hq, h⟩
  · refine wpAny_bind (wpAny_rule ?_)
    split
    · exact wpAny_bind (wpAny_standAt (wpAny_bind (hit _ _ (wpAny_pure ⟨hq, h⟩))))
    · exact wpAny_bind (hit _ _ (wpAny_pure ⟨hq, h⟩))
end
end Mine
end
section
set_option maxRecDepth 100000
namespace Mine
open PySem PySem.W PyProof.Rows PySem.Calls

section
variable {prog : Program} {w : World} {s₀ s : Shared} {DD : List Addr} {b₀ : Heap} {env : Env} {cw : Bool} {m cm : Str → Option Value} {P : List As} {O : List Ow}
variable {A : Around} {E : Value → Shared → Prop}

theorem St.notSys (S : St prog w s₀ DD b₀ env cw m cm P O s) {a : Addr} (ha : s.heap.objs.size ≤ a) : (a == sysModules) = false := by
  obtain ⟨b, B⟩ := S
  obtain ⟨mm, hm, _⟩ := B.pg.seer.mods
  have h := (hm.keeps B.bs).lt
  cases e : (a == sysModules) with
  | false => rfl
  | true => rw [beq_iff_eq.mp e] at ha; exact absurd h (Nat.not_lt.mpr ha)

noncomputable def nsO (C : Addr) (m : Str → Option Value) : Ow := .gen C fun o => ∃ es ep, o.data = .dict es ep ∧ StrKeys es ∧ ∀ name, nsFind es name = m name
theorem nsO_is {b h : Heap} {C : Addr} {m : Str → Option Value} : (nsO C m).on prog w b h ↔ h.Ns C m :=
  ⟨fun ⟨o, ho, es, ep, a, c, d⟩ => ⟨o, es, ep, ho, a, c, d⟩, fun ⟨o, es, ep, ho, a, c, d⟩ => ⟨o, ho, es, ep, a, c, d⟩⟩

/-- the frame of a comprehension is entered -/
theorem StB.inner {X O : List Ow} {b : Heap} (B : StB prog w s₀ DD b₀ env cw m cm P (X ++ O) s b) {acc : Ow} {C : Addr} {cl : List (Str × Addr)} {scope : Scope} {h₁ : Heap} {tk : Nat}
    (hcl : ∀ n c, cl.lookup n = some c → env.cells.lookup n = some c) (k : Keep s.heap h₁) (hns : h₁.Ns C fun _ => none) (hD : s.heap.objs.size ≤ acc.a) (hC : s.heap.objs.size ≤ C) (hDC : acc.a ≠ C)
    (hacc : acc.on prog w b h₁) : StB prog w s (X.map Ow.a) b (compEnvC scope cl C env) false (fun _ => none) cm P (acc :: X) { s with heap := h₁, toks := tk } b where
  same := ⟨_, _, rfl⟩
  frame := fun a o _ e => k _ _ e
  bb := Keep.refl b
  fresh := fun _ _ e => e
  bs := B.bs.trans k
  pg := B.pg
  ns := hns
  nsb := none_of_keep B.bs (get_none_of_size hC)
  nsn := hC
  cell := fun n c e => by
    obtain ⟨hc, hb, _⟩ := B.cell n c (hcl n c e)
    obtain ⟨o, ho, r⟩ := hc
    exact ⟨⟨o, k _ _ ho, r⟩, hb, fun e => absurd (Heap.lt_size ho) (Nat.not_lt.mpr (by rw [e]; exact hC)), fun h => nomatch h⟩
  cap := fun n n' c e e' => B.cap n n' c (hcl n c e) (hcl n' c e')
  own := fun x hx => by
    rcases List.mem_cons.mp hx with rfl | hx
    · refine ⟨hacc, none_of_keep B.bs (get_none_of_size hD), hDC, fun n c e e' => ?_, .inr hD⟩
      obtain ⟨⟨o, ho, _⟩, _⟩ := B.cell n c (hcl n c e)
      exact absurd (Heap.lt_size ho) (Nat.not_lt.mpr (e' ▸ hD))
    · obtain ⟨h1, h2, h3, h4, h5⟩ := B.own x (List.mem_append_left _ hx)
      obtain ⟨o, ho⟩ := Ow.some h1
      exact ⟨Ow.mono (Keep.refl b) (fun o e => k _ _ e) h1, h2, fun e => absurd (Heap.lt_size ho) (Nat.not_lt.mpr (by rw [e]; exact hC)), fun n c e => h4 n c (hcl n c e), .inl (List.mem_map.mpr ⟨x, hx, rfl⟩)⟩
  oap := List.pairwise_cons.mpr ⟨fun x hx e => by
    obtain ⟨o, ho⟩ := Ow.some (B.own x (List.mem_append_left _ hx)).1
    exact absurd (Heap.lt_size ho) (Nat.not_lt.mpr (e ▸ hD)), (List.pairwise_append.mp B.oap).1⟩
  facts := B.facts

/-- and left -/
theorem StB.outer {X O : List Ow} {b : Heap} (B : StB prog w s₀ DD b₀ env cw m cm P (X ++ O) s b) {C : Addr} {cl : List (Str × Addr)} {scope : Scope} {m' cm' : Str → Option Value} {cw' : Bool} {P' F : List As} {O' : List Ow} {s' : Shared}
    (S : St prog w s (X.map Ow.a) b (compEnvC scope cl C env) cw' m' cm' P' O' s') (hF : ∀ b, (∀ p ∈ P', p.on prog w b) → ∀ p ∈ F, p.on prog w b) :
    St prog w s₀ DD b₀ env cw m cm (F ++ P) (nsO C m' :: O' ++ O) s' := by
  obtain ⟨b', S⟩ := S
  have R : Ret prog w s (X.map Ow.a) b s' b' F (nsO C m' :: O') := ⟨S.same, S.frame, S.grow, S.bb, S.fresh, S.bs, hF b' S.facts, fun x hx => by
      rcases List.mem_cons.mp hx with rfl | hx
      · exact ⟨nsO_is.mpr S.ns, S.nsb, .inr S.nsn⟩
      · exact ⟨(S.own x hx).1, (S.own x hx).2.1, (S.own x hx).2.2.2.2⟩,
    List.pairwise_cons.mpr ⟨fun x hx e => (S.own x hx).2.2.1 e.symm, S.oap⟩⟩
  refine ⟨b', B.called R (fun a ha => ?_) (List.sublist_append_right _ _) (fun x hx hm => ?_)⟩
  · obtain ⟨x, hx, e⟩ := List.mem_map.mp ha
    exact ⟨x, List.mem_append_left _ hx, e⟩
  · obtain ⟨y, hy, e⟩ := List.mem_map.mp hm
    exact (List.pairwise_append.mp B.oap).2.2 y hy x hx e

theorem comp_core {X O : List Ow} (S : St prog w s₀ DD b₀ env cw m cm P (X ++ O) s) {e : Expr} {scope : Scope} {cl : List (Str × Addr)} {it : Value} {RR : Value → Addr → Result → Shared → Prop} {data : Data} {ty : String} {mk : Addr → Ow}
    {newAcc : Sem Value} (hnew : ∀ (Q : Value → Shared → Prop), Q (.ref s.heap.objs.size) { s with heap := s.heap.push { cls := .type ty, data := data } } → wpAny (model prog w) A newAcc Q E s)
    (hfree : Obj.isFreed { cls := .type ty, data := data } = false) (hmk : ∀ a, (mk a).a = a) (hon : ∀ b h, h.get? s.heap.objs.size = some { cls := .type ty, data := data } → (mk s.heap.objs.size).on prog w b h)
    (hcl : ∀ n c, cl.lookup n = some c → env.cells.lookup n = some c) (hcell : ∀ y ∈ scope.names, y.2 ≠ .cell) (hkind : scope.kind = .function)
    (loop : ∀ D C b s₄, (Keep b s.heap ∧ Keep b₀ b) → Pg w b → St prog w s (X.map Ow.a) b (compEnvC scope cl C env) false (fun _ => none) cm P (mk D :: X) s₄ → Keep s.heap s₄.heap →
      codeAny (model prog w) A (.compStart e 0 it (.ref D) (compEnvC scope cl C env))
        (fun r s' => ∃ F m' P' O' cm' cw', St prog w s (X.map Ow.a) b (compEnvC scope cl C env) cw' m' cm' P' O' s' ∧ (∀ b, (∀ p ∈ P', p.on prog w b) → ∀ p ∈ F, p.on prog w b) ∧
          (St prog w s₀ DD b₀ env cw m cm (F ++ P) (nsO C m' :: O' ++ O) s' → RR (.ref D) C r s')) s₄) :
    wpAny (model prog w) A newAcc (fun acc s₃ => wpAny (model prog w) A (newFunctionEnv scope env.globals cl [] env.qual none .none (some env)) (fun cenv s₄ =>
      codeAny (model prog w) A (.compStart e 0 it acc { cenv with scope := relabel scope env }) (RR acc cenv.locals) s₄) E s₃) E s := by
  obtain ⟨b, B⟩ := S
  refine hnew _ (wpAny_newFunctionEnv hcell (by intro y hy; simp at hy) (fun h₁ hns₁ hsb₁ => ?_) hkind)
  dsimp only at hns₁ hsb₁ ⊢
  generalize hH2 : s.heap.push { cls := .type ty, data := data } = H2 at hns₁ hsb₁ ⊢
  have hC : H2.objs.size = s.heap.objs.size + 1 := by rw [← hH2, Heap.size_push]
  have hD2 : H2.get? s.heap.objs.size = some { cls := .type ty, data := data } := by rw [← hH2]; exact Heap.get?_push_size _ hfree
  have old : Keep s.heap h₁ := fun a o e => hsb₁.extBut a o (by rw [hC]; exact Nat.ne_of_lt (Nat.lt_succ_of_lt (Heap.lt_size e))) (Heap.get?_push_of_some _ (by rw [← hH2]; exact Heap.get?_push_of_some _ e))
  have hD1 : h₁.get? s.heap.objs.size = some { cls := .type ty, data := data } := hsb₁.extBut _ _ (by rw [hC]; exact Nat.ne_of_lt (Nat.lt_succ_self _)) (Heap.get?_push_of_some _ hD2)
  have Si := B.inner (acc := mk s.heap.objs.size) (C := H2.objs.size) (cl := cl) (scope := scope) (tk := s.toks + ([] : List (Str × Value)).length) hcl old hns₁ (by rw [hmk]; exact Nat.le_refl _) (by rw [hC]; exact Nat.le_succ _) (by rw [hmk, hC]; exact Nat.ne_of_lt (Nat.lt_succ_self _))
    (hon _ _ hD1)
  refine codeAny_mono (loop _ H2.objs.size b _ ⟨B.bs, B.bb⟩ B.pg ⟨b, Si⟩ old) fun r s' hr => ?_
  obtain ⟨F, m', P', O', cm', cw', S', hF, hq⟩ := hr
  exact hq (B.outer S' hF)

/-- where a comprehension goes: from the iterator's state to its end -/
noncomputable def CompGo (prog : Program) (w : World) (A : Around) (env : Env) (scope : Scope) (cl : List (Str × Addr)) (e : Expr) (acc : Addr → Ow)
    (End : Shared → List Ow → Heap → Env → Addr → Shared → List Addr → Heap → Bool → (Str → Option Value) → (Str → Option Value) → List As → List Ow → Result → Shared → Prop) (it : Value) (s₂ : Shared) : Prop :=
  ∃ s₀ DD b₀ cw m cm P X O, St prog w s₀ DD b₀ env cw m cm P (X ++ O) s₂ ∧
    ∀ D C b s₄, (Keep b s₂.heap ∧ Keep b₀ b) → Pg w b → St prog w s₂ (X.map Ow.a) b (compEnvC scope cl C env) false (fun _ => none) cm P (acc D :: X) s₄ → Keep s₂.heap s₄.heap → ∀ R : Result → Shared → Prop,
      (∀ r s', End s₂ X b (compEnvC scope cl C env) D s₀ DD b₀ cw m cm P O r s' → R r s') → codeAny (model prog w) A (.compStart e 0 it (.ref D) (compEnvC scope cl C env)) R s₄
theorem CompGo.mk {scope : Scope} {cl : List (Str × Addr)} {e : Expr} {acc : Addr → Ow} {End : Shared → List Ow → Heap → Env → Addr → Shared → List Addr → Heap → Bool → (Str → Option Value) → (Str → Option Value) → List As → List Ow → Result → Shared → Prop} {it : Value} {s₂ : Shared}
    (X O : List Ow) (S : St prog w s₀ DD b₀ env cw m cm P (X ++ O) s₂)
    (h : ∀ D C b s₄, (Keep b s₂.heap ∧ Keep b₀ b) → Pg w b → St prog w s₂ (X.map Ow.a) b (compEnvC scope cl C env) false (fun _ => none) cm P (acc D :: X) s₄ → Keep s₂.heap s₄.heap → ∀ R : Result → Shared → Prop,
      (∀ r s', End s₂ X b (compEnvC scope cl C env) D s₀ DD b₀ cw m cm P O r s' → R r s') → codeAny (model prog w) A (.compStart e 0 it (.ref D) (compEnvC scope cl C env)) R s₄) :
    CompGo prog w A env scope cl e acc End it s₂ := ⟨_, _, _, _, _, _, _, X, O, S, h⟩
/-- the end of a comprehension that is an expression -/
noncomputable def EndE (prog : Program) (w : World) (env : Env) (Q : Value → Shared → Prop) (s₂ : Shared) (X : List Ow) (b : Heap) (ce : Env) (D : Addr) (s₀ : Shared) (DD : List Addr) (b₀ : Heap) (cw : Bool) (m cm : Str → Option Value) (P : List As) (O : List Ow) (r : Result) (s' : Shared) : Prop :=
  r = .ok .next ∧ ∃ ys F N m' P' cm' cw', St prog w s₂ (X.map Ow.a) b ce cw' m' cm' P' (Ow.list D ys :: N) s' ∧ (∀ b, (∀ p ∈ P', p.on prog w b) → ∀ p ∈ F, p.on prog w b) ∧
    (∀ s', St prog w s₀ DD b₀ env cw m cm (F ++ P) (Ow.list D ys :: (N ++ O)) s' → Q (.ref D) s')
theorem EndE.mk {env : Env} {Q : Value → Shared → Prop} {s₂ : Shared} {X : List Ow} {b : Heap} {ce : Env} {D : Addr} {s₀ : Shared} {DD : List Addr} {b₀ : Heap} {cw cw' : Bool} {m cm m' cm' : Str → Option Value} {P P' : List As} {O : List Ow} {s' : Shared} (ys : List Value) (F : List As) (N : List Ow)
    (S : St prog w s₂ (X.map Ow.a) b ce cw' m' cm' P' (Ow.list D ys :: N) s') (hF : ∀ b, (∀ p ∈ P', p.on prog w b) → ∀ p ∈ F, p.on prog w b) (h : ∀ s', St prog w s₀ DD b₀ env cw m cm (F ++ P) (Ow.list D ys :: (N ++ O)) s' → Q (.ref D) s') :
    EndE prog w env Q s₂ X b ce D s₀ DD b₀ cw m cm P O (.ok .next) s' := ⟨rfl, ys, F, N, m', P', cm', cw', S, hF, h⟩

/-- a list comprehension as an expression; more owned things may come out -/
theorem listCompEG {elt target iter : Expr} {ifs : List Expr} {more : List Comprehension} {scope : Scope} {cl : List (Str × Addr)} {pos : Pos} {Q : Value → Shared → Prop}
    (hclos : closureFor scope env = pure cl) (hcell : ∀ y ∈ scope.names, y.2 ≠ .cell) (hkind : scope.kind = .function)
    (hnames : ∀ y ∈ scope.names, y.2 = .local → scope.names.lookup y.1 = some .local)
    (hcl : ∀ n c, cl.lookup n = some c → env.cells.lookup n = some c) (hs : ∀ x, foldedSetIterable iter env x = pure x)
    (h : ∀ K : Value → Shared → Prop, (∀ it s₂, CompGo prog w A env scope cl (.ListComp elt (⟨target, iter, ifs, 0⟩ :: more) scope pos) (Ow.list · []) (EndE prog w env Q) it s₂ → K it s₂) → wpAny (model prog w) A (eval iter env) (ItQ (model prog w) A K E) E s) :
    wpAny (model prog w) A (eval (.ListComp elt (⟨target, iter, ifs, 0⟩ :: more) scope pos) env) Q E s := by
  rw [eval_ListComp]
  refine wpAny_comprehension_free (use := none) rfl hs hclos hkind hnames (wpAny_mono (h _ fun _ _ x => x) (fun xv s₁ h₁ => wpAny_mono h₁ (fun it s₂ h₂ => ?_) fun _ _ e => e) fun _ _ e => e)
  obtain ⟨s₀, DD, b₀, cw, m, cm, P, X, O, S, loop⟩ := h₂
  refine comp_core (RR := fun acc C => compPost (model prog w) A E none Q acc C) (ty := "list") (data := .seq ([] : List Value).toArray) (mk := fun a => Ow.list a []) S (fun Q hq => wpAny_newObj_type hq (few (Nat.zero_le _))) rfl (fun _ => rfl)
    (fun b h e => ⟨_, e⟩) hcl hcell hkind fun D C b s₄ hk pg Si k => codeAny_mono (loop D C b s₄ hk pg Si k _ fun _ _ x => x) fun r s' hr => ?_
  obtain ⟨rfl, ys, F, N, m', P', cm', cw', S', hF, hq⟩ := hr
  refine ⟨F, m', P', _, cm', cw', S', hF, fun So => ?_⟩
  obtain ⟨b1, _, _, hns⟩ := So.ownAt (x := nsO C m') List.mem_cons_self
  exact ⟨m', nsO_is.mp hns, fun h' hs => hq _ (So.lose (tk := s'.toks) hs.extBut)⟩

theorem arm_DictComp (k v : Expr) (gens scope pos) : eval (.DictComp k v gens scope pos) env =
    comprehension (.DictComp k v gens scope pos) scope env (firstIterPos gens pos) newDict (firstAsync gens) (firstIter gens env) := rfl

/-- the end of a dict comprehension -/
noncomputable def EndD (prog : Program) (w : World) (env : Env) (Q : Value → Shared → Prop) (s₂ : Shared) (X : List Ow) (b : Heap) (ce : Env) (D : Addr) (s₀ : Shared) (DD : List Addr) (b₀ : Heap) (cw : Bool) (m cm : Str → Option Value) (P : List As) (O : List Ow) (r : Result) (s' : Shared) : Prop :=
  r = .ok .next ∧ ∃ q m' P' cm' cw', St prog w s₂ (X.map Ow.a) b ce cw' m' cm' P' [Ow.dict D q] s' ∧ (∀ s', St prog w s₀ DD b₀ env cw m cm P (Ow.dict D q :: O) s' → Q (.ref D) s')
theorem EndD.mk {env : Env} {Q : Value → Shared → Prop} {s₂ : Shared} {X : List Ow} {b : Heap} {ce : Env} {D : Addr} {s₀ : Shared} {DD : List Addr} {b₀ : Heap} {cw cw' : Bool} {m cm m' cm' : Str → Option Value} {P P' : List As} {O : List Ow} {s' : Shared} (q : Poly)
    (S : St prog w s₂ (X.map Ow.a) b ce cw' m' cm' P' [Ow.dict D q] s') (h : ∀ s', St prog w s₀ DD b₀ env cw m cm P (Ow.dict D q :: O) s' → Q (.ref D) s') :
    EndD prog w env Q s₂ X b ce D s₀ DD b₀ cw m cm P O (.ok .next) s' := ⟨rfl, q, m', P', cm', cw', S, h⟩
theorem dictCompE {kx vx target iter : Expr} {ifs : List Expr} {scope : Scope} {cl : List (Str × Addr)} {pos : Pos} {Q : Value → Shared → Prop}
    (hclos : closureFor scope env = pure cl) (hcell : ∀ y ∈ scope.names, y.2 ≠ .cell) (hkind : scope.kind = .function)
    (hnames : ∀ y ∈ scope.names, y.2 = .local → scope.names.lookup y.1 = some .local)
    (hcl : ∀ n c, cl.lookup n = some c → env.cells.lookup n = some c) (hs : ∀ x, foldedSetIterable iter env x = pure x)
    (h : ∀ K : Value → Shared → Prop, (∀ it s₂, CompGo prog w A env scope cl (.DictComp kx vx [⟨target, iter, ifs, 0⟩] scope pos) (Ow.dict · []) (EndD prog w env Q) it s₂ → K it s₂) → wpAny (model prog w) A (eval iter env) (ItQ (model prog w) A K E) E s) :
    wpAny (model prog w) A (eval (.DictComp kx vx [⟨target, iter, ifs, 0⟩] scope pos) env) Q E s := by
  rw [arm_DictComp]
  refine wpAny_comprehension_free (use := none) rfl hs hclos hkind hnames (wpAny_mono (h _ fun _ _ x => x) (fun xv s₁ h₁ => wpAny_mono h₁ (fun it s₂ h₂ => ?_) fun _ _ e => e) fun _ _ e => e)
  obtain ⟨s₀, DD, b₀, cw, m, cm, P, X, O, S, loop⟩ := h₂
  have hsm := S.notSys (Nat.le_refl _)
  refine comp_core (RR := fun acc C => compPost (model prog w) A E none Q acc C) (ty := "dict") (data := .dict #[]) (mk := fun a => Ow.dict a []) S (fun Q hq => wpAny_newObj_type hq (Nat.zero_le _)) rfl (fun _ => rfl)
    (fun b h e => ⟨_, hsm, e, #[], 0, [], ⟨rfl, rfl, rfl⟩, rfl, rfl, fun _ h => (nomatch h), .nil, rfl⟩) hcl hcell hkind fun D C b s₄ hk pg Si k => codeAny_mono (loop D C b s₄ hk pg Si k _ fun _ _ x => x) fun r s' hr => ?_
  obtain ⟨rfl, q, m', P', cm', cw', S', hq⟩ := hr
  refine ⟨[], m', P', _, cm', cw', S', fun _ _ _ h => (nomatch h), fun So => ?_⟩
  obtain ⟨b1, _, _, hns⟩ := So.ownAt (x := nsO C m') List.mem_cons_self
  exact ⟨m', nsO_is.mp hns, fun h' hs => hq _ (So.lose (tk := s'.toks) hs.extBut)⟩

/-- list.append to an owned list -/
theorem appO {x : Value} {l : Addr} {vs : List Value} {O' : List Ow} {Q : Value → Shared → Prop} (S : St prog w s₀ DD b₀ env cw m cm P O s) (hr : Rep (.list l vs) (.list l (vs ++ [x])) O O') (hz : vs.length ≤ 1000000)
    (h : ∀ s', St prog w s₀ DD b₀ env cw m cm P O' s' → Q .none s') : wpAny (model prog w) A (call (.builtin "list.append") [.ref l, x]) Q E s := by
  obtain ⟨b, _, _, hon⟩ := S.ownAt hr.mem
  refine wpAny_list_append_plain (hsz := ?_) hon fun h' hp hs => h _ ?_
  · refine S.change (tk := s.toks) hr rfl hs fun b' _ _ => ?_
    show h'.PlainList l (vs ++ [x]).toArray
    rw [← List.push_toArray]
    exact hp
  · rw [List.size_toArray]; exact Nat.le_trans hz (by rw [sizeLine]; decide)
end
end Mine
end
section
set_option maxRecDepth 100000
namespace Mine
open PySem PySem.W PyProof.Rows PySem.Calls

section
variable {prog : Program} {w : World} {s₀ s : Shared} {DD : List Addr} {b₀ : Heap} {env : Env} {cw : Bool} {m cm : Str → Option Value} {P : List As} {O : List Ow}
variable {A : Around} {E : Value → Shared → Prop}

theorem bMax {a c : Int} {t u : Tok} {Q : Value → Shared → Prop} (hh : A.handled = none) (S : St prog w s₀ DD b₀ env cw m cm P O s)
    (h : ∀ t s', St prog w s₀ DD b₀ env cw m cm P O s' → Q (.int (max a c) t) s') : wpAny (model prog w) A (call (.builtin "max") [.int a t, .int c u]) Q E s :=
  max_two_ints hh fun h' tk hk => by
    have S' := S.kept (tk := tk) hk
    by_cases q : c > a
    · have e : max a c = c := by lia
      simpa only [if_pos q, e] using h u _ S'
    · have e : max a c = a := by lia
      simpa only [if_neg q, e] using h t _ S'
theorem bMin {a c : Int} {t u : Tok} {Q : Value → Shared → Prop} (hh : A.handled = none) (S : St prog w s₀ DD b₀ env cw m cm P O s)
    (h : ∀ t s', St prog w s₀ DD b₀ env cw m cm P O s' → Q (.int (min a c) t) s') : wpAny (model prog w) A (call (.builtin "min") [.int a t, .int c u]) Q E s :=
  min_two_ints hh fun h' tk hk => by
    have S' := S.kept (tk := tk) hk
    by_cases q : c < a
    · have e : min a c = c := by lia
      simpa only [if_pos q, e] using h u _ S'
    · have e : min a c = a := by lia
      simpa only [if_neg q, e] using h t _ S'

theorem Is.mono2 {h : Heap} {v : Value} {q : Mono} (x : Is h (dM q) v) : ∃ a t u, v = .ref a ∧ h.IsTuple a #[.int q.1 t, .int q.2 u] := by
  unfold dM Is at x
  obtain ⟨a, vs, rfl, ht, hL⟩ := x
  unfold IsL at hL
  obtain ⟨v1, r, e1, h1, hL⟩ := hL
  unfold IsL at hL
  obtain ⟨v2, r2, e2, h2, hL⟩ := hL
  unfold IsL at hL
  unfold Is at h1 h2
  obtain ⟨t, rfl⟩ := h1
  obtain ⟨u, rfl⟩ := h2
  subst hL e2
  refine ⟨a, t, u, rfl, ?_⟩
  have : vs = #[.int q.1 t, .int q.2 u] := by rw [← Array.toArray_toList (xs := vs), e1]
  rw [← this]; exact ht

theorem bSumM {v : Value} {q : Mono} {Q : Value → Shared → Prop} (hh : A.handled = none) (S : St prog w s₀ DD b₀ env cw m cm P O s) (hv : As.is v (dM q) ∈ P)
    (h : ∀ t s', St prog w s₀ DD b₀ env cw m cm P O s' → Q (.int (q.1 + q.2) t) s') : wpAny (model prog w) A (call (.builtin "sum") [v]) Q E s := by
  obtain ⟨a, t, u, rfl, ht⟩ := Is.mono2 (S.has hv)
  refine call_sum_walkG (wpAny_pyIter_tuple ht ?_)
  have hne : a ≠ s.heap.objs.size := by obtain ⟨o, ho, _⟩ := ht; exact Nat.ne_of_lt (Heap.lt_size ho)
  refine ⟨_, _, _, _, _, _, fun i => if i = 0 then q.1 else q.2, rfl, Walks.tuple (A := A.in1) hh _ a hne #[.int q.1 t, .int q.2 u], ⟨⟨_, Heap.get?_push_size _ rfl, rfl, rfl⟩, ht.push _⟩, ?_, ?_, ?_⟩
  · intro b hb
    rcases List.mem_cons.mp hb with rfl | hb
    · exact Nat.lt_of_lt_of_eq (Nat.lt_succ_self _) (Heap.size_push ..).symm
    · obtain rfl := List.mem_singleton.mp hb
      obtain ⟨o, ho, _⟩ := ht.push { cls := .type "tuple_iterator", data := .fields #[.ref b, .int 0 0] }
      exact Heap.lt_size ho
  · intro i v hv
    match i with
    | 0 => simp at hv; exact ⟨t, hv.symm⟩
    | 1 => simp at hv; exact ⟨u, hv.symm⟩
    | i + 2 => simp at hv
  · intro h' tk t' hk
    have e : preSum (fun i => if i = 0 then q.1 else q.2) (#[Value.int q.1 t, Value.int q.2 u]).size = q.1 + q.2 := by
      show 0 + q.1 + q.2 = _
      lia
    rw [e]
    refine h t' _ (S.kept (tk := tk) fun b o e => hk b o ?_ (Heap.get?_push_of_some _ e))
    intro hb
    obtain rfl := List.mem_singleton.mp hb
    exact Nat.lt_irrefl _ (Heap.lt_size e)

theorem bTupL {l : Addr} {vs : List Value} {ds : List D} {Q : Value → Shared → Prop} (S : St prog w s₀ DD b₀ env cw m cm P O s) (hl : Ow.list l vs ∈ O) (hd : DIs P vs ds) (hz : ds.length ≤ 1000)
    (h : ∀ v s', St prog w s₀ DD b₀ env cw m cm (As.is v (.tup ds) :: P) O s' → Q v s') : wpAny (model prog w) A (call (.type "tuple") [.ref l]) Q E s := by
  obtain ⟨b, _, _, hon⟩ := S.ownAt hl
  have hlen : vs.length = ds.length := by
    clear h S hl hon hz
    induction hd with
    | nil => rfl
    | cons _ _ ih => simp [ih]
  refine call_tuple_list (Heap.PlainList.isList hon) (fun h' hk => h _ _ ?_) (by rw [List.size_toArray]; exact few (by lia))
  have S1 := S.kept (tk := s.toks) hk
  refine S1.fact (tk := s.toks) (F := [As.is (.ref h'.objs.size) (.tup ds)]) (keep_push _ _) (Nat.le_refl _) (Heap.get?_push_size _ rfl) fun b' hP ho p hp => ?_
  obtain rfl := List.mem_singleton.mp hp
  show Is b' (.tup ds) _
  unfold Is
  exact ⟨_, _, rfl, ⟨_, ho, rfl, _, rfl⟩, by simpa using hd.on hP⟩
end
end Mine
end
section
set_option maxRecDepth 100000
namespace Mine
open PySem PySem.W PyProof.Rows PySem.Calls

section
variable {prog : Program} {w : World} {s₀ s : Shared} {DD : List Addr} {b₀ : Heap} {env : Env} {cw : Bool} {m cm : Str → Option Value} {P : List As} {O : List Ow}
variable {A : Around} {E : Value → Shared → Prop}

theorem IsL.append {h : Heap} : ∀ {ds es : List D} {vs ws : List Value}, IsL h ds vs → IsL h es ws → IsL h (ds ++ es) (vs ++ ws)
  | [], _, _, _, a, b => by unfold IsL at a; subst a; exact b
  | d :: ds, es, vs, ws, a, b => by
    unfold IsL at a
    obtain ⟨v, r, rfl, h1, h2⟩ := a
    show IsL h (d :: (ds ++ es)) (v :: (r ++ ws))
    unfold IsL
    exact ⟨v, _, rfl, h1, h2.append b⟩

theorem addTup {v1 v2 : Value} {ds es : List D} {Q : Value → Shared → Prop} (S : St prog w s₀ DD b₀ env cw m cm P O s) (h1 : As.is v1 (.tup ds) ∈ P) (h2 : As.is v2 (.tup es) ∈ P) (n1 : ds ≠ []) (n2 : es ≠ []) (hz : ds.length + es.length ≤ 1000)
    (h : ∀ v s', St prog w s₀ DD b₀ env cw m cm (As.is v (.tup (ds ++ es)) :: P) O s' → Q v s') : wpAny (model prog w) A (binaryOp .Add v1 v2) Q E s := by
  obtain ⟨vs, l1, S1⟩ := S.split h1
  obtain ⟨ws, l2, S2⟩ := S1.split (List.mem_cons_of_mem _ (List.mem_cons_of_mem _ h2))
  obtain ⟨a1, rfl, t1⟩ := S2.has (p := As.tv v1 vs) (List.mem_cons_of_mem _ (List.mem_cons_of_mem _ List.mem_cons_self))
  obtain ⟨a2, rfl, t2⟩ := S2.has (p := As.tv v2 ws) List.mem_cons_self
  have e : vs.toArray ++ ws.toArray = (vs ++ ws).toArray := by simp
  have hv : vs ≠ [] := fun e => n1 (List.length_eq_zero_iff.mp (by rw [← l1, e]; rfl))
  have hw : ws ≠ [] := fun e => n2 (List.length_eq_zero_iff.mp (by rw [← l2, e]; rfl))
  obtain ⟨⟨cls, dd, data, sl⟩, ho, hc, n, hd⟩ := id t1
  obtain ⟨⟨cls2, dd2, data2, sl2⟩, ho2, hc2, n', hd2⟩ := id t2
  simp only at hc hd hc2 hd2
  subst hc hd hc2 hd2
  refine concat_meets ⟨_, ho, rfl⟩ ⟨_, ho2, rfl⟩ noFill_tuple_add seq_tuple_add PySem.F.slot_tuple_add PySem.F.entry_tuple_add (PySem.F.args_tuple_add_2 _ _)
    (tuple_addW2 a1 a2 vs.toArray ws.toArray n n' dd dd2 sl sl2 (by simpa using hv) (by simpa using hw) (by rw [List.size_toArray, List.size_toArray]; exact few (by lia))) ⟨ho, ho2, ?_⟩
  rw [e]
  have S3 := S2.fact (tk := s.toks) (F := [As.is (.ref s.heap.objs.size) (.tup (ds ++ es))]) (h' := s.heap.push { cls := .type "tuple", data := .seq (vs ++ ws).toArray }) (keep_push _ _) (Nat.le_refl _) (Heap.get?_push_size _ rfl) fun b' hP ho p hp => by
    obtain rfl := List.mem_singleton.mp hp
    show Is b' (.tup (ds ++ es)) _
    have i1 : IsL b' ds vs := hP (As.iss vs ds) (List.mem_cons_of_mem _ (List.mem_cons_of_mem _ (List.mem_cons_of_mem _ List.mem_cons_self)))
    have i2 : IsL b' es ws := hP (As.iss ws es) (List.mem_cons_of_mem _ List.mem_cons_self)
    unfold Is
    exact ⟨_, _, rfl, ⟨_, ho, rfl, _, rfl⟩, by simpa using i1.append i2⟩
  refine h _ _ (S3.weaken (fun b hP p hp => ?_) (List.Sublist.refl _))
  rcases List.mem_cons.mp hp with rfl | hp
  · exact hP _ List.mem_cons_self
  · exact hP _ (List.mem_cons_of_mem _ (List.mem_cons_of_mem _ (List.mem_cons_of_mem _ (List.mem_cons_of_mem _ (List.mem_cons_of_mem _ hp)))))

theorem rev2_get {t sl : Addr} {x0 x1 : Value} {u : Tok} {Q : Value → Shared → Prop} (ht : IsTup s.heap t #[x0, x1]) (hs : s.heap.IsSliceOf sl .none .none (.int (-1) u))
    (h : Q (.ref s.heap.objs.size) { s with heap := s.heap.push { cls := .type "tuple", data := .seq #[x1, x0] } }) : wpAny (model prog w) A (getItem (.ref t) (.ref sl)) Q E s := by
  obtain ⟨os, hos, hcs, hds⟩ := id hs
  have hTs : s.TypeIs (.ref sl) "slice" := ⟨os, hos, hcs⟩
  unfold getItem
  try with_reducible refine wpAny_holding ?_
  first | refine wpAny_bind (wpAny_pure ?_) | skip
  refine wpAny_bind (wpAny_sequenceKey ht.typeIs (by decide) ?_)
  refine wpAny_bind (wpAny_callSpecial?_slot (name := Str.ofString "__getitem__") ht.typeIs slot_tuple_getitem
    (wpAny_call_entry slot_tuple_getitem ht.typeIs entry_tuple_getitem ?_ (args_tuple_getitem _ _)))
  show wpAny _ _ (Builtin.Tuple.tupleItemsOf (.ref t) >>= _) _ _ s
  refine wpAny_bind (tupleItemsOf_ ht ?_)
  refine wpAny_bind (wpAny_typeOf hTs ?_)
  rw [if_pos (by decide)]
  have ap : ∀ (Q : Int × Int × Nat → Shared → Prop), Q (1, -1, 2) s → wpAny (model prog w) A.in1 (Builtin.Slice.sliceApplied (.ref sl) (pure ((#[x0, x1] : Array Value).size : Int))) Q E s := by
    intro Q hq
    unfold Builtin.Slice.sliceApplied Builtin.Slice.sliceFields
    refine wpAny_bind (wpAny_bind (wpAny_field hos hds (x := .none) rfl (wpAny_bind (wpAny_field hos hds (x := .none) rfl (wpAny_bind (wpAny_field hos hds (x := .int (-1) u) rfl (wpAny_pure ?_)))))))
    refine wpAny_bind (slicePart_int ?_)
    show wpAny _ _ (if ((-1 : Int) == 0) = true then _ else _) _ _ s
    rw [if_neg (by decide)]
    refine wpAny_bind (slicePart_none (wpAny_bind (slicePart_none (wpAny_bind (wpAny_pure ?_)))))
    show wpAny _ _ (pure ((1 : Int), (-1 : Int), Builtin.Slice.slicePlaces 1 (-1) (-1))) _ _ s
    rw [show Builtin.Slice.slicePlaces 1 (-1) (-1) = 2 by decide]
    exact wpAny_pure hq
  refine wpAny_bind (ap _ ?_)
  show wpAny _ _ (if ((1 : Int) == 0 && (-1 : Int) == 1 && 2 == 2) = true then _ else _) _ _ s
  rw [if_neg (by decide)]
  have hdrop : sizeOk (.seq #[x1, x0]) := by show 2 ≤ sizeLine; rw [sizeLine]; decide
  first
    | exact wpAny_bind (m := Builtin.Tuple.tupleExact _) (wpAny_newObj_type (wpAny_pure ⟨_, rfl, wpAny_pure h⟩) hdrop)
    | exact wpAny_bind (m := Builtin.Tuple.tupleExact _) (wpAny_newObj_type (wpAny_bind (wpAny_pure (wpAny_pure ⟨_, rfl, wpAny_pure h⟩))) hdrop)
    | exact wpAny_bind (wpAny_bind (m := Builtin.Tuple.tupleExact _) (wpAny_newObj_type (wpAny_pure (wpAny_pure ⟨_, rfl, wpAny_pure h⟩)) hdrop))
    | exact wpAny_bind (wpAny_bind (m := Builtin.Tuple.tupleExact _) (wpAny_newObj_type (wpAny_pure ⟨_, rfl, wpAny_pure h⟩) hdrop))

theorem rev2 {value st : Expr} {p pos : Pos} {v0 v1 : Value} {t : Addr} {Q : Value → Shared → Prop} (ht : ∀ o r, letTemporaryGo value o r = pure ())
    (h : wpAny (model prog w) A (eval value env) (fun o s₁ => wpAny (model prog w) A (eval st env) (fun x s₂ => ∃ u, o = .ref t ∧ x = .int (-1) u ∧ ∃ s₀ DD b₀ cw m cm P O, St prog w s₀ DD b₀ env cw m cm P O s₂ ∧ As.tv (.ref t) [v0, v1] ∈ P ∧
      ∀ a s', St prog w s₀ DD b₀ env cw m cm (As.tv (.ref a) [v1, v0] :: P) O s' → Q (.ref a) s') E s₁) E s) :
    wpAny (model prog w) A (eval (.Subscript value (.Slice none none (some st) p) pos) env) Q E s := by
  refine wpAny_Subscript_Slice_step (T := "tuple") slot_tuple_getitem.lookup (wpAny_mono h (fun o s₁ h₁ => wpAny_Slice ?_) fun _ _ e => e) ht
  rw [evalPart_none]
  refine wpAny_pure (wpAny_pure ?_)
  rw [evalPart_some]
  refine wpAny_mono h₁ (fun x s₂ h₂ => ?_) fun _ _ e => e
  obtain ⟨u, rfl, rfl, s₀, DD, b₀, cw, m, cm, P, O, S, hm, hQ⟩ := h₂
  obtain ⟨a, e, hta⟩ := S.has hm
  cases e
  have hta' : IsTup (s₂.heap.push { cls := .type "slice", data := .fields #[.none, .none, .int (-1) u] }) t #[v0, v1] := (show IsTup s₂.heap t #[v0, v1] from hta).keeps (keep_push _ _)
  refine ⟨hta'.typeIs, rev2_get hta' (Heap.IsSliceOf.new ..) (hQ _ _ ?_)⟩
  have S1 := S.push { cls := .type "slice", data := .fields #[.none, .none, .int (-1) u] } s₂.toks
  refine S1.fact (tk := s₂.toks) (F := [As.tv (.ref _) [v1, v0]]) (keep_push _ _) (Nat.le_refl _) (Heap.get?_push_size _ rfl) fun b' hP ho p hp => ?_
  obtain rfl := List.mem_singleton.mp hp
  exact ⟨_, rfl, _, ho, rfl, _, rfl⟩

theorem nx_tup {I l : Addr} {i : Nat} {items : Array Value} {v : Value} {Q : Option Value → Shared → Prop} (S : St prog w s₀ DD b₀ env cw m cm P (itup I l i :: O) s) (hl : s.heap.IsTuple l items) (hx : items[i]? = some v)
    (h : ∀ s', St prog w s₀ DD b₀ env cw m cm P (itup I l (i + 1) :: O) s' → Q (some v) s') : wpAny (model prog w) A (pyNext (.ref I)) Q E s := by
  obtain ⟨b, _, _, hi⟩ := S.ownAt List.mem_cons_self
  refine wpAny_pyNext_tuple_item (itup_is.mp hi) hl hx fun h' hit hs => h _ ?_
  exact S.change (tk := s.toks) (x := itup I l i) (y := itup I l (i + 1)) .head rfl hs fun _ _ _ => itup_is.mpr hit
theorem nx_tupE {I l : Addr} {i : Nat} {items : Array Value} {Q : Option Value → Shared → Prop} (S : St prog w s₀ DD b₀ env cw m cm P (itup I l i :: O) s) (hh : A.handled = none) (hl : s.heap.IsTuple l items) (hx : items[i]? = none)
    (h : ∀ s', St prog w s₀ DD b₀ env cw m cm P O s' → Q none s') : wpAny (model prog w) A (pyNext (.ref I)) Q E s := by
  obtain ⟨b, _, _, hi⟩ := S.ownAt List.mem_cons_self
  exact wpAny_pyNext_tuple_end hh (itup_is.mp hi) hl hx fun h' he => h _ (S.lose (tk := s.toks) he)
theorem ih_itup {I l : Addr} {i : Nat} {Q : Value → Shared → Prop} (S : St prog w s₀ DD b₀ env cw m cm P O s) (hx : itup I l i ∈ O) (h : Q (.ref I) s) : wpAny (model prog w) A (pyIter (.ref I)) Q E s := by
  obtain ⟨b, _, _, hi⟩ := S.ownAt hx
  exact wpAny_pyIter_tupleiter (itup_is.mp hi) h
theorem ih_ilst {I l : Addr} {i : Nat} {Q : Value → Shared → Prop} (S : St prog w s₀ DD b₀ env cw m cm P O s) (hx : ilst I l i ∈ O) (h : Q (.ref I) s) : wpAny (model prog w) A (pyIter (.ref I)) Q E s := by
  obtain ⟨b, _, _, hi⟩ := S.ownAt hx
  exact wpAny_pyIter_listiter (ilst_is.mp hi) h
theorem St.tup (S : St prog w s₀ DD b₀ env cw m cm P O s) {l : Addr} {vs : List Value} (h : As.tv (.ref l) vs ∈ P) : s.heap.IsTuple l vs.toArray := by
  obtain ⟨a, e, ht⟩ := S.has h
  cases e
  exact ht
theorem sEq {x y : Str} {t u : Tok} {Q : Value → Shared → Prop} (h : Q (.bool (x == y)) s) : wpAny (model prog w) A (compareOp .Eq (.str x t) (.str y u)) Q E s := PyProof.Rows.eq_str h
end

inductive Ord where
  | lex | grlex | grevlex
  deriving DecidableEq
noncomputable def Ord.nm : Ord → Str
  | .lex => "lex"
  | .grlex => "grlex"
  | .grevlex => "grevlex"
noncomputable def okey : Ord → Mono → List Int
  | .lex, m => [m.1, m.2]
  | .grlex, m => [m.1 + m.2, m.1, m.2]
  | .grevlex, m => [m.1 + m.2, -m.2, -m.1]
noncomputable def dL (l : List Int) : D := .tup (l.map .int)
end Mine
end
section
set_option maxRecDepth 100000
namespace Mine
open PySem PySem.W PyProof.Rows PySem.Calls

/-! ### dicts as lists -/
noncomputable def plook : Poly → Mono → Option Rat
  | [], _ => none
  | e :: p, m => if e.1 = m then some e.2 else plook p m
noncomputable def pset : Poly → Mono → Rat → Poly
  | [], m, c => [(m, c)]
  | e :: p, m, c => if e.1 = m then (e.1, c) :: p else e :: pset p m c
noncomputable def pdel : Poly → Mono → Poly
  | [], _ => []
  | e :: p, m => if e.1 = m then p else e :: pdel p m

theorem keyL_inj {a b : Mono} (h : keyL a = keyL b) : a = b := by
  unfold keyL at h
  simp only [List.cons.injEq, and_true] at h
  exact Prod.ext h.1 h.2

section
variable {prog : Program} {w : World} {b h : Heap}

theorem key_is {m : Mono} {a : Addr} (x : Is b (dM m) (.ref a)) : (tk prog w).is b (keyL m) a := by
  obtain ⟨a', t, u, e, o, ho, hc, n, hd⟩ := Is.mono2 x
  cases e
  exact ⟨o, _, n, ho, hc, hd, .cons (intKind_is prog w _ _) (.cons (intKind_is prog w _ _) .nil)⟩

theorem Ents.keys {xs : List (List Int × Addr × Value)} : ∀ {p : Poly}, Ents b xs p → xs.map (·.1) = p.map (fun e => keyL e.1) := by
  induction xs with
  | nil => intro p e; cases e; rfl
  | cons x xs ih =>
    rintro p ⟨y, q, rfl, e1, _, _, e2⟩
    simp [e1, ih e2]
theorem Ents.length {xs : List (List Int × Addr × Value)} {p : Poly} (e : Ents b xs p) : xs.length = p.length := by
  have := congrArg List.length e.keys
  simpa using this
theorem Ents.nodup {xs : List (List Int × Addr × Value)} {p : Poly} (e : Ents b xs p) (hn : (xs.map (·.1)).Nodup) : (p.map (·.1)).Nodup := by
  rw [e.keys] at hn
  have : p.map (fun e => keyL e.1) = (p.map (·.1)).map keyL := by simp
  rw [this] at hn
  exact (List.pairwise_map.mp hn).imp fun h e => h (by rw [e])

theorem atKey_cons (x : List Int × Addr × Value) (xs) (k : List Int) : atKey (x :: xs) k = if x.1 = k then some x.2 else atKey xs k := by
  unfold atKey
  by_cases h : x.1 = k <;> simp [h]

theorem Ents.none : ∀ {xs : List (List Int × Addr × Value)} {p : Poly} {m : Mono}, Ents b xs p → plook p m = none → atKey xs (keyL m) = none
  | [], _, _, _, _ => rfl
  | x :: xs, _, m, ⟨y, q, e, e1, _, _, e2⟩, h => by
    subst e
    unfold plook at h
    by_cases hm : y.1 = m
    · simp [hm] at h
    · simp only [hm, if_false] at h
      rw [atKey_cons, if_neg (by rw [e1]; exact fun q => hm (keyL_inj q))]
      exact Ents.none e2 h
theorem Ents.some : ∀ {xs : List (List Int × Addr × Value)} {p : Poly} {m : Mono} {c : Rat}, Ents b xs p → plook p m = some c → ∃ a v, atKey xs (keyL m) = some (a, v) ∧ Is b (dR c) v ∧ Is b (dM m) (.ref a)
  | [], _, _, _, e, h => by cases e; simp [plook] at h
  | x :: xs, _, m, c, ⟨y, q, e, e1, hm1, hv, e2⟩, h => by
    subst e
    unfold plook at h
    by_cases hm : y.1 = m
    · simp only [hm, if_true, Option.some.injEq] at h
      refine ⟨x.2.1, x.2.2, ?_, h ▸ hv, hm ▸ hm1⟩
      rw [atKey_cons, if_pos (by rw [e1, hm])]
    · simp only [hm, if_false] at h
      obtain ⟨a, v, h1, h2⟩ := Ents.some e2 h
      exact ⟨a, v, by rw [atKey_cons, if_neg (by rw [e1]; exact fun q => hm (keyL_inj q))]; exact h1, h2⟩

theorem map_put_not {xs : List (List Int × Addr × Value)} {k : List Int} {v : Value} (h : k ∉ xs.map (·.1)) : xs.map (putAt k v) = xs := map_putAt_of_not_mem xs k v h

theorem storedH_cons (x : List Int × Addr × Value) (xs) (k : List Int) (a : Addr) (v : Value) (hn : ((x :: xs).map (·.1)).Nodup) :
    storedH (x :: xs) k a v = if x.1 = k then (x.1, x.2.1, v) :: xs else x :: storedH xs k a v := by
  rw [List.map_cons, List.nodup_cons] at hn
  unfold storedH
  rw [atKey_cons]
  by_cases h : x.1 = k
  · simp only [h, if_true, Option.isSome_some, List.map_cons]
    rw [map_put_not (by rw [← h]; exact hn.1)]
    simp [putAt, h]
  · simp only [h, if_false]
    by_cases h2 : (atKey xs k).isSome = true
    · simp only [h2, if_true, List.map_cons, putAt, h, if_false]
    · simp [h2]

theorem Ents.stored : ∀ {xs : List (List Int × Addr × Value)} {p : Poly} {m : Mono} {c : Rat} {a : Addr} {v : Value}, Ents b xs p → (xs.map (·.1)).Nodup → Is b (dM m) (.ref a) → Is b (dR c) v →
    Ents b (storedH xs (keyL m) a v) (pset p m c)
  | [], _, m, c, a, v, e, _, h1, h2 => by
    cases e
    show Ents b [(keyL m, a, v)] [(m, c)]
    exact ⟨_, _, rfl, rfl, h1, h2, rfl⟩
  | x :: xs, _, m, c, a, v, ⟨y, q, e, e1, hm1, hv, e2⟩, hn, h1, h2 => by
    subst e
    rw [storedH_cons x xs _ a v hn]
    unfold pset
    rw [List.map_cons, List.nodup_cons] at hn
    by_cases hm : y.1 = m
    · rw [if_pos (by rw [e1, hm]), if_pos hm]
      exact ⟨_, _, rfl, e1, hm1, h2, e2⟩
    · rw [if_neg (by rw [e1]; exact fun q => hm (keyL_inj q)), if_neg hm]
      exact ⟨_, _, rfl, e1, hm1, hv, Ents.stored e2 hn.2 h1 h2⟩

theorem OPoly.dictH {d : Addr} {o : Obj} {p : Poly} (k : Keep b h) (ho : h.get? d = some o) (x : OPoly prog w b o p) : ∃ xs, h.DictOfH (tk prog w) d xs ∧ Ents b xs p ∧ (∀ x ∈ xs, (tk prog w).is b x.1 x.2.1) := by
  obtain ⟨es, ep, xs, a1, a2, a3, a4, a5, a6⟩ := x
  exact ⟨xs, ⟨o, es, ep, ho, a1, a2, a3, fun y hy => tupKey_keep k (a4 y hy), a5⟩, a6, a4⟩

theorem OPoly.ofH {d : Addr} {xs : List (List Int × Addr × Value)} {p : Poly} (x : h.DictOfH (tk prog w) d xs) (e : Ents b xs p) (hk : ∀ x ∈ xs, (tk prog w).is b x.1 x.2.1) : ∃ o, h.get? d = some o ∧ OPoly prog w b o p := by
  obtain ⟨o, es, ep, ho, a1, a2, a3, _, a5⟩ := x
  exact ⟨o, ho, es, ep, xs, a1, a2, a3, hk, a5, e⟩
end

section
variable {prog : Program} {w : World} {s₀ s : Shared} {DD : List Addr} {b₀ : Heap} {env : Env} {cw : Bool} {m cm : Str → Option Value} {P : List As} {O : List Ow}
variable {A : Around} {E : Value → Shared → Prop}

/-- the dict v is laid out as p; its items stand in the base b -/
noncomputable def DictAt (prog : Program) (w : World) (b h : Heap) (v : Value) (p : Poly) : Prop := ∃ d o, v = .ref d ∧ (d == sysModules) = false ∧ h.get? d = some o ∧ OPoly prog w b o p
/-- a dict that can be read -/
inductive Rd (prog : Program) (w : World) (s₀ : Shared) (DD : List Addr) (b₀ : Heap) (P : List As) (O : List Ow) : Value → Poly → Prop where
  | fact {v p} : As.poly v p ∈ P → Rd prog w s₀ DD b₀ P O v p
  | own {d p} : Ow.dict d p ∈ O → Rd prog w s₀ DD b₀ P O (.ref d) p
  | base {v p} : DictAt prog w b₀ s₀.heap v p → (∀ d, v = .ref d → d ∉ DD) → Rd prog w s₀ DD b₀ P O v p
theorem Rd.at {v : Value} {p : Poly} (r : Rd prog w s₀ DD b₀ P O v p) {b : Heap} (B : StB prog w s₀ DD b₀ env cw m cm P O s b) : DictAt prog w b s.heap v p := by
  cases r with
  | fact h => obtain ⟨d, o, e, g, ho, x⟩ := B.facts _ h; exact ⟨d, o, e, g, B.bs _ _ ho, x⟩
  | own h => obtain ⟨o, g, ho, x⟩ := (B.own _ h).1; exact ⟨_, o, rfl, g, ho, x⟩
  | base h hn => obtain ⟨d, o, e, g, ho, x⟩ := h; exact ⟨d, o, e, g, B.frame _ _ (hn d e) ho, x.keep B.bb⟩
theorem Rd.get (S : St prog w s₀ DD b₀ env cw m cm P O s) {v : Value} {p : Poly} (r : Rd prog w s₀ DD b₀ P O v p) :
    ∃ b d o, StB prog w s₀ DD b₀ env cw m cm P O s b ∧ v = .ref d ∧ (d == sysModules) = false ∧ s.heap.get? d = some o ∧ OPoly prog w b o p := by
  obtain ⟨b, B⟩ := S
  obtain ⟨d, o, r⟩ := r.at B
  exact ⟨b, d, o, B, r⟩

theorem refOf {h : Heap} {k : Value} {q : Mono} (x : Is h (dM q) k) : ∃ a, k = .ref a := by obtain ⟨a, _, _, e, _⟩ := Is.mono2 x; exact ⟨a, e⟩

theorem dIn {v k : Value} {p : Poly} {q : Mono} {Q : Value → Shared → Prop} (S : St prog w s₀ DD b₀ env cw m cm P O s) (hu : A.units + 1 < cLine) (hd : Rd prog w s₀ DD b₀ P O v p) (hk : As.is k (dM q) ∈ P)
    (h : ∀ s', St prog w s₀ DD b₀ env cw m cm P O s' → Q (.bool (plook p q).isSome) s') : wpAny (model prog w) A (compareOp .In k v) Q E s := by
  obtain ⟨b, d, o, B, rfl, g, ho, x⟩ := hd.get S
  obtain ⟨a, rfl⟩ := refOf (show Is b (dM q) k from B.facts _ hk)
  obtain ⟨xs, hx, he, hi⟩ := x.dictH B.bs ho
  refine wpAny_in_heap (knd := tk prog w) hu (tupKey_keep B.bs (key_is (B.facts _ hk))) g hx ?_
  cases hp : plook p q with
  | none => rw [he.none hp]; rw [hp] at h; exact h _ (S.tok _)
  | some c => obtain ⟨a', v', h1, _⟩ := he.some hp; rw [h1]; rw [hp] at h; exact h _ (S.tok _)

theorem dGet {v k : Value} {p : Poly} {q : Mono} {c : Rat} {Q : Value → Shared → Prop} (S : St prog w s₀ DD b₀ env cw m cm P O s) (hu : A.units + 1 < cLine) (hd : Rd prog w s₀ DD b₀ P O v p) (hk : As.is k (dM q) ∈ P) (hc : plook p q = some c)
    (h : ∀ x s', St prog w s₀ DD b₀ env cw m cm (As.is x (dR c) :: P) O s' → Q x s') : wpAny (model prog w) A (getItem v k) Q E s := by
  obtain ⟨b, d, o, B, rfl, g, ho, x⟩ := hd.get S
  obtain ⟨a, rfl⟩ := refOf (show Is b (dM q) k from B.facts _ hk)
  obtain ⟨xs, hx, he, hi⟩ := x.dictH B.bs ho
  obtain ⟨a', v', h1, h2, _⟩ := he.some hc
  refine wpAny_getItem_heap (knd := tk prog w) hu (tupKey_keep B.bs (key_is (B.facts _ hk))) hx h1 (h _ _ (St.tok (s := s) ⟨b, { B with facts := fun p hp => ?_ }⟩ _))
  rcases List.mem_cons.mp hp with rfl | hp
  · exact h2
  · exact B.facts p hp

theorem dSub {value slice : Expr} {v k : Value} {p : Poly} {q : Mono} {c : Rat} {Q : Value → Shared → Prop} (S : St prog w s₀ DD b₀ env cw m cm P O s) (hu : A.units + 1 < cLine) (hd : Rd prog w s₀ DD b₀ P O v p) (hk : As.is k (dM q) ∈ P) (hc : plook p q = some c)
    (hs : ∀ d a, subscripted slice false (.ref d) (.ref a) = operate [.ref d, .ref a] (getItem (.ref d) (.ref a)))
    (h : ∀ x s', St prog w s₀ DD b₀ env cw m cm (As.is x (dR c) :: P) O s' → Q x s') : wpAny (model prog w) A (subscriptTail value slice v k) Q E s := by
  have hg := dGet (E := E) S hu hd hk hc h
  obtain ⟨b, d, o, B, rfl, g, ho, x⟩ := hd.get S
  obtain ⟨a, rfl⟩ := refOf (show Is b (dM q) k from B.facts _ hk)
  obtain ⟨xs, hx, he, hi⟩ := x.dictH B.bs ho
  exact tail_any hx.typeIs slot_dict_getitem.lookup hg (hs d a)

theorem dSet {k x : Value} {d : Addr} {p : Poly} {q : Mono} {c : Rat} {O' : List Ow} {Q : Unit → Shared → Prop} (S : St prog w s₀ DD b₀ env cw m cm P O s) (hu : A.units < cLine) (hr : Rep (.dict d p) (.dict d (pset p q c)) O O')
    (hk : As.is k (dM q) ∈ P) (hx : As.is x (dR c) ∈ P) (hz : p.length ≤ 1000000) (h : ∀ s', St prog w s₀ DD b₀ env cw m cm P O' s' → Q () s') : wpAny (model prog w) A (dictSet d k x) Q E s := by
  obtain ⟨b, B⟩ := S
  obtain ⟨o, g, ho, xo⟩ := (B.own _ hr.mem).1
  obtain ⟨a, rfl⟩ := refOf (show Is b (dM q) k from B.facts _ hk)
  obtain ⟨xs, hx', he, hi⟩ := xo.dictH B.bs ho
  have hnd : (xs.map (·.1)).Nodup := let ⟨_, _, _, _, _, _, _, _, hn⟩ := hx'; hn
  refine wpAny_dictSet_heap (knd := tk prog w) (hsz := ?_) hu (tupKey_keep B.bs (key_is (B.facts _ hk))) hx' fun h' hm hs => h _ ⟨b, B.change hr rfl hs ?_⟩
  · have hi' : ∀ y ∈ storedH xs (keyL q) a x, (tk prog w).is b y.1 y.2.1 := fun y hy => by
      rcases mem_storedH hy with ⟨z, hz, e1, e2⟩ | ⟨e1, e2⟩
      · rw [e1, e2]; exact hi z hz
      · rw [e1, e2]; exact key_is (B.facts _ hk)
    obtain ⟨o', ho', xo'⟩ := OPoly.ofH hm (he.stored hnd (B.facts _ hk) (B.facts _ hx)) hi'
    exact ⟨o', g, ho', xo'⟩
  · rw [he.length]; exact Nat.le_trans hz (by rw [sizeLine]; decide)

theorem dSetItem {k x : Value} {d : Addr} {p : Poly} {q : Mono} {c : Rat} {O' : List Ow} {Q : Unit → Shared → Prop} (S : St prog w s₀ DD b₀ env cw m cm P O s) (hu : A.units + 1 < cLine) (hr : Rep (.dict d p) (.dict d (pset p q c)) O O')
    (hk : As.is k (dM q) ∈ P) (hx : As.is x (dR c) ∈ P) (hz : p.length ≤ 1000000) (h : ∀ s', St prog w s₀ DD b₀ env cw m cm P O' s' → Q () s') : wpAny (model prog w) A (setItem (.ref d) k x) Q E s := by
  obtain ⟨b, B⟩ := S
  obtain ⟨o, g, ho, xo⟩ := (B.own _ hr.mem).1
  obtain ⟨a, rfl⟩ := refOf (show Is b (dM q) k from B.facts _ hk)
  obtain ⟨xs, hx', he, hi⟩ := xo.dictH B.bs ho
  have hnd : (xs.map (·.1)).Nodup := let ⟨_, _, _, _, _, _, _, _, hn⟩ := hx'; hn
  refine wpAny_setItem_heap (knd := tk prog w) (hsz := ?_) hu (tupKey_keep B.bs (key_is (B.facts _ hk))) hx' fun h' hm hs => h _ ⟨b, B.change hr rfl hs ?_⟩
  · have hi' : ∀ y ∈ storedH xs (keyL q) a x, (tk prog w).is b y.1 y.2.1 := fun y hy => by
      rcases mem_storedH hy with ⟨z, hz, e1, e2⟩ | ⟨e1, e2⟩
      · rw [e1, e2]; exact hi z hz
      · rw [e1, e2]; exact key_is (B.facts _ hk)
    obtain ⟨o', ho', xo'⟩ := OPoly.ofH hm (he.stored hnd (B.facts _ hk) (B.facts _ hx)) hi'
    exact ⟨o', g, ho', xo'⟩
  · rw [he.length]; exact Nat.le_trans hz (by rw [sizeLine]; decide)
end
end Mine
end
section
set_option maxRecDepth 100000
namespace Mine
open PySem PySem.W PyProof.Rows PySem.Calls

section
variable {prog : Program} {w : World} {s₀ s : Shared} {DD : List Addr} {b₀ : Heap} {env : Env} {cw : Bool} {m cm : Str → Option Value} {P : List As} {O : List Ow}
variable {A : Around} {E : Value → Shared → Prop}

/-! calls that see the whole of the frame's facts -/
theorem St.doesB (S : St prog w s₀ DD b₀ env cw m cm P O s) {A : Around} {D' : List Addr} {O' : List Ow} {t : Sem Value} {Rel : Value → List As → List Ow → Prop} {Q : Value → Shared → Prop} {E : Value → Shared → Prop}
    (hd : ∀ b, StB prog w s₀ DD b₀ env cw m cm P O s b → Does prog w A s D' b t Rel)
    (hsub : ∀ a ∈ D', ∃ x ∈ O, x.a = a) (hr : O'.Sublist O) (hn : ∀ x ∈ O', x.a ∉ D')
    (h : ∀ v s' F N, Rel v F N → St prog w s₀ DD b₀ env cw m cm (F ++ P) (N ++ O') s' → Q v s') : wpAny (model prog w) A t Q E s := by
  obtain ⟨b, B⟩ := S
  exact hd b B Q E fun v s' b' F N hrel R => h v s' F N hrel ⟨b', B.called R hsub hr hn⟩
theorem useIsB {t : Sem Value} {d : D} {Q : Value → Shared → Prop} (S : St prog w s₀ DD b₀ env cw m cm P O s) (hd : ∀ b, StB prog w s₀ DD b₀ env cw m cm P O s b → Does prog w A s [] b t (RIs d))
    (h : ∀ v s', St prog w s₀ DD b₀ env cw m cm (As.is v d :: P) O s' → Q v s') : (Mine.hd.heap_1 w.params).In s.heap ∧ wpAny (model prog w) A t Q E s := by
  refine ⟨S.inK, S.doesB hd (fun _ h => (nomatch h)) (List.Sublist.refl _) (fun _ _ h => (nomatch h)) fun v s' F N hR S' => ?_⟩
  obtain ⟨rfl, rfl⟩ := hR
  exact h v s' S'
noncomputable def ROwn (p : Poly) : Rl := fun v F N => ∃ d, v = .ref d ∧ F = [] ∧ N = [Ow.dict d p]
theorem useOwnB {t : Sem Value} {p : Poly} {Q : Value → Shared → Prop} (S : St prog w s₀ DD b₀ env cw m cm P O s) (hd : ∀ b, StB prog w s₀ DD b₀ env cw m cm P O s b → Does prog w A s [] b t (ROwn p))
    (h : ∀ d s', St prog w s₀ DD b₀ env cw m cm P (Ow.dict d p :: O) s' → Q (.ref d) s') : (Mine.hd.heap_1 w.params).In s.heap ∧ wpAny (model prog w) A t Q E s := by
  refine ⟨S.inK, S.doesB hd (fun _ h => (nomatch h)) (List.Sublist.refl _) (fun _ _ h => (nomatch h)) fun v s' F N hR S' => ?_⟩
  obtain ⟨d, rfl, rfl, rfl⟩ := hR
  exact h d s' S'
theorem useBoolB {t : Sem Value} {x : Bool} {Q : Value → Shared → Prop} (S : St prog w s₀ DD b₀ env cw m cm P O s) (hd : ∀ b, StB prog w s₀ DD b₀ env cw m cm P O s b → Does prog w A s [] b t (RBool x))
    (h : ∀ s', St prog w s₀ DD b₀ env cw m cm P O s' → Q (.bool x) s') : (Mine.hd.heap_1 w.params).In s.heap ∧ wpAny (model prog w) A t Q E s := by
  refine ⟨S.inK, S.doesB hd (fun _ h => (nomatch h)) (List.Sublist.refl _) (fun _ _ h => (nomatch h)) fun v s' F N hR S' => ?_⟩
  obtain ⟨rfl, rfl, rfl⟩ := hR
  exact h s' S'

/-! a dict's keys, one after the other -/
noncomputable def idct (I d : Addr) (i n ep : Nat) : Ow := .gen I fun o => o.cls = .type "dict_keyiterator" ∧ o.data = .fields #[.ref d, .int i 0, .int n 0, .int ep 0]
theorem idct_is {b h : Heap} {I d : Addr} {i n ep : Nat} : (idct I d i n ep).on prog w b h ↔ h.IsKeyIter I d i n ep := Iff.rfl

theorem ih_dict {d : Addr} {o : Obj} {es : Array DictEntry} {ep : Nat} {Q : Value → Shared → Prop} (S : St prog w s₀ DD b₀ env cw m cm P O s) (hds : (d == sysModules) = false) (ho : s.heap.get? d = some o) (hx : o.ExactDict) (hd : o.data = .dict es ep)
    (h : ∀ I s', d ≠ I → St prog w s₀ DD b₀ env cw m cm P (idct I d 0 es.size ep :: O) s' → Keep s.heap s'.heap → Q (.ref I) s') : wpAny (model prog w) A (pyIter (.ref d)) Q E s := by
  have hT : s.TypeIs (.ref d) "dict" := ⟨o, ho, hx.1⟩
  refine wpAny_pyIter_slot hT F.slot_dict_iter (wpAny_call_entry F.slot_dict_iter hT F.entry_dict_iter ?_ (F.args_dict_iter_1 _))
  unfold Builtin.«dict.__iter__»
  refine wpAny_bind ?_
  unfold Builtin.Dict.dictSlotNone
  refine wpAny_bind (wpAny_notOrdered_dict hT ?_)
  show wpAny _ _ (pure (Value.ref d)) _ _ s
  refine wpAny_pure ?_
  show wpAny _ _ (Builtin.Dict.showsAll d >>= _) _ _ s
  unfold Builtin.Dict.showsAll
  rw [if_neg (by rw [hds]; exact Bool.false_ne_true)]
  refine wpAny_bind (wpAny_pure ?_)
  refine wpAny_bind (wpAny_dictEntries ho hd ?_)
  refine wpAny_bind (wpAny_dictEpoch ho hd ?_)
  refine wpAny_bind (wpAny_newObj_type (wpAny_pure ⟨_, rfl, "dict_keyiterator", _, ⟨_, Heap.get?_push_size _ rfl, rfl⟩, F.slot_dict_keyiterator_next.lookup, h _ _ ?_ ?_ (keep_push _ _)⟩))
  · exact Nat.ne_of_lt (Heap.lt_size ho)
  · exact S.owns (tk := s.toks) (x := idct _ d 0 es.size ep) (keep_push _ _) (Nat.le_refl _) fun b _ _ => ⟨_, Heap.get?_push_size _ rfl, rfl, rfl⟩

theorem nx_dict {I d : Addr} {i ep : Nat} {o : Obj} {es : Array DictEntry} {e : DictEntry} {Q : Option Value → Shared → Prop} (S : St prog w s₀ DD b₀ env cw m cm P (idct I d i es.size ep :: O) s) (hod : s.heap.get? d = some o) (hdd : o.data = .dict es ep) (hx : es[i]? = some e)
    (h : ∀ s', St prog w s₀ DD b₀ env cw m cm P (idct I d (i + 1) es.size ep :: O) s' → Q (some e.key) s') : wpAny (model prog w) A (pyNext (.ref I)) Q E s := by
  obtain ⟨b, _, _, hi⟩ := S.ownAt List.mem_cons_self
  obtain ⟨oi, ho, hc, hd⟩ := idct_is.mp hi
  have hT : s.TypeIs (.ref I) "dict_keyiterator" := ⟨oi, ho, hc⟩
  unfold pyNext
  refine wpAny_bind (wpAny_attempt (wpAny_callSpecial?_slot (name := Str.ofString "__next__") hT F.slot_dict_keyiterator_next
    (wpAny_call_entry F.slot_dict_keyiterator_next hT F.entry_dict_keyiterator_next ?_ (F.args_dict_keyiterator_next_1 _))))
  refine wpAny_bind (wpAny_pure ?_)
  refine wpAny_bind ?_
  refine wpAny_bind ?_
  first | refine wpAny_bind (wpAny_typeNameOfWhole_keyiter hT (wpAny_pure ?_)) | refine wpAny_bind (wpAny_typeNameOf_keyiter hT (wpAny_pure ?_))
  refine wpAny_bind (wpAny_fieldsOf ho hd ?_)
  have hown : Builtin.Dict_items.ownsTuple "dict_keyiterator" = false := by decide
  simp only [hown, Bool.false_eq_true, if_false]
  show wpAny _ _ (if (Value.ref d == Value.none) = true then _ else _) _ _ s
  rw [if_neg (show ¬ ((Value.ref d == Value.none) = true) from Bool.false_ne_true)]
  refine wpAny_bind (wpAny_pure ?_)
  refine wpAny_bind (wpAny_dictEntries hod hdd ?_)
  rw [if_neg (by simp)]
  refine wpAny_bind (wpAny_pure ?_)
  refine wpAny_bind (wpAny_dictEpoch hod hdd ?_)
  rw [if_neg (by simp)]
  refine wpAny_pure ?_
  have hlt' : i < es.size := (Array.getElem?_eq_some_iff.mp hx).1
  have hee : es[i] = e := (Array.getElem?_eq_some_iff.mp hx).2
  simp only [show ¬ ((i : Int) < 0) from by lia, if_false, Int.toNat_natCast, Array.getElem?_eq_getElem hlt']
  refine wpAny_bind ?_
  first | refine wpAny_bind (wpAny_typeNameOfWhole_keyiter hT (wpAny_pure ?_)) | refine wpAny_bind (wpAny_typeNameOf_keyiter hT (wpAny_pure ?_))
  refine wpAny_bind (wpAny_isOneOf_keyiter hT ?_)
  show wpAny _ _ (setField (.ref I) 1 (rawInt ((i : Int) + 1)) >>= _) _ _ s
  refine wpAny_bind (wpAny_setField ho hd (by simp) ?_)
  have hit' : (s.heap.update I (Obj.mapFields (·.setIfInBounds 1 (rawInt ((i : Int) + 1))))).IsKeyIter I d (i + 1) es.size ep :=
    ⟨_, Heap.get?_update_self _ ho (Obj.isFreed_of_fields (Obj.data_mapFields hd _)), (Obj.cls_mapFields ..).trans hc, by rw [Obj.data_mapFields hd]; simp [rawInt]⟩
  refine wpAny_bind (wpAny_holding ?_)
  refine wpAny_bind (wpAny_isOneOf_keyiter (s := { s with heap := s.heap.update I (Obj.mapFields (·.setIfInBounds 1 (rawInt ((i : Int) + 1)))) }) hit'.typeIs ?_)
  show wpAny _ _ (pure es[i].key) _ _ _
  refine wpAny_pure (wpAny_pure ⟨_, rfl, wpAny_pure ?_⟩)
  rw [hee]
  exact h _ (S.change (tk := s.toks) (x := idct I d i es.size ep) (y := idct I d (i + 1) es.size ep) .head rfl (Heap.SameBut.update ..) fun _ _ _ => idct_is.mpr hit')

theorem nx_dictE {I d : Addr} {ep : Nat} {o : Obj} {es : Array DictEntry} {Q : Option Value → Shared → Prop} (S : St prog w s₀ DD b₀ env cw m cm P (idct I d es.size es.size ep :: O) s) (hh : A.handled = none) (hod : s.heap.get? d = some o) (hdd : o.data = .dict es ep)
    (h : ∀ s', St prog w s₀ DD b₀ env cw m cm P O s' → Q none s') : wpAny (model prog w) A (pyNext (.ref I)) Q E s := by
  obtain ⟨b, _, _, hi⟩ := S.ownAt List.mem_cons_self
  obtain ⟨oi, ho, hc, hd⟩ := idct_is.mp hi
  have hT : s.TypeIs (.ref I) "dict_keyiterator" := ⟨oi, ho, hc⟩
  unfold pyNext
  refine wpAny_bind (wpAny_attempt (wpAny_callSpecial?_slot (name := Str.ofString "__next__") hT F.slot_dict_keyiterator_next
    (wpAny_call_entry F.slot_dict_keyiterator_next hT F.entry_dict_keyiterator_next ?_ (F.args_dict_keyiterator_next_1 _))))
  refine wpAny_bind (wpAny_pure ?_)
  refine wpAny_bind ?_
  refine wpAny_bind ?_
  first | refine wpAny_bind (wpAny_typeNameOfWhole_keyiter hT (wpAny_pure ?_)) | refine wpAny_bind (wpAny_typeNameOf_keyiter hT (wpAny_pure ?_))
  refine wpAny_bind (wpAny_fieldsOf ho hd ?_)
  have hown : Builtin.Dict_items.ownsTuple "dict_keyiterator" = false := by decide
  simp only [hown, Bool.false_eq_true, if_false]
  show wpAny _ _ (if (Value.ref d == Value.none) = true then _ else _) _ _ s
  rw [if_neg (show ¬ ((Value.ref d == Value.none) = true) from Bool.false_ne_true)]
  refine wpAny_bind (wpAny_pure ?_)
  refine wpAny_bind (wpAny_dictEntries hod hdd ?_)
  rw [if_neg (by simp)]
  refine wpAny_bind (wpAny_pure ?_)
  refine wpAny_bind (wpAny_dictEpoch hod hdd ?_)
  rw [if_neg (by simp)]
  refine wpAny_pure ?_
  simp only [show ¬ ((es.size : Int) < 0) from by lia, if_false, Int.toNat_natCast, Array.getElem?_eq_none (Nat.le_refl _)]
  refine wpAny_bind ?_
  first | refine wpAny_bind (wpAny_typeNameOfWhole_keyiter hT (wpAny_pure ?_)) | refine wpAny_bind (wpAny_typeNameOf_keyiter hT (wpAny_pure ?_))
  show wpAny _ _ (setField (.ref I) 0 .none >>= _) _ _ s
  refine wpAny_bind (wpAny_setField ho hd (by simp) ?_)
  show wpAny _ _ (newExc (.type "StopIteration") [] >>= _) _ _ _
  refine wpAny_bind ?_
  simp only [newExc, newTuple]
  refine wpAny_bind (wpAny_newObj_type ?_ (by size_fits))
  refine wpAny_bind (m := firstArgMember _ _) (wpAny_of_eq (a := Value.none) (by first | rfl | (simp only [firstArgMember]; rfl)) ?_)
  refine wpAny_newObj_type ?_ (by size_fits)
  simp only [raiseNew]
  refine wpAny_bind (wpAny_handled ?_)
  rw [show A.in1.handled = none from hh]
  refine wpAny_bind (wpAny_pure (wpAny_throw ?_))
  refine wpAny_bind (wpAny_isInstance (T := "StopIteration") (b := true) ⟨_, Heap.get?_push_size _ rfl, rfl⟩ isSubtype_stop ?_)
  exact wpAny_pure (h _ (S.lose (tk := s.toks) (((Heap.SameBut.update ..).extBut.push _).push _)))
theorem ih_idct {I d : Addr} {i n ep : Nat} {Q : Value → Shared → Prop} (S : St prog w s₀ DD b₀ env cw m cm P O s) (hx : idct I d i n ep ∈ O) (h : Q (.ref I) s) : wpAny (model prog w) A (pyIter (.ref I)) Q E s := by
  obtain ⟨b, _, _, hi⟩ := S.ownAt hx
  exact wpAny_pyIter_keyiter (idct_is.mp hi) h
end
end Mine
end
section
set_option maxRecDepth 100000
namespace Mine
open PySem PySem.W PyProof.Rows PySem.Calls

/-! ### a key is taken out -/
section
variable {prog : Program} {w : World} {K : Type} [DecidableEq K] {knd : HeapKind prog w K} {A : Around} {E : Value → Shared → Prop} {s : Shared} {d a : Addr} {k : K} {xs : List (K × Addr × Value)}

theorem map_erase {α β : Type} (f : α → β) : ∀ (l : List α) (j : Nat), (l.eraseIdx j).map f = (l.map f).eraseIdx j
  | [], _ => rfl
  | _ :: _, 0 => rfl
  | _ :: l, j + 1 => by simp [map_erase f l j]
theorem entries_erase {es : Array DictEntry} (he : es.toList = xs.map (entryOfKey knd)) (j : Nat) : (es.eraseIdxIfInBounds j).toList = (xs.eraseIdx j).map (entryOfKey knd) := by
  rw [map_erase, ← he]
  obtain ⟨l⟩ := es
  simp

theorem takeOutH {Q : Option DictEntry → Shared → Prop} (hu : knd.room A) (hkey : knd.is s.heap k a) (hm : s.heap.DictOfH knd d xs)
    (hnone : (∀ (j : Nat) (p : Addr × Value), xs[j]? ≠ some (k, p)) → Q none { s with toks := s.toks + knd.draws k })
    (hsome : ∀ (j : Nat) (p : Addr × Value), xs[j]? = some (k, p) → ∀ h', h'.DictOfH knd d (xs.eraseIdx j) → Heap.SameBut d s.heap h' → Q (some (entryOfKey knd (k, p))) { s with heap := h', toks := s.toks + knd.draws k })
    (hsz : xs.length ≤ sizeLine) : wpAny (model prog w) A (Builtin.Dict.takeOut d (.ref a)) Q E s := by
  obtain ⟨o, es, ep, ho, hc, hd, he, his, hn⟩ := hm
  have hes : es.size ≤ sizeLine := by rw [size_of_entries he]; exact hsz
  unfold Builtin.Dict.takeOut
  try with_reducible refine wpAny_holding ?_
  refine wpAny_bind (knd.pyHash hu hkey ?_)
  refine wpAny_bind (wpAny_dictFind_heap (s := { s with toks := s.toks + knd.draws k }) hu hkey ho hd he his hn (fun hno => ?_) fun j p hj => ?_)
  · exact wpAny_pure (hnone hno)
  · refine wpAny_bind (wpAny_dictEntries (s := { s with toks := s.toks + knd.draws k }) ho hd ?_)
    rw [entry_at he j, hj]
    have hgrow : (es.eraseIdxIfInBounds j).size ≤ es.size + 1 := by
      rw [Array.eraseIdxIfInBounds]
      split
      · rw [Array.size_eraseIdx]; lia
      · lia
    refine wpAny_bind (wpAny_updateDictKeys (hz := hes) (hf := hgrow) (s := { s with toks := s.toks + knd.draws k }) ho hd (wpAny_pure (hsome j p hj _ ⟨_, _, ep + 1, Heap.get?_update_self _ ho (Obj.isFreed_of_dict (Obj.data_mapDictKeys hd _)),
      hc.mapDictKeys _, Obj.data_mapDictKeys hd _, entries_erase he j, ?_, ?_⟩ (Heap.SameBut.update ..))))
    · intro x hx
      exact knd.keeps (his x (List.mem_of_mem_eraseIdx hx)) ho hd (Heap.SameBut.update ..)
    · rw [map_erase]
      exact hn.sublist (List.eraseIdx_sublist _ _)
end

section
variable {prog : Program} {w : World} {b : Heap}
theorem Ents.erase : ∀ {xs : List (List Int × Addr × Value)} {p : Poly} {j : Nat} {m : Mono} {q : Addr × Value}, Ents b xs p → (xs.map (·.1)).Nodup → xs[j]? = Option.some (keyL m, q) → Ents b (xs.eraseIdx j) (pdel p m)
  | [], _, _, _, _, _, _, h => by simp at h
  | x :: xs, _, 0, m, q, ⟨y, r, e, e1, _, _, e2⟩, _, h => by
    subst e
    simp only [List.getElem?_cons_zero, Option.some.injEq] at h
    subst h
    have hm : y.1 = m := keyL_inj e1.symm
    unfold pdel
    rw [if_pos hm]
    exact e2
  | x :: xs, _, j + 1, m, q, ⟨y, r, e, e1, hm1, hv, e2⟩, hn, h => by
    subst e
    rw [List.map_cons, List.nodup_cons] at hn
    simp only [List.getElem?_cons_succ] at h
    have hm : y.1 ≠ m := fun hm => hn.1 (by rw [e1, hm]; exact List.mem_map.mpr ⟨_, List.mem_of_getElem? h, rfl⟩)
    unfold pdel
    rw [if_neg hm]
    exact ⟨_, _, rfl, e1, hm1, hv, Ents.erase e2 hn.2 h⟩
theorem Ents.not_mem : ∀ {xs : List (List Int × Addr × Value)} {p : Poly} {m : Mono}, Ents b xs p → (∀ (j : Nat) (q : Addr × Value), xs[j]? ≠ Option.some (keyL m, q)) → plook p m = Option.none ∧ pdel p m = p
  | [], _, _, e, _ => by cases e; exact ⟨rfl, rfl⟩
  | x :: xs, _, m, ⟨y, r, e, e1, _, _, e2⟩, h => by
    subst e
    have hm : y.1 ≠ m := fun hm => h 0 x.2 (by show Option.some x = Option.some (keyL m, x.2); rw [← hm, ← e1])
    obtain ⟨i1, i2⟩ := Ents.not_mem e2 (fun j q e => h (j + 1) q (by simpa using e))
    unfold plook pdel
    rw [if_neg hm, if_neg hm, i1, i2]
    exact ⟨rfl, rfl⟩
end

section
variable {prog : Program} {w : World} {s₀ s : Shared} {DD : List Addr} {b₀ : Heap} {env : Env} {cw : Bool} {m cm : Str → Option Value} {P : List As} {O : List Ow}
variable {A : Around} {E : Value → Shared → Prop}

/-- d.pop(key) or d.pop(key, default) of an owned dict -/
theorem dPop {k : Value} {d : Addr} {p : Poly} {q : Mono} {O' : List Ow} {rest : List Value} {Q : Value → Shared → Prop} (S : St prog w s₀ DD b₀ env cw m cm P O s) (hu : A.units + 1 < cLine)
    (hr : Rep (.dict d p) (.dict d (pdel p q)) O O') (hk : As.is k (dM q) ∈ P) (hz : p.length ≤ 1000000)
    (hrest : (rest = [] ∧ (plook p q).isSome = true) ∨ ∃ x, rest = [x]) (h : ∀ v s', St prog w s₀ DD b₀ env cw m cm P O' s' → Q v s') :
    wpAny (model prog w) A (call (.builtin "dict.pop") (.ref d :: k :: rest)) Q E s := by
  obtain ⟨b, B⟩ := S
  obtain ⟨o, g, ho, xo⟩ := (B.own _ hr.mem).1
  obtain ⟨a, rfl⟩ := refOf (show Is b (dM q) k from B.facts _ hk)
  have xo' := xo
  obtain ⟨es, ep, _, _, hdat, _⟩ := xo'
  obtain ⟨xs, hx', he, hi⟩ := xo.dictH B.bs ho
  have hnd : (xs.map (·.1)).Nodup := let ⟨_, _, _, _, _, _, _, _, hn⟩ := hx'; hn
  have hsz : xs.length ≤ sizeLine := by rw [he.length]; exact Nat.le_trans hz (by rw [sizeLine]; decide)
  have S : St prog w s₀ DD b₀ env cw m cm P O s := ⟨b, B⟩
  have same : ∀ v s', plook p q = none → pdel p q = p → St prog w s₀ DD b₀ env cw m cm P O s' → Q v s' := fun v s' _ e S' => h v s' (by
    rw [e] at hr
    obtain ⟨b', B'⟩ := S'
    have heap' : s' = { s' with heap := s'.heap, toks := s'.toks } := rfl
    rw [heap']
    exact ⟨b', B'.change hr rfl ⟨rfl, fun _ _ => rfl⟩ ((B'.own _ hr.mem).1)⟩)
  have fin : ∀ (R : Option DictEntry → Shared → Prop), (plook p q = none → ∀ s', St prog w s₀ DD b₀ env cw m cm P O s' → pdel p q = p → R none s') → (∀ e s', St prog w s₀ DD b₀ env cw m cm P O' s' → R (some e) s') →
      wpAny (model prog w) A.in1 (Builtin.Dict.takeOut d (.ref a)) R (fun e s' => wants Q E (.error e) s') s := fun R h1 h2 => by
    refine takeOutH (knd := tk prog w) (k := keyL q) hu (tupKey_keep B.bs (key_is (B.facts _ hk))) hx' (fun hno => ?_) (fun j p' hj h' hm hs => ?_) hsz
    · exact h1 (he.not_mem hno).1 _ (S.tok _) (he.not_mem hno).2
    · refine h2 _ _ ⟨b, B.change hr rfl hs ?_⟩
      obtain ⟨o', ho', xo'⟩ := OPoly.ofH hm (he.erase hnd hj) (fun y hy => hi y (List.mem_of_mem_eraseIdx hy))
      exact ⟨o', g, ho', xo'⟩
  refine wpAny_call_entry F.slot_dict_pop hx'.typeIs F.entry_dict_pop ?_ ?_
  · unfold Builtin.«dict.pop»
    refine wpAny_bind ?_
    unfold Builtin.Dict.keyAndDefault
    refine wpAny_bind (wpAny_notOrdered_dict hx'.typeIs ?_)
    have body : ∀ dflt : Option Value, ((dflt = none ∧ (plook p q).isSome = true) ∨ ∃ x, dflt = some x) → wpAny (model prog w) A.in1 (do
        let empty ← if (keyPart (.ref a)).isSome then pure false else do pure (← dictEntries d).isEmpty
        let old ← if empty then rule "dict.pop.empty"; pure none else Builtin.Dict.takeOut d (.ref a)
        if old.isNone then Builtin.Dict.missedRemoval d (.ref a)
        match old, dflt with
        | some e, _ => letGo [e.key] [e.val]; ret e.val
        | none, some x => rule "dict.pop.default"; ret x
        | none, none => rule "dict.pop.keyerror"; raiseNew (← newExc (.type "KeyError") [.ref a])) (fun fin s' => ∃ v, fin = Fin.done (.ret v) ∧ wants Q E (.ok (.ret v)) s') (fun e s' => wants Q E (.error e) s') s := by
      intro dflt hdf
      simp only [keyPart, Option.isSome_none, Bool.false_eq_true, if_false]
      refine wpAny_bind (wpAny_dictEntries ho hdat (wpAny_bind (wpAny_pure ?_)))
      have none_case : plook p q = none → pdel p q = p → ∀ s', St prog w s₀ DD b₀ env cw m cm P O s' → wpAny (model prog w) A.in1 (do
          if (none : Option DictEntry).isNone then Builtin.Dict.missedRemoval d (.ref a)
          match (none : Option DictEntry), dflt with
          | some e, _ => letGo [e.key] [e.val]; ret e.val
          | none, some x => rule "dict.pop.default"; ret x
          | none, none => rule "dict.pop.keyerror"; raiseNew (← newExc (.type "KeyError") [.ref a])) (fun fin s' => ∃ v, fin = Fin.done (.ret v) ∧ wants Q E (.ok (.ret v)) s') (fun e s' => wants Q E (.error e) s') s' := by
        intro hp hd' s' S'
        rcases hdf with ⟨_, h2⟩ | ⟨x, rfl⟩
        · rw [hp] at h2; cases h2
        · simp only [Option.isNone_none, if_true]
          refine wpAny_bind ?_
          unfold Builtin.Dict.missedRemoval
          rw [if_neg (by rw [g]; exact Bool.false_ne_true)]
          refine wpAny_pure ?_
          exact wpAny_bind (wpAny_rule (wpAny_pure ⟨x, rfl, same _ _ hp hd' S'⟩))
      by_cases hemp : es.isEmpty = true
      · rw [if_pos hemp]
        refine wpAny_bind (wpAny_rule (wpAny_bind (wpAny_pure ?_)))
        have hx0 : xs = [] := by
          obtain ⟨o2, es2, ep2, ho2, _, hd2, he2, _⟩ := hx'
          rw [ho] at ho2; cases ho2
          rw [hdat] at hd2; cases hd2
          rw [Array.isEmpty_iff.mp hemp] at he2
          exact List.map_eq_nil_iff.mp he2.symm
        subst hx0
        obtain ⟨e1, e2⟩ := he.not_mem (m := q) (fun j q h => by simp at h)
        exact none_case e1 e2 s S
      · rw [if_neg hemp]
        refine wpAny_bind (fin _ (fun hp s' S' hd' => none_case hp hd' s' S') fun e s' S' => ?_)
        simp only [Option.isNone_some, Bool.false_eq_true, if_false]
        exact wpAny_bind (wpAny_letGo (wpAny_pure ⟨e.val, rfl, h _ _ S'⟩))
    rcases hrest with ⟨rfl, h1⟩ | ⟨x, rfl⟩
    · exact wpAny_pure (body none (.inl ⟨rfl, h1⟩))
    · exact wpAny_pure (body (some x) (.inr ⟨x, rfl⟩))
  · rcases hrest with ⟨rfl, _⟩ | ⟨x, rfl⟩
    · exact F.args_dict_pop_2 _ _
    · exact F.args_dict_pop_3 _ _ _
end
end Mine
end
section
set_option maxRecDepth 100000
namespace Mine
open PySem PySem.W PyProof.Rows PySem.Calls

/-! ### dict(d) -/
noncomputable def inBox (m : Mono) : Bool := decide (0 ≤ m.1) && decide (m.1 < 8) && decide (0 ≤ m.2) && decide (m.2 < 8)
noncomputable def boxed (p : Poly) : Bool := p.all fun e => inBox e.1
noncomputable def hsh (m : Mono) : Int := reduceHash (Builtin.Tuple.tupleHashOf [hashInt m.1, hashInt m.2])
noncomputable def boxAll : List Mono := (List.range 64).map fun i => (((i / 8 : Nat) : Int), ((i % 8 : Nat) : Int))
theorem hsh_nodup : (boxAll.map hsh).Nodup := by decide +kernel
theorem mem_boxAll {m : Mono} (h : inBox m = true) : m ∈ boxAll := by
  unfold inBox at h
  simp only [Bool.and_eq_true, decide_eq_true_eq] at h
  obtain ⟨a, b⟩ := m
  obtain ⟨⟨⟨h1, h2⟩, h3⟩, h4⟩ := h
  simp only at h1 h2 h3 h4
  refine List.mem_map.mpr ⟨a.toNat * 8 + b.toNat, List.mem_range.mpr (by lia), ?_⟩
  have e1 : (a.toNat * 8 + b.toNat) / 8 = a.toNat := by lia
  have e2 : (a.toNat * 8 + b.toNat) % 8 = b.toNat := by lia
  rw [e1, e2]
  exact Prod.ext (by simp; lia) (by simp; lia)
theorem nodup_map_inj {α β : Type} {f : α → β} : ∀ {l : List α}, (l.map f).Nodup → ∀ {x y : α}, x ∈ l → y ∈ l → f x = f y → x = y
  | [], _, _, _, hx, _, _ => nomatch hx
  | a :: l, hn, x, y, hx, hy, e => by
    rw [List.map_cons, List.nodup_cons] at hn
    rcases List.mem_cons.mp hx with hx | hx <;> rcases List.mem_cons.mp hy with hy | hy
    · rw [hx, hy]
    · exact absurd (List.mem_map.mpr ⟨y, hy, by rw [← e, hx]⟩) hn.1
    · exact absurd (List.mem_map.mpr ⟨x, hx, by rw [e, hy]⟩) hn.1
    · exact nodup_map_inj hn.2 hx hy e
theorem hsh_inj {x y : Mono} (hx : inBox x = true) (hy : inBox y = true) (e : hsh x = hsh y) : x = y := nodup_map_inj hsh_nodup (mem_boxAll hx) (mem_boxAll hy) e
theorem nodup_of_inj {α β : Type} {f : α → β} : ∀ {l : List α}, l.Nodup → (∀ x ∈ l, ∀ y ∈ l, f x = f y → x = y) → (l.map f).Nodup
  | [], _, _ => List.nodup_nil
  | a :: l, hn, h => by
    rw [List.nodup_cons] at hn
    rw [List.map_cons, List.nodup_cons]
    refine ⟨fun hm => ?_, nodup_of_inj hn.2 fun x hx y hy => h x (.tail _ hx) y (.tail _ hy)⟩
    obtain ⟨y, hy, e⟩ := List.mem_map.mp hm
    exact hn.1 (h y (.tail _ hy) a (.head _) e ▸ hy)

section
variable {prog : Program} {w : World} {A : Around} {E : Value → Shared → Prop} {s : Shared} {b : Heap}

theorem Ents.hash_nodup {xs : List (List Int × Addr × Value)} {p : Poly} (e : Ents b xs p) (hn : (xs.map (·.1)).Nodup) (hb : boxed p = true) : ((xs.map (entryOfKey (tk prog w))).map (·.hash)).Nodup := by
  have e1 : (xs.map (entryOfKey (tk prog w))).map (·.hash) = (p.map (·.1)).map hsh := by
    rw [List.map_map, List.map_map]
    have : (fun e : DictEntry => e.hash) ∘ entryOfKey (tk prog w) = (tk prog w).hash ∘ (fun x : List Int × Addr × Value => x.1) := rfl
    rw [this, ← List.map_map, e.keys, List.map_map]
    rfl
  rw [e1]
  refine nodup_of_inj (e.nodup hn) fun x hx y hy h => ?_
  have hin : ∀ z ∈ p.map (·.1), inBox z = true := fun z hz => by
    obtain ⟨c, hc, rfl⟩ := List.mem_map.mp hz
    exact List.all_eq_true.mp hb c hc
  exact hsh_inj (hin x hx) (hin y hy) h

theorem filter_hash {es : Array DictEntry} (hn : (es.toList.map (·.hash)).Nodup) (h : Int) : (es.filter (·.hash == h)).size ≤ 1 := by
  have e1 : (es.filter (·.hash == h)).size = (es.toList.filter (·.hash == h)).length := by rw [← Array.toList_filter, Array.length_toList]
  rw [e1, ← List.countP_eq_length_filter]
  have e2 : es.toList.countP (·.hash == h) = (es.toList.map (·.hash)).count h := by
    rw [List.count_eq_countP, List.countP_map]; rfl
  rw [e2]
  exact List.nodup_iff_count.mp hn h

theorem entriesForEmptyH {id : String} {d : Addr} {o : Obj} {es ep} {Q : Array DictEntry → Shared → Prop} (ho : s.heap.get? d = some o) (hd : o.data = .dict es ep)
    (hk : ∀ e ∈ es, ∃ k a, e.key = .ref a ∧ (tk prog w).is s.heap k a) (hn : (es.toList.map (·.hash)).Nodup) (h : Q es s) : wpAny (model prog w) A (Builtin.Dict.entriesForEmpty id d) Q E s := by
  unfold Builtin.Dict.entriesForEmpty
  refine wpAny_bind (wpAny_dictEntries ho hd ?_)
  refine wpAny_bind ?_
  rw [← Array.forIn_toList]
  refine wpAny_forIn_list _ (fun rest _ s' => s' = s ∧ ∀ e ∈ rest, e ∈ es) _ ?_ ?_ _ _ ⟨rfl, fun e he => Array.mem_toList_iff.mp he⟩
  · rintro x rest r s' ⟨rfl, hr⟩
    obtain ⟨k, a, hka, hta⟩ := hk x (hr x List.mem_cons_self)
    obtain ⟨o2, items, n2, ho2, hc2, _⟩ := hta
    refine wpAny_bind ?_
    unfold Builtin.Dict.quietEq
    rw [hka]
    refine wpAny_bind (wpAny_specialOf (T := "tuple") ⟨o2, ho2, hc2⟩ F.slot_tuple_eq.lookup (wpAny_pure ?_))
    simp only [show ((some (Value.builtin "tuple.__eq__") == some (Value.builtin "object.__eq__")) = false) from by decide, Bool.not_false, if_true]
    rw [if_neg (by have := filter_hash hn x.hash; lia)]
    exact wpAny_pure ⟨rfl, fun e he => hr e (List.mem_cons_of_mem _ he)⟩
  · rintro r s' ⟨rfl, _⟩
    exact wpAny_pure h
end

section
variable {prog : Program} {w : World} {s₀ s : Shared} {DD : List Addr} {b₀ : Heap} {env : Env} {cw : Bool} {m cm : Str → Option Value} {P : List As} {O : List Ow}
variable {A : Around} {E : Value → Shared → Prop}

theorem StB.ownsB {b : Heap} (S : StB prog w s₀ DD b₀ env cw m cm P O s b) {h' : Heap} {tk : Nat} {x : Ow} (k : Keep s.heap h') (ha : s.heap.objs.size ≤ x.a) (hx : x.on prog w b h') :
    StB prog w s₀ DD b₀ env cw m cm P (x :: O) { s with heap := h', toks := tk } b := by
  have S1 := S.kept (tk := tk) k
  refine { S1 with own := fun y hy => ?_, oap := List.pairwise_cons.mpr ⟨fun y hy e => ?_, S1.oap⟩ }
  · rcases List.mem_cons.mp hy with rfl | hy
    · refine ⟨hx, ?_, fun e => ?_, fun n c hc e => ?_, .inr (Nat.le_trans S.grow ha)⟩
      · exact none_of_keep S.bs (get_none_of_size ha)
      · exact absurd S.ns.lt (Nat.not_lt.mpr (e ▸ ha))
      · obtain ⟨oc, hoc, _⟩ := (S.cell n c hc).1
        exact absurd (Heap.lt_size hoc) (Nat.not_lt.mpr (e ▸ ha))
    · exact S1.own y hy
  · obtain ⟨oc, hoc⟩ := Ow.some (S.own y hy).1
    exact absurd (Heap.lt_size hoc) (Nat.not_lt.mpr (e ▸ ha))

theorem dCopy {v : Value} {p : Poly} {Q : Value → Shared → Prop} (S : St prog w s₀ DD b₀ env cw m cm P O s) (hd : Rd prog w s₀ DD b₀ P O v p) (hb : boxed p = true) (hz : p.length ≤ 1000000)
    (h : ∀ d s', St prog w s₀ DD b₀ env cw m cm P (Ow.dict d p :: O) s' → Q (.ref d) s') : wpAny (model prog w) A (call (.type "dict") [v]) Q E s := by
  obtain ⟨b, d, o, B, rfl, g, ho, xo⟩ := hd.get S
  have gnew : (s.heap.objs.size == sysModules) = false := S.notSys (Nat.le_refl _)
  obtain ⟨es, ep, xs, hx, hdat, hes, hks, hnd, he⟩ := xo
  have hDT : s.TypeIs (.ref d) "dict" := ⟨o, ho, hx.1⟩
  refine callType_codes (Q₁ := fun obj s₁ => obj = .ref s.heap.objs.size ∧ s₁ = { s with heap := s.heap.push { cls := .type "dict", data := .dict #[] } }) F.kt_called_dict (F.kt_typeCall_dict_1 _) F.entry_dict_init (kt_code_dict_new _ ⟨rfl, rfl⟩) ?_
  rintro obj s₁ ⟨rfl, rfl⟩
  have hnew : (s.heap.push { cls := .type "dict", data := .dict #[] }).get? s.heap.objs.size = some { cls := .type "dict", data := .dict #[] } := Heap.get?_push_size _ rfl
  have ho' : (s.heap.push { cls := .type "dict", data := .dict #[] }).get? d = some o := Heap.get?_push_of_some _ ho
  have hNT : Shared.TypeIs { s with heap := s.heap.push { cls := .type "dict", data := .dict #[] } } (.ref s.heap.objs.size) "dict" := ⟨_, hnew, rfl⟩
  have hOT : Shared.TypeIs { s with heap := s.heap.push { cls := .type "dict", data := .dict #[] } } (.ref d) "dict" := ⟨o, ho', hx.1⟩
  have hdo : s.heap.objs.size ≠ d := fun e => absurd (Heap.lt_size ho) (by rw [e]; exact Nat.lt_irrefl _)
  have hsz : es.size ≤ sizeLine := by rw [size_of_entries hes, he.length]; exact Nat.le_trans hz (by rw [sizeLine]; decide)
  refine ⟨hNT, F.args_dict_init_2 _ _, ?_⟩
  unfold Builtin.«dict.__init__»
  refine wpAny_bind ?_
  unfold Builtin.Dict.selfAndRest
  refine wpAny_bind (wpAny_notOrdered_dict hNT ?_)
  show wpAny _ _ (pure (s.heap.objs.size, [Value.ref d])) _ _ _
  refine wpAny_pure ?_
  show wpAny _ _ (Builtin.Dict.updateFrom "dict.__init__" s.heap.objs.size (.ref d) [] .none) _ _ _
  unfold Builtin.Dict.updateFrom
  refine wpAny_bind (wpAny_typeOf hOT ?_)
  rw [if_neg (by decide)]
  refine wpAny_bind ?_
  unfold Builtin.Dict.merge
  refine wpAny_bind ?_
  unfold Builtin.Dict.readDirectly
  refine wpAny_bind (wpAny_isInstance hOT isSubtype_dict_dict ?_)
  simp only [Bool.not_true, Bool.false_eq_true, if_false]
  refine wpAny_bind (wpAny_specialOf hOT F.slot_dict_iter.lookup (wpAny_pure ?_))
  simp only [beq_self_eq_true, if_true]
  refine wpAny_bind (wpAny_pure ?_)
  unfold Builtin.Dict.mergeDict
  rw [if_neg (by simpa using hdo)]
  unfold Builtin.Dict.showsAll
  rw [if_neg (by rw [g]; exact Bool.false_ne_true)]
  refine wpAny_bind (wpAny_pure ?_)
  refine wpAny_bind (wpAny_dictEntries ho' hdat ?_)
  cases xs with
  | nil =>
    have hp0 : p = [] := he
    have he0 : es = #[] := by
      have : es.toList = [] := hes
      exact Array.toList_eq_nil_iff.mp this
    subst hp0 he0
    have cond : (!(decide ((#[] : Array DictEntry).size ≤ 8) && (#[] : Array DictEntry).all fun e => (keyPart e.key).isSome)) = false := by simp
    simp only [cond, Bool.false_eq_true, if_false]
    refine wpAny_bind (wpAny_dictEpoch ho' hdat ?_)
    refine wpAny_bind (wpAny_dictEntries ho' hdat ?_)
    refine wpAny_bind ?_
    rw [Std.Legacy.Range.forIn_eq_forIn_range']
    refine wpAny_pure ?_
    refine wpAny_pure ?_
    show wpAny _ _ (Builtin.Dict.addKeywords s.heap.objs.size [] >>= _) _ _ _
    refine wpAny_bind (wpAny_pure (wpAny_pure ⟨rfl, h _ _ ?_⟩))
    exact ⟨b, B.ownsB (tk := s.toks) (x := Ow.dict s.heap.objs.size []) (keep_push _ _) (Nat.le_refl _) ⟨_, gnew, hnew, #[], 0, [], ⟨rfl, rfl, rfl⟩, rfl, rfl, fun _ h => (nomatch h), .nil, rfl⟩⟩
  | cons x0 xs =>
    have hne : es ≠ #[] := by intro e; rw [e] at hes; simp at hes
    have hall : (es.all fun e => (keyPart e.key).isSome) = false := by
      rw [← Array.all_toList, hes]
      rfl
    rw [hall]
    simp only [Bool.and_false, Bool.not_false, if_true]
    refine wpAny_bind (wpAny_dictEntries hnew rfl ?_)
    simp only [show (#[] : Array DictEntry).isEmpty = true from rfl, if_true]
    have hkh : ∀ e ∈ es, ∃ k a, e.key = .ref a ∧ (tk prog w).is (s.heap.push { cls := .type "dict", data := .dict #[] }) k a := by
      intro e hin
      have : e ∈ (x0 :: xs).map (entryOfKey (tk prog w)) := hes ▸ Array.mem_toList_iff.mpr hin
      obtain ⟨x, hx, rfl⟩ := List.mem_map.mp this
      exact ⟨x.1, x.2.1, rfl, tupKey_keep (B.bs.trans (keep_push _ _)) (hks x hx)⟩
    refine wpAny_bind (entriesForEmptyH (s := { s with heap := s.heap.push { cls := .type "dict", data := .dict #[] } }) ho' hdat hkh (by rw [hes]; exact he.hash_nodup hnd hb) ?_)
    have hie : es.isEmpty = false := by
      cases hx : es.isEmpty with
      | false => rfl
      | true => exact absurd (Array.isEmpty_iff.mp hx) hne
    rw [hie]
    simp only [Bool.not_false, if_true]
    refine wpAny_bind (wpAny_updateDictKeysTo (s := { s with heap := s.heap.push { cls := .type "dict", data := .dict #[] } }) hnew rfl ?_ (by lia))
    refine wpAny_pure ?_
    show wpAny _ _ (Builtin.Dict.addKeywords s.heap.objs.size [] >>= _) _ _ _
    refine wpAny_bind (wpAny_pure (wpAny_pure ⟨rfl, h _ _ ?_⟩))
    refine ⟨b, B.ownsB (tk := s.toks) (x := Ow.dict s.heap.objs.size p) (fun a o e => ?_) (Nat.le_refl _) ⟨_, gnew, Heap.get?_update_self _ hnew rfl, es, 1, x0 :: xs, ⟨rfl, rfl, rfl⟩, rfl, hes, hks, hnd, he⟩⟩
    rw [(Heap.SameBut.update ..).2 a (fun e' => absurd (Heap.lt_size e) (by rw [e']; exact Nat.lt_irrefl _))]
    exact Heap.get?_push_of_some _ e
end
end Mine
end
section
set_option maxRecDepth 100000
namespace Mine
open PySem PySem.W PyProof.Rows PySem.Calls PySem.SeqAt

/-! ### tuples of ints are compared -/
noncomputable def lexOp (op : CmpOp) (a b : Int) : Bool := match op with
  | .Lt => decide (a < b)
  | _ => decide (a > b)
noncomputable def lexI (op : CmpOp) : List Int → List Int → Bool
  | a :: l, b :: r => if a = b then lexI op l r else lexOp op a b
  | _, _ => false

noncomputable def RcOp (A : Around) (s : Shared) (op : CmpOp) (y x : Value) (b : Bool) : Prop :=
  ∀ (prog : Program) (w : World) (E : Value → Shared → Prop) (Q : Value → Shared → Prop), Q (.bool b) s → wpAny (model prog w) A (richCompare op y x) Q E s

inductive Lex (A : Around) (s : Shared) (op : CmpOp) : List Value → List Value → Bool → Prop
  | nil : Lex A s op [] [] false
  | eq {x y xs ys b} : EqAt A s x y true → Lex A s op xs ys b → Lex A s op (x :: xs) (y :: ys) b
  | ne {x y xs ys b} : EqAt A s x y false → RcOp A s op x y b → Lex A s op (x :: xs) (y :: ys) b

theorem RcOp.int {A : Around} {s : Shared} {op : CmpOp} (hop : op = .Lt ∨ op = .Gt) (a b : Int) (t u : Tok) : RcOp A s op (.int a t) (.int b u) (lexOp op a b) := fun prog w E Q h => by
  rcases hop with rfl | rfl
  · exact richCompare_gives (op := .Lt) (typeIs_int s _ t) (typeIs_int s _ u) F.slot_int_lt F.entry_int_lt (F.args_int_lt_2 _ _) (gives_int_lt _ _ t u) (fun x => nomatch x) h
  · exact richCompare_gives (op := .Gt) (typeIs_int s _ t) (typeIs_int s _ u) F.slot_int_gt F.entry_int_gt (F.args_int_gt_2 _ _) (gives_int_gt _ _ t u) (fun x => nomatch x) h

section
variable {prog : Program} {w : World} {A : Around} {E : Value → Shared → Prop} {s : Shared}
theorem tuple_lt_tree {a b : Addr} {xs ys : Array Value} {c : Bool} {P : Fin → Shared → Prop} (ha : s.heap.IsTuple a xs) (hb : s.heap.IsTuple b ys) (L : Lex A s .Lt xs.toList ys.toList c)
    (hs : xs.size = ys.size) (h : P (.done (.ret (.bool c))) s) : wpAny (model prog w) A (Builtin.«tuple.__lt__» ⟨[.ref a, .ref b], []⟩) P E s := by
  obtain ⟨oa, hoa, hca, na, hda⟩ := ha
  obtain ⟨ob, hob, hcb, nb, hdb⟩ := hb
  show wpAny _ _ (isInstance (.ref b) (.type "tuple") >>= _) _ _ s
  refine wpAny_bind (wpAny_isInstance (T := "tuple") ⟨ob, hob, hcb⟩ isSubtype_tuple_tuple ?_)
  simp only [Bool.not_true, Bool.false_eq_true, if_false]
  refine wpAny_bind (wpAny_tupleItemsOf hoa hda ?_)
  refine wpAny_bind (wpAny_tupleItemsOf hob hdb ?_)
  refine wpAny_bind ?_
  refine wpAny_forIn_list _ (fun rest r s' => r.1 = none ∧ s' = s ∧ ∃ xs' ys', rest = List.zip xs' ys' ∧ Lex A s .Lt xs' ys' c) _ ?_ ?_ _ _ ⟨rfl, rfl, xs.toList, ys.toList, rfl, L⟩
  · rintro ⟨u, v⟩ rest r s' ⟨hr, rfl, xs', ys', hz, L⟩
    cases L with
    | nil => simp at hz
    | eq h1 L =>
      simp only [List.zip_cons_cons, List.cons.injEq, Prod.mk.injEq] at hz
      obtain ⟨⟨rfl, rfl⟩, rfl⟩ := hz
      refine wpAny_bind (h1 _ _ _ _ ?_)
      simp only [Bool.not_true, Bool.false_eq_true, if_false]
      exact wpAny_pure ⟨rfl, rfl, _, _, rfl, L⟩
    | ne h1 h2 =>
      simp only [List.zip_cons_cons, List.cons.injEq, Prod.mk.injEq] at hz
      obtain ⟨⟨rfl, rfl⟩, rfl⟩ := hz
      refine wpAny_bind (h1 _ _ _ _ ?_)
      simp only [Bool.not_false, if_true]
      exact wpAny_bind (wpAny_rule (wpAny_bind (h2 _ _ _ _ (wpAny_bind (wpAny_pure (wpAny_pure (wpAny_pure h)))))))
  · rintro ⟨r1, r2⟩ s' ⟨hr, rfl, xs', ys', hz, L⟩
    simp only at hr
    subst hr
    refine wpAny_pure ?_
    cases L with
    | nil =>
      have e : Builtin.Tuple.tupleCompareSizes .Lt xs.size ys.size = .bool false := by
        rw [hs]
        simp [Builtin.Tuple.tupleCompareSizes]
      show P (.done (.ret (Builtin.Tuple.tupleCompareSizes .Lt xs.size ys.size))) s'
      rw [e]; exact h
    | eq _ _ => simp at hz
    | ne _ _ => simp at hz
theorem tuple_gt_tree {a b : Addr} {xs ys : Array Value} {c : Bool} {P : Fin → Shared → Prop} (ha : s.heap.IsTuple a xs) (hb : s.heap.IsTuple b ys) (L : Lex A s .Gt xs.toList ys.toList c)
    (hs : xs.size = ys.size) (h : P (.done (.ret (.bool c))) s) : wpAny (model prog w) A (Builtin.«tuple.__gt__» ⟨[.ref a, .ref b], []⟩) P E s := by
  obtain ⟨oa, hoa, hca, na, hda⟩ := ha
  obtain ⟨ob, hob, hcb, nb, hdb⟩ := hb
  show wpAny _ _ (isInstance (.ref b) (.type "tuple") >>= _) _ _ s
  refine wpAny_bind (wpAny_isInstance (T := "tuple") ⟨ob, hob, hcb⟩ isSubtype_tuple_tuple ?_)
  simp only [Bool.not_true, Bool.false_eq_true, if_false]
  refine wpAny_bind (wpAny_tupleItemsOf hoa hda ?_)
  refine wpAny_bind (wpAny_tupleItemsOf hob hdb ?_)
  refine wpAny_bind ?_
  refine wpAny_forIn_list _ (fun rest r s' => r.1 = none ∧ s' = s ∧ ∃ xs' ys', rest = List.zip xs' ys' ∧ Lex A s .Gt xs' ys' c) _ ?_ ?_ _ _ ⟨rfl, rfl, xs.toList, ys.toList, rfl, L⟩
  · rintro ⟨u, v⟩ rest r s' ⟨hr, rfl, xs', ys', hz, L⟩
    cases L with
    | nil => simp at hz
    | eq h1 L =>
      simp only [List.zip_cons_cons, List.cons.injEq, Prod.mk.injEq] at hz
      obtain ⟨⟨rfl, rfl⟩, rfl⟩ := hz
      refine wpAny_bind (h1 _ _ _ _ ?_)
      simp only [Bool.not_true, Bool.false_eq_true, if_false]
      exact wpAny_pure ⟨rfl, rfl, _, _, rfl, L⟩
    | ne h1 h2 =>
      simp only [List.zip_cons_cons, List.cons.injEq, Prod.mk.injEq] at hz
      obtain ⟨⟨rfl, rfl⟩, rfl⟩ := hz
      refine wpAny_bind (h1 _ _ _ _ ?_)
      simp only [Bool.not_false, if_true]
      exact wpAny_bind (wpAny_rule (wpAny_bind (h2 _ _ _ _ (wpAny_bind (wpAny_pure (wpAny_pure (wpAny_pure h)))))))
  · rintro ⟨r1, r2⟩ s' ⟨hr, rfl, xs', ys', hz, L⟩
    simp only at hr
    subst hr
    refine wpAny_pure ?_
    cases L with
    | nil =>
      have e : Builtin.Tuple.tupleCompareSizes .Gt xs.size ys.size = .bool false := by
        rw [hs]
        simp [Builtin.Tuple.tupleCompareSizes]
      show P (.done (.ret (Builtin.Tuple.tupleCompareSizes .Gt xs.size ys.size))) s'
      rw [e]; exact h
    | eq _ _ => simp at hz
    | ne _ _ => simp at hz
end

theorem RcOp.tuples {A : Around} {s : Shared} {op : CmpOp} {a b : Addr} {xs ys : Array Value} {c : Bool} (hop : op = .Lt ∨ op = .Gt) (hu : A.units < cLine) (ha : s.heap.IsTuple a xs) (hb : s.heap.IsTuple b ys)
    (hs : xs.size = ys.size) (L : Lex A.in1 s op xs.toList ys.toList c) : RcOp A s op (.ref a) (.ref b) c := fun prog w E Q h => by
  obtain ⟨oa, hoa, hca, na, hda⟩ := id ha
  obtain ⟨ob, hob, hcb, nb, hdb⟩ := id hb
  have hTa : s.TypeIs (.ref a) "tuple" := ⟨oa, hoa, hca⟩
  have hTb : s.TypeIs (.ref b) "tuple" := ⟨ob, hob, hcb⟩
  rcases hop with rfl | rfl
  · exact wpAny_richCompare_same_room (op := .Lt) hTa hTb F.slot_tuple_lt (wpAny_call_entry F.slot_tuple_lt hTa F.entry_tuple_lt (tuple_lt_tree ha hb L hs ⟨_, rfl, (fun e => nomatch e), h⟩) (F.args_tuple_lt_2 _ _)) hu
  · exact wpAny_richCompare_same_room (op := .Gt) hTa hTb F.slot_tuple_gt (wpAny_call_entry F.slot_tuple_gt hTa F.entry_tuple_gt (tuple_gt_tree ha hb L hs ⟨_, rfl, (fun e => nomatch e), h⟩) (F.args_tuple_gt_2 _ _)) hu

/-! ints laid out -/
theorem isL_ints {h : Heap} : ∀ {l : List Int} {vs : List Value}, IsL h (l.map .int) vs → ∃ ts : List (Int × Tok), vs = ts.map (fun p => .int p.1 p.2) ∧ ts.map (·.1) = l
  | [], vs, x => by unfold IsL at x; exact ⟨[], x, rfl⟩
  | i :: l, vs, x => by
    rw [List.map_cons] at x
    unfold IsL at x
    obtain ⟨v, r, rfl, hi, hr⟩ := x
    unfold Is at hi
    obtain ⟨t, rfl⟩ := hi
    obtain ⟨ts, rfl, e⟩ := isL_ints hr
    exact ⟨(i, t) :: ts, rfl, by simp [e]⟩
theorem lex_ints {A : Around} {s : Shared} {op : CmpOp} (hop : op = .Lt ∨ op = .Gt) : ∀ {xs ys : List (Int × Tok)}, xs.length = ys.length →
    Lex A s op (xs.map fun p => .int p.1 p.2) (ys.map fun p => .int p.1 p.2) (lexI op (xs.map (·.1)) (ys.map (·.1)))
  | [], [], _ => .nil
  | x :: xs, y :: ys, h => by
    simp only [List.map_cons, lexI]
    by_cases e : x.1 = y.1
    · rw [if_pos e]
      refine .eq ?_ (lex_ints hop (by simpa using h))
      have := (MeetsSeq.EqGives.int x.1 y.1 x.2 y.2).at A s
      rwa [show (x.1 == y.1) = true by simpa using e] at this
    · rw [if_neg e]
      refine .ne ?_ (RcOp.int hop _ _ _ _)
      have := (MeetsSeq.EqGives.int x.1 y.1 x.2 y.2).at A s
      rwa [show (x.1 == y.1) = false by simpa using e] at this
  | [], _ :: _, h => nomatch h
  | _ :: _, [], h => nomatch h

theorem Is.ints {h : Heap} {v : Value} {l : List Int} (x : Is h (dL l) v) : ∃ (a : Addr) (ts : List (Int × Tok)), v = .ref a ∧ h.IsTuple a (ts.map fun p : Int × Tok => Value.int p.1 p.2).toArray ∧ ts.map (·.1) = l := by
  obtain ⟨a, vs, rfl, ht, hL⟩ := Is.tupOf x
  obtain ⟨ts, rfl, e⟩ := isL_ints hL
  exact ⟨a, ts, rfl, ht, e⟩

theorem itemsAre_ints {prog : Program} {w : World} : ∀ (ts : List (Int × Tok)), ItemsAre (intKind prog w) (ts.map (·.1)) (ts.map fun p => .int p.1 p.2)
  | [] => .nil
  | p :: ts => .cons (intKind_is prog w _ _) (itemsAre_ints ts)
theorem Is.tupKey {prog : Program} {w : World} {h : Heap} {a : Addr} {l : List Int} (x : Is h (dL l) (.ref a)) : IsTupleKey (intKind prog w) h l a := by
  obtain ⟨a', ts, e, ht, rfl⟩ := Is.ints x
  cases e
  obtain ⟨o, ho, hc, n, hd⟩ := ht
  exact ⟨o, _, n, ho, hc, hd, itemsAre_ints ts⟩
theorem eqAt_ints {A : Around} {s : Shared} {v u : Value} {l r : List Int} (hu : A.units < cLine) (hv : Is s.heap (dL l) v) (hw : Is s.heap (dL r) u) : EqAt A s v u (decide (l = r)) := fun prog w E Q h => by
  obtain ⟨a, _, rfl, _, _⟩ := Is.ints hv
  obtain ⟨c, _, rfl, _, _⟩ := Is.ints hw
  exact wpAny_eqBool_tuple hu (Is.tupKey (prog := prog) (w := w) hv) (Is.tupKey hw) h
theorem rcOp_ints {A : Around} {s : Shared} {op : CmpOp} (hop : op = .Lt ∨ op = .Gt) {v u : Value} {l r : List Int} (hu : A.units < cLine) (hv : Is s.heap (dL l) v) (hw : Is s.heap (dL r) u) (hl : l.length = r.length) : RcOp A s op v u (lexI op l r) := by
  obtain ⟨a, ts, rfl, h1, rfl⟩ := Is.ints hv
  obtain ⟨c, us, rfl, h2, rfl⟩ := Is.ints hw
  have hl' : ts.length = us.length := by simpa using hl
  exact RcOp.tuples hop hu h1 h2 (by simpa using hl') (by simpa using lex_ints hop hl')

noncomputable def lexI2 (op : CmpOp) (a b : List Int × List Int) : Bool := if a.1 = b.1 then (if a.2 = b.2 then false else lexI op a.2 b.2) else lexI op a.1 b.1
theorem rcOp_ints2 {A : Around} {s : Shared} {op : CmpOp} (hop : op = .Lt ∨ op = .Gt) {v u : Value} {l1 l2 r1 r2 : List Int} (hu : A.units + 1 < cLine) (hv : Is s.heap (.tup [dL l1, dL l2]) v) (hw : Is s.heap (.tup [dL r1, dL r2]) u)
    (h1 : l1.length = r1.length) (h2 : l2.length = r2.length) : RcOp A s op v u (lexI2 op (l1, l2) (r1, r2)) := by
  obtain ⟨a, vs, rfl, ta, La⟩ := Is.tupOf hv
  obtain ⟨c, us, rfl, tc, Lc⟩ := Is.tupOf hw
  unfold IsL at La Lc
  obtain ⟨v1, _, rfl, i1, La⟩ := La
  obtain ⟨u1, _, rfl, j1, Lc⟩ := Lc
  unfold IsL at La Lc
  obtain ⟨v2, _, rfl, i2, La⟩ := La
  obtain ⟨u2, _, rfl, j2, Lc⟩ := Lc
  unfold IsL at La Lc
  subst La Lc
  refine RcOp.tuples hop (by lia) ta tc rfl ?_
  have hu1 : A.in1.units < cLine := hu
  have e1 := eqAt_ints (A := A.in1) hu1 i1 j1
  have e2 := eqAt_ints (A := A.in1) hu1 i2 j2
  unfold lexI2
  by_cases c1 : l1 = r1
  · rw [decide_eq_true c1] at e1
    rw [if_pos c1]
    refine .eq e1 ?_
    by_cases c2 : l2 = r2
    · rw [decide_eq_true c2] at e2
      rw [if_pos c2]
      exact .eq e2 .nil
    · rw [decide_eq_false c2] at e2
      rw [if_neg c2]
      exact .ne e2 (rcOp_ints hop hu1 i2 j2 h2)
  · rw [decide_eq_false c1] at e1
    rw [if_neg c1]
    exact .ne e1 (rcOp_ints hop hu1 i1 j1 h1)

section
variable {prog : Program} {w : World} {s₀ s : Shared} {DD : List Addr} {b₀ : Heap} {env : Env} {cw : Bool} {m cm : Str → Option Value} {P : List As} {O : List Ow}
variable {A : Around} {E : Value → Shared → Prop}

theorem tEq {v u : Value} {l r : List Int} {Q : Value → Shared → Prop} (S : St prog w s₀ DD b₀ env cw m cm P O s) (hu : A.units + 1 < cLine) (h1 : As.is v (dL l) ∈ P) (h2 : As.is u (dL r) ∈ P) (h : Q (.bool (decide (l = r))) s) :
    wpAny (model prog w) A (compareOp .Eq v u) Q E s := by
  have i1 : Is s.heap (dL l) v := S.has h1
  have i2 : Is s.heap (dL r) u := S.has h2
  obtain ⟨a, _, rfl, _, _⟩ := Is.ints i1
  obtain ⟨c, _, rfl, _, _⟩ := Is.ints i2
  have k1 := Is.tupKey (prog := prog) (w := w) i1
  have k2 := Is.tupKey (prog := prog) (w := w) i2
  exact wpAny_richCompare_same_room (op := .Eq) k1.typeIs k2.typeIs F.slot_tuple_eq
      (wpAny_call_entry F.slot_tuple_eq k1.typeIs F.entry_tuple_eq (tuple_eq_tree k1 k2 ⟨_, rfl, (fun e => nomatch e), h⟩) (F.args_tuple_eq_2 _ _)) (by lia)
theorem tGt {v u : Value} {l r : List Int} {Q : Value → Shared → Prop} (S : St prog w s₀ DD b₀ env cw m cm P O s) (hu : A.units + 1 < cLine) (h1 : As.is v (dL l) ∈ P) (h2 : As.is u (dL r) ∈ P) (hl : l.length = r.length)
    (h : Q (.bool (lexI .Gt l r)) s) : wpAny (model prog w) A (compareOp .Gt v u) Q E s :=
  rcOp_ints (.inr rfl) (by lia) (show Is s.heap (dL l) v from S.has h1) (show Is s.heap (dL r) u from S.has h2) hl prog w E Q h
theorem tLt2 {v u : Value} {l1 l2 r1 r2 : List Int} {Q : Value → Shared → Prop} (S : St prog w s₀ DD b₀ env cw m cm P O s) (hu : A.units + 1 < cLine) (h1 : As.is v (.tup [dL l1, dL l2]) ∈ P) (h2 : As.is u (.tup [dL r1, dL r2]) ∈ P)
    (hl1 : l1.length = r1.length) (hl2 : l2.length = r2.length) (h : Q (.bool (lexI2 .Lt (l1, l2) (r1, r2))) s) : wpAny (model prog w) A (compareOp .Lt v u) Q E s :=
  rcOp_ints2 (.inl rfl) hu (show Is s.heap _ v from S.has h1) (show Is s.heap _ u from S.has h2) hl1 hl2 prog w E Q h
end
end Mine
end
section
set_option maxRecDepth 100000
namespace Mine
open PySem PySem.W PyProof.Rows PySem.Calls

theorem mine_tuple_rmul : typeLookup (.type "tuple") (dunderR "mul") = pure (some (.builtin "tuple.__rmul__")) := by rw [typeLookup_type, builtinLookup_eq_fast]; kernel_rfl
theorem noFill_tuple_mul : fillsNumberSlot (.type "tuple") "mul" = pure false :=
  PySem.fillsNumberSlot_seq (id := "tuple.__mul__") (r := some (.builtin "tuple.__rmul__")) F.slot_tuple_mul.lookup (by decide +kernel) mine_tuple_rmul (by decide +kernel)
theorem repeat_tuple : seqRepeat? (.type "tuple") = pure (some (.builtin "tuple.__mul__")) := by
  unfold seqRepeat?
  rw [PySem.seqSlot_of (T := "tuple") (name := "__mul__") (id := "tuple.__mul__") F.slot_tuple_mul.lookup (by decide +kernel), PySem.seqSlot_of (T := "tuple") (name := "__rmul__") (id := "tuple.__rmul__") mine_tuple_rmul (by decide +kernel)]
  rfl

section
variable {prog : Program} {w : World} {s₀ s : Shared} {DD : List Addr} {b₀ : Heap} {env : Env} {cw : Bool} {m cm : Str → Option Value} {P : List As} {O : List Ow}
variable {A : Around} {E : Value → Shared → Prop}

/-! len -/
theorem dLen {v : Value} {p : Poly} {Q : Value → Shared → Prop} (S : St prog w s₀ DD b₀ env cw m cm P O s) (hd : Rd prog w s₀ DD b₀ P O v p) (hz : p.length ≤ 1000000)
    (h : ∀ t s', St prog w s₀ DD b₀ env cw m cm P O s' → Q (.int p.length t) s') : wpAny (model prog w) A (call (.builtin "len") [v]) Q E s := by
  obtain ⟨b, d, o, B, rfl, g, ho, xo⟩ := hd.get S
  obtain ⟨es, ep, xs, hx, hdat, hes, hks, hnd, he⟩ := xo
  have hDT : s.TypeIs (.ref d) "dict" := ⟨o, ho, hx.1⟩
  have hsz : es.size = p.length := by rw [size_of_entries hes, he.length]
  refine call_function_entry kind_len plain_len entry_len (args_len1 _) ?_
  unfold Builtin.«len»
  refine wpAny_bind (m := oneArg "len" _) (wpAny_pure ?_)
  refine wpAny_bind (m := callSpecial? (.ref d) (Str.ofString "__len__")) (wpAny_callSpecial?_slot (name := Str.ofString "__len__") hDT F.slot_dict_len
    (wpAny_call_entry F.slot_dict_len hDT F.entry_dict_len ?_ (F.args_dict_len_1 _)))
  unfold Builtin.«dict.__len__»
  refine wpAny_bind ?_
  unfold Builtin.Dict.dictSlotNone
  refine wpAny_bind (wpAny_notOrdered_dict hDT ?_)
  show wpAny _ _ (pure (Value.ref d)) _ _ s
  refine wpAny_pure ?_
  show wpAny _ _ (dictSize d >>= _) _ _ s
  unfold dictSize
  refine wpAny_bind (wpAny_bind (wpAny_dictEntries ho hdat (wpAny_pure ?_)))
  unfold Builtin.Dict.pendingCount
  rw [if_neg (by rw [g]; exact Bool.false_ne_true)]
  refine wpAny_bind (wpAny_pure ?_)
  refine wpAny_bind (wpAny_mkInt (wpAny_pure ⟨_, rfl, ?_⟩))
  refine wpAny_bind (wpAny_holding (wpAny_pure ?_))
  refine wpAny_bind (wpAny_letGo ?_)
  show wpAny _ _ (if ((es.size + 0 : Nat) : Int) < 0 then _ else _) _ _ _
  rw [if_neg (by lia)]
  show wpAny _ _ (if ((es.size + 0 : Nat) : Int) ≥ 2 ^ 63 then _ else _) _ _ _
  rw [if_neg (by lia)]
  refine wpAny_bind (wpAny_mkInt (wpAny_pure ⟨_, rfl, ?_⟩))
  show Q (.int ((es.size + 0 : Nat) : Int) _) _
  rw [Nat.add_zero, hsz]
  exact h _ _ ((S.tok _).tok _)

theorem lLen {l : Addr} {items : Array Value} {Q : Value → Shared → Prop} (S : St prog w s₀ DD b₀ env cw m cm P O s) (hl : s.heap.IsList l items) (hz : items.size ≤ 1000000)
    (h : ∀ t s', St prog w s₀ DD b₀ env cw m cm P O s' → Q (.int items.size t) s') : wpAny (model prog w) A (call (.builtin "len") [.ref l]) Q E s :=
  call_len_list hl (by lia) (h _ _ ((S.tok _).tok _))

/-! (x,) * 2 -/
theorem tRep2 {v : Value} {i : Int} {u : Tok} {Q : Value → Shared → Prop} (S : St prog w s₀ DD b₀ env cw m cm P O s) (hv : As.is v (.tup [.int i]) ∈ P)
    (h : ∀ x s', St prog w s₀ DD b₀ env cw m cm (As.is x (dM (i, i)) :: P) O s' → Q x s') : wpAny (model prog w) A (binaryOp .Mult v (.int 2 u)) Q E s := by
  obtain ⟨a, vs, rfl, ⟨o, ho, hc, n, hd⟩, hL⟩ := Is.tupOf (S.has hv)
  unfold IsL at hL
  obtain ⟨x, _, rfl, hi, hL⟩ := hL
  unfold Is at hi
  obtain ⟨t, rfl⟩ := hi
  unfold IsL at hL
  subst hL
  have hT : s.TypeIs (.ref a) "tuple" := ⟨o, ho, hc⟩
  refine wpAny_binaryOp_repeat_ref (T := "tuple") (U := "int") (by decide) hT (fun s' => typeIs_int s' 2 u) noFill_tuple_mul F.fills_int_mul F.slot_int_rmul repeat_tuple F.slot_int_index.lookup ?_
  refine wpAny_call_entry F.slot_int_rmul (typeIs_int s 2 u) F.entry_int_rmul ?_ (F.args_int_rmul_2 _ _)
  unfold Builtin.«int.__rmul__» Builtin.Int.intBinary
  refine wpAny_bind (wpAny_pure ?_)
  refine wpAny_bind (wpAny_pure ?_)
  refine wpAny_bind ?_
  show wpAny _ _ (asInt? (.ref a)) _ _ s
  unfold asInt?
  refine wpAny_bind (wpAny_load ho ?_)
  rw [hd]
  refine wpAny_pure ?_
  refine wpAny_bind (wpAny_rule (wpAny_pure ⟨_, rfl, rfl, hT, ?_⟩))
  refine wpAny_call_entry F.slot_tuple_mul hT F.entry_tuple_mul ?_ (F.args_tuple_mul_2 _ _)
  show wpAny _ _ (asIndex (.int 2 u) >>= _) _ _ s
  refine wpAny_bind ?_
  unfold asIndex asInt?
  refine wpAny_bind (wpAny_pure (wpAny_pure ?_))
  rw [if_neg (by decide)]
  refine wpAny_bind (wpAny_tupleItemsOf ho hd ?_)
  rw [if_neg (by simp)]
  rw [if_neg (by simp)]
  rw [if_neg (by simp)]
  rw [if_neg (by simp [Builtin.Tuple.tupleTooMany, sizeLine])]
  refine wpAny_bind ?_
  unfold Builtin.Tuple.tupleExact
  refine wpAny_newObj_type (wpAny_pure ⟨_, rfl, h _ _ ?_⟩) (few (n := 2) (by decide))
  refine S.fact (tk := s.toks) (F := [As.is (.ref s.heap.objs.size) (dM (i, i))]) (keep_push _ _) (Nat.le_refl _) (Heap.get?_push_size _ rfl) fun b' hP ho p hp => ?_
  obtain rfl := List.mem_singleton.mp hp
  show Is b' (.tup _) _
  unfold Is
  refine ⟨_, _, rfl, ⟨_, ho, rfl, _, rfl⟩, ?_⟩
  show IsL b' [.int i, .int i] [.int i t, .int i t]
  unfold IsL
  refine ⟨_, _, rfl, ⟨_, rfl⟩, ?_⟩
  unfold IsL
  exact ⟨_, _, rfl, ⟨_, rfl⟩, by simp [IsL]⟩

/-! displays of dicts -/
theorem dNew {pos : Pos} {Q : Value → Shared → Prop} (S : St prog w s₀ DD b₀ env cw m cm P O s) (h : ∀ d s', St prog w s₀ DD b₀ env cw m cm P (Ow.dict d [] :: O) s' → Q (.ref d) s') :
    wpAny (model prog w) A (eval (.Dict [] [] pos) env) Q E s := by
  have g := S.notSys (Nat.le_refl _)
  refine wpAny_Dict_empty (h _ _ ?_)
  exact S.owns (tk := s.toks) (x := Ow.dict s.heap.objs.size []) (keep_push _ _) (Nat.le_refl _) fun b _ _ => ⟨_, g, Heap.get?_push_size _ rfl, #[], 0, [], ⟨rfl, rfl, rfl⟩, rfl, rfl, fun _ h => (nomatch h), .nil, rfl⟩
theorem dDisp {keys : List (Option Expr)} {values : List Expr} {pos : Pos} {Q : Value → Shared → Prop} (S : St prog w s₀ DD b₀ env cw m cm P O s)
    (hall : keys.all (·.isSome) = true) (hl : keys.length = values.length) (h0 : keys ≠ []) (hlen : keys.length ≤ 15)
    (h : ∀ d s', St prog w s₀ DD b₀ env cw m cm P (Ow.dict d [] :: O) s' → wpAny (model prog w) A (evalPairs (pairTrees keys values env pos)) (fun vs s₁ => wpAny (model prog w) A (storeAll d vs) (fun _ s₂ => Q (.ref d) s₂) E s₁) E s') :
    wpAny (model prog w) A (eval (.Dict keys values pos) env) Q E s := by
  have g := S.notSys (Nat.le_refl _)
  refine wpAny_Dict_any hall hl h0 hlen (h _ _ ?_)
  exact S.owns (tk := s.toks) (x := Ow.dict s.heap.objs.size []) (keep_push _ _) (Nat.le_refl _) fun b _ _ => ⟨_, g, Heap.get?_push_size _ rfl, #[], 0, [], ⟨rfl, rfl, rfl⟩, rfl, rfl, fun _ h => (nomatch h), .nil, rfl⟩
theorem pair1 {k v : Expr} {ks : List (Option Expr)} {vs : List Expr} {pos : Pos} {Q : List (Value × Value) → Shared → Prop}
    (h : wpAny (model prog w) A (eval k env) (fun kv s₁ => wpAny (model prog w) A (eval v env) (fun vv s₂ => wpAny (model prog w) A (evalPairs (pairTrees ks vs env pos)) (fun l s₃ => Q ((kv, vv) :: l) s₃) E s₂) E s₁) E s) :
    wpAny (model prog w) A (evalPairs (pairTrees (some k :: ks) (v :: vs) env pos)) Q E s := by
  unfold pairTrees
  refine evalPairs_cons (wpAny_mono h (fun kv s₁ h₁ => ?_) fun _ _ e => e)
  exact wpAny_bind (wpAny_mono h₁ (fun vv s₂ h₂ => wpAny_bind (wpAny_standAt (wpAny_pure h₂))) fun _ _ e => e)
theorem pair0 {pos : Pos} {Q : List (Value × Value) → Shared → Prop} (h : Q [] s) : wpAny (model prog w) A (evalPairs (pairTrees [] [] env pos)) Q E s := evalPairs_nil h
theorem stor1 {d : Addr} {k v : Value} {vs : List (Value × Value)} {Q : PUnit → Shared → Prop} (h : wpAny (model prog w) A (dictSet d k v) (fun _ s₁ => wpAny (model prog w) A (storeAll d vs) Q E s₁) E s) :
    wpAny (model prog w) A (storeAll d ((k, v) :: vs)) Q E s := by
  unfold storeAll
  rw [List.forIn_cons]
  exact wpAny_bind (wpAny_bind (wpAny_mono h (fun _ s₁ h₁ => wpAny_pure h₁) fun _ _ e => e))
theorem stor0 {d : Addr} {Q : PUnit → Shared → Prop} (h : Q PUnit.unit s) : wpAny (model prog w) A (storeAll d []) Q E s := by
  unfold storeAll
  exact wpAny_pure h
end
end Mine
end
section
set_option maxRecDepth 100000
namespace Mine
open PySem PySem.W PyProof.Rows PySem.Calls

noncomputable def bitsCap : Nat := 2 ^ 26
noncomputable abbrev Sm (q : Rat) : Prop := Builtin.Int.intBits q.num ≤ bitsCap ∧ Builtin.Int.intBits (q.den : Int) ≤ bitsCap
noncomputable abbrev PowOk (x : Rat) (n : Int) : Prop := (Builtin.Int.intBits x.num : Int) * n ≤ 2 ^ 27 ∧ (Builtin.Int.intBits (x.den : Int) : Int) * n ≤ 2 ^ 27

/-! ### a dict that stays as it is while a frame runs -/
noncomputable def Pinned (prog : Program) (w : World) (s₀ : Shared) (DD : List Addr) (b₀ : Heap) (d : Addr) (es : Array DictEntry) (ep : Nat) (p : Poly) : Prop :=
  d ∉ DD ∧ (d == sysModules) = false ∧ ∃ o xs, s₀.heap.get? d = some o ∧ o.ExactDict ∧ o.data = .dict es ep ∧ es.toList = xs.map (entryOfKey (tk prog w)) ∧ (∀ x ∈ xs, (tk prog w).is b₀ x.1 x.2.1) ∧ (xs.map (·.1)).Nodup ∧ Ents b₀ xs p

section
variable {prog : Program} {w : World} {s₀ s : Shared} {DD : List Addr} {b₀ : Heap} {env : Env} {cw : Bool} {m cm : Str → Option Value} {P : List As} {O : List Ow}
variable {A : Around} {E : Value → Shared → Prop} {d : Addr} {es : Array DictEntry} {ep : Nat} {p : Poly}

theorem DictAt.pin {v : Value} (x : DictAt prog w b₀ s₀.heap v p) (hn : ∀ d, v = .ref d → d ∉ DD) : ∃ d es ep, v = .ref d ∧ Pinned prog w s₀ DD b₀ d es ep p := by
  obtain ⟨d, o, rfl, g, ho, es, ep, xs, r⟩ := x
  exact ⟨d, es, ep, rfl, hn d rfl, g, o, xs, ho, r⟩
theorem Pinned.rd (x : Pinned prog w s₀ DD b₀ d es ep p) : Rd prog w s₀ DD b₀ P O (.ref d) p := by
  obtain ⟨hn, g, o, xs, ho, r⟩ := x
  refine .base ⟨d, o, rfl, g, ho, es, ep, xs, r⟩ fun d' e => by cases e; exact hn
theorem Pinned.nodup (x : Pinned prog w s₀ DD b₀ d es ep p) : (p.map (·.1)).Nodup := by
  obtain ⟨_, _, o, xs, _, _, _, _, _, hn, he⟩ := x
  exact he.nodup hn
theorem Pinned.size (x : Pinned prog w s₀ DD b₀ d es ep p) : es.size = p.length := by
  obtain ⟨_, _, o, xs, _, _, _, hes, _, _, he⟩ := x
  rw [size_of_entries hes, he.length]
theorem Pinned.now (x : Pinned prog w s₀ DD b₀ d es ep p) {b : Heap} (B : StB prog w s₀ DD b₀ env cw m cm P O s b) : ∃ o, s.heap.get? d = some o ∧ o.ExactDict ∧ o.data = .dict es ep := by
  obtain ⟨hn, _, o, xs, ho, h1, h2, _⟩ := x
  exact ⟨o, B.frame _ _ hn ho, h1, h2⟩
theorem Pinned.inner (x : Pinned prog w s₀ DD b₀ d es ep p) {X : List Ow} {b : Heap} (S : St prog w s₀ DD b₀ env cw m cm P O s) (hk : Keep b₀ b) (hX : ∀ y ∈ X, y.a ≠ d) : Pinned prog w s (X.map Ow.a) b d es ep p := by
  obtain ⟨b', B⟩ := S
  obtain ⟨hn, g, o, xs, ho, h1, h2, h3, h4, h5, h6⟩ := x
  refine ⟨fun hm => ?_, g, o, xs, B.frame _ _ hn ho, h1, h2, h3, fun y hy => tupKey_keep hk (h4 y hy), h5, h6.keep hk⟩
  obtain ⟨y, hy, e⟩ := List.mem_map.mp hm
  exact hX y hy e

theorem Ents.at {b : Heap} : ∀ {xs : List (List Int × Addr × Value)} {p : Poly} {i : Nat} {e : Mono × Rat}, Ents b xs p → p[i]? = Option.some e → ∃ x, xs[i]? = Option.some x ∧ Is b (dM e.1) (.ref x.2.1)
  | [], _, _, _, x, h => by cases x; simp at h
  | x :: xs, _, 0, e, ⟨y, q, h1, _, h2, _, _⟩, h => by
    subst h1
    simp only [List.getElem?_cons_zero, Option.some.injEq] at h
    subst h
    exact ⟨x, rfl, h2⟩
  | x :: xs, _, i + 1, e, ⟨y, q, h1, _, _, _, h2⟩, h => by
    subst h1
    simp only [List.getElem?_cons_succ] at h
    obtain ⟨x', h3, h4⟩ := Ents.at h2 h
    exact ⟨x', by simpa using h3, h4⟩

theorem ihP {Q : Value → Shared → Prop} (S : St prog w s₀ DD b₀ env cw m cm P O s) (pn : Pinned prog w s₀ DD b₀ d es ep p)
    (h : ∀ I s', d ≠ I → St prog w s₀ DD b₀ env cw m cm P (idct I d 0 es.size ep :: O) s' → Keep s.heap s'.heap → Q (.ref I) s') : wpAny (model prog w) A (pyIter (.ref d)) Q E s := by
  obtain ⟨b, B⟩ := S
  obtain ⟨o, ho, hx, hd⟩ := pn.now B
  exact ih_dict ⟨b, B⟩ pn.2.1 ho hx hd h
theorem nxP {I : Addr} {i : Nat} {e : Mono × Rat} {Q : Option Value → Shared → Prop} (S : St prog w s₀ DD b₀ env cw m cm P (idct I d i es.size ep :: O) s) (pn : Pinned prog w s₀ DD b₀ d es ep p) (hx : p[i]? = some e)
    (h : ∀ v s', St prog w s₀ DD b₀ env cw m cm (As.is v (dM e.1) :: P) (idct I d (i + 1) es.size ep :: O) s' → Q (some v) s') : wpAny (model prog w) A (pyNext (.ref I)) Q E s := by
  have S0 := S
  obtain ⟨b, B⟩ := S
  obtain ⟨o, ho, hex, hd⟩ := pn.now B
  obtain ⟨_, _, _, xs, _, _, _, hes, _, _, he⟩ := pn
  obtain ⟨x, hx1, hx2⟩ := he.at hx
  have hx3 : es[i]? = some (entryOfKey (tk prog w) x) := by
    rw [← Array.getElem?_toList, hes, List.getElem?_map, hx1]; rfl
  refine nx_dict S0 ho hd hx3 fun s' S' => h _ s' ?_
  obtain ⟨b', B'⟩ := S'
  refine ⟨b', { B' with facts := fun q hq => ?_ }⟩
  rcases List.mem_cons.mp hq with rfl | hq
  · exact Is.keep B'.bb _ _ hx2
  · exact B'.facts q hq
theorem nxPE {I : Addr} {i : Nat} {Q : Option Value → Shared → Prop} (S : St prog w s₀ DD b₀ env cw m cm P (idct I d i es.size ep :: O) s) (hh : A.handled = none) (pn : Pinned prog w s₀ DD b₀ d es ep p) (hi : i = p.length)
    (h : ∀ s', St prog w s₀ DD b₀ env cw m cm P O s' → Q none s') : wpAny (model prog w) A (pyNext (.ref I)) Q E s := by
  have S0 := S
  obtain ⟨b, B⟩ := S
  obtain ⟨o, ho, hex, hd⟩ := pn.now B
  rw [hi, ← pn.size] at S0
  exact nx_dictE S0 hh ho hd h

theorem plook_at : ∀ {p : Poly} {i : Nat} {e : Mono × Rat}, (p.map (·.1)).Nodup → p[i]? = some e → plook p e.1 = some e.2
  | [], _, _, _, h => by simp at h
  | x :: p, 0, e, _, h => by
    simp only [List.getElem?_cons_zero, Option.some.injEq] at h
    subst h
    simp [plook]
  | x :: p, i + 1, e, hn, h => by
    rw [List.map_cons, List.nodup_cons] at hn
    simp only [List.getElem?_cons_succ] at h
    have hne : x.1 ≠ e.1 := fun hx => hn.1 (hx ▸ List.mem_map.mpr ⟨e, List.mem_of_getElem? h, rfl⟩)
    unfold plook
    rw [if_neg hne]
    exact plook_at hn.2 h

/-! what is handed back is owned; a fact is made of it -/
theorem St.frz {O' : List Ow} (S : St prog w s₀ DD b₀ env cw m cm P (Ow.dict d p :: O') s) (hd : s₀.heap.objs.size ≤ d) : St prog w s₀ DD b₀ env cw m cm (As.poly (.ref d) p :: P) O' s := by
  have hne : ∀ y ∈ O', y.a ≠ d := by
    obtain ⟨b, B⟩ := S
    exact fun y hy e => (List.pairwise_cons.mp B.oap).1 y hy e.symm
  refine S.freeze (F := [As.poly (.ref d) p]) (x := Ow.dict d p) List.mem_cons_self (List.sublist_cons_self _ _) hne hd fun b' _ hx q hq => ?_
  obtain rfl := List.mem_singleton.mp hq
  obtain ⟨o, g, ho, hp⟩ := hx
  exact ⟨d, o, rfl, g, ho, hp⟩
/-- the end of a frame that hands back an owned dict -/
theorem St.endO {f : Flow} (S : St prog w s₀ DD b₀ env cw m cm P O s) (hf : retOf f = .ref d) (hm : Ow.dict d p ∈ O) : Comes prog w s₀ DD b₀ (ROwn p) f s :=
  S.comes (F := []) (N := [Ow.dict d p]) ⟨d, hf, rfl, rfl⟩ (fun _ _ _ h => (nomatch h)) (List.singleton_sublist.mpr hm)

theorem noDD {v : Value} : ∀ d, v = .ref d → d ∉ ([] : List Addr) := fun _ _ h => nomatch h
end
end Mine
end
section
set_option maxRecDepth 100000
namespace Mine
open PySem PySem.W PyProof.Rows PySem.Calls

section
variable {prog : Program} {w : World} {s₀ s : Shared} {DD : List Addr} {b₀ : Heap} {env : Env} {cw : Bool} {m cm : Str → Option Value} {P : List As} {O : List Ow}
variable {A : Around} {E : Value → Shared → Prop}

/-! methods -/
theorem mMeth {o e : Expr} {args : List Expr} {name : Str} {T id : String} {apos pos : Pos} {pl : Sem Bool} {Q : Value → Shared → Prop} (pa : PlainAttrs T) (slot : Slot T name id) (hty : typeOf (.builtin id) = pure (.type "method_descriptor"))
    (hE : eval (.Call (.Attribute o name apos) (e :: args) [] pos) env = (do
      let ov ← eval o env
      standAt apos.atName
      let (f, first) ← holding [ov] (getMethod ov name pl)
      callWith pos f first (backTo pos (starEach (e :: args) env)) []))
    (he : starEach (e :: args) env = (false, eval e env) :: starEach args env) (hpl : (backTo pos (starEach args env)).any (·.1) = false)
    (h : wpAny (model prog w) A (eval o env) (fun ov s₁ => ∃ d ob, ov = .ref d ∧ s₁.heap.get? d = some ob ∧ ob.cls = .type T ∧ ob.dict = none ∧
      wpAny (model prog w) A (spliced (backTo pos (starEach (e :: args) env))) (fun vs s₂ => wpAny (model prog w) A (call (.builtin id) (.ref d :: vs)) Q E s₂) E s₁) E s) :
    wpAny (model prog w) A (eval (.Call (.Attribute o name apos) (e :: args) [] pos) env) Q E s := by
  refine MethodCall_ (pl := pl) (wpAny_mono h (fun ov s₁ h₁ => ?_) fun _ _ x => x) hE
  obtain ⟨d, ob, rfl, ho, hc, hd, h₂⟩ := h₁
  refine getMethod_builtin ⟨ob, ho, hc⟩ pa slot hty (fun a e => by cases e; exact ⟨ob, ho, hd⟩) ?_
  exact callWith_method1 h₂ he hpl
theorem mtDict {d : Addr} {p : Poly} {R : Addr → Prop} (S : St prog w s₀ DD b₀ env cw m cm P O s) (hx : Ow.dict d p ∈ O) (h : R d) :
    ∃ d' ob, Value.ref d = .ref d' ∧ s.heap.get? d' = some ob ∧ ob.cls = .type "dict" ∧ ob.dict = none ∧ R d' := by
  obtain ⟨b, B⟩ := S
  obtain ⟨o, g, ho, es, ep, xs, hex, _⟩ := (B.own _ hx).1
  exact ⟨d, o, rfl, ho, hex.1, hex.2.1, h⟩
theorem mtList {d : Addr} {vs : List Value} {R : Addr → Prop} (S : St prog w s₀ DD b₀ env cw m cm P O s) (hx : Ow.list d vs ∈ O) (h : R d) :
    ∃ d' ob, Value.ref d = .ref d' ∧ s.heap.get? d' = some ob ∧ ob.cls = .type "list" ∧ ob.dict = none ∧ R d' := by
  obtain ⟨b, B⟩ := S
  obtain ⟨n, ho⟩ := (B.own _ hx).1
  exact ⟨d, _, rfl, ho, rfl, rfl, h⟩
end

theorem rat_dec (x y : Rat) : decide ([x.num, (x.den : Int)] = [y.num, (y.den : Int)]) = decide (x = y) := by
  by_cases h : x = y
  · subst h; simp
  · rw [decide_eq_false h, decide_eq_false]
    intro e
    simp only [List.cons.injEq, and_true] at e
    exact h (Rat.ext e.1 (by exact_mod_cast e.2))
section
variable {prog : Program} {w : World} {s₀ s : Shared} {DD : List Addr} {b₀ : Heap} {env : Env} {cw : Bool} {m cm : Str → Option Value} {P : List As} {O : List Ow}
variable {A : Around} {E : Value → Shared → Prop}
theorem tEqR {v u : Value} {x y : Rat} {Q : Value → Shared → Prop} (S : St prog w s₀ DD b₀ env cw m cm P O s) (hu : A.units + 1 < cLine) (h1 : As.is v (dR x) ∈ P) (h2 : As.is u (dR y) ∈ P) (h : Q (.bool (decide (x = y))) s) :
    wpAny (model prog w) A (compareOp .Eq v u) Q E s := by
  rw [← rat_dec] at h
  exact tEq (l := [x.num, (x.den : Int)]) (r := [y.num, (y.den : Int)]) S hu h1 h2 h
theorem Room.u {n : Nat} (r : Room A n) : A.units + 1 < cLine := by have := r.units; lia
end

/-! ### what the text computes -/
noncomputable def dsz (p : Poly) : Bool := decide (p.length ≤ 1000000)
noncomputable def put (p : Poly) (q : Mono) (t : Rat) : Poly := if t = 0 then pdel p q else pset p q t
noncomputable def addT? (p : Poly) (q : Mono) (c : Rat) : Option Poly :=
  if p.length ≤ 1000000 then
    match plook p q with
    | some x => if Sm x ∧ Sm c then some (put p q (x + c)) else none
    | none => some (put p q c)
  else none
noncomputable def mvterm (q : Mono) (c : Rat) : Poly := if c = 0 then [] else [(q, c)]
noncomputable def foldAdd? : Poly → Poly → Option Poly
  | f, [] => some f
  | f, e :: r => (addT? f e.1 e.2).bind fun f' => foldAdd? f' r
noncomputable def mvadd? (a b : Poly) : Option Poly := if boxed a = true ∧ a.length ≤ 1000000 then foldAdd? a b else none
noncomputable def mvneg (a : Poly) : Poly := a.map fun e => (e.1, -e.2)
noncomputable def mvsub? (a b : Poly) : Option Poly := if b.length ≤ 1000000 then mvadd? a (mvneg b) else none
noncomputable def allSm (a : Poly) : Bool := a.all fun e => decide (Sm e.2)
noncomputable def mvscale? (a : Poly) (r : Rat) : Option Poly := if r = 0 then some [] else if Sm r ∧ allSm a = true ∧ a.length ≤ 1000000 then some (a.map fun e => (e.1, e.2 * r)) else none
noncomputable def mprod (x y : Mono) : Mono := (x.1 + y.1, x.2 + y.2)
noncomputable def mquot (x y : Mono) : Mono := (x.1 - y.1, x.2 - y.2)
noncomputable def mjoin (x y : Mono) : Mono := (max x.1 y.1, max x.2 y.2)
noncomputable def mdiv (x y : Mono) : Bool := decide (x.1 ≤ y.1) && decide (x.2 ≤ y.2)
noncomputable def mapart (x y : Mono) : Bool := min x.1 y.1 + min x.2 y.2 == 0
noncomputable def mvshift? (a : Poly) (m : Mono) (r : Rat) : Option Poly := if r = 0 then some [] else if Sm r ∧ allSm a = true ∧ a.length ≤ 1000000 then some (a.map fun e => (mprod e.1 m, e.2 * r)) else none
noncomputable def mulIn? (m : Mono) (c : Rat) : Poly → Poly → Option Poly
  | f, [] => some f
  | f, e :: r => if Sm e.2 ∧ Sm c then (addT? f (mprod e.1 m) (e.2 * c)).bind fun f' => mulIn? m c f' r else none
noncomputable def mulOut? (a : Poly) : Poly → Poly → Option Poly
  | f, [] => some f
  | f, e :: r => (mulIn? e.1 e.2 f a).bind fun f' => mulOut? a f' r
noncomputable def mvmul? (a b : Poly) : Option Poly := mulOut? a [] b
end Mine
end
section
set_option maxRecDepth 100000
namespace Mine
open PySem PySem.W PyProof.Rows PySem.Calls

noncomputable def ListAt (h : Heap) (v : Value) (vs : List Value) : Prop := ∃ l, v = .ref l ∧ h.PlainList l vs.toArray
/-- a list that can be read -/
inductive Ld (s₀ : Shared) (DD : List Addr) (P : List As) (O : List Ow) : Value → List Value → Prop where
  | fact {v vs} : As.lst v vs ∈ P → Ld s₀ DD P O v vs
  | own {l vs} : Ow.list l vs ∈ O → Ld s₀ DD P O (.ref l) vs
  | base {v vs} : ListAt s₀.heap v vs → (∀ l, v = .ref l → l ∉ DD) → Ld s₀ DD P O v vs

section
variable {prog : Program} {w : World} {s₀ s : Shared} {DD : List Addr} {b₀ : Heap} {env : Env} {cw : Bool} {m cm : Str → Option Value} {P : List As} {O : List Ow}
variable {A : Around} {E : Value → Shared → Prop}

theorem Ld.at {v : Value} {vs : List Value} (r : Ld s₀ DD P O v vs) {b : Heap} (B : StB prog w s₀ DD b₀ env cw m cm P O s b) : ListAt s.heap v vs := by
  cases r with
  | fact h => obtain ⟨l, e, n, ho⟩ := B.facts _ h; exact ⟨l, e, n, B.bs _ _ ho⟩
  | own h => obtain ⟨n, ho⟩ := (B.own _ h).1; exact ⟨_, rfl, n, ho⟩
  | base h hn => obtain ⟨l, e, n, ho⟩ := h; exact ⟨l, e, n, B.frame _ _ (hn l e) ho⟩
theorem Ld.now {v : Value} {vs : List Value} (r : Ld s₀ DD P O v vs) (S : St prog w s₀ DD b₀ env cw m cm P O s) : ListAt s.heap v vs := let ⟨_, B⟩ := S; r.at B
theorem Ld.isL {l : Addr} {vs : List Value} (r : Ld s₀ DD P O (.ref l) vs) (S : St prog w s₀ DD b₀ env cw m cm P O s) : s.heap.IsList l vs.toArray := by
  obtain ⟨l', e, h⟩ := r.now S
  cases e
  exact h.isList
theorem Ld.ref {v : Value} {vs : List Value} (r : Ld s₀ DD P O v vs) (S : St prog w s₀ DD b₀ env cw m cm P O s) : ∃ l, v = .ref l := let ⟨l, e, _⟩ := r.now S; ⟨l, e⟩

theorem lSub {value slice : Expr} {v x : Value} {vs : List Value} {k : Int} {u : Tok} {Q : Value → Shared → Prop} (S : St prog w s₀ DD b₀ env cw m cm P O s) (hl : Ld s₀ DD P O v vs)
    (h0 : 0 ≤ k) (hk : k < 2 ^ 63) (hx : vs[k.toNat]? = some x)
    (hs : ∀ t, subscripted slice false (.ref t) (.int k u) = operate [.ref t, .int k u] (getItem (.ref t) (.int k u)))
    (h : Q x s) : wpAny (model prog w) A (subscriptTail value slice v (.int k u)) Q E s := by
  obtain ⟨l, rfl, hp⟩ := hl.now S
  exact tail_any hp.isList.typeIs slot_list_getitem.lookup (wpAny_getItem_list hp.isList h0 hk (by simpa using hx) h) (hs l)
theorem lLenL {v : Value} {vs : List Value} {Q : Value → Shared → Prop} (S : St prog w s₀ DD b₀ env cw m cm P O s) (hl : Ld s₀ DD P O v vs) (hz : vs.length ≤ 1000000)
    (h : ∀ t s', St prog w s₀ DD b₀ env cw m cm P O s' → Q (.int vs.length t) s') : wpAny (model prog w) A (call (.builtin "len") [v]) Q E s := by
  obtain ⟨l, rfl, hp⟩ := hl.now S
  exact lLen S hp.isList (by simpa using hz) (by simpa using h)

/-- powers, opened -/
theorem St.mono {v : Value} {q : Mono} (S : St prog w s₀ DD b₀ env cw m cm P O s) (hv : As.is v (dM q) ∈ P) :
    ∃ la ta ua, v = .ref la ∧ St prog w s₀ DD b₀ env cw m cm (As.tv (.ref la) [.int q.1 ta, .int q.2 ua] :: P) O s := by
  obtain ⟨b, B⟩ := S
  obtain ⟨la, ta, ua, rfl, ht⟩ := Is.mono2 (show Is b (dM q) v from B.facts _ hv)
  refine ⟨la, ta, ua, rfl, b, { B with facts := fun p hp => ?_ }⟩
  rcases List.mem_cons.mp hp with rfl | hp
  · exact ⟨la, rfl, ht⟩
  · exact B.facts p hp
theorem St.issAt {vs : List Value} {ds : List D} {j : Nat} {d : D} (S : St prog w s₀ DD b₀ env cw m cm P O s) (hv : As.iss vs ds ∈ P) (hd : ds[j]? = some d) :
    ∃ v, vs[j]? = some v ∧ St prog w s₀ DD b₀ env cw m cm (As.is v d :: P) O s := by
  obtain ⟨b, B⟩ := S
  obtain ⟨v, h1, h2⟩ := (show IsL b ds vs from B.facts _ hv).get hd
  refine ⟨v, h1, b, { B with facts := fun p hp => ?_ }⟩
  rcases List.mem_cons.mp hp with rfl | hp
  · exact h2
  · exact B.facts p hp
theorem St.issLen {vs : List Value} {ds : List D} (S : St prog w s₀ DD b₀ env cw m cm P O s) (hv : As.iss vs ds ∈ P) : vs.length = ds.length := by
  obtain ⟨b, B⟩ := S
  exact (show IsL b ds vs from B.facts _ hv).length
theorem Polys.get {h : Heap} : ∀ {vs : List Value} {ps : List Poly} {j : Nat} {p : Poly}, Polys prog w h vs ps → ps[j]? = some p → ∃ v, vs[j]? = some v ∧ (As.poly v p).on prog w h
  | [], _, j, p, x, e => by cases x; simp at e
  | v :: vs, ps, j, p, ⟨p0, q, e1, h1, h2⟩, e => by
    subst e1
    cases j with
    | zero => simp at e; subst e; exact ⟨v, rfl, h1⟩
    | succ j => simpa using h2.get (by simpa using e)
theorem Polys.length {h : Heap} : ∀ {vs : List Value} {ps : List Poly}, Polys prog w h vs ps → vs.length = ps.length
  | [], _, x => by cases x; rfl
  | v :: vs, ps, ⟨p0, q, e1, h1, h2⟩ => by subst e1; simp [h2.length]
theorem St.polyAt {vs : List Value} {ps : List Poly} {j : Nat} {p : Poly} (S : St prog w s₀ DD b₀ env cw m cm P O s) (hv : As.polys vs ps ∈ P) (hd : ps[j]? = some p) :
    ∃ v, vs[j]? = some v ∧ St prog w s₀ DD b₀ env cw m cm (As.poly v p :: P) O s := by
  obtain ⟨b, B⟩ := S
  obtain ⟨v, h1, h2⟩ := (show Polys prog w b vs ps from B.facts _ hv).get hd
  refine ⟨v, h1, b, { B with facts := fun p hp => ?_ }⟩
  rcases List.mem_cons.mp hp with rfl | hp
  · exact h2
  · exact B.facts p hp
theorem St.polysLen {vs : List Value} {ps : List Poly} (S : St prog w s₀ DD b₀ env cw m cm P O s) (hv : As.polys vs ps ∈ P) : vs.length = ps.length := by
  obtain ⟨b, B⟩ := S
  exact (show Polys prog w b vs ps from B.facts _ hv).length

/-! lists of facts -/
theorem isL_append1 {h : Heap} {ds : List D} {vs : List Value} {v : Value} {d : D} (h1 : IsL h ds vs) (h2 : Is h d v) : IsL h (ds ++ [d]) (vs ++ [v]) :=
  h1.append (by unfold IsL; exact ⟨_, _, rfl, h2, by unfold IsL; rfl⟩)
theorem Polys.append {h : Heap} : ∀ {vs ws : List Value} {ps qs : List Poly}, Polys prog w h vs ps → Polys prog w h ws qs → Polys prog w h (vs ++ ws) (ps ++ qs)
  | [], _, _, _, x, y => by cases x; exact y
  | v :: vs, ws, _, qs, ⟨p0, q, e1, h1, h2⟩, y => by subst e1; exact ⟨p0, q ++ qs, rfl, h1, h2.append y⟩
theorem St.issApp {vs : List Value} {ds : List D} {v : Value} {d : D} (S : St prog w s₀ DD b₀ env cw m cm P O s) (hv : As.iss vs ds ∈ P) (hd : As.is v d ∈ P) :
    St prog w s₀ DD b₀ env cw m cm (As.iss (vs ++ [v]) (ds ++ [d]) :: P) O s := by
  obtain ⟨b, B⟩ := S
  refine ⟨b, { B with facts := fun p hp => ?_ }⟩
  rcases List.mem_cons.mp hp with rfl | hp
  · exact isL_append1 (B.facts _ hv) (B.facts _ hd)
  · exact B.facts p hp
theorem St.polysApp {vs ws : List Value} {ps qs : List Poly} (S : St prog w s₀ DD b₀ env cw m cm P O s) (hv : As.polys vs ps ∈ P) (hd : As.polys ws qs ∈ P) :
    St prog w s₀ DD b₀ env cw m cm (As.polys (vs ++ ws) (ps ++ qs) :: P) O s := by
  obtain ⟨b, B⟩ := S
  refine ⟨b, { B with facts := fun p hp => ?_ }⟩
  rcases List.mem_cons.mp hp with rfl | hp
  · exact Polys.append (B.facts _ hv) (B.facts _ hd)
  · exact B.facts p hp
theorem St.polys1 {v : Value} {p : Poly} (S : St prog w s₀ DD b₀ env cw m cm P O s) (hv : As.poly v p ∈ P) :
    St prog w s₀ DD b₀ env cw m cm (As.polys [v] [p] :: P) O s := by
  obtain ⟨b, B⟩ := S
  refine ⟨b, { B with facts := fun q hp => ?_ }⟩
  rcases List.mem_cons.mp hp with rfl | hp
  · exact ⟨p, [], rfl, B.facts _ hv, rfl⟩
  · exact B.facts _ hp
theorem St.iss0 (S : St prog w s₀ DD b₀ env cw m cm P O s) : St prog w s₀ DD b₀ env cw m cm (As.iss [] [] :: P) O s := by
  obtain ⟨b, B⟩ := S
  refine ⟨b, { B with facts := fun q hp => ?_ }⟩
  rcases List.mem_cons.mp hp with rfl | hp
  · show IsL b [] []
    unfold IsL; rfl
  · exact B.facts _ hp
theorem St.polys0 (S : St prog w s₀ DD b₀ env cw m cm P O s) : St prog w s₀ DD b₀ env cw m cm (As.polys [] [] :: P) O s := by
  obtain ⟨b, B⟩ := S
  refine ⟨b, { B with facts := fun q hp => ?_ }⟩
  rcases List.mem_cons.mp hp with rfl | hp
  · exact rfl
  · exact B.facts _ hp
end

/-! ### leads, values at a point -/
noncomputable def leadGo (o : Ord) : Option Mono → Poly → Option Mono
  | b, [] => b
  | none, e :: r => leadGo o (some e.1) r
  | some x, e :: r => leadGo o (if lexI .Gt (okey o e.1) (okey o x) = true then some e.1 else some x) r
noncomputable def mlead (o : Ord) (p : Poly) : Option (Mono × Rat) := (leadGo o none p).bind fun m => (plook p m).map fun c => (m, c)
noncomputable def dT (t : Mono × Rat) : D := .tup [dM t.1, dR t.2]
noncomputable def dLead : Option (Mono × Rat) → D
  | none => .none
  | some t => dT t
noncomputable def mvmonic? (o : Ord) (p : Poly) : Option Poly := match mlead o p with
  | none => some []
  | some t => if t.2 = 0 then none else mvscale? p t.2⁻¹
noncomputable def termAt? (x y : Rat) (m : Mono) (c : Rat) : Option Rat :=
  if 0 ≤ m.1 ∧ PowOk x m.1 ∧ Sm c ∧ Sm (x ^ m.1.toNat) ∧ 0 ≤ m.2 ∧ PowOk y m.2 ∧ Sm (c * x ^ m.1.toNat) ∧ Sm (y ^ m.2.toNat) then some (c * x ^ m.1.toNat * y ^ m.2.toNat) else none
noncomputable def sumAt? (x y : Rat) : Rat → Poly → Option Rat
  | f, [] => some f
  | f, e :: r => (termAt? x y e.1 e.2).bind fun t => if Sm f ∧ Sm t then sumAt? x y (f + t) r else none
noncomputable def mvat? (x y : Rat) (p : Poly) : Option Rat := sumAt? x y 0 p
end Mine
end
section
set_option maxRecDepth 100000
namespace Mine
open PySem PySem.W PyProof.Rows PySem.Calls PySem.SeqAt

section
variable {prog : Program} {w : World} {s₀ s : Shared} {DD : List Addr} {b₀ : Heap} {env : Env} {cw : Bool} {m cm : Str → Option Value} {P : List As} {O : List Ow}
variable {A : Around} {E : Value → Shared → Prop}

theorem ints2_ne {v u : Value} {x y : Mono} {Q : Value → Shared → Prop} (hu : A.units + 1 < cLine) (h1 : Is s.heap (dM x) v) (h2 : Is s.heap (dM y) u)
    (h : Q (.bool (!decide (x = y))) s) : wpAny (model prog w) A (compareOp .NotEq v u) Q E s := by
  obtain ⟨a, t1, t2, rfl, ha⟩ := Is.mono2 h1
  obtain ⟨c, t3, t4, rfl, hc⟩ := Is.mono2 h2
  refine RcNeAt.tuples (e := fun j => if j = 0 then x.1 == y.1 else x.2 == y.2) ha hc (by lia) (fun j g1 g2 => ?_) prog w E Q ?_
  · match j, g1, g2 with
    | 0, _, _ => exact EqAt.int_int _ _ _ _
    | 1, _, _ => exact EqAt.int_int _ _ _ _
    | j + 2, g1, _ => exact absurd g1 (by simp)
  · have e : (!((List.range (min (#[Value.int x.1 t1, Value.int x.2 t2]).size (#[Value.int y.1 t3, Value.int y.2 t4]).size)).all (fun j => if j = 0 then x.1 == y.1 else x.2 == y.2) && (#[Value.int x.1 t1, Value.int x.2 t2]).size == (#[Value.int y.1 t3, Value.int y.2 t4]).size)) = !decide (x = y) := by
      show (!((x.1 == y.1 && (x.2 == y.2 && true)) && true)) = _
      obtain ⟨x1, x2⟩ := x
      obtain ⟨y1, y2⟩ := y
      congr 1
      rw [Bool.eq_iff_iff]
      simp
    rw [e]
    exact h
theorem tNeM {v u : Value} {x y : Mono} {Q : Value → Shared → Prop} (S : St prog w s₀ DD b₀ env cw m cm P O s) (hu : A.units + 1 < cLine) (h1 : As.is v (dM x) ∈ P) (h2 : As.is u (dM y) ∈ P)
    (h : Q (.bool (!decide (x = y))) s) : wpAny (model prog w) A (compareOp .NotEq v u) Q E s := ints2_ne hu (S.has h1) (S.has h2) h
theorem tNeR' {v u : Value} {x y : Rat} {Q : Value → Shared → Prop} (S : St prog w s₀ DD b₀ env cw m cm P O s) (hu : A.units + 1 < cLine) (h1 : As.is v (dR x) ∈ P) (h2 : As.is u (dR y) ∈ P)
    (h : Q (.bool (!decide (x = y))) s) : wpAny (model prog w) A (compareOp .NotEq v u) Q E s := by
  refine ints2_ne (x := (x.num, (x.den : Int))) (y := (y.num, (y.den : Int))) hu (S.has h1) (S.has h2) ?_
  have e : decide ((x.num, (x.den : Int)) = (y.num, (y.den : Int))) = decide (x = y) := by
    rw [← rat_dec]
    rw [decide_eq_decide]
    simp
  rw [e]; exact h

/-! a dict and the empty one -/
theorem same0 {id : String} {a c : Addr} {oa oc : Obj} {es es2 : Array DictEntry} {ep ep2 : Nat} {Q : Bool → Shared → Prop} (ha : (a == sysModules) = false) (hc : (c == sysModules) = false)
    (hoa : s.heap.get? a = some oa) (hda : oa.data = .dict es ep) (hoc : s.heap.get? c = some oc) (hdc : oc.data = .dict es2 ep2) (h0 : es2.size = 0)
    (h : Q (es.size == 0) s) : wpAny (model prog w) A (Builtin.Dict.samePairs id a c) Q E s := by
  unfold Builtin.Dict.samePairs Builtin.Dict.showsAll
  rw [if_neg (show ¬ (a == sysModules) = true by rw [ha]; exact Bool.false_ne_true), if_neg (show ¬ (c == sysModules) = true by rw [hc]; exact Bool.false_ne_true)]
  refine wpAny_bind (wpAny_pure (wpAny_bind (wpAny_pure ?_)))
  refine wpAny_bind (wpAny_dictEntries hoa hda ?_)
  dsimp only
  refine wpAny_bind (wpAny_dictEntries hoc hdc ?_)
  by_cases hsz : es.size = es2.size
  case neg =>
    rw [if_pos (by simpa using hsz)]
    have hbf : (es.size == 0) = false := by rw [h0] at hsz; simpa using hsz
    rw [hbf] at h
    exact wpAny_bind (wpAny_rule (wpAny_pure h))
  case pos =>
    have hz : es.size = 0 := by rw [hsz, h0]
    rw [hz] at h
    rw [if_neg (by rw [hsz]; simp)]
    refine wpAny_bind (wpAny_dictEpoch hoa hda ?_)
    refine wpAny_bind ?_
    rw [Std.Legacy.Range.forIn_eq_forIn_range']
    simp only [Std.Legacy.Range.size, Nat.sub_zero, Nat.add_sub_cancel, Nat.div_one, hz, List.range']
    rw [List.forIn_nil]
    exact wpAny_pure (wpAny_pure h)
theorem dEq0 {v u : Value} {p : Poly} {Q : Value → Shared → Prop} (S : St prog w s₀ DD b₀ env cw m cm P O s) (hu : A.units < cLine) (hd : Rd prog w s₀ DD b₀ P O v p) (hd2 : Rd prog w s₀ DD b₀ P O u [])
    (h : Q (.bool (p.length == 0)) s) : wpAny (model prog w) A (compareOp .Eq v u) Q E s := by
  obtain ⟨b, B⟩ := S
  obtain ⟨a, oa, rfl, ga, hoa, es, ep, xs, hx, hdat, hes, _, _, he⟩ := hd.at B
  obtain ⟨c, oc, rfl, gc, hoc, es2, ep2, xs2, hx2, hdat2, hes2, _, _, he2⟩ := hd2.at B
  have hT : s.TypeIs (.ref a) "dict" := ⟨oa, hoa, hx.1⟩
  have hT2 : s.TypeIs (.ref c) "dict" := ⟨oc, hoc, hx2.1⟩
  have hsz : es.size = p.length := by rw [size_of_entries hes, he.length]
  have hsz2 : es2.size = 0 := by rw [size_of_entries hes2, he2.length]; rfl
  refine wpAny_richCompare_same_room (op := .Eq) hT hT2 PySem.F.slot_dict_eq (wpAny_call_entry PySem.F.slot_dict_eq hT PySem.F.entry_dict_eq ?_ (PySem.F.args_dict_eq_2 _ _)) hu
  show wpAny _ _ (Builtin.Dict.dictSlotArgs "__eq__" ⟨[.ref a, .ref c], []⟩ >>= _) _ _ s
  refine wpAny_bind ?_
  unfold Builtin.Dict.dictSlotArgs
  refine wpAny_bind (wpAny_notOrdered_dict hT ?_)
  show wpAny _ _ (pure (Value.ref a, Value.ref c)) _ _ s
  refine wpAny_pure ?_
  refine wpAny_bind (wpAny_isInstance (T := "dict") hT2 PySem.F.sub_dict_dict ?_)
  simp only [Bool.not_true, Bool.false_eq_true, if_false]
  refine wpAny_bind (wpAny_pure (wpAny_bind (wpAny_pure ?_)))
  refine wpAny_bind (same0 ga gc hoa hdat hoc hdat2 hsz2 ?_)
  refine wpAny_pure ⟨_, rfl, ?_, ?_⟩
  · exact fun x => nomatch x
  · rw [hsz]; simpa using h
theorem dNe0 {v u : Value} {p : Poly} {Q : Value → Shared → Prop} (S : St prog w s₀ DD b₀ env cw m cm P O s) (hu : A.units < cLine) (hd : Rd prog w s₀ DD b₀ P O v p) (hd2 : Rd prog w s₀ DD b₀ P O u [])
    (h : Q (.bool (!(p.length == 0))) s) : wpAny (model prog w) A (compareOp .NotEq v u) Q E s := by
  obtain ⟨b, B⟩ := S
  obtain ⟨a, oa, rfl, ga, hoa, es, ep, xs, hx, hdat, hes, _, _, he⟩ := hd.at B
  obtain ⟨c, oc, rfl, gc, hoc, es2, ep2, xs2, hx2, hdat2, hes2, _, _, he2⟩ := hd2.at B
  have hT : s.TypeIs (.ref a) "dict" := ⟨oa, hoa, hx.1⟩
  have hT2 : s.TypeIs (.ref c) "dict" := ⟨oc, hoc, hx2.1⟩
  have hsz : es.size = p.length := by rw [size_of_entries hes, he.length]
  have hsz2 : es2.size = 0 := by rw [size_of_entries hes2, he2.length]; rfl
  refine wpAny_richCompare_same_room (op := .NotEq) hT hT2 PySem.F.slot_dict_ne (wpAny_call_entry PySem.F.slot_dict_ne hT PySem.F.entry_dict_ne ?_ (PySem.F.args_dict_ne_2 _ _)) hu
  show wpAny _ _ (Builtin.Dict.dictSlotArgs "__ne__" ⟨[.ref a, .ref c], []⟩ >>= _) _ _ s
  refine wpAny_bind ?_
  unfold Builtin.Dict.dictSlotArgs
  refine wpAny_bind (wpAny_notOrdered_dict hT ?_)
  show wpAny _ _ (pure (Value.ref a, Value.ref c)) _ _ s
  refine wpAny_pure ?_
  refine wpAny_bind (wpAny_isInstance (T := "dict") hT2 PySem.F.sub_dict_dict ?_)
  simp only [Bool.not_true, Bool.false_eq_true, if_false]
  refine wpAny_bind (wpAny_pure (wpAny_bind (wpAny_pure ?_)))
  refine wpAny_bind (same0 ga gc hoa hdat hoc hdat2 hsz2 ?_)
  refine wpAny_pure ⟨_, rfl, ?_, ?_⟩
  · exact fun x => nomatch x
  · rw [hsz]; simpa using h

/-! a list and the empty one -/
theorem lNe0 {v u : Value} {vs : List Value} {Q : Value → Shared → Prop} (S : St prog w s₀ DD b₀ env cw m cm P O s) (hu : A.units < cLine) (hl : Ld s₀ DD P O v vs) (hl2 : Ld s₀ DD P O u [])
    (h : Q (.bool (!(vs.length == 0))) s) : wpAny (model prog w) A (compareOp .NotEq v u) Q E s := by
  obtain ⟨a, rfl⟩ := hl.ref S
  obtain ⟨c, rfl⟩ := hl2.ref S
  have i1 := hl.isL S
  have i2 := hl2.isL S
  cases vs with
  | nil => exact RcNeAt.lists (e := fun _ => true) i1 i2 rfl hu (fun j g1 _ => by simp at g1) prog w E Q (by simpa using h)
  | cons x r => exact RcNeAt.lists_lengths i1 i2 (by simp) hu prog w E Q (by simpa using h)

/-! in -/
theorem inTup2 {v : Value} {k : Int} {t : Tok} {q : Mono} {Q : Value → Shared → Prop} (S : St prog w s₀ DD b₀ env cw m cm P O s) (hv : As.is v (dM q) ∈ P)
    (h : Q (.bool (q.1 == k || q.2 == k)) s) : wpAny (model prog w) A (compareOp .In (.int k t) v) Q E s := by
  obtain ⟨a, t1, t2, rfl, ha⟩ := Is.mono2 (show Is s.heap (dM q) v from S.has hv)
  refine in_tupleAt (fun y => match y with | .int i _ => i == k | _ => false) ha (fun y hy => ?_) ?_
  · have : y = .int q.1 t1 ∨ y = .int q.2 t2 := by simpa using hy
    rcases this with rfl | rfl <;> exact EqAt.int_int _ _ _ _
  · simpa using h

theorem isL_any {h : Heap} {x : Mono} {e : Value → Bool} (he : ∀ y m, Is h (dM m) y → e y = decide (m = x)) (ms : List Mono) : ∀ {vs : List Value}, IsL h (ms.map dM) vs → vs.any e = ms.contains x := by
  induction ms with
  | nil =>
    intro vs L
    rw [List.map_nil] at L
    unfold IsL at L
    subst L
    rfl
  | cons m ms ih =>
    intro vs L
    rw [List.map_cons] at L
    unfold IsL at L
    obtain ⟨v, r, rfl, h1, h2⟩ := L
    rw [List.any_cons, ih h2, he _ _ h1, List.contains_cons]
    have e : decide (m = x) = (x == m) := by
      by_cases hx : m = x
      · subst hx; rw [decide_eq_true rfl, beq_self_eq_true]
      · rw [decide_eq_false hx, beq_false_of_ne (fun e => hx e.symm)]
    rw [e]
theorem isL_mem {h : Heap} (ms : List Mono) {y : Value} : ∀ {vs : List Value}, IsL h (ms.map dM) vs → y ∈ vs → ∃ m, Is h (dM m) y := by
  induction ms with
  | nil =>
    intro vs L hy
    rw [List.map_nil] at L
    unfold IsL at L
    subst L
    exact nomatch hy
  | cons m ms ih =>
    intro vs L hy
    rw [List.map_cons] at L
    unfold IsL at L
    obtain ⟨v, r, rfl, h1, h2⟩ := L
    rcases List.mem_cons.mp hy with rfl | hy
    · exact ⟨m, h1⟩
    · exact ih h2 hy
theorem dM_inj {h : Heap} {x y : Mono} {v : Value} (h1 : Is h (dM x) v) (h2 : Is h (dM y) v) : x = y := by
  obtain ⟨a, t1, t2, rfl, o, ho, _, n, hd⟩ := Is.mono2 h1
  obtain ⟨c, t3, t4, e, o', ho', _, n', hd'⟩ := Is.mono2 h2
  cases e
  rw [ho] at ho'
  cases ho'
  rw [hd] at hd'
  simp only [Data.seq.injEq, Array.mk.injEq, List.cons.injEq, Value.int.injEq] at hd'
  exact Prod.ext hd'.1.1.1 hd'.1.2.1.1
theorem decM {x y : Mono} : decide ([x.1, x.2] = [y.1, y.2]) = decide (x = y) := by
  rw [decide_eq_decide]
  constructor
  · intro h; simp only [List.cons.injEq, and_true] at h; exact Prod.ext h.1 h.2
  · rintro rfl; rfl
open Classical in
theorem notInL {v u : Value} {x : Mono} {vs : List Value} {ms : List Mono} {Q : Value → Shared → Prop} (S : St prog w s₀ DD b₀ env cw m cm P O s) (hu : A.units + 1 < cLine) (hv : As.is v (dM x) ∈ P)
    (hl : Ld s₀ DD P O u vs) (hi : As.iss vs (ms.map dM) ∈ P) (h : Q (.bool (!ms.contains x)) s) : wpAny (model prog w) A (compareOp .NotIn v u) Q E s := by
  obtain ⟨l, rfl⟩ := hl.ref S
  have L : IsL s.heap (ms.map dM) vs := S.has hi
  have V : Is s.heap (dM x) v := S.has hv
  have he : ∀ y m, Is s.heap (dM m) y → (fun y => decide (Is s.heap (dM x) y)) y = decide (m = x) := fun y m hy => by
    rw [decide_eq_decide]
    exact ⟨fun h => dM_inj hy h, fun e => e ▸ hy⟩
  refine notIn_listAt (fun y => decide (Is s.heap (dM x) y)) (hl.isL S) (fun y hy => ?_) ?_
  · obtain ⟨m, hm⟩ := isL_mem ms L (show y ∈ vs by simpa using hy)
    have e1 : decide (Is s.heap (dM x) y) = decide ([m.1, m.2] = [x.1, x.2]) := (he y m hm).trans decM.symm
    rw [e1]
    exact eqAt_ints (l := [m.1, m.2]) (r := [x.1, x.2]) (by show A.units + 1 < cLine; exact hu) hm V
  · rw [← isL_any he ms L] at h
    simpa using h
end
end Mine
end
section
set_option maxRecDepth 100000
namespace Mine
open PySem PySem.W PyProof.Rows PySem.Calls

section
variable {prog : Program} {w : World} {s₀ s : Shared} {DD : List Addr} {b₀ : Heap} {env : Env} {cw : Bool} {m cm : Str → Option Value} {P : List As} {O : List Ow}
variable {A : Around} {E : Value → Shared → Prop}

/-- a comprehension's list is stored under a name -/
noncomputable def StoA (prog : Program) (w : World) (A : Around) (E : Value → Shared → Prop) (env : Env) (y : Str) (D : Addr) (s₀ : Shared) (DD : List Addr) (b₀ : Heap) (cw : Bool) (P : List As) (C' : Addr) (m' : Str → Option Value) (O' : List Ow) (K : Shared → Prop) (s : Shared) : Prop :=
  wpAny (model prog w) A (storeName env y (.ref D)) (fun _ s₅ => ∃ m₂ cm₂, St prog w s₀ DD b₀ env cw m₂ cm₂ P (nsO C' m' :: O') s₅ ∧ ∀ s', St prog w s₀ DD b₀ env cw m₂ cm₂ P O' s' → K s') E s
/-- the end of a comprehension that goes into a name -/
noncomputable def EndA (prog : Program) (w : World) (A : Around) (E : Value → Shared → Prop) (env : Env) (y : Str) (Q : Flow → Shared → Prop) (s₂ : Shared) (X : List Ow) (b : Heap) (ce : Env) (D : Addr) (s₀ : Shared) (DD : List Addr) (b₀ : Heap) (cw : Bool) (m cm : Str → Option Value) (P : List As) (O : List Ow) (r : Result) (s' : Shared) : Prop :=
  r = .ok .next ∧ ∃ ys F N m' P' cm' cw', St prog w s₂ (X.map Ow.a) b ce cw' m' cm' P' (Ow.list D ys :: N) s' ∧ (∀ b, (∀ p ∈ P', p.on prog w b) → ∀ p ∈ F, p.on prog w b) ∧
    (∀ C' m' s', St prog w s₀ DD b₀ env cw m cm (F ++ P) (nsO C' m' :: Ow.list D ys :: (N ++ O)) s' → StoA prog w A E env y D s₀ DD b₀ cw (F ++ P) C' m' (Ow.list D ys :: (N ++ O)) (Q .next) s')
theorem EndA.mk {env : Env} {y : Str} {Q : Flow → Shared → Prop} {s₂ : Shared} {X : List Ow} {b : Heap} {ce : Env} {D : Addr} {s₀ : Shared} {DD : List Addr} {b₀ : Heap} {cw cw' : Bool} {m cm m' cm' : Str → Option Value} {P P' : List As} {O : List Ow} {s' : Shared} (ys : List Value) (F : List As) (N : List Ow)
    (S : St prog w s₂ (X.map Ow.a) b ce cw' m' cm' P' (Ow.list D ys :: N) s') (hF : ∀ b, (∀ p ∈ P', p.on prog w b) → ∀ p ∈ F, p.on prog w b)
    (h : ∀ C' m' s', St prog w s₀ DD b₀ env cw m cm (F ++ P) (nsO C' m' :: Ow.list D ys :: (N ++ O)) s' → StoA prog w A E env y D s₀ DD b₀ cw (F ++ P) C' m' (Ow.list D ys :: (N ++ O)) (Q .next) s') :
    EndA prog w A E env y Q s₂ X b ce D s₀ DD b₀ cw m cm P O (.ok .next) s' := ⟨rfl, ys, F, N, m', P', cm', cw', S, hF, h⟩

theorem listCompAG {elt target iter : Expr} {ifs : List Expr} {more : List Comprehension} {scope : Scope} {cl : List (Str × Addr)} {y : Str} {py pos spos : Pos} {Q : Flow → Shared → Prop}
    (hsw : swapsWith (.ListComp elt (⟨target, iter, ifs, 0⟩ :: more) scope pos) (some (.Name y py)) spos.line env = pure true)
    (hclos : closureFor scope env = pure cl) (hcell : ∀ y ∈ scope.names, y.2 ≠ .cell) (hkind : scope.kind = .function)
    (hnames : ∀ y ∈ scope.names, y.2 = .local → scope.names.lookup y.1 = some .local)
    (hcl : ∀ n c, cl.lookup n = some c → env.cells.lookup n = some c) (hs : ∀ x, foldedSetIterable iter env x = pure x) (hke : env.scope.kind = .function)
    (h : ∀ K : Value → Shared → Prop, (∀ it s₂, CompGo prog w A env scope cl (.ListComp elt (⟨target, iter, ifs, 0⟩ :: more) scope pos) (Ow.list · []) (EndA prog w A E env y Q) it s₂ → K it s₂) → wpAny (model prog w) A (eval iter env) (ItQ (model prog w) A K E) E s) :
    wpAny (model prog w) A (exec (.Assign [.Name y py] (.ListComp elt (⟨target, iter, ifs, 0⟩ :: more) scope pos) spos) env) Q E s := by
  rw [exec_Assign_Name_used _ _ _ _ hsw]
  refine wpAny_bind (wpAny_standAt (wpAny_bind ?_))
  show wpAny _ A (do let _ ← comprehension (.ListComp elt (⟨target, iter, ifs, 0⟩ :: more) scope pos) scope env _ (newList []) false (eval iter env) (some (assign (.Name y py) env))) _ _ s
  refine wpAny_bind (wpAny_mono (wpAny_comprehension_free (use := some (assign (.Name y py) env)) (Q := fun _ s' => Q .next s') rfl hs hclos hkind hnames
    (wpAny_mono (h _ fun _ _ x => x) (fun xv s₁ h₁ => wpAny_mono h₁ (fun it s₂ h₂ => ?_) fun _ _ e => e) fun _ _ e => e)) (fun _ s' hq => wpAny_pure (wpAny_pure hq)) fun _ _ e => e)
  obtain ⟨s₀, DD, b₀, cw, m, cm, P, X, O, S, loop⟩ := h₂
  refine comp_core (RR := fun acc C => compPost (model prog w) A E (some (assign (.Name y py) env)) (fun _ s' => Q .next s') acc C) (ty := "list") (data := .seq ([] : List Value).toArray) (mk := fun a => Ow.list a []) S (fun Q hq => wpAny_newObj_type hq (few (Nat.zero_le _))) rfl (fun _ => rfl)
    (fun b h e => ⟨_, e⟩) hcl hcell hkind fun D C b s₄ hk pg Si k => codeAny_mono (loop D C b s₄ hk pg Si k _ fun _ _ x => x) fun r s' hr => ?_
  obtain ⟨rfl, ys, F, N, m', P', cm', cw', S', hF, hq⟩ := hr
  refine ⟨F, m', P', _, cm', cw', S', hF, fun So => ?_⟩
  refine wpAny_assign_Name (wpAny_mono (hq C m' _ So) (fun _ s₅ h₅ => ?_) fun _ _ e => e)
  obtain ⟨m₂, cm₂, Sn, hq₂⟩ := h₅
  obtain ⟨b1, _, _, hns⟩ := Sn.ownAt (x := nsO C m') List.mem_cons_self
  exact ⟨m', nsO_is.mp hns, fun h' hs => hq₂ _ (Sn.lose (tk := s₅.toks) hs.extBut)⟩

/-- the name of the comprehension's list is a local -/
theorem stAG {C' D : Addr} {m' : Str → Option Value} {O' : List Ow} {y : Str} {K : Shared → Prop} (S : St prog w s₀ DD b₀ env cw m cm P (nsO C' m' :: O') s)
    (hk : env.scope.kind = .function) (hl : env.kindOf y = some .local) (h : ∀ s', St prog w s₀ DD b₀ env cw (upd m y (.ref D)) cm P O' s' → K s') :
    StoA prog w A E env y D s₀ DD b₀ cw P C' m' O' K s := stL S hk hl fun _ S' => ⟨_, _, S', h⟩

/-- an owned dict is given up where all that may change is owned besides -/
theorem St.frzX {d : Addr} {p : Poly} {O' : List Ow} (S : St prog w s₀ DD b₀ env cw m cm P (Ow.dict d p :: O') s) (hD : ∀ a ∈ DD, ∃ y ∈ O', y.a = a) : St prog w s₀ DD b₀ env cw m cm (As.poly (.ref d) p :: P) O' s := by
  refine S.frz ?_
  obtain ⟨b, B⟩ := S
  rcases (B.own _ List.mem_cons_self).2.2.2.2 with h | h
  · obtain ⟨y, hy, e⟩ := hD _ h
    exact absurd e.symm ((List.pairwise_cons.mp B.oap).1 y hy)
  · exact h
theorem St.frzL {l : Addr} {vs : List Value} {O' : List Ow} (S : St prog w s₀ DD b₀ env cw m cm P (Ow.list l vs :: O') s) (hD : ∀ a ∈ DD, ∃ y ∈ O', y.a = a) : St prog w s₀ DD b₀ env cw m cm (As.lst (.ref l) vs :: P) O' s := by
  have hne : ∀ y ∈ O', y.a ≠ l := by
    obtain ⟨b, B⟩ := S
    exact fun y hy e => (List.pairwise_cons.mp B.oap).1 y hy e.symm
  have hd : s₀.heap.objs.size ≤ l := by
    obtain ⟨b, B⟩ := S
    rcases (B.own _ List.mem_cons_self).2.2.2.2 with h | h
    · obtain ⟨y, hy, e⟩ := hD _ h
      exact absurd e (hne y hy)
    · exact h
  refine S.freeze (F := [As.lst (.ref l) vs]) (x := Ow.list l vs) List.mem_cons_self (List.sublist_cons_self _ _) hne hd fun b' _ hx q hq => ?_
  obtain rfl := List.mem_singleton.mp hq
  exact ⟨l, rfl, hx⟩

theorem noD {O' : List Ow} : ∀ a ∈ ([] : List Addr), ∃ y ∈ O', y.a = a := fun _ h => nomatch h

theorem useIntB {t : Sem Value} {i : Int} {Q : Value → Shared → Prop} (S : St prog w s₀ DD b₀ env cw m cm P O s) (hd : ∀ b, StB prog w s₀ DD b₀ env cw m cm P O s b → Does prog w A s [] b t (RInt i))
    (h : ∀ t s', St prog w s₀ DD b₀ env cw m cm P O s' → Q (.int i t) s') : (Mine.hd.heap_1 w.params).In s.heap ∧ wpAny (model prog w) A t Q E s := by
  refine ⟨S.inK, S.doesB hd (fun _ h => (nomatch h)) (List.Sublist.refl _) (fun _ _ h => (nomatch h)) fun v s' F N hR S' => ?_⟩
  obtain ⟨⟨t, rfl⟩, rfl, rfl⟩ := hR
  exact h t s' S'
theorem useTvB {t : Sem Value} {rs : Poly} {Q : Value → Shared → Prop} (S : St prog w s₀ DD b₀ env cw m cm P O s) (hd : ∀ b, StB prog w s₀ DD b₀ env cw m cm P O s b → Does prog w A s [] b t (fun v F N => ∃ vq R, F = [As.tv v [vq, .ref R]] ∧ N = [Ow.dict R rs]))
    (h : ∀ v vq R s', St prog w s₀ DD b₀ env cw m cm (As.tv v [vq, .ref R] :: P) (Ow.dict R rs :: O) s' → Q v s') : (Mine.hd.heap_1 w.params).In s.heap ∧ wpAny (model prog w) A t Q E s := by
  refine ⟨S.inK, S.doesB hd (fun _ h => (nomatch h)) (List.Sublist.refl _) (fun _ _ h => (nomatch h)) fun v s' F N hR S' => ?_⟩
  obtain ⟨vq, R, rfl, rfl⟩ := hR
  exact h v vq R s' S'
theorem St.pair {v : Value} {d1 d2 : D} (S : St prog w s₀ DD b₀ env cw m cm P O s) (hv : As.is v (.tup [d1, d2]) ∈ P) :
    ∃ v1 v2, St prog w s₀ DD b₀ env cw m cm (As.tv v [v1, v2] :: As.is v1 d1 :: As.is v2 d2 :: P) O s := by
  obtain ⟨b, B⟩ := S
  obtain ⟨a, vs, rfl, ht, hL⟩ := Is.tupOf (show Is b (.tup [d1, d2]) v from B.facts _ hv)
  unfold IsL at hL
  obtain ⟨v1, r, rfl, h1, hL⟩ := hL
  unfold IsL at hL
  obtain ⟨v2, r, rfl, h2, hL⟩ := hL
  unfold IsL at hL
  subst hL
  refine ⟨v1, v2, b, { B with facts := fun p hp => ?_ }⟩
  rcases List.mem_cons.mp hp with rfl | hp
  · exact ⟨a, rfl, ht⟩
  · rcases List.mem_cons.mp hp with rfl | hp
    · exact h1
    · rcases List.mem_cons.mp hp with rfl | hp
      · exact h2
      · exact B.facts p hp

theorem tvSub {value slice : Expr} {v x : Value} {vs : List Value} {k : Int} {u : Tok} {Q : Value → Shared → Prop} (S : St prog w s₀ DD b₀ env cw m cm P O s) (hv : As.tv v vs ∈ P)
    (h0 : 0 ≤ k) (hk : k < 2 ^ 63) (hd : vs[k.toNat]? = some x)
    (hs : ∀ t, subscripted slice false (.ref t) (.int k u) = operate [.ref t, .int k u] (getItem (.ref t) (.int k u)))
    (h : Q x s) : wpAny (model prog w) A (subscriptTail value slice v (.int k u)) Q E s := by
  obtain ⟨a, rfl, ht⟩ := S.has hv
  have hlt : k.toNat < vs.length := (List.getElem?_eq_some_iff.mp hd).1
  have ht' : IsTup s.heap a vs.toArray := ht
  refine item_tupleT ht' (by lia) hk (j := k.toNat) ?_ hd h (hs _)
  exact seqIndex_nat h0 hlt
end

/-! owned dicts in a row -/
noncomputable def QS (as : List Addr) (qs : List Poly) : List Ow := List.zipWith Ow.dict as qs
theorem QS_at : ∀ {as : List Addr} {qs : List Poly} {i : Nat} {a : Addr} {q : Poly}, as[i]? = some a → qs[i]? = some q → ∃ R, (QS as qs).Perm (Ow.dict a q :: R) ∧ ∀ q', (Ow.dict a q' :: R).Perm (QS as (qs.set i q'))
  | [], _, _, _, _, h, _ => by simp at h
  | _ :: _, [], _, _, _, _, h => by simp at h
  | x :: as, y :: qs, 0, a, q, h1, h2 => by
    simp at h1 h2
    subst h1 h2
    exact ⟨QS as qs, List.Perm.refl _, fun q' => List.Perm.refl _⟩
  | x :: as, y :: qs, i + 1, a, q, h1, h2 => by
    simp at h1 h2
    obtain ⟨R, p1, p2⟩ := QS_at h1 h2
    refine ⟨Ow.dict x y :: R, ?_, fun q' => ?_⟩
    · exact (List.Perm.cons _ p1).trans (List.Perm.swap ..)
    · exact (List.Perm.swap ..).trans (List.Perm.cons _ (p2 q'))
theorem QS_app {as : List Addr} {qs : List Poly} {a : Addr} {q : Poly} (h : as.length = qs.length) : QS (as ++ [a]) (qs ++ [q]) = QS as qs ++ [Ow.dict a q] := by
  unfold QS
  rw [List.zipWith_append h]
  rfl

/-! ### division -/
noncomputable def firstDiv (q : Mono) : List (Option (Mono × Rat)) → Int → Int
  | [], _ => -1
  | none :: r, i => firstDiv q r (i + 1)
  | some t :: r, i => if mdiv t.1 q = true then i else firstDiv q r (i + 1)
noncomputable def divGo? (o : Ord) (gs : List Poly) (ls : List (Option (Mono × Rat))) : Nat → List Poly → Poly → Poly → Option Poly
  | 0, _, _, _ => none
  | n + 1, qs, rest, left =>
    if ¬ (left.length ≤ 1000000 ∧ rest.length ≤ 1000000) then none else
    if left.length = 0 then some rest else
    match mlead o left with
    | none => none
    | some t =>
      if firstDiv t.1 ls 0 < 0 then divGo? o gs ls n qs (pset rest t.1 t.2) (pdel left t.1)
      else match ls[(firstDiv t.1 ls 0).toNat]?, gs[(firstDiv t.1 ls 0).toNat]?, qs[(firstDiv t.1 ls 0).toNat]? with
        | some (some l), some g, some q =>
          if Sm t.2 ∧ Sm l.2 ∧ l.2 ≠ 0 then
            (addT? q (mquot t.1 l.1) (t.2 / l.2)).bind fun q' => (mvshift? g (mquot t.1 l.1) (t.2 / l.2)).bind fun sh => (mvsub? left sh).bind fun left' =>
              divGo? o gs ls n (qs.set (firstDiv t.1 ls 0).toNat q') rest left'
          else none
        | _, _, _ => none
noncomputable def FUEL : Nat := 3000
noncomputable def rest? (o : Ord) (f : Poly) (gs : List Poly) : Option Poly :=
  if boxed f = true ∧ f.length ≤ 1000000 ∧ gs.length ≤ 1000000 then divGo? o gs (gs.map (mlead o)) FUEL (gs.map fun _ => []) [] f else none
noncomputable def spoly? (o : Ord) (f g : Poly) : Option Poly :=
  match mlead o f, mlead o g with
  | some a, some b =>
    if a.2 ≠ 0 ∧ b.2 ≠ 0 then
      (mvshift? f (mquot (mjoin a.1 b.1) a.1) a.2⁻¹).bind fun x => (mvshift? g (mquot (mjoin a.1 b.1) b.1) b.2⁻¹).bind fun y => mvsub? x y
    else none
  | _, _ => none
end Mine
end
section
set_option maxRecDepth 100000
namespace Mine
open PySem PySem.W PyProof.Rows PySem.Calls

noncomputable def pairKey? (o : Ord) (ls : List Mono) (pr : Mono) : Option (List Int × List Int) :=
  if 0 ≤ pr.1 ∧ 0 ≤ pr.2 ∧ ls.length ≤ 1000000 then
    match ls[pr.1.toNat]?, ls[pr.2.toNat]? with
    | some a, some b => some (okey o (mjoin a b), [pr.1, pr.2])
    | _, _ => none
  else none
noncomputable def leastGo? (o : Ord) (ls : List Mono) : Option (Mono × List Int × List Int) → List Mono → Option (Option (Mono × List Int × List Int))
  | b, [] => some b
  | none, p :: r => (pairKey? o ls p).bind fun k => leastGo? o ls (some (p, k)) r
  | some b, p :: r => (pairKey? o ls p).bind fun k => leastGo? o ls (if lexI2 .Lt k b.2 = true then some (p, k) else some b) r
theorem leastGo_n {o : Ord} {ls : List Mono} {b} : leastGo? o ls b [] = some b := by cases b <;> rfl
theorem leastGo_0 {o : Ord} {ls : List Mono} {p : Mono} {r} : leastGo? o ls none (p :: r) = (pairKey? o ls p).bind fun k => leastGo? o ls (some (p, k)) r := rfl
theorem leastGo_s {o : Ord} {ls : List Mono} {p : Mono} {b r} : leastGo? o ls (some b) (p :: r) = (pairKey? o ls p).bind fun k => leastGo? o ls (if lexI2 .Lt k b.2 = true then some (p, k) else some b) r := rfl
noncomputable def least? (o : Ord) (ls wt : List Mono) : Option Mono := (leastGo? o ls none wt).bind fun b => b.map (·.1)
noncomputable def needGo (pr : Mono) (wt : List Mono) (J : Mono) : List Mono → Int → Bool
  | [], _ => false
  | m :: r, i =>
    if ((pr.1 == i || pr.2 == i) || !(mdiv m J)) = true then needGo pr wt J r (i + 1)
    else if (!(wt.contains (min pr.1 i, max pr.1 i)) && !(wt.contains (min pr.2 i, max pr.2 i))) = true then true
    else needGo pr wt J r (i + 1)
noncomputable def needless? (ls wt : List Mono) (pr : Mono) : Option Bool :=
  if 0 ≤ pr.1 ∧ 0 ≤ pr.2 ∧ ls.length ≤ 1000000 then
    match ls[pr.1.toNat]?, ls[pr.2.toNat]? with
    | some a, some b => some (mapart a b || needGo pr wt (mjoin a b) ls 0)
    | _, _ => none
  else none
end Mine
end
section
set_option maxRecDepth 100000
namespace Mine
open PySem PySem.W PyProof.Rows PySem.Calls

noncomputable def orng (a : Addr) (n : Int) : Ow := .gen a fun o => ∃ t u v, o = { cls := .type "range", dict := none, data := .fields #[.int 0 t, .int n u, .int 1 v], slots := #[] }

section
variable {prog : Program} {w : World} {s₀ s : Shared} {DD : List Addr} {b₀ : Heap} {env : Env} {cw : Bool} {m cm : Str → Option Value} {P : List As} {O : List Ow}
variable {A : Around} {E : Value → Shared → Prop}

/-! range -/
theorem rng1 {n : Int} {t : Tok} {Q : Value → Shared → Prop} (S : St prog w s₀ DD b₀ env cw m cm P O s) (h : ∀ a s', St prog w s₀ DD b₀ env cw m cm P (orng a n :: O) s' → Q (.ref a) s') :
    wpAny (model prog w) A (call (.type "range") [.int n t]) Q E s := by
  refine call_range_1 (h _ _ ?_)
  exact S.owns (x := orng s.heap.objs.size n) (keep_push _ _) (Nat.le_refl _) fun b _ _ => ⟨_, Heap.get?_push_size _ rfl, _, _, _, rfl⟩
theorem ih_rng {a : Addr} {n : Int} {Q : Value → Shared → Prop} (S : St prog w s₀ DD b₀ env cw m cm P O s) (hx : orng a n ∈ O) (h0 : 0 ≤ n) (h1 : n ≤ 1000000) (h : ∀ I s', St prog w s₀ DD b₀ env cw m cm P (irng I 0 n :: O) s' → Q (.ref I) s') :
    wpAny (model prog w) A (pyIter (.ref a)) Q E s := by
  obtain ⟨b, _, _, o, ho, t, u, v, rfl⟩ := S.ownAt hx
  refine wpAny_pyIter_range ho (small_one (by lia) (by lia) (by lia) (by lia)) (h _ _ ?_)
  rw [rangeSize_one]
  have e : (if 0 < n then n - 0 else 0) = n := by split <;> lia
  rw [e]
  exact S.owns (tk := s.toks) (x := irng s.heap.objs.size 0 n) (keep_push _ _) (Nat.le_refl _) fun b _ _ => ⟨_, Heap.get?_push_size _ rfl, rfl⟩
theorem nx_rng {I : Addr} {x left : Int} {Q : Option Value → Shared → Prop} (S : St prog w s₀ DD b₀ env cw m cm P (irng I x left :: O) s) (hl : 0 < left)
    (h : ∀ t s', St prog w s₀ DD b₀ env cw m cm P (irng I (x + 1) (left - 1) :: O) s' → Q (some (.int x t)) s') : wpAny (model prog w) A (pyNext (.ref I)) Q E s := by
  obtain ⟨b, _, _, o, ho, rfl⟩ := S.ownAt List.mem_cons_self
  refine wpAny_pyNext_range_item ho hl fun h' hi hs => h _ _ ?_
  exact S.change (x := irng I x left) (y := irng I (x + 1) (left - 1)) .head rfl hs fun b' _ _ => ⟨_, hi, rfl⟩
theorem nx_rngE {I : Addr} {x left : Int} {Q : Option Value → Shared → Prop} (S : St prog w s₀ DD b₀ env cw m cm P (irng I x left :: O) s) (hh : A.handled = none) (hl : left ≤ 0)
    (h : ∀ s', St prog w s₀ DD b₀ env cw m cm P O s' → Q none s') : wpAny (model prog w) A (pyNext (.ref I)) Q E s := by
  obtain ⟨b, _, _, o, ho, rfl⟩ := S.ownAt List.mem_cons_self
  exact wpAny_pyNext_range_end hh ho hl fun h' hs => h _ (S.lose (tk := s.toks) hs)
theorem ih_irng {I : Addr} {x left : Int} {Q : Value → Shared → Prop} (S : St prog w s₀ DD b₀ env cw m cm P O s) (hx : irng I x left ∈ O) (h : Q (.ref I) s) : wpAny (model prog w) A (pyIter (.ref I)) Q E s := by
  obtain ⟨b, _, _, o, ho, rfl⟩ := S.ownAt hx
  exact wpAny_pyIter_rangeiter ho h

/-- list.extend by another list -/
theorem extO {D : Addr} {u : Value} {xs ys : List Value} {O' : List Ow} {Q : Value → Shared → Prop} (S : St prog w s₀ DD b₀ env cw m cm P O s) (hr : Rep (.list D xs) (.list D (xs ++ ys)) O O') (hu : Ld s₀ DD P O u ys) (hz : xs.length + ys.length ≤ 1000000)
    (h : ∀ s', St prog w s₀ DD b₀ env cw m cm P O' s' → Q .none s') : wpAny (model prog w) A (call (.builtin "list.extend") [.ref D, u]) Q E s := by
  obtain ⟨b, rfl, n2, hb⟩ := hu.now S
  obtain ⟨_, _, _, n, hD⟩ := S.ownAt hr.mem
  have hsz' : xs.toArray.size + ys.toArray.size ≤ sizeLine := by rw [List.size_toArray, List.size_toArray]; exact Nat.le_trans hz (by rw [sizeLine]; decide)
  refine call_meets PySem.F.slot_list_extend ⟨_, hD, rfl⟩ PySem.F.entry_list_extend (PySem.F.args_list_extend_2 _ _) (AutoSeq1.list_extend_list_list_0 D xs.toArray n b ys.toArray n2 (extend_door hsz') (Nat.le_trans (Nat.le_add_right _ _) hsz')) ⟨hD, hb, h _ ?_⟩
  refine S.change (tk := s.toks) hr rfl (Heap.SameBut.update ..) fun b' _ _ => ?_
  show Heap.PlainList _ D (xs ++ ys).toArray
  have e : xs.toArray ++ ys.toArray = (xs ++ ys).toArray := by simp
  exact ⟨_, by rw [Heap.get?_update_self _ hD (by rw [mapSeq_app]; rfl), mapSeq_app, e]⟩

/-! two clauses -/
theorem comp_step2 {elt t1 i1 t2 i2 : Expr} {scope : Scope} {pos : Pos} {it acc : Value} {R : Result → Shared → Prop}
    (h : nextGo prog w A (fun _ _ => False) t1 it (fun r s₁ => match r with
      | none => R (.ok .next) s₁
      | some v => wpAny (model prog w) A (assign t1 env v) (fun _ s₂ => wpAny (model prog w) A (eval i2 env) (fun x s₃ => wpAny (model prog w) A (pyIter x) (fun it2 s₄ =>
          codeAny (model prog w) A (.compStart (.ListComp elt [⟨t1, i1, [], 0⟩, ⟨t2, i2, [], 0⟩] scope pos) 1 it2 acc env) (fun r' s₅ => r' = .ok .next ∧
            codeAny (model prog w) A (.compLoop (.ListComp elt [⟨t1, i1, [], 0⟩, ⟨t2, i2, [], 0⟩] scope pos) 0 it acc env) R s₅) s₄) (fun _ _ => False) s₃) (fun _ _ => False) s₂) (fun _ _ => False) s₁) s)
    (hs : ∀ x, foldedSetIterable i2 env x = pure x) :
    codeAny (model prog w) A (.compLoop (.ListComp elt [⟨t1, i1, [], 0⟩, ⟨t2, i2, [], 0⟩] scope pos) 0 it acc env) R s := by
  refine codeAny_of_tree ?_
  show wpAny _ _ ((compTurn (.ListComp elt [⟨t1, i1, [], 0⟩, ⟨t2, i2, [], 0⟩] scope pos) 0 it acc env).onRaise (fun x => do noteFrame x env; theTreesLotGoes x)) _ _ s
  refine wpAny_noted ?_
  unfold compTurn
  refine wpAny_bind (wpAny_standAt (wpAny_bind (wpAny_mono h (fun r s₁ h₁ => ?_) fun _ _ h' => h'.elim)))
  cases r with
  | none => exact wpAny_pure h₁
  | some v =>
    refine wpAny_bind (wpAny_mono h₁ (fun _ s₂ h₂ => ?_) fun _ _ h' => h'.elim)
    refine wpAny_bind (wpAny_mono h₂ (fun _ s₂ h₂ => ?_) fun _ _ h' => h'.elim)
    refine wpAny_bind (tests0 ?_)
    refine wpAny_bind (wpAny_mono h₂ (fun x s₃ h₃ => ?_) fun _ _ h' => h'.elim)
    refine wpAny_bind (wpAny_standAt ?_)
    refine wpAny_bind (wpAny_of_eq (hs x) ?_)
    refine wpAny_bind (wpAny_holding (wpAny_mono h₃ (fun it2 s₄ h₄ => ?_) fun _ _ h' => h'.elim))
    refine wpAny_bind (wpAny_runOwn (codeAny_mono h₄ fun r' s₅ h₅ => ?_))
    obtain ⟨rfl, h₆⟩ := h₅
    exact wpAny_pure ⟨rfl, h₆⟩
theorem comp_step2in {elt t1 i1 t2 i2 : Expr} {scope : Scope} {pos : Pos} {it acc : Value} {R : Result → Shared → Prop}
    (h : nextGo prog w A (fun _ _ => False) t2 it (fun r s₁ => match r with
      | none => R (.ok .next) s₁
      | some v => wpAny (model prog w) A (assign t2 env v) (fun _ s₂ => wpAny (model prog w) A (eval elt env) (fun y s₃ => wpAny (model prog w) A (call (.builtin "list.append") [acc, y])
          (fun _ s₄ => codeAny (model prog w) A (.compLoop (.ListComp elt [⟨t1, i1, [], 0⟩, ⟨t2, i2, [], 0⟩] scope pos) 1 it acc env) R s₄) (fun _ _ => False) s₃) (fun _ _ => False) s₂) (fun _ _ => False) s₁) s) :
    codeAny (model prog w) A (.compLoop (.ListComp elt [⟨t1, i1, [], 0⟩, ⟨t2, i2, [], 0⟩] scope pos) 1 it acc env) R s := by
  refine codeAny_of_tree ?_
  show wpAny _ _ ((compTurn (.ListComp elt [⟨t1, i1, [], 0⟩, ⟨t2, i2, [], 0⟩] scope pos) 1 it acc env).onRaise (fun x => do noteFrame x env; theTreesLotGoes x)) _ _ s
  refine wpAny_noted ?_
  unfold compTurn
  refine wpAny_bind (wpAny_standAt (wpAny_bind (wpAny_mono h (fun r s₁ h₁ => ?_) fun _ _ h' => h'.elim)))
  cases r with
  | none => exact wpAny_pure h₁
  | some v =>
    refine wpAny_bind (wpAny_mono h₁ (fun _ s₂ h₂ => ?_) fun _ _ h' => h'.elim)
    refine wpAny_bind (wpAny_mono h₂ (fun _ s₂ h₂ => ?_) fun _ _ h' => h'.elim)
    refine wpAny_bind (tests0 ?_)
    exact wpAny_bind (wpAny_bind (wpAny_mono h₂ (fun x s₃ h₃ => wpAny_bind (wpAny_mono h₃
      (fun _ s₄ h₄ => wpAny_pure (wpAny_pure ⟨rfl, h₄⟩)) fun _ _ h' => h'.elim)) fun _ _ h' => h'.elim))
theorem compStart1_ {e : Expr} {it acc : Value} {R : Result → Shared → Prop} (hq : (Code.compLoop e 1 it acc env).quiet = true) (hf : (Code.compStart e 1 it acc env).isFrame = false)
    (has : ((clausesOf e)[1]?).elim false (·.is_async != 0) = false)
    (hit : ∀ (Q : Value → Shared → Prop) (E : Value → Shared → Prop), Q it s → wpAny (model prog w) (A.under (Code.compStart e 1 it acc env)) (pyIter it) Q E s)
    (h : codeAny (model prog w) A (.compLoop e 1 it acc env) R s) : codeAny (model prog w) A (.compStart e 1 it acc env) R s := by
  refine codeAny_of_tree ?_
  have e1 : (model prog w).den (.compStart e 1 it acc env) = (compStart e 1 it acc env).onRaise (fun x => do noteFrame x env; standAt theWindowsPlace) := by
    show (if (Code.compStart e 1 it acc env).isFrame = true then _ else _) = _
    rw [hf]; rfl
  rw [e1]
  refine wpAny_notedAt ?_
  unfold compStart
  rw [has]
  simp only [Bool.false_eq_true, if_false]
  refine wpAny_bind (wpAny_askSetting ?_)
  split
  · first
      | exact wpAny_bind (wpAny_pure (wpAny_pure ⟨hq, h⟩))
      | exact wpAny_pure ⟨hq, h⟩
  · refine wpAny_bind (wpAny_rule ?_)
    split
    · exact wpAny_bind (wpAny_standAt (wpAny_bind (hit _ _ (wpAny_pure ⟨hq, h⟩))))
    · exact wpAny_bind (hit _ _ (wpAny_pure ⟨hq, h⟩))
end
end Mine
end
section
set_option maxRecDepth 100000
namespace Mine
open PySem PySem.W PyProof.Rows PySem.Calls

noncomputable def pairsRow (j : Nat) : List Mono := (List.range j).map fun (i : Nat) => ((i : Int), (j : Int))
noncomputable def pairsOf (n : Nat) : List Mono := (List.range n).flatMap pairsRow
noncomputable def monGo? (o : Ord) : List Poly → List Poly → Option (List Poly)
  | acc, [] => some acc
  | acc, p :: r => if ¬ p.length ≤ 1000000 then none else if p.length = 0 then monGo? o acc r else (mvmonic? o p).bind fun q => monGo? o (acc ++ [q]) r
noncomputable def leadsGo? (o : Ord) : List Mono → List Poly → Option (List Mono)
  | acc, [] => some acc
  | acc, p :: r => (mlead o p).bind fun t => leadsGo? o (acc ++ [t.1]) r
noncomputable def grobGo? (o : Ord) (most : Int) : Nat → Int → List Poly → List Mono → List Mono → Option (List Poly)
  | 0, _, _, _, _ => none
  | n + 1, done, bs, ls, wt =>
    if ¬ (wt.length ≤ 100000 ∧ bs.length ≤ 1000 ∧ ls.length ≤ 1000) then none else
    if wt.length = 0 then some bs else
    (least? o ls wt).bind fun pr =>
    (needless? ls (wt.filter fun x => !decide (x = pr)) pr).bind fun nd =>
    if nd = true then grobGo? o most n done bs ls (wt.filter fun x => !decide (x = pr)) else
    if done + 1 > most then none else
    match bs[pr.1.toNat]?, bs[pr.2.toNat]? with
    | some f, some g =>
      (spoly? o f g).bind fun sp => (rest? o sp bs).bind fun rs =>
      if ¬ rs.length ≤ 1000000 then none else
      if rs.length = 0 then grobGo? o most n (done + 1) bs ls (wt.filter fun x => !decide (x = pr)) else
      (mvmonic? o rs).bind fun q => (mlead o rs).bind fun t =>
        grobGo? o most n (done + 1) (bs ++ [q]) (ls ++ [t.1]) ((wt.filter fun x => !decide (x = pr)) ++ pairsRow bs.length)
    | _, _ => none
noncomputable def FUEL2 : Nat := 100
noncomputable def groebner? (o : Ord) (most : Int) (gs : List Poly) : Option (List Poly) :=
  if ¬ gs.length ≤ 1000 then none else
  (monGo? o [] gs).bind fun bs => (leadsGo? o [] bs).bind fun ls => grobGo? o most FUEL2 0 bs ls (pairsOf bs.length)

section
variable {prog : Program} {w : World} {s₀ s : Shared} {DD : List Addr} {b₀ : Heap} {env : Env} {cw : Bool} {m cm : Str → Option Value} {P : List As} {O : List Ow}
variable {A : Around} {E : Value → Shared → Prop}
noncomputable def rngN (I : Addr) (i n : Nat) : Ow := irng I (i : Int) ((n : Int) - (i : Int))
theorem ih_rngN {a : Addr} {n : Nat} {Q : Value → Shared → Prop} (S : St prog w s₀ DD b₀ env cw m cm P O s) (hx : orng a n ∈ O) (h1 : n ≤ 1000000) (h : ∀ I s', St prog w s₀ DD b₀ env cw m cm P (rngN I 0 n :: O) s' → Q (.ref I) s') :
    wpAny (model prog w) A (pyIter (.ref a)) Q E s :=
  ih_rng S hx (by lia) (by lia) fun I s' S' => h I s' (by
    have e : rngN I 0 n = irng I 0 n := by unfold rngN; simp
    rw [e]; exact S')
theorem nx_rngN {I : Addr} {i n : Nat} {Q : Option Value → Shared → Prop} (S : St prog w s₀ DD b₀ env cw m cm P (rngN I i n :: O) s) (hl : i < n)
    (h : ∀ t s', St prog w s₀ DD b₀ env cw m cm P (rngN I (i + 1) n :: O) s' → Q (some (.int i t)) s') : wpAny (model prog w) A (pyNext (.ref I)) Q E s :=
  nx_rng S (by lia) fun t s' S' => h t s' (by
    have e : rngN I (i + 1) n = irng I ((i : Int) + 1) ((n : Int) - i - 1) := by
      unfold rngN
      rw [show ((i + 1 : Nat) : Int) = (i : Int) + 1 by lia, show (n : Int) - ((i : Int) + 1) = (n : Int) - i - 1 by lia]
    rw [e]; exact S')
theorem nx_rngNE {I : Addr} {i n : Nat} {Q : Option Value → Shared → Prop} (S : St prog w s₀ DD b₀ env cw m cm P (rngN I i n :: O) s) (hh : A.handled = none) (hl : n ≤ i)
    (h : ∀ s', St prog w s₀ DD b₀ env cw m cm P O s' → Q none s') : wpAny (model prog w) A (pyNext (.ref I)) Q E s := nx_rngE S hh (by lia) h
theorem ih_rngNI {I : Addr} {i n : Nat} {Q : Value → Shared → Prop} (S : St prog w s₀ DD b₀ env cw m cm P O s) (hx : rngN I i n ∈ O) (h : Q (.ref I) s) : wpAny (model prog w) A (pyIter (.ref I)) Q E s := ih_irng S hx h
end
section
variable {prog : Program} {w : World} {s₀ s : Shared} {DD : List Addr} {b₀ : Heap} {env : Env} {cw : Bool} {m cm : Str → Option Value} {P : List As} {O : List Ow}
variable {A : Around} {E : Value → Shared → Prop}
theorem St.issApp2 {vs ws : List Value} {ds es : List D} (S : St prog w s₀ DD b₀ env cw m cm P O s) (hv : As.iss vs ds ∈ P) (hd : As.iss ws es ∈ P) :
    St prog w s₀ DD b₀ env cw m cm (As.iss (vs ++ ws) (ds ++ es) :: P) O s := by
  obtain ⟨b, B⟩ := S
  refine ⟨b, { B with facts := fun p hp => ?_ }⟩
  rcases List.mem_cons.mp hp with rfl | hp
  · exact IsL.append (B.facts _ hv) (B.facts _ hd)
  · exact B.facts p hp
theorem iIadd {a c : Int} {t u : Tok} {Q : Value → Shared → Prop} (S : St prog w s₀ DD b₀ env cw m cm P O s) (h : ∀ t s', St prog w s₀ DD b₀ env cw m cm P O s' → Q (.int (a + c) t) s') :
    wpAny (model prog w) A (inplaceOp .Add (.int a t) (.int c u)) Q E s := PySem.P.iadd_int (h _ _ (S.tok _))
theorem ldL {x : Str} {v : Value} {Q : Value → Shared → Prop} (S : St prog w s₀ DD b₀ env cw m cm P O s) (hk : env.scope.kind = .function) (hl : env.kindOf x = some .local) (hv : m x = some v)
    (h : Q v s) : wpAny (model prog w) A (loadName env x) Q E s := by
  obtain ⟨b, B⟩ := S
  exact wpAny_loadName_local hk hl B.ns hv h
end
theorem pairsRow_len {j : Nat} : (pairsRow j).length = j := by unfold pairsRow; simp
theorem pairsOf_succ {j : Nat} : pairsOf (j + 1) = pairsOf j ++ pairsRow j := by unfold pairsOf; rw [List.range_succ, List.flatMap_append]; simp
theorem pairsOf_len : ∀ {n : Nat}, (pairsOf n).length ≤ n * n
  | 0 => by unfold pairsOf; simp
  | n + 1 => by
    rw [pairsOf_succ, List.length_append, pairsRow_len]
    have := @pairsOf_len n
    have e : (n + 1) * (n + 1) = n * n + n + n + 1 := by rw [Nat.add_mul, Nat.mul_add]; lia
    lia
theorem cln {cells : List (Str × Addr)} : ∀ n c, List.lookup n ([] : List (Str × Addr)) = some c → cells.lookup n = some c := fun _ _ h => nomatch h
theorem clc {cells r : List (Str × Addr)} {a : Str} {c0 : Addr} (h : cells.lookup a = some c0) (hr : ∀ n c, List.lookup n r = some c → cells.lookup n = some c) : ∀ n c, List.lookup n ((a, c0) :: r) = some c → cells.lookup n = some c := by
  intro n c hc
  rw [List.lookup_cons] at hc
  split at hc
  · rename_i he
    rw [beq_iff_eq] at he
    subst he
    rw [h]; exact hc
  · exact hr n c hc
end Mine
end
section
set_option maxRecDepth 100000
namespace Mine
open PySem PySem.W PyProof.Rows PySem.Calls

theorem isL_of_get {h : Heap} : ∀ {ds : List D} {vs : List Value}, vs.length = ds.length → (∀ (j : Nat) (d : D), ds[j]? = some d → ∃ v, vs[j]? = some v ∧ Is h d v) → IsL h ds vs
  | [], vs, hl, _ => by unfold IsL; exact List.length_eq_zero_iff.mp hl
  | d :: ds, [], hl, _ => by simp at hl
  | d :: ds, v :: vs, hl, hh => by
    unfold IsL
    obtain ⟨v', h1, h2⟩ := hh 0 d rfl
    simp at h1
    subst h1
    exact ⟨v, vs, rfl, h2, isL_of_get (by simpa using hl) fun j d' e => by simpa using hh (j + 1) d' (by simpa using e)⟩

section
variable {prog : Program} {w : World} {s₀ s : Shared} {DD : List Addr} {b₀ : Heap} {env : Env} {cw : Bool} {m cm : Str → Option Value} {P : List As} {O : List Ow}
variable {A : Around} {E : Value → Shared → Prop}

/-- xs[:k] -/
theorem lSlc {value st : Expr} {p pos : Pos} {Q : Value → Shared → Prop} (ht : ∀ o r, letTemporaryGo value o r = pure ())
    (h : wpAny (model prog w) A (eval value env) (fun o s₁ => wpAny (model prog w) A (eval st env) (fun x s₂ => ∃ (k : Nat) (u : Tok) (vs : List Value), x = .int k u ∧ ∃ s₀ DD b₀ cw m cm P O, St prog w s₀ DD b₀ env cw m cm P O s₂ ∧ Ld s₀ DD P O o vs ∧ vs.length ≤ 1000000 ∧
      ∀ a s', St prog w s₀ DD b₀ env cw m cm P (Ow.list a (vs.take k) :: O) s' → Q (.ref a) s') E s₁) E s) :
    wpAny (model prog w) A (eval (.Subscript value (.Slice none (some st) none p) pos) env) Q E s := by
  refine wpAny_Subscript_list_slice (wpAny_mono h (fun o s₁ h₁ => ?_) fun _ _ e => e) ht
  rw [evalPart_none]
  refine wpAny_pure ?_
  rw [evalPart_some]
  refine wpAny_mono h₁ (fun x s₂ h₂ => ?_) fun _ _ e => e
  obtain ⟨k, u, vs, rfl, s₀, DD, b₀, cw, m, cm, P, O, S, hl, hz, hQ⟩ := h₂
  obtain ⟨l, rfl⟩ := hl.ref S
  refine ⟨l, vs.toArray, none, some (k : Int), rfl, hl.isL S, by rw [List.size_toArray]; exact Nat.le_trans hz (by rw [sizeLine]; decide), .none, .int _ _, ?_⟩
  rw [slicePick_upto']
  have e1 : (s₂.heap.push { cls := .type "slice", data := .fields #[.none, .int k u, .none] }).objs.size = s₂.heap.objs.size + 1 := Heap.size_push ..
  have S1 := S.push { cls := .type "slice", data := .fields #[.none, .int k u, .none] } s₂.toks
  have S2 := S1.owns (tk := s₂.toks) (x := Ow.list (s₂.heap.objs.size + 1) (vs.take k)) (keep_push _ { cls := .type "list", data := .seq (vs.take k).toArray }) (by show _ ≤ _; exact Nat.le_of_eq e1) fun b _ _ => ⟨_, by
    show (Heap.push _ _).get? (s₂.heap.objs.size + 1) = _
    rw [← e1]; exact Heap.get?_push_size _ rfl⟩
  exact hQ _ _ (by simpa using S2)

/-- xs[-1] -/
theorem lLast {value slice : Expr} {v x : Value} {vs : List Value} {u : Tok} {Q : Value → Shared → Prop} (S : St prog w s₀ DD b₀ env cw m cm P O s) (hl : Ld s₀ DD P O v vs) (hx : vs.getLast? = some x)
    (hs : ∀ t, subscripted slice false (.ref t) (.int (-1) u) = operate [.ref t, .int (-1) u] (getItem (.ref t) (.int (-1) u)))
    (h : Q x s) : wpAny (model prog w) A (subscriptTail value slice v (.int (-1) u)) Q E s := by
  obtain ⟨l, rfl, hp⟩ := hl.now S
  have hne : 0 < vs.length := by
    cases vs with
    | nil => simp at hx
    | cons => simp
  refine tail_any hp.isList.typeIs slot_list_getitem.lookup (wpAny_getItem_list_neg hp.isList (by decide) (by simp; lia) (by decide) (x := x) ?_ h) (hs l)
  rw [List.size_toArray]
  have e : ((-1 : Int) + (vs.length : Int)).toNat = vs.length - 1 := by lia
  rw [e, List.getLast?_eq_getElem?] at *
  simpa using hx

/-- xs + ys -/
theorem lAdd {v u : Value} {vs us : List Value} {Q : Value → Shared → Prop} (S : St prog w s₀ DD b₀ env cw m cm P O s) (h1 : Ld s₀ DD P O v vs) (h2 : Ld s₀ DD P O u us) (hz : vs.length + us.length ≤ 1000000)
    (h : ∀ a s', St prog w s₀ DD b₀ env cw m cm P (Ow.list a (vs ++ us) :: O) s' → Q (.ref a) s') : wpAny (model prog w) A (binaryOp .Add v u) Q E s := by
  obtain ⟨l, rfl, n, ho⟩ := h1.now S
  obtain ⟨b, rfl, n2, ho2⟩ := h2.now S
  have e : vs.toArray ++ us.toArray = (vs ++ us).toArray := by simp
  refine concat_meets ⟨_, ho, rfl⟩ ⟨_, ho2, rfl⟩ noFill_list_add seq_list_add PySem.F.slot_list_add PySem.F.entry_list_add (PySem.F.args_list_add_2 _ _)
    (list_addW l b vs.toArray us.toArray n n2 none none #[] #[] (by simp only [List.size_toArray]; exact Nat.le_trans hz (by rw [sizeLine]; decide))) ⟨ho, ho2, ?_⟩
  rw [e]
  refine h _ _ ?_
  exact S.owns (tk := s.toks) (x := Ow.list s.heap.objs.size (vs ++ us)) (keep_push _ _) (Nat.le_refl _) fun b _ _ => ⟨_, Heap.get?_push_size _ rfl⟩

/-- list(xs) -/
theorem lCopy {v : Value} {vs : List Value} {Q : Value → Shared → Prop} (S : St prog w s₀ DD b₀ env cw m cm P O s) (h1 : Ld s₀ DD P O v vs) (hz : vs.length ≤ 1000000)
    (h : ∀ a s', St prog w s₀ DD b₀ env cw m cm P (Ow.list a vs :: O) s' → Q (.ref a) s') : wpAny (model prog w) A (call (.type "list") [v]) Q E s := by
  obtain ⟨l, rfl, n, ho⟩ := h1.now S
  refine call_list_seq (hsz := by rw [List.size_toArray]; exact Nat.le_trans hz (by rw [sizeLine]; decide)) l (.inl rfl) ho rfl rfl fun h' c' hk hD => h _ _ ?_
  exact S.owns (tk := s.toks) (x := Ow.list s.heap.objs.size vs) hk (Nat.le_refl _) fun b _ _ => ⟨_, hD⟩

/-- xs.pop(0) -/
theorem popO {l : Addr} {x : Value} {vs : List Value} {u : Tok} {O' : List Ow} {Q : Value → Shared → Prop} (S : St prog w s₀ DD b₀ env cw m cm P O s) (hr : Rep (.list l (x :: vs)) (.list l vs) O O') (hz : vs.length ≤ 100000)
    (h : ∀ s', St prog w s₀ DD b₀ env cw m cm P O' s' → Q x s') : wpAny (model prog w) A (call (.builtin "list.pop") [.ref l, .int 0 u]) Q E s := by
  obtain ⟨_, _, _, n, ho⟩ := S.ownAt hr.mem
  refine call_meets PySem.F.slot_list_pop ⟨_, ho, rfl⟩ PySem.F.entry_list_pop (PySem.F.args_list_pop_2 _ _)
    (PySem.MeetsSeq.list_pop_at l (x :: vs).toArray n 0 u 0 x (by decide) (seqIndex_nat (by decide) (by simp)) (by simp) (by simp only [List.size_toArray, List.length_cons]; exact Nat.le_trans (Nat.succ_le_succ hz) (by rw [sizeLine]; decide))) ⟨ho, h _ ?_⟩
  refine S.change (tk := s.toks) hr rfl (Heap.SameBut.update ..) fun b' _ _ => ?_
  show Heap.PlainList _ l vs.toArray
  have q := PySem.IsL.update ho (fun xs => xs.eraseIdxIfInBounds 0)
  have e : (x :: vs).toArray.eraseIdxIfInBounds 0 = vs.toArray := by simp
  rw [e] at q
  exact ⟨_, q⟩

/-- xs[1] = v -/
theorem setO {l : Addr} {x : Value} {vs : List Value} {k : Int} {u : Tok} {O' : List Ow} {Q : Unit → Shared → Prop} (S : St prog w s₀ DD b₀ env cw m cm P O s) (hr : Rep (.list l vs) (.list l (vs.set k.toNat x)) O O') (h0 : 0 ≤ k) (h1 : k < 2 ^ 63) (hk : k < vs.length)
    (h : ∀ s', St prog w s₀ DD b₀ env cw m cm P O' s' → Q () s') : wpAny (model prog w) A (setItem (.ref l) (.int k u) x) Q E s := by
  obtain ⟨_, _, _, n, ho⟩ := S.ownAt hr.mem
  have hT : s.TypeIs (.ref l) "list" := ⟨_, ho, rfl⟩
  unfold setItem
  try with_reducible refine wpAny_holding ?_
  first | refine wpAny_bind (wpAny_pure ?_) | skip
  refine wpAny_bind (wpAny_sequenceKey hT (by decide) ?_)
  refine wpAny_bind (wpAny_callSpecial?_slot (name := Str.ofString "__setitem__") hT slot_list_setitem (wpAny_call_entry slot_list_setitem hT entry_list_setitem ?_ (args_list_setitem _ _ _)))
  show wpAny _ _ (Builtin.List.listSubscript? (.int k u) >>= _) _ _ s
  refine wpAny_bind (wpAny_listSubscript_int (fitsIndex_of h0 h1) ?_)
  clear h1
  obtain ⟨j, rfl⟩ := Int.eq_ofNat_of_zero_le h0
  have hj : j < vs.toArray.size := by simp; lia
  have hx : vs.toArray[j]? = some vs.toArray[j] := Array.getElem?_eq_getElem hj
  show wpAny _ _ ((seqItemAt l j >>= fun r => pure (r.map (j, ·))) >>= _) _ _ s
  refine wpAny_bind (wpAny_bind (wpAny_seqItemAt ho rfl (wpAny_pure ?_)))
  rw [hx]
  show wpAny _ _ (setSeqItemAt l j x >>= _) _ _ s
  have q := PySem.IsL.update ho (·.setIfInBounds j x)
  have e : vs.toArray.setIfInBounds j x = (vs.set j x).toArray := by simp
  rw [e] at q
  have fin : Q () { s with heap := s.heap.update l (Obj.mapSeq (·.setIfInBounds j x)) } := h _ (S.change (tk := s.toks) hr rfl (Heap.SameBut.update ..) fun b' _ _ => ⟨_, q⟩)
  refine wpAny_bind (wpAny_setSeqItemAt ho rfl ?_)
  first
    | exact wpAny_bind (wpAny_pure (wpAny_pure ⟨.none, rfl, wpAny_pure fin⟩))
    | exact wpAny_pure ⟨.none, rfl, wpAny_pure fin⟩

/-- any([..]) -/
theorem bAny {l : Addr} {vs : List Value} {bs : List Bool} {Q : Value → Shared → Prop} (hh : A.handled = none) (S : St prog w s₀ DD b₀ env cw m cm P O s) (hl : Ld s₀ DD P O (.ref l) vs) (hb : LSm.BoolsAre vs bs)
    (h : ∀ s', St prog w s₀ DD b₀ env cw m cm P O s' → Q (.bool (bs.any id)) s') : wpAny (model prog w) A (call (.builtin "any") [.ref l]) Q E s := by
  have hi := hl.isL S
  have hlt : l < s.heap.objs.size := by obtain ⟨_, e, _⟩ := hi; exact Heap.lt_size e
  refine call_any_walk (wpAny_pyIter_list hi ?_)
  refine ⟨s.heap.objs.size, [s.heap.objs.size, l], [s.heap.objs.size], vs.toArray.size, _, _, fun i => (bs[i]?).getD false, rfl, Walks.list (A := A.in1) hh _ l (Nat.ne_of_lt hlt) vs.toArray,
    ⟨⟨_, Heap.get?_push_size _ rfl, rfl, rfl⟩, hi.push _⟩, fun i v s' Q' E' hP hQ => ?_, fun h' tk hk => ?_⟩
  · obtain ⟨b, e, rfl⟩ := hb.get i v (by simpa using hP)
    simp only [e, Option.getD_some] at hQ
    exact wpAny_truthy_bool hQ
  · have e : ((List.range vs.toArray.size).any fun i => (bs[i]?).getD false) = bs.any id := by
      rw [List.size_toArray, hb.length]; exact LSm.range_any bs
    rw [e]
    exact h _ (S.kept (tk := tk) (LSm.kept_iter hk))
end
end Mine
end
section
set_option maxRecDepth 100000
namespace Mine
open PySem PySem.W PyProof.Rows PySem.Calls

/-! ### the order that a sort asks for is some order of the places -/
noncomputable def KasT.Leaf {α : Type} (n : Nat) (P : α → Prop) : KasT α → Prop
  | .ret a => P a
  | .ask i j k => i < n ∧ j < n ∧ ∀ b, KasT.Leaf n P (k b)
theorem leaf_bind {N : Nat} {α β : Type} {P : α → Prop} {R : β → Prop} {f : α → KasT β} (hf : ∀ a, P a → KasT.Leaf N R (f a)) : ∀ (t : KasT α), KasT.Leaf N P t → KasT.Leaf N R (t.bind f)
  | .ret a, h => hf a h
  | .ask i j k, h => ⟨h.1, h.2.1, fun b => leaf_bind hf (k b) (h.2.2 b)⟩
noncomputable def IsP (N : Nat) (p : Array Nat) : Prop := 0 < N ∧ p.Perm (List.toArray (List.range N))
theorem IsP.get {N : Nat} {p : Array Nat} (h : IsP N p) (x : Nat) : p.getD x 0 < N := by
  by_cases hx : x < p.size
  · have hm : p[x] ∈ p.toList := by simp
    have h2 : p.toList.Perm (List.range N) := by simpa using Array.perm_iff_toList_perm.mp h.2
    have := List.mem_range.mp (h2.mem_iff.mp hm)
    simpa [Array.getD, hx] using this
  · have : p.getD x 0 = 0 := by simp [Array.getD, hx]
    rw [this]; exact h.1
theorem IsP.rev {N : Nat} {p : Array Nat} (h : IsP N p) (i j : Nat) : IsP N (kas_rev p i j) := ⟨h.1, (mirror_perm _ _ _ _).trans h.2⟩
theorem leaf_asc {N : Nat} {p : Array Nat} (h : IsP N p) : ∀ (f n : Nat), KasT.Leaf N (fun _ => True) (kas_asc p f n)
  | 0, n => trivial
  | f + 1, n => by
    unfold kas_asc
    refine ⟨h.get _, h.get _, fun c => ?_⟩
    cases c with
    | true => trivial
    | false => exact leaf_asc h f (n + 1)
theorem leaf_place {N : Nat} {p : Array Nat} (h : IsP N p) (k : Nat) : ∀ (f l r : Nat), KasT.Leaf N (fun _ => True) (kas_place p k f l r)
  | 0, l, r => trivial
  | f + 1, l, r => by
    unfold kas_place
    split
    · trivial
    · refine ⟨h.get _, h.get _, fun c => ?_⟩
      cases c with
      | true => exact leaf_place h k f _ _
      | false => exact leaf_place h k f _ _
theorem leaf_desc {N : Nat} : ∀ (f : Nat) (p : Array Nat) (n q : Nat), IsP N p → KasT.Leaf N (fun r => IsP N r.1) (kas_desc f p n q)
  | 0, p, n, q, h => h
  | f + 1, p, n, q, h => by
    unfold kas_desc
    refine ⟨h.get _, h.get _, fun c => ?_⟩
    cases c with
    | true =>
      simp only [if_true]
      split
      · exact leaf_desc f _ _ _ (h.rev _ _)
      · exact leaf_desc f _ _ _ h
    | false =>
      simp only [Bool.false_eq_true, if_false]
      refine ⟨h.get _, h.get _, fun d => ?_⟩
      cases d with
      | true => exact h
      | false => exact leaf_desc f _ _ _ h
theorem leaf_tail3 {N : Nat} {n nrem : Nat} {p : Array Nat} (h : IsP N p) : KasT.Leaf N (fun r => IsP N r.2) (kas_tail3 n nrem p) := by
  unfold kas_tail3
  refine leaf_bind (P := fun _ => True) (fun m _ => ?_) _ (leaf_asc (h.rev _ _) _ _)
  exact h.rev _ _
theorem leaf_descPart {N : Nat} {n nrem : Nat} {p : Array Nat} (h : IsP N p) : KasT.Leaf N (fun r => IsP N r.2) (kas_descPart n nrem p) := by
  unfold kas_descPart
  refine leaf_bind (P := fun r => IsP N r.1) (fun r hr => ?_) _ (leaf_desc _ _ _ _ h)
  split
  · exact leaf_tail3 (hr.rev _ _)
  · exact leaf_tail3 hr
theorem leaf_count {N : Nat} {nrem : Nat} {p : Array Nat} (h : IsP N p) : KasT.Leaf N (fun r => IsP N r.2) (kas_count nrem p) := by
  unfold kas_count
  refine leaf_bind (P := fun _ => True) (fun n _ => ?_) _ (leaf_asc h _ _)
  split
  · exact h
  · split
    · refine ⟨h.get _, h.get _, fun c => ?_⟩
      cases c with
      | true => exact h
      | false => exact leaf_descPart (h.rev _ _)
    · exact leaf_descPart h
theorem leaf_bin {N : Nat} : ∀ (f : Nat) (p : Array Nat) (k : Nat), IsP N p → KasT.Leaf N (fun r => IsP N r) (kas_bin f p k)
  | 0, p, k, h => h
  | f + 1, p, k, h => by
    unfold kas_bin
    exact leaf_bind (P := fun _ => True) (fun l _ => leaf_bin f _ _ ⟨h.1, (bubble_perm _ _ _).trans h.2⟩) _ (leaf_place h _ _ _ _)
theorem leaf_sort {n : Nat} (hn : 0 < n) : KasT.Leaf n (fun p => IsP n p) (kas_sort n) := by
  unfold kas_sort
  refine leaf_bind (P := fun r => IsP n r.2) (fun r hr => ?_) _ (leaf_count ⟨hn, Array.Perm.refl _⟩)
  split
  · exact leaf_bin _ _ _ hr
  · exact hr
/-- asked of comparisons that change nothing, it ends at a leaf -/
theorem kas_pure {N : Nat} {α : Type} {cmp : Nat → Nat → (Bool → Shared → Prop) → Shared → Prop} {P : α → Prop} {s : Shared} {Q : α → Shared → Prop} (hc : ∀ i j (C : Bool → Shared → Prop), i < N → j < N → (∀ b, C b s) → cmp i j C s) (hq : ∀ a, P a → Q a s) :
    ∀ (t : KasT α), KasT.Leaf N P t → t.kasWp cmp Q s
  | .ret a, h => hq a h
  | .ask i j k, h => hc i j _ h.1 h.2.1 fun b => kas_pure hc hq (k b) (h.2.2 b)

section
variable {prog : Program} {w : World} {A : Around} {E : Value → Shared → Prop} {s : Shared}

theorem lt_pure {h : Heap} {x y : Mono} {v u : Value} (hk : Keep h s.heap) (h1 : Is h (dM x) v) (h2 : Is h (dM y) u) {C : Bool → Shared → Prop} (hC : ∀ b, C b s) : wpAny (model prog w) A (keyLt' (tuples' true) v u) C E s := by
  obtain ⟨a, t1, t2, rfl, oa, hoa, hca, na, hda⟩ := Is.mono2 h1
  obtain ⟨c, t3, t4, rfl, oc, hoc, hcc, nc, hdc⟩ := Is.mono2 h2
  refine kat_lt (hk _ _ hoa) hda (hk _ _ hoc) hdc ?_
  refine kat_cons (wpAny_eqBool_int ?_)
  refine kat_go (fun _ => kat_yes ?_) (fun _ => kat_no (oneLt_int (hC _)))
  refine kat_cons (wpAny_eqBool_int ?_)
  refine kat_go (fun _ => kat_yes (kat_nil (hC _))) (fun _ => kat_no ?_)
  exact kat_one _ _ (PySem.P.lt_int (hC _))

theorem tups_of {h : Heap} : ∀ (ms : List Mono) {vs : List Value}, IsL h (ms.map dM) vs → ∃ fs, KatTups h vs fs ∧ fs.length = vs.length ∧ ∀ v ∈ fs, ∃ i t, v = .int i t
  | [], vs, L => by
    have L' : vs = [] := by
      rw [List.map_nil] at L
      unfold IsL at L
      exact L
    subst L'
    exact ⟨[], .nil, rfl, fun _ h => nomatch h⟩
  | m :: ms, vs, L => by
    rw [List.map_cons] at L
    unfold IsL at L
    obtain ⟨v, r, rfl, h1, h2⟩ := L
    obtain ⟨fs, k1, k2, k3⟩ := tups_of ms h2
    obtain ⟨a, t1, t2, rfl, oa, hoa, hca, na, hda⟩ := Is.mono2 h1
    refine ⟨.int m.1 t1 :: fs, .cons hoa hca hda rfl k1, by simp [k2], fun x hx => ?_⟩
    rcases List.mem_cons.mp hx with rfl | hx
    · exact ⟨_, _, rfl⟩
    · exact k3 x hx

theorem perm_toList {p : Array Nat} {l : List Nat} (h : p.Perm l.toArray) : p.toList.Perm l := by simpa using Array.perm_iff_toList_perm.mp h

theorem sort_pure {b : Heap} {a : Addr} {vs : List Value} {ms : List Mono} {n : Nat} {P : PySem.Fin → Shared → Prop} (ho : s.heap.get? a = some (seqObj "list" vs.toArray n)) (hL : IsL b (ms.map dM) vs) (hkb : Keep b s.heap) (hba : b.get? a = none) (h64 : vs.length < 64)
    (h : ∀ h' c (p : List Nat), p.Perm (List.range vs.length) → h'.get? a = some (seqObj "list" (p.map fun i => vs.getD i Value.none).toArray c) → (∀ x o, x ≠ a → s.heap.get? x = some o → h'.get? x = some o) →
      P (.done (.ret .none)) { s with heap := h' }) : wpAny (model prog w) A (Builtin.«list.sort» ⟨[.ref a], []⟩) P E s := by
  rw [list_sort_plain]
  have ha : a < s.heap.objs.size := Heap.lt_size ho
  refine wpAny_bind (listItems_at ho rfl ?_)
  refine wpAny_bind (listUpdate_at ho rfl ?_ (by rw [List.size_toArray, sizeLine_eq]; omega) (Nat.zero_le _))
  obtain ⟨e1, ho1⟩ : ∃ e1, (s.heap.update a (Obj.mapSeq fun _ => #[])).get? a = some (seqObj "list" #[] e1) := ⟨_, get?_update_seq ho (fun _ => #[])⟩
  refine wpAny_bind (seqEpoch_at ho1 rfl ?_)
  refine wpAny_bind (wpAny_newTuple ?_ (by show vs.length ≤ _; rw [sizeLine_eq]; omega))
  refine wpAny_bind (wpAny_newList ?_ (Nat.zero_le _))
  refine wpAny_holding ?_
  generalize hH : ((s.heap.update a (Obj.mapSeq fun _ => (#[] : Array Value))).push { cls := .type "tuple", data := .seq vs.toArray.toList.toArray }).push { cls := .type "list", data := .seq ([] : List Value).toArray } = H
  have old : ∀ x o, x ≠ a → s.heap.get? x = some o → H.get? x = some o := fun x o hx e => by
    rw [← hH]
    exact Heap.get?_push_of_some _ (Heap.get?_push_of_some _ ((Heap.get?_update_other _ _ (Ne.symm hx)).trans e))
  have hoH : H.get? a = some (seqObj "list" #[] e1) := by
    rw [← hH]
    exact Heap.get?_push_of_some _ (Heap.get?_push_of_some _ ho1)
  have hkH : Keep b H := fun x o e => old x o (fun q => by rw [q, hba] at e; cases e) (hkb _ _ e)
  show wpAny (model prog w) A _ P E { s with heap := H }
  dsimp only
  have fin : ∀ (st : SortSt) (p : List Nat), p.Perm (List.range vs.length) → (arrOf st).map (·.2) = (p.map fun i => vs.getD i Value.none).toArray → failedOf st = none →
      wpAny (model prog w) A (do
        let sorted := (arrOf st).map (·.2)
        let touched := (← seqEpoch a) != e1
        Builtin.List.listUpdate (.ref a) fun _ => sorted
        if let some e := failedOf st then rule "list.sort.comparison-raised"; throw e
        if touched then rule "list.sort.modified"; raiseError "ValueError" "list modified during sort"
        ret .none) P E { s with heap := H } := by
    intro st p hp hout hf
    have hpl : p.length = vs.length := by simpa using hp.length_eq
    rw [hout]
    dsimp only
    obtain ⟨c2, hc2⟩ : ∃ c2, (H.update a (Obj.mapSeq fun _ => (p.map fun i => vs.getD i Value.none).toArray)).get? a = some (seqObj "list" (p.map fun i => vs.getD i Value.none).toArray c2) := ⟨_, get?_update_seq hoH fun _ => (p.map fun i => vs.getD i Value.none).toArray⟩
    refine wpAny_bind (seqEpoch_at (s := { s with heap := H }) hoH rfl ?_)
    refine wpAny_bind (listUpdate_at (s := { s with heap := H }) hoH rfl ?_ (Nat.zero_le _) (by rw [List.size_toArray, List.length_map, hpl, sizeLine_eq]; omega))
    rw [hf]
    simp only [bne_self_eq_false, Bool.false_eq_true, if_false]
    exact wpAny_pure (h _ c2 p hp hc2 fun x o hx e => (Heap.get?_update_other _ _ (Ne.symm hx)).trans (old x o hx e))
  by_cases h2 : vs.toArray.size < 2
  · rw [if_pos h2, if_pos h2]
    refine wpAny_bind (wpAny_pure ?_)
    rw [StateT.run_pure]
    refine wpAny_bind (wpAny_pure ?_)
    refine fin (SortSt.mk' general' (vs.toArray.zip vs.toArray) #[] 7 none) (List.range vs.length) (List.Perm.refl _) ?_ rfl
    show (vs.toArray.zip vs.toArray).map (·.2) = _
    apply Array.toList_inj.mp
    rw [Array.toList_map, Array.toList_zip, List.map_snd_zip (by simp)]
    apply List.ext_getElem
    · simp
    · intro i h1 h2
      have hi : i < vs.length := by simpa using h1
      simp [hi]
  · rw [if_neg h2, if_neg h2]
    have h2' : 2 ≤ vs.length := by rw [List.size_toArray] at h2; omega
    obtain ⟨fs, k1, k2, k3⟩ := tups_of ms (hL.keep hkH)
    refine wpAny_bind (kat_kind (s := { s with heap := H }) (T := .type "int") k1 (by omega) (fun v hv => ?_) (by decide) ?_)
    · obtain ⟨i, t, rfl⟩ := k3 v hv
      exact Looks.of_pure rfl
    refine wpAny_bind (wpAny_mono (kat_run (s := { s with heap := H }) (ks := vs) (vs := vs) (G := fun p s' => s' = { s with heap := H } ∧ p.Perm (List.toArray (List.range vs.length))) (Q := fun st' s' => s' = { s with heap := H } ∧ ∃ p : Array Nat, p.Perm (List.toArray (List.range vs.length)) ∧ arrOf st' = p.map (kas_item (vs.toArray.zip vs.toArray)) ∧ failedOf st' = none)
      rfl h2' h64 (fun p st' s' _ h1 h2 h3 => ⟨h3.1, p, h3.2, h1, h2⟩) ?_) ?_ fun _ _ e => e)
    · refine kas_pure (fun i j C hi hj hC => ?_) (fun p hp => ⟨rfl, hp.2⟩) _ (leaf_sort (by omega))
      have hml : vs.length = ms.length := by simpa using hL.length
      have mm : ∀ i, i < vs.length → ∃ m, Is b (dM m) (vs.getD i Value.none) := fun i hi => by
        have e : (ms.map dM)[i]? = some (dM ms[i]) := by simp [List.getElem?_eq_getElem (show i < ms.length by omega)]
        obtain ⟨v, h1, h2⟩ := hL.get e
        exact ⟨ms[i], by rw [List.getD_eq_getElem?_getD, h1]; exact h2⟩
      obtain ⟨mi, hmi⟩ := mm i hi
      obtain ⟨mj, hmj⟩ := mm j hj
      exact lt_pure (s := { s with heap := H }) hkH hmi hmj hC
    · rintro ⟨⟨⟩, st'⟩ s' ⟨rfl, p, hp, har, hf⟩
      exact fin st' p.toList (perm_toList hp) (kat_snds rfl har) hf
end
end Mine
end
section
set_option maxRecDepth 100000
namespace Mine
open PySem PySem.W PyProof.Rows PySem.Calls

section
variable {prog : Program} {w : World} {s : Shared}
variable {A : Around} {E : Value → Shared → Prop}

/-! a dict's keys: the bare steps -/
theorem rawIt {d : Addr} {o : Obj} {es : Array DictEntry} {ep : Nat} {Q : Value → Shared → Prop} (hds : (d == sysModules) = false) (ho : s.heap.get? d = some o) (hx : o.ExactDict) (hd : o.data = .dict es ep)
    (h : Q (.ref s.heap.objs.size) { s with heap := s.heap.push { cls := .type "dict_keyiterator", data := .fields #[.ref d, .int 0 0, .int es.size 0, .int ep 0] } }) : wpAny (model prog w) A (pyIter (.ref d)) Q E s := by
  have hT : s.TypeIs (.ref d) "dict" := ⟨o, ho, hx.1⟩
  refine wpAny_pyIter_slot hT F.slot_dict_iter (wpAny_call_entry F.slot_dict_iter hT F.entry_dict_iter ?_ (F.args_dict_iter_1 _))
  unfold Builtin.«dict.__iter__»
  refine wpAny_bind ?_
  unfold Builtin.Dict.dictSlotNone
  refine wpAny_bind (wpAny_notOrdered_dict hT ?_)
  show wpAny _ _ (pure (Value.ref d)) _ _ s
  refine wpAny_pure ?_
  show wpAny _ _ (Builtin.Dict.showsAll d >>= _) _ _ s
  unfold Builtin.Dict.showsAll
  rw [if_neg (by rw [hds]; exact Bool.false_ne_true)]
  refine wpAny_bind (wpAny_pure ?_)
  refine wpAny_bind (wpAny_dictEntries ho hd ?_)
  refine wpAny_bind (wpAny_dictEpoch ho hd ?_)
  exact wpAny_bind (wpAny_newObj_type (wpAny_pure ⟨_, rfl, "dict_keyiterator", _, ⟨_, Heap.get?_push_size _ rfl, rfl⟩, F.slot_dict_keyiterator_next.lookup, h⟩))

theorem rawNx {I d : Addr} {i ep : Nat} {o : Obj} {es : Array DictEntry} {e : DictEntry} {Q : Option Value → Shared → Prop} (hi : s.heap.IsKeyIter I d i es.size ep) (hod : s.heap.get? d = some o) (hdd : o.data = .dict es ep) (hx : es[i]? = some e)
    (h : ∀ h', h'.IsKeyIter I d (i + 1) es.size ep → Heap.SameBut I s.heap h' → Q (some e.key) { s with heap := h' }) : wpAny (model prog w) A (pyNext (.ref I)) Q E s := by
  obtain ⟨oi, ho, hc, hd⟩ := hi
  have hT : s.TypeIs (.ref I) "dict_keyiterator" := ⟨oi, ho, hc⟩
  unfold pyNext
  refine wpAny_bind (wpAny_attempt (wpAny_callSpecial?_slot (name := Str.ofString "__next__") hT F.slot_dict_keyiterator_next
    (wpAny_call_entry F.slot_dict_keyiterator_next hT F.entry_dict_keyiterator_next ?_ (F.args_dict_keyiterator_next_1 _))))
  refine wpAny_bind (wpAny_pure ?_)
  refine wpAny_bind ?_
  refine wpAny_bind ?_
  first | refine wpAny_bind (wpAny_typeNameOfWhole_keyiter hT (wpAny_pure ?_)) | refine wpAny_bind (wpAny_typeNameOf_keyiter hT (wpAny_pure ?_))
  refine wpAny_bind (wpAny_fieldsOf ho hd ?_)
  have hown : Builtin.Dict_items.ownsTuple "dict_keyiterator" = false := by decide
  simp only [hown, Bool.false_eq_true, if_false]
  show wpAny _ _ (if (Value.ref d == Value.none) = true then _ else _) _ _ s
  rw [if_neg (show ¬ ((Value.ref d == Value.none) = true) from Bool.false_ne_true)]
  refine wpAny_bind (wpAny_pure ?_)
  refine wpAny_bind (wpAny_dictEntries hod hdd ?_)
  rw [if_neg (by simp)]
  refine wpAny_bind (wpAny_pure ?_)
  refine wpAny_bind (wpAny_dictEpoch hod hdd ?_)
  rw [if_neg (by simp)]
  refine wpAny_pure ?_
  have hlt' : i < es.size := (Array.getElem?_eq_some_iff.mp hx).1
  have hee : es[i] = e := (Array.getElem?_eq_some_iff.mp hx).2
  simp only [show ¬ ((i : Int) < 0) from by lia, if_false, Int.toNat_natCast, Array.getElem?_eq_getElem hlt']
  refine wpAny_bind ?_
  first | refine wpAny_bind (wpAny_typeNameOfWhole_keyiter hT (wpAny_pure ?_)) | refine wpAny_bind (wpAny_typeNameOf_keyiter hT (wpAny_pure ?_))
  refine wpAny_bind (wpAny_isOneOf_keyiter hT ?_)
  show wpAny _ _ (setField (.ref I) 1 (rawInt ((i : Int) + 1)) >>= _) _ _ s
  refine wpAny_bind (wpAny_setField ho hd (by simp) ?_)
  have hit' : (s.heap.update I (Obj.mapFields (·.setIfInBounds 1 (rawInt ((i : Int) + 1))))).IsKeyIter I d (i + 1) es.size ep :=
    ⟨_, Heap.get?_update_self _ ho (Obj.isFreed_of_fields (Obj.data_mapFields hd _)), (Obj.cls_mapFields ..).trans hc, by rw [Obj.data_mapFields hd]; simp [rawInt]⟩
  refine wpAny_bind (wpAny_holding ?_)
  refine wpAny_bind (wpAny_isOneOf_keyiter (s := { s with heap := s.heap.update I (Obj.mapFields (·.setIfInBounds 1 (rawInt ((i : Int) + 1)))) }) hit'.typeIs ?_)
  show wpAny _ _ (pure es[i].key) _ _ _
  refine wpAny_pure (wpAny_pure ⟨_, rfl, wpAny_pure ?_⟩)
  rw [hee]
  exact h _ hit' (Heap.SameBut.update ..)

theorem rawNxE {I d : Addr} {ep : Nat} {o : Obj} {es : Array DictEntry} {Q : Option Value → Shared → Prop} (hi : s.heap.IsKeyIter I d es.size es.size ep) (hh : A.handled = none) (hod : s.heap.get? d = some o) (hdd : o.data = .dict es ep)
    (h : ∀ h', Heap.ExtBut I s.heap h' → Q none { s with heap := h' }) : wpAny (model prog w) A (pyNext (.ref I)) Q E s := by
  obtain ⟨oi, ho, hc, hd⟩ := hi
  have hT : s.TypeIs (.ref I) "dict_keyiterator" := ⟨oi, ho, hc⟩
  unfold pyNext
  refine wpAny_bind (wpAny_attempt (wpAny_callSpecial?_slot (name := Str.ofString "__next__") hT F.slot_dict_keyiterator_next
    (wpAny_call_entry F.slot_dict_keyiterator_next hT F.entry_dict_keyiterator_next ?_ (F.args_dict_keyiterator_next_1 _))))
  refine wpAny_bind (wpAny_pure ?_)
  refine wpAny_bind ?_
  refine wpAny_bind ?_
  first | refine wpAny_bind (wpAny_typeNameOfWhole_keyiter hT (wpAny_pure ?_)) | refine wpAny_bind (wpAny_typeNameOf_keyiter hT (wpAny_pure ?_))
  refine wpAny_bind (wpAny_fieldsOf ho hd ?_)
  have hown : Builtin.Dict_items.ownsTuple "dict_keyiterator" = false := by decide
  simp only [hown, Bool.false_eq_true, if_false]
  show wpAny _ _ (if (Value.ref d == Value.none) = true then _ else _) _ _ s
  rw [if_neg (show ¬ ((Value.ref d == Value.none) = true) from Bool.false_ne_true)]
  refine wpAny_bind (wpAny_pure ?_)
  refine wpAny_bind (wpAny_dictEntries hod hdd ?_)
  rw [if_neg (by simp)]
  refine wpAny_bind (wpAny_pure ?_)
  refine wpAny_bind (wpAny_dictEpoch hod hdd ?_)
  rw [if_neg (by simp)]
  refine wpAny_pure ?_
  simp only [show ¬ ((es.size : Int) < 0) from by lia, if_false, Int.toNat_natCast, Array.getElem?_eq_none (Nat.le_refl _)]
  refine wpAny_bind ?_
  first | refine wpAny_bind (wpAny_typeNameOfWhole_keyiter hT (wpAny_pure ?_)) | refine wpAny_bind (wpAny_typeNameOf_keyiter hT (wpAny_pure ?_))
  show wpAny _ _ (setField (.ref I) 0 .none >>= _) _ _ s
  refine wpAny_bind (wpAny_setField ho hd (by simp) ?_)
  show wpAny _ _ (newExc (.type "StopIteration") [] >>= _) _ _ _
  refine wpAny_bind ?_
  simp only [newExc, newTuple]
  refine wpAny_bind (wpAny_newObj_type ?_ (by size_fits))
  refine wpAny_bind (m := firstArgMember _ _) (wpAny_of_eq (a := Value.none) (by first | rfl | (simp only [firstArgMember]; rfl)) ?_)
  refine wpAny_newObj_type ?_ (by size_fits)
  simp only [raiseNew]
  refine wpAny_bind (wpAny_handled ?_)
  rw [show A.in1.handled = none from hh]
  refine wpAny_bind (wpAny_pure (wpAny_throw ?_))
  refine wpAny_bind (wpAny_isInstance (T := "StopIteration") (b := true) ⟨_, Heap.get?_push_size _ rfl, rfl⟩ isSubtype_stop ?_)
  exact wpAny_pure (h _ (((Heap.SameBut.update ..).extBut.push _).push _))


theorem keyWalks (hh : A.handled = none) (I d : Addr) (hne : d ≠ I) (es : Array DictEntry) (ep : Nat) :
    Walks prog w A I [I, d] [I] es.size (fun i v => ∃ e, es[i]? = some e ∧ e.key = v) (fun i h => h.IsKeyIter I d i es.size ep ∧ ∃ o, h.get? d = some o ∧ o.ExactDict ∧ o.data = .dict es ep) where
  sub := fun b hb => by simp at hb; simp [hb]
  frame := fun _ _ _ st hk => by
    obtain ⟨⟨oi, a1, a2⟩, o, h1, h2⟩ := st
    exact ⟨⟨oi, hk I (by simp) _ a1, a2⟩, o, hk d (by simp) _ h1, h2⟩
  item := fun i s Q E hi st hQ => by
    obtain ⟨hit, o, h1, h2, h3⟩ := st
    refine rawNx (e := es[i]) hit h1 h3 (by simp [hi]) fun h' hit' hs => ?_
    exact hQ _ h' s.toks ⟨es[i], by simp [hi], rfl⟩ ⟨hit', o, (hs.2 d hne).trans h1, h2, h3⟩ fun b o hb e => (hs.2 b (fun h => hb (by simp [h]))).trans e
  done := fun s Q E st hQ => by
    obtain ⟨hit, o, h1, h2, h3⟩ := st
    exact rawNxE hit hh h1 h3 fun h' he' => hQ h' s.toks fun b o hb e => he' b o (fun h => hb (by simp [h])) e
  self := fun _ _ _ _ st hQ => wpAny_pyIter_keyiter st.1 hQ

theorem keySrc {d : Addr} (lo : (d == sysModules) = false) (es : Array DictEntry) (ep : Nat) :
    KdlSrc prog w "dict" d d es.size (fun i v => ∃ e, es[i]? = some e ∧ e.key = v) (fun h => ∃ o, h.get? d = some o ∧ o.ExactDict ∧ o.data = .dict es ep) where
  type := fun s ⟨o, h1, h2, _⟩ => ⟨o, h1, h2.1⟩
  there := fun _ ⟨o, h1, _⟩ => ⟨Heap.lt_size h1, Heap.lt_size h1⟩
  keep := fun _ _ ⟨o, h1, h2⟩ hk => ⟨o, hk d (.inl rfl) _ h1, h2⟩
  notList := by decide
  notTuple := by decide
  hint := fun _ _ _ _ ⟨o, h1, h2, _⟩ hq => kdl_hint_dict ⟨o, h1, h2.1⟩ hq
  iter := fun A s hh ⟨o, h1, h2, h3⟩ => ⟨_, _, (fun _ _ hq => rawIt lo h1 h2 h3 hq), keyWalks hh _ d (Nat.ne_of_lt (Heap.lt_size h1)) es ep, ⟨⟨_, Heap.get?_push_size _ rfl, rfl, rfl⟩, o, Heap.get?_push_of_some _ h1, h2, h3⟩⟩
end

section
variable {prog : Program} {w : World} {s₀ s : Shared} {DD : List Addr} {b₀ : Heap} {env : Env} {cw : Bool} {m cm : Str → Option Value} {P : List As} {O : List Ow}
variable {A : Around} {E : Value → Shared → Prop}

theorem keys_isL {b h : Heap} {o : Obj} {p : Poly} {es : Array DictEntry} {ep : Nat} {acc : Array Value} (x : OPoly prog w b o p) (hd : o.data = .dict es ep) (hi : ItemsOf (fun i v => ∃ e, es[i]? = some e ∧ e.key = v) acc es.size) :
    IsL b ((p.map (·.1)).map dM) acc.toList ∧ es.size = p.length := by
  obtain ⟨es', ep', xs, h1, h2, h3, h4, h5, h6⟩ := x
  rw [hd] at h2
  cases h2
  have hsz : es.size = p.length := by rw [size_of_entries h3, h6.length]
  refine ⟨isL_of_get (by simp [hi.1, hsz]) fun j d hj => ?_, hsz⟩
  have hj' : ∃ e, p[j]? = some e ∧ dM e.1 = d := by
    rw [List.map_map, List.getElem?_map] at hj
    cases hp : p[j]? with
    | none => rw [hp] at hj; cases hj
    | some e => rw [hp] at hj; exact ⟨e, rfl, by simpa using hj⟩
  obtain ⟨e, hp, rfl⟩ := hj'
  obtain ⟨y, hy, hk⟩ := h6.at hp
  have hlt : j < acc.size := by rw [hi.1, hsz]; exact (List.getElem?_eq_some_iff.mp hp).1
  obtain ⟨e', he', hkey⟩ := hi.2 j acc[j] (Array.getElem?_eq_getElem hlt)
  refine ⟨acc[j], by rw [Array.getElem?_toList, Array.getElem?_eq_getElem hlt], ?_⟩
  have e2 : es.toList[j]? = some (entryOfKey (tk prog w) y) := by rw [h3, List.getElem?_map, hy]; rfl
  rw [Array.getElem?_toList, he'] at e2
  cases e2
  rw [← hkey]
  exact hk

theorem StB.ownsK {b : Heap} (S : StB prog w s₀ DD b₀ env cw m cm P O s b) {h' : Heap} {tk : Nat} {x : Ow} (k : Keep s.heap h') (ha : ∀ a o, s.heap.get? a = some o → a < x.a) (hx : x.on prog w b h') :
    StB prog w s₀ DD b₀ env cw m cm P (x :: O) { s with heap := h', toks := tk } b := by
  have S1 := S.kept (tk := tk) k
  have hL : env.locals < x.a := by obtain ⟨o, _, _, ho, _⟩ := S.ns; exact ha _ _ ho
  refine { S1 with own := fun y hy => ?_, oap := List.pairwise_cons.mpr ⟨fun y hy e => ?_, S1.oap⟩ }
  · rcases List.mem_cons.mp hy with rfl | hy
    · refine ⟨hx, ?_, Nat.ne_of_gt hL, fun n c hc e => ?_, .inr (Nat.le_trans S.nsn (Nat.le_of_lt hL))⟩
      · cases e : b.get? y.a with
        | none => rfl
        | some o => exact absurd (ha _ _ (S.bs _ _ e)) (Nat.lt_irrefl _)
      · obtain ⟨⟨o, ho, _⟩, _⟩ := S.cell n c hc
        exact absurd (ha _ _ ho) (by rw [e]; exact Nat.lt_irrefl _)
    · exact S1.own y hy
  · obtain ⟨o, ho⟩ := Ow.some (S.own y hy).1
    exact absurd (ha _ _ ho) (by rw [e]; exact Nat.lt_irrefl _)
theorem getD_all {α : Type} (l : List α) (d : α) : (List.range l.length).map (fun i => l.getD i d) = l := by
  apply List.ext_getElem
  · simp
  · intro i h1 h2
    simp [h2]

/-- list(d) -/
theorem dList {v : Value} {p : Poly} {Q : Value → Shared → Prop} (hh : A.handled = none) (S : St prog w s₀ DD b₀ env cw m cm P O s) (hd : Rd prog w s₀ DD b₀ P O v p) (hz : p.length ≤ 1000000)
    (h : ∀ a vs s', St prog w s₀ DD b₀ env cw m cm (As.iss vs ((p.map (·.1)).map dM) :: P) (Ow.list a vs :: O) s' → Q (.ref a) s') : wpAny (model prog w) A (call (.type "list") [v]) Q E s := by
  obtain ⟨b, d, o, B, rfl, g, ho, xo⟩ := hd.get S
  obtain ⟨es, ep, xs, hx, hdat, hes, hks, hnd, he⟩ := id xo
  have hsz : es.size = p.length := by rw [size_of_entries hes, he.length]
  refine kdl_call (keySrc g es ep) hh ⟨o, ho, hx, hdat⟩ (by rw [hsz]; exact Nat.le_trans hz (by rw [sizeLine]; decide)) fun h' tk acc c hk hD hacc => ?_
  obtain ⟨L, _⟩ := keys_isL (h := h') xo hdat hacc
  refine h _ acc.toList _ ⟨b, ?_⟩
  have B1 := B.ownsB (tk := tk) (x := Ow.list s.heap.objs.size acc.toList) hk (Nat.le_refl _) ⟨c, by rw [Array.toArray_toList]; exact hD⟩
  refine { B1 with facts := fun q hq => ?_ }
  rcases List.mem_cons.mp hq with rfl | hq
  · exact L
  · exact B1.facts q hq

/-- sorted(d) -/
theorem dSorted {v : Value} {p : Poly} {Q : Value → Shared → Prop} (hh : A.handled = none) (S : St prog w s₀ DD b₀ env cw m cm P O s) (hd : Rd prog w s₀ DD b₀ P O v p) (hz : p.length < 64)
    (h : ∀ a vs (ms : List Mono) s', ms.Perm (p.map (·.1)) → St prog w s₀ DD b₀ env cw m cm (As.iss vs (ms.map dM) :: P) (Ow.list a vs :: O) s' → Q (.ref a) s') : wpAny (model prog w) A (call (.builtin "sorted") [v]) Q E s := by
  obtain ⟨b, d, o, B, rfl, g, ho, xo⟩ := hd.get S
  obtain ⟨es, ep, xs, hx, hdat, hes, hks, hnd, he⟩ := id xo
  have hsz : es.size = p.length := by rw [size_of_entries hes, he.length]
  refine call_function_entry kind_sorted plain_sorted entry_sorted (args_sorted1 _) ?_
  unfold Builtin.«sorted»
  refine wpAny_bind (m := checkCount "sorted" 1 1 _) (wpAny_pure ?_)
  refine wpAny_bind (kdu_collect (A := A.in1) (keySrc g es ep) hh ⟨o, ho, hx, hdat⟩ (by rw [hsz]; exact Nat.le_trans (Nat.le_of_lt hz) (by rw [sizeLine]; decide)) fun h1 tk acc hk hacc => ?_)
  obtain ⟨L, _⟩ := keys_isL (h := h1) xo hdat hacc
  have hal : acc.toList.length = p.length := by simpa using L.length
  refine wpAny_bind (wpAny_newList ?_ (by rw [hal]; exact Nat.le_trans (Nat.le_of_lt hz) (by rw [sizeLine]; decide)))
  have hkp : Keep s.heap (h1.push { cls := .type "list", data := .seq acc.toList.toArray }) := fun x o e => Heap.get?_push_of_some _ (hk x o e)
  have hoL : (h1.push { cls := .type "list", data := .seq acc.toList.toArray }).get? h1.objs.size = some (seqObj "list" acc.toList.toArray 0) := Heap.get?_push_size _ rfl
  have hlt : ∀ a o, s.heap.get? a = some o → a < h1.objs.size := fun a o e => Heap.lt_size (hk _ _ e)
  have hbn : b.get? h1.objs.size = none := by
    cases e : b.get? h1.objs.size with
    | none => rfl
    | some o => exact absurd (hlt _ _ (B.bs _ _ e)) (Nat.lt_irrefl _)
  refine wpAny_bind (wpAny_holding (wpAny_call_entry slot_list_sort ⟨_, hoL, rfl⟩ entry_list_sort ?_ (args_list_sort _)))
  refine sort_pure (b := b) (ms := p.map (·.1)) hoL L (B.bs.trans hkp) hbn (by rw [hal]; exact hz) fun h2 c q hq hD hk2 => ?_
  refine ⟨_, rfl, wpAny_pure ⟨_, rfl, ?_⟩⟩
  have hkk : Keep s.heap h2 := fun x o e => hk2 x o (fun e' => absurd (hlt _ _ e) (by rw [e']; exact Nat.lt_irrefl _)) (hkp x o e)
  have hml : (p.map (·.1)).length = acc.toList.length := by rw [List.length_map, hal]
  refine h _ (q.map fun i => acc.toList.getD i Value.none) (q.map fun i => (p.map (·.1)).getD i (0, 0)) _ ?_ ⟨b, ?_⟩
  · have e := (hq.map fun i => (p.map (·.1)).getD i (0, 0))
    rw [← hml, getD_all] at e
    exact e
  · have B1 := B.ownsK (tk := tk) (x := Ow.list h1.objs.size (q.map fun i => acc.toList.getD i Value.none)) hkk hlt ⟨c, hD⟩
    refine { B1 with facts := fun r hr => ?_ }
    rcases List.mem_cons.mp hr with rfl | hr
    · refine isL_of_get (by simp) fun j d hj => ?_
      rw [List.map_map, List.getElem?_map] at hj
      cases hqj : q[j]? with
      | none => rw [hqj] at hj; cases hj
      | some i =>
        rw [hqj] at hj
        have hi : i < acc.toList.length := List.mem_range.mp (hq.mem_iff.mp (List.mem_of_getElem? hqj))
        have hi' : i < (p.map (·.1)).length := by rw [hml]; exact hi
        obtain ⟨v, hv1, hv2⟩ := L.get (j := i) (d := dM (p.map (·.1))[i]) (by rw [List.getElem?_map, List.getElem?_eq_getElem hi']; rfl)
        refine ⟨v, ?_, ?_⟩
        · rw [List.getElem?_map, hqj]
          show some (acc.toList.getD i Value.none) = some v
          rw [List.getD_eq_getElem?_getD, hv1]; rfl
        · have : d = dM (p.map (·.1))[i] := by
            simp only [Option.map_some, Option.some.injEq] at hj
            rw [← hj]
            show dM ((p.map (·.1)).getD i (0, 0)) = _
            rw [List.getD_eq_getElem?_getD, List.getElem?_eq_getElem hi']; rfl
          rw [this]; exact hv2
    · exact B1.facts r hr
end
end Mine
end
section
set_option maxRecDepth 100000
namespace Mine
open PySem PySem.W PyProof.Rows PySem.Calls

noncomputable def good (gs : List Poly) : List Poly := gs.filter fun p => decide (0 < p.length)
noncomputable def isbIn? (o : Ord) (gs : List Poly) (f : Poly) : List Poly → Option Bool
  | [] => some true
  | g :: r => (spoly? o f g).bind fun sp => (rest? o sp gs).bind fun rm => if ¬ rm.length ≤ 1000000 then none else if rm.length = 0 then isbIn? o gs f r else some false
noncomputable def isbOut? (o : Ord) (gs : List Poly) : Nat → List Poly → Option Bool
  | _, [] => some true
  | i, f :: r => (isbIn? o gs f (gs.take i)).bind fun b => if b = true then isbOut? o gs (i + 1) r else some false
noncomputable def isbasis? (o : Ord) (gs : List Poly) : Option Bool :=
  if (gs.all fun p => decide (p.length ≤ 1000000)) = true ∧ gs.length ≤ 1000 then isbOut? o (good gs) 0 (good gs) else none
noncomputable def ismem? (o : Ord) (f : Poly) (gs : List Poly) : Option Bool := (rest? o f gs).bind fun r => if r.length ≤ 1000000 then some (r.length == 0) else none
noncomputable def isOne (p : Poly) : Bool := match p with
  | [e] => e.1.1 + e.1.2 == 0
  | _ => false
noncomputable def iswhole? (gs : List Poly) : Option Bool := if (gs.all fun p => decide (p.length ≤ 1000000)) = true ∧ gs.length ≤ 1000 then some (gs.any isOne) else none

/-! the law's own division -/
noncomputable def fitsOf (q : Mono) (ls : List (Mono × Rat)) : List Nat := (List.range ls.length).filter fun i => match ls[i]? with
  | some t => mdiv t.1 q
  | none => false
noncomputable def lrest (o : Ord) (gs : List Poly) (ls : List (Mono × Rat)) : Nat → Poly → (Poly → Prop) → Prop
  | 0, _, _ => False
  | n + 1, left, Q => left.length < 64 ∧
    (∀ e ∈ left, ∀ j, (fitsOf e.1 ls).getLast? = some j → ∃ l g sh left', ls[j]? = some l ∧ gs[j]? = some g ∧ Sm e.2 ∧ Sm l.2 ∧ l.2 ≠ 0 ∧
      mvshift? g (mquot e.1 l.1) (e.2 / l.2) = some sh ∧ mvsub? left sh = some left' ∧ lrest o gs ls n left' Q) ∧
    ((∀ e ∈ left, fitsOf e.1 ls = []) → Q left)
noncomputable def leadsAll? (o : Ord) : List Poly → Option (List (Mono × Rat))
  | [] => some []
  | p :: r => (mlead o p).bind fun t => (leadsAll? o r).map (t :: ·)
/-- every run of the law's own division ends, and at what Q says -/
noncomputable def LRest (o : Ord) (f : Poly) (gs : List Poly) (Q : Poly → Prop) : Prop :=
  boxed f = true ∧ f.length ≤ 1000000 ∧ gs.length ≤ 1000 ∧ ∃ ls, leadsAll? o gs = some ls ∧ lrest o gs ls FUEL f Q
noncomputable def azIn? (o : Ord) (gs : List Poly) (f : Poly) (l : List Poly) : Prop := ∀ g ∈ l, ∃ sp, spoly? o f g = some sp ∧ LRest o sp gs fun r => r = []
noncomputable def AllZero (o : Ord) (gs : List Poly) : Prop := gs.length ≤ 1000 ∧ ∀ (i : Nat) (f : Poly), gs[i]? = some f → azIn? o gs f (gs.take i)
/-! the drawn polynomials -/
inductive Fnd : Nat → Poly → Prop where
  | zero : Fnd 0 []
  | skip {n f} : Fnd n f → Fnd (n + 1) f
  | put {n f} {a b c : Int} : Fnd n f → 0 ≤ a → a < 2 → 0 ≤ b → b < 2 → c ≠ 0 → -2 ≤ c → c ≤ 2 → Fnd (n + 1) (pset f (a, b) (c : Rat))
theorem pset_len : ∀ {p : Poly} {q : Mono} {c : Rat}, (pset p q c).length ≤ p.length + 1
  | [], _, _ => by simp [pset]
  | e :: p, q, c => by
    unfold pset
    split
    · simp
    · have := @pset_len p q c
      simp; omega
theorem Fnd.len : ∀ {n : Nat} {f : Poly}, Fnd n f → f.length ≤ n
  | _, _, .zero => by simp
  | _, _, .skip h => Nat.le_succ_of_le h.len
  | _, _, .put h _ _ _ _ _ _ _ => Nat.le_trans pset_len (Nat.succ_le_succ h.len)
end Mine
end
section
set_option maxRecDepth 100000
namespace Mine
open PySem PySem.W PyProof.Rows PySem.Calls

/-- the drawn polynomial, 0 at the point -/
noncomputable def ZA (x y : Rat) (p : Poly) : Prop := ∃ f, Fnd 2 f ∧ ∃ c, mvat? x y f = some c ∧ mvsub? f (mvterm (0, 0) c) = some p
noncomputable def K1 : Poly := [((1, 0), 2), ((0, 1), -1 / 3)]
noncomputable def K2 : Poly := [((0, 1), 1), ((0, 0), 5)]
noncomputable def K3 : Poly := [((5, 1), 1 / 7)]
/-- what the law asks of one draw -/
structure LawOk (o : Ord) (x y : Rat) (f g : Poly) (bs : List Poly) (u v told t1 f3 : Poly) (ws : List Poly) : Prop where
  gb : groebner? o 200 [f, g] = some bs
  len : bs.length ≤ 1000
  each : ∀ p ∈ bs, p.length ≠ 0 ∧ (∃ m, mlead o p = some (m, 1)) ∧ mvat? x y p = some 0
  zero : AllZero o bs
  isb : isbasis? o bs = some true
  isw : iswhole? bs = some false
  hu : mvmul? f K1 = some u
  hv : mvmul? g K2 = some v
  htold : mvadd? u v = some told
  mem : ∀ p ∈ [f, g, told], ismem? o p bs = some true ∧ LRest o p bs fun r => r = []
  ht1 : mvadd? told (mvterm (0, 0) 1) = some t1
  nmem : ismem? o t1 bs = some false
  emem : ismem? o [] bs = some true
  hf3 : mvadd? f (mvterm (0, 0) 3) = some f3
  gw : groebner? o 200 [f, g, f3] = some ws
  wlen : ws.length ≤ 1000
  wisw : iswhole? ws = some true
  wmem : ismem? o K3 ws = some true
/-- the plain law -/
structure Plain : Prop where
  za : ∀ (a b : Int), -1 ≤ a → a ≤ 1 → -1 ≤ b → b ≤ 1 → ∀ f, Fnd 2 f → ∃ c p, mvat? a b f = some c ∧ mvsub? f (mvterm (0, 0) c) = some p
  ok : ∀ (o : Ord) (a b : Int), -1 ≤ a → a ≤ 1 → -1 ≤ b → b ≤ 1 → ∀ f g, ZA a b f → ZA a b g → ∃ bs u v told t1 f3 ws, LawOk o a b f g bs u v told t1 f3 ws
end Mine
end
section
set_option maxRecDepth 100000
namespace Mine

noncomputable def cf (p : Poly) (m : Mono) : Rat := (plook p m).getD 0
noncomputable abbrev ks (p : Poly) : List Mono := p.map (·.1)
theorem ks_cons (e : Mono × Rat) (p : Poly) : ks (e :: p) = e.1 :: ks p := rfl
structure WF (p : Poly) : Prop where
  nd : (ks p).Nodup
  nz : ∀ e ∈ p, e.2 ≠ 0
noncomputable def Lam (l : Mono → Rat) : Poly → Rat
  | [] => 0
  | e :: p => e.2 * l e.1 + Lam l p

theorem plook_none {p : Poly} {m : Mono} : plook p m = none ↔ m ∉ ks p := by
  induction p with
  | nil => simp [plook]
  | cons e p ih =>
    unfold plook
    by_cases h : e.1 = m
    · simp [h]
    · simp only [h, if_false, List.map_cons, List.mem_cons, not_or]
      rw [ih]
      exact ⟨fun q => ⟨fun q' => h q'.symm, q⟩, fun q => q.2⟩
theorem cf_nil (m : Mono) : cf [] m = 0 := rfl
theorem cf_cons (e : Mono × Rat) (p : Poly) (m : Mono) : cf (e :: p) m = if e.1 = m then e.2 else cf p m := by
  unfold cf
  rw [show plook (e :: p) m = if e.1 = m then some e.2 else plook p m from rfl]
  split <;> rfl
theorem cf_not {p : Poly} {m : Mono} (h : m ∉ ks p) : cf p m = 0 := by unfold cf; rw [plook_none.mpr h]; rfl
theorem WF.tl {e : Mono × Rat} {p : Poly} (h : WF (e :: p)) : WF p ∧ e.1 ∉ ks p ∧ e.2 ≠ 0 := by
  have h1 := h.nd
  rw [ks_cons, List.nodup_cons] at h1
  exact ⟨⟨h1.2, fun x hx => h.nz x (List.mem_cons_of_mem _ hx)⟩, h1.1, h.nz e List.mem_cons_self⟩
theorem WF.mem {p : Poly} (h : WF p) {e : Mono × Rat} (he : e ∈ p) : cf p e.1 = e.2 := by
  induction p with
  | nil => exact nomatch he
  | cons x p ih =>
    obtain ⟨h1, h2, h3⟩ := h.tl
    rw [cf_cons]
    rcases List.mem_cons.mp he with rfl | he
    · rw [if_pos rfl]
    · rw [if_neg (fun q => h2 (by rw [q]; exact List.mem_map_of_mem he)), ih h1 he]
theorem WF.key {p : Poly} (h : WF p) {m : Mono} : m ∈ ks p ↔ cf p m ≠ 0 := by
  constructor
  · intro hm
    obtain ⟨e, he, rfl⟩ := List.mem_map.mp hm
    rw [h.mem he]; exact h.nz e he
  · intro hc
    by_cases hm : m ∈ ks p
    · exact hm
    · exact absurd (cf_not hm) hc
theorem WF.look {p : Poly} (h : WF p) {m : Mono} (hm : m ∈ ks p) : plook p m = some (cf p m) := by
  unfold cf
  cases e : plook p m with
  | none => exact absurd hm (plook_none.mp e)
  | some c => rfl
theorem WF.eq_nil {p : Poly} (h : WF p) (h0 : ∀ m, cf p m = 0) : p = [] := by
  cases p with
  | nil => rfl
  | cons e p =>
    have := h.mem (e := e) List.mem_cons_self
    rw [h0] at this
    exact absurd this.symm (h.nz e List.mem_cons_self)

/-! put -/
theorem pset_keys {p : Poly} {q : Mono} {c : Rat} : ∀ m, m ∈ ks (pset p q c) ↔ m = q ∨ m ∈ ks p := by
  induction p with
  | nil => intro m; simp [pset]
  | cons e p ih =>
    intro m
    unfold pset
    by_cases h : e.1 = q
    · simp only [h, if_true, List.map_cons, List.mem_cons]
      constructor
      · rintro (h | h)
        · exact .inl h
        · exact .inr (.inr h)
      · rintro (h | h | h)
        · exact .inl h
        · exact .inl h
        · exact .inr h
    · simp only [h, if_false, List.map_cons, List.mem_cons]
      rw [ih m]
      constructor
      · rintro (h | h | h)
        · exact .inr (.inl h)
        · exact .inl h
        · exact .inr (.inr h)
      · rintro (h | h | h)
        · exact .inr (.inl h)
        · exact .inl h
        · exact .inr (.inr h)
theorem pset_mem {p : Poly} {q : Mono} {c : Rat} {e : Mono × Rat} (h : e ∈ pset p q c) : e = (q, c) ∨ e ∈ p := by
  induction p with
  | nil => simp [pset] at h; exact .inl h
  | cons x p ih =>
    unfold pset at h
    split at h
    · rename_i hx
      rcases List.mem_cons.mp h with h | h
      · rw [hx] at h; exact .inl h
      · exact .inr (List.mem_cons_of_mem _ h)
    · rcases List.mem_cons.mp h with h | h
      · exact .inr (h ▸ List.mem_cons_self)
      · exact (ih h).imp id (List.mem_cons_of_mem _)
theorem pdel_mem {p : Poly} {q : Mono} {e : Mono × Rat} (h : e ∈ pdel p q) : e ∈ p := by
  induction p with
  | nil => exact nomatch h
  | cons x p ih =>
    unfold pdel at h
    split at h
    · exact List.mem_cons_of_mem _ h
    · rcases List.mem_cons.mp h with h | h
      · exact h ▸ List.mem_cons_self
      · exact List.mem_cons_of_mem _ (ih h)
theorem pset_nd {p : Poly} {q : Mono} {c : Rat} (h : (ks p).Nodup) : (ks (pset p q c)).Nodup := by
  induction p with
  | nil => simp [pset]
  | cons e p ih =>
    rw [ks_cons, List.nodup_cons] at h
    unfold pset
    split
    · rw [ks_cons, List.nodup_cons]; exact h
    · rename_i hq
      rw [ks_cons, List.nodup_cons, pset_keys]
      refine ⟨fun q' => ?_, ih h.2⟩
      rcases q' with q' | q'
      · exact hq q'
      · exact h.1 q'
theorem pdel_sub {p : Poly} {q : Mono} : (pdel p q).Sublist p := by
  induction p with
  | nil => exact .slnil
  | cons e p ih =>
    unfold pdel
    split
    · exact List.sublist_cons_self _ _
    · exact ih.cons_cons _
theorem pdel_nd {p : Poly} {q : Mono} (h : (ks p).Nodup) : (ks (pdel p q)).Nodup := h.sublist (pdel_sub.map _)
theorem put_wf {p : Poly} {q : Mono} {t : Rat} (h : WF p) : WF (put p q t) := by
  unfold put
  split
  · exact ⟨pdel_nd h.nd, fun e he => h.nz e (pdel_mem he)⟩
  · rename_i ht
    refine ⟨pset_nd h.nd, fun e he => ?_⟩
    rcases pset_mem he with rfl | he
    · exact ht
    · exact h.nz e he
theorem put_len {p : Poly} {q : Mono} {t : Rat} : (put p q t).length ≤ p.length + 1 := by
  unfold put
  split
  · exact Nat.le_succ_of_le pdel_sub.length_le
  · exact pset_len

/-! a linear form -/
theorem lam_pset {l : Mono → Rat} {p : Poly} {q : Mono} {c : Rat} (h : (ks p).Nodup) : Lam l (pset p q c) = Lam l p - cf p q * l q + c * l q := by
  induction p with
  | nil => simp only [pset, Lam, cf_nil]; grind
  | cons e p ih =>
    rw [ks_cons, List.nodup_cons] at h
    unfold pset
    rw [cf_cons]
    split
    · rename_i hq
      simp only [Lam, hq]; grind
    · simp only [Lam]; rw [ih h.2]; grind
theorem lam_pdel {l : Mono → Rat} {p : Poly} {q : Mono} (h : (ks p).Nodup) : Lam l (pdel p q) = Lam l p - cf p q * l q := by
  induction p with
  | nil => simp only [pdel, Lam, cf_nil]; grind
  | cons e p ih =>
    rw [ks_cons, List.nodup_cons] at h
    unfold pdel
    rw [cf_cons]
    split
    · rename_i hq
      simp only [Lam, hq]; grind
    · simp only [Lam]; rw [ih h.2]; grind
theorem lam_put {l : Mono → Rat} {p : Poly} {q : Mono} {t : Rat} (h : (ks p).Nodup) : Lam l (put p q t) = Lam l p - cf p q * l q + t * l q := by
  unfold put
  split
  · rename_i ht
    rw [lam_pdel h, ht]; grind
  · exact lam_pset h
theorem addT_eq {p p' : Poly} {q : Mono} {c : Rat} (h : addT? p q c = some p') : p' = put p q (cf p q + c) := by
  unfold addT? at h
  split at h
  · split at h
    · rename_i x hx
      split at h
      · cases h; unfold cf; rw [hx]; rfl
      · cases h
    · rename_i hx
      cases h
      unfold cf; rw [hx]
      show put p q c = put p q (0 + c)
      rw [Rat.zero_add]
  · cases h
theorem lam_addT {l : Mono → Rat} {p p' : Poly} {q : Mono} {c : Rat} (hp : WF p) (h : addT? p q c = some p') : Lam l p' = Lam l p + c * l q := by
  rw [addT_eq h, lam_put hp.nd]; grind
theorem addT_wf {p p' : Poly} {q : Mono} {c : Rat} (hp : WF p) (h : addT? p q c = some p') : WF p' := by rw [addT_eq h]; exact put_wf hp
theorem fold_wf {r f f' : Poly} (hf : WF f) (h : foldAdd? f r = some f') : WF f' := by
  induction r generalizing f with
  | nil => cases h; exact hf
  | cons e r ih =>
    obtain ⟨g, h1, h2⟩ := Option.bind_eq_some_iff.mp h
    exact ih (addT_wf hf h1) h2
theorem lam_fold {l : Mono → Rat} {r f f' : Poly} (hf : WF f) (h : foldAdd? f r = some f') : Lam l f' = Lam l f + Lam l r := by
  induction r generalizing f with
  | nil => cases h; simp only [Lam]; grind
  | cons e r ih =>
    obtain ⟨g, h1, h2⟩ := Option.bind_eq_some_iff.mp h
    rw [ih (addT_wf hf h1) h2, lam_addT hf h1]
    simp only [Lam]; grind
noncomputable def ind (n : Mono) : Mono → Rat := fun m => if m = n then 1 else 0
theorem lam_ind {p : Poly} (h : (ks p).Nodup) (n : Mono) : Lam (ind n) p = cf p n := by
  induction p with
  | nil => rfl
  | cons e p ih =>
    rw [ks_cons, List.nodup_cons] at h
    rw [cf_cons]
    simp only [Lam]
    rw [ih h.2]
    unfold ind
    split
    · rename_i he
      rw [cf_not (he ▸ h.1)]; grind
    · grind
theorem lam_map {l : Mono → Rat} {g : Mono → Mono} {r : Rat} (p : Poly) : Lam l (p.map fun e => (g e.1, e.2 * r)) = r * Lam (fun m => l (g m)) p := by
  induction p with
  | nil => simp only [List.map_nil, Lam]; grind
  | cons e p ih => simp only [List.map_cons, Lam]; rw [ih]; grind
end Mine
end
section
set_option maxRecDepth 100000
namespace Mine
open PySem

/-! ### the operations succeed and what they make -/
theorem fold_some {r f : Poly} (hr : (ks r).Nodup) (h1 : ∀ e ∈ r, Sm e.2) (h2 : ∀ e ∈ r, Sm (cf f e.1)) (hl : f.length + r.length ≤ 1000000) : ∃ f', foldAdd? f r = some f' := by
  induction r generalizing f with
  | nil => exact ⟨f, rfl⟩
  | cons e r ih =>
    rw [ks_cons, List.nodup_cons] at hr
    have ha : addT? f e.1 e.2 = some (put f e.1 (cf f e.1 + e.2)) := by
      unfold addT?
      rw [if_pos (by simp at hl; lia)]
      cases hp : plook f e.1 with
      | none =>
        simp only
        have : cf f e.1 = 0 := by unfold cf; rw [hp]; rfl
        rw [this, Rat.zero_add]
      | some x =>
        simp only
        have hx : cf f e.1 = x := by unfold cf; rw [hp]; rfl
        have := h2 e List.mem_cons_self
        rw [hx] at this
        rw [if_pos ⟨this, h1 e List.mem_cons_self⟩, hx]
    have hcf : ∀ e' ∈ r, cf (put f e.1 (cf f e.1 + e.2)) e'.1 = cf f e'.1 := fun e' he' => by
      have hne : e.1 ≠ e'.1 := fun q => hr.1 (q ▸ List.mem_map_of_mem he')
      have look_pset : ∀ (p : Poly) (c : Rat), plook (pset p e.1 c) e'.1 = plook p e'.1 := by
        intro p c
        induction p with
        | nil => simp [pset, plook, hne]
        | cons x p ih =>
          unfold pset
          split
          · rename_i hx
            have hx' : x.1 ≠ e'.1 := by rw [hx]; exact hne
            simp only [plook, hx', if_false]
          · simp only [plook]; rw [ih]
      have look_pdel : ∀ (p : Poly), plook (pdel p e.1) e'.1 = plook p e'.1 := by
        intro p
        induction p with
        | nil => rfl
        | cons x p ih =>
          unfold pdel
          split
          · rename_i hx
            simp only [plook, hx, hne, if_false]
          · simp only [plook]; rw [ih]
      unfold cf put
      split
      · rw [look_pdel]
      · rw [look_pset]
    obtain ⟨f', hf'⟩ := ih (f := put f e.1 (cf f e.1 + e.2)) hr.2 (fun x hx => h1 x (List.mem_cons_of_mem _ hx)) (fun x hx => by rw [hcf x hx]; exact h2 x (List.mem_cons_of_mem _ hx))
      (by have := @put_len f e.1 (cf f e.1 + e.2); simp at hl; lia)
    exact ⟨f', by unfold foldAdd?; rw [ha]; exact hf'⟩

noncomputable def mneg (p : Poly) : Poly := mvneg p
theorem ks_neg (p : Poly) : ks (mvneg p) = ks p := by unfold mvneg ks; rw [List.map_map]; rfl
theorem lam_neg {l : Mono → Rat} (p : Poly) : Lam l (mvneg p) = - Lam l p := by
  induction p with
  | nil => simp only [mvneg, List.map_nil, Lam]; grind
  | cons e p ih =>
    have : mvneg (e :: p) = (e.1, -e.2) :: mvneg p := rfl
    rw [this]
    simp only [Lam]; rw [ih]; grind
theorem mvadd_lam {l : Mono → Rat} {a b c : Poly} (ha : WF a) (h : mvadd? a b = some c) : WF c ∧ Lam l c = Lam l a + Lam l b := by
  unfold mvadd? at h
  split at h
  · exact ⟨fold_wf ha h, lam_fold ha h⟩
  · cases h
theorem mvsub_lam {l : Mono → Rat} {a b c : Poly} (ha : WF a) (h : mvsub? a b = some c) : WF c ∧ Lam l c = Lam l a - Lam l b := by
  unfold mvsub? at h
  split at h
  · obtain ⟨h1, h2⟩ := mvadd_lam (l := l) ha h
    refine ⟨h1, ?_⟩
    rw [h2, lam_neg]; grind
  · cases h
theorem sm_neg {x : Rat} (h : Sm x) : Sm (-x) := by
  unfold Sm at *
  rw [Rat.neg_num, Rat.neg_den]
  refine ⟨?_, h.2⟩
  have e : Builtin.Int.intBits (-x.num) = Builtin.Int.intBits x.num := by
    unfold Builtin.Int.intBits
    simp [Int.natAbs_neg]
  rw [e]; exact h.1
theorem mvadd_some {a b : Poly} (hb : (ks b).Nodup) (hbx : boxed a = true) (h1 : ∀ e ∈ b, Sm e.2) (h2 : ∀ e ∈ b, Sm (cf a e.1)) (hl : a.length + b.length ≤ 1000000) : ∃ c, mvadd? a b = some c := by
  unfold mvadd?
  rw [if_pos ⟨hbx, by lia⟩]
  exact fold_some hb h1 h2 hl
theorem mvsub_some {a b : Poly} (hb : (ks b).Nodup) (hbx : boxed a = true) (h1 : ∀ e ∈ b, Sm e.2) (h2 : ∀ e ∈ b, Sm (cf a e.1)) (hl : a.length + b.length ≤ 1000000) : ∃ c, mvsub? a b = some c := by
  unfold mvsub?
  rw [if_pos (by lia)]
  refine mvadd_some (by rw [ks_neg]; exact hb) hbx (fun e he => ?_) (fun e he => ?_) (by simpa [mvneg] using hl)
  · obtain ⟨x, hx, rfl⟩ := List.mem_map.mp he
    exact sm_neg (h1 x hx)
  · obtain ⟨x, hx, rfl⟩ := List.mem_map.mp he
    exact h2 x hx

/-! shifts -/
noncomputable def shl (p : Poly) (m : Mono) (r : Rat) : Poly := p.map fun e => (mprod e.1 m, e.2 * r)
theorem shift_some {p : Poly} {m : Mono} {r : Rat} (hr : r ≠ 0) (h1 : Sm r) (h2 : ∀ e ∈ p, Sm e.2) (hl : p.length ≤ 1000000) : mvshift? p m r = some (shl p m r) := by
  unfold mvshift?
  rw [if_neg hr, if_pos ⟨h1, List.all_eq_true.mpr fun e he => by simpa using h2 e he, hl⟩]
  rfl
theorem mprod_inj' {x y z : Mono} (h : mprod x z = mprod y z) : x = y := by
  unfold mprod at h
  simp only [Prod.mk.injEq] at h
  exact Prod.ext (by lia) (by lia)
theorem ks_shl (p : Poly) (m : Mono) (r : Rat) : ks (shl p m r) = (ks p).map (fun x => mprod x m) := by unfold shl ks; rw [List.map_map, List.map_map]; rfl
theorem shl_nd {p : Poly} {m : Mono} {r : Rat} (h : (ks p).Nodup) : (ks (shl p m r)).Nodup := by
  rw [ks_shl]
  exact List.pairwise_map.mpr (h.imp fun h he => h (mprod_inj' he))
theorem shl_wf {p : Poly} {m : Mono} {r : Rat} (hr : r ≠ 0) (h : WF p) : WF (shl p m r) := by
  refine ⟨shl_nd h.nd, fun e he => ?_⟩
  obtain ⟨x, hx, rfl⟩ := List.mem_map.mp he
  have := h.nz x hx
  exact fun q => (Rat.mul_eq_zero.mp q).elim this hr
theorem lam_shl {l : Mono → Rat} (p : Poly) (m : Mono) (r : Rat) : Lam l (shl p m r) = r * Lam (fun x => l (mprod x m)) p := lam_map (g := fun x => mprod x m) p
theorem cf_shl {p : Poly} (h : (ks p).Nodup) (m n : Mono) (r : Rat) : cf (shl p m r) n = r * cf p (n.1 - m.1, n.2 - m.2) := by
  rw [← lam_ind (shl_nd h), lam_shl, ← lam_ind h]
  congr 1
  congr 1
  funext x
  unfold ind mprod
  have : ((x.1 + m.1, x.2 + m.2) = n) ↔ (x = (n.1 - m.1, n.2 - m.2)) := by
    constructor
    · rintro rfl; exact Prod.ext (by simp) (by simp)
    · rintro rfl; exact Prod.ext (by simp) (by simp)
  simp only [this]
theorem scale_some {p : Poly} {r : Rat} (hr : r ≠ 0) (h1 : Sm r) (h2 : ∀ e ∈ p, Sm e.2) (hl : p.length ≤ 1000000) : mvscale? p r = some (p.map fun e => (e.1, e.2 * r)) := by
  unfold mvscale?
  rw [if_neg hr, if_pos ⟨h1, List.all_eq_true.mpr fun e he => by simpa using h2 e he, hl⟩]

/-! ### sizes -/
/-- one denominator for all, and what it makes of them, below 2^B -/
noncomputable def Sz (B : Nat) (p : Poly) : Prop := ∃ D : Nat, 0 < D ∧ D < 2 ^ B ∧ ∀ e ∈ p, ∃ z : Int, e.2 * (D : Rat) = (z : Rat) ∧ z.natAbs < 2 ^ B
theorem bits_le {x : Int} {B : Nat} (h : x.natAbs < 2 ^ B) : Builtin.Int.intBits x ≤ B := by
  unfold Builtin.Int.intBits
  split
  · exact Nat.zero_le _
  · rename_i hx
    have hne : x.natAbs ≠ 0 := by
      intro h0
      apply hx
      simp [Int.natAbs_eq_zero.mp h0]
    exact (Nat.log2_lt hne).mpr h
theorem sm_of {x : Rat} {D B : Nat} {z : Int} (hD : 0 < D) (hDB : D < 2 ^ B) (h : x * (D : Rat) = (z : Rat)) (hz : z.natAbs < 2 ^ B) (hB : B ≤ bitsCap) : Sm x := by
  have hx : x = Rat.divInt z D := by
    rw [Rat.divInt_eq_div]
    have hD0 : ((D : Int) : Rat) ≠ 0 := by
      have : (D : Int) ≠ 0 := by lia
      exact_mod_cast this
    rw [← h]
    have e : ((D : Int) : Rat) = (D : Rat) := rfl
    rw [e] at hD0 ⊢
    grind
  have hDz : (D : Int) ≠ 0 := by lia
  unfold Sm
  constructor
  · refine Nat.le_trans (bits_le (B := B) ?_) hB
    rw [hx, Rat.num_divInt]
    refine Nat.lt_of_le_of_lt ?_ hz
    rw [Int.sign_eq_one_of_pos (by lia), Int.one_mul]
    exact Int.natAbs_ediv_le_natAbs _ _
  · refine Nat.le_trans (bits_le (B := B) ?_) hB
    rw [hx, Rat.den_divInt, if_neg hDz]
    simp only [Int.natAbs_natCast]
    exact Nat.lt_of_le_of_lt (Nat.div_le_self _ _) hDB
theorem Sz.mono {B C : Nat} {p : Poly} (h : Sz B p) (hBC : B ≤ C) : Sz C p := by
  obtain ⟨D, h1, h2, h3⟩ := h
  have hp : 2 ^ B ≤ 2 ^ C := Nat.pow_le_pow_right (by decide) hBC
  exact ⟨D, h1, Nat.lt_of_lt_of_le h2 hp, fun e he => let ⟨z, a, b⟩ := h3 e he; ⟨z, a, Nat.lt_of_lt_of_le b hp⟩⟩
end Mine
end
section
set_option maxRecDepth 100000
namespace Mine
open PySem

/-! ### the order -/
noncomputable def gt (o : Ord) (a b : Mono) : Prop := lexI .Gt (okey o a) (okey o b) = true
noncomputable def gtP (o : Ord) (a b : Mono) : Prop := match o with
  | .lex => a.1 > b.1 ∨ (a.1 = b.1 ∧ a.2 > b.2)
  | _ => a.1 + a.2 > b.1 + b.2 ∨ (a.1 + a.2 = b.1 + b.2 ∧ a.1 > b.1)
theorem gt_iff {o : Ord} {a b : Mono} : gt o a b ↔ gtP o a b := by
  unfold gt gtP
  cases o
  · simp only [okey, lexI]
    by_cases h1 : a.1 = b.1 <;> by_cases h2 : a.2 = b.2 <;> simp [h1, h2, lexOp] <;> lia
  · simp only [okey, lexI]
    by_cases h0 : a.1 + a.2 = b.1 + b.2 <;> by_cases h1 : a.1 = b.1 <;> by_cases h2 : a.2 = b.2 <;> simp [h0, h1, h2, lexOp] <;> lia
  · simp only [okey, lexI]
    by_cases h0 : a.1 + a.2 = b.1 + b.2 <;> by_cases h1 : a.1 = b.1 <;> by_cases h2 : a.2 = b.2 <;> simp [h0, h1, h2, lexOp] <;> lia
theorem gt_irrefl {o : Ord} {a : Mono} : ¬ gt o a a := by
  rw [gt_iff]; unfold gtP; cases o <;> simp
theorem gt_trans {o : Ord} {a b c : Mono} (h1 : gt o a b) (h2 : gt o b c) : gt o a c := by
  rw [gt_iff] at *; unfold gtP at *; cases o <;> simp only at * <;> lia
theorem gt_total {o : Ord} (a b : Mono) : a = b ∨ gt o a b ∨ gt o b a := by
  rw [gt_iff, gt_iff]; unfold gtP
  have : a = b ↔ a.1 = b.1 ∧ a.2 = b.2 := ⟨fun h => by rw [h]; exact ⟨rfl, rfl⟩, fun h => Prod.ext h.1 h.2⟩
  rw [this]
  cases o <;> simp only <;> lia
theorem gt_add {o : Ord} {a b : Mono} (c : Mono) : gt o (mprod a c) (mprod b c) ↔ gt o a b := by
  rw [gt_iff, gt_iff]; unfold gtP mprod; cases o <;> simp only <;> lia
/-- nothing falls for ever -/
noncomputable def kap (o : Ord) (m : Mono) : Nat × Nat := match o with
  | .lex => (m.1.toNat, m.2.toNat)
  | _ => ((m.1 + m.2).toNat, m.1.toNat)
noncomputable def nn (m : Mono) : Prop := 0 ≤ m.1 ∧ 0 ≤ m.2
theorem kap_lt {o : Ord} {a b : Mono} (ha : nn a) (hb : nn b) (h : gt o a b) : Prod.Lex (· < ·) (· < ·) (kap o b) (kap o a) := by
  rw [gt_iff] at h
  unfold gtP at h
  unfold kap nn at *
  cases o <;> simp only at * <;> rw [Prod.lex_def] <;> simp only <;> lia
theorem lt_ind {o : Ord} {C : Mono → Prop} (step : ∀ t, nn t → (∀ t', nn t' → gt o t t' → C t') → C t) : ∀ t, nn t → C t := by
  have wf : WellFounded (Prod.Lex (α := Nat) (β := Nat) (· < ·) (· < ·)) := (Prod.lex ⟨_, Nat.lt_wfRel.wf⟩ ⟨_, Nat.lt_wfRel.wf⟩).wf
  have key : ∀ k : Nat × Nat, ∀ t, nn t → kap o t = k → C t := fun k =>
    wf.induction (C := fun k => ∀ t, nn t → kap o t = k → C t) k fun k ih t ht e => step t ht fun t' ht' hg => ih (kap o t') (e ▸ kap_lt ht ht' hg) t' ht' rfl
  exact fun t ht => key _ t ht rfl

/-! ### leads -/
theorem leadGo_max {o : Ord} : ∀ (r : Poly) (b m : Mono), leadGo o (some b) r = some m → (m = b ∨ m ∈ ks r) ∧ (m = b ∨ gt o m b) ∧ ∀ n ∈ ks r, n = m ∨ gt o m n
  | [], b, m, h => by
    unfold leadGo at h; cases h
    exact ⟨.inl rfl, .inl rfl, fun n hn => nomatch hn⟩
  | e :: r, b, m, h => by
    rw [show leadGo o (some b) (e :: r) = leadGo o (if lexI .Gt (okey o e.1) (okey o b) = true then some e.1 else some b) r from rfl] at h
    split at h
    · rename_i hg
      obtain ⟨h1, h2, h3⟩ := leadGo_max r e.1 m h
      have hmb : gt o m b := by
        rcases h2 with rfl | h2
        · exact hg
        · exact gt_trans h2 hg
      refine ⟨.inr ?_, .inr hmb, fun n hn => ?_⟩
      · rcases h1 with rfl | h1
        · exact List.mem_cons_self
        · exact List.mem_cons_of_mem _ h1
      · rcases List.mem_cons.mp hn with rfl | hn
        · rcases h2 with h2 | h2
          · exact .inl h2.symm
          · exact .inr h2
        · exact h3 n hn
    · rename_i hg
      obtain ⟨h1, h2, h3⟩ := leadGo_max r b m h
      refine ⟨h1.imp id (List.mem_cons_of_mem _), h2, fun n hn => ?_⟩
      rcases List.mem_cons.mp hn with rfl | hn
      · have hbe : e.1 = b ∨ gt o b e.1 := by
          rcases gt_total (o := o) e.1 b with h | h | h
          · exact .inl h
          · exact absurd h hg
          · exact .inr h
        rcases h2 with rfl | h2
        · exact hbe
        · rcases hbe with hbe | hbe
          · exact .inr (by have h5 := h2; rw [← hbe] at h5; exact h5)
          · exact .inr (gt_trans h2 hbe)
      · exact h3 n hn
theorem leadGo_some {o : Ord} : ∀ (r : Poly) (b : Mono), ∃ m, leadGo o (some b) r = some m
  | [], b => ⟨b, rfl⟩
  | e :: r, b => by
    rw [show leadGo o (some b) (e :: r) = leadGo o (if lexI .Gt (okey o e.1) (okey o b) = true then some e.1 else some b) r from rfl]
    split
    · exact leadGo_some r _
    · exact leadGo_some r _
theorem mlead_spec {o : Ord} {p : Poly} {t : Mono × Rat} (hp : WF p) (h : mlead o p = some t) : t.1 ∈ ks p ∧ t.2 = cf p t.1 ∧ ∀ n ∈ ks p, n = t.1 ∨ gt o t.1 n := by
  unfold mlead at h
  obtain ⟨m, h1, h2⟩ := Option.bind_eq_some_iff.mp h
  obtain ⟨c, h3, rfl⟩ := Option.map_eq_some_iff.mp h2
  cases p with
  | nil => cases h1
  | cons e p =>
    obtain ⟨q1, q2, q3⟩ := leadGo_max p e.1 m h1
    have hm : m ∈ ks (e :: p) := by
      rcases q1 with rfl | q1
      · exact List.mem_cons_self
      · exact List.mem_cons_of_mem _ q1
    refine ⟨hm, ?_, fun n hn => ?_⟩
    · unfold cf; rw [h3]; rfl
    · rcases List.mem_cons.mp hn with rfl | hn
      · rcases q2 with q2 | q2
        · exact .inl q2.symm
        · exact .inr q2
      · exact q3 n hn
theorem mlead_some {o : Ord} {p : Poly} (hp : WF p) (hne : p ≠ []) : ∃ t, mlead o p = some t := by
  cases p with
  | nil => exact absurd rfl hne
  | cons e p =>
    obtain ⟨m, hm⟩ := leadGo_some (o := o) p e.1
    obtain ⟨q1, _, _⟩ := leadGo_max p e.1 m hm
    have hmk : m ∈ ks (e :: p) := by
      rcases q1 with rfl | q1
      · exact List.mem_cons_self
      · exact List.mem_cons_of_mem _ q1
    refine ⟨(m, cf (e :: p) m), ?_⟩
    unfold mlead
    rw [show leadGo o none (e :: p) = leadGo o (some e.1) p from rfl, hm, Option.bind_some, hp.look hmk]
    rfl
theorem mlead_of {o : Ord} {p : Poly} {m : Mono} (hp : WF p) (hm : m ∈ ks p) (h : ∀ n ∈ ks p, n = m ∨ gt o m n) : mlead o p = some (m, cf p m) := by
  obtain ⟨t, ht⟩ := mlead_some (o := o) hp (by rintro rfl; exact nomatch hm)
  obtain ⟨h1, h2, h3⟩ := mlead_spec hp ht
  have : t.1 = m := by
    rcases h _ h1 with h | h
    · exact h
    · rcases h3 _ hm with h' | h'
      · exact h'.symm
      · exact absurd (gt_trans h h') gt_irrefl
  rw [ht]
  congr 1
  exact Prod.ext this (by rw [h2, this])
end Mine
end
section
set_option maxRecDepth 100000
namespace Mine
open PySem

/-! ### spans -/
noncomputable abbrev Fn := Mono → Rat
noncomputable def sh (s : Mono) (F : Fn) : Fn := fun n => F (n.1 - s.1, n.2 - s.2)
noncomputable def lin (F : Fn) (c : Rat) (s : Mono) (G : Fn) : Fn := fun n => F n + c * sh s G n
/-- a basis, seen by its functions: leads and monic functions -/
noncomputable abbrev Bas := List (Mono × Fn)
structure BOk (o : Ord) (X : Bas) : Prop where
  nn : ∀ x ∈ X, nn x.1
  one : ∀ x ∈ X, x.2 x.1 = 1
  top : ∀ x ∈ X, ∀ n, x.2 n ≠ 0 → n = x.1 ∨ gt o x.1 n
/-- sums of multiples whose leads lie below t -/
inductive Sp (o : Ord) (X : Bas) (t : Mono) : Fn → Prop where
  | zero : Sp o X t (fun _ => 0)
  | add {F : Fn} {x : Mono × Fn} {s : Mono} {c : Rat} : Sp o X t F → x ∈ X → nn s → gt o t (mprod x.1 s) → Sp o X t (lin F c s x.2)

theorem Sp.mono {o : Ord} {X : Bas} {t t' : Mono} {F : Fn} (h : Sp o X t F) (ht : gt o t' t) : Sp o X t' F := by
  induction h with
  | zero => exact .zero
  | add _ hx hs hg ih => exact .add ih hx hs (gt_trans ht hg)
theorem Sp.more {o : Ord} {X Y : Bas} {t : Mono} {F : Fn} (h : Sp o X t F) (hXY : ∀ x ∈ X, x ∈ Y) : Sp o Y t F := by
  induction h with
  | zero => exact .zero
  | add _ hx hs hg ih => exact .add ih (hXY _ hx) hs hg
theorem Sp.eq {o : Ord} {X : Bas} {t : Mono} {F G : Fn} (h : Sp o X t F) (e : ∀ n, F n = G n) : Sp o X t G := by
  have : F = G := funext e
  exact this ▸ h
theorem Sp.plus {o : Ord} {X : Bas} {t : Mono} {F G : Fn} (hF : Sp o X t F) (hG : Sp o X t G) : Sp o X t (fun n => F n + G n) := by
  induction hG with
  | zero => exact hF.eq fun n => by grind
  | @add G x s c _ hx hs hg ih => exact (Sp.add (c := c) ih hx hs hg).eq fun n => by simp only [lin]; grind
theorem Sp.smul {o : Ord} {X : Bas} {t : Mono} {F : Fn} (c : Rat) (hF : Sp o X t F) : Sp o X t (fun n => c * F n) := by
  induction hF with
  | zero => exact Sp.zero.eq fun n => by grind
  | @add G x s d _ hx hs hg ih => exact (Sp.add (c := c * d) ih hx hs hg).eq fun n => by simp only [lin]; grind
theorem sh_sh (u s : Mono) (F : Fn) (n : Mono) : sh u (sh s F) n = sh (mprod s u) F n := by
  unfold sh mprod
  congr 1
  exact Prod.ext (by simp only; lia) (by simp only; lia)
theorem mprod_assoc (a b c : Mono) : mprod (mprod a b) c = mprod a (mprod b c) := by unfold mprod; exact Prod.ext (by simp only; lia) (by simp only; lia)
theorem mprod_comm (a b : Mono) : mprod a b = mprod b a := by unfold mprod; exact Prod.ext (by simp only; lia) (by simp only; lia)
theorem nn_mprod {a b : Mono} (ha : nn a) (hb : nn b) : nn (mprod a b) := by unfold nn mprod at *; simp only; lia
theorem Sp.shift {o : Ord} {X : Bas} {t : Mono} {F : Fn} (u : Mono) (hu : nn u) (hF : Sp o X t F) : Sp o X (mprod t u) (sh u F) := by
  induction hF with
  | zero => exact Sp.zero.eq fun n => rfl
  | @add G x s d _ hx hs hg ih =>
    refine (Sp.add (c := d) ih hx (nn_mprod hs hu) (by rw [← mprod_assoc]; exact (gt_add u).mpr hg)).eq fun n => ?_
    simp only [lin]
    rw [← sh_sh]
    rfl
/-- what is below t vanishes at t -/
theorem Sp.at0 {o : Ord} {X : Bas} (hX : BOk o X) {t : Mono} {F : Fn} (h : Sp o X t F) : ∀ n, F n ≠ 0 → gt o t n := by
  induction h with
  | zero => intro n hn; exact absurd rfl hn
  | @add G x s d _ hx hs hg ih =>
    intro n hn
    by_cases hG : G n = 0
    · have hxn : x.2 (n.1 - s.1, n.2 - s.2) ≠ 0 := by
        intro h0
        apply hn
        simp only [lin, sh]
        rw [hG, h0]; grind
      have e : mprod (n.1 - s.1, n.2 - s.2) s = n := by unfold mprod; exact Prod.ext (by simp) (by simp)
      rcases hX.top x hx _ hxn with h1 | h1
      · rw [← e, h1]; exact hg
      · rw [← e]; exact gt_trans hg ((gt_add s).mpr h1)
    · exact ih n hG
theorem Sp.vanish {o : Ord} {X : Bas} (hX : BOk o X) {t : Mono} {F : Fn} (h : Sp o X t F) : F t = 0 := by
  by_cases h0 : F t = 0
  · exact h0
  · exact absurd (h.at0 hX t h0) gt_irrefl

/-- the pair's difference at every common multiple of the leads -/
noncomputable def SRep (o : Ord) (X : Bas) (x y : Mono × Fn) : Prop := ∀ t, nn t → (∀ s r, nn s → nn r → mprod x.1 s = t → mprod y.1 r = t → Sp o X t (fun n => sh s x.2 n - sh r y.2 n))
theorem SRep.symm {o : Ord} {X : Bas} {x y : Mono × Fn} (h : SRep o X x y) : SRep o X y x := fun t ht s r hs hr h1 h2 => ((h t ht r s hr hs h2 h1).smul (-1)).eq fun n => by grind
theorem mprod_cancel {a s r : Mono} (h : mprod a s = mprod a r) : s = r := by
  unfold mprod at h
  simp only [Prod.mk.injEq] at h
  exact Prod.ext (by lia) (by lia)
theorem SRep.refl {o : Ord} {X : Bas} {x : Mono × Fn} : SRep o X x x := fun t _ s r _ _ h1 h2 => by
  have : s = r := mprod_cancel (h1.trans h2.symm)
  subst this
  exact Sp.zero.eq fun n => by grind
/-- terms up to t -/
inductive SpLe (o : Ord) (X : Bas) (t : Mono) : Fn → Prop where
  | zero : SpLe o X t (fun _ => 0)
  | add {F : Fn} {x : Mono × Fn} {s : Mono} {c : Rat} : SpLe o X t F → x ∈ X → nn s → (mprod x.1 s = t ∨ gt o t (mprod x.1 s)) → SpLe o X t (lin F c s x.2)
theorem SpLe.top {o : Ord} {X : Bas} {t : Mono} (ht : nn t) (hR : ∀ x ∈ X, ∀ y ∈ X, SRep o X x y) {F : Fn} (h : SpLe o X t F) :
    Sp o X t F ∨ ∃ x ∈ X, ∃ s c F1, nn s ∧ mprod x.1 s = t ∧ Sp o X t F1 ∧ ∀ n, F n = F1 n + c * sh s x.2 n := by
  induction h with
  | zero => exact .inl .zero
  | @add G y r d _ hy hr hg ih =>
    rcases hg with hg | hg
    · rcases ih with ih | ⟨x, hx, s, c, F1, hs, hxs, h1, h2⟩
      · exact .inr ⟨y, hy, r, d, G, hr, hg, ih, fun n => rfl⟩
      · refine .inr ⟨x, hx, s, c + d, fun n => F1 n + d * (sh r y.2 n - sh s x.2 n), hs, hxs, ?_, fun n => ?_⟩
        · exact h1.plus ((hR y hy x hx t ht r s hr hs hg hxs).smul d)
        · simp only [lin]; rw [h2 n]; grind
    · rcases ih with ih | ⟨x, hx, s, c, F1, hs, hxs, h1, h2⟩
      · exact .inl (.add ih hy hr hg)
      · refine .inr ⟨x, hx, s, c, lin F1 d r y.2, hs, hxs, .add h1 hy hr hg, fun n => ?_⟩
        simp only [lin]; rw [h2 n]; grind
theorem Sp.le {o : Ord} {X : Bas} (hX : BOk o X) {t : Mono} {F : Fn} (h : Sp o X t F) : (∀ n, F n = 0) ∨ ∃ t', nn t' ∧ gt o t t' ∧ SpLe o X t' F := by
  induction h with
  | zero => exact .inl fun _ => rfl
  | @add G y r d _ hy hr hg ih =>
    have hyr : nn (mprod y.1 r) := nn_mprod (hX.nn y hy) hr
    refine .inr ?_
    rcases ih with ih | ⟨t', h1, h2, h3⟩
    · refine ⟨_, hyr, hg, ?_⟩
      have : G = fun _ => 0 := funext ih
      rw [this]
      exact .add .zero hy hr (.inl rfl)
    · have up : ∀ {a b : Mono} {H : Fn}, SpLe o X a H → (a = b ∨ gt o b a) → SpLe o X b H := by
        intro a b H hH hab
        induction hH with
        | zero => exact .zero
        | add _ q1 q2 q3 q4 =>
          refine .add q4 q1 q2 ?_
          rcases hab with rfl | hab
          · exact q3
          · rcases q3 with q3 | q3
            · exact .inr (by rw [q3]; exact hab)
            · exact .inr (gt_trans hab q3)
      rcases gt_total (o := o) t' (mprod y.1 r) with h | h | h
      · exact ⟨t', h1, h2, .add h3 hy hr (.inl h.symm)⟩
      · exact ⟨t', h1, h2, .add h3 hy hr (.inr h)⟩
      · exact ⟨_, hyr, hg, .add (up h3 (.inr h)) hy hr (.inl rfl)⟩
/-- Buchberger: what is in the ideal and has no monomial that a lead divides is 0 -/
theorem normal_zero {o : Ord} {X : Bas} (hX : BOk o X) (hR : ∀ x ∈ X, ∀ y ∈ X, SRep o X x y) {F : Fn} (hn : ∀ n, F n ≠ 0 → ∀ x ∈ X, mdiv x.1 n = false) {t : Mono} (h : Sp o X t F) : ∀ n, F n = 0 := by
  have key : ∀ t, nn t → SpLe o X t F → ∀ n, F n = 0 := by
    refine lt_ind (o := o) fun t ht ih hle => ?_
    have hsp : Sp o X t F := by
      rcases hle.top ht hR with h | ⟨x, hx, s, c, F1, hs, hxs, h1, h2⟩
      · exact h
      · have hFt : F t = 0 := by
          by_cases h0 : F t = 0
          · exact h0
          · have := hn t h0 x hx
            rw [← hxs] at this
            unfold mdiv mprod nn at *
            simp at this
            lia
        have hc : c = 0 := by
          have e := h2 t
          rw [hFt, h1.vanish hX] at e
          have e1 : sh s x.2 t = 1 := by
            have : (t.1 - s.1, t.2 - s.2) = x.1 := by rw [← hxs]; unfold mprod; exact Prod.ext (by simp) (by simp)
            unfold sh
            rw [this]; exact hX.one x hx
          rw [e1] at e; grind
        exact h1.eq fun n => by rw [h2 n, hc]; grind
    rcases hsp.le hX with h | ⟨t', h1, h2, h3⟩
    · exact h
    · exact ih t' h1 h2 h3
  rcases h.le hX with h | ⟨t', h1, h2, h3⟩
  · exact h
  · exact key t' h1 h3
/-- the chain criterion -/
theorem SRep.chain {o : Ord} {X : Bas} {x y z : Mono × Fn} (h1 : SRep o X x z) (h2 : SRep o X z y) (hz : ∀ t, nn t → mdiv x.1 t = true → mdiv y.1 t = true → mdiv z.1 t = true) : SRep o X x y := by
  intro t ht s r hs hr e1 e2
  have hd : mdiv z.1 t = true := by
    apply hz t ht
    · rw [← e1]; unfold mdiv mprod nn at *; simp; lia
    · rw [← e2]; unfold mdiv mprod nn at *; simp; lia
  have hq : nn (mquot t z.1) ∧ mprod z.1 (mquot t z.1) = t := by
    unfold mdiv at hd
    simp only [Bool.and_eq_true, decide_eq_true_eq] at hd
    unfold nn mquot mprod
    exact ⟨by simp only; lia, Prod.ext (by simp only; lia) (by simp only; lia)⟩
  exact ((h1 t ht s _ hs hq.1 e1 hq.2).plus (h2 t ht _ r hq.1 hr hq.2 e2)).eq fun n => by grind
end Mine
end
section
set_option maxRecDepth 100000
namespace Mine
open PySem

/-! ### the product criterion; pairs from their least common multiple -/
theorem lam_lin {l1 l2 : Mono → Rat} {c : Rat} (p : Poly) : Lam (fun k => l1 k + c * l2 k) p = Lam l1 p + c * Lam l2 p := by
  induction p with
  | nil => simp only [Lam]; grind
  | cons e p ih => simp only [Lam]; rw [ih]; grind
theorem lam_congr {l1 l2 : Mono → Rat} {p : Poly} (h : ∀ e ∈ p, l1 e.1 = l2 e.1) : Lam l1 p = Lam l2 p := by
  induction p with
  | nil => rfl
  | cons e p ih => simp only [Lam]; rw [h e List.mem_cons_self, ih fun x hx => h x (List.mem_cons_of_mem _ hx)]
theorem lam_zero (p : Poly) : Lam (fun _ => 0) p = 0 := by
  induction p with
  | nil => rfl
  | cons e p ih => simp only [Lam]; rw [ih]; grind
theorem conv_comm {p q : Poly} (hp : (ks p).Nodup) (hq : (ks q).Nodup) (n : Mono) : Lam (fun k => sh k (cf q) n) p = Lam (fun k => sh k (cf p) n) q := by
  induction p with
  | nil => simp only [Lam]; exact (lam_zero q).symm
  | cons e p ih =>
    rw [ks_cons, List.nodup_cons] at hp
    have e1 : Lam (fun k => sh k (cf (e :: p)) n) q = Lam (fun k => sh k (cf p) n + e.2 * ind (n.1 - e.1.1, n.2 - e.1.2) k) q := by
      refine lam_congr fun x _ => ?_
      unfold sh ind
      rw [cf_cons]
      have hiff : (e.1 = (n.1 - x.1.1, n.2 - x.1.2)) ↔ (x.1 = (n.1 - e.1.1, n.2 - e.1.2)) := by
        constructor
        · intro h
          have h1 := congrArg Prod.fst h
          have h2 := congrArg Prod.snd h
          simp only at h1 h2
          exact Prod.ext (by simp only; lia) (by simp only; lia)
        · intro h
          have h1 := congrArg Prod.fst h
          have h2 := congrArg Prod.snd h
          simp only at h1 h2
          exact Prod.ext (by simp only; lia) (by simp only; lia)
      by_cases h : e.1 = (n.1 - x.1.1, n.2 - x.1.2)
      · rw [if_pos h, if_pos (hiff.mp h), cf_not (h ▸ hp.1)]; grind
      · rw [if_neg h, if_neg (fun q => h (hiff.mpr q))]; grind
    rw [e1, lam_lin, lam_ind hq, ← ih hp.2]
    simp only [Lam]
    unfold sh
    grind
theorem Sp.lam {o : Ord} {X : Bas} {t b : Mono} {G : Fn} (hx : (b, G) ∈ X) (c : Rat) : ∀ {r : Poly}, (∀ e ∈ r, nn e.1 ∧ gt o t (mprod b e.1)) → Sp o X t (fun n => c * Lam (fun k => sh k G n) r)
  | [], _ => Sp.zero.eq fun n => by simp only [Lam]; grind
  | e :: r, h => by
    obtain ⟨h1, h2⟩ := h e List.mem_cons_self
    refine (Sp.add (c := c * e.2) (Sp.lam hx c fun x hx' => h x (List.mem_cons_of_mem _ hx')) hx h1 h2).eq fun n => ?_
    simp only [lin, Lam]; grind
/-- a polynomial in two parts: the lead and the rest of the list -/
theorem lam_split {l : Mono → Rat} {p : Poly} (hp : (ks p).Nodup) {a : Mono} : Lam l p = cf p a * l a + Lam l (p.filter fun e => !decide (e.1 = a)) := by
  induction p with
  | nil => simp only [Lam, cf_nil, List.filter_nil]; grind
  | cons e p ih =>
    rw [ks_cons, List.nodup_cons] at hp
    rw [cf_cons, List.filter_cons]
    by_cases h : e.1 = a
    · rw [if_pos h]
      simp only [h, decide_true, Bool.not_true, Bool.false_eq_true, if_false, Lam]
      rw [ih hp.2, cf_not (h ▸ hp.1)]
      grind
    · rw [if_neg h]
      simp only [h, decide_false, Bool.not_false, if_true, Lam]
      rw [ih hp.2]
      grind
theorem sh_sub (u : Mono) (F G : Fn) (n : Mono) : sh u (fun n => F n - G n) n = sh u F n - sh u G n := rfl
/-- from the least common multiple to all -/
theorem SRep.of {o : Ord} {X : Bas} {x y : Mono × Fn} (hx : nn x.1) (hy : nn y.1) (h : Sp o X (mjoin x.1 y.1) (fun n => sh (mquot (mjoin x.1 y.1) x.1) x.2 n - sh (mquot (mjoin x.1 y.1) y.1) y.2 n)) : SRep o X x y := by
  intro t ht s r hs hr e1 e2
  have hu : nn (mquot t (mjoin x.1 y.1)) := by
    rw [Prod.ext_iff] at e1 e2
    unfold mprod at e1 e2
    unfold nn mquot mjoin at *
    simp only at *
    lia
  have h1 := h.shift _ hu
  have et : mprod (mjoin x.1 y.1) (mquot t (mjoin x.1 y.1)) = t := by
    unfold mprod mquot; exact Prod.ext (by simp only; lia) (by simp only; lia)
  rw [et] at h1
  refine h1.eq fun n => ?_
  rw [sh_sub, sh_sh, sh_sh]
  have es : mprod (mquot (mjoin x.1 y.1) x.1) (mquot t (mjoin x.1 y.1)) = s := by
    rw [← e1]; unfold mprod mquot; exact Prod.ext (by simp only; lia) (by simp only; lia)
  have er : mprod (mquot (mjoin x.1 y.1) y.1) (mquot t (mjoin x.1 y.1)) = r := by
    rw [← e2]; unfold mprod mquot; exact Prod.ext (by simp only; lia) (by simp only; lia)
  rw [es, er]
/-- the product criterion -/
theorem SRep.prod {o : Ord} {X : Bas} (hX : BOk o X) {p q : Poly} {a b : Mono} (hp : WF p) (hq : WF q) (hnp : ∀ n ∈ ks p, nn n) (hnq : ∀ n ∈ ks q, nn n) (h1 : (a, cf p) ∈ X) (h2 : (b, cf q) ∈ X) (hab : mapart a b = true) :
    SRep o X (a, cf p) (b, cf q) := by
  have ha : nn a := hX.nn _ h1
  have hb : nn b := hX.nn _ h2
  have hj : mjoin a b = mprod a b := by
    unfold mapart at hab
    unfold nn at ha hb
    rw [beq_iff_eq] at hab
    unfold mjoin mprod
    exact Prod.ext (by simp only; lia) (by simp only; lia)
  have ep1 : cf p a = 1 := hX.one _ h1
  have eq1 : cf q b = 1 := hX.one _ h2
  refine SRep.of ha hb ?_
  simp only
  rw [hj]
  have ea : mquot (mprod a b) a = b := by unfold mquot mprod; exact Prod.ext (by simp only; lia) (by simp only; lia)
  have eb : mquot (mprod a b) b = a := by unfold mquot mprod; exact Prod.ext (by simp only; lia) (by simp only; lia)
  rw [ea, eb]
  have k1 := Sp.lam (o := o) (t := mprod a b) (c := 1) h2 (r := p.filter fun e => !decide (e.1 = a)) fun e he => by
    rw [List.mem_filter] at he
    obtain ⟨he1, he2⟩ := he
    have hne : e.1 ≠ a := by simpa using he2
    refine ⟨hnp _ (List.mem_map_of_mem he1), ?_⟩
    rcases hX.top _ h1 e.1 (by simp only; rw [hp.mem he1]; exact hp.nz e he1) with h | h
    · exact absurd h hne
    · rw [mprod_comm b e.1]; exact (gt_add b).mpr h
  have k2 := Sp.lam (o := o) (t := mprod a b) (c := -1) h1 (r := q.filter fun e => !decide (e.1 = b)) fun e he => by
    rw [List.mem_filter] at he
    obtain ⟨he1, he2⟩ := he
    have hne : e.1 ≠ b := by simpa using he2
    refine ⟨hnq _ (List.mem_map_of_mem he1), ?_⟩
    rcases hX.top _ h2 e.1 (by simp only; rw [hq.mem he1]; exact hq.nz e he1) with h | h
    · exact absurd h hne
    · rw [mprod_comm a b, mprod_comm a e.1]; exact (gt_add a).mpr h
  refine (k1.plus k2).eq fun n => ?_
  have c1 := lam_split (l := fun k => sh k (cf q) n) hp.nd (a := a)
  have c2 := lam_split (l := fun k => sh k (cf p) n) hq.nd (a := b)
  have c3 := conv_comm hp.nd hq.nd n
  rw [c1, c2, ep1, eq1] at c3
  grind
end Mine
end
section
set_option maxRecDepth 100000
namespace Mine
open PySem

/-! ### sizes of one number over a denominator -/
noncomputable def ZB (B D : Nat) (q : Rat) : Prop := ∃ z : Int, q * (D : Rat) = (z : Rat) ∧ z.natAbs < 2 ^ B
theorem ZB.zero {B D : Nat} : ZB B D 0 := ⟨0, by grind, by simp; exact Nat.two_pow_pos B⟩
theorem ZB.mono {B C D : Nat} {q : Rat} (h : ZB B D q) (hc : B ≤ C) : ZB C D q := let ⟨z, a, b⟩ := h; ⟨z, a, Nat.lt_of_lt_of_le b (Nat.pow_le_pow_right (by decide) hc)⟩
theorem ZB.mul {B C D E : Nat} {q r : Rat} (h : ZB B D q) (h' : ZB C E r) : ZB (B + C) (D * E) (q * r) := by
  obtain ⟨z, a, b⟩ := h
  obtain ⟨y, a', b'⟩ := h'
  refine ⟨z * y, ?_, ?_⟩
  · rw [Rat.natCast_mul, Rat.intCast_mul, ← a, ← a']; grind
  · rw [Int.natAbs_mul, Nat.pow_add]
    exact Nat.mul_lt_mul'' b b'
theorem ZB.up {B C D E : Nat} {q : Rat} (h : ZB B D q) (hE : E < 2 ^ C) : ZB (B + C) (D * E) q := by
  have h1 : ZB C E 1 := ⟨(E : Int), by rw [Rat.one_mul]; rfl, by simpa using hE⟩
  have := h.mul h1
  rwa [Rat.mul_one] at this
theorem ZB.sub {B D : Nat} {q r : Rat} (h : ZB B D q) (h' : ZB B D r) : ZB (B + 1) D (q - r) := by
  obtain ⟨z, a, b⟩ := h
  obtain ⟨y, a', b'⟩ := h'
  refine ⟨z - y, ?_, ?_⟩
  · rw [Rat.intCast_sub, ← a, ← a']; grind
  · rw [Nat.pow_succ]; lia
theorem ZB.neg {B D : Nat} {q : Rat} (h : ZB B D q) : ZB B D (-q) := by
  obtain ⟨z, a, b⟩ := h
  exact ⟨-z, by rw [Rat.intCast_neg, ← a]; grind, by simpa using b⟩
theorem ZB.sm {B D : Nat} {q : Rat} (h : ZB B D q) (h0 : 0 < D) (h1 : D < 2 ^ B) (hB : B ≤ bitsCap) : Sm q := let ⟨_, a, b⟩ := h; sm_of h0 h1 a b hB
theorem zb_cf {B D : Nat} {p : Poly} (hp : WF p) (h : ∀ e ∈ p, ZB B D e.2) (n : Mono) : ZB B D (cf p n) := by
  by_cases hn : n ∈ ks p
  · obtain ⟨e, he, rfl⟩ := List.mem_map.mp hn
    rw [hp.mem he]; exact h e he
  · rw [cf_not hn]; exact ZB.zero

/-! ### weights and counts -/
noncomputable def w4 (m : Mono) : Nat := 4 ^ m.1.toNat * 2 ^ m.2.toNat
theorem w4_mprod {a b : Mono} (ha : nn a) (hb : nn b) : w4 (mprod a b) = w4 a * w4 b := by
  unfold w4 mprod
  unfold nn at *
  simp only
  rw [Int.toNat_add ha.1 hb.1, Int.toNat_add ha.2 hb.2, Nat.pow_add, Nat.pow_add]
  grind
theorem w4_pos (m : Mono) : 0 < w4 m := Nat.mul_pos (Nat.pow_pos (by decide)) (Nat.pow_pos (by decide))
noncomputable def sumw (w : Mono → Nat) (L : List Mono) : Nat := (L.map w).sum
theorem sumw_erase (w : Mono → Nat) {L : List Mono} {x : Mono} (h : x ∈ L) : sumw w L = w x + sumw w (L.erase x) := by
  have := (List.perm_cons_erase h)
  unfold sumw
  rw [(this.map w).sum_nat]
  simp
theorem sumw_le (w : Mono → Nat) : ∀ {l L : List Mono}, l.Nodup → (∀ x ∈ l, x ∈ L) → sumw w l ≤ sumw w L
  | [], _, _, _ => Nat.zero_le _
  | x :: l, L, hn, h => by
    rw [List.nodup_cons] at hn
    rw [sumw_erase w (h x List.mem_cons_self)]
    have : sumw w l ≤ sumw w (L.erase x) := sumw_le w hn.2 fun y hy => by
      have hne : y ≠ x := fun e => hn.1 (e ▸ hy)
      exact (List.mem_erase_of_ne hne).mpr (h y (List.mem_cons_of_mem _ hy))
    show w x + sumw w l ≤ _
    lia
theorem len_le {l L : List Mono} (hn : l.Nodup) (h : ∀ x ∈ l, x ∈ L) : l.length ≤ L.length := by
  have key : ∀ L : List Mono, sumw (fun _ => 1) L = L.length := fun L => by
    induction L with
    | nil => rfl
    | cons x L ih => show 1 + sumw (fun _ => 1) L = _; rw [ih, List.length_cons]; lia
  have := sumw_le (fun _ => 1) hn h
  rwa [key, key] at this

/-! ### shapes -/
noncomputable def U6 : List Mono := [(1, 1), (1, 0), (0, 1), (0, 0)]
noncomputable def U2 : List Mono := [(0, 2), (0, 1), (0, 0)]
noncomputable def U5 : List Mono := [(1, 1), (0, 2), (1, 0), (0, 1), (0, 0)]
noncomputable def tl (m : Mono) : List Mono := if m = (1, 1) then [(1, 0), (0, 1), (0, 0)] else if m = (0, 2) ∨ m = (1, 0) then [(0, 1), (0, 0)] else if m = (0, 1) then [(0, 0)] else []
noncomputable def Shp (p : Poly) : Prop := (∀ n ∈ ks p, n ∈ U6) ∨ (∀ n ∈ ks p, n ∈ U2)
structure El (o : Ord) (B : Nat) (p : Poly) (m : Mono) : Prop where
  wf : WF p
  key : m ∈ ks p
  one : cf p m = 1
  top : ∀ n ∈ ks p, n = m ∨ gt o m n
  shp : Shp p
  sz : Sz B p
theorem tl6 {o : Ord} : ∀ m ∈ U6, m ∈ U5 ∧ ∀ n ∈ U6, gt o m n → n ∈ tl m := by unfold gt; cases o <;> decide
theorem tl2 {o : Ord} : ∀ m ∈ U2, m ∈ U5 ∧ ∀ n ∈ U2, gt o m n → n ∈ tl m := by unfold gt; cases o <;> decide
theorem U5_nn : ∀ m ∈ U5, 0 ≤ m.1 ∧ 0 ≤ m.2 := by decide
theorem tl_low : ∀ m ∈ U5, ∀ n ∈ tl m, (0 ≤ n.1 ∧ 0 ≤ n.2) ∧ n.1 + n.2 ≤ m.1 + m.2 := by decide
theorem tl_w : ∀ m ∈ U5, sumw w4 (tl m) < w4 m := by decide
theorem El.u5 {o : Ord} {B : Nat} {p : Poly} {m : Mono} (h : El o B p m) : m ∈ U5 := by
  rcases h.shp with h1 | h1
  · exact (tl6 (o := o) m (h1 m h.key)).1
  · exact (tl2 (o := o) m (h1 m h.key)).1
theorem El.tail {o : Ord} {B : Nat} {p : Poly} {m n : Mono} (h : El o B p m) (hn : n ∈ ks p) (hne : n ≠ m) : n ∈ tl m := by
  rcases h.top n hn with e | hg
  · exact absurd e hne
  · rcases h.shp with h1 | h1
    · exact (tl6 (o := o) m (h1 m h.key)).2 n (h1 n hn) hg
    · exact (tl2 (o := o) m (h1 m h.key)).2 n (h1 n hn) hg
theorem El.nnm {o : Ord} {B : Nat} {p : Poly} {m : Mono} (h : El o B p m) : nn m := U5_nn m h.u5
theorem El.nnk {o : Ord} {B : Nat} {p : Poly} {m : Mono} (h : El o B p m) : ∀ n ∈ ks p, nn n := fun n hn => by
  by_cases e : n = m
  · rw [e]; exact h.nnm
  · exact (tl_low m h.u5 n (h.tail hn e)).1
theorem El.len {o : Ord} {B : Nat} {p : Poly} {m : Mono} (h : El o B p m) : p.length ≤ 4 := by
  have e : p.length = (ks p).length := by simp
  rw [e]
  rcases h.shp with h1 | h1
  · exact len_le h.wf.nd h1
  · exact Nat.le_trans (len_le h.wf.nd h1) (by decide)
theorem El.lead {o : Ord} {B : Nat} {p : Poly} {m : Mono} (h : El o B p m) : mlead o p = some (m, 1) := by
  rw [mlead_of h.wf h.key h.top, h.one]
theorem El.ne {o : Ord} {B : Nat} {p : Poly} {m : Mono} (h : El o B p m) : p ≠ [] := by
  intro e; have := h.key; rw [e] at this; exact nomatch this

/-! ### one step of a division -/
theorem box_nn {p : Poly} (h : ∀ n ∈ ks p, nn n ∧ n.1 + n.2 ≤ 7) : boxed p = true := by
  unfold boxed
  rw [List.all_eq_true]
  intro e he
  obtain ⟨h1, h2⟩ := h e.1 (List.mem_map_of_mem he)
  unfold nn at h1
  unfold inBox
  simp only [Bool.and_eq_true, decide_eq_true_eq]
  lia
theorem red_step {o : Ord} {B Bg : Nat} {left rest g : Poly} {n0 m : Mono} (hl : WF left) (hg : El o Bg g m) (hn0 : n0 ∈ ks left) (hd : mdiv m n0 = true)
    (hnn : ∀ n ∈ ks left, nn n ∧ n.1 + n.2 ≤ 7) (hlen : left.length ≤ 1000) (hz : Sz B (left ++ rest)) (hB : B + Bg ≤ bitsCap) :
    ∃ s left', mvshift? g (mquot n0 m) (cf left n0 / 1) = some s ∧ mvsub? left s = some left' ∧ WF left' ∧ (∀ n, cf left' n = cf left n - cf left n0 * sh (mquot n0 m) (cf g) n) ∧
      (∀ n ∈ ks left', n ≠ n0 ∧ (n ∈ ks left ∨ ∃ t ∈ tl m, n = mprod t (mquot n0 m))) ∧ Sz (B + Bg + 1) (left' ++ rest) ∧ Sm (cf left n0) ∧ ∀ l : Mono → Rat, Lam l left' = Lam l left - cf left n0 * Lam (fun x => l (mprod x (mquot n0 m))) g := by
  have hdiv1 : cf left n0 / 1 = cf left n0 := by grind
  rw [hdiv1]
  obtain ⟨D, hD0, hDB, hDz⟩ := hz
  have hDl : ∀ e ∈ left, ZB B D e.2 := fun e he => hDz e (List.mem_append_left _ he)
  have hDr : ∀ e ∈ rest, ZB B D e.2 := fun e he => hDz e (List.mem_append_right _ he)
  obtain ⟨Dg, hg0, hgB, hgz⟩ := hg.sz
  have hgz : ∀ e ∈ g, ZB Bg Dg e.2 := hgz
  have hc0 : cf left n0 ≠ 0 := hl.key.mp hn0
  have hcZ := zb_cf hl hDl n0
  have hsmc : Sm (cf left n0) := hcZ.sm hD0 hDB (by lia)
  have hDD0 : 0 < D * Dg := Nat.mul_pos hD0 hg0
  have hDDB : D * Dg < 2 ^ (B + Bg) := by rw [Nat.pow_add]; exact Nat.mul_lt_mul'' hDB hgB
  have hs := shift_some (m := mquot n0 m) hc0 hsmc (fun e he => (hgz e he).sm hg0 hgB (by lia)) (Nat.le_trans hg.len (by decide))
  have hsnd := shl_nd (m := mquot n0 m) (r := cf left n0) hg.wf.nd
  have hsl : (shl g (mquot n0 m) (cf left n0)).length ≤ 4 := by unfold shl; rw [List.length_map]; exact hg.len
  obtain ⟨left', hsub⟩ := mvsub_some (a := left) (b := shl g (mquot n0 m) (cf left n0)) hsnd (box_nn hnn) (fun e he => by
      obtain ⟨x, hx, rfl⟩ := List.mem_map.mp he
      have := (hcZ.mul (hgz x hx)).sm hDD0 hDDB hB
      rwa [Rat.mul_comm] at this) (fun e _ => (zb_cf hl hDl e.1).sm hD0 hDB (by lia)) (by lia)
  have hwf' := (mvsub_lam (l := fun _ => 0) hl hsub).1
  have hcf : ∀ n, cf left' n = cf left n - cf left n0 * sh (mquot n0 m) (cf g) n := fun n => by
    rw [← lam_ind hwf'.nd, (mvsub_lam hl hsub).2, lam_ind hl.nd, lam_ind hsnd, cf_shl hg.wf.nd]
    rfl
  have hq : mprod m (mquot n0 m) = n0 := by unfold mprod mquot; exact Prod.ext (by simp only; lia) (by simp only; lia)
  refine ⟨_, left', hs, hsub, hwf', hcf, fun n hn => ?_, ⟨D * Dg, hDD0, Nat.lt_of_lt_of_le hDDB (Nat.pow_le_pow_right (by decide) (by lia)), fun e he => ?_⟩, hsmc, fun l => by rw [(mvsub_lam hl hsub).2, lam_shl]⟩
  · have hn' := hwf'.key.mp hn
    rw [hcf n] at hn'
    refine ⟨?_, ?_⟩
    · rintro rfl
      apply hn'
      have e1 : sh (mquot n m) (cf g) n = 1 := by
        have : (n.1 - (mquot n m).1, n.2 - (mquot n m).2) = m := by unfold mquot; exact Prod.ext (by simp only; lia) (by simp only; lia)
        unfold sh
        rw [this]; exact hg.one
      rw [e1]; grind
    · by_cases h1 : n ∈ ks left
      · exact .inl h1
      · refine .inr ?_
        have h2 : sh (mquot n0 m) (cf g) n ≠ 0 := by
          intro h2
          apply hn'
          rw [cf_not h1, h2]; grind
        unfold sh at h2
        have h3 := hg.wf.key.mpr h2
        refine ⟨_, hg.tail h3 ?_, by unfold mprod; exact Prod.ext (by simp only; lia) (by simp only; lia)⟩
        intro e
        apply h1
        have : n = n0 := by
          have e1 := congrArg Prod.fst e
          have e2 := congrArg Prod.snd e
          simp only at e1 e2
          rw [← hq]
          unfold mprod; exact Prod.ext (by simp only; lia) (by simp only; lia)
        rw [this]; exact hn0
  · show ZB _ _ _
    rcases List.mem_append.mp he with he | he
    · rw [← hwf'.mem he, hcf]
      refine ZB.sub ((zb_cf hl hDl e.1).up hgB) (hcZ.mul ?_)
      exact zb_cf hg.wf hgz _
    · exact ((hDr e he).up hgB).mono (by lia)
end Mine
end
section
set_option maxRecDepth 100000
namespace Mine
open PySem

/-! ### divisions -/
noncomputable def ldm (o : Ord) (g : Poly) : Mono := match mlead o g with
  | some t => t.1
  | none => (0, 0)
noncomputable def Els (o : Ord) (B : Nat) (gs : List Poly) : Prop := ∀ g ∈ gs, El o B g (ldm o g)
noncomputable def Xof (o : Ord) (gs : List Poly) : Bas := gs.map fun g => (ldm o g, cf g)
theorem Els.mono {o : Ord} {B C : Nat} {gs : List Poly} (h : Els o B gs) (hc : B ≤ C) : Els o C gs := fun g hg => { h g hg with sz := (h g hg).sz.mono hc }
theorem mem_Xof {o : Ord} {gs : List Poly} {g : Poly} (h : g ∈ gs) : (ldm o g, cf g) ∈ Xof o gs := List.mem_map_of_mem h
theorem Els.bok {o : Ord} {B : Nat} {gs : List Poly} (h : Els o B gs) : BOk o (Xof o gs) where
  nn := fun x hx => by
    obtain ⟨g, hg, rfl⟩ := List.mem_map.mp hx
    exact (h g hg).nnm
  one := fun x hx => by
    obtain ⟨g, hg, rfl⟩ := List.mem_map.mp hx
    exact (h g hg).one
  top := fun x hx n hn => by
    obtain ⟨g, hg, rfl⟩ := List.mem_map.mp hx
    exact (h g hg).top n ((h g hg).wf.key.mpr hn)
structure Cl (o : Ord) (gs : List Poly) (d : Int) (V : Mono → Prop) : Prop where
  low : ∀ n, V n → nn n ∧ n.1 + n.2 ≤ d
  red : ∀ n, V n → ∀ g ∈ gs, mdiv (ldm o g) n = true → ∀ t ∈ tl (ldm o g), V (mprod t (mquot n (ldm o g)))
theorem cl_deg {o : Ord} {B : Nat} {gs : List Poly} (h : Els o B gs) (d : Int) : Cl o gs d (fun n => nn n ∧ n.1 + n.2 ≤ d) where
  low := fun _ hn => hn
  red := fun n hn g hg hd t ht => by
    obtain ⟨h1, h2⟩ := tl_low _ (h g hg).u5 t ht
    unfold mdiv at hd
    simp only [Bool.and_eq_true, decide_eq_true_eq] at hd
    unfold nn mprod mquot at *
    simp only
    lia
theorem tl_gt {o : Ord} : ∀ m ∈ U5, ∀ n ∈ tl m, gt o m n := by unfold gt; cases o <;> decide
noncomputable def rank (o : Ord) (d : Int) (m : Mono) : Int := match o with
  | .lex => (d + 1) * m.1 + m.2
  | _ => (d + 1) * (m.1 + m.2) + m.1
theorem rank_lt {o : Ord} {d : Int} {a b : Mono} (ha : nn a) (hb : nn b) (hda : a.1 + a.2 ≤ d) (hdb : b.1 + b.2 ≤ d) (h : gt o a b) : rank o d b < rank o d a := by
  rw [gt_iff] at h
  unfold gtP at h
  unfold nn at *
  have key : ∀ u v : Int, u < v → (d + 1) * u + (d + 1) ≤ (d + 1) * v := fun u v huv => by
    have h1 : (d + 1) * (u + 1) ≤ (d + 1) * v := Int.mul_le_mul_of_nonneg_left (by lia) (by lia)
    rw [Int.mul_add, Int.mul_one] at h1
    exact h1
  cases o with
  | lex =>
    show (d + 1) * b.1 + b.2 < (d + 1) * a.1 + a.2
    simp only at h
    rcases h with h | ⟨h, h2⟩
    · have := key _ _ h; lia
    · rw [h]; lia
  | grlex =>
    show (d + 1) * (b.1 + b.2) + b.1 < (d + 1) * (a.1 + a.2) + a.1
    simp only at h
    rcases h with h | ⟨h, h2⟩
    · have := key _ _ h; lia
    · rw [h]; lia
  | grevlex =>
    show (d + 1) * (b.1 + b.2) + b.1 < (d + 1) * (a.1 + a.2) + a.1
    simp only at h
    rcases h with h | ⟨h, h2⟩
    · have := key _ _ h; lia
    · rw [h]; lia
theorem rank_nn {o : Ord} {d : Int} {a : Mono} (ha : nn a) (hd : 0 ≤ d) : 0 ≤ rank o d a := by
  unfold nn at ha
  unfold rank
  have h1 : 0 ≤ (d + 1) * a.1 := Int.mul_nonneg (by lia) ha.1
  have h2 : 0 ≤ (d + 1) * (a.1 + a.2) := Int.mul_nonneg (by lia) (by lia)
  cases o <;> simp only <;> lia
theorem firstDiv_spec {q : Mono} : ∀ (ls : List (Option (Mono × Rat))) (j : Int), (firstDiv q ls j = -1 ∧ ∀ t, some t ∈ ls → mdiv t.1 q = false) ∨ ∃ (i : Nat) (t : Mono × Rat), ls[i]? = some (some t) ∧ mdiv t.1 q = true ∧ firstDiv q ls j = j + i
  | [], j => .inl ⟨rfl, fun _ h => nomatch h⟩
  | none :: r, j => by
    have e : firstDiv q (none :: r) j = firstDiv q r (j + 1) := rfl
    rw [e]
    rcases firstDiv_spec r (j + 1) with ⟨h1, h2⟩ | ⟨i, t, h1, h2, h3⟩
    · refine .inl ⟨h1, fun t ht => ?_⟩
      rcases List.mem_cons.mp ht with h | h
      · cases h
      · exact h2 t h
    · exact .inr ⟨i + 1, t, by simpa using h1, h2, by rw [h3]; lia⟩
  | some t :: r, j => by
    have e : firstDiv q (some t :: r) j = if mdiv t.1 q = true then j else firstDiv q r (j + 1) := rfl
    rw [e]
    by_cases hm : mdiv t.1 q = true
    · rw [if_pos hm]
      exact .inr ⟨0, t, rfl, hm, by lia⟩
    · rw [if_neg hm]
      rcases firstDiv_spec r (j + 1) with ⟨h1, h2⟩ | ⟨i, t', h1, h2, h3⟩
      · refine .inl ⟨h1, fun t' ht => ?_⟩
        rcases List.mem_cons.mp ht with h | h
        · cases h; simpa using hm
        · exact h2 t' h
      · exact .inr ⟨i + 1, t', by simpa using h1, h2, by rw [h3]; lia⟩
theorem low_len {p : Poly} (hp : WF p) (h : ∀ n ∈ ks p, nn n ∧ n.1 + n.2 ≤ 7) : p.length ≤ 64 := by
  have e : p.length = (ks p).length := by simp
  rw [e]
  refine Nat.le_trans (len_le (L := boxAll) hp.nd fun x hx => mem_boxAll ?_) (by decide)
  obtain ⟨h1, h2⟩ := h x hx
  unfold nn at h1
  unfold inBox
  simp only [Bool.and_eq_true, decide_eq_true_eq]
  lia
noncomputable def Irr (o : Ord) (gs : List Poly) (p : Poly) : Prop := ∀ n ∈ ks p, ∀ g ∈ gs, mdiv (ldm o g) n = false
theorem wf_nil : WF [] := ⟨List.nodup_nil, fun _ h => nomatch h⟩
theorem cf_pdel {p : Poly} (hp : WF p) (q n : Mono) : cf (pdel p q) n = if n = q then 0 else cf p n := by
  have hw : (ks (pdel p q)).Nodup := pdel_nd hp.nd
  rw [← lam_ind hw, lam_pdel hp.nd, lam_ind hp.nd]
  unfold ind
  by_cases h : n = q
  · rw [if_pos h, if_pos h.symm, h]; grind
  · rw [if_neg h, if_neg (fun e => h e.symm)]; grind
theorem cf_pset {p : Poly} (hp : WF p) (q n : Mono) (c : Rat) : cf (pset p q c) n = if n = q then c else cf p n := by
  have hw : (ks (pset p q c)).Nodup := pset_nd hp.nd
  rw [← lam_ind hw, lam_pset hp.nd, lam_ind hp.nd]
  unfold ind
  by_cases h : n = q
  · rw [if_pos h, if_pos h.symm, h]; grind
  · rw [if_neg h, if_neg (fun e => h e.symm)]; grind
theorem pdel_wf {p : Poly} {q : Mono} (h : WF p) : WF (pdel p q) := ⟨pdel_nd h.nd, fun e he => h.nz e (pdel_mem he)⟩
theorem pset_wf {p : Poly} {q : Mono} {c : Rat} (h : WF p) (hc : c ≠ 0) : WF (pset p q c) := by
  refine ⟨pset_nd h.nd, fun e he => ?_⟩
  rcases pset_mem he with rfl | he
  · exact hc
  · exact h.nz e he
theorem pdel_keys {p : Poly} (hp : WF p) {q n : Mono} : n ∈ ks (pdel p q) ↔ n ≠ q ∧ n ∈ ks p := by
  rw [(pdel_wf hp).key, cf_pdel hp, hp.key]
  by_cases h : n = q <;> simp [h]

theorem divGo_ok {o : Ord} {Bg : Nat} {gs : List Poly} {V : Mono → Prop} {d : Int} (hE : Els o Bg gs) (hC : Cl o gs d V) (hd0 : 0 ≤ d) (hd : d ≤ 7) :
    ∀ (k n B : Nat) (qs : List Poly) (rest left : Poly), k < n → WF left → WF rest → (∀ m ∈ ks left, V m) → (∀ m ∈ ks rest, V m) → (∀ m ∈ ks left, rank o d m < k) → (∀ m ∈ ks left, ∀ r ∈ ks rest, gt o r m) →
      qs.length = gs.length → (∀ (i : Nat) (q g : Poly), qs[i]? = some q → gs[i]? = some g → q.length + k ≤ 1000 ∧ ∀ σ ∈ ks q, ∀ m ∈ ks left, gt o (mprod (ldm o g) σ) m) → Sz B (left ++ rest) → B + k * (Bg + 1) ≤ bitsCap → Irr o gs rest →
      ∃ R, divGo? o gs (gs.map (mlead o)) n qs rest left = some R ∧ WF R ∧ (∀ m ∈ ks R, V m) ∧ Irr o gs R ∧ Sz (B + k * (Bg + 1)) R ∧
        (∀ M, (∀ m ∈ ks left, gt o M m) → Sp o (Xof o gs) M (fun n => cf left n + cf rest n - cf R n)) ∧ ∀ l : Mono → Rat, (∀ g ∈ gs, ∀ σ, nn σ → Lam (fun x => l (mprod x σ)) g = 0) → Lam l R = Lam l left + Lam l rest := by
  intro k
  induction k with
  | zero =>
    intro n B qs rest left hn hwl hwr hVl hVr hrk hgt hql hq hz hcap hirr
    have hl0 : left = [] := by
      cases left with
      | nil => rfl
      | cons e p =>
        have h1 := hrk e.1 List.mem_cons_self
        have h2 := rank_nn (o := o) (hC.low _ (hVl e.1 List.mem_cons_self)).1 hd0
        lia
    subst hl0
    obtain ⟨n, rfl⟩ : ∃ n', n = n' + 1 := ⟨n - 1, by lia⟩
    refine ⟨rest, ?_, hwr, hVr, hirr, by simpa using hz, fun M _ => Sp.zero.eq fun n => (by rw [cf_nil]; grind), fun l _ => by simp only [Lam]; grind⟩
    have := low_len hwr fun n hn => ⟨(hC.low n (hVr n hn)).1, by have := (hC.low n (hVr n hn)).2; lia⟩
    unfold divGo?
    rw [if_neg (by simp; lia)]
    simp
  | succ k ih =>
    intro n B qs rest left hn hwl hwr hVl hVr hrk hgt hql hq hz hcap hirr
    obtain ⟨n, rfl⟩ : ∃ n', n = n' + 1 := ⟨n - 1, by lia⟩
    have hlowl : ∀ m ∈ ks left, nn m ∧ m.1 + m.2 ≤ 7 := fun m hm => ⟨(hC.low m (hVl m hm)).1, by have := (hC.low m (hVl m hm)).2; lia⟩
    have hl1 := low_len hwl hlowl
    have hl2 := low_len hwr fun n hn => ⟨(hC.low n (hVr n hn)).1, by have := (hC.low n (hVr n hn)).2; lia⟩
    have hk1 : (k + 1) * (Bg + 1) = k * (Bg + 1) + (Bg + 1) := by rw [Nat.add_mul, Nat.one_mul]
    rw [hk1] at hcap ⊢
    unfold divGo?
    rw [if_neg (by simp; lia)]
    by_cases hl0 : left.length = 0
    · rw [if_pos hl0]
      have : left = [] := List.length_eq_zero_iff.mp hl0
      subst this
      exact ⟨rest, rfl, hwr, hVr, hirr, hz.mono (by lia), fun M _ => Sp.zero.eq fun n => (by rw [cf_nil]; grind), fun l _ => by simp only [Lam]; grind⟩
    rw [if_neg hl0]
    obtain ⟨t, ht⟩ := mlead_some (o := o) hwl (fun e => hl0 (by rw [e]; rfl))
    obtain ⟨ht1, ht2, ht3⟩ := mlead_spec hwl ht
    rw [ht]
    simp only
    have hrt := hrk _ ht1
    have hlt := hlowl _ ht1
    have hVt := hVl _ ht1
    rcases firstDiv_spec (q := t.1) (gs.map (mlead o)) 0 with ⟨hf, hno⟩ | ⟨i, l, hli, hdv, hf⟩
    · rw [if_pos (by rw [hf]; decide)]
      have hirt : ∀ g ∈ gs, mdiv (ldm o g) t.1 = false := fun g hg => by
        have := hno _ (by rw [← (hE g hg).lead]; exact List.mem_map_of_mem hg)
        exact this
      have hc0 : t.2 ≠ 0 := by rw [ht2]; exact hwl.key.mp ht1
      have hnr : t.1 ∉ ks rest := fun h => gt_irrefl (hgt _ ht1 _ h)
      obtain ⟨D, hD0, hDB, hDz⟩ := hz
      obtain ⟨R, h1, h2, h3, h4, h5, h6, h7⟩ := ih n B qs (pset rest t.1 t.2) (pdel left t.1) (by lia) (pdel_wf hwl) (pset_wf hwr hc0) (fun m hm => hVl m ((pdel_keys hwl).mp hm).2)
        (fun m hm => by
          rcases (pset_keys m).mp hm with rfl | hm
          · exact hVt
          · exact hVr m hm)
        (fun m hm => by
          obtain ⟨h1, h2⟩ := (pdel_keys hwl).mp hm
          rcases ht3 m h2 with h | h
          · exact absurd h h1
          · have := rank_lt hlt.1 (hlowl m h2).1 (hC.low _ hVt).2 (hC.low m (hVl m h2)).2 h
            lia)
        (fun m hm r hr => by
          obtain ⟨h1, h2⟩ := (pdel_keys hwl).mp hm
          rcases (pset_keys r).mp hr with rfl | hr
          · rcases ht3 m h2 with h | h
            · exact absurd h h1
            · exact h
          · exact hgt m h2 r hr)
        hql (fun i q g h1 h2 => by
          obtain ⟨a, b⟩ := hq i q g h1 h2
          exact ⟨by lia, fun σ hσ m hm => b σ hσ m ((pdel_keys hwl).mp hm).2⟩)
        ⟨D, hD0, hDB, fun e he => by
          rcases List.mem_append.mp he with he | he
          · exact hDz e (List.mem_append_left _ (pdel_mem he))
          · rcases pset_mem he with rfl | he
            · show ZB B D t.2
              rw [ht2]
              exact zb_cf hwl (fun e he => hDz e (List.mem_append_left _ he)) _
            · exact hDz e (List.mem_append_right _ he)⟩
        (by lia) (fun m hm g hg => by
          rcases (pset_keys m).mp hm with rfl | hm
          · exact hirt g hg
          · exact hirr m hm g hg)
      refine ⟨R, h1, h2, h3, h4, h5.mono (by lia), fun M hM => (h6 M fun m hm => hM m ((pdel_keys hwl).mp hm).2).eq fun m => ?_, fun l hl => by
        rw [h7 l hl, lam_pdel hwl.nd, lam_pset hwr.nd, cf_not hnr, ht2]; grind⟩
      rw [cf_pdel hwl, cf_pset hwr]
      by_cases e : m = t.1
      · rw [if_pos e, if_pos e, e, ht2, cf_not hnr]; grind
      · rw [if_neg e, if_neg e]
    · rw [if_neg (by rw [hf]; lia)]
      have hfi : (firstDiv t.1 (gs.map (mlead o)) 0).toNat = i := by rw [hf]; lia
      rw [hfi, hli]
      rw [List.getElem?_map] at hli
      obtain ⟨g, hgi, hgl⟩ := Option.map_eq_some_iff.mp hli
      have hg := List.mem_of_getElem? hgi
      have hEg := hE g hg
      have hle : l = (ldm o g, 1) := by
        have := hEg.lead
        rw [this] at hgl
        exact (Option.some.inj hgl).symm
      subst hle
      have hi := (List.getElem?_eq_some_iff.mp hgi).1
      obtain ⟨q, hqi⟩ : ∃ q, qs[i]? = some q := ⟨_, List.getElem?_eq_getElem (by lia)⟩
      rw [hgi, hqi]
      simp only
      obtain ⟨hq1, hq2⟩ := hq i q g hqi hgi
      obtain ⟨s, left', hs, hsub, hwl', hcf, hkeys, hsz, hsm, hlam⟩ := red_step hwl hEg ht1 hdv hlowl (by lia) hz (by lia)
      have hprod : mprod (ldm o g) (mquot t.1 (ldm o g)) = t.1 := by unfold mprod mquot; exact Prod.ext (by simp only; lia) (by simp only; lia)
      have hσ : nn (mquot t.1 (ldm o g)) := by
        unfold mdiv at hdv
        simp only [Bool.and_eq_true, decide_eq_true_eq] at hdv
        unfold nn mquot
        simp only
        lia
      rw [← ht2] at hs hsm
      rw [if_pos ⟨hsm, by decide, by decide⟩]
      have hnq : mquot t.1 (ldm o g) ∉ ks q := fun h => by
        have := hq2 _ h _ ht1
        rw [hprod] at this
        exact gt_irrefl this
      have hadd : addT? q (mquot t.1 (ldm o g)) (t.2 / 1) = some (put q (mquot t.1 (ldm o g)) (t.2 / 1)) := by
        unfold addT?
        rw [if_pos (by lia), plook_none.mpr hnq]
      rw [hadd, Option.bind_some, hs, Option.bind_some, hsub, Option.bind_some]
      have hbelow : ∀ m ∈ ks left', gt o t.1 m := fun m hm => by
        obtain ⟨h1, h2⟩ := hkeys m hm
        rcases h2 with h2 | ⟨u, hu, rfl⟩
        · rcases ht3 m h2 with h | h
          · exact absurd h h1
          · exact h
        · have := (gt_add (o := o) (mquot t.1 (ldm o g))).mpr (tl_gt _ hEg.u5 u hu)
          rw [hprod] at this
          exact this
      have hV' : ∀ m ∈ ks left', V m := fun m hm => by
        rcases (hkeys m hm).2 with h2 | ⟨u, hu, rfl⟩
        · exact hVl m h2
        · exact hC.red _ hVt g hg hdv u hu
      obtain ⟨R, h1, h2, h3, h4, h5, h6, h7⟩ := ih n (B + Bg + 1) (qs.set i (put q (mquot t.1 (ldm o g)) (t.2 / 1))) rest left' (by lia) hwl' hwr hV' hVr
        (fun m hm => by
          have := rank_lt hlt.1 (hC.low m (hV' m hm)).1 (hC.low _ hVt).2 (hC.low m (hV' m hm)).2 (hbelow m hm)
          lia)
        (fun m hm r hr => gt_trans (hgt _ ht1 r hr) (hbelow m hm))
        (by rw [List.length_set]; exact hql)
        (fun j q' g' e1 e2 => by
          rw [List.getElem?_set] at e1
          by_cases hij : i = j
          · subst hij
            rw [hgi] at e2
            cases e2
            rw [if_pos rfl, if_pos (by lia)] at e1
            cases e1
            refine ⟨by have := @put_len q (mquot t.1 (ldm o g)) (t.2 / 1); lia, fun σ hσ m hm => ?_⟩
            have hσ' : σ = mquot t.1 (ldm o g) ∨ σ ∈ ks q := by
              unfold put at hσ
              split at hσ
              · obtain ⟨e, he, rfl⟩ := List.mem_map.mp hσ
                exact .inr (List.mem_map_of_mem (pdel_mem he))
              · exact (pset_keys σ).mp hσ
            rcases hσ' with rfl | hσ'
            · rw [hprod]; exact hbelow m hm
            · exact gt_trans (hq2 σ hσ' _ ht1) (hbelow m hm)
          · rw [if_neg hij] at e1
            obtain ⟨a, b⟩ := hq j q' g' e1 e2
            exact ⟨by lia, fun σ hσ m hm => gt_trans (b σ hσ _ ht1) (hbelow m hm)⟩)
        hsz (by lia) hirr
      refine ⟨R, h1, h2, h3, h4, h5.mono (by lia), fun M hM => ?_, fun l hl => by rw [h7 l hl, hlam l, hl g hg _ hσ]; grind⟩
      have hMt := hM _ ht1
      have k1 := h6 M fun m hm => gt_trans hMt (hbelow m hm)
      refine (Sp.add (c := cf left t.1) k1 (mem_Xof hg) hσ (by rw [hprod]; exact hMt)).eq fun m => ?_
      simp only [lin]
      rw [hcf m]
      grind
end Mine
end
section
set_option maxRecDepth 100000
namespace Mine
open PySem

/-! ### rest_of -/
noncomputable def NN (d : Nat) : Nat := (d + 1) * (d + 1)
theorem rank_lim {o : Ord} {d : Nat} {a : Mono} (ha : nn a) (h : a.1 + a.2 ≤ d) : rank o d a < NN d := by
  unfold nn at ha
  unfold NN
  have e : (((d + 1) * (d + 1) : Nat) : Int) = ((d : Int) + 1) * d + ((d : Int) + 1) := by
    rw [Int.natCast_mul, Int.natCast_add, Int.mul_add]; simp
  rw [e]
  have h1 : ((d : Int) + 1) * a.1 + ((d : Int) + 1) * a.2 ≤ ((d : Int) + 1) * d := by
    rw [← Int.mul_add]; exact Int.mul_le_mul_of_nonneg_left h (by lia)
  have h2 : a.2 ≤ ((d : Int) + 1) * a.2 := by
    have : 1 * a.2 ≤ ((d : Int) + 1) * a.2 := Int.mul_le_mul_of_nonneg_right (by lia) ha.2
    lia
  have h3 : ((d : Int) + 1) * (a.1 + a.2) ≤ ((d : Int) + 1) * d := Int.mul_le_mul_of_nonneg_left h (by lia)
  unfold rank
  cases o <;> simp only <;> lia
theorem rest_ok {o : Ord} {B Bg : Nat} {gs : List Poly} {V : Mono → Prop} {d : Nat} {f : Poly} (hE : Els o Bg gs) (hC : Cl o gs d V) (hd : d ≤ 7) (hf : WF f) (hV : ∀ m ∈ ks f, V m) (hz : Sz B f) (hcap : B + NN d * (Bg + 1) ≤ bitsCap) (hgl : gs.length ≤ 1000) :
    ∃ R, rest? o f gs = some R ∧ WF R ∧ (∀ m ∈ ks R, V m) ∧ Irr o gs R ∧ Sz (B + NN d * (Bg + 1)) R ∧ (∀ M, (∀ m ∈ ks f, gt o M m) → Sp o (Xof o gs) M (fun n => cf f n - cf R n)) ∧ ∀ l : Mono → Rat, (∀ g ∈ gs, ∀ σ, nn σ → Lam (fun x => l (mprod x σ)) g = 0) → Lam l R = Lam l f := by
  have hlow : ∀ m ∈ ks f, nn m ∧ m.1 + m.2 ≤ 7 := fun m hm => ⟨(hC.low m (hV m hm)).1, by have := (hC.low m (hV m hm)).2; lia⟩
  have hlen := low_len hf hlow
  have hN : NN d ≤ 64 := by
    unfold NN
    have : (d + 1) * (d + 1) ≤ 8 * 8 := Nat.mul_le_mul (by lia) (by lia)
    lia
  obtain ⟨R, h1, h2, h3, h4, h5, h6, h7⟩ := divGo_ok hE hC (by lia) (by lia) (NN d) FUEL B (gs.map fun _ => []) [] f (by unfold FUEL; lia) hf wf_nil hV (fun m hm => nomatch hm)
    (fun m hm => rank_lim (hC.low m (hV m hm)).1 (hC.low m (hV m hm)).2) (fun m _ r hr => nomatch hr) (by simp)
    (fun i q g e1 _ => by
      rw [List.getElem?_map] at e1
      obtain ⟨_, _, rfl⟩ := Option.map_eq_some_iff.mp e1
      exact ⟨by simp; lia, fun σ hσ => nomatch hσ⟩) (by simpa using hz) hcap (fun m hm => nomatch hm)
  refine ⟨R, ?_, h2, h3, h4, h5, fun M hM => (h6 M hM).eq fun n => (by rw [cf_nil]; grind), fun l hl => by rw [h7 l hl]; simp only [Lam]; grind⟩
  unfold rest?
  rw [if_pos ⟨box_nn hlow, by lia, by lia⟩]
  exact h1

/-! ### the law's own division -/
theorem leadsAll_ok {o : Ord} {B : Nat} : ∀ {gs : List Poly}, Els o B gs → leadsAll? o gs = some (gs.map fun g => (ldm o g, (1 : Rat)))
  | [], _ => rfl
  | p :: r, h => by
    unfold leadsAll?
    rw [(h p List.mem_cons_self).lead, Option.bind_some, leadsAll_ok (gs := r) fun g hg => h g (List.mem_cons_of_mem _ hg)]
    rfl
theorem fits_mem {q : Mono} {ls : List (Mono × Rat)} {i : Nat} : i ∈ fitsOf q ls ↔ ∃ t, ls[i]? = some t ∧ mdiv t.1 q = true := by
  unfold fitsOf
  rw [List.mem_filter, List.mem_range]
  constructor
  · rintro ⟨h1, h2⟩
    rw [List.getElem?_eq_getElem h1] at h2 ⊢
    exact ⟨_, rfl, h2⟩
  · rintro ⟨t, h1, h2⟩
    exact ⟨(List.getElem?_eq_some_iff.mp h1).1, by rw [h1]; exact h2⟩
noncomputable def L3 : List Mono := [(0, 0), (0, 1), (0, 2), (0, 3), (1, 0), (1, 1), (1, 2), (2, 0), (2, 1), (3, 0)]
theorem mem_L3 {n : Mono} (h : nn n) (h2 : n.1 + n.2 ≤ 3) : n ∈ L3 := by
  obtain ⟨a, b⟩ := n
  unfold nn at h
  simp only at h h2
  have ha : a = 0 ∨ a = 1 ∨ a = 2 ∨ a = 3 := by lia
  have hb : b = 0 ∨ b = 1 ∨ b = 2 ∨ b = 3 := by lia
  rcases ha with rfl | rfl | rfl | rfl <;> rcases hb with rfl | rfl | rfl | rfl <;> first | lia | decide
theorem sumw_append (w : Mono → Nat) (a b : List Mono) : sumw w (a ++ b) = sumw w a + sumw w b := by unfold sumw; rw [List.map_append, List.sum_append]
theorem sumw_shift {σ : Mono} (hσ : nn σ) : ∀ {L : List Mono}, (∀ t ∈ L, nn t) → sumw w4 (L.map fun t => mprod t σ) = sumw w4 L * w4 σ
  | [], _ => by simp [sumw]
  | t :: L, h => by
    have ih := sumw_shift hσ (L := L) fun x hx => h x (List.mem_cons_of_mem _ hx)
    show w4 (mprod t σ) + sumw w4 (L.map fun t => mprod t σ) = (w4 t + sumw w4 L) * w4 σ
    rw [ih, w4_mprod (h t List.mem_cons_self) hσ, Nat.add_mul]
theorem lrest_ok {o : Ord} {Bg : Nat} {gs : List Poly} (hE : Els o Bg gs) (hR : ∀ x ∈ Xof o gs, ∀ y ∈ Xof o gs, SRep o (Xof o gs) x y) :
    ∀ (k n B : Nat) (left : Poly), sumw w4 (ks left) ≤ k → k < n → WF left → (∀ m ∈ ks left, nn m ∧ m.1 + m.2 ≤ 3) → Sz B left → B + k * (Bg + 1) ≤ bitsCap → (∃ M, (∀ m ∈ ks left, gt o M m) ∧ Sp o (Xof o gs) M (cf left)) →
      lrest o gs (gs.map fun g => (ldm o g, (1 : Rat))) n left (fun r => r = []) := by
  have hC := cl_deg hE 3
  intro k
  induction k with
  | zero =>
    intro n B left hw hn hwf hV hz hcap ⟨M, hM, hsp⟩
    obtain ⟨n, rfl⟩ : ∃ n', n = n' + 1 := ⟨n - 1, by lia⟩
    have hl : left = [] := by
      cases left with
      | nil => rfl
      | cons e p =>
        have h1 := w4_pos e.1
        have h2 : sumw w4 (ks (e :: p)) = w4 e.1 + sumw w4 (ks p) := rfl
        lia
    subst hl
    exact ⟨by decide, fun e he => (List.not_mem_nil he).elim, fun _ => rfl⟩
  | succ k ih =>
    intro n B left hw hn hwf hV hz hcap ⟨M, hM, hsp⟩
    obtain ⟨n, rfl⟩ : ∃ n', n = n' + 1 := ⟨n - 1, by lia⟩
    have hk1 : (k + 1) * (Bg + 1) = k * (Bg + 1) + (Bg + 1) := by rw [Nat.add_mul, Nat.one_mul]
    rw [hk1] at hcap
    have hlen : left.length ≤ 10 := by
      have e : left.length = (ks left).length := by simp
      rw [e]
      exact len_le (L := L3) hwf.nd fun x hx => mem_L3 (hV x hx).1 (hV x hx).2
    refine ⟨by lia, fun e he j hj => ?_, fun hno => ?_⟩
    · obtain ⟨l, hlj, hdv⟩ := fits_mem.mp (List.mem_of_getLast? hj)
      have hlj' := hlj
      rw [List.getElem?_map] at hlj'
      obtain ⟨g, hgj, rfl⟩ := Option.map_eq_some_iff.mp hlj'
      have hg := List.mem_of_getElem? hgj
      have hEg := hE g hg
      have hek : e.1 ∈ ks left := List.mem_map_of_mem he
      have hec : e.2 = cf left e.1 := (hwf.mem he).symm
      simp only at hdv
      obtain ⟨s, left', hs, hsub, hwl', hcf, hkeys, hsz, hsm, _⟩ := red_step (rest := []) hwf hEg hek hdv (fun m hm => ⟨(hV m hm).1, by have := (hV m hm).2; lia⟩) (by lia) (by simpa using hz) (by lia)
      have hprod : mprod (ldm o g) (mquot e.1 (ldm o g)) = e.1 := by unfold mprod mquot; exact Prod.ext (by simp only; lia) (by simp only; lia)
      have hσ : nn (mquot e.1 (ldm o g)) := by
        unfold mdiv at hdv
        simp only [Bool.and_eq_true, decide_eq_true_eq] at hdv
        unfold nn mquot
        simp only
        lia
      rw [← hec] at hs hsm
      refine ⟨_, g, s, left', hlj, hgj, hsm, (show Sm 1 by decide), (show (1 : Rat) ≠ 0 by decide), hs, hsub, ?_⟩
      have hV' : ∀ m ∈ ks left', nn m ∧ m.1 + m.2 ≤ 3 := fun m hm => by
        rcases (hkeys m hm).2 with h2 | ⟨u, hu, rfl⟩
        · exact hV m h2
        · exact hC.red _ (hV _ hek) g hg hdv u hu
      have htn : ∀ t ∈ tl (ldm o g), nn t := fun t ht => (tl_low _ hEg.u5 t ht).1
      refine ih n (B + Bg + 1) left' ?_ (by lia) hwl' hV' (by simpa using hsz) (by lia) ⟨M, fun m hm => ?_, ?_⟩
      · have h1 : sumw w4 (ks left') ≤ sumw w4 ((ks left).erase e.1 ++ (tl (ldm o g)).map fun t => mprod t (mquot e.1 (ldm o g))) := by
          refine sumw_le w4 hwl'.nd fun x hx => ?_
          obtain ⟨a, b⟩ := hkeys x hx
          rcases b with b | ⟨u, hu, rfl⟩
          · exact List.mem_append_left _ ((List.mem_erase_of_ne a).mpr b)
          · exact List.mem_append_right _ (List.mem_map_of_mem hu)
        rw [sumw_append, sumw_shift hσ htn] at h1
        have h2 := sumw_erase w4 hek
        have h3 : sumw w4 (tl (ldm o g)) * w4 (mquot e.1 (ldm o g)) < w4 (ldm o g) * w4 (mquot e.1 (ldm o g)) := Nat.mul_lt_mul_of_pos_right (tl_w _ hEg.u5) (w4_pos _)
        rw [← w4_mprod hEg.nnm hσ, hprod] at h3
        lia
      · rcases (hkeys m hm).2 with h2 | ⟨u, hu, rfl⟩
        · exact hM m h2
        · have := (gt_add (o := o) (mquot e.1 (ldm o g))).mpr (tl_gt _ hEg.u5 u hu)
          rw [hprod] at this
          exact gt_trans (hM _ hek) this
      · refine (Sp.add (c := -cf left e.1) hsp (mem_Xof hg) hσ (by rw [hprod]; exact hM _ hek)).eq fun m => ?_
        simp only [lin]
        rw [hcf m]; grind
    · refine hwf.eq_nil (normal_zero hE.bok hR (fun n hn x hx => ?_) hsp)
      obtain ⟨g, hg, rfl⟩ := List.mem_map.mp hx
      obtain ⟨e, he, rfl⟩ := List.mem_map.mp (hwf.key.mpr hn)
      simp only
      cases hm : mdiv (ldm o g) e.1 with
      | false => rfl
      | true =>
        exfalso
        obtain ⟨i, hi⟩ := List.getElem?_of_mem hg
        have : i ∈ fitsOf e.1 (gs.map fun g => (ldm o g, (1 : Rat))) := fits_mem.mpr ⟨(ldm o g, 1), by rw [List.getElem?_map, hi]; rfl, hm⟩
        rw [hno e he] at this
        exact nomatch this
theorem LRest_ok {o : Ord} {B Bg : Nat} {gs : List Poly} {f : Poly} (hE : Els o Bg gs) (hR : ∀ x ∈ Xof o gs, ∀ y ∈ Xof o gs, SRep o (Xof o gs) x y) (hgl : gs.length ≤ 1000) (hf : WF f) (hV : ∀ m ∈ ks f, nn m ∧ m.1 + m.2 ≤ 3) (hz : Sz B f) (hcap : B + 155 * (Bg + 1) ≤ bitsCap)
    (hsp : ∃ M, (∀ m ∈ ks f, gt o M m) ∧ Sp o (Xof o gs) M (cf f)) : LRest o f gs fun r => r = [] := by
  have hlen : f.length ≤ 10 := by
    have e : f.length = (ks f).length := by simp
    rw [e]
    exact len_le (L := L3) hf.nd fun x hx => mem_L3 (hV x hx).1 (hV x hx).2
  refine ⟨box_nn fun m hm => ⟨(hV m hm).1, by have := (hV m hm).2; lia⟩, by lia, hgl, _, leadsAll_ok hE, ?_⟩
  refine lrest_ok hE hR 155 FUEL B f ?_ (by decide) hf hV hz hcap hsp
  refine Nat.le_trans (sumw_le w4 (L := L3) hf.nd fun x hx => mem_L3 (hV x hx).1 (hV x hx).2) (by decide)
end Mine
end
section
set_option maxRecDepth 100000
namespace Mine
open PySem

/-! ### s-polynomials -/
theorem join_low : ∀ a ∈ U5, ∀ b ∈ U5, (mjoin a b).1 + (mjoin a b).2 ≤ 3 := by decide
theorem mquot_join {a b : Mono} (ha : nn a) (hb : nn b) : nn (mquot (mjoin a b) a) ∧ nn (mquot (mjoin a b) b) ∧ mprod a (mquot (mjoin a b) a) = mjoin a b ∧ mprod b (mquot (mjoin a b) b) = mjoin a b := by
  unfold nn mquot mjoin mprod at *
  simp only
  refine ⟨by lia, by lia, Prod.ext (by simp only; lia) (by simp only; lia), Prod.ext (by simp only; lia) (by simp only; lia)⟩
theorem spoly_ok {o : Ord} {B : Nat} {f g : Poly} {a b : Mono} (hf : El o B f a) (hg : El o B g b) (hB : 2 * B + 1 ≤ bitsCap) :
    ∃ S, spoly? o f g = some S ∧ WF S ∧ (∀ n, cf S n = sh (mquot (mjoin a b) a) (cf f) n - sh (mquot (mjoin a b) b) (cf g) n) ∧
      (∀ n ∈ ks S, (∃ t ∈ tl a, n = mprod t (mquot (mjoin a b) a)) ∨ ∃ t ∈ tl b, n = mprod t (mquot (mjoin a b) b)) ∧ (∀ n ∈ ks S, gt o (mjoin a b) n) ∧ Sz (2 * B + 1) S ∧
      ∀ l : Mono → Rat, Lam l S = Lam (fun x => l (mprod x (mquot (mjoin a b) a))) f - Lam (fun x => l (mprod x (mquot (mjoin a b) b))) g := by
  obtain ⟨hja, hjb, hpa, hpb⟩ := mquot_join hf.nnm hg.nnm
  obtain ⟨D, hD0, hDB, hDz⟩ := hf.sz
  obtain ⟨E, hE0, hEB, hEz⟩ := hg.sz
  have hDz : ∀ e ∈ f, ZB B D e.2 := hDz
  have hEz : ∀ e ∈ g, ZB B E e.2 := hEz
  have hinv : ((1 : Rat))⁻¹ = 1 := by first | grind | decide +kernel
  have one0 : (1 : Rat) ≠ 0 := by decide
  have hs1 := shift_some (p := f) (m := mquot (mjoin a b) a) one0 (by decide) (fun e he => (hDz e he).sm hD0 hDB (by lia)) (Nat.le_trans hf.len (by decide))
  have hs2 := shift_some (p := g) (m := mquot (mjoin a b) b) one0 (by decide) (fun e he => (hEz e he).sm hE0 hEB (by lia)) (Nat.le_trans hg.len (by decide))
  have hl1 : (shl f (mquot (mjoin a b) a) 1).length ≤ 4 := by unfold shl; rw [List.length_map]; exact hf.len
  have hl2 : (shl g (mquot (mjoin a b) b) 1).length ≤ 4 := by unfold shl; rw [List.length_map]; exact hg.len
  have hw1 : WF (shl f (mquot (mjoin a b) a) 1) := shl_wf one0 hf.wf
  have hw2 : WF (shl g (mquot (mjoin a b) b) 1) := shl_wf one0 hg.wf
  have hj := join_low a hf.u5 b hg.u5
  have hz1 : ∀ e ∈ shl f (mquot (mjoin a b) a) 1, ZB B D e.2 := fun e he => by
    obtain ⟨x, hx, rfl⟩ := List.mem_map.mp he
    simp only [Rat.mul_one]
    exact hDz x hx
  have hz2 : ∀ e ∈ shl g (mquot (mjoin a b) b) 1, ZB B E e.2 := fun e he => by
    obtain ⟨x, hx, rfl⟩ := List.mem_map.mp he
    simp only [Rat.mul_one]
    exact hEz x hx
  obtain ⟨S, hS⟩ := mvsub_some (a := shl f (mquot (mjoin a b) a) 1) (b := shl g (mquot (mjoin a b) b) 1) hw2.nd (box_nn fun n hn => by
      rw [ks_shl] at hn
      obtain ⟨x, hx, rfl⟩ := List.mem_map.mp hn
      refine ⟨nn_mprod (hf.nnk x hx) hja, ?_⟩
      have hxa : x.1 + x.2 ≤ a.1 + a.2 := by
        by_cases e : x = a
        · rw [e]; lia
        · exact (tl_low a hf.u5 x (hf.tail hx e)).2
      have h1 := congrArg Prod.fst hpa
      have h2 := congrArg Prod.snd hpa
      unfold mprod at *
      simp only at *
      lia) (fun e he => (hz2 e he).sm hE0 hEB (by lia)) (fun e _ => (zb_cf hw1 hz1 e.1).sm hD0 hDB (by lia)) (by lia)
  have hwS := (mvsub_lam (l := fun _ => 0) hw1 hS).1
  have hcf : ∀ n, cf S n = sh (mquot (mjoin a b) a) (cf f) n - sh (mquot (mjoin a b) b) (cf g) n := fun n => by
    rw [← lam_ind hwS.nd, (mvsub_lam hw1 hS).2, lam_ind hw1.nd, lam_ind hw2.nd, cf_shl hf.wf.nd, cf_shl hg.wf.nd]
    unfold sh
    grind
  have shz : ∀ {σ m n : Mono}, mprod m σ = n → (n.1 - σ.1, n.2 - σ.2) = m := by
    rintro σ m n rfl
    unfold mprod; exact Prod.ext (by simp) (by simp)
  have hJ : cf S (mjoin a b) = 0 := by
    rw [hcf]
    unfold sh
    rw [shz hpa, shz hpb, hf.one, hg.one]; grind
  have hkey : ∀ n ∈ ks S, (∃ t ∈ tl a, n = mprod t (mquot (mjoin a b) a)) ∨ ∃ t ∈ tl b, n = mprod t (mquot (mjoin a b) b) := fun n hn => by
    have h0 := hwS.key.mp hn
    have hnJ : n ≠ mjoin a b := fun e => h0 (e ▸ hJ)
    have back : ∀ σ : Mono, n = mprod (n.1 - σ.1, n.2 - σ.2) σ := fun σ => by unfold mprod; exact Prod.ext (by simp only; lia) (by simp only; lia)
    rw [hcf] at h0
    by_cases h1 : sh (mquot (mjoin a b) a) (cf f) n = 0
    · have h2 : sh (mquot (mjoin a b) b) (cf g) n ≠ 0 := fun h2 => h0 (by rw [h1, h2]; grind)
      exact .inr ⟨_, hg.tail (hg.wf.key.mpr h2) fun e => hnJ ((back _).trans ((congrArg (fun x => mprod x _) e).trans hpb)), back _⟩
    · exact .inl ⟨_, hf.tail (hf.wf.key.mpr h1) fun e => hnJ ((back _).trans ((congrArg (fun x => mprod x _) e).trans hpa)), back _⟩
  refine ⟨S, ?_, hwS, hcf, hkey, fun n hn => ?_, ⟨D * E, Nat.mul_pos hD0 hE0, ?_, fun e he => ?_⟩, fun l => ?_⟩
  · unfold spoly?
    rw [hf.lead, hg.lead]
    simp only
    rw [if_pos ⟨one0, one0⟩, hinv, hs1, Option.bind_some, hs2, Option.bind_some]
    exact hS
  · rcases hkey n hn with ⟨t, ht, rfl⟩ | ⟨t, ht, rfl⟩
    · have := (gt_add (o := o) (mquot (mjoin a b) a)).mpr (tl_gt a hf.u5 t ht)
      rwa [hpa] at this
    · have := (gt_add (o := o) (mquot (mjoin a b) b)).mpr (tl_gt b hg.u5 t ht)
      rwa [hpb] at this
  · have : D * E < 2 ^ (B + B) := by rw [Nat.pow_add]; exact Nat.mul_lt_mul'' hDB hEB
    exact Nat.lt_of_lt_of_le this (Nat.pow_le_pow_right (by decide) (by lia))
  · show ZB _ _ _
    rw [← hwS.mem he, hcf]
    have h1 : ZB (B + B) (D * E) (sh (mquot (mjoin a b) a) (cf f) e.1) := (zb_cf hf.wf hDz _).up hEB
    have h2 : ZB (B + B) (D * E) (sh (mquot (mjoin a b) b) (cf g) e.1) := by
      rw [Nat.mul_comm D E]; exact (zb_cf hg.wf hEz _).up hDB
    exact (h1.sub h2).mono (by lia)
  · rw [(mvsub_lam hw1 hS).2, lam_shl, lam_shl]; grind

/-! ### what the rest of an s-polynomial looks like -/
noncomputable def U1 : List Mono := [(1, 0), (0, 1), (0, 0)]
theorem cl5 {o : Ord} {B : Nat} {gs : List Poly} (h : Els o B gs) : Cl o gs 2 (· ∈ U5) where
  low := fun n hn => (show ∀ n ∈ U5, (0 ≤ n.1 ∧ 0 ≤ n.2) ∧ n.1 + n.2 ≤ 2 by decide) n hn
  red := fun n hn g hg hd t ht => (show ∀ n ∈ U5, ∀ m ∈ U5, mdiv m n = true → ∀ t ∈ tl m, mprod t (mquot n m) ∈ U5 by decide) n hn _ (h g hg).u5 hd t ht
theorem cl1 {o : Ord} {B : Nat} {gs : List Poly} (h : Els o B gs) : Cl o gs 2 (· ∈ U1) where
  low := fun n hn => (show ∀ n ∈ U1, (0 ≤ n.1 ∧ 0 ≤ n.2) ∧ n.1 + n.2 ≤ 2 by decide) n hn
  red := fun n hn g hg hd t ht => (show ∀ n ∈ U1, ∀ m ∈ U5, mdiv m n = true → ∀ t ∈ tl m, mprod t (mquot n m) ∈ U1 by decide) n hn _ (h g hg).u5 hd t ht
theorem sp5 : ∀ a ∈ U5, ∀ b ∈ U5, mapart a b = false → (∀ t ∈ tl a, mprod t (mquot (mjoin a b) a) ∈ U5) ∧ ∀ t ∈ tl b, mprod t (mquot (mjoin a b) b) ∈ U5 := by decide
theorem sp1 : ∀ t ∈ tl (1, 1), mprod t (mquot (mjoin (1, 1) (1, 1)) (1, 1)) ∈ U1 := by decide
theorem irr5b : (U5.all fun a => U5.all fun b => mapart a b || (a == (1, 1) && b == (1, 1)) || (U5.all fun n => mdiv a n || mdiv b n || U6.contains n) || (U5.all fun n => mdiv a n || mdiv b n || U2.contains n)) = true := by decide
theorem irr5 (a : Mono) (ha : a ∈ U5) (b : Mono) (hb : b ∈ U5) (hap : mapart a b = false) (hne : ¬ (a = (1, 1) ∧ b = (1, 1))) : (∀ n ∈ U5, mdiv a n = false → mdiv b n = false → n ∈ U6) ∨ (∀ n ∈ U5, mdiv a n = false → mdiv b n = false → n ∈ U2) := by
  have h := List.all_eq_true.mp (List.all_eq_true.mp irr5b a ha) b hb
  simp only [Bool.or_eq_true, hap, Bool.false_eq_true, false_or] at h
  rcases h with (h | h) | h
  · simp only [Bool.and_eq_true, beq_iff_eq] at h
    exact absurd h hne
  · refine .inl fun n hn h1 h2 => ?_
    have := List.all_eq_true.mp h n hn
    rw [h1, h2] at this
    simpa using this
  · refine .inr fun n hn h1 h2 => ?_
    have := List.all_eq_true.mp h n hn
    rw [h1, h2] at this
    simpa using this
theorem u1_6 : ∀ n ∈ U1, n ∈ U6 := by decide
/-- s-polynomial, then its rest -/
theorem srest_ok {o : Ord} {B : Nat} {gs : List Poly} {f g : Poly} (hE : Els o B gs) (hf : f ∈ gs) (hg : g ∈ gs) (hap : mapart (ldm o f) (ldm o g) = false) (hcap : 11 * B + 10 ≤ bitsCap) (hgl : gs.length ≤ 1000) :
    ∃ S R, spoly? o f g = some S ∧ rest? o S gs = some R ∧ WF R ∧ Shp R ∧ Irr o gs R ∧ Sz (11 * B + 10) R ∧
      Sp o (Xof o gs) (mjoin (ldm o f) (ldm o g)) (fun n => sh (mquot (mjoin (ldm o f) (ldm o g)) (ldm o f)) (cf f) n - sh (mquot (mjoin (ldm o f) (ldm o g)) (ldm o g)) (cf g) n - cf R n) ∧
      (∀ n ∈ ks R, gt o (mjoin (ldm o f) (ldm o g)) n) ∧
      ∀ l : Mono → Rat, (∀ g ∈ gs, ∀ σ, nn σ → Lam (fun x => l (mprod x σ)) g = 0) → Lam l R = 0 := by
  have hEf := hE f hf
  have hEg := hE g hg
  obtain ⟨hja, hjb, hpa, hpb⟩ := mquot_join hEf.nnm hEg.nnm
  obtain ⟨S, hS, hwS, hcf, hkey, hlow, hsz, hlam⟩ := spoly_ok hEf hEg (by lia)
  have main : ∀ V : Mono → Prop, Cl o gs 2 V → (∀ n ∈ ks S, V n) → (∀ R : Poly, (∀ n ∈ ks R, V n) → Irr o gs R → Shp R) → (∃ S R, spoly? o f g = some S ∧ rest? o S gs = some R ∧ WF R ∧ Shp R ∧ Irr o gs R ∧ Sz (11 * B + 10) R ∧
      Sp o (Xof o gs) (mjoin (ldm o f) (ldm o g)) (fun n => sh (mquot (mjoin (ldm o f) (ldm o g)) (ldm o f)) (cf f) n - sh (mquot (mjoin (ldm o f) (ldm o g)) (ldm o g)) (cf g) n - cf R n) ∧
      (∀ n ∈ ks R, gt o (mjoin (ldm o f) (ldm o g)) n) ∧
      ∀ l : Mono → Rat, (∀ g ∈ gs, ∀ σ, nn σ → Lam (fun x => l (mprod x σ)) g = 0) → Lam l R = 0) := fun V hV hSV hsh => by
    obtain ⟨R, h1, h2, h3, h4, h5, h6, h7⟩ := rest_ok (d := 2) hE hV (by decide) hwS hSV hsz (by unfold NN; lia) hgl
    refine ⟨S, R, hS, h1, h2, hsh R h3 h4, h4, h5.mono (by unfold NN; lia), (h6 _ hlow).eq fun n => by rw [hcf], ?_, fun l hl => ?_⟩
    · intro n hn
      have hsp := h6 _ hlow
      by_cases hnS : n ∈ ks S
      · exact hlow n hnS
      · refine hsp.at0 hE.bok n ?_
        rw [cf_not hnS]
        have := h2.key.mp hn
        grind
    · rw [h7 l hl, hlam l, hl f hf _ hja, hl g hg _ hjb]; grind
  by_cases h11 : ldm o f = (1, 1) ∧ ldm o g = (1, 1)
  · refine main _ (cl1 hE) (fun n hn => ?_) fun R hR _ => .inl fun n hn => u1_6 n (hR n hn)
    have hk := hkey n hn
    rw [h11.1, h11.2] at hk
    rcases hk with ⟨t, ht, rfl⟩ | ⟨t, ht, rfl⟩
    · exact sp1 t ht
    · exact sp1 t ht
  · have h5 := sp5 _ hEf.u5 _ hEg.u5 hap
    refine main _ (cl5 hE) (fun n hn => ?_) fun R hR hI => ?_
    · rcases hkey n hn with ⟨t, ht, rfl⟩ | ⟨t, ht, rfl⟩
      · exact h5.1 t ht
      · exact h5.2 t ht
    · rcases irr5 _ hEf.u5 _ hEg.u5 hap h11 with h | h
      · exact .inl fun n hn => h n (hR n hn) (hI n hn f hf) (hI n hn g hg)
      · exact .inr fun n hn => h n (hR n hn) (hI n hn f hf) (hI n hn g hg)

/-! ### monic -/
theorem monic_ok {o : Ord} {B : Nat} {p : Poly} (hp : WF p) (hne : p ≠ []) (hs : Shp p) (hz : Sz B p) (hB : B ≤ bitsCap) :
    ∃ q, mvmonic? o p = some q ∧ ldm o q = ldm o p ∧ El o B q (ldm o p) ∧ mlead o p = some (ldm o p, cf p (ldm o p)) ∧ cf p (ldm o p) ≠ 0 ∧ (∀ n, cf q n = cf p n * (cf p (ldm o p))⁻¹) ∧ ∀ l : Mono → Rat, Lam l q = (cf p (ldm o p))⁻¹ * Lam l p := by
  obtain ⟨t, ht⟩ := mlead_some (o := o) hp hne
  obtain ⟨h1, h2, h3⟩ := mlead_spec hp ht
  have hl : ldm o p = t.1 := by unfold ldm; rw [ht]
  rw [hl]
  have ht0 : t.2 ≠ 0 := by rw [h2]; exact hp.key.mp h1
  have hti : t.2⁻¹ ≠ 0 := fun h => by
    have h2 := Rat.mul_inv_cancel t.2 ht0
    rw [h, Rat.mul_zero] at h2
    exact absurd h2 (by decide)
  obtain ⟨D, hD0, hDB, hDz⟩ := hz
  have hDz : ∀ e ∈ p, ZB B D e.2 := hDz
  obtain ⟨z, hz1, hz2⟩ := zb_cf hp hDz t.1
  rw [← h2] at hz1
  have hD' : (D : Rat) ≠ 0 := by
    have : (D : Int) ≠ 0 := by lia
    exact_mod_cast this
  have hz0 : z ≠ 0 := by
    rintro rfl
    rcases Rat.mul_eq_zero.mp hz1 with h | h
    · exact ht0 h
    · exact hD' h
  have hA0 : 0 < z.natAbs := by lia
  have inv : ∀ q : Rat, ZB B D q → ZB B z.natAbs (q * t.2⁻¹) := fun q ⟨y, hy1, hy2⟩ => by
    have hcan : t.2⁻¹ * t.2 = 1 := by rw [Rat.mul_comm]; exact Rat.mul_inv_cancel _ ht0
    rcases Int.natAbs_eq z with hzz | hzz
    · refine ⟨y, ?_, hy2⟩
      have : ((z.natAbs : Nat) : Rat) = t.2 * D := by rw [hz1]; rw [hzz]; simp; rfl
      rw [this, ← hy1]; grind
    · refine ⟨-y, ?_, by simpa using hy2⟩
      have : ((z.natAbs : Nat) : Rat) = -(t.2 * D) := by
        rw [hz1]
        have e : ((z.natAbs : Int) : Rat) = ((-z : Int) : Rat) := by congr 1; lia
        rw [Rat.intCast_neg] at e
        exact e
      rw [this, Rat.intCast_neg, ← hy1]; grind
  have hinvZ : ZB B z.natAbs t.2⁻¹ := by
    have := inv 1 ⟨(D : Int), by rw [Rat.one_mul]; rfl, by simpa using hDB⟩
    rwa [Rat.one_mul] at this
  have hlen : p.length ≤ 4 := by
    have e : p.length = (ks p).length := by simp
    rw [e]
    rcases hs with h | h
    · exact len_le hp.nd h
    · exact Nat.le_trans (len_le hp.nd h) (by decide)
  have hsc := scale_some (p := p) hti (hinvZ.sm hA0 hz2 hB) (fun e he => (hDz e he).sm hD0 hDB hB) (by lia)
  have hks : ks (p.map fun e => (e.1, e.2 * t.2⁻¹)) = ks p := by unfold ks; rw [List.map_map]; rfl
  have hwq : WF (p.map fun e => (e.1, e.2 * t.2⁻¹)) := by
    refine ⟨by rw [hks]; exact hp.nd, fun e he => ?_⟩
    obtain ⟨x, hx, rfl⟩ := List.mem_map.mp he
    exact fun h => (Rat.mul_eq_zero.mp h).elim (hp.nz x hx) hti
  have hlam : ∀ l : Mono → Rat, Lam l (p.map fun e => (e.1, e.2 * t.2⁻¹)) = t.2⁻¹ * Lam l p := fun l => lam_map (g := fun x => x) p
  have hcf : ∀ n, cf (p.map fun e => (e.1, e.2 * t.2⁻¹)) n = cf p n * t.2⁻¹ := fun n => by
    rw [← lam_ind hwq.nd, hlam, lam_ind hp.nd, Rat.mul_comm]
  have hEl : El o B (p.map fun e => (e.1, e.2 * t.2⁻¹)) t.1 := {
    wf := hwq
    key := by rw [hks]; exact h1
    one := by rw [hcf, ← h2]; exact Rat.mul_inv_cancel _ ht0
    top := by rw [hks]; exact h3
    shp := by unfold Shp; rw [hks]; exact hs
    sz := ⟨z.natAbs, hA0, hz2, fun e he => by
      obtain ⟨x, hx, rfl⟩ := List.mem_map.mp he
      exact inv _ (hDz x hx)⟩ }
  refine ⟨_, ?_, ?_, hEl, ?_, ?_, ?_, ?_⟩
  · unfold mvmonic?
    rw [ht]
    simp only
    rw [if_neg ht0]
    exact hsc
  · unfold ldm; rw [hEl.lead]
  · rw [ht, ← h2]
  · rw [← h2]; exact ht0
  · intro n; rw [hcf, ← h2]
  · intro l; rw [hlam, ← h2]
end Mine
end
section
set_option maxRecDepth 100000
namespace Mine
open PySem

/-! ### the loop over the pairs -/
theorem filt_le {α : Type} {p q : α → Bool} (h : ∀ x, q x = true → p x = true) : ∀ L : List α, (L.filter q).length ≤ (L.filter p).length
  | [] => Nat.le_refl _
  | x :: L => by
    have ih := filt_le h L
    rw [List.filter_cons, List.filter_cons]
    by_cases hq : q x = true
    · rw [if_pos hq, if_pos (h x hq)]; simp; lia
    · rw [if_neg hq]
      split
      · simp; lia
      · exact ih
theorem filt_lt {α : Type} {p q : α → Bool} (h : ∀ x, q x = true → p x = true) : ∀ {L : List α} {x : α}, x ∈ L → p x = true → q x = false → (L.filter q).length < (L.filter p).length
  | [], _, hx, _, _ => nomatch hx
  | y :: L, x, hx, hp, hq => by
    rw [List.filter_cons, List.filter_cons]
    rcases List.mem_cons.mp hx with rfl | hx
    · rw [if_neg (by rw [hq]; decide), if_pos hp]
      have := filt_le h L
      simp; lia
    · have ih := filt_lt h hx hp hq
      by_cases hq' : q y = true
      · rw [if_pos hq', if_pos (h y hq')]; simp; lia
      · rw [if_neg hq']
        split
        · simp; lia
        · exact ih
noncomputable def phi (o : Ord) (bs : List Poly) : Nat := (U5.filter fun u => !(bs.any fun g => mdiv (ldm o g) u)).length
noncomputable def Bt (φ : Nat) : Nat := 6 * 11 ^ (4 - φ) - 1
theorem Bt_step : ∀ φ < 5, ∀ φ' < φ, 11 * Bt φ + 10 ≤ Bt φ' := by decide
theorem Bt_le (φ : Nat) : Bt φ ≤ 87845 := by
  unfold Bt
  have : 11 ^ (4 - φ) ≤ 11 ^ 4 := Nat.pow_le_pow_right (by decide) (by lia)
  lia
theorem phi_add {o : Ord} {bs : List Poly} {q : Poly} (hm : ldm o q ∈ U5) (h : ∀ g ∈ bs, mdiv (ldm o g) (ldm o q) = false) : phi o (bs ++ [q]) < phi o bs := by
  unfold phi
  refine filt_lt (x := ldm o q) (fun u hu => ?_) hm ?_ ?_
  · rw [List.any_append, Bool.not_or, Bool.and_eq_true] at hu
    exact hu.1
  · rw [Bool.not_eq_true', List.any_eq_false]
    intro g hg
    rw [h g hg]; decide
  · have : mdiv (ldm o q) (ldm o q) = true := by unfold mdiv; simp
    simp [this]
noncomputable def Kills (l : Mono → Rat) (bs : List Poly) : Prop := ∀ g ∈ bs, ∀ σ, nn σ → Lam (fun x => l (mprod x σ)) g = 0
theorem Kills.shift {l : Mono → Rat} {bs : List Poly} (h : Kills l bs) {σ : Mono} (hσ : nn σ) : Kills (fun x => l (mprod x σ)) bs := fun g hg τ hτ => by
  rw [← h g hg (mprod τ σ) (nn_mprod hτ hσ)]
  refine lam_congr fun e _ => ?_
  show l _ = l _
  rw [mprod_assoc]

theorem pairKey_ok {o : Ord} {ls : List Mono} {pr : Mono} (h1 : 0 ≤ pr.1) (h2 : pr.1 < pr.2) (h3 : pr.2 < ls.length) (hl : ls.length ≤ 1000000) : ∃ k, pairKey? o ls pr = some k := by
  unfold pairKey?
  rw [if_pos ⟨h1, by lia, hl⟩]
  rw [List.getElem?_eq_getElem (show pr.1.toNat < ls.length by lia), List.getElem?_eq_getElem (show pr.2.toNat < ls.length by lia)]
  exact ⟨_, rfl⟩
theorem leastGo_ok {o : Ord} {ls : List Mono} (hl : ls.length ≤ 1000000) : ∀ (wt : List Mono) (b : Mono × List Int × List Int), (∀ pr ∈ wt, 0 ≤ pr.1 ∧ pr.1 < pr.2 ∧ pr.2 < ls.length) → ∃ c, leastGo? o ls (some b) wt = some (some c) ∧ (c.1 = b.1 ∨ c.1 ∈ wt)
  | [], b, _ => ⟨b, rfl, .inl rfl⟩
  | p :: r, b, h => by
    obtain ⟨h1, h2, h3⟩ := h p List.mem_cons_self
    obtain ⟨k, hk⟩ := pairKey_ok (o := o) h1 h2 h3 hl
    have e : leastGo? o ls (some b) (p :: r) = (pairKey? o ls p).bind fun k => leastGo? o ls (if lexI2 .Lt k b.2 = true then some (p, k) else some b) r := rfl
    rw [e, hk, Option.bind_some]
    have hr := fun pr hpr => h pr (List.mem_cons_of_mem _ hpr)
    split
    · obtain ⟨c, h4, h5⟩ := leastGo_ok hl r (p, k) hr
      refine ⟨c, h4, .inr ?_⟩
      rcases h5 with h5 | h5
      · rw [h5]; exact List.mem_cons_self
      · exact List.mem_cons_of_mem _ h5
    · obtain ⟨c, h4, h5⟩ := leastGo_ok hl r b hr
      exact ⟨c, h4, h5.imp id (List.mem_cons_of_mem _)⟩
theorem least_ok {o : Ord} {ls wt : List Mono} (hl : ls.length ≤ 1000000) (hne : wt ≠ []) (h : ∀ pr ∈ wt, 0 ≤ pr.1 ∧ pr.1 < pr.2 ∧ pr.2 < ls.length) : ∃ pr ∈ wt, least? o ls wt = some pr := by
  cases wt with
  | nil => exact absurd rfl hne
  | cons p r =>
    obtain ⟨h1, h2, h3⟩ := h p List.mem_cons_self
    obtain ⟨k, hk⟩ := pairKey_ok (o := o) h1 h2 h3 hl
    obtain ⟨c, h4, h5⟩ := leastGo_ok (o := o) hl r (p, k) fun pr hpr => h pr (List.mem_cons_of_mem _ hpr)
    refine ⟨c.1, ?_, ?_⟩
    · rcases h5 with h5 | h5
      · rw [h5]; exact List.mem_cons_self
      · exact List.mem_cons_of_mem _ h5
    · unfold least?
      have e : leastGo? o ls none (p :: r) = (pairKey? o ls p).bind fun k => leastGo? o ls (some (p, k)) r := rfl
      rw [e, hk, Option.bind_some, h4]
      rfl
theorem needGo_true {pr : Mono} {wt : List Mono} {J : Mono} : ∀ {ls : List Mono} {i : Nat}, needGo pr wt J ls i = true → ∃ (k : Nat) (m : Mono), ls[k]? = some m ∧ pr.1 ≠ ((i + k : Nat) : Int) ∧ pr.2 ≠ ((i + k : Nat) : Int) ∧ mdiv m J = true ∧
      (min pr.1 ((i + k : Nat) : Int), max pr.1 ((i + k : Nat) : Int)) ∉ wt ∧ (min pr.2 ((i + k : Nat) : Int), max pr.2 ((i + k : Nat) : Int)) ∉ wt
  | [], _, h => nomatch h
  | m :: r, i, h => by
    have back : needGo pr wt J r ((i + 1 : Nat) : Int) = true → _ := fun h => needGo_true (ls := r) (i := i + 1) h
    have lift : (∃ (k : Nat) (m : Mono), r[k]? = some m ∧ pr.1 ≠ ((i + 1 + k : Nat) : Int) ∧ pr.2 ≠ ((i + 1 + k : Nat) : Int) ∧ mdiv m J = true ∧
      (min pr.1 ((i + 1 + k : Nat) : Int), max pr.1 ((i + 1 + k : Nat) : Int)) ∉ wt ∧ (min pr.2 ((i + 1 + k : Nat) : Int), max pr.2 ((i + 1 + k : Nat) : Int)) ∉ wt) →
      ∃ (k : Nat) (m' : Mono), (m :: r)[k]? = some m' ∧ pr.1 ≠ ((i + k : Nat) : Int) ∧ pr.2 ≠ ((i + k : Nat) : Int) ∧ mdiv m' J = true ∧
      (min pr.1 ((i + k : Nat) : Int), max pr.1 ((i + k : Nat) : Int)) ∉ wt ∧ (min pr.2 ((i + k : Nat) : Int), max pr.2 ((i + k : Nat) : Int)) ∉ wt := by
      rintro ⟨k, m', h1, h2, h3, h4, h5, h6⟩
      have e : i + 1 + k = i + (k + 1) := by lia
      rw [e] at h2 h3 h5 h6
      exact ⟨k + 1, m', by simpa using h1, h2, h3, h4, h5, h6⟩
    unfold needGo at h
    split at h
    · exact lift (back h)
    · rename_i hc
      split at h
      · rename_i hc2
        simp only [Bool.or_eq_true, beq_iff_eq, Bool.not_eq_true', not_or, Bool.not_eq_false] at hc
        simp only [Bool.and_eq_true, Bool.not_eq_true', List.contains_eq_mem, decide_eq_false_iff_not] at hc2
        exact ⟨0, m, rfl, hc.1.1, hc.1.2, hc.2, hc2.1, hc2.2⟩
      · exact lift (back h)

structure GI (o : Ord) (bs : List Poly) (wt : List Mono) : Prop where
  wr : ∀ pr ∈ wt, 0 ≤ pr.1 ∧ pr.1 < pr.2 ∧ pr.2 < bs.length
  rep : ∀ (i j : Nat) (x y : Poly), i < j → bs[i]? = some x → bs[j]? = some y → ((i : Int), (j : Int)) ∈ wt ∨ SRep o (Xof o bs) (ldm o x, cf x) (ldm o y, cf y)
theorem GI.any {o : Ord} {bs : List Poly} {wt : List Mono} (h : GI o bs wt) {i j : Nat} {x y : Poly} (hi : bs[i]? = some x) (hj : bs[j]? = some y) (hn : (((min i j : Nat) : Int), ((max i j : Nat) : Int)) ∉ wt) : SRep o (Xof o bs) (ldm o x, cf x) (ldm o y, cf y) := by
  rcases Nat.lt_trichotomy i j with hij | hij | hij
  · rw [Nat.min_eq_left (by lia), Nat.max_eq_right (by lia)] at hn
    exact (h.rep i j x y hij hi hj).resolve_left hn
  · subst hij
    rw [hi] at hj; cases hj
    exact SRep.refl
  · rw [Nat.min_eq_right (by lia), Nat.max_eq_left (by lia)] at hn
    exact ((h.rep j i y x hij hj hi).resolve_left hn).symm
theorem GI.drop {o : Ord} {bs : List Poly} {wt : List Mono} {pr : Mono} (h : GI o bs wt) (hp : ∀ x y, bs[pr.1.toNat]? = some x → bs[pr.2.toNat]? = some y → SRep o (Xof o bs) (ldm o x, cf x) (ldm o y, cf y)) : GI o bs (wt.filter fun x => !decide (x = pr)) where
  wr := fun p hp' => h.wr p (List.mem_filter.mp hp').1
  rep := fun i j x y hij hi hj => by
    rcases h.rep i j x y hij hi hj with h1 | h1
    · by_cases e : ((i : Int), (j : Int)) = pr
      · refine .inr (hp x y ?_ ?_)
        · rw [← e]; exact hi
        · rw [← e]; exact hj
      · exact .inl (List.mem_filter.mpr ⟨h1, by simpa using e⟩)
    · exact .inr h1
theorem GI.all {o : Ord} {bs : List Poly} (h : GI o bs []) : ∀ x ∈ Xof o bs, ∀ y ∈ Xof o bs, SRep o (Xof o bs) x y := by
  intro x hx y hy
  obtain ⟨f, hf, rfl⟩ := List.mem_map.mp hx
  obtain ⟨g, hg, rfl⟩ := List.mem_map.mp hy
  obtain ⟨i, hi⟩ := List.getElem?_of_mem hf
  obtain ⟨j, hj⟩ := List.getElem?_of_mem hg
  exact h.any hi hj (fun h => nomatch h)
theorem SRep.more {o : Ord} {X Y : Bas} {x y : Mono × Fn} (h : SRep o X x y) (hXY : ∀ x ∈ X, x ∈ Y) : SRep o Y x y := fun t ht s r hs hr e1 e2 => (h t ht s r hs hr e1 e2).more hXY
theorem mem_pairsRow {i n : Nat} (h : i < n) : ((i : Int), (n : Int)) ∈ pairsRow n := by
  unfold pairsRow
  exact List.mem_map.mpr ⟨i, List.mem_range.mpr h, rfl⟩
theorem pairsRow_mem {n : Nat} {pr : Mono} (h : pr ∈ pairsRow n) : 0 ≤ pr.1 ∧ pr.1 < pr.2 ∧ pr.2 = n := by
  unfold pairsRow at h
  obtain ⟨i, hi, rfl⟩ := List.mem_map.mp h
  rw [List.mem_range] at hi
  exact ⟨Int.natCast_nonneg _, Int.ofNat_lt.mpr hi, rfl⟩

theorem grobGo_ok {o : Ord} : ∀ (fuel : Nat) (done : Int) (bs : List Poly) (wt : List Mono), 0 ≤ done → phi o bs ≤ 4 → wt.length + 7 * phi o bs < fuel → done + wt.length + 7 * phi o bs ≤ 200 → bs.length + phi o bs ≤ 7 → Els o (Bt (phi o bs)) bs → GI o bs wt →
    ∃ bs', grobGo? o 200 fuel done bs (bs.map (ldm o)) wt = some bs' ∧ Els o 87845 bs' ∧ bs'.length ≤ 7 ∧ (∀ g ∈ bs, g ∈ bs') ∧ (∀ x ∈ Xof o bs', ∀ y ∈ Xof o bs', SRep o (Xof o bs') x y) ∧ ∀ l, Kills l bs → Kills l bs' := by
  intro fuel
  induction fuel with
  | zero => intro done bs wt _ _ h; lia
  | succ fuel ih =>
    intro done bs wt hd0 hφ hfu hdn hlen hE hG
    unfold grobGo?
    rw [if_neg (by rw [List.length_map]; simp; lia)]
    by_cases hw0 : wt.length = 0
    · rw [if_pos hw0]
      have : wt = [] := List.length_eq_zero_iff.mp hw0
      subst this
      exact ⟨bs, rfl, hE.mono (Bt_le _), by lia, fun g hg => hg, hG.all, fun l h => h⟩
    rw [if_neg hw0]
    have hll : (bs.map (ldm o)).length = bs.length := List.length_map _
    obtain ⟨pr, hpr, hle⟩ := least_ok (o := o) (ls := bs.map (ldm o)) (wt := wt) (by lia) (fun e => hw0 (by rw [e]; rfl)) (fun p hp => by rw [hll]; exact hG.wr p hp)
    obtain ⟨hp1, hp2, hp3⟩ := hG.wr pr hpr
    rw [hle, Option.bind_some]
    obtain ⟨f, hf⟩ : ∃ f, bs[pr.1.toNat]? = some f := ⟨_, List.getElem?_eq_getElem (by lia)⟩
    obtain ⟨g, hg⟩ : ∃ g, bs[pr.2.toNat]? = some g := ⟨_, List.getElem?_eq_getElem (by lia)⟩
    have hfm := List.mem_of_getElem? hf
    have hgm := List.mem_of_getElem? hg
    have hEf := hE f hfm
    have hEg := hE g hgm
    have hcut : (wt.filter fun x => !decide (x = pr)).length < wt.length := by
      have h1 := filt_lt (p := fun _ => true) (q := fun x => !decide (x = pr)) (L := wt) (x := pr) (fun _ _ => rfl) hpr rfl (by simp)
      have h2 : (wt.filter fun _ => true).length = wt.length := by rw [List.filter_eq_self.mpr (fun _ _ => rfl)]
      lia
    have hnd : needless? (bs.map (ldm o)) (wt.filter fun x => !decide (x = pr)) pr = some (mapart (ldm o f) (ldm o g) || needGo pr (wt.filter fun x => !decide (x = pr)) (mjoin (ldm o f) (ldm o g)) (bs.map (ldm o)) 0) := by
      unfold needless?
      rw [if_pos ⟨hp1, by lia, by lia⟩, List.getElem?_map, List.getElem?_map, hf, hg]
      rfl
    rw [hnd, Option.bind_some]
    by_cases hndt : (mapart (ldm o f) (ldm o g) || needGo pr (wt.filter fun x => !decide (x = pr)) (mjoin (ldm o f) (ldm o g)) (bs.map (ldm o)) 0) = true
    · rw [if_pos hndt]
      refine ih done bs _ hd0 hφ (by lia) (by lia) hlen hE (hG.drop fun x y hx hy => ?_)
      rw [hf] at hx; cases hx
      rw [hg] at hy; cases hy
      rcases Bool.or_eq_true_iff.mp hndt with h | h
      · exact SRep.prod hE.bok hEf.wf hEg.wf hEf.nnk hEg.nnk (mem_Xof hfm) (mem_Xof hgm) h
      · obtain ⟨k, m, hk, hk1, hk2, hk3, hk4, hk5⟩ := needGo_true (i := 0) h
        rw [Nat.zero_add] at hk1 hk2 hk4 hk5
        rw [List.getElem?_map] at hk
        obtain ⟨z, hz, rfl⟩ := Option.map_eq_some_iff.mp hk
        have nin : ∀ a : Int, (a = pr.1 ∨ a = pr.2) → (min a (k : Int), max a (k : Int)) ∉ (wt.filter fun x => !decide (x = pr)) → (((min a.toNat k : Nat) : Int), ((max a.toNat k : Nat) : Int)) ∉ wt := fun a ha h hw => by
          have e : (((min a.toNat k : Nat) : Int), ((max a.toNat k : Nat) : Int)) = (min a (k : Int), max a (k : Int)) := Prod.ext (by simp only; lia) (by simp only; lia)
          rw [e] at hw
          refine h (List.mem_filter.mpr ⟨hw, ?_⟩)
          simp only [Bool.not_eq_true', decide_eq_false_iff_not]
          intro e2
          have e3 := congrArg Prod.fst e2
          have e4 := congrArg Prod.snd e2
          simp only at e3 e4
          lia
        refine SRep.chain (z := (ldm o z, cf z)) (hG.any hf hz (nin _ (.inl rfl) hk4)) ((hG.any hg hz (nin _ (.inr rfl) hk5)).symm) fun t ht h1 h2 => ?_
        unfold mdiv mjoin at *
        simp only [Bool.and_eq_true, decide_eq_true_eq] at *
        lia
    · rw [if_neg hndt]
      have hdc : ¬ (done + 1 > 200) := by lia
      rw [if_neg hdc, hf, hg]
      simp only
      have hap : mapart (ldm o f) (ldm o g) = false := by
        cases h : mapart (ldm o f) (ldm o g) with
        | false => rfl
        | true => rw [h] at hndt; simp at hndt
      have hBt := Bt_le (phi o bs)
      have hcap : 11 * Bt (phi o bs) + 10 ≤ bitsCap := Nat.le_trans (show _ ≤ 966305 by lia) (by decide)
      obtain ⟨S, R, hS, hR, hwR, hshR, hirR, hszR, hspR, hltR, hlamR⟩ := srest_ok hE hfm hgm hap hcap (by lia)
      rw [hS, Option.bind_some, hR, Option.bind_some]
      have hRl : R.length ≤ 4 := by
        have e : R.length = (ks R).length := by simp
        rw [e]
        rcases hshR with h | h
        · exact len_le hwR.nd h
        · exact Nat.le_trans (len_le hwR.nd h) (by decide)
      rw [if_neg (by lia)]
      by_cases hR0 : R.length = 0
      · rw [if_pos hR0]
        have : R = [] := List.length_eq_zero_iff.mp hR0
        subst this
        refine ih (done + 1) bs _ (by lia) hφ (by lia) (by lia) hlen hE (hG.drop fun x y hx hy => ?_)
        rw [hf] at hx; cases hx
        rw [hg] at hy; cases hy
        exact SRep.of hEf.nnm hEg.nnm (hspR.eq fun n => by simp only; rw [cf_nil]; grind)
      · rw [if_neg hR0]
        obtain ⟨q, hq, hlq, hEq, hml, hc0, hcfq, hlamq⟩ := monic_ok (o := o) hwR (fun e => hR0 (by rw [e]; rfl)) hshR hszR hcap
        rw [hq, Option.bind_some, hml, Option.bind_some]
        have hkR : ldm o R ∈ ks R := hwR.key.mpr hc0
        have hφ' : phi o (bs ++ [q]) < phi o bs := phi_add (by rw [hlq]; exact hEq.u5) fun g hg => by rw [hlq]; exact hirR _ hkR g hg
        have hls : bs.map (ldm o) ++ [ldm o R] = (bs ++ [q]).map (ldm o) := by rw [List.map_append, List.map_singleton, hlq]
        simp only
        rw [hls]
        have hbl : (bs ++ [q]).length = bs.length + 1 := by simp
        have hprl : (pairsRow bs.length).length = bs.length := by unfold pairsRow; simp
        have hXs : ∀ x ∈ Xof o bs, x ∈ Xof o (bs ++ [q]) := fun x hx => by unfold Xof; rw [List.map_append]; exact List.mem_append_left _ hx
        have hstep := Bt_step (phi o bs) (by lia) _ hφ'
        have hE' : Els o (Bt (phi o (bs ++ [q]))) (bs ++ [q]) := fun p hp => by
          rcases List.mem_append.mp hp with hp | hp
          · exact hE.mono (by lia) p hp
          · rw [List.mem_singleton.mp hp, hlq]
            exact { hEq with sz := hEq.sz.mono hstep }
        have hG' : GI o (bs ++ [q]) ((wt.filter fun x => !decide (x = pr)) ++ pairsRow bs.length) := {
          wr := fun p hp => by
            rw [hbl]
            rcases List.mem_append.mp hp with hp | hp
            · have := hG.wr p (List.mem_filter.mp hp).1
              lia
            · have := pairsRow_mem hp
              lia
          rep := fun i j x y hij hi hj => by
            have hjl := (List.getElem?_eq_some_iff.mp hj).1
            rw [hbl] at hjl
            by_cases hjn : j = bs.length
            · subst hjn
              exact .inl (List.mem_append_right _ (mem_pairsRow hij))
            · rw [List.getElem?_append_left (by lia)] at hi hj
              rcases hG.rep i j x y hij hi hj with h1 | h1
              · by_cases e : ((i : Int), (j : Int)) = pr
                · refine .inr ?_
                  have e1 : pr.1.toNat = i := by rw [← e]; rfl
                  have e2 : pr.2.toNat = j := by rw [← e]; rfl
                  rw [e1, hi] at hf; cases hf
                  rw [e2, hj] at hg; cases hg
                  refine SRep.of hEf.nnm hEg.nnm ?_
                  have hJm : gt o (mjoin (ldm o f) (ldm o g)) (mprod (ldm o R) (0, 0)) := by
                    have : mprod (ldm o R) (0, 0) = ldm o R := by unfold mprod; exact Prod.ext (by simp) (by simp)
                    rw [this]; exact hltR _ hkR
                  have hxq : (ldm o R, cf q) ∈ Xof o (bs ++ [q]) := by rw [← hlq]; exact mem_Xof (List.mem_append_right _ List.mem_cons_self)
                  refine (Sp.add (s := (0, 0)) (c := cf R (ldm o R)) (hspR.more hXs) hxq ⟨Int.le_refl _, Int.le_refl _⟩ hJm).eq fun n => ?_
                  simp only [lin, sh, Int.sub_zero]
                  rw [hcfq]
                  have : cf R (ldm o R) * (cf R (ldm o R))⁻¹ = 1 := Rat.mul_inv_cancel _ hc0
                  grind
                · exact .inl (List.mem_append_left _ (List.mem_filter.mpr ⟨h1, by simpa using e⟩))
              · exact .inr (h1.more hXs) }
        obtain ⟨bs', h1, h2, h3, h4, h5, h6⟩ := ih (done + 1) (bs ++ [q]) _ (by lia) (by lia) (by rw [List.length_append, hprl]; lia) (by rw [List.length_append, hprl]; lia) (by rw [hbl]; lia) hE' hG'
        refine ⟨bs', h1, h2, h3, fun g hg => h4 g (List.mem_append_left _ hg), h5, fun l hl => h6 l fun p hp => ?_⟩
        rcases List.mem_append.mp hp with hp | hp
        · exact hl p hp
        · rw [List.mem_singleton.mp hp]
          intro σ hσ
          rw [hlamq, hlamR (fun x => l (mprod x σ)) (hl.shift hσ)]; grind
end Mine
end
section
set_option maxRecDepth 100000
namespace Mine
open PySem

/-! ### ideals -/
noncomputable def InI (o : Ord) (X : Bas) (F : Fn) : Prop := ∃ M, Sp o X M F
theorem gt_up {o : Ord} (m : Mono) : gt o (mprod m (1, 1)) m := by
  rw [gt_iff]; unfold gtP mprod; cases o <;> simp only <;> lia
theorem gt_both {o : Ord} (a b : Mono) : ∃ M, gt o M a ∧ gt o M b := by
  rcases gt_total (o := o) a b with h | h | h
  · subst h; exact ⟨_, gt_up a, gt_up a⟩
  · exact ⟨_, gt_up a, gt_trans (gt_up a) h⟩
  · exact ⟨_, gt_trans (gt_up b) h, gt_up b⟩
theorem gt_list {o : Ord} : ∀ L : List Mono, ∃ M, ∀ m ∈ L, gt o M m
  | [] => ⟨(0, 0), fun _ h => nomatch h⟩
  | x :: L => by
    obtain ⟨M, hM⟩ := gt_list (o := o) L
    obtain ⟨N, h1, h2⟩ := gt_both (o := o) x M
    refine ⟨N, fun m hm => ?_⟩
    rcases List.mem_cons.mp hm with rfl | hm
    · exact h1
    · exact gt_trans h2 (hM m hm)
theorem InI.bound {o : Ord} {X : Bas} {F : Fn} (h : InI o X F) (L : List Mono) : ∃ M, (∀ m ∈ L, gt o M m) ∧ Sp o X M F := by
  obtain ⟨M, hM⟩ := h
  obtain ⟨N, hN⟩ := gt_list (o := o) L
  obtain ⟨K, h1, h2⟩ := gt_both (o := o) M N
  exact ⟨K, fun m hm => gt_trans h2 (hN m hm), hM.mono h1⟩
theorem InI.eq {o : Ord} {X : Bas} {F G : Fn} (h : InI o X F) (e : ∀ n, F n = G n) : InI o X G := h.imp fun _ h => h.eq e
theorem InI.zero {o : Ord} {X : Bas} : InI o X (fun _ => 0) := ⟨(0, 0), .zero⟩
theorem InI.plus {o : Ord} {X : Bas} {F G : Fn} (h : InI o X F) (h' : InI o X G) : InI o X (fun n => F n + G n) := by
  obtain ⟨M, hM⟩ := h
  obtain ⟨N, hN⟩ := h'
  obtain ⟨K, h1, h2⟩ := gt_both (o := o) M N
  exact ⟨K, (hM.mono h1).plus (hN.mono h2)⟩
theorem InI.smul {o : Ord} {X : Bas} {F : Fn} (c : Rat) (h : InI o X F) : InI o X (fun n => c * F n) := h.imp fun _ h => h.smul c
theorem InI.shift {o : Ord} {X : Bas} {F : Fn} {u : Mono} (hu : nn u) (h : InI o X F) : InI o X (sh u F) := let ⟨_, h⟩ := h; ⟨_, h.shift u hu⟩
theorem InI.of {o : Ord} {X : Bas} {x : Mono × Fn} (hx : x ∈ X) : InI o X x.2 := by
  refine ⟨mprod x.1 (1, 1), (Sp.add (s := (0, 0)) (c := 1) .zero hx ⟨Int.le_refl _, Int.le_refl _⟩ ?_).eq fun n => ?_⟩
  · have : mprod x.1 (0, 0) = x.1 := by unfold mprod; exact Prod.ext (by simp) (by simp)
    rw [this]; exact gt_up _
  · simp only [lin, sh, Int.sub_zero]; grind

/-! ### a basis that is one -/
structure GB (o : Ord) (bs : List Poly) : Prop where
  els : Els o 87845 bs
  len : bs.length ≤ 7
  rep : ∀ x ∈ Xof o bs, ∀ y ∈ Xof o bs, SRep o (Xof o bs) x y
noncomputable def low (d : Int) (p : Poly) : Prop := ∀ m ∈ ks p, nn m ∧ m.1 + m.2 ≤ d
theorem NN7 {d : Nat} (hd : d ≤ 7) : NN d ≤ 64 := by
  unfold NN
  have : (d + 1) * (d + 1) ≤ 8 * 8 := Nat.mul_le_mul (by lia) (by lia)
  lia
theorem cap_ok {B N : Nat} (hB : B ≤ 1000000) (hN : N ≤ 155) : B + N * (87845 + 1) ≤ bitsCap := by
  have h1 : N * (87845 + 1) ≤ 155 * (87845 + 1) := Nat.mul_le_mul_right _ hN
  exact Nat.le_trans (show _ ≤ 1000000 + 155 * (87845 + 1) by lia) (by decide)
theorem GB.rest {o : Ord} {bs : List Poly} (h : GB o bs) {d B : Nat} {p : Poly} (hd : d ≤ 7) (hp : WF p) (hl : low d p) (hz : Sz B p) (hB : B ≤ 1000000) :
    ∃ R, rest? o p bs = some R ∧ R.length ≤ 64 ∧ (InI o (Xof o bs) (cf p) → R = []) ∧ ∀ l, Kills l bs → Lam l R = Lam l p := by
  obtain ⟨R, h1, h2, h3, h4, h5, h6, h7⟩ := rest_ok h.els (cl_deg h.els d) hd hp hl hz (cap_ok hB (Nat.le_trans (NN7 hd) (by decide))) (by have := h.len; lia)
  refine ⟨R, h1, low_len h2 fun n hn => ⟨(h3 n hn).1, by have := (h3 n hn).2; lia⟩, fun hi => ?_, h7⟩
  obtain ⟨M, hM1, hM2⟩ := hi.bound (ks p)
  have hRM : Sp o (Xof o bs) M (cf R) := (hM2.plus ((h6 M hM1).smul (-1))).eq fun n => by grind
  refine h2.eq_nil (normal_zero h.els.bok h.rep (fun n hn x hx => ?_) hRM)
  obtain ⟨g, hg, rfl⟩ := List.mem_map.mp hx
  exact h4 n (h2.key.mpr hn) g hg
theorem GB.mem {o : Ord} {bs : List Poly} (h : GB o bs) {d B : Nat} {p : Poly} (hd : d ≤ 7) (hp : WF p) (hl : low d p) (hz : Sz B p) (hB : B ≤ 1000000) (hi : InI o (Xof o bs) (cf p)) : ismem? o p bs = some true := by
  obtain ⟨R, h1, h2, h3, _⟩ := h.rest hd hp hl hz hB
  have := h3 hi
  subst this
  unfold ismem?
  rw [h1, Option.bind_some]
  rfl
theorem GB.nmem {o : Ord} {bs : List Poly} (h : GB o bs) {d B : Nat} {p : Poly} (hd : d ≤ 7) (hp : WF p) (hl : low d p) (hz : Sz B p) (hB : B ≤ 1000000) {l : Mono → Rat} (hk : Kills l bs) (hne : Lam l p ≠ 0) : ismem? o p bs = some false := by
  obtain ⟨R, h1, h2, _, h4⟩ := h.rest hd hp hl hz hB
  have hR : R ≠ [] := by
    rintro rfl
    have := h4 l hk
    exact hne this.symm
  unfold ismem?
  rw [h1, Option.bind_some, if_pos (by lia)]
  congr 1
  rw [beq_eq_false_iff_ne]
  exact fun e => hR (List.length_eq_zero_iff.mp e)
theorem GB.lrest {o : Ord} {bs : List Poly} (h : GB o bs) {B : Nat} {p : Poly} (hp : WF p) (hl : low 3 p) (hz : Sz B p) (hB : B ≤ 1000000) (hi : InI o (Xof o bs) (cf p)) : LRest o p bs fun r => r = [] :=
  LRest_ok h.els h.rep (by have := h.len; lia) hp hl hz (cap_ok hB (Nat.le_refl _)) (hi.bound (ks p))
/-- the s-polynomial of any two -/
theorem GB.spol {o : Ord} {bs : List Poly} (h : GB o bs) {f g : Poly} (hf : f ∈ bs) (hg : g ∈ bs) : ∃ S, spoly? o f g = some S ∧ WF S ∧ low 3 S ∧ Sz 175691 S ∧ InI o (Xof o bs) (cf S) := by
  have hEf := h.els f hf
  have hEg := h.els g hg
  obtain ⟨hja, hjb, hpa, hpb⟩ := mquot_join hEf.nnm hEg.nnm
  obtain ⟨S, h1, h2, h3, h4, _, h6, _⟩ := spoly_ok hEf hEg (by decide)
  refine ⟨S, h1, h2, fun n hn => ?_, h6, ⟨_, (h.rep _ (mem_Xof hf) _ (mem_Xof hg) (mjoin (ldm o f) (ldm o g)) ?_ _ _ hja hjb hpa hpb).eq fun n => (h3 n).symm⟩⟩
  · have hj := join_low _ hEf.u5 _ hEg.u5
    rcases h4 n hn with ⟨t, ht, rfl⟩ | ⟨t, ht, rfl⟩
    · obtain ⟨q1, q2⟩ := tl_low _ hEf.u5 t ht
      refine ⟨nn_mprod q1 hja, ?_⟩
      have e1 := congrArg Prod.fst hpa
      have e2 := congrArg Prod.snd hpa
      unfold mprod at *
      simp only at *
      lia
    · obtain ⟨q1, q2⟩ := tl_low _ hEg.u5 t ht
      refine ⟨nn_mprod q1 hjb, ?_⟩
      have e1 := congrArg Prod.fst hpb
      have e2 := congrArg Prod.snd hpb
      unfold mprod at *
      simp only at *
      lia
  · have := nn_mprod hEf.nnm hja
    rwa [hpa] at this
theorem GB.zero {o : Ord} {bs : List Poly} (h : GB o bs) : AllZero o bs := by
  refine ⟨by have := h.len; lia, fun i f hf g hg => ?_⟩
  obtain ⟨S, h1, h2, h3, h4, h5⟩ := h.spol (List.mem_of_getElem? hf) (List.mem_of_mem_take hg)
  exact ⟨S, h1, h.lrest h2 h3 h4 (by decide) h5⟩
theorem GB.isbIn {o : Ord} {bs : List Poly} (h : GB o bs) {f : Poly} (hf : f ∈ bs) : ∀ {l : List Poly}, (∀ g ∈ l, g ∈ bs) → isbIn? o bs f l = some true
  | [], _ => rfl
  | g :: r, hl => by
    obtain ⟨S, h1, h2, h3, h4, h5⟩ := h.spol hf (hl g List.mem_cons_self)
    obtain ⟨R, q1, q2, q3, _⟩ := h.rest (d := 3) (by decide) h2 h3 h4 (by decide)
    have := q3 h5
    subst this
    unfold isbIn?
    rw [h1, Option.bind_some, q1, Option.bind_some, if_neg (by decide), if_pos (show ([] : Poly).length = 0 from rfl)]
    exact h.isbIn hf fun g hg => hl g (List.mem_cons_of_mem _ hg)
theorem GB.isbOut {o : Ord} {bs : List Poly} (h : GB o bs) : ∀ {l : List Poly} {i : Nat}, (∀ g ∈ l, g ∈ bs) → isbOut? o bs i l = some true
  | [], _, _ => rfl
  | f :: r, i, hl => by
    unfold isbOut?
    rw [h.isbIn (hl f List.mem_cons_self) fun g hg => List.mem_of_mem_take hg, Option.bind_some, if_pos rfl]
    exact h.isbOut fun g hg => hl g (List.mem_cons_of_mem _ hg)
theorem GB.isb {o : Ord} {bs : List Poly} (h : GB o bs) : isbasis? o bs = some true := by
  have hgood : good bs = bs := by
    unfold good
    rw [List.filter_eq_self]
    intro p hp
    have := (h.els p hp).ne
    simp only [decide_eq_true_eq]
    exact List.length_pos_iff.mpr this
  have hall : (bs.all fun p => decide (p.length ≤ 1000000)) = true := by
    rw [List.all_eq_true]
    intro p hp
    have := (h.els p hp).len
    simp only [decide_eq_true_eq]
    lia
  unfold isbasis?
  rw [if_pos ⟨hall, by have := h.len; lia⟩, hgood]
  exact h.isbOut fun g hg => hg

/-! ### from the inputs -/
structure Inp (p : Poly) : Prop where
  wf : WF p
  u6 : ∀ n ∈ ks p, n ∈ U6
  sz : Sz 5 p
noncomputable def KillsP (l : Mono → Rat) (gs : List Poly) : Prop := ∀ g ∈ gs, ∀ σ, nn σ → Lam (fun x => l (mprod x σ)) g = 0
theorem Inp.len {p : Poly} (h : Inp p) : p.length ≤ 4 := by
  have e : p.length = (ks p).length := by simp
  rw [e]
  exact len_le h.wf.nd h.u6
theorem monGo_ok {o : Ord} : ∀ (gs acc : List Poly), (∀ p ∈ gs, Inp p) → ∃ qs, monGo? o acc gs = some (acc ++ qs) ∧ qs.length ≤ gs.length ∧ Els o 5 qs ∧ (∀ p ∈ gs, p = [] ∨ ∃ q ∈ qs, ∃ c, ∀ n, cf p n = c * cf q n) ∧ ∀ l, KillsP l gs → Kills l qs
  | [], acc, _ => ⟨[], by simp [monGo?], Nat.le_refl _, fun _ h => (nomatch h), fun _ h => (nomatch h), fun _ _ _ h => (nomatch h)⟩
  | p :: r, acc, h => by
    have hp := h p List.mem_cons_self
    have hr := fun x hx => h x (List.mem_cons_of_mem _ hx)
    have hlen := hp.len
    unfold monGo?
    rw [if_neg (by lia)]
    by_cases h0 : p.length = 0
    · rw [if_pos h0]
      obtain ⟨qs, h1, h2, h3, h4, h5⟩ := monGo_ok r acc hr
      refine ⟨qs, h1, by simp; lia, h3, fun x hx => ?_, fun l hl => h5 l fun g hg => hl g (List.mem_cons_of_mem _ hg)⟩
      rcases List.mem_cons.mp hx with rfl | hx
      · exact .inl (List.length_eq_zero_iff.mp h0)
      · exact h4 x hx
    · rw [if_neg h0]
      obtain ⟨q, k1, k2, k3, k4, k5, k6, k7⟩ := monic_ok (o := o) hp.wf (fun e => h0 (by rw [e]; rfl)) (.inl hp.u6) hp.sz (by decide)
      rw [k1, Option.bind_some]
      obtain ⟨qs, h1, h2, h3, h4, h5⟩ := monGo_ok r (acc ++ [q]) hr
      refine ⟨q :: qs, by rw [h1, List.append_assoc]; rfl, by simp; lia, fun g hg => ?_, fun x hx => ?_, fun l hl g hg => ?_⟩
      · rcases List.mem_cons.mp hg with rfl | hg
        · rw [k2]; exact k3
        · exact h3 g hg
      · rcases List.mem_cons.mp hx with rfl | hx
        · refine .inr ⟨q, List.mem_cons_self, cf x (ldm o x), fun n => ?_⟩
          rw [k6]
          have : cf x (ldm o x) * (cf x (ldm o x))⁻¹ = 1 := Rat.mul_inv_cancel _ k5
          grind
        · exact (h4 x hx).imp id fun ⟨q', a, b⟩ => ⟨q', List.mem_cons_of_mem _ a, b⟩
      · rcases List.mem_cons.mp hg with rfl | hg
        · intro σ hσ
          rw [k7, hl p List.mem_cons_self σ hσ]; grind
        · exact h5 l (fun g hg => hl g (List.mem_cons_of_mem _ hg)) g hg
theorem leadsGo_ok {o : Ord} {B : Nat} : ∀ (gs : List Poly) (acc : List Mono), Els o B gs → leadsGo? o acc gs = some (acc ++ gs.map (ldm o))
  | [], acc, _ => by simp [leadsGo?]
  | p :: r, acc, h => by
    unfold leadsGo?
    rw [(h p List.mem_cons_self).lead, Option.bind_some, leadsGo_ok r _ fun g hg => h g (List.mem_cons_of_mem _ hg), List.append_assoc]
    rfl
theorem pairsOf_len3 : ∀ n < 4, (pairsOf n).length ≤ 3 := by decide
theorem groebner_ok {o : Ord} {gs : List Poly} (hl : gs.length ≤ 3) (h : ∀ p ∈ gs, Inp p) :
    ∃ bs, groebner? o 200 gs = some bs ∧ GB o bs ∧ (∀ p ∈ gs, InI o (Xof o bs) (cf p)) ∧ ∀ l, KillsP l gs → Kills l bs := by
  obtain ⟨qs, h1, h2, h3, h4, h5⟩ := monGo_ok (o := o) gs [] h
  rw [List.nil_append] at h1
  have hlead := leadsGo_ok (o := o) qs [] h3
  rw [List.nil_append] at hlead
  have hgr : groebner? o 200 gs = grobGo? o 200 FUEL2 0 qs (qs.map (ldm o)) (pairsOf qs.length) := by
    unfold groebner?
    rw [if_neg (by lia), h1, Option.bind_some, hlead, Option.bind_some]
  rw [hgr]
  have fin : ∀ bs, (∀ g ∈ qs, g ∈ bs) → ∀ p ∈ gs, InI o (Xof o bs) (cf p) := fun bs hbs p hp => by
    rcases h4 p hp with rfl | ⟨q, hq, c, hc⟩
    · exact InI.zero.eq fun n => (cf_nil n).symm
    · exact ((InI.of (mem_Xof (hbs q hq))).smul c).eq fun n => (hc n).symm
  by_cases hq0 : qs = []
  · subst hq0
    exact ⟨[], rfl, ⟨fun _ h => (nomatch h), by decide, fun _ h => (nomatch h)⟩, fin [] (fun _ h => h), h5⟩
  obtain ⟨g, hg⟩ := List.exists_mem_of_ne_nil qs hq0
  have hphi : phi o qs ≤ 4 := by
    have h6 := filt_lt (p := fun _ => true) (q := fun u => !(qs.any fun g => mdiv (ldm o g) u)) (L := U5) (x := ldm o g) (fun _ _ => rfl) (h3 g hg).u5 rfl (by
      rw [Bool.not_eq_false', List.any_eq_true]
      exact ⟨g, hg, by unfold mdiv; simp⟩)
    have h7 : (U5.filter fun _ => true).length = 5 := by decide
    unfold phi
    lia
  have hpl := pairsOf_len3 qs.length (by lia)
  have hG : GI o qs (pairsOf qs.length) := {
    wr := fun pr hpr => by
      unfold pairsOf at hpr
      obtain ⟨j, hj, hpr⟩ := List.mem_flatMap.mp hpr
      rw [List.mem_range] at hj
      obtain ⟨a, b, c⟩ := pairsRow_mem hpr
      exact ⟨a, b, by lia⟩
    rep := fun i j x y hij hi hj => .inl (by
      unfold pairsOf
      exact List.mem_flatMap.mpr ⟨j, List.mem_range.mpr (List.getElem?_eq_some_iff.mp hj).1, mem_pairsRow hij⟩) }
  have hE5 : Els o (Bt (phi o qs)) qs := h3.mono (by
    have : ∀ φ < 5, 5 ≤ Bt φ := by decide
    exact this _ (by lia))
  obtain ⟨bs, k1, k2, k3, k4, k5, k6⟩ := grobGo_ok (o := o) FUEL2 0 qs (pairsOf qs.length) (by decide) hphi (by unfold FUEL2; lia) (by lia) (by lia) hE5 hG
  exact ⟨bs, k1, ⟨k2, k3, k5⟩, fin bs k4, fun l hl => k6 l (h5 l hl)⟩
end Mine
end
section
set_option maxRecDepth 100000
namespace Mine
open PySem

/-! ### at the point -/
noncomputable def ev (x y : Rat) (m : Mono) : Rat := x ^ m.1.toNat * y ^ m.2.toNat
theorem rpow_add (x : Rat) (a b : Nat) : x ^ (a + b) = x ^ a * x ^ b := by
  induction b with
  | zero => rw [Nat.add_zero, Rat.pow_zero, Rat.mul_one]
  | succ b ih => rw [← Nat.add_assoc, Rat.pow_succ, ih, Rat.pow_succ, Rat.mul_assoc]
theorem ev_mprod {x y : Rat} {m σ : Mono} (hm : nn m) (hσ : nn σ) : ev x y (mprod m σ) = ev x y m * ev x y σ := by
  unfold ev mprod
  unfold nn at *
  simp only
  rw [Int.toNat_add hm.1 hσ.1, Int.toNat_add hm.2 hσ.2, rpow_add, rpow_add]
  grind
theorem ev_one {x y : Rat} : ev x y (0, 0) = 1 := by
  unfold ev
  show x ^ 0 * y ^ 0 = 1
  rw [Rat.pow_zero, Rat.pow_zero, Rat.mul_one]
theorem lam_mul {l : Mono → Rat} {c : Rat} (p : Poly) : Lam (fun m => l m * c) p = c * Lam l p := by
  induction p with
  | nil => simp only [Lam]; grind
  | cons e p ih => simp only [Lam]; rw [ih]; grind
theorem kills_ev {x y : Rat} {p : Poly} (hn : ∀ n ∈ ks p, nn n) (h0 : Lam (ev x y) p = 0) : ∀ σ, nn σ → Lam (fun m => ev x y (mprod m σ)) p = 0 := fun σ hσ => by
  rw [lam_congr (l2 := fun m => ev x y m * ev x y σ) fun e he => ev_mprod (hn _ (List.mem_map_of_mem he)) hσ, lam_mul, h0]; grind
theorem kills_at {l : Mono → Rat} {bs : List Poly} (h : Kills l bs) {p : Poly} (hp : p ∈ bs) : Lam l p = 0 := by
  rw [← h p hp (0, 0) ⟨Int.le_refl _, Int.le_refl _⟩]
  refine lam_congr fun e _ => ?_
  have : mprod e.1 (0, 0) = e.1 := by unfold mprod; exact Prod.ext (by simp) (by simp)
  rw [this]
theorem ZB.add {B D : Nat} {q r : Rat} (h : ZB B D q) (h' : ZB B D r) : ZB (B + 1) D (q + r) := by
  have := h.sub h'.neg
  have e : q - -r = q + r := by grind
  rwa [e] at this
theorem pt_pow : ∀ a ∈ [(-1 : Int), 0, 1], ∀ n ∈ [(0 : Int), 1, 2], PowOk ((a : Int) : Rat) n ∧ ∃ z ∈ [(-1 : Int), 0, 1], ((a : Int) : Rat) ^ n.toNat = ((z : Int) : Rat) := by decide +kernel
theorem pt_ok {a n : Int} (ha : -1 ≤ a) (ha' : a ≤ 1) (hn : 0 ≤ n) (hn' : n ≤ 2) : PowOk (a : Rat) n ∧ ZB 1 1 ((a : Rat) ^ n.toNat) := by
  have h1 : a ∈ [(-1 : Int), 0, 1] := by simp only [List.mem_cons, List.not_mem_nil, or_false]; omega
  have h2 : n ∈ [(0 : Int), 1, 2] := by simp only [List.mem_cons, List.not_mem_nil, or_false]; omega
  obtain ⟨q1, z, hz, q2⟩ := pt_pow a h1 n h2
  refine ⟨q1, z, by rw [q2]; exact Rat.mul_one _, ?_⟩
  simp only [List.mem_cons, List.not_mem_nil, or_false] at hz
  omega
theorem sumAt_ok {a b : Int} (ha : -1 ≤ a) (ha' : a ≤ 1) (hb : -1 ≤ b) (hb' : b ≤ 1) {B D : Nat} (hD0 : 0 < D) (hDB : D < 2 ^ B) :
    ∀ (p : Poly) (U : Nat) (f : Rat), (∀ e ∈ p, ZB B D e.2) → (∀ n ∈ ks p, nn n ∧ n.1 + n.2 ≤ 2) → ZB U D f → B + 2 ≤ U → U + p.length ≤ bitsCap → sumAt? a b f p = some (f + Lam (ev a b) p)
  | [], _, f, _, _, _, _, _ => by
    simp only [sumAt?, Lam]
    congr 1
    grind
  | e :: r, U, f, hz, hn, hf, hU, hcap => by
    obtain ⟨hn1, hn2⟩ := hn e.1 List.mem_cons_self
    unfold nn at hn1
    obtain ⟨p1, p2⟩ := pt_ok ha ha' hn1.1 (show e.1.1 ≤ 2 by omega)
    obtain ⟨p3, p4⟩ := pt_ok hb hb' hn1.2 (show e.1.2 ≤ 2 by omega)
    have he := hz e List.mem_cons_self
    rw [List.length_cons] at hcap
    have up : ∀ {C : Nat} {q : Rat}, C ≤ U → ZB C D q → Sm q := fun hC h => (h.mono hC).sm hD0 (Nat.lt_of_lt_of_le hDB (Nat.pow_le_pow_right (by decide) (by omega))) (by omega)
    have c1 : ZB (B + 1) D (e.2 * (a : Rat) ^ e.1.1.toNat) := by have := he.mul p2; rwa [Nat.mul_one] at this
    have c2 : ZB (B + 2) D (e.2 * (a : Rat) ^ e.1.1.toNat * (b : Rat) ^ e.1.2.toNat) := by have := c1.mul p4; rwa [Nat.mul_one] at this
    have ht : termAt? a b e.1 e.2 = some (e.2 * (a : Rat) ^ e.1.1.toNat * (b : Rat) ^ e.1.2.toNat) := by
      unfold termAt?
      rw [if_pos ⟨hn1.1, p1, up (by omega) he, p2.sm (by decide) (by decide) (by decide), hn1.2, p3, up (by omega) c1, p4.sm (by decide) (by decide) (by decide)⟩]
    have hs : sumAt? a b f (e :: r) = (termAt? a b e.1 e.2).bind fun t => if Sm f ∧ Sm t then sumAt? a b (f + t) r else none := rfl
    rw [hs, ht, Option.bind_some, if_pos ⟨up (Nat.le_refl _) hf, up hU c2⟩, sumAt_ok ha ha' hb hb' hD0 hDB r (U + 1) _ (fun x hx => hz x (List.mem_cons_of_mem _ hx)) (fun n hn' => hn n (List.mem_cons_of_mem _ hn')) (hf.add (c2.mono hU)) (by omega) (by omega)]
    congr 1
    simp only [Lam, ev]
    grind

/-! ### drawn polynomials -/
noncomputable def IB (N : Nat) (q : Rat) : Prop := ∃ z : Int, q = (z : Rat) ∧ z.natAbs ≤ N
theorem IB.zb {N B : Nat} {q : Rat} (h : IB N q) (hB : N < 2 ^ B) : ZB B 1 q := let ⟨z, a, b⟩ := h; ⟨z, by rw [a]; exact Rat.mul_one _, by omega⟩
theorem IB.sm {N : Nat} {q : Rat} (h : IB N q) (hN : N < 2 ^ 20) : Sm q := (h.zb hN).sm (by decide) (by decide) (by decide)
theorem IB.zero {N : Nat} : IB N 0 := ⟨0, rfl, by simp⟩
theorem IB.sub {M N : Nat} {q r : Rat} (h : IB M q) (h' : IB N r) : IB (M + N) (q - r) := by
  obtain ⟨z, a, b⟩ := h
  obtain ⟨y, a', b'⟩ := h'
  exact ⟨z - y, by rw [a, a', Rat.intCast_sub], by omega⟩
theorem IB.add {M N : Nat} {q r : Rat} (h : IB M q) (h' : IB N r) : IB (M + N) (q + r) := by
  obtain ⟨z, a, b⟩ := h
  obtain ⟨y, a', b'⟩ := h'
  exact ⟨z + y, by rw [a, a', Rat.intCast_add], by omega⟩
structure FOk (n : Nat) (f : Poly) : Prop where
  wf : WF f
  keys : ∀ k ∈ ks f, 0 ≤ k.1 ∧ k.1 < 2 ∧ 0 ≤ k.2 ∧ k.2 < 2
  co : ∀ e ∈ f, IB 2 e.2
  len : f.length ≤ n
theorem Fnd.ok {n : Nat} {f : Poly} (h : Fnd n f) : FOk n f := by
  induction h with
  | zero => exact ⟨wf_nil, fun _ h => (nomatch h), fun _ h => (nomatch h), Nat.le_refl _⟩
  | skip _ ih => exact ⟨ih.wf, ih.keys, ih.co, Nat.le_succ_of_le ih.len⟩
  | @put n f a b c _ h1 h2 h3 h4 h5 h6 h7 ih =>
    refine ⟨pset_wf ih.wf (by exact_mod_cast h5), fun k hk => ?_, fun e he => ?_, ?_⟩
    · rcases (pset_keys k).mp hk with rfl | hk
      · exact ⟨h1, h2, h3, h4⟩
      · exact ih.keys k hk
    · rcases pset_mem he with rfl | he
      · exact ⟨c, rfl, by omega⟩
      · exact ih.co e he
    · exact Nat.le_trans pset_len (Nat.succ_le_succ ih.len)
theorem ib_cf {N : Nat} {p : Poly} (hp : WF p) (h : ∀ e ∈ p, IB N e.2) (n : Mono) : IB N (cf p n) := by
  by_cases hn : n ∈ ks p
  · obtain ⟨e, he, rfl⟩ := List.mem_map.mp hn
    rw [hp.mem he]; exact h e he
  · rw [cf_not hn]; exact IB.zero
theorem wf_term (c : Rat) : WF (mvterm (0, 0) c) := by
  unfold mvterm
  split
  · exact wf_nil
  · rename_i hc
    exact ⟨by simp, fun e he => by rw [List.mem_singleton.mp he]; exact hc⟩
theorem lam_term {l : Mono → Rat} (c : Rat) : Lam l (mvterm (0, 0) c) = c * l (0, 0) := by
  unfold mvterm
  split
  · rename_i hc
    rw [hc]; simp only [Lam]; grind
  · simp only [Lam]; grind
theorem term_mem {c : Rat} {e : Mono × Rat} (h : e ∈ mvterm (0, 0) c) : e = ((0, 0), c) := by
  unfold mvterm at h
  split at h
  · exact nomatch h
  · exact List.mem_singleton.mp h
theorem term_len (c : Rat) : (mvterm (0, 0) c).length ≤ 1 := by
  unfold mvterm; split <;> simp
theorem cf_term (c : Rat) (n : Mono) : cf (mvterm (0, 0) c) n = if n = (0, 0) then c else 0 := by
  rw [← lam_ind (wf_term c).nd, lam_term]
  unfold ind
  by_cases h : n = (0, 0)
  · rw [if_pos h, if_pos h.symm]; grind
  · rw [if_neg h, if_neg (fun e => h e.symm)]; grind
theorem key6 {k : Mono} (h : 0 ≤ k.1 ∧ k.1 < 2 ∧ 0 ≤ k.2 ∧ k.2 < 2) : k ∈ U6 := by
  obtain ⟨a, b⟩ := k
  simp only at h
  have ha : a = 0 ∨ a = 1 := by omega
  have hb : b = 0 ∨ b = 1 := by omega
  rcases ha with rfl | rfl <;> rcases hb with rfl | rfl <;> decide
theorem u6_low : ∀ n ∈ U6, (0 ≤ n.1 ∧ 0 ≤ n.2) ∧ n.1 + n.2 ≤ 2 := by decide
theorem lam_ib {l : Mono → Rat} {N : Nat} (hl : ∀ m, IB 1 (l m)) : ∀ {p : Poly}, (∀ e ∈ p, IB N e.2) → IB (p.length * N) (Lam l p)
  | [], _ => by simp only [Lam]; exact IB.zero
  | e :: p, h => by
    obtain ⟨z, a, b⟩ := h e List.mem_cons_self
    obtain ⟨y, a', b'⟩ := hl e.1
    have ih := lam_ib hl (p := p) fun x hx => h x (List.mem_cons_of_mem _ hx)
    have h1 : IB N (e.2 * l e.1) := by
      refine ⟨z * y, by rw [a, a', Rat.intCast_mul], ?_⟩
      rw [Int.natAbs_mul]
      calc z.natAbs * y.natAbs ≤ N * 1 := Nat.mul_le_mul b b'
        _ = N := Nat.mul_one N
    have h2 := h1.add ih
    rw [List.length_cons, Nat.add_mul, Nat.one_mul, Nat.add_comm (p.length * N)]
    exact h2
theorem IB.mul1 {q r : Rat} (h : IB 1 q) (h' : IB 1 r) : IB 1 (q * r) := by
  obtain ⟨z, a, b⟩ := h
  obtain ⟨y, a', b'⟩ := h'
  refine ⟨z * y, by rw [a, a', Rat.intCast_mul], ?_⟩
  rw [Int.natAbs_mul]
  calc z.natAbs * y.natAbs ≤ 1 * 1 := Nat.mul_le_mul b b'
    _ = 1 := rfl
theorem pow_ib {a : Int} (ha : -1 ≤ a) (ha' : a ≤ 1) : ∀ n : Nat, IB 1 ((a : Rat) ^ n)
  | 0 => by rw [Rat.pow_zero]; exact ⟨1, rfl, by decide⟩
  | n + 1 => by rw [Rat.pow_succ]; exact (pow_ib ha ha' n).mul1 ⟨a, rfl, by omega⟩
theorem ev_ib {a b : Int} (ha : -1 ≤ a) (ha' : a ≤ 1) (hb : -1 ≤ b) (hb' : b ≤ 1) (m : Mono) : IB 1 (ev a b m) := (pow_ib ha ha' _).mul1 (pow_ib hb hb' _)
theorem za_some {a b : Int} (ha : -1 ≤ a) (ha' : a ≤ 1) (hb : -1 ≤ b) (hb' : b ≤ 1) {f : Poly} (h : FOk 2 f) :
    mvat? a b f = some (Lam (ev a b) f) ∧ IB 4 (Lam (ev a b) f) ∧ ∃ p, mvsub? f (mvterm (0, 0) (Lam (ev a b) f)) = some p := by
  have hlow : ∀ n ∈ ks f, nn n ∧ n.1 + n.2 ≤ 2 := fun n hn => u6_low n (key6 (h.keys n hn))
  have hz : ∀ e ∈ f, ZB 5 1 e.2 := fun e he => (h.co e he).zb (by decide)
  have hlen := h.len
  have hat : mvat? a b f = some (Lam (ev a b) f) := by
    unfold mvat?
    rw [sumAt_ok ha ha' hb hb' (B := 5) (D := 1) (by decide) (by decide) f 7 0 hz hlow ZB.zero (by decide) (Nat.le_trans (show 7 + f.length ≤ 1000 by omega) (by decide)), Rat.zero_add]
  have hc : IB 4 (Lam (ev a b) f) := by
    obtain ⟨z, h1, h2⟩ := lam_ib (ev_ib ha ha' hb hb') h.co
    exact ⟨z, h1, by omega⟩
  refine ⟨hat, hc, mvsub_some (wf_term _).nd (box_nn fun n hn => ⟨(hlow n hn).1, by have := (hlow n hn).2; omega⟩) (fun e he => ?_) (fun e _ => (ib_cf h.wf h.co _).sm (by decide)) (by have := term_len (Lam (ev a b) f); omega)⟩
  rw [term_mem he]; exact hc.sm (by decide)
/-- what is known of a drawn polynomial -/
structure DOk (x y : Rat) (N : Nat) (p : Poly) : Prop where
  wf : WF p
  u6 : ∀ n ∈ ks p, n ∈ U6
  co : ∀ e ∈ p, IB N e.2
  ev0 : Lam (ev x y) p = 0
theorem DOk.low {x y : Rat} {N : Nat} {p : Poly} (h : DOk x y N p) : Mine.low 2 p := fun n hn => u6_low n (h.u6 n hn)
theorem sz_of {N B : Nat} {p : Poly} (h : ∀ e ∈ p, IB N e.2) (hN : N < 2 ^ B) (hB : 0 < B) : Sz B p := ⟨1, by decide, Nat.one_lt_two_pow (by omega), fun e he => (h e he).zb hN⟩
theorem DOk.inp {x y : Rat} {p : Poly} (h : DOk x y 6 p) : Inp p := ⟨h.wf, h.u6, sz_of h.co (by decide) (by decide)⟩
theorem za_ok {a b : Int} (ha : -1 ≤ a) (ha' : a ≤ 1) (hb : -1 ≤ b) (hb' : b ≤ 1) {p : Poly} (h : ZA a b p) : DOk a b 6 p := by
  obtain ⟨f, hF, c, hc, hp⟩ := h
  have hf := hF.ok
  obtain ⟨h1, h2, _⟩ := za_some ha ha' hb hb' hf
  rw [h1] at hc
  cases hc
  have hw := (mvsub_lam (l := fun _ => 0) hf.wf hp).1
  have hcf : ∀ n, cf p n = cf f n - cf (mvterm (0, 0) (Lam (ev a b) f)) n := fun n => by
    rw [← lam_ind hw.nd, (mvsub_lam hf.wf hp).2, lam_ind hf.wf.nd, lam_ind (wf_term _).nd]
  refine ⟨hw, fun n hn => ?_, fun e he => ?_, ?_⟩
  · have h0 := hw.key.mp hn
    rw [hcf, cf_term] at h0
    by_cases hz : n = (0, 0)
    · rw [hz]; decide
    · rw [if_neg hz] at h0
      exact key6 (hf.keys n (hf.wf.key.mpr fun e => h0 (by rw [e]; grind)))
  · rw [← hw.mem he, hcf, cf_term]
    refine (ib_cf hf.wf hf.co _).sub (N := 4) ?_
    split
    · exact h2
    · exact IB.zero
  · rw [(mvsub_lam hf.wf hp).2, lam_term, ev_one]; grind
end Mine
end
section
set_option maxRecDepth 100000
namespace Mine
open PySem

/-! ### products -/
theorem addT_some {p : Poly} {q : Mono} {c : Rat} (hp : WF p) (h1 : Sm (cf p q)) (h2 : Sm c) (hl : p.length ≤ 1000000) : addT? p q c = some (put p q (cf p q + c)) := by
  have : ∃ p', addT? p q c = some p' := by
    unfold addT?
    rw [if_pos hl]
    by_cases hq : q ∈ ks p
    · rw [hp.look hq]
      simp only
      rw [if_pos ⟨h1, h2⟩]
      exact ⟨_, rfl⟩
    · rw [plook_none.mpr hq]
      exact ⟨_, rfl⟩
  obtain ⟨p', hp'⟩ := this
  rw [hp', addT_eq hp']
theorem put_mem {p : Poly} {q : Mono} {t : Rat} {e : Mono × Rat} (h : e ∈ put p q t) : e = (q, t) ∨ e ∈ p := by
  unfold put at h
  split at h
  · exact .inr (pdel_mem h)
  · exact pset_mem h
theorem mulIn_ok {D : Nat} (hD0 : 0 < D) {m : Mono} {c : Rat} (hc : Sm c) : ∀ (r f : Poly) (U : Nat), WF f → D < 2 ^ U → (∀ x ∈ f, ZB U D x.2) → (∀ x ∈ r, Sm x.2 ∧ ZB U D (x.2 * c)) → f.length + r.length ≤ 1000 → U + r.length ≤ 1000 →
    ∃ f', mulIn? m c f r = some f' ∧ WF f' ∧ (∀ x ∈ f', ZB (U + r.length) D x.2) ∧ f'.length ≤ f.length + r.length ∧ (∀ l : Mono → Rat, Lam l f' = Lam l f + c * Lam (fun x => l (mprod x m)) r) ∧ ∀ n ∈ ks f', n ∈ ks f ∨ ∃ x ∈ ks r, n = mprod x m
  | [], f, U, hf, _, hz, _, _, _ => ⟨f, rfl, hf, hz, by simp, fun l => by simp only [Lam]; grind, fun n hn => .inl hn⟩
  | e :: r, f, U, hf, hDU, hz, hr, hl, hU => by
    rw [List.length_cons] at hl hU
    obtain ⟨s1, z1⟩ := hr e List.mem_cons_self
    have cap : bitsCap ≥ 1000 := by decide
    have hcfz := zb_cf hf hz (mprod e.1 m)
    have hs : Sm (cf f (mprod e.1 m)) := hcfz.sm hD0 hDU (by lia)
    have hs2 : Sm (e.2 * c) := z1.sm hD0 hDU (by lia)
    have ha := addT_some hf hs hs2 (by lia)
    have hwf' : WF (put f (mprod e.1 m) (cf f (mprod e.1 m) + e.2 * c)) := put_wf hf
    have hlen := @put_len f (mprod e.1 m) (cf f (mprod e.1 m) + e.2 * c)
    obtain ⟨f', h1, h2, h3, h4, h5, h6⟩ := mulIn_ok hD0 hc r (put f (mprod e.1 m) (cf f (mprod e.1 m) + e.2 * c)) (U + 1) hwf' (Nat.lt_of_lt_of_le hDU (Nat.pow_le_pow_right (by decide) (by lia))) (fun x hx => by
        rcases put_mem hx with rfl | hx
        · exact hcfz.add z1
        · exact (hz x hx).mono (by lia)) (fun x hx => ⟨(hr x (List.mem_cons_of_mem _ hx)).1, (hr x (List.mem_cons_of_mem _ hx)).2.mono (by lia)⟩) (by lia) (by lia)
    refine ⟨f', ?_, h2, fun x hx => (h3 x hx).mono (by rw [List.length_cons]; lia), by rw [List.length_cons]; lia, fun l => ?_, fun n hn => ?_⟩
    · unfold mulIn?
      rw [if_pos ⟨s1, hc⟩, ha, Option.bind_some]
      exact h1
    · rw [h5 l, lam_put hf.nd]
      simp only [Lam]
      grind
    · rcases h6 n hn with h | ⟨x, hx, rfl⟩
      · obtain ⟨y, hy, rfl⟩ := List.mem_map.mp h
        rcases put_mem hy with rfl | hy
        · exact .inr ⟨e.1, List.mem_cons_self, rfl⟩
        · exact .inl (List.mem_map_of_mem hy)
      · exact .inr ⟨x, List.mem_cons_of_mem _ hx, rfl⟩
theorem zb3 {q k : Rat} {K : Int} (h : IB 6 q) (hk : k * 3 = (K : Rat)) (hK : K.natAbs ≤ 15) : ZB 7 3 (q * k) := by
  obtain ⟨z, a, b⟩ := h
  refine ⟨z * K, ?_, ?_⟩
  · rw [a, Rat.intCast_mul, ← hk]
    have : ((3 : Nat) : Rat) = 3 := rfl
    rw [this]; grind
  · rw [Int.natAbs_mul]
    have : z.natAbs * K.natAbs ≤ 6 * 15 := Nat.mul_le_mul b hK
    lia
theorem mvmul2 {x y : Rat} {f : Poly} (h : DOk x y 6 f) {m1 m2 : Mono} {k1 k2 : Rat} {K1 K2 : Int} (e1 : k1 * 3 = (K1 : Rat)) (e2 : k2 * 3 = (K2 : Rat)) (b1 : K1.natAbs ≤ 15) (b2 : K2.natAbs ≤ 15) (s1 : Sm k1) (s2 : Sm k2) :
    ∃ u, mvmul? f [(m1, k1), (m2, k2)] = some u ∧ WF u ∧ (∀ e ∈ u, ZB 15 3 e.2) ∧ u.length ≤ 8 ∧ (∀ l : Mono → Rat, Lam l u = k1 * Lam (fun x => l (mprod x m1)) f + k2 * Lam (fun x => l (mprod x m2)) f) ∧
      ∀ n ∈ ks u, ∃ z ∈ ks f, n = mprod z m1 ∨ n = mprod z m2 := by
  have hl : f.length ≤ 4 := by
    have e : f.length = (ks f).length := by simp
    rw [e]; exact len_le h.wf.nd h.u6
  have hsm : ∀ e ∈ f, Sm e.2 := fun e he => (h.co e he).sm (by decide)
  obtain ⟨a, p1, p2, p3, p4, p5, p6⟩ := mulIn_ok (D := 3) (by decide) (m := m1) s1 f [] 7 wf_nil (by decide) (fun _ h => nomatch h) (fun e he => ⟨hsm e he, zb3 (h.co e he) e1 b1⟩) (by simp; lia) (by lia)
  obtain ⟨u, q1, q2, q3, q4, q5, q6⟩ := mulIn_ok (D := 3) (by decide) (m := m2) s2 f a 11 p2 (by decide) (fun e he => (p3 e he).mono (by lia)) (fun e he => ⟨hsm e he, (zb3 (h.co e he) e2 b2).mono (by decide)⟩) (by simp at p4; lia) (by lia)
  refine ⟨u, ?_, q2, fun e he => (q3 e he).mono (by lia), by simp at p4; lia, fun l => ?_, fun n hn => ?_⟩
  · unfold mvmul? mulOut?
    rw [p1, Option.bind_some]
    unfold mulOut?
    rw [q1, Option.bind_some]
    rfl
  · rw [q5 l, p5 l]; simp only [Lam]; grind
  · rcases q6 n hn with hn | ⟨z, hz, rfl⟩
    · rcases p6 n hn with hn | ⟨z, hz, rfl⟩
      · exact nomatch hn
      · exact ⟨z, hz, .inl rfl⟩
    · exact ⟨z, hz, .inr rfl⟩
theorem lam_ind_shift {p : Poly} (hp : WF p) (m n : Mono) : Lam (fun x => ind n (mprod x m)) p = sh m (cf p) n := by
  have h1 := lam_shl (l := ind n) p m 1
  rw [lam_ind (shl_nd hp.nd), cf_shl hp.nd] at h1
  unfold sh
  grind

theorem n10 : nn (1, 0) := ⟨by decide, by decide⟩
theorem n01 : nn (0, 1) := ⟨by decide, by decide⟩
theorem n00 : nn (0, 0) := ⟨by decide, by decide⟩
theorem n51 : nn (5, 1) := ⟨by decide, by decide⟩

/-! ### the plain law -/
theorem u6_shift : ∀ n ∈ U6, ∀ m ∈ [((1 : Int), (0 : Int)), (0, 1), (0, 0)], (0 ≤ (mprod n m).1 ∧ 0 ≤ (mprod n m).2) ∧ (mprod n m).1 + (mprod n m).2 ≤ 3 := by decide
theorem sm2 : Sm 2 ∧ Sm (-1 / 3) ∧ Sm 1 ∧ Sm 5 ∧ Sm 3 := by decide +kernel
theorem third : (2 : Rat) * 3 = ((6 : Int) : Rat) ∧ (-1 / 3 : Rat) * 3 = ((-1 : Int) : Rat) ∧ (1 : Rat) * 3 = ((3 : Int) : Rat) ∧ (5 : Rat) * 3 = ((15 : Int) : Rat) := by decide +kernel
theorem told_ok {x y : Rat} {f g : Poly} (hf : DOk x y 6 f) (hg : DOk x y 6 g) :
    ∃ u v told t1, mvmul? f K1 = some u ∧ mvmul? g K2 = some v ∧ mvadd? u v = some told ∧ mvadd? told (mvterm (0, 0) 1) = some t1 ∧ WF told ∧ WF t1 ∧ low 3 told ∧ low 3 t1 ∧ Sz 17 told ∧ Sz 17 t1 ∧
      (∀ o X, InI o X (cf f) → InI o X (cf g) → InI o X (cf told)) ∧ Lam (ev x y) t1 = 1 := by
  obtain ⟨t1', t2', t3', t4'⟩ := third
  obtain ⟨s1, s2, s3, s4, _⟩ := sm2
  obtain ⟨u, hu1, hu2, hu3, hu4, hu5, hu6⟩ := mvmul2 hf (m1 := (1, 0)) (m2 := (0, 1)) t1' t2' (by decide) (by decide) s1 s2
  obtain ⟨v, hv1, hv2, hv3, hv4, hv5, hv6⟩ := mvmul2 hg (m1 := (0, 1)) (m2 := (0, 0)) t3' t4' (by decide) (by decide) s3 s4
  have cap : bitsCap ≥ 1000 := by decide
  have hul : low 3 u := fun n hn => by
    obtain ⟨z, hz, h | h⟩ := hu6 n hn
    · rw [h]; exact u6_shift z (hf.u6 z hz) _ (by decide)
    · rw [h]; exact u6_shift z (hf.u6 z hz) _ (by decide)
  have hvl : low 3 v := fun n hn => by
    obtain ⟨z, hz, h | h⟩ := hv6 n hn
    · rw [h]; exact u6_shift z (hg.u6 z hz) _ (by decide)
    · rw [h]; exact u6_shift z (hg.u6 z hz) _ (by decide)
  have box : ∀ {p : Poly}, low 3 p → boxed p = true := fun h => box_nn fun n hn => ⟨(h n hn).1, by have := (h n hn).2; lia⟩
  obtain ⟨told, ht⟩ := mvadd_some (a := u) (b := v) hv2.nd (box hul) (fun e he => (hv3 e he).sm (by decide) (by decide) (by lia)) (fun e _ => (zb_cf hu2 hu3 e.1).sm (by decide) (by decide) (by lia)) (by lia)
  have htw := (mvadd_lam (l := fun _ => 0) hu2 ht).1
  have htl : ∀ l : Mono → Rat, Lam l told = Lam l u + Lam l v := fun l => (mvadd_lam hu2 ht).2
  have htc : ∀ n, cf told n = cf u n + cf v n := fun n => by rw [← lam_ind htw.nd, htl, lam_ind hu2.nd, lam_ind hv2.nd]
  have htlow : low 3 told := fun n hn => by
    have h0 := htw.key.mp hn
    rw [htc] at h0
    by_cases h1 : cf u n = 0
    · exact hvl n (hv2.key.mpr fun h2 => h0 (by rw [h1, h2]; grind))
    · exact hul n (hu2.key.mpr h1)
  have htz : ∀ e ∈ told, ZB 16 3 e.2 := fun e he => by
    rw [← htw.mem he, htc]
    exact (zb_cf hu2 hu3 e.1).add (zb_cf hv2 hv3 e.1)
  have htlen : told.length ≤ 64 := low_len htw fun n hn => ⟨(htlow n hn).1, by have := (htlow n hn).2; lia⟩
  have h3 := term_len 1
  obtain ⟨t1, ht1⟩ := mvadd_some (a := told) (b := mvterm (0, 0) 1) (wf_term 1).nd (box htlow) (fun e he => by rw [term_mem he]; exact s3) (fun e _ => (zb_cf htw htz e.1).sm (by decide) (by decide) (by lia)) (by lia)
  have h1w := (mvadd_lam (l := fun _ => 0) htw ht1).1
  have h1l : ∀ l : Mono → Rat, Lam l t1 = Lam l told + Lam l (mvterm (0, 0) 1) := fun l => (mvadd_lam htw ht1).2
  have h1c : ∀ n, cf t1 n = cf told n + cf (mvterm (0, 0) 1) n := fun n => by rw [← lam_ind h1w.nd, h1l, lam_ind htw.nd, lam_ind (wf_term 1).nd]
  have nnf : ∀ n ∈ ks f, nn n := fun n hn => (u6_low n (hf.u6 n hn)).1
  have nng : ∀ n ∈ ks g, nn n := fun n hn => (u6_low n (hg.u6 n hn)).1
  refine ⟨u, v, told, t1, hu1, hv1, ht, ht1, htw, h1w, htlow, fun n hn => ?_, ⟨3, by decide, by decide, fun e he => (htz e he).mono (by decide)⟩, ⟨3, by decide, by decide, fun e he => ?_⟩, fun o X hF hG => ?_, ?_⟩
  · have h0 := h1w.key.mp hn
    rw [h1c, cf_term] at h0
    by_cases hz : n = (0, 0)
    · rw [hz]; exact ⟨⟨Int.le_refl _, Int.le_refl _⟩, by decide⟩
    · rw [if_neg hz] at h0
      exact htlow n (htw.key.mpr fun e => h0 (by rw [e]; grind))
  · show ZB 17 3 e.2
    rw [← h1w.mem he, h1c, cf_term]
    refine (zb_cf htw htz e.1).add ?_
    split
    · exact ⟨3, by decide +kernel, by decide⟩
    · exact ZB.zero
  · have i1 := (hF.shift n10).smul 2
    have i2 := (hF.shift n01).smul (-1 / 3)
    have i3 := (hG.shift n01).smul 1
    have i4 := (hG.shift n00).smul 5
    refine ((i1.plus i2).plus (i3.plus i4)).eq fun n => ?_
    rw [htc, ← lam_ind hu2.nd, ← lam_ind hv2.nd, hu5, hv5, lam_ind_shift hf.wf, lam_ind_shift hf.wf, lam_ind_shift hg.wf, lam_ind_shift hg.wf]
  · rw [h1l, htl, hu5, hv5, kills_ev nnf hf.ev0 _ n10, kills_ev nnf hf.ev0 _ n01, kills_ev nng hg.ev0 _ n01, kills_ev nng hg.ev0 _ n00, lam_term, ev_one]
    grind
theorem isOne_of {o : Ord} {B : Nat} {p : Poly} (h : El o B p (0, 0)) : isOne p = true := by
  have hk : ∀ n ∈ ks p, n = (0, 0) := fun n hn => by
    by_cases e : n = (0, 0)
    · exact e
    · have := h.tail hn e
      exact absurd this (by show n ∉ tl (0, 0); simp [tl])
  have hl : p.length ≤ 1 := by
    have e : p.length = (ks p).length := by simp
    rw [e]
    exact len_le (L := [(0, 0)]) h.wf.nd fun n hn => by rw [hk n hn]; exact List.mem_cons_self
  match p, h.ne, hl, hk with
  | [], hne, _, _ => exact absurd rfl hne
  | [e], _, _, hk =>
    have := hk e.1 List.mem_cons_self
    unfold isOne
    simp [this]
  | _ :: _ :: _, _, hl, _ => simp at hl
theorem whole_len {o : Ord} {bs : List Poly} (h : GB o bs) : iswhole? bs = some (bs.any isOne) := by
  have hall : (bs.all fun p => decide (p.length ≤ 1000000)) = true := by
    rw [List.all_eq_true]
    intro p hp
    have := (h.els p hp).len
    simp only [decide_eq_true_eq]
    lia
  unfold iswhole?
  rw [if_pos ⟨hall, by have := h.len; lia⟩]
theorem plain : Plain where
  za := fun a b ha ha' hb hb' f hf => by
    obtain ⟨h1, _, p, h2⟩ := za_some ha ha' hb hb' hf.ok
    exact ⟨_, p, h1, h2⟩
  ok := fun o a b ha ha' hb hb' f g hzf hzg => by
    have hf := za_ok ha ha' hb hb' hzf
    have hg := za_ok ha ha' hb hb' hzg
    have nnf : ∀ n ∈ ks f, nn n := fun n hn => (u6_low n (hf.u6 n hn)).1
    have nng : ∀ n ∈ ks g, nn n := fun n hn => (u6_low n (hg.u6 n hn)).1
    obtain ⟨bs, hgb, GBb, hin, hkill⟩ := groebner_ok (o := o) (gs := [f, g]) (by simp) (fun p hp => by
      rcases List.mem_cons.mp hp with rfl | hp
      · exact hf.inp
      · rw [List.mem_singleton.mp hp]; exact hg.inp)
    have hK : Kills (ev a b) bs := hkill _ fun p hp => by
      rcases List.mem_cons.mp hp with rfl | hp
      · exact kills_ev nnf hf.ev0
      · rw [List.mem_singleton.mp hp]; exact kills_ev nng hg.ev0
    have inf := hin f List.mem_cons_self
    have ing := hin g (List.mem_cons_of_mem _ List.mem_cons_self)
    obtain ⟨u, v, told, t1, hu, hv, ht, ht1, htw, h1w, htl, h1l, htz, h1z, hti, h1e⟩ := told_ok hf hg
    have hlow3 : ∀ {p : Poly}, low 2 p → low 3 p := fun h n hn => ⟨(h n hn).1, by have := (h n hn).2; lia⟩
    -- with a number
    have hlenf : f.length ≤ 4 := hf.inp.len
    have h3 := term_len 3
    obtain ⟨f3, hf3⟩ := mvadd_some (a := f) (b := mvterm (0, 0) 3) (wf_term 3).nd (box_nn fun n hn => ⟨(hf.low n hn).1, by have := (hf.low n hn).2; lia⟩) (fun e he => by rw [term_mem he]; exact sm2.2.2.2.2) (fun e _ => (ib_cf hf.wf hf.co _).sm (by decide)) (by lia)
    have h3w := (mvadd_lam (l := fun _ => 0) hf.wf hf3).1
    have h3c : ∀ n, cf f3 n = cf f n + cf (mvterm (0, 0) 3) n := fun n => by rw [← lam_ind h3w.nd, (mvadd_lam hf.wf hf3).2, lam_ind hf.wf.nd, lam_ind (wf_term 3).nd]
    have h3i : Inp f3 := ⟨h3w, fun n hn => by
      have h0 := h3w.key.mp hn
      rw [h3c, cf_term] at h0
      by_cases hz : n = (0, 0)
      · rw [hz]; decide
      · rw [if_neg hz] at h0
        exact hf.u6 n (hf.wf.key.mpr fun e => h0 (by rw [e]; grind)), sz_of (N := 9) (fun e he => by
      rw [← h3w.mem he, h3c, cf_term]
      refine (ib_cf hf.wf hf.co _).add (N := 3) ?_
      split
      · exact ⟨3, rfl, by decide⟩
      · exact IB.zero) (by decide) (by decide)⟩
    obtain ⟨ws, hgw, GBw, hinw, _⟩ := groebner_ok (o := o) (gs := [f, g, f3]) (by simp) (fun p hp => by
      rcases List.mem_cons.mp hp with rfl | hp
      · exact hf.inp
      · rcases List.mem_cons.mp hp with rfl | hp
        · exact hg.inp
        · rw [List.mem_singleton.mp hp]; exact h3i)
    have hone : InI o (Xof o ws) (fun n => if n = (0, 0) then 1 else 0) := by
      have i1 := hinw f List.mem_cons_self
      have i3 := hinw f3 (List.mem_cons_of_mem _ (List.mem_cons_of_mem _ List.mem_cons_self))
      refine ((i3.plus (i1.smul (-1))).smul (1 / 3)).eq fun n => ?_
      rw [h3c, cf_term]
      split <;> grind
    have hwis : ws.any isOne = true := by
      rw [List.any_eq_true]
      by_cases hex : ∃ q ∈ ws, ldm o q = (0, 0)
      · obtain ⟨q, hq, hq0⟩ := hex
        refine ⟨q, hq, isOne_of (o := o) (B := 87845) ?_⟩
        have := GBw.els q hq
        rwa [hq0] at this
      · exfalso
        obtain ⟨M, hM⟩ := hone
        have h0 := normal_zero GBw.els.bok GBw.rep (fun n hn x hx => by
          obtain ⟨q, hq, rfl⟩ := List.mem_map.mp hx
          have hn0 : n = (0, 0) := by
            by_cases e : n = (0, 0)
            · exact e
            · exact absurd (if_neg e) hn
          subst hn0
          have hu5 := (GBw.els q hq).u5
          have hne : ldm o q ≠ (0, 0) := fun e => hex ⟨q, hq, e⟩
          have key : ∀ m ∈ U5, m ≠ (0, 0) → mdiv m (0, 0) = false := by decide
          exact key _ hu5 hne) hM (0, 0)
        rw [if_pos rfl] at h0
        exact absurd h0 (by decide)
    refine ⟨bs, u, v, told, t1, f3, ws, {
      gb := hgb
      len := by have := GBb.len; lia
      each := fun p hp => ?_
      zero := GBb.zero
      isb := GBb.isb
      isw := ?_
      hu := hu
      hv := hv
      htold := ht
      mem := fun p hp => ?_
      ht1 := ht1
      nmem := GBb.nmem (d := 3) (by decide) h1w h1l h1z (by decide) hK (by rw [h1e]; decide)
      emem := GBb.mem (d := 3) (B := 1) (by decide) wf_nil (fun _ h => (nomatch h)) ⟨1, by decide, by decide, fun _ h => (nomatch h)⟩ (by decide) (InI.zero.eq fun n => (cf_nil n).symm)
      hf3 := hf3
      gw := hgw
      wlen := by have := GBw.len; lia
      wisw := by rw [whole_len GBw, hwis]
      wmem := ?_ }⟩
    · have hE := GBb.els p hp
      refine ⟨fun e => hE.ne (List.length_eq_zero_iff.mp e), ⟨_, hE.lead⟩, ?_⟩
      obtain ⟨D, hD0, hDB, hDz⟩ := hE.sz
      have hDz : ∀ e ∈ p, ZB 87845 D e.2 := hDz
      have hlen := hE.len
      unfold mvat?
      rw [sumAt_ok ha ha' hb hb' (B := 87845) (D := D) hD0 hDB p 87847 0 hDz (fun n hn => ?_) ZB.zero (by decide) (Nat.le_trans (show 87847 + p.length ≤ 87851 by lia) (by decide)), kills_at hK hp, Rat.zero_add]
      · rcases hE.shp with h | h
        · exact u6_low n (h n hn)
        · exact (show ∀ n ∈ U2, (0 ≤ n.1 ∧ 0 ≤ n.2) ∧ n.1 + n.2 ≤ 2 by decide) n (h n hn)
    · rw [whole_len GBb]
      congr 1
      rw [List.any_eq_false]
      intro p hp hone'
      have hE := GBb.els p hp
      have hk := kills_at hK hp
      match p, hone', hE, hk with
      | [e], hone', hE, hk =>
        have h0 : e.1.1 + e.1.2 = 0 := by unfold isOne at hone'; simpa using hone'
        have hn := hE.nnk e.1 List.mem_cons_self
        unfold nn at hn
        have he : e.1 = (0, 0) := Prod.ext (show e.1.1 = 0 by lia) (show e.1.2 = 0 by lia)
        simp only [Lam] at hk
        rw [he, ev_one] at hk
        exact hE.wf.nz e List.mem_cons_self (by grind)
    · have main : ∀ q : Poly, WF q → low 3 q → Sz 17 q → InI o (Xof o bs) (cf q) → ismem? o q bs = some true ∧ LRest o q bs fun r => r = [] := fun q h1 h2 h3 h4 =>
        ⟨GBb.mem (d := 3) (by decide) h1 h2 h3 (by decide) h4, GBb.lrest h1 h2 h3 (by decide) h4⟩
      rcases List.mem_cons.mp hp with rfl | hp
      · exact main _ hf.wf (hlow3 hf.low) (hf.inp.sz.mono (by decide)) inf
      · rcases List.mem_cons.mp hp with rfl | hp
        · exact main _ hg.wf (hlow3 hg.low) (hg.inp.sz.mono (by decide)) ing
        · rw [List.mem_singleton.mp hp]
          exact main _ htw htl htz (hti o _ inf ing)
    · have hKw : WF K3 := ⟨by decide, fun e he => by
        rw [List.mem_singleton.mp he]; decide +kernel⟩
      refine GBw.mem (d := 6) (B := 5) (by decide) hKw (fun n hn => ?_) ⟨7, by decide, by decide, fun e he => ?_⟩ (by decide) (((hone.shift n51).smul (1 / 7)).eq fun n => ?_)
      · have : n = (5, 1) := List.mem_singleton.mp hn
        rw [this]; exact ⟨n51, by decide⟩
      · rw [List.mem_singleton.mp he]
        exact ⟨1, by decide +kernel, by decide⟩
      · have e1 : cf K3 n = if (5, 1) = n then 1 / 7 else 0 := by
          unfold K3
          rw [cf_cons]
          rfl
        rw [e1]
        show (1 / 7 : Rat) * (if (n.1 - 5, n.2 - 1) = ((0 : Int), (0 : Int)) then 1 else 0) = _
        have hiff : ((n.1 - 5, n.2 - 1) = ((0 : Int), (0 : Int))) ↔ ((5, 1) = n) := by
          constructor
          · intro h
            have h1 := congrArg Prod.fst h
            have h2 := congrArg Prod.snd h
            simp only at h1 h2
            exact Prod.ext (by simp only; lia) (by simp only; lia)
          · rintro rfl; rfl
        by_cases h : (5, 1) = n
        · rw [if_pos h, if_pos (hiff.mpr h)]; grind
        · rw [if_neg h, if_neg (fun q => h (hiff.mp q))]; grind
end Mine
end
namespace Mine
open PySem PySem.W PyProof.Rows PySem.Calls
local macro_rules | `(tactic| walk_at "mem") => `(tactic| with_reducible (repeat (first | exact List.mem_cons_self | refine List.mem_cons_of_mem _ ?_)))
local macro_rules | `(tactic| walk_at "mem2") => `(tactic| with_reducible (repeat (first | assumption | exact List.mem_cons_self | refine List.mem_cons_of_mem _ ?_)))
local macro_rules | `(tactic| walk_at "out") => `(tactic| with_reducible repeat (first | refine nx_next (by assumption) ?_ | refine nx_brk (by assumption) ?_ | refine nx_cont (by assumption) ?_ | refine nx_ret (by assumption) ?_ | refine lp_ok (by assumption) ?_ | refine outF (by assumption) ?_))
local macro_rules | `(tactic| walk_at "outR") => `(tactic| with_reducible refine outR (by assumption) ?_)
local macro_rules | `(tactic| keq_rows) => `(tactic| (first
  | ((with_reducible refine' subR0 (by assumption) ?m ?h fun _ => ?_); (case m => walk_at "mem"); (case h => intro _; eq_refl))
  | ((with_reducible refine' subR1 (by assumption) ?m ?h fun _ => ?_); (case m => walk_at "mem"); (case h => intro _; eq_refl))
  | ((with_reducible refine' subM0 (by assumption) ?m ?h fun _ => ?_); (case m => walk_at "mem"); (case h => intro _; eq_refl))
  | ((with_reducible refine' subM1 (by assumption) ?m ?h fun _ => ?_); (case m => walk_at "mem"); (case h => intro _; eq_refl))
  | ((fail_if_success (with_reducible show wpAny _ _ (eval _ _) _ _ _)); (show wpAny _ _ (execs _ _) _ _ _))))
local macro_rules | `(tactic| keq_rows) => `(tactic| with_reducible (first
    | refine wpAny_Break ?_
    | refine wpAny_Continue ?_
    | (refine whileS ?_; unhygienic intros)
    | refine wpAny_Expr_any ?_ (by with_unfolding_all eq_refl) (by with_unfolding_all eq_refl)
    | refine n_R0 (by assumption) (by with_unfolding_all eq_refl) (by with_unfolding_all eq_refl) (by with_unfolding_all eq_refl) fun _ => ?_
    | refine n_R1 (by assumption) (by with_unfolding_all eq_refl) (by with_unfolding_all eq_refl) (by with_unfolding_all eq_refl) fun _ => ?_))
local macro_rules | `(tactic| keq_rows) => `(tactic| with_reducible (first
    | refine xRet1 ?_
    | refine wpAny_IfExp ?_
    | refine xUn ?_
    | refine BoolOp_one ?_
    | refine BoolOp_and ?_
    | refine BoolOp_or ?_
    | refine xAug ?_
    | refine xCmp ?_ (by with_unfolding_all eq_refl)
    | refine xTVal ?_ (by with_unfolding_all eq_refl)
    | refine listE ?_))
local macro_rules | `(tactic| keq_rows) => `(tactic| with_reducible (first
    | refine nx_next (by assumption) ?_
    | refine nx_brk (by assumption) ?_
    | refine nx_cont (by assumption) ?_
    | refine nx_ret (by assumption) ?_
    | refine lp_ok (by assumption) ?_
    | refine outF (by assumption) ?_))
local macro_rules | `(tactic| keq_rows) => `(tactic| with_reducible (first
    | refine litS (by assumption) fun _ _ _ => ?_
    | refine iAdd (by assumption) fun _ _ _ => ?_
    | refine iSub (by assumption) fun _ _ _ => ?_
    | refine iNeg (by assumption) fun _ _ _ => ?_
    | refine wpAny_Constant_none ?_
    | refine wpAny_Constant_bool ?_
    | refine iNe ?_
    | refine iEq ?_
    | refine sEq ?_
    | refine iLt ?_
    | refine iGt ?_
    | refine is_none ?_
    | refine isNot_none ?_))
local macro_rules | `(tactic| keq_rows) => `(tactic| with_reducible (first
    | refine wpAny_truthy_bool ?_
    | refine wpAny_allTrue_And_cons ?_
    | refine wpAny_allTrue_Or_cons ?_
    | refine wpAny_allTrue_And_nil ?_
    | refine wpAny_allTrue_Or_nil ?_
    | refine wpAny_isTrue_Not ?_
    | refine wpAny_isTrue_BoolOp ?_))
local macro_rules | `(tactic| keq_rows) => `(tactic| with_reducible (first
    | refine lSlc (by intro _ _; with_unfolding_all eq_refl) ?_
    | refine xSub ?_
    | refine xRet ?_
    | refine xTCmp ?_ (by with_unfolding_all eq_refl)
    | refine xAsg ?_ (by with_unfolding_all eq_refl)
    | refine xBin ?_
    | refine wpAny_If ?_
    | refine stC (by assumption) (by with_unfolding_all eq_refl) (by with_unfolding_all eq_refl) (by with_unfolding_all eq_refl) fun _ _ => ?_
    | refine tupE ?_))
local macro_rules | `(tactic| keq_rows) => `(tactic| with_reducible (first
    | refine callX (by assumption) (by with_unfolding_all eq_refl) (by with_unfolding_all eq_refl) (by with_unfolding_all eq_refl) (by with_unfolding_all eq_refl) (by with_unfolding_all eq_refl) ?_
    | refine callY (by assumption) (by with_unfolding_all eq_refl) (by with_unfolding_all eq_refl) (by with_unfolding_all eq_refl) (by with_unfolding_all eq_refl) (by with_unfolding_all eq_refl) (by with_unfolding_all eq_refl) (by with_unfolding_all eq_refl) ?_))
local macro_rules | `(tactic| keq_rows) => `(tactic| with_reducible (first
    | (refine execs_gen ?_; unhygienic intros)
    | refine wpAny_execs_nil ?_
    | refine stL (by assumption) (by with_unfolding_all eq_refl) (by with_unfolding_all eq_refl) fun _ _ => ?_
    | refine lit (by assumption) fun _ _ _ => ?_))
local macro_rules | `(tactic| keq_rows) => `(tactic| (first | with_reducible refine wpAny_items_nil ?_ | ((with_reducible refine' argsS (by assumption) (by with_unfolding_all eq_refl) ?h ?_); (case h => repeat any_goals (first | with_reducible exact SA.nil | ((with_reducible first | refine' SA.loc (by with_unfolding_all eq_refl) (by with_unfolding_all eq_refl) ?h ?_ | refine' SA.cel (by with_unfolding_all eq_refl) (by with_unfolding_all eq_refl) (by with_unfolding_all eq_refl) ?h ?_); (case h => first | eq_refl | assumption))))) | with_reducible refine xArg (by with_unfolding_all eq_refl) ?_))
local macro_rules | `(tactic| keq_rows) => `(tactic| ((with_reducible first | refine' nmL (by assumption) (by with_unfolding_all eq_refl) (by with_unfolding_all eq_refl) ?h (by with_unfolding_all eq_refl) ?_ | refine' nmC (by assumption) (by with_unfolding_all eq_refl) (by with_unfolding_all eq_refl) (by with_unfolding_all eq_refl) ?h (by with_unfolding_all eq_refl) ?_); (case h => first | eq_refl | assumption)))
local macro_rules | `(tactic| walk_at "go") => `(tactic| repeat keq_rows)
section
set_option maxRecDepth 100000

open PySem PySem.W PyProof.Rows PySem.Calls

section
variable {prog : Program} {w : World} {s₀ s : Shared} {DD : List Addr} {b b₀ : Heap} {P : List As} {O : List Ow} {A : Around}

theorem gcd_step (x y : Nat) (hy : y ≠ 0) : ((x : Int).fmod (y : Int)) = ((x % y : Nat) : Int) := by
  rw [Int.fmod_eq_emod_of_nonneg _ (by omega)]; simp

set_option maxHeartbeats 4000000 in
theorem does_gcd (r : Room A 1) (k : Keep b s.heap) (pg : Pg w b) {a c : Int} {t u : Tok} : Does prog w A s [] b (call (.ref 80) [.int a t, .int c u]) (RInt (Int.gcd a c)) := by
  refine def0 r F80.2 k pg [] (fun _ h => (nomatch h)) [("a", .int a t), ("b", .int c u)] rfl (fun s₁ L Q0 cm0 hC S => ?_)
  have r' := r.deeper (callEnvC F80.1 L 80)
  generalize hA : A.deeper (callEnvC F80.1 L 80) = A' at r' ⊢
  refine wpAny_execs_cons (asgTT r'.handled rfl rfl ?_)
  walk_at "go"
  refine bAbs (by assumption) fun t s S => ?_
  walk_at "go"
  refine bAbs (by assumption) fun t s S => ?_
  walk_at "go"
  refine TT.mk S fun s S => ?_
  walk_at "go"
  rename_i s S
  refine (?_ : ∀ (y x : Nat) (m : Str → Option Value) (s : Shared) (tx ty : Tok), Nat.gcd x y = Int.gcd a c → m "a" = some (.int x tx) → m "b" = some (.int y ty) →
    St prog w _ _ _ (callEnvC F80.1 L 80) true m _ _ _ s → codeAny (model prog w) A' _ _ s) c.natAbs a.natAbs _ s _ _ rfl rfl rfl S
  clear S
  intro y
  induction y using Nat.strongRecOn with
  | ind y ih =>
  intro x m s tx ty hg ha hb S
  refine while_step ?_
  walk_at "go"
  by_cases hy : y = 0
  · subst hy
    rw [if_neg (by simp)]
    walk_at "go"
    have : (x : Int) = (Int.gcd a c : Int) := by rw [← hg]; simp
    walk_at "out"
    exact St.end0 (by assumption) ⟨⟨_, by rw [← this]; rfl⟩, rfl, rfl⟩
  · rw [if_pos (by simpa using hy)]
    walk_at "go"
    refine asgTT r'.handled rfl rfl ?_
    walk_at "go"
    refine iMod (by assumption) (by omega) fun t s S => ?_
    walk_at "go"
    refine TT.mk S fun s S => ?_
    walk_at "go"
    rename_i s S
    show codeAny _ _ _ _ _
    refine ih (x % y) (Nat.mod_lt _ (by omega)) y _ s _ t ?_ rfl ?_ S
    · rw [← hg, Nat.gcd_comm x y, Nat.gcd_rec y x, Nat.gcd_comm]
    · show some (Value.int ((x : Int).fmod (y : Int)) t) = _
      rw [gcd_step x y hy]
end
end
section
set_option maxRecDepth 100000

open PySem PySem.W PyProof.Rows PySem.Calls

noncomputable abbrev PR : Program := Challenge.rw_nn0270_01.row.prog

section
variable {prog : Program} {w : World} {s₀ s : Shared} {DD : List Addr} {b b₀ : Heap} {env : Env} {cw : Bool} {m cm : Str → Option Value} {P : List As} {O : List Ow}
variable {A : Around} {E : Value → Shared → Prop}

theorem use_gcd (S : St prog w s₀ DD b₀ env cw m cm P O s) (r : Room A 1) {a c : Int} {t u : Tok} {Q : Value → Shared → Prop}
    (h : ∀ t s', St prog w s₀ DD b₀ env cw m cm P O s' → Q (.int (Int.gcd a c) t) s') :
    (Mine.hd.heap_1 w.params).In s.heap ∧ wpAny (model prog w) A (call (.ref 80) [.int a t, .int c u]) Q E s := by
  refine ⟨S.inK, S.does0 (fun b k pg _ _ => does_gcd r k pg) fun v s' F N hR S' => ?_⟩
  obtain ⟨⟨t, rfl⟩, rfl, rfl⟩ := hR
  exact h t s' S'

theorem iFdiv {a c : Int} {t u : Tok} {Q : Value → Shared → Prop} (S : St PR w s₀ DD b₀ env cw m cm P O s) (hc : c ≠ 0) {l : List Env} {e : Env} (hf : A.frames = some (e :: l)) (hd : A.depth + Builtin.pylongFrames < recursionLimit)
    (hgen : e.scope.isGenerator = false) (hco : e.scope.isCoroutine = false) (hb : e.builtins = builtinsNs) (hg : e.globals = mainGlobals)
    (h : ∀ t s', St PR w s₀ DD b₀ env cw m cm P O s' → Q (.int (a.fdiv c) t) s') :
    wpAny (model PR w) A (binaryOp .FloorDiv (.int a t) (.int c u)) Q E s := by
  have S0 := S
  obtain ⟨b, B⟩ := S
  exact floordiv_int hc (h _ _ (S0.tok _)) (.inr (PylongRoom.of (B.pg.lim.keeps B.bs) hd (SeerAt.of (B.pg.seer.keeps B.bs) rfl hf hgen hco hb hg)))
end

theorem rat_num (a c : Int) (hc : c ≠ 0) : a.fdiv (c.sign * (Int.gcd a c : Int)) = (Rat.divInt a c).num ∧ c.fdiv (c.sign * (Int.gcd a c : Int)) = ((Rat.divInt a c).den : Int) := by
  have hg : (Int.gcd a c : Int) ≠ 0 := by
    intro h
    have := Int.gcd_eq_zero_iff.mp (by exact_mod_cast h)
    exact hc this.2
  have d1 : (Int.gcd a c : Int) ∣ a := Int.gcd_dvd_left ..
  have d2 : (Int.gcd a c : Int) ∣ c := Int.gcd_dvd_right ..
  rw [Rat.num_divInt, Rat.den_divInt, if_neg hc, Int.gcd_comm c a]
  rcases Int.lt_trichotomy c 0 with h | h | h
  · rw [Int.sign_eq_neg_one_of_neg h]
    have e : (-1 : Int) * (Int.gcd a c : Int) = -(Int.gcd a c : Int) := by lia
    rw [e, Int.fdiv_eq_ediv_of_dvd (Int.neg_dvd.mpr d1), Int.fdiv_eq_ediv_of_dvd (Int.neg_dvd.mpr d2), Int.ediv_neg, Int.ediv_neg]
    constructor
    · rw [← Int.neg_ediv_of_dvd d1]; congr 1; lia
    · rw [Int.natCast_ediv, ← Int.neg_ediv_of_dvd d2]; congr 1; lia
  · exact absurd h hc
  · rw [Int.sign_eq_one_of_pos h, Int.one_mul, Int.one_mul, Int.fdiv_eq_ediv_of_dvd d1, Int.fdiv_eq_ediv_of_dvd d2]
    refine ⟨rfl, ?_⟩
    rw [Int.natCast_ediv]; congr 1; lia

section
variable {w : World} {s : Shared} {b : Heap} {A : Around}
set_option maxHeartbeats 4000000 in
theorem does_rat (r : Room A 2) (k : Keep b s.heap) (pg : Pg w b) {a c : Int} {t u : Tok} (hc : c ≠ 0) : Does PR w A s [] b (call (.ref 89) [.int a t, .int c u]) (RIs (dR (Rat.divInt a c))) := by
  refine def0 r F89.2 k pg [] (fun _ h => (nomatch h)) [("top", .int a t), ("bottom", .int c u)] rfl (fun s₁ L Q0 cm0 hC S => ?_)
  have r' := r.deeper (callEnvC F89.1 L 89)
  have hfr : ∃ l, (A.deeper (callEnvC F89.1 L 89)).frames = some (callEnvC F89.1 L 89 :: l) := by
    obtain ⟨l, e⟩ := r.frames
    exact ⟨l, by show A.frames.map _ = _; rw [e]; rfl⟩
  obtain ⟨l, hfr⟩ := hfr
  generalize hA : A.deeper (callEnvC F89.1 L 89) = A' at r' hfr ⊢
  walk_at "go"
  rw [if_neg (by simpa using hc)]
  walk_at "go"
  have hd : A'.depth + Builtin.pylongFrames < recursionLimit := by have := r'.depth; show A'.depth + 100 < _; lia
  have hg0 : c.sign * (Int.gcd a c : Int) ≠ 0 := by
    intro h
    rcases Int.mul_eq_zero.mp h with h | h
    · exact hc (Int.sign_eq_zero_iff_zero.mp h)
    · exact hc (Int.gcd_eq_zero_iff.mp (by exact_mod_cast h)).2
  have hq := rat_num a c hc
  by_cases hp : c > 0
  · rw [if_pos (by simpa using hp)]
    have e : c.sign * (Int.gcd a c : Int) = (Int.gcd a c : Int) := by rw [Int.sign_eq_one_of_pos hp, Int.one_mul]
    rw [e] at hg0 hq
    walk_at "go"
    refine use_gcd (by assumption) (r'.le (by decide)) fun t s S => ?_
    walk_at "go"
    refine iFdiv (by assumption) hg0 hfr hd rfl rfl rfl rfl fun t s S => ?_
    walk_at "go"
    refine iFdiv (by assumption) hg0 hfr hd rfl rfl rfl rfl fun t s S => ?_
    walk_at "go"
    rw [hq.1, hq.2]
    exact mkTup S (.cons .int (.cons .int .nil)) (Nat.le_of_ble_eq_true rfl) fun v s S => by walk_at "out"; exact S.end1 ⟨rfl, rfl⟩ (.head _)
  · rw [if_neg (by simpa using hp)]
    have e : c.sign * (Int.gcd a c : Int) = 0 - (Int.gcd a c : Int) := by rw [Int.sign_eq_neg_one_of_neg (by lia)]; lia
    rw [e] at hg0 hq
    walk_at "go"
    refine use_gcd (by assumption) (r'.le (by decide)) fun t s S => ?_
    walk_at "go"
    refine iFdiv (by assumption) hg0 hfr hd rfl rfl rfl rfl fun t s S => ?_
    walk_at "go"
    refine iFdiv (by assumption) hg0 hfr hd rfl rfl rfl rfl fun t s S => ?_
    walk_at "go"
    rw [hq.1, hq.2]
    exact mkTup S (.cons .int (.cons .int .nil)) (Nat.le_of_ble_eq_true rfl) fun v s S => by walk_at "out"; exact S.end1 ⟨rfl, rfl⟩ (.head _)
end
end
section
set_option maxRecDepth 100000

open PySem PySem.W PyProof.Rows PySem.Calls




theorem mulOk {a b : Int} (ha : Builtin.Int.intBits a ≤ bitsCap) (hb : Builtin.Int.intBits b ≤ bitsCap) : IntMulOk a b := by
  unfold IntMulOk
  intro h
  simp only [Bool.and_eq_true, Builtin.Int.intTooBig, decide_eq_true_eq] at h
  have h1 := h.2
  have e : bitsLine = 2 * bitsCap := by decide
  rw [e] at h1
  lia
theorem den_ne (q : Rat) : (q.den : Int) ≠ 0 := by have := q.den_nz; lia

section
variable {prog : Program} {w : World} {s₀ s : Shared} {DD : List Addr} {b b₀ : Heap} {env : Env} {cw : Bool} {m cm : Str → Option Value} {P : List As} {O : List Ow}
variable {A : Around} {E : Value → Shared → Prop}

theorem use_rat (S : St PR w s₀ DD b₀ env cw m cm P O s) (r : Room A 2) {a c : Int} {t u : Tok} {q : Rat} {Q : Value → Shared → Prop} (hc : c ≠ 0) (hq : Rat.divInt a c = q)
    (h : ∀ v s', St PR w s₀ DD b₀ env cw m cm (As.is v (dR q) :: P) O s' → Q v s') :
    (Mine.hd.heap_1 w.params).In s.heap ∧ wpAny (model PR w) A (call (.ref 89) [.int a t, .int c u]) Q E s := by
  refine ⟨S.inK, S.does0 (fun b k pg _ _ => does_rat r k pg hc) fun v s' F N hR S' => ?_⟩
  obtain ⟨rfl, rfl⟩ := hR
  rw [hq] at S'
  exact h v s' S'
end

section
variable {w : World} {s : Shared} {b : Heap} {A : Around}

theorem radd_eq (x y : Rat) : Rat.divInt (x.num * y.den + y.num * x.den) (x.den * y.den) = x + y := by
  conv => rhs; rw [← Rat.num_divInt_den x, ← Rat.num_divInt_den y]
  rw [Rat.divInt_add_divInt _ _ (den_ne x) (den_ne y)]

set_option maxHeartbeats 4000000 in
theorem does_radd (r : Room A 3) (k : Keep b s.heap) (pg : Pg w b) {v1 v2 : Value} {x y : Rat} (h1 : Is b (dR x) v1) (h2 : Is b (dR y) v2) (s1 : Sm x) (s2 : Sm y) :
    Does PR w A s [] b (call (.ref 96) [v1, v2]) (RIs (dR (x + y))) := by
  refine def0 r F96.2 k pg [As.is v1 (dR x), As.is v2 (dR y)] (mems2 h1 h2) [("a", v1), ("b", v2)] rfl (fun s₁ L Q0 cm0 hC S => ?_)
  have r' := r.deeper (callEnvC F96.1 L 96)
  generalize hA : A.deeper (callEnvC F96.1 L 96) = A' at r' ⊢
  walk_at "go"
  refine iMul (by assumption) (mulOk s1.1 s2.2) fun t s S => ?_
  walk_at "go"
  refine iMul (by assumption) (mulOk s2.1 s1.2) fun t s S => ?_
  walk_at "go"
  refine iMul (by assumption) (mulOk s1.2 s2.2) fun t s S => ?_
  walk_at "go"
  refine use_rat (by assumption) r' (fun h => ?_) (radd_eq x y) fun v s S => by walk_at "out"; exact S.end1 ⟨rfl, rfl⟩ (.head _)
  rcases Int.mul_eq_zero.mp h with h | h
  · exact den_ne _ h
  · exact den_ne _ h

theorem rmul_eq (x y : Rat) : Rat.divInt (x.num * y.num) (x.den * y.den) = x * y := by
  conv => rhs; rw [← Rat.num_divInt_den x, ← Rat.num_divInt_den y]
  rw [Rat.divInt_mul_divInt]
theorem rdiv_eq (x y : Rat) : Rat.divInt (x.num * y.den) (x.den * y.num) = x / y := by
  rw [Rat.div_def, Rat.inv_def]
  conv => rhs; rw [← Rat.num_divInt_den x]
  rw [Rat.divInt_mul_divInt]
theorem num_ne {y : Rat} (h : y ≠ 0) : y.num ≠ 0 := by
  intro e
  exact h (Rat.num_eq_zero.mp e)

set_option maxHeartbeats 4000000 in
theorem does_rmul (r : Room A 3) (k : Keep b s.heap) (pg : Pg w b) {v1 v2 : Value} {x y : Rat} (h1 : Is b (dR x) v1) (h2 : Is b (dR y) v2) (s1 : Sm x) (s2 : Sm y) :
    Does PR w A s [] b (call (.ref 103) [v1, v2]) (RIs (dR (x * y))) := by
  refine def0 r F103.2 k pg [As.is v1 (dR x), As.is v2 (dR y)] (mems2 h1 h2) [("a", v1), ("b", v2)] rfl (fun s₁ L Q0 cm0 hC S => ?_)
  have r' := r.deeper (callEnvC F103.1 L 103)
  generalize hA : A.deeper (callEnvC F103.1 L 103) = A' at r' ⊢
  walk_at "go"
  refine iMul (by assumption) (mulOk s1.1 s2.1) fun t s S => ?_
  walk_at "go"
  refine iMul (by assumption) (mulOk s1.2 s2.2) fun t s S => ?_
  walk_at "go"
  refine use_rat (by assumption) r' (fun h => ?_) (rmul_eq x y) fun v s S => by walk_at "out"; exact S.end1 ⟨rfl, rfl⟩ (.head _)
  rcases Int.mul_eq_zero.mp h with h | h
  · exact den_ne _ h
  · exact den_ne _ h

set_option maxHeartbeats 4000000 in
theorem does_rdiv (r : Room A 3) (k : Keep b s.heap) (pg : Pg w b) {v1 v2 : Value} {x y : Rat} (h1 : Is b (dR x) v1) (h2 : Is b (dR y) v2) (s1 : Sm x) (s2 : Sm y) (hy : y ≠ 0) :
    Does PR w A s [] b (call (.ref 110) [v1, v2]) (RIs (dR (x / y))) := by
  refine def0 r F110.2 k pg [As.is v1 (dR x), As.is v2 (dR y)] (mems2 h1 h2) [("a", v1), ("b", v2)] rfl (fun s₁ L Q0 cm0 hC S => ?_)
  have r' := r.deeper (callEnvC F110.1 L 110)
  generalize hA : A.deeper (callEnvC F110.1 L 110) = A' at r' ⊢
  walk_at "go"
  refine iMul (by assumption) (mulOk s1.1 s2.2) fun t s S => ?_
  walk_at "go"
  refine iMul (by assumption) (mulOk s1.2 s2.1) fun t s S => ?_
  walk_at "go"
  refine use_rat (by assumption) r' (fun h => ?_) (rdiv_eq x y) fun v s S => by walk_at "out"; exact S.end1 ⟨rfl, rfl⟩ (.head _)
  rcases Int.mul_eq_zero.mp h with h | h
  · exact den_ne _ h
  · exact num_ne hy h

set_option maxHeartbeats 4000000 in
theorem does_rneg (r : Room A 3) (k : Keep b s.heap) (pg : Pg w b) {v1 : Value} {x : Rat} (h1 : Is b (dR x) v1) :
    Does PR w A s [] b (call (.ref 117) [v1]) (RIs (dR (-x))) := by
  refine def0 r F117.2 k pg [As.is v1 (dR x)] (mems1 h1) [("a", v1)] rfl (fun s₁ L Q0 cm0 hC S => ?_)
  walk_at "go"
  refine mkTup (by assumption) (.cons .int (.cons .int .nil)) (Nat.le_of_ble_eq_true rfl) fun v s S => ?_
  walk_at "out"
  refine S.end1 (p := As.is v (dR (-x))) ⟨rfl, rfl⟩ ?_
  have : dR (-x) = .tup [.int (0 - x.num), .int x.den] := by unfold dR; rw [Rat.neg_num, Rat.neg_den, Int.zero_sub]
  rw [this]
  exact .head _

set_option maxHeartbeats 4000000 in
theorem does_rinv (r : Room A 3) (k : Keep b s.heap) (pg : Pg w b) {v1 : Value} {x : Rat} (h1 : Is b (dR x) v1) (hx : x ≠ 0) :
    Does PR w A s [] b (call (.ref 124) [v1]) (RIs (dR (x⁻¹))) := by
  refine def0 r F124.2 k pg [As.is v1 (dR x)] (mems1 h1) [("a", v1)] rfl (fun s₁ L Q0 cm0 hC S => ?_)
  have r' := r.deeper (callEnvC F124.1 L 124)
  generalize hA : A.deeper (callEnvC F124.1 L 124) = A' at r' ⊢
  walk_at "go"
  exact use_rat (by assumption) r' (num_ne hx) (Rat.inv_def x).symm fun v s S => by walk_at "out"; exact S.end1 ⟨rfl, rfl⟩ (.head _)

theorem iPow {prog : Program} {s₀ : Shared} {DD : List Addr} {b₀ : Heap} {env : Env} {cw : Bool} {m cm : Str → Option Value} {P : List As} {O : List Ow} {E : Value → Shared → Prop}
    {a n : Int} {t u : Tok} {Q : Value → Shared → Prop} (S : St prog w s₀ DD b₀ env cw m cm P O s) (hn : 0 ≤ n) (hsz : (Builtin.Int.intBits a : Int) * n ≤ 2 ^ 27) (h : ∀ t s', St prog w s₀ DD b₀ env cw m cm P O s' → Q (.int (a ^ n.toNat) t) s') :
    wpAny (model prog w) A (binaryOp .Pow (.int a t) (.int n u)) Q E s := pow_int hn hsz (h _ _ (S.tok _))


set_option maxHeartbeats 4000000 in
theorem does_rpower (r : Room A 3) (k : Keep b s.heap) (pg : Pg w b) {v1 : Value} {x : Rat} {n : Int} {t : Tok} (h1 : Is b (dR x) v1) (hn : 0 ≤ n) (hp : PowOk x n) :
    Does PR w A s [] b (call (.ref 131) [v1, .int n t]) (RIs (dR (x ^ n.toNat))) := by
  refine def0 r F131.2 k pg [As.is v1 (dR x)] (mems1 h1) [("a", v1), ("n", .int n t)] rfl (fun s₁ L Q0 cm0 hC S => ?_)
  walk_at "go"
  rw [if_neg (by simpa using hn)]
  walk_at "go"
  refine iPow (by assumption) hn hp.1 fun t s S => ?_
  walk_at "go"
  refine iPow (by assumption) hn hp.2 fun t s S => ?_
  walk_at "go"
  refine mkTup (by assumption) (.cons .int (.cons .int .nil)) (Nat.le_of_ble_eq_true rfl) fun v s S => ?_
  walk_at "out"
  refine S.end1 (p := As.is v (dR (x ^ n.toNat))) ⟨rfl, rfl⟩ ?_
  have : dR (x ^ n.toNat) = .tup [.int (x.num ^ n.toNat), .int ((x.den : Int) ^ n.toNat)] := by unfold dR; rw [Rat.num_pow, Rat.den_pow]; simp
  rw [this]
  exact .head _
end
end
section
set_option maxRecDepth 100000

open PySem PySem.W PyProof.Rows PySem.Calls

section
variable {w : World} {s : Shared} {b : Heap} {A : Around}

theorem perm12 {α : Type} (x y z : α) : [x, y, z].Perm [y, z, x] := List.perm_append_comm (l₁ := [x]) (l₂ := [y, z])
set_option maxHeartbeats 4000000 in
theorem does_product (r : Room A 1) (k : Keep b s.heap) (pg : Pg w b) {v1 v2 : Value} {x y : Mono} (h1 : Is b (dM x) v1) (h2 : Is b (dM y) v2) :
    Does PR w A s [] b (call (.ref 44) [v1, v2]) (RIs (dM (x.1 + y.1, x.2 + y.2))) := by
  obtain ⟨la, ta, ua, rfl, hta⟩ := Is.mono2 h1
  refine def0c r F44.2 k pg [As.is v2 (dM y), As.tv (.ref la) [.int x.1 ta, .int x.2 ua]] (mems2 h2 ⟨la, rfl, hta⟩) [("a", .ref la), ("b", v2)] rfl (fun s₁ L Q0 hC S => ?_)
  have r' := r.deeper (callEnvC F44.1 L 44)
  generalize hA : A.deeper (callEnvC F44.1 L 44) = A' at r' ⊢
  walk_at "go"
  refine listCompEG rfl (by decide) rfl (by decide) (fun n c h => h) (fun _ => rfl) (fun K1 hK1 => ?_)
  walk_at "go"
  refine mk_enuT S (S.tup (by walk_at "mem")) fun e it s₂ S₂ k₂ => ?_
  walk_at "go"
  refine ih_enu S₂ List.mem_cons_self ?_
  refine hK1 _ _ ?_
  refine CompGo.mk [ienu e it 0, itup it la 0] [] S₂ fun D C b₄ s₄ hk₄ pg₄ S₄ k₄ R1 hR1 => ?_
  refine compStart_ rfl rfl rfl (fun Q E hq => ih_enu S₄ (List.mem_cons_of_mem _ List.mem_cons_self) hq) ?_
  have S₄ := S₄.perm (perm12 _ _ _)
  refine comp_stepL (nx_enuT (x := .int x.1 ta) S₄ (S₄.tup (by walk_at "mem")) rfl (j := 0) rfl fun t v s S => ?_)
  refine assign2 r'.handled S (by walk_at "mem") fun s S => ?_
  walk_at "go"
  refine appO (by assumption) (.tail (.tail .head)) (Nat.le_of_ble_eq_true rfl) fun s S => ?_
  refine comp_stepL (nx_enuT (x := .int x.2 ua) S (S.tup (by walk_at "mem")) rfl (j := 1) rfl fun t v s S => ?_)
  refine assign2 r'.handled S (by walk_at "mem") fun s S => ?_
  walk_at "go"
  refine appO (by assumption) (.tail (.tail .head)) (Nat.le_of_ble_eq_true rfl) fun s S => ?_
  refine comp_stepL (nx_enuTE S r'.handled (S.tup (by walk_at "mem")) rfl fun s S => ?_)
  walk_at "outR"
  refine EndE.mk _ [] [] S (fun _ _ _ h => (nomatch h)) fun s S => ?_
  walk_at "go"
  exact bTupL S List.mem_cons_self (.cons .int (.cons .int .nil)) (Nat.le_of_ble_eq_true rfl) fun v s S => by walk_at "out"; exact S.end1 ⟨rfl, rfl⟩ List.mem_cons_self
set_option maxHeartbeats 4000000 in
theorem does_quotient (r : Room A 1) (k : Keep b s.heap) (pg : Pg w b) {v1 v2 : Value} {x y : Mono} (h1 : Is b (dM x) v1) (h2 : Is b (dM y) v2) :
    Does PR w A s [] b (call (.ref 56) [v1, v2]) (RIs (dM (x.1 - y.1, x.2 - y.2))) := by
  obtain ⟨la, ta, ua, rfl, hta⟩ := Is.mono2 h1
  refine def0c r F56.2 k pg [As.is v2 (dM y), As.tv (.ref la) [.int x.1 ta, .int x.2 ua]] (mems2 h2 ⟨la, rfl, hta⟩) [("a", .ref la), ("b", v2)] rfl (fun s₁ L Q0 hC S => ?_)
  have r' := r.deeper (callEnvC F56.1 L 56)
  generalize hA : A.deeper (callEnvC F56.1 L 56) = A' at r' ⊢
  walk_at "go"
  refine listCompEG rfl (by decide) rfl (by decide) (fun n c h => h) (fun _ => rfl) (fun K2 hK2 => ?_)
  walk_at "go"
  refine mk_enuT S (S.tup (by walk_at "mem")) fun e it s₂ S₂ k₂ => ?_
  walk_at "go"
  refine ih_enu S₂ List.mem_cons_self ?_
  refine hK2 _ _ ?_
  refine CompGo.mk [ienu e it 0, itup it la 0] [] S₂ fun D C b₄ s₄ hk₄ pg₄ S₄ k₄ R2 hR2 => ?_
  refine compStart_ rfl rfl rfl (fun Q E hq => ih_enu S₄ (List.mem_cons_of_mem _ List.mem_cons_self) hq) ?_
  have S₄ := S₄.perm (perm12 _ _ _)
  refine comp_stepL (nx_enuT (x := .int x.1 ta) S₄ (S₄.tup (by walk_at "mem")) rfl (j := 0) rfl fun t v s S => ?_)
  refine assign2 r'.handled S (by walk_at "mem") fun s S => ?_
  walk_at "go"
  refine appO (by assumption) (.tail (.tail .head)) (Nat.le_of_ble_eq_true rfl) fun s S => ?_
  refine comp_stepL (nx_enuT (x := .int x.2 ua) S (S.tup (by walk_at "mem")) rfl (j := 1) rfl fun t v s S => ?_)
  refine assign2 r'.handled S (by walk_at "mem") fun s S => ?_
  walk_at "go"
  refine appO (by assumption) (.tail (.tail .head)) (Nat.le_of_ble_eq_true rfl) fun s S => ?_
  refine comp_stepL (nx_enuTE S r'.handled (S.tup (by walk_at "mem")) rfl fun s S => ?_)
  walk_at "outR"
  refine EndE.mk _ [] [] S (fun _ _ _ h => (nomatch h)) fun s S => ?_
  walk_at "go"
  exact bTupL S List.mem_cons_self (.cons .int (.cons .int .nil)) (Nat.le_of_ble_eq_true rfl) fun v s S => by walk_at "out"; exact S.end1 ⟨rfl, rfl⟩ List.mem_cons_self
set_option maxHeartbeats 4000000 in
theorem does_join (r : Room A 1) (k : Keep b s.heap) (pg : Pg w b) {v1 v2 : Value} {x y : Mono} (h1 : Is b (dM x) v1) (h2 : Is b (dM y) v2) :
    Does PR w A s [] b (call (.ref 61) [v1, v2]) (RIs (dM (max x.1 y.1, max x.2 y.2))) := by
  obtain ⟨la, ta, ua, rfl, hta⟩ := Is.mono2 h1
  refine def0c r F61.2 k pg [As.is v2 (dM y), As.tv (.ref la) [.int x.1 ta, .int x.2 ua]] (mems2 h2 ⟨la, rfl, hta⟩) [("a", .ref la), ("b", v2)] rfl (fun s₁ L Q0 hC S => ?_)
  have r' := r.deeper (callEnvC F61.1 L 61)
  generalize hA : A.deeper (callEnvC F61.1 L 61) = A' at r' ⊢
  walk_at "go"
  refine listCompEG rfl (by decide) rfl (by decide) (fun n c h => h) (fun _ => rfl) (fun K3 hK3 => ?_)
  walk_at "go"
  refine mk_enuT S (S.tup (by walk_at "mem")) fun e it s₂ S₂ k₂ => ?_
  walk_at "go"
  refine ih_enu S₂ List.mem_cons_self ?_
  refine hK3 _ _ ?_
  refine CompGo.mk [ienu e it 0, itup it la 0] [] S₂ fun D C b₄ s₄ hk₄ pg₄ S₄ k₄ R3 hR3 => ?_
  refine compStart_ rfl rfl rfl (fun Q E hq => ih_enu S₄ (List.mem_cons_of_mem _ List.mem_cons_self) hq) ?_
  have S₄ := S₄.perm (perm12 _ _ _)
  refine comp_stepL (nx_enuT (x := .int x.1 ta) S₄ (S₄.tup (by walk_at "mem")) rfl (j := 0) rfl fun t v s S => ?_)
  refine assign2 r'.handled S (by walk_at "mem") fun s S => ?_
  walk_at "go"
  refine bMax r'.handled (by assumption) fun t s S => ?_
  refine appO (by assumption) (.tail (.tail .head)) (Nat.le_of_ble_eq_true rfl) fun s S => ?_
  refine comp_stepL (nx_enuT (x := .int x.2 ua) S (S.tup (by walk_at "mem")) rfl (j := 1) rfl fun t v s S => ?_)
  refine assign2 r'.handled S (by walk_at "mem") fun s S => ?_
  walk_at "go"
  refine bMax r'.handled (by assumption) fun t s S => ?_
  refine appO (by assumption) (.tail (.tail .head)) (Nat.le_of_ble_eq_true rfl) fun s S => ?_
  refine comp_stepL (nx_enuTE S r'.handled (S.tup (by walk_at "mem")) rfl fun s S => ?_)
  walk_at "outR"
  refine EndE.mk _ [] [] S (fun _ _ _ h => (nomatch h)) fun s S => ?_
  walk_at "go"
  exact bTupL S List.mem_cons_self (.cons .int (.cons .int .nil)) (Nat.le_of_ble_eq_true rfl) fun v s S => by walk_at "out"; exact S.end1 ⟨rfl, rfl⟩ List.mem_cons_self
set_option maxHeartbeats 4000000 in
theorem does_meet (r : Room A 1) (k : Keep b s.heap) (pg : Pg w b) {v1 v2 : Value} {x y : Mono} (h1 : Is b (dM x) v1) (h2 : Is b (dM y) v2) :
    Does PR w A s [] b (call (.ref 66) [v1, v2]) (RIs (dM (min x.1 y.1, min x.2 y.2))) := by
  obtain ⟨la, ta, ua, rfl, hta⟩ := Is.mono2 h1
  refine def0c r F66.2 k pg [As.is v2 (dM y), As.tv (.ref la) [.int x.1 ta, .int x.2 ua]] (mems2 h2 ⟨la, rfl, hta⟩) [("a", .ref la), ("b", v2)] rfl (fun s₁ L Q0 hC S => ?_)
  have r' := r.deeper (callEnvC F66.1 L 66)
  generalize hA : A.deeper (callEnvC F66.1 L 66) = A' at r' ⊢
  walk_at "go"
  refine listCompEG rfl (by decide) rfl (by decide) (fun n c h => h) (fun _ => rfl) (fun K4 hK4 => ?_)
  walk_at "go"
  refine mk_enuT S (S.tup (by walk_at "mem")) fun e it s₂ S₂ k₂ => ?_
  walk_at "go"
  refine ih_enu S₂ List.mem_cons_self ?_
  refine hK4 _ _ ?_
  refine CompGo.mk [ienu e it 0, itup it la 0] [] S₂ fun D C b₄ s₄ hk₄ pg₄ S₄ k₄ R4 hR4 => ?_
  refine compStart_ rfl rfl rfl (fun Q E hq => ih_enu S₄ (List.mem_cons_of_mem _ List.mem_cons_self) hq) ?_
  have S₄ := S₄.perm (perm12 _ _ _)
  refine comp_stepL (nx_enuT (x := .int x.1 ta) S₄ (S₄.tup (by walk_at "mem")) rfl (j := 0) rfl fun t v s S => ?_)
  refine assign2 r'.handled S (by walk_at "mem") fun s S => ?_
  walk_at "go"
  refine bMin r'.handled (by assumption) fun t s S => ?_
  refine appO (by assumption) (.tail (.tail .head)) (Nat.le_of_ble_eq_true rfl) fun s S => ?_
  refine comp_stepL (nx_enuT (x := .int x.2 ua) S (S.tup (by walk_at "mem")) rfl (j := 1) rfl fun t v s S => ?_)
  refine assign2 r'.handled S (by walk_at "mem") fun s S => ?_
  walk_at "go"
  refine bMin r'.handled (by assumption) fun t s S => ?_
  refine appO (by assumption) (.tail (.tail .head)) (Nat.le_of_ble_eq_true rfl) fun s S => ?_
  refine comp_stepL (nx_enuTE S r'.handled (S.tup (by walk_at "mem")) rfl fun s S => ?_)
  walk_at "outR"
  refine EndE.mk _ [] [] S (fun _ _ _ h => (nomatch h)) fun s S => ?_
  walk_at "go"
  exact bTupL S List.mem_cons_self (.cons .int (.cons .int .nil)) (Nat.le_of_ble_eq_true rfl) fun v s S => by walk_at "out"; exact S.end1 ⟨rfl, rfl⟩ List.mem_cons_self

set_option maxHeartbeats 4000000 in
theorem does_apart (r : Room A 2) (k : Keep b s.heap) (pg : Pg w b) {v1 v2 : Value} {x y : Mono} (h1 : Is b (dM x) v1) (h2 : Is b (dM y) v2) :
    Does PR w A s [] b (call (.ref 73) [v1, v2]) (RBool (min x.1 y.1 + min x.2 y.2 == 0)) := by
  refine def0 r F73.2 k pg [As.is v1 (dM x), As.is v2 (dM y)] (mems2 h1 h2) [("a", v1), ("b", v2)] rfl (fun s₁ L Q0 cm0 hC S => ?_)
  have r' := r.deeper (callEnvC F73.1 L 73)
  generalize hA : A.deeper (callEnvC F73.1 L 73) = A' at r' ⊢
  walk_at "go"
  refine useIs (by assumption) (fun b k pg hP => does_meet (r'.le (by decide)) k pg (hP (.is v1 (dM x)) (by walk_at "mem")) (hP (.is v2 (dM y)) (by walk_at "mem"))) fun v s S => ?_
  walk_at "go"
  refine bSumM r'.handled S List.mem_cons_self fun t s S => ?_
  walk_at "go"
  walk_at "out"
  exact St.end0 (by assumption) ⟨rfl, rfl, rfl⟩

set_option maxHeartbeats 4000000 in
theorem does_divide (r : Room A 1) (k : Keep b s.heap) (pg : Pg w b) {v1 v2 : Value} {x y : Mono} (h1 : Is b (dM x) v1) (h2 : Is b (dM y) v2) :
    Does PR w A s [] b (call (.ref 51) [v1, v2]) (RBool (decide (x.1 ≤ y.1) && decide (x.2 ≤ y.2))) := by
  obtain ⟨la, ta, ua, rfl, hta⟩ := Is.mono2 h1
  refine def0 r F51.2 k pg [As.is v2 (dM y), As.tv (.ref la) [.int x.1 ta, .int x.2 ua]] (mems2 h2 ⟨la, rfl, hta⟩) [("a", .ref la), ("b", v2)] rfl (fun s₁ L Q0 cm0 hC S => ?_)
  have r' := r.deeper (callEnvC F51.1 L 51)
  generalize hA : A.deeper (callEnvC F51.1 L 51) = A' at r' ⊢
  walk_at "go"
  refine forS (fun R hR => ?_) (fun _ => rfl)
  walk_at "go"
  refine mk_enuT S (S.tup (by walk_at "mem")) fun e it s₂ S₂ k₂ => ?_
  refine ih_enu S₂ List.mem_cons_self ?_
  refine forG (nx_enuT (x := .int x.1 ta) S₂ (S₂.tup (by walk_at "mem")) rfl (j := 0) rfl fun t v s S => ?_)
  refine assign2 r'.handled S (by walk_at "mem") fun s S => ?_
  walk_at "go"
  by_cases c1 : x.1 > y.1
  · rw [if_pos (by simpa using c1)]
    walk_at "go"
    have e : (decide (x.1 ≤ y.1) && decide (x.2 ≤ y.2)) = false := by simp; omega
    walk_at "out"
    rw [e]
    exact St.end0 (by assumption) ⟨rfl, rfl, rfl⟩
  rw [if_neg (by simpa using c1)]
  walk_at "go"
  rename_i S _
  refine forG (nx_enuT (x := .int x.2 ua) S (S.tup (by walk_at "mem")) rfl (j := 1) rfl fun t v s S => ?_)
  refine assign2 r'.handled S (by walk_at "mem") fun s S => ?_
  walk_at "go"
  by_cases c2 : x.2 > y.2
  · rw [if_pos (by simpa using c2)]
    walk_at "go"
    have e : (decide (x.1 ≤ y.1) && decide (x.2 ≤ y.2)) = false := by simp; omega
    walk_at "out"
    rw [e]
    exact St.end0 (by assumption) ⟨rfl, rfl, rfl⟩
  rw [if_neg (by simpa using c2)]
  walk_at "go"
  rename_i S _
  refine forG (nx_enuTE S r'.handled (S.tup (by walk_at "mem")) rfl fun s S => ?_)
  walk_at "go"
  have e : (decide (x.1 ≤ y.1) && decide (x.2 ≤ y.2)) = true := by simp; omega
  walk_at "out"
  rw [e]
  exact St.end0 (by assumption) ⟨rfl, rfl, rfl⟩
end
end
section
set_option maxRecDepth 100000

open PySem PySem.W PyProof.Rows PySem.Calls

section
variable {w : World} {s : Shared} {b : Heap} {A : Around}

set_option maxHeartbeats 4000000 in
theorem does_okey (r : Room A 1) (k : Keep b s.heap) (pg : Pg w b) {o : Ord} {t : Tok} {v : Value} {x : Mono} (h1 : Is b (dM x) v) :
    Does PR w A s [] b (call (.ref 39) [.str o.nm t, v]) (RIs (dL (okey o x))) := by
  obtain ⟨la, ta, ua, rfl, hta⟩ := Is.mono2 h1
  refine def0 r F39.2 k pg [As.is (.ref la) (dM x), As.tv (.ref la) [.int x.1 ta, .int x.2 ua]] (mems2 h1 ⟨la, rfl, hta⟩) [("order", .str o.nm t), ("powers", .ref la)] rfl (fun s₁ L Q0 cm0 hC S => ?_)
  have r' := r.deeper (callEnvC F39.1 L 39)
  generalize hA : A.deeper (callEnvC F39.1 L 39) = A' at r' ⊢
  cases o with
  | lex =>
    walk_at "go"
    walk_at "out"
    exact St.end1 (by assumption) ⟨rfl, rfl⟩ List.mem_cons_self
  | grlex =>
    walk_at "go"
    refine bSumM r'.handled (by assumption) List.mem_cons_self fun t s S => ?_
    walk_at "go"
    refine mkTup S (.cons .int .nil) (Nat.le_of_ble_eq_true rfl) fun v s S => ?_
    walk_at "go"
    exact addTup S (ds := [.int (x.1 + x.2)]) (es := [.int x.1, .int x.2]) List.mem_cons_self (List.mem_cons_of_mem _ List.mem_cons_self) (by simp) (by simp) (Nat.le_of_ble_eq_true rfl) fun v s S =>
      by walk_at "out"; exact S.end1 ⟨rfl, rfl⟩ List.mem_cons_self
  | grevlex =>
    walk_at "go"
    refine bSumM r'.handled (by assumption) List.mem_cons_self fun t s S => ?_
    walk_at "go"
    refine mkTup S (.cons .int .nil) (Nat.le_of_ble_eq_true rfl) fun v s S => ?_
    walk_at "go"
    refine listCompEG rfl (by decide) rfl (by decide) (fun n c h => h) (fun _ => rfl) (fun K1 hK1 => ?_)
    refine rev2 (t := la) (v0 := .int x.1 ta) (v1 := .int x.2 ua) (fun _ _ => rfl) ?_
    walk_at "go"
    refine ⟨_, rfl, rfl, _, _, _, _, _, _, _, _, (by assumption), List.mem_cons_of_mem _ (List.mem_cons_of_mem _ List.mem_cons_self), fun a s S => ?_⟩
    refine ih_tup S (S.tup List.mem_cons_self) fun I s S k => ?_
    refine hK1 _ _ ?_
    refine CompGo.mk [itup I a 0] [] S fun D C b₄ s₄ hk₄ pg₄ S₄ k₄ R1 hR1 => ?_
    refine compStart_ rfl rfl rfl (fun Q E hq => ih_itup S₄ (List.mem_cons_of_mem _ List.mem_cons_self) hq) ?_
    have S := S₄.perm (List.perm_append_comm (l₁ := [_]) (l₂ := [_]))
    clear S₄
    refine comp_stepL (nextName (nx_tup (v := .int x.2 ua) S (S.tup List.mem_cons_self) rfl fun s S => ?_))
    refine wpAny_assign_Name ?_
    walk_at "go"
    refine appO (by assumption) (.tail .head) (Nat.le_of_ble_eq_true rfl) fun s S => ?_
    refine comp_stepL (nextName (nx_tup (v := .int x.1 ta) S (S.tup List.mem_cons_self) rfl fun s S => ?_))
    refine wpAny_assign_Name ?_
    walk_at "go"
    refine appO (by assumption) (.tail .head) (Nat.le_of_ble_eq_true rfl) fun s S => ?_
    refine comp_stepL (nextName (nx_tupE S r'.handled (S.tup List.mem_cons_self) rfl fun s S => ?_))
    walk_at "outR"
    refine EndE.mk _ [] [] S (fun _ _ _ h => (nomatch h)) fun s S => ?_
    walk_at "go"
    refine bTupL S List.mem_cons_self (.cons .int (.cons .int .nil)) (Nat.le_of_ble_eq_true rfl) fun v s S => ?_
    exact addTup S (ds := [.int (x.1 + x.2)]) (es := [.int (-x.2), .int (-x.1)]) (List.mem_cons_of_mem _ (List.mem_cons_of_mem _ List.mem_cons_self)) List.mem_cons_self (by simp) (by simp) (Nat.le_of_ble_eq_true rfl) fun v s S =>
      by walk_at "out"; exact S.end1 ⟨rfl, rfl⟩ List.mem_cons_self
end
end
section
set_option maxRecDepth 100000

open PySem PySem.W PyProof.Rows PySem.Calls

section
variable {w : World} {s : Shared} {b : Heap} {A : Around}

set_option maxHeartbeats 4000000 in
theorem does_mvterm (r : Room A 1) (k : Keep b s.heap) (pg : Pg w b) {v1 v2 : Value} {q : Mono} {c : Rat} (h1 : Is b (dM q) v1) (h2 : Is b (dR c) v2) :
    Does PR w A s [] b (call (.ref 138) [v1, v2]) (ROwn (mvterm q c)) := by
  refine def0 r F138.2 k pg [As.is v1 (dM q), As.is v2 (dR c)] (mems2 h1 h2) [("powers", v1), ("rational", v2)] rfl (fun s₁ L Q0 cm0 hC S => ?_)
  have r' := r.deeper (callEnvC F138.1 L 138)
  generalize hA : A.deeper (callEnvC F138.1 L 138) = A' at r' ⊢
  walk_at "go"
  rename_i S
  refine tEqR S r'.u (by walk_at "mem") (by walk_at "mem") ?_
  walk_at "go"
  unfold mvterm at hC
  by_cases hc : c = 0
  · rw [if_pos hc] at hC
    rw [decide_eq_true hc]
    refine dNew S fun d s S => by walk_at "out"; exact S.endO rfl List.mem_cons_self
  · rw [if_neg hc] at hC
    rw [decide_eq_false hc]
    refine dDisp S rfl rfl (by decide) (by decide) fun d s S => ?_
    refine pair1 ?_
    walk_at "go"
    refine pair0 (stor1 ?_)
    refine dSet (c := c) (by assumption) (by have := r'.u; lia) .head (by walk_at "mem") (by walk_at "mem") (Nat.zero_le _) fun s S => ?_
    exact stor0 (by walk_at "out"; exact S.endO rfl List.mem_cons_self)

set_option maxHeartbeats 4000000 in
theorem does_addterm (r : Room A 4) (k : Keep b s.heap) (pg : Pg w b) {d : Addr} {v1 v2 : Value} {p p' : Poly} {q : Mono} {c : Rat} (h1 : Is b (dM q) v1) (h2 : Is b (dR c) v2)
    (ho : (Ow.dict d p).on PR w b s.heap) (hb : b.get? d = none) (hp : addT? p q c = some p') :
    Does PR w A s [d] b (call (.ref 159) [.ref d, v1, v2]) (fun v F N => v = .none ∧ F = [] ∧ N = [Ow.dict d p']) := by
  refine def_ (O := [Ow.dict d p]) r F159.2 k pg (P := [As.is v1 (dM q), As.is v2 (dR c)]) (mems2 h1 h2) (fun x hx => by obtain rfl := List.mem_singleton.mp hx; exact ⟨ho, hb⟩) (fun x hx => by obtain rfl := List.mem_singleton.mp hx; exact List.mem_singleton.mpr rfl) (List.pairwise_singleton _ _)
    [("found", .ref d), ("powers", v1), ("rational", v2)] rfl (fun s₁ L S => ?_)
  have r' := r.deeper (callEnvC F159.1 L 159)
  generalize hA : A.deeper (callEnvC F159.1 L 159) = A' at r' ⊢
  unfold addT? at hp
  by_cases hz : p.length ≤ 1000000
  case neg => rw [if_neg hz] at hp; cases hp
  rw [if_pos hz] at hp
  walk_at "go"
  refine dIn (by assumption) r'.u (.own List.mem_cons_self) (by walk_at "mem") fun s S => ?_
  walk_at "go"
  rename_i Sx
  refine (?_ : ∀ t, put p q t = p' → ((∃ x, plook p q = some x ∧ Sm x ∧ Sm c ∧ x + c = t) ∨ (plook p q = none ∧ t = c)) → _) (match plook p q with | some x => x + c | none => c) ?_ ?_
  rotate_left
  · cases hl : plook p q with
    | some x =>
      rw [hl] at hp; simp only at hp ⊢; split at hp
      · exact Option.some.inj hp
      · cases hp
    | none => rw [hl] at hp; simpa using hp
  · cases hl : plook p q with
    | some x =>
      rw [hl] at hp; simp only at hp ⊢; split at hp
      · rename_i hs
        exact .inl ⟨x, by first | rfl | exact hl, hs.1, hs.2, rfl⟩
      · cases hp
    | none => exact .inr ⟨rfl, rfl⟩
  intro t ht hc
  rcases hc with ⟨x, hl, hx, hcs, rfl⟩ | ⟨hl, rfl⟩
  · rw [hl, if_pos (show (some x).isSome = true from rfl)]
    walk_at "go"
    refine dSub (by assumption) r'.u (.own List.mem_cons_self) (by walk_at "mem") hl (fun _ _ => rfl) fun v s S => ?_
    walk_at "go"
    refine useIs (by assumption) (fun b k pg hP => does_radd r' k pg (hP (.is v (dR x)) (by walk_at "mem")) (hP (.is v2 (dR c)) (by walk_at "mem")) hx hcs) fun v s S => ?_
    walk_at "go"
    rename_i S
    refine tEqR S r'.u (by walk_at "mem") (by walk_at "mem") ?_
    walk_at "go"
    unfold put at ht
    by_cases h0 : x + c = 0
    · rw [if_pos (by simpa using h0)]
      rw [if_pos h0] at ht
      walk_at "go"
      refine mMeth (pl := _) F.plainAttrs_dict F.slot_dict_pop F.type_dict_pop (by rfl) rfl rfl ?_
      walk_at "go"
      refine mtDict (by assumption) List.mem_cons_self ?_
      walk_at "go"
      refine dPop (by assumption) r'.u .head (by walk_at "mem") hz (.inr ⟨_, rfl⟩) fun v s S => ?_
      walk_at "go"
      walk_at "out"
      exact S.comes (F := []) (N := [Ow.dict d p']) ⟨rfl, rfl, rfl⟩ (fun _ _ _ h => (nomatch h)) (by rw [ht]; exact List.Sublist.refl _)
    · rw [if_neg (by simpa using h0)]
      rw [if_neg h0] at ht
      walk_at "go"
      refine wpAny_Assign_Subscript ?_
      walk_at "go"
      refine dSetItem (c := x + c) (by assumption) r'.u .head (by walk_at "mem") (by walk_at "mem") hz fun s S => ?_
      walk_at "go"
      walk_at "out"
      exact S.comes (F := []) (N := [Ow.dict d p']) ⟨rfl, rfl, rfl⟩ (fun _ _ _ h => (nomatch h)) (by rw [ht]; exact List.Sublist.refl _)
  · rw [hl, if_neg (by decide)]
    walk_at "go"
    rename_i S
    refine tEqR S r'.u (by walk_at "mem") (by walk_at "mem") ?_
    walk_at "go"
    unfold put at ht
    by_cases h0 : t = 0
    · rw [if_pos (by simpa using h0)]
      rw [if_pos h0] at ht
      walk_at "go"
      refine mMeth (pl := _) F.plainAttrs_dict F.slot_dict_pop F.type_dict_pop (by rfl) rfl rfl ?_
      walk_at "go"
      refine mtDict (by assumption) List.mem_cons_self ?_
      walk_at "go"
      refine dPop (by assumption) r'.u .head (by walk_at "mem") hz (.inr ⟨_, rfl⟩) fun v s S => ?_
      walk_at "go"
      walk_at "out"
      exact S.comes (F := []) (N := [Ow.dict d p']) ⟨rfl, rfl, rfl⟩ (fun _ _ _ h => (nomatch h)) (by rw [ht]; exact List.Sublist.refl _)
    · rw [if_neg (by simpa using h0)]
      rw [if_neg h0] at ht
      walk_at "go"
      refine wpAny_Assign_Subscript ?_
      walk_at "go"
      refine dSetItem (c := t) (by assumption) r'.u .head (by walk_at "mem") (by walk_at "mem") hz fun s S => ?_
      walk_at "go"
      walk_at "out"
      exact S.comes (F := []) (N := [Ow.dict d p']) ⟨rfl, rfl, rfl⟩ (fun _ _ _ h => (nomatch h)) (by rw [ht]; exact List.Sublist.refl _)
end
end
section
set_option maxRecDepth 100000

open PySem PySem.W PyProof.Rows PySem.Calls

inductive Del (x : Ow) : List Ow → List Ow → Prop where
  | head {r} : Del x (x :: r) r
  | tail {z r r'} : Del x r r' → Del x (z :: r) (z :: r')
theorem Del.mem {x : Ow} : ∀ {l l' : List Ow}, Del x l l' → x ∈ l
  | _, _, .head => .head _
  | _, _, .tail r => .tail _ r.mem
theorem Del.sub {x : Ow} : ∀ {l l' : List Ow}, Del x l l' → l'.Sublist l
  | _, _, .head => List.sublist_cons_self _ _
  | _, _, .tail r => r.sub.cons₂ _
theorem Del.ne {x : Ow} : ∀ {l l' : List Ow}, Del x l l' → l.Pairwise (fun x y => x.a ≠ y.a) → ∀ y ∈ l', y.a ≠ x.a
  | _, _, .head, h, y, hy => ((List.pairwise_cons.mp h).1 y hy).symm
  | _, _, .tail r, h, y, hy => by
    rcases List.mem_cons.mp hy with rfl | hy
    · exact (List.pairwise_cons.mp h).1 _ r.mem
    · exact r.ne (List.pairwise_cons.mp h).2 y hy

section
variable {w : World} {s₀ s : Shared} {DD : List Addr} {b₀ : Heap} {env : Env} {cw : Bool} {m cm : Str → Option Value} {P : List As} {O O' : List Ow}
variable {A : Around} {E : Value → Shared → Prop}
theorem useAdd {v1 v2 : Value} {D : Addr} {f f' : Poly} {q : Mono} {c : Rat} {Q : Value → Shared → Prop} (S : St PR w s₀ DD b₀ env cw m cm P O s) (r : Room A 4) (hd : Del (.dict D f) O O')
    (h1 : As.is v1 (dM q) ∈ P) (h2 : As.is v2 (dR c) ∈ P) (hp : addT? f q c = some f') (h : ∀ s', St PR w s₀ DD b₀ env cw m cm P (Ow.dict D f' :: O') s' → Q .none s') :
    (Mine.hd.heap_1 w.params).In s.heap ∧ wpAny (model PR w) A (call (.ref 159) [.ref D, v1, v2]) Q E s := by
  refine ⟨S.inK, ?_⟩
  have hne : ∀ y ∈ O', y.a ≠ D := by
    obtain ⟨b, B⟩ := S
    exact hd.ne B.oap
  refine S.doesB (D' := [D]) (fun b B => does_addterm r B.bs B.pg (B.facts _ h1) (B.facts _ h2) (B.own _ hd.mem).1 (B.own _ hd.mem).2.1 hp) (fun a ha => ?_) hd.sub (fun x hx hm => hne x hx (List.mem_singleton.mp hm)) fun v s' F N hR S' => ?_
  · exact ⟨_, hd.mem, (List.mem_singleton.mp ha).symm⟩
  · obtain ⟨rfl, rfl, rfl⟩ := hR
    exact h s' S'
end

section
variable {w : World} {s : Shared} {b : Heap} {A : Around}

set_option maxHeartbeats 4000000 in
theorem does_mvnumber (r : Room A 2) (k : Keep b s.heap) (pg : Pg w b) {v1 : Value} {u : Tok} {c : Rat} (h1 : Is b (dR c) v1) :
    Does PR w A s [] b (call (.ref 145) [v1, .int 2 u]) (ROwn (mvterm (0, 0) c)) := by
  refine def0 r F145.2 k pg [As.is v1 (dR c)] (mems1 h1) [("rational", v1), ("n", .int 2 u)] rfl (fun s₁ L Q0 cm0 hC S => ?_)
  have r' := r.deeper (callEnvC F145.1 L 145)
  generalize hA : A.deeper (callEnvC F145.1 L 145) = A' at r' ⊢
  walk_at "go"
  refine mkTup (by assumption) (.cons .int .nil) (Nat.le_of_ble_eq_true rfl) fun v s S => ?_
  walk_at "go"
  refine tRep2 S List.mem_cons_self fun v s S => ?_
  walk_at "go"
  refine useOwnB (p := mvterm (0, 0) c) (by assumption) (fun b B => does_mvterm r' B.bs B.pg (B.facts (.is v (dM (0, 0))) (by walk_at "mem")) (B.facts (.is v1 (dR c)) (by walk_at "mem"))) fun d s S => ?_
  walk_at "out"
  exact S.endO rfl List.mem_cons_self

theorem drop_nil {α : Type} {l : List α} {i : Nat} (hi : i ≤ l.length) (h : l.drop i = []) : i = l.length := by
  have := congrArg List.length h
  simp at this
  omega
theorem drop_cons {α : Type} {l : List α} {i : Nat} {x : α} {r : List α} (h : l.drop i = x :: r) : l[i]? = some x ∧ l.drop (i + 1) = r ∧ i + 1 ≤ l.length := by
  have h1 : i < l.length := by
    have := congrArg List.length h
    simp at this
    omega
  rw [List.drop_eq_getElem_cons h1] at h
  simp only [List.cons.injEq] at h
  exact ⟨by rw [List.getElem?_eq_getElem h1, h.1], h.2, h1⟩

set_option maxHeartbeats 4000000 in
theorem does_mvadd (r : Room A 5) (k : Keep b s.heap) (pg : Pg w b) {v1 v2 : Value} {p q p' : Poly} (h1 : DictAt PR w b s.heap v1 p) (h2 : DictAt PR w b s.heap v2 q) (hp : mvadd? p q = some p') :
    Does PR w A s [] b (call (.ref 152) [v1, v2]) (ROwn p') := by
  refine def0 r F152.2 k pg [] (fun _ h => (nomatch h)) [("a", v1), ("b", v2)] rfl (fun s₁ L Q0 cm0 hC S => ?_)
  have r' := r.deeper (callEnvC F152.1 L 152)
  generalize hA : A.deeper (callEnvC F152.1 L 152) = A' at r' ⊢
  unfold mvadd? at hp
  split at hp
  case isFalse => cases hp
  rename_i hbx
  obtain ⟨d, es, ep, rfl, pn⟩ := h2.pin (DD := []) noDD
  walk_at "go"
  refine dCopy (by assumption) (.base h1 noDD) hbx.1 hbx.2 fun D s S => ?_
  walk_at "go"
  refine forS (fun R hR => ?_) (fun _ => rfl)
  walk_at "go"
  refine ihP (by assumption) pn fun I s hI S _ => ?_
  refine (?_ : ∀ (r : Poly) (i : Nat) (f : Poly) (m : Str → Option Value) (s : Shared) (P : List As), i ≤ q.length → q.drop i = r → foldAdd? f r = some p' → m "found" = some (.ref D) → m "b" = some (.ref d) →
    St PR w _ _ _ (callEnvC F152.1 L 152) true m _ P [idct I d i es.size ep, Ow.dict D f] s → codeAny (model PR w) A' _ _ s) q 0 p _ s _ (Nat.zero_le _) rfl hp rfl rfl S
  clear S
  intro r
  induction r with
  | nil =>
    intro i f m s P hi hd hf hm1 hm2 S
    simp only [foldAdd?, Option.some.injEq] at hf
    subst hf
    refine forG (nextName (nxPE S r'.handled pn (drop_nil hi hd) fun s S => ?_))
    walk_at "go"
    walk_at "out"
    exact S.endO rfl List.mem_cons_self
  | cons e r ih =>
    intro i f m s P hi hd hf hm1 hm2 S
    obtain ⟨h3, h4, h5⟩ := drop_cons hd
    unfold foldAdd? at hf
    obtain ⟨f', hf1, hf2⟩ := Option.bind_eq_some_iff.mp hf
    refine forG (nextName (nxP S pn h3 fun v s S => ?_))
    refine wpAny_assign_Name ?_
    walk_at "go"
    refine dSub (by assumption) r'.u pn.rd (by walk_at "mem") (plook_at pn.nodup h3) (fun _ _ => rfl) fun v2 s S => ?_
    walk_at "go"
    refine useAdd S r' (.tail .head) (by walk_at "mem") (by walk_at "mem") hf1 fun s S => ?_
    walk_at "go"
    show codeAny _ _ _ _ _
    exact ih (i + 1) f' (upd m "powers" v) s _ h5 h4 hf2 hm1 hm2 (S.perm (List.Perm.swap ..))
end
end
section
set_option maxRecDepth 100000

open PySem PySem.W PyProof.Rows PySem.Calls

theorem pset_new : ∀ {q : Poly} {m : Mono} {c : Rat}, (∀ e ∈ q, e.1 ≠ m) → pset q m c = q ++ [(m, c)]
  | [], _, _, _ => rfl
  | e :: q, m, c, h => by
    unfold pset
    rw [if_neg (h e List.mem_cons_self), pset_new (fun x hx => h x (List.mem_cons_of_mem _ hx))]
    rfl

/-- what is stored stands behind what is there -/
theorem pset_step {p q r : Poly} {F : Mono × Rat → Mono × Rat} {e : Mono × Rat} (hq : q ++ ((e :: r).map F) = p.map F) (hn : ((p.map F).map (·.1)).Nodup) : pset q (F e).1 (F e).2 = q ++ [F e] ∧ (q ++ [F e]) ++ r.map F = p.map F := by
  have h1 : q ++ F e :: r.map F = p.map F := by simpa using hq
  refine ⟨?_, by simpa using h1⟩
  rw [← h1, List.map_append, List.map_cons, List.nodup_append] at hn
  exact pset_new fun x hx he => hn.2.2 x.1 (List.mem_map_of_mem hx) (F e).1 List.mem_cons_self he

theorem mprod_inj {x y z : Mono} (h : mprod x z = mprod y z) : x = y := by
  unfold mprod at h
  simp only [Prod.mk.injEq] at h
  exact Prod.ext (by lia) (by lia)

section
variable {w : World} {s : Shared} {b : Heap} {A : Around}

set_option maxHeartbeats 4000000 in
theorem does_mvneg (r : Room A 4) (k : Keep b s.heap) (pg : Pg w b) {v1 : Value} {p : Poly} (h1 : DictAt PR w b s.heap v1 p) (hz : p.length ≤ 1000000) :
    Does PR w A s [] b (call (.ref 164) [v1]) (ROwn (mvneg p)) := by
  obtain ⟨d, es, ep, rfl, pn⟩ := h1.pin (DD := []) noDD
  refine def0c r F164.2 k pg [] (fun _ h => (nomatch h)) [("a", .ref d)] rfl (fun s₁ L Q0 hC S => ?_)
  have r' := r.deeper (callEnvC F164.1 L 164)
  generalize hA : A.deeper (callEnvC F164.1 L 164) = A' at r' ⊢
  walk_at "go"
  refine dictCompE rfl (by decide) rfl (by decide) (fun n c h => h) (fun _ => rfl) (fun K1 hK1 => ?_)
  walk_at "go"
  refine ihP (by assumption) pn fun I s hI S _ => ?_
  refine hK1 _ _ ?_
  refine CompGo.mk [idct I d 0 es.size ep] [] S fun D C b₄ s₄ hk₄ pg₄ S₄ k₄ R1 hR1 => ?_
  have pn' := pn.inner (X := [idct I d 0 es.size ep]) S hk₄.2 (fun y hy => by obtain rfl := List.mem_singleton.mp hy; exact fun e => hI e.symm)
  refine compStart_ rfl rfl rfl (fun Q E hq => ih_idct S₄ (List.mem_cons_of_mem _ List.mem_cons_self) hq) ?_
  have hnd : ((mvneg p).map (·.1)).Nodup := by
    have : (mvneg p).map (·.1) = p.map (·.1) := by unfold mvneg; rw [List.map_map]; rfl
    rw [this]; exact pn.nodup
  refine (?_ : ∀ (r : Poly) (i : Nat) (q : Poly) (m : Str → Option Value) (s' : Shared) (P : List As), p.drop i = r → i ≤ p.length → q ++ mvneg r = mvneg p →
    St PR w _ _ b₄ _ false m _ P [idct I d i es.size ep, Ow.dict D q] s' → codeAny (model PR w) A' _ _ s') p 0 [] _ s₄ _ rfl (Nat.zero_le _) rfl (S₄.perm (List.Perm.swap ..))
  clear S₄
  intro r
  induction r with
  | nil =>
    intro i q m s' P hd hi hq S'
    have hq' : q = mvneg p := by simpa [mvneg] using hq
    subst hq'
    refine comp_stepD (nextName (nxPE S' r'.handled pn' (drop_nil hi hd) fun s' S' => ?_))
    walk_at "outR"
    refine EndD.mk _ S' fun s' S' => ?_
    walk_at "out"
    exact S'.endO rfl List.mem_cons_self
  | cons e r ih =>
    intro i q m s' P hd hi hq S'
    obtain ⟨h3, h4, h5⟩ := drop_cons hd
    refine comp_stepD (nextName (nxP S' pn' h3 fun v s' S' => ?_))
    refine wpAny_assign_Name ?_
    walk_at "go"
    refine dSub (by assumption) r'.u pn'.rd (by walk_at "mem") (plook_at pn.nodup h3) (fun _ _ => rfl) fun v2 s' S' => ?_
    walk_at "go"
    refine useIs (by assumption) (fun b k pg hP => does_rneg r' k pg (hP (.is v2 (dR e.2)) (by walk_at "mem"))) fun v3 s' S' => ?_
    obtain ⟨g1, g2⟩ := pset_step (F := fun e => (e.1, -e.2)) hq hnd
    have hle : q.length ≤ p.length := by
      have := congrArg List.length hq
      simp [mvneg] at this
      lia
    refine dSet (q := e.1) (c := -e.2) (by assumption) (by have := r'.u; lia) (.tail .head) (by walk_at "mem") (by walk_at "mem") (by lia) fun s' S' => ?_
    rw [g1] at S'
    exact ih (i + 1) _ _ s' _ h4 h5 g2 S'

set_option maxHeartbeats 4000000 in
theorem does_mvscale (r : Room A 4) (k : Keep b s.heap) (pg : Pg w b) {v1 v2 : Value} {p p' : Poly} {c : Rat} (h1 : DictAt PR w b s.heap v1 p) (h2 : Is b (dR c) v2) (hp : mvscale? p c = some p') :
    Does PR w A s [] b (call (.ref 176) [v1, v2]) (ROwn p') := by
  obtain ⟨d, es, ep, rfl, pn⟩ := h1.pin (DD := []) noDD
  refine def0c r F176.2 k pg [As.is v2 (dR c)] (mems1 h2) [("a", .ref d), ("rational", v2)] rfl (fun s₁ L Q0 hC S => ?_)
  have r' := r.deeper (callEnvC F176.1 L 176)
  generalize hA : A.deeper (callEnvC F176.1 L 176) = A' at r' ⊢
  unfold mvscale? at hp
  walk_at "go"
  rename_i S
  refine tEqR S r'.u (by walk_at "mem") (by walk_at "mem") ?_
  walk_at "go"
  by_cases hc : c = 0
  · rw [if_pos hc] at hp
    cases hp
    rw [decide_eq_true hc, if_pos rfl]
    walk_at "go"
    exact dNew S fun d s S => by walk_at "out"; exact S.endO rfl List.mem_cons_self
  rw [if_neg hc] at hp
  split at hp
  case isFalse => cases hp
  rename_i hcond
  obtain ⟨hsc, hall, hz⟩ := hcond
  cases hp
  rw [decide_eq_false hc, if_neg (by decide)]
  walk_at "go"
  refine dictCompE rfl (by decide) rfl (by decide) (fun n c h => h) (fun _ => rfl) (fun K2 hK2 => ?_)
  walk_at "go"
  refine ihP (by assumption) pn fun I s hI S _ => ?_
  refine hK2 _ _ ?_
  refine CompGo.mk [idct I d 0 es.size ep] [] S fun D C b₄ s₄ hk₄ pg₄ S₄ k₄ R2 hR2 => ?_
  have pn' := pn.inner (X := [idct I d 0 es.size ep]) S hk₄.2 (fun y hy => by obtain rfl := List.mem_singleton.mp hy; exact fun e => hI e.symm)
  refine compStart_ rfl rfl rfl (fun Q E hq => ih_idct S₄ (List.mem_cons_of_mem _ List.mem_cons_self) hq) ?_
  have hnd : ((p.map fun e => (e.1, e.2 * c)).map (·.1)).Nodup := by
    rw [List.map_map]; exact pn.nodup
  refine (?_ : ∀ (r : Poly) (i : Nat) (q : Poly) (m : Str → Option Value) (s' : Shared) (P' : List As), p.drop i = r → i ≤ p.length → q ++ (r.map fun e => (e.1, e.2 * c)) = (p.map fun e => (e.1, e.2 * c)) → (∀ x ∈ ([As.is v2 (dR c)] : List As), x ∈ P') →
    St PR w _ _ b₄ _ false m _ P' [idct I d i es.size ep, Ow.dict D q] s' → codeAny (model PR w) A' _ _ s') p 0 [] _ s₄ _ rfl (Nat.zero_le _) rfl ?_ (S₄.perm (List.Perm.swap ..))
  rotate_left
  · intro x hx; simp only [List.mem_cons, List.not_mem_nil, or_false] at hx; rcases hx with rfl <;> walk_at "mem"
  clear S₄
  intro r
  induction r with
  | nil =>
    intro i q m s' P' hd hi hq hP S'
    have hq' : q = (p.map fun e => (e.1, e.2 * c)) := by simpa using hq
    subst hq'
    refine comp_stepD (nextName (nxPE S' r'.handled pn' (drop_nil hi hd) fun s' S' => ?_))
    walk_at "outR"
    refine EndD.mk _ S' fun s' S' => ?_
    walk_at "out"
    exact S'.endO rfl List.mem_cons_self
  | cons e r ih =>
    intro i q m s' P' hd hi hq hP S'
    obtain ⟨h3, h4, h5⟩ := drop_cons hd
    have hsm : Sm e.2 := by
      have hm := List.mem_of_getElem? h3
      have := List.all_eq_true.mp hall e hm
      simpa using this
    refine comp_stepD (nextName (nxP S' pn' h3 fun v s' S' => ?_))
    refine wpAny_assign_Name ?_
    walk_at "go"
    refine dSub (by assumption) r'.u pn'.rd (by walk_at "mem") (plook_at pn.nodup h3) (fun _ _ => rfl) fun v3 s' S' => ?_
    walk_at "go"
    have hPc : As.is v2 (dR c) ∈ P' := hP _ (by walk_at "mem")
    refine useIs (by assumption) (fun b k pg hP => does_rmul r' k pg (hP (.is v3 (dR e.2)) (by walk_at "mem")) (hP (.is v2 (dR c)) (by with_reducible (repeat (first | assumption | refine List.mem_cons_of_mem _ ?_)))) hsm hsc) fun v4 s' S' => ?_
    obtain ⟨g1, g2⟩ := pset_step (F := fun e => (e.1, e.2 * c)) hq hnd
    have hle : q.length ≤ p.length := by
      have := congrArg List.length hq
      simp at this
      lia
    refine dSet (q := e.1) (c := e.2 * c) (by assumption) (by have := r'.u; lia) (.tail .head) (by walk_at "mem") (by walk_at "mem") (by lia) fun s' S' => ?_
    rw [g1] at S'
    exact ih (i + 1) _ _ s' _ h4 h5 g2 (fun x hx => by have := hP x hx; with_reducible (repeat (first | assumption | refine List.mem_cons_of_mem _ ?_))) S'

set_option maxHeartbeats 4000000 in
theorem does_mvshift (r : Room A 4) (k : Keep b s.heap) (pg : Pg w b) {v1 v2 v5 : Value} {p p' : Poly} {mm : Mono} {c : Rat} (h1 : DictAt PR w b s.heap v1 p) (h5 : Is b (dM mm) v5) (h2 : Is b (dR c) v2) (hp : mvshift? p mm c = some p') :
    Does PR w A s [] b (call (.ref 181) [v1, v5, v2]) (ROwn p') := by
  obtain ⟨d, es, ep, rfl, pn⟩ := h1.pin (DD := []) noDD
  refine def0c r F181.2 k pg [As.is v5 (dM mm), As.is v2 (dR c)] (mems2 h5 h2) [("a", .ref d), ("powers", v5), ("rational", v2)] rfl (fun s₁ L Q0 hC S => ?_)
  have r' := r.deeper (callEnvC F181.1 L 181)
  generalize hA : A.deeper (callEnvC F181.1 L 181) = A' at r' ⊢
  unfold mvshift? at hp
  walk_at "go"
  rename_i S
  refine tEqR S r'.u (by walk_at "mem") (by walk_at "mem") ?_
  walk_at "go"
  by_cases hc : c = 0
  · rw [if_pos hc] at hp
    cases hp
    rw [decide_eq_true hc, if_pos rfl]
    walk_at "go"
    exact dNew S fun d s S => by walk_at "out"; exact S.endO rfl List.mem_cons_self
  rw [if_neg hc] at hp
  split at hp
  case isFalse => cases hp
  rename_i hcond
  obtain ⟨hsc, hall, hz⟩ := hcond
  cases hp
  rw [decide_eq_false hc, if_neg (by decide)]
  walk_at "go"
  refine dictCompE rfl (by decide) rfl (by decide) (fun n c h => h) (fun _ => rfl) (fun K3 hK3 => ?_)
  walk_at "go"
  refine ihP (by assumption) pn fun I s hI S _ => ?_
  refine hK3 _ _ ?_
  refine CompGo.mk [idct I d 0 es.size ep] [] S fun D C b₄ s₄ hk₄ pg₄ S₄ k₄ R3 hR3 => ?_
  have pn' := pn.inner (X := [idct I d 0 es.size ep]) S hk₄.2 (fun y hy => by obtain rfl := List.mem_singleton.mp hy; exact fun e => hI e.symm)
  refine compStart_ rfl rfl rfl (fun Q E hq => ih_idct S₄ (List.mem_cons_of_mem _ List.mem_cons_self) hq) ?_
  have hnd : ((p.map fun e => (mprod e.1 mm, e.2 * c)).map (·.1)).Nodup := by
    have : ((p.map fun e => (mprod e.1 mm, e.2 * c)).map (·.1)) = (p.map (·.1)).map (fun x => mprod x mm) := by rw [List.map_map, List.map_map]; rfl
    rw [this]
    exact List.pairwise_map.mpr (pn.nodup.imp fun h he => h (mprod_inj he))
  refine (?_ : ∀ (r : Poly) (i : Nat) (q : Poly) (m : Str → Option Value) (s' : Shared) (P' : List As), p.drop i = r → i ≤ p.length → q ++ (r.map fun e => (mprod e.1 mm, e.2 * c)) = (p.map fun e => (mprod e.1 mm, e.2 * c)) → (∀ x ∈ ([As.is v5 (dM mm), As.is v2 (dR c)] : List As), x ∈ P') →
    St PR w _ _ b₄ _ false m _ P' [idct I d i es.size ep, Ow.dict D q] s' → codeAny (model PR w) A' _ _ s') p 0 [] _ s₄ _ rfl (Nat.zero_le _) rfl ?_ (S₄.perm (List.Perm.swap ..))
  rotate_left
  · intro x hx; simp only [List.mem_cons, List.not_mem_nil, or_false] at hx; rcases hx with rfl | rfl <;> walk_at "mem"
  clear S₄
  intro r
  induction r with
  | nil =>
    intro i q m s' P' hd hi hq hP S'
    have hq' : q = (p.map fun e => (mprod e.1 mm, e.2 * c)) := by simpa using hq
    subst hq'
    refine comp_stepD (nextName (nxPE S' r'.handled pn' (drop_nil hi hd) fun s' S' => ?_))
    walk_at "outR"
    refine EndD.mk _ S' fun s' S' => ?_
    walk_at "out"
    exact S'.endO rfl List.mem_cons_self
  | cons e r ih =>
    intro i q m s' P' hd hi hq hP S'
    obtain ⟨h3, h4, h5⟩ := drop_cons hd
    have hsm : Sm e.2 := by
      have hm := List.mem_of_getElem? h3
      have := List.all_eq_true.mp hall e hm
      simpa using this
    refine comp_stepD (nextName (nxP S' pn' h3 fun v s' S' => ?_))
    refine wpAny_assign_Name ?_
    walk_at "go"
    have hPm : As.is v5 (dM mm) ∈ P' := hP _ (by walk_at "mem")
    refine useIs (d := dM (mprod e.1 mm)) (by assumption) (fun b k pg hP => does_product (r'.le (by decide)) k pg (hP (.is v (dM e.1)) (by walk_at "mem")) (hP (.is v5 (dM mm)) (by with_reducible (repeat (first | assumption | refine List.mem_cons_of_mem _ ?_))))) fun v6 s' S' => ?_
    walk_at "go"
    refine dSub (by assumption) r'.u pn'.rd (by walk_at "mem") (plook_at pn.nodup h3) (fun _ _ => rfl) fun v3 s' S' => ?_
    walk_at "go"
    have hPc : As.is v2 (dR c) ∈ P' := hP _ (by walk_at "mem")
    refine useIs (by assumption) (fun b k pg hP => does_rmul r' k pg (hP (.is v3 (dR e.2)) (by walk_at "mem")) (hP (.is v2 (dR c)) (by with_reducible (repeat (first | assumption | refine List.mem_cons_of_mem _ ?_)))) hsm hsc) fun v4 s' S' => ?_
    obtain ⟨g1, g2⟩ := pset_step (F := fun e => (mprod e.1 mm, e.2 * c)) hq hnd
    have hle : q.length ≤ p.length := by
      have := congrArg List.length hq
      simp at this
      lia
    refine dSet (q := mprod e.1 mm) (c := e.2 * c) (by assumption) (by have := r'.u; lia) (.tail .head) (by walk_at "mem") (by walk_at "mem") (by lia) fun s' S' => ?_
    rw [g1] at S'
    exact ih (i + 1) _ _ s' _ h4 h5 g2 (fun x hx => by have := hP x hx; with_reducible (repeat (first | assumption | refine List.mem_cons_of_mem _ ?_))) S'
end
end
section
set_option maxRecDepth 100000

open PySem PySem.W PyProof.Rows PySem.Calls

section
variable {w : World} {s : Shared} {b : Heap} {A : Around}

set_option maxHeartbeats 4000000 in
theorem does_mvsub (r : Room A 6) (k : Keep b s.heap) (pg : Pg w b) {v1 v2 : Value} {p q p' : Poly} (h1 : DictAt PR w b s.heap v1 p) (h2 : DictAt PR w b s.heap v2 q) (hp : mvsub? p q = some p') :
    Does PR w A s [] b (call (.ref 171) [v1, v2]) (ROwn p') := by
  refine def0 r F171.2 k pg [] (fun _ h => (nomatch h)) [("a", v1), ("b", v2)] rfl (fun s₁ L Q0 cm0 hC S => ?_)
  have r' := r.deeper (callEnvC F171.1 L 171)
  generalize hA : A.deeper (callEnvC F171.1 L 171) = A' at r' ⊢
  unfold mvsub? at hp
  split at hp
  case isFalse => cases hp
  rename_i hz
  walk_at "go"
  refine useOwnB (p := mvneg q) (by assumption) (fun b B => does_mvneg (r'.le (by decide)) B.bs B.pg ((Rd.base h2 noDD).at B) hz) fun d s S => ?_
  walk_at "go"
  refine useOwnB (p := p') (by assumption) (fun b B => does_mvadd r' B.bs B.pg ((Rd.base h1 noDD).at B) ((Rd.own List.mem_cons_self).at B) hp) fun d s S => ?_
  walk_at "out"
  exact S.endO rfl List.mem_cons_self

set_option maxHeartbeats 8000000 in
theorem does_mvmul (r : Room A 5) (k : Keep b s.heap) (pg : Pg w b) {v1 v2 : Value} {p q p' : Poly} (h1 : DictAt PR w b s.heap v1 p) (h2 : DictAt PR w b s.heap v2 q) (hp : mvmul? p q = some p') :
    Does PR w A s [] b (call (.ref 188) [v1, v2]) (ROwn p') := by
  obtain ⟨d, es, ep, rfl, pn⟩ := h1.pin (DD := []) noDD
  obtain ⟨d2, es2, ep2, rfl, pn2⟩ := h2.pin (DD := []) noDD
  refine def0 r F188.2 k pg [] (fun _ h => (nomatch h)) [("a", .ref d), ("b", .ref d2)] rfl (fun s₁ L Q0 cm0 hC S => ?_)
  have r' := r.deeper (callEnvC F188.1 L 188)
  generalize hA : A.deeper (callEnvC F188.1 L 188) = A' at r' ⊢
  unfold mvmul? at hp
  walk_at "go"
  refine dNew S fun D s S => ?_
  walk_at "go"
  refine forS (fun R hR => ?_) (fun _ => rfl)
  walk_at "go"
  refine ihP (by assumption) pn2 fun I s hI S _ => ?_
  refine (?_ : ∀ (r : Poly) (i : Nat) (f : Poly) (m : Str → Option Value) (s : Shared) (P : List As), i ≤ q.length → q.drop i = r → mulOut? p f r = some p' → m "found" = some (.ref D) → m "a" = some (.ref d) → m "b" = some (.ref d2) →
    St PR w _ _ _ (callEnvC F188.1 L 188) true m _ P [idct I d2 i es2.size ep2, Ow.dict D f] s → codeAny (model PR w) A' _ _ s) q 0 [] _ s _ (Nat.zero_le _) rfl hp rfl rfl rfl S
  clear S
  intro r
  induction r with
  | nil =>
    intro i f m s P hi hd hf hm1 hm2 hm3 S
    simp only [mulOut?, Option.some.injEq] at hf
    subst hf
    refine forG (nextName (nxPE S r'.handled pn2 (drop_nil hi hd) fun s S => ?_))
    walk_at "go"
    walk_at "out"
    exact S.endO rfl List.mem_cons_self
  | cons e r ih =>
    intro i f m s P hi hd hf hm1 hm2 hm3 S
    obtain ⟨h3, h4, h5⟩ := drop_cons hd
    unfold mulOut? at hf
    obtain ⟨f', hf1, hf2⟩ := Option.bind_eq_some_iff.mp hf
    refine forG (nextName (nxP S pn2 h3 fun v s S => ?_))
    refine wpAny_assign_Name ?_
    walk_at "go"
    refine forS (fun R hR => ?_) (fun _ => rfl)
    walk_at "go"
    refine ihP (by assumption) pn fun J s hJ S _ => ?_
    refine (?_ : ∀ (r2 : Poly) (j : Nat) (f : Poly) (m : Str → Option Value) (s : Shared) (P' : List As), j ≤ p.length → p.drop j = r2 → mulIn? e.1 e.2 f r2 = some f' → m "found" = some (.ref D) → m "a" = some (.ref d) → m "b" = some (.ref d2) → m "powers" = some v → As.is v (dM e.1) ∈ P' →
      St PR w _ _ _ (callEnvC F188.1 L 188) true m _ P' [idct J d j es.size ep, idct I d2 (i + 1) es2.size ep2, Ow.dict D f] s → codeAny (model PR w) A' _ _ s) p 0 f (upd m "powers" v) s _ (Nat.zero_le _) rfl hf1 hm1 hm2 hm3 rfl List.mem_cons_self S
    clear S
    intro r2
    induction r2 with
    | nil =>
      intro j f m s P' hi hd hf hm1 hm2 hm3 hm4 hP S
      simp only [mulIn?, Option.some.injEq] at hf
      subst hf
      refine forG (nextName (nxPE S r'.handled pn (drop_nil hi hd) fun s S => ?_))
      walk_at "go"
      exact ih (i + 1) f m s _ h5 h4 hf2 hm1 hm2 hm3 S
    | cons e2 r2 ih2 =>
      intro j f m s P' hi hd hf hm1 hm2 hm3 hm4 hP S
      obtain ⟨h6, h7, h8⟩ := drop_cons hd
      unfold mulIn? at hf
      split at hf
      case isFalse => cases hf
      rename_i hsm
      obtain ⟨f'', hf3, hf4⟩ := Option.bind_eq_some_iff.mp hf
      refine forG (nextName (nxP S pn h6 fun v2 s S => ?_))
      refine wpAny_assign_Name ?_
      walk_at "go"
      refine useIs (d := dM (mprod e2.1 e.1)) (by assumption) (fun b k pg hP' => does_product (r'.le (by decide)) k pg (hP' (.is v2 (dM e2.1)) (by walk_at "mem")) (hP' (.is v (dM e.1)) (by with_reducible (repeat (first | assumption | refine List.mem_cons_of_mem _ ?_))))) fun v6 s S => ?_
      walk_at "go"
      refine dSub (by assumption) r'.u pn.rd (by walk_at "mem") (plook_at pn.nodup h6) (fun _ _ => rfl) fun v7 s S => ?_
      walk_at "go"
      refine dSub (q := e.1) (by assumption) r'.u pn2.rd (by with_reducible (repeat (first | assumption | refine List.mem_cons_of_mem _ ?_))) (plook_at pn2.nodup h3) (fun _ _ => rfl) fun v8 s S => ?_
      walk_at "go"
      refine useIs (d := dR (e2.2 * e.2)) (by assumption) (fun b k pg hP' => does_rmul (r'.le (by decide)) k pg (hP' (.is v7 (dR e2.2)) (by walk_at "mem")) (hP' (.is v8 (dR e.2)) (by walk_at "mem")) hsm.1 hsm.2) fun v9 s S => ?_
      walk_at "go"
      refine useAdd S r' (.tail (.tail .head)) (by walk_at "mem") (by walk_at "mem") hf3 fun s S => ?_
      walk_at "go"
      show codeAny _ _ _ _ _
      exact ih2 (j + 1) f'' (upd m "one" v2) s _ h8 h7 hf4 hm1 hm2 hm3 hm4 (by with_reducible (repeat (first | assumption | refine List.mem_cons_of_mem _ ?_))) (S.perm ((List.perm_append_comm (l₁ := [_]) (l₂ := [_, _]))))
end
end
section
set_option maxRecDepth 100000

open PySem PySem.W PyProof.Rows PySem.Calls

theorem leadGo_n {o : Ord} {f : Option Mono} : leadGo o f [] = f := by cases f <;> rfl
theorem leadGo_0 {o : Ord} {e : Mono × Rat} {r : Poly} : leadGo o none (e :: r) = leadGo o (some e.1) r := rfl
theorem leadGo_s {o : Ord} {x : Mono} {e : Mono × Rat} {r : Poly} : leadGo o (some x) (e :: r) = leadGo o (if lexI .Gt (okey o e.1) (okey o x) = true then some e.1 else some x) r := rfl
theorem leadGo_mem (o : Ord) : ∀ (r : Poly) (b : Option Mono) (m : Mono), leadGo o b r = some m → b = some m ∨ m ∈ r.map (·.1)
  | [], b, m, h => by unfold leadGo at h; exact .inl h
  | e :: r, none, m, h => by
    unfold leadGo at h
    rcases leadGo_mem o r _ _ h with h | h
    · cases h; exact .inr List.mem_cons_self
    · exact .inr (List.mem_cons_of_mem _ h)
  | e :: r, some x, m, h => by
    unfold leadGo at h
    rcases leadGo_mem o r _ _ h with h | h
    · split at h
      · cases h; exact .inr List.mem_cons_self
      · exact .inl h
    · exact .inr (List.mem_cons_of_mem _ h)
theorem plook_mem : ∀ {p : Poly} {m : Mono}, m ∈ p.map (·.1) → ∃ c, plook p m = some c
  | [], _, h => nomatch h
  | e :: p, m, h => by
    unfold plook
    by_cases hm : e.1 = m
    · exact ⟨e.2, if_pos hm⟩
    · rw [if_neg hm]
      rw [List.map_cons] at h
      rcases List.mem_cons.mp h with h | h
      · exact absurd h.symm hm
      · exact plook_mem h

section
variable {w : World} {s : Shared} {b : Heap} {A : Around}

set_option maxHeartbeats 8000000 in
theorem does_mvlead (r : Room A 2) (k : Keep b s.heap) (pg : Pg w b) {v1 : Value} {p : Poly} {o : Ord} {t : Tok} (h1 : DictAt PR w b s.heap v1 p) :
    Does PR w A s [] b (call (.ref 202) [v1, .str o.nm t]) (RIs (dLead (mlead o p))) := by
  obtain ⟨d, es, ep, rfl, pn⟩ := h1.pin (DD := []) noDD
  refine def0 r F202.2 k pg [] (fun _ h => (nomatch h)) [("a", .ref d), ("order", .str o.nm t)] rfl (fun s₁ L Q0 cm0 hC S => ?_)
  have r' := r.deeper (callEnvC F202.1 L 202)
  generalize hA : A.deeper (callEnvC F202.1 L 202) = A' at r' ⊢
  walk_at "go"
  refine asgTV rfl rfl ?_
  walk_at "go"
  refine mkTv S (Nat.le_of_ble_eq_true rfl) fun v s S => ?_
  refine assign2 r'.handled S List.mem_cons_self fun s S => ?_
  walk_at "go"
  refine forS (fun R hR => ?_) (fun _ => rfl)
  walk_at "go"
  refine ihP (by assumption) pn fun I s hI S _ => ?_
  refine (?_ : ∀ (r : Poly) (i : Nat) (f : Option Mono) (m : Str → Option Value) (s : Shared) (P : List As) (vb vh : Value), i ≤ p.length → p.drop i = r → leadGo o f r = leadGo o none p → m "a" = some (.ref d) → m "order" = some (.str o.nm t) →
    m "best" = some vb → m "highest" = some vh → ((f = none ∧ vb = .none ∧ vh = .none) ∨ ∃ x, f = some x ∧ As.is vb (dM x) ∈ P ∧ As.is vh (dL (okey o x)) ∈ P) →
    St PR w _ _ _ (callEnvC F202.1 L 202) true m _ P [idct I d i es.size ep] s → codeAny (model PR w) A' _ _ s) p 0 none _ s _ _ _ (Nat.zero_le _) rfl rfl rfl rfl rfl rfl (.inl ⟨rfl, rfl, rfl⟩) S
  clear S
  intro r
  induction r with
  | nil =>
    intro i f m s P vb vh hi hd hf hm1 hm2 hm3 hm4 hb S
    refine forG (nextName (nxPE S r'.handled pn (drop_nil hi hd) fun s S => ?_))
    walk_at "go"
    rw [leadGo_n] at hf
    rcases hb with ⟨rfl, rfl, rfl⟩ | ⟨x, rfl, hbx, hhx⟩
    · rw [if_pos (show (Value.none == Value.none) = true from rfl)]
      walk_at "go"
      have e : mlead o p = none := by unfold mlead; rw [← hf]; rfl
      walk_at "out"
      rw [e]
      exact (S.more (v := .none) (d := .none) (fun b _ => by unfold Is; rfl)).end1 ⟨rfl, rfl⟩ (.head _)
    · have hne : (vb == Value.none) = false := by
        obtain ⟨a, rfl⟩ := refOf (show Is s.heap (dM x) vb from S.has hbx)
        rfl
      rw [hne, if_neg (by decide)]
      walk_at "go"
      have hmem := (leadGo_mem o p none x hf.symm).resolve_left (fun h => nomatch h)
      obtain ⟨c, hc⟩ := plook_mem hmem
      refine dSub (by assumption) r'.u pn.rd hbx hc (fun _ _ => rfl) fun v3 s S => ?_
      walk_at "go"
      refine mkTup S (ds := [dM x, dR c]) (.cons (.mem (List.mem_cons_of_mem _ hbx)) (.cons (.mem (by walk_at "mem")) .nil)) (Nat.le_of_ble_eq_true rfl) fun v s S => ?_
      have e : mlead o p = some (x, c) := by unfold mlead; rw [← hf, Option.bind_some, hc]; rfl
      walk_at "out"
      rw [e]
      exact S.end1 ⟨rfl, rfl⟩ (.head _)
  | cons e r ih =>
    intro i f m s P vb vh hi hd hf hm1 hm2 hm3 hm4 hb S
    obtain ⟨h3, h4, h5⟩ := drop_cons hd
    refine forG (nextName (nxP S pn h3 fun v s S => ?_))
    refine wpAny_assign_Name ?_
    walk_at "go"
    refine useIs (d := dL (okey o e.1)) (by assumption) (fun b k pg hP' => does_okey r' k pg (hP' (.is v (dM e.1)) (by walk_at "mem"))) fun v2 s S => ?_
    walk_at "go"
    rcases hb with ⟨rfl, rfl, rfl⟩ | ⟨x, rfl, hbx, hhx⟩
    · rw [if_pos (show (Value.none == Value.none) = true from rfl)]
      walk_at "go"
      refine asgTT r'.handled rfl rfl ?_
      walk_at "go"
      refine TT.mk (by assumption) fun s S => ?_
      walk_at "go"
      rename_i S
      show codeAny _ _ _ _ _
      rw [leadGo_0] at hf
      exact ih (i + 1) (some e.1) (upd (upd (upd (upd m "powers" v) "place" v2) "highest" v2) "best" v) _ _ v v2 h5 h4 hf hm1 hm2 rfl rfl (.inr ⟨e.1, rfl, by walk_at "mem", by walk_at "mem"⟩) S
    · have hne : (vb == Value.none) = false := by
        obtain ⟨a, rfl⟩ := refOf (show Is s.heap (dM x) vb from S.has (p := As.is vb (dM x)) (by walk_at "mem2"))
        rfl
      rw [hne, if_neg (by decide)]
      walk_at "go"
      rename_i S
      refine tGt (l := okey o e.1) (r := okey o x) S r'.u (by walk_at "mem") (by walk_at "mem2") (by cases o <;> rfl) ?_
      walk_at "go"
      rw [leadGo_s] at hf
      by_cases hg : lexI .Gt (okey o e.1) (okey o x) = true
      · rw [if_pos hg] at hf
        rw [hg, if_pos rfl]
        walk_at "go"
        refine asgTT r'.handled rfl rfl ?_
        walk_at "go"
        refine TT.mk (by assumption) fun s S => ?_
        walk_at "go"
        rename_i S
        show codeAny _ _ _ _ _
        exact ih (i + 1) (some e.1) (upd (upd (upd (upd m "powers" v) "place" v2) "highest" v2) "best" v) _ _ v v2 h5 h4 hf hm1 hm2 rfl rfl (.inr ⟨e.1, rfl, by walk_at "mem", by walk_at "mem"⟩) S
      · rw [if_neg hg] at hf
        rw [if_neg hg]
        walk_at "go"
        show codeAny _ _ _ _ _
        exact ih (i + 1) (some x) (upd (upd m "powers" v) "place" v2) _ _ vb vh h5 h4 hf hm1 hm2 hm3 hm4 (.inr ⟨x, rfl, List.mem_cons_of_mem _ (List.mem_cons_of_mem _ hbx), List.mem_cons_of_mem _ (List.mem_cons_of_mem _ hhx)⟩) S
end
end
section
set_option maxRecDepth 100000

open PySem PySem.W PyProof.Rows PySem.Calls

section
variable {w : World} {s : Shared} {b : Heap} {A : Around}

theorem refNe {h : Heap} {ds : List D} {v : Value} (x : Is h (.tup ds) v) : (v == Value.none) = false := by
  obtain ⟨a, _, rfl, _⟩ := Is.tupOf x
  rfl

set_option maxHeartbeats 8000000 in
theorem does_mvmonic (r : Room A 5) (k : Keep b s.heap) (pg : Pg w b) {v1 : Value} {p p' : Poly} {o : Ord} {t : Tok} (h1 : DictAt PR w b s.heap v1 p) (hp : mvmonic? o p = some p') :
    Does PR w A s [] b (call (.ref 209) [v1, .str o.nm t]) (ROwn p') := by
  refine def0 r F209.2 k pg [] (fun _ h => (nomatch h)) [("a", v1), ("order", .str o.nm t)] rfl (fun s₁ L Q0 cm0 hC S => ?_)
  have r' := r.deeper (callEnvC F209.1 L 209)
  generalize hA : A.deeper (callEnvC F209.1 L 209) = A' at r' ⊢
  unfold mvmonic? at hp
  walk_at "go"
  refine useIsB (d := dLead (mlead o p)) (by assumption) (fun b B => does_mvlead (r'.le (by decide)) B.bs B.pg ((Rd.base h1 noDD).at B)) fun v s S => ?_
  walk_at "go"
  rename_i S
  cases hl : mlead o p with
  | none =>
    rw [hl] at hp S
    have hv : v = .none := S.noneOf (show As.is v (dLead none) ∈ _ by walk_at "mem")
    subst hv
    cases hp
    rw [if_pos (show (Value.none == Value.none) = true from rfl)]
    exact dNew S fun d s S => by walk_at "out"; exact S.endO rfl List.mem_cons_self
  | some t =>
    rw [hl] at hp S
    have hv : (v == Value.none) = false := refNe (ds := [dM t.1, dR t.2]) (S.has (p := As.is v (dLead (some t))) (by walk_at "mem"))
    rw [hv, if_neg (by decide)]
    walk_at "go"
    refine subD (ds := [dM t.1, dR t.2]) (by assumption) (show As.is v (dLead (some t)) ∈ _ by walk_at "mem") (by decide) (by decide) (d := dR t.2) rfl (fun _ => rfl) fun v2 S => ?_
    have hp' : (if t.2 = 0 then none else mvscale? p t.2⁻¹) = some p' := hp
    split at hp'
    · cases hp'
    rename_i h0
    walk_at "go"
    refine useIs (d := dR t.2⁻¹) S (fun b k pg hP => does_rinv (r'.le (by decide)) k pg (hP (.is v2 (dR t.2)) (by walk_at "mem")) h0) fun v3 s S => ?_
    walk_at "go"
    refine useOwnB (p := p') S (fun b B => does_mvscale r' B.bs B.pg ((Rd.base h1 noDD).at B) (B.facts (.is v3 (dR t.2⁻¹)) (by walk_at "mem")) hp') fun d s S => ?_
    walk_at "out"
    exact S.endO rfl List.mem_cons_self

set_option maxHeartbeats 8000000 in
theorem does_mvat (r : Room A 4) (k : Keep b s.heap) (pg : Pg w b) {v1 v2 : Value} {p : Poly} {x y c : Rat} {vs : List Value} (h1 : DictAt PR w b s.heap v1 p) (h2 : ListAt s.heap v2 vs) (h3 : IsL b [dR x, dR y] vs) (hp : mvat? x y p = some c) :
    Does PR w A s [] b (call (.ref 195) [v1, v2]) (RIs (dR c)) := by
  obtain ⟨d, es, ep, rfl, pn⟩ := h1.pin (DD := []) noDD
  refine def0 r F195.2 k pg [As.iss vs [dR x, dR y]] (mems1 h3) [("a", .ref d), ("values", v2)] rfl (fun s₁ L Q0 cm0 hC S => ?_)
  have r' := r.deeper (callEnvC F195.1 L 195)
  generalize hA : A.deeper (callEnvC F195.1 L 195) = A' at r' ⊢
  unfold mvat? at hp
  obtain ⟨vx, hvx, S⟩ := S.issAt (j := 0) (d := dR x) List.mem_cons_self rfl
  obtain ⟨vy, hvy, S⟩ := S.issAt (j := 1) (d := dR y) (List.mem_cons_of_mem _ List.mem_cons_self) rfl
  have hld : ∀ {P O}, Ld s [] P O v2 vs := .base h2 noDD
  walk_at "go"
  rename_i S
  refine forS (fun R hR => ?_) (fun _ => rfl)
  walk_at "go"
  refine ihP (by assumption) pn fun I s hI S _ => ?_
  refine (?_ : ∀ (r : Poly) (i : Nat) (f : Rat) (m : Str → Option Value) (s : Shared) (P : List As) (vf : Value), i ≤ p.length → p.drop i = r → sumAt? x y f r = some c → m "a" = some (.ref d) → m "values" = some v2 →
    m "found" = some vf → As.is vf (dR f) ∈ P → As.is vx (dR x) ∈ P → As.is vy (dR y) ∈ P →
    St PR w _ _ _ (callEnvC F195.1 L 195) true m _ P [idct I d i es.size ep] s → codeAny (model PR w) A' _ _ s) p 0 0 _ s _ _ (Nat.zero_le _) rfl hp rfl rfl rfl (by walk_at "mem") (by walk_at "mem") (by walk_at "mem") S
  clear S
  intro r
  induction r with
  | nil =>
    intro i f m s P vf hi hd hf hm1 hm2 hm3 hP1 hP2 hP3 S
    simp only [sumAt?, Option.some.injEq] at hf
    subst hf
    refine forG (nextName (nxPE S r'.handled pn (drop_nil hi hd) fun s S => ?_))
    walk_at "go"
    walk_at "out"
    exact S.end1 ⟨rfl, rfl⟩ hP1
  | cons e r ih =>
    intro i f m s P vf hi hd hf hm1 hm2 hm3 hP1 hP2 hP3 S
    obtain ⟨h3, h4, h5⟩ := drop_cons hd
    unfold sumAt? at hf
    obtain ⟨tt, hf1, hf2⟩ := Option.bind_eq_some_iff.mp hf
    split at hf2
    case isFalse => cases hf2
    rename_i hsm
    unfold termAt? at hf1
    split at hf1
    case isFalse => cases hf1
    rename_i hc
    simp only [Option.some.injEq] at hf1
    obtain ⟨c1, c2, c3, c4, c5, c6, c7, c8⟩ := hc
    refine forG (nextName (nxP S pn h3 fun v s S => ?_))
    refine wpAny_assign_Name ?_
    walk_at "go"
    refine dSub (by assumption) r'.u pn.rd (by walk_at "mem") (plook_at pn.nodup h3) (fun _ _ => rfl) fun v3 s S => ?_
    walk_at "go"
    rename_i S
    obtain ⟨la, ta, ua, rfl, S⟩ := S.mono (v := v) (q := e.1) (by walk_at "mem")
    refine forS (fun R hR => ?_) (fun _ => rfl)
    walk_at "go"
    refine mk_enuT S (S.tup (by walk_at "mem")) fun en it s₂ S₂ k₂ => ?_
    refine ih_enu S₂ List.mem_cons_self ?_
    refine forG (nx_enuT (x := .int e.1.1 ta) S₂ (S₂.tup (by walk_at "mem")) rfl (j := 0) rfl fun t v s S => ?_)
    refine assign2 r'.handled S (by walk_at "mem") fun s S => ?_
    walk_at "go"
    refine lSub (x := vx) (by assumption) hld (by decide) (by decide) hvx (fun _ => rfl) ?_
    walk_at "go"
    refine useIs (d := dR (x ^ e.1.1.toNat)) (by assumption) (fun b k pg hP => does_rpower (r'.le (by decide)) k pg (hP (.is vx (dR x)) (by walk_at "mem2")) c1 c2) fun v4 s S => ?_
    walk_at "go"
    refine useIs (d := dR (e.2 * x ^ e.1.1.toNat)) (by assumption) (fun b k pg hP => does_rmul (r'.le (by decide)) k pg (hP (.is v3 (dR e.2)) (by walk_at "mem")) (hP (.is v4 (dR (x ^ e.1.1.toNat))) (by walk_at "mem")) c3 c4) fun v5 s S => ?_
    walk_at "go"
    rename_i S
    refine forG (nx_enuT (x := .int e.1.2 ua) S (S.tup (by walk_at "mem")) rfl (j := 1) rfl fun t v s S => ?_)
    refine assign2 r'.handled S (by walk_at "mem") fun s S => ?_
    walk_at "go"
    refine lSub (x := vy) (by assumption) hld (by decide) (by decide) hvy (fun _ => rfl) ?_
    walk_at "go"
    refine useIs (d := dR (y ^ e.1.2.toNat)) (by assumption) (fun b k pg hP => does_rpower (r'.le (by decide)) k pg (hP (.is vy (dR y)) (by walk_at "mem2")) c5 c6) fun v6 s S => ?_
    walk_at "go"
    refine useIs (d := dR tt) (by assumption) (fun b k pg hP => hf1 ▸ does_rmul (r'.le (by decide)) k pg (hP (.is v5 (dR (e.2 * x ^ e.1.1.toNat))) (by walk_at "mem")) (hP (.is v6 (dR (y ^ e.1.2.toNat))) (by walk_at "mem")) c7 c8) fun v7 s S => ?_
    walk_at "go"
    rename_i S
    refine forG (nx_enuTE S r'.handled (S.tup (by walk_at "mem")) rfl fun s S => ?_)
    walk_at "go"
    refine useIs (d := dR (f + tt)) (by assumption) (fun b k pg hP => does_radd (r'.le (by decide)) k pg (hP (.is vf (dR f)) (by walk_at "mem2")) (hP (.is v7 (dR tt)) (by walk_at "mem")) hsm.1 hsm.2) fun v8 s S => ?_
    walk_at "go"
    rename_i s S
    show codeAny _ _ _ _ _
    exact ih (i + 1) (f + tt) _ s _ v8 h5 h4 hf2 (by exact hm1) (by exact hm2) rfl (by walk_at "mem") (by walk_at "mem2") (by walk_at "mem2") S
end
end
section
set_option maxRecDepth 100000

open PySem PySem.W PyProof.Rows PySem.Calls

theorem mlead_look {o : Ord} {p : Poly} {t : Mono × Rat} (h : mlead o p = some t) : plook p t.1 = some t.2 := by
  unfold mlead at h
  obtain ⟨m, _, h2⟩ := Option.bind_eq_some_iff.mp h
  obtain ⟨c, h3, rfl⟩ := Option.map_eq_some_iff.mp h2
  exact h3
section
variable {w : World} {s : Shared} {b : Heap} {A : Around}

theorem map_at {α β : Type} {f : α → β} {l : List α} {i : Nat} {x : α} (h : l[i]? = some x) : (l.map f)[i]? = some (f x) := by simp [h]
theorem arr_at {l : List Value} {i : Nat} {x : Value} (h : l[i]? = some x) : l.toArray[i]? = some x := by simpa using h
theorem arr_end {l : List Value} {i : Nat} (h : i = l.length) : l.toArray[i]? = none := by subst h; simp

set_option maxHeartbeats 8000000 in
theorem does_firstdiv (r : Room A 2) (k : Keep b s.heap) (pg : Pg w b) {v1 v2 : Value} {q : Mono} {ls : List (Option (Mono × Rat))} {ws : List Value} (h1 : Is b (dM q) v1) (h2 : ListAt s.heap v2 ws) (h3 : IsL b (ls.map dLead) ws) :
    Does PR w A s [] b (call (.ref 216) [v1, v2]) (RInt (firstDiv q ls 0)) := by
  refine def0 r F216.2 k pg [As.is v1 (dM q), As.iss ws (ls.map dLead)] (mems2 h1 h3) [("powers", v1), ("leads", v2)] rfl (fun s₁ L Q0 cm0 hC S => ?_)
  have r' := r.deeper (callEnvC F216.1 L 216)
  generalize hA : A.deeper (callEnvC F216.1 L 216) = A' at r' ⊢
  have hlen : ws.length = ls.length := by simpa using h3.length
  have hld : ∀ {P O}, Ld s [] P O v2 ws := .base h2 noDD
  obtain ⟨l, rfl⟩ := hld.ref S
  walk_at "go"
  refine forS (fun R hR => ?_) (fun _ => rfl)
  walk_at "go"
  refine mk_enuL S (hld.isL S) fun e it s₂ S₂ k₂ => ?_
  refine ih_enu S₂ List.mem_cons_self ?_
  refine (?_ : ∀ (r : List (Option (Mono × Rat))) (i : Nat) (m : Str → Option Value) (s' : Shared) (P : List As), i ≤ ls.length → ls.drop i = r → firstDiv q r i = firstDiv q ls 0 → m "powers" = some v1 → As.is v1 (dM q) ∈ P → As.iss ws (ls.map dLead) ∈ P →
    St PR w _ _ _ (callEnvC F216.1 L 216) true m _ P [ienu e it i, ilst it l i] s' → codeAny (model PR w) A' _ _ s') ls 0 _ s₂ _ (Nat.zero_le _) rfl rfl rfl (by walk_at "mem") (by walk_at "mem") S₂
  clear S₂
  intro r
  induction r with
  | nil =>
    intro i m s' P hi hd hf hm1 hP1 hP2 S
    refine forG (nx_enuLE S r'.handled (hld.isL S) (arr_end (by rw [hlen]; exact drop_nil hi hd)) fun s S => ?_)
    walk_at "go"
    have hf : -1 = firstDiv q ls 0 := hf
    walk_at "out"
    exact St.end0 (by assumption) ⟨⟨_, by rw [← hf]; rfl⟩, rfl, rfl⟩
  | cons e r ih =>
    intro i m s' P hi hd hf hm1 hP1 hP2 S
    obtain ⟨h3, h4, h5⟩ := drop_cons hd
    obtain ⟨v, hv, S⟩ := S.issAt (j := i) (d := dLead e) hP2 (map_at h3)
    refine forG (nx_enuL S (hld.isL S) (arr_at hv) rfl fun t v' s S => ?_)
    refine assign2 r'.handled S (by walk_at "mem") fun s S => ?_
    walk_at "go"
    rename_i s S
    cases e with
    | none =>
      have hn : v = .none := S.noneOf (show As.is v (dLead none) ∈ _ by walk_at "mem")
      subst hn
      rw [if_neg (show ¬ (!(Value.none == Value.none)) = true from by decide)]
      rw [if_neg (by decide)]
      walk_at "go"
      show codeAny _ _ _ _ _
      exact ih (i + 1) _ s _ h5 h4 hf (by exact hm1) (by walk_at "mem2") (by walk_at "mem2") S
    | some tt =>
      have hn : (v == Value.none) = false := refNe (ds := [dM tt.1, dR tt.2]) (S.has (p := As.is v (dLead (some tt))) (by walk_at "mem"))
      rw [hn, if_pos (by decide)]
      walk_at "go"
      refine subD (ds := [dM tt.1, dR tt.2]) (by assumption) (show As.is v (dLead (some tt)) ∈ _ by walk_at "mem") (by decide) (by decide) (d := dM tt.1) rfl (fun _ => rfl) fun v2 S => ?_
      walk_at "go"
      refine useBool (x := mdiv tt.1 q) (by assumption) (fun b k pg hP => does_divide (r'.le (by decide)) k pg (hP (.is v2 (dM tt.1)) (by walk_at "mem")) (hP (.is v1 (dM q)) (by walk_at "mem2"))) fun s S => ?_
      walk_at "go"
      have hf : (if mdiv tt.1 q = true then (i : Int) else firstDiv q r (i + 1)) = firstDiv q ls 0 := hf
      by_cases hdv : mdiv tt.1 q = true
      · rw [if_pos hdv] at hf
        rw [hdv, if_pos rfl]
        walk_at "go"
        walk_at "out"
        exact St.end0 (by assumption) ⟨⟨_, by rw [← hf]; rfl⟩, rfl, rfl⟩
      · rw [if_neg hdv] at hf
        rw [if_neg hdv]
        rw [if_neg (by decide)]
        walk_at "go"
        show codeAny _ _ _ _ _
        exact ih (i + 1) _ s _ h5 h4 hf (by exact hm1) (by walk_at "mem2") (by walk_at "mem2") S

set_option maxHeartbeats 16000000 in
theorem does_mvdivide (r : Room A 7) (k : Keep b s.heap) (pg : Pg w b) {v1 v2 : Value} {f rs : Poly} {gs : List Poly} {vs : List Value} {o : Ord} {t : Tok} (h1 : DictAt PR w b s.heap v1 f) (h2 : ListAt s.heap v2 vs) (h3 : Polys PR w b vs gs) (hp : rest? o f gs = some rs) :
    Does PR w A s [] b (call (.ref 221) [v1, v2, .str o.nm t]) (fun v F N => ∃ vq R, F = [As.tv v [vq, .ref R]] ∧ N = [Ow.dict R rs]) := by
  refine def0c r F221.2 k pg [As.polys vs gs] (mems1 h3) [("f", v1), ("some", v2), ("order", .str o.nm t)] rfl (fun s₁ L Q0 hC S => ?_)
  have r' := r.deeper (callEnvC F221.1 L 221)
  generalize hA : A.deeper (callEnvC F221.1 L 221) = A' at r' ⊢
  have hlen : vs.length = gs.length := h3.length
  have hld : ∀ {P O}, Ld s [] P O v2 vs := .base h2 noDD
  obtain ⟨l, rfl⟩ := hld.ref S
  unfold rest? at hp
  split at hp
  case isFalse => cases hp
  rename_i hc
  obtain ⟨hbx, hz, hgz⟩ := hc
  walk_at "go"
  -- leads
  refine listCompAG rfl rfl (by decide) rfl (by decide) (fun n c h => h) (fun _ => rfl) rfl (fun K1 hK1 => ?_)
  walk_at "go"
  refine ih_list S (hld.isL S) fun I s hI S _ => ?_
  refine hK1 _ _ ?_
  refine CompGo.mk [ilst I l 0] [] S fun D C b₄ s₄ hk₄ pg₄ S₄ k₄ R1 hR1 => ?_
  have hld' : ∀ {P O}, Ld s [I] P O (.ref l) vs := .base (hld.now S) (fun l' e => by cases e; simpa using hI)
  refine compStart_ rfl rfl rfl (fun Q E hq => ih_ilst S₄ (List.mem_cons_of_mem _ List.mem_cons_self) hq) ?_
  refine (?_ : ∀ (r : List Poly) (i : Nat) (ws : List Value) (m : Str → Option Value) (s' : Shared) (P : List As), i ≤ gs.length → gs.drop i = r → As.iss ws ((gs.take i).map fun p => dLead (mlead o p)) ∈ P → As.polys vs gs ∈ P →
    St PR w _ _ b₄ _ false m _ P [ilst I l i, Ow.list D ws] s' → codeAny (model PR w) A' _ _ s') gs 0 [] _ s₄ _ (Nat.zero_le _) rfl List.mem_cons_self (List.mem_cons_of_mem _ (by walk_at "mem")) ((S₄.iss0).perm (List.Perm.swap ..))
  rotate_left
  · clear S₄
    intro r
    induction r with
    | nil =>
      intro i ws m s' P hi hd hP1 hP2 S'
      refine comp_stepL (nextName (nx_listE S' r'.handled (hld'.isL S') (arr_end (by rw [hlen]; exact drop_nil hi hd)) fun s' S' => ?_))
      have hil := drop_nil hi hd
      rw [hil, List.take_length] at hP1
      walk_at "outR"
      refine EndA.mk ws [As.iss ws (gs.map fun p => dLead (mlead o p))] [] S' (fun b hb => mems1 (hb _ hP1)) fun C' m' s' S' => ?_
      refine stAG (y := "leads") S' rfl rfl fun s' S' => ?_
      have S' := S'.frzL noD
      simp only [List.nil_append, List.cons_append, List.append_nil] at S'
      walk_at "go"
      -- quotients
      refine listCompAG rfl rfl (by decide) rfl (by decide) (fun n c h => nomatch h) (fun _ => rfl) rfl (fun K2 hK2 => ?_)
      walk_at "go"
      refine ih_list S' (hld.isL S') fun I2 s2 hI2 S2 _ => ?_
      refine hK2 _ _ ?_
      refine CompGo.mk [ilst I2 l 0] [] S2 fun D2 C2 b₅ s₅ hk₅ pg₅ S₅ k₅ R2 hR2 => ?_
      have hld2 : ∀ {P O}, Ld s2 [I2] P O (.ref l) vs := .base (hld.now S2) (fun l' e => by cases e; simpa using hI2)
      refine compStart_ rfl rfl rfl (fun Q E hq => ih_ilst S₅ (List.mem_cons_of_mem _ List.mem_cons_self) hq) ?_
      refine (?_ : ∀ (r : List Poly) (i : Nat) (as : List Addr) (m : Str → Option Value) (s' : Shared) (P : List As), i ≤ gs.length → gs.drop i = r → as.length = i →
        St PR w _ _ b₅ _ false m _ P ([ilst I2 l i, Ow.list D2 (as.map .ref)] ++ QS as (as.map fun _ => [])) s' → codeAny (model PR w) A' _ _ s') gs 0 [] _ s₅ _ (Nat.zero_le _) rfl rfl (S₅.perm (List.Perm.swap ..))
      clear S₅
      intro r
      induction r with
      | cons e r ih =>
        intro i as m s' P hi hd hal S'
        obtain ⟨h3, h4, h5⟩ := drop_cons hd
        have hv : ∃ v, vs[i]? = some v := ⟨_, List.getElem?_eq_getElem (by rw [hlen]; lia)⟩
        obtain ⟨v, hv⟩ := hv
        refine comp_stepL (nextName (nx_list S' (hld2.isL S') (arr_at hv) fun s' S' => ?_))
        refine wpAny_assign_Name ?_
        walk_at "go"
        refine dNew (by assumption) fun d s' S' => ?_
        refine appO S' (.tail (.tail .head)) (by simp; lia) fun s' S' => ?_
        refine ih (i + 1) (as ++ [d]) _ s' _ h5 h4 (by simp [hal]) (S'.perm ?_)
        rw [List.map_append, List.map_append, List.map_cons, List.map_nil, List.map_cons, List.map_nil, QS_app (by simp)]
        exact (List.perm_append_comm (l₁ := [_]) (l₂ := [_, _] ++ QS as (as.map fun _ => []))).trans (by rw [List.append_assoc])
      | nil =>
        intro i as m s' P hi hd hal S'
        refine comp_stepL (nextName (nx_listE S' r'.handled (hld2.isL S') (arr_end (by rw [hlen]; exact drop_nil hi hd)) fun s' S' => ?_))
        walk_at "outR"
        refine EndA.mk (as.map .ref) [] (QS as (as.map fun _ => [])) S' (fun b hb p hp => (nomatch hp)) fun C' m' s' S' => ?_
        refine stAG (y := "quotients") S' rfl rfl fun s' S' => ?_
        have S' := S'.frzL noD
        simp only [List.nil_append, List.cons_append, List.append_nil] at S'
        walk_at "go"
        refine asgTT r'.handled rfl rfl ?_
        walk_at "go"
        refine dNew (by assumption) fun R s' S' => ?_
        walk_at "go"
        refine dCopy (by assumption) (.base h1 noDD) hbx hz fun LL s' S' => ?_
        walk_at "go"
        refine TT.mk (by assumption) fun s' S' => ?_
        walk_at "go"
        rename_i s' S'
        refine (?_ : ∀ (n : Nat) (qs : List Poly) (rest left : Poly) (LL : Addr) (m : Str → Option Value) (s' : Shared) (P : List As), as.length = qs.length → divGo? o gs (gs.map (mlead o)) n qs rest left = some rs →
          m "rest" = some (.ref R) → m "left" = some (.ref LL) → m "some" = some (.ref l) → m "leads" = some (.ref D) → m "quotients" = some (.ref D2) →
          As.polys vs gs ∈ P → As.iss ws (gs.map fun p => dLead (mlead o p)) ∈ P → As.lst (.ref D) ws ∈ P → As.lst (.ref D2) (as.map .ref) ∈ P →
          St PR w _ _ _ (callEnvC F221.1 L 221) true m _ P (Ow.dict LL left :: Ow.dict R rest :: QS as qs) s' → codeAny (model PR w) A' _ _ s') FUEL (as.map fun _ => []) [] f LL _ s' _ (by simp) ?_ rfl rfl rfl rfl rfl (by walk_at "mem2") (by walk_at "mem2") (by walk_at "mem2") (by walk_at "mem2") (S'.weaken (fun _ h => h) ?_)
        rotate_left
        · have e1 : (as.map fun _ => ([] : Poly)) = gs.map fun _ => [] := by rw [List.map_const', List.map_const', hal, drop_nil hi hd]
          rw [e1]; exact hp
        · exact List.Sublist.refl _
        clear S'
        intro n
        induction n with
        | zero => intro qs rest left LL m s' P ha hf; exact nomatch hf
        | succ n ih =>
        intro qs rest left LL m s' P ha hf hm1 hm2 hm3 hm4 hm5 hP1 hP2 hP3 hP4 S'
        unfold divGo? at hf
        split at hf
        · cases hf
        rename_i hsz
        have hsz := Classical.not_not.mp hsz
        refine while_step ?_
        walk_at "go"
        refine dLen S' (.own List.mem_cons_self) hsz.1 fun tl s' S' => ?_
        walk_at "go"
        by_cases h0 : left.length = 0
        · rw [if_pos h0] at hf
          rw [if_neg (by simp [h0])]
          walk_at "go"
          refine mkTv (by assumption) (by simp) fun v s' S' => ?_
          simp only [Option.some.injEq] at hf
          subst hf
          walk_at "out"
          exact S'.comes (F := [As.tv v [.ref D2, .ref R]]) (N := [Ow.dict R rest]) ⟨_, _, rfl, rfl⟩ (fun b hb => mems1 (hb _ List.mem_cons_self)) (.cons _ (.cons₂ _ (List.nil_sublist _)))
        rw [if_neg h0] at hf
        rw [if_pos (by simp; lia)]
        walk_at "go"
        cases hl : mlead o left with
        | none => rw [hl] at hf; cases hf
        | some tm =>
        rw [hl] at hf
        simp only at hf
        refine asgTV rfl rfl ?_
        walk_at "go"
        refine useIsB (d := dT tm) (by assumption) (fun b B => by have := does_mvlead (o := o) (t := t) (r'.le (by decide)) B.bs B.pg ((Rd.own List.mem_cons_self).at B); rw [hl] at this; exact this) fun v s' S' => ?_
        obtain ⟨vp, vr, S'⟩ := S'.pair (v := v) (d1 := dM tm.1) (d2 := dR tm.2) List.mem_cons_self
        refine assign2 r'.handled S' (by walk_at "mem") fun s' S' => ?_
        walk_at "go"
        refine useIntB (i := firstDiv tm.1 (gs.map (mlead o)) 0) (by assumption) (fun b B => does_firstdiv (r'.le (by decide)) B.bs B.pg (B.facts (.is vp (dM tm.1)) (by walk_at "mem")) ((Ld.fact (v := .ref D) (vs := ws) (by walk_at "mem2")).at B) (by have := B.facts (.iss ws (gs.map fun p => dLead (mlead o p))) (by walk_at "mem2"); rw [List.map_map]; exact this)) fun t2 s' S' => ?_
        walk_at "go"
        by_cases hneg : firstDiv tm.1 (gs.map (mlead o)) 0 < 0
        · rw [if_pos hneg] at hf
          rw [if_pos (by simpa using hneg)]
          walk_at "go"
          refine wpAny_Assign_Subscript ?_
          walk_at "go"
          refine dSetItem (q := tm.1) (c := tm.2) (by assumption) r'.u (.tail .head) (by walk_at "mem") (by walk_at "mem") hsz.2 fun s' S' => ?_
          walk_at "go"
          refine mMeth (pl := _) F.plainAttrs_dict F.slot_dict_pop F.type_dict_pop (by rfl) rfl rfl ?_
          walk_at "go"
          refine mtDict (by assumption) List.mem_cons_self ?_
          walk_at "go"
          refine dPop (q := tm.1) (by assumption) r'.u .head (by walk_at "mem") hsz.1 (.inl ⟨rfl, by rw [mlead_look hl]; rfl⟩) fun v9 s' S' => ?_
          walk_at "go"
          show codeAny _ _ _ _ _
          exact ih qs (pset rest tm.1 tm.2) (pdel left tm.1) LL _ s' _ ha hf (by exact hm1) (by exact hm2) (by exact hm3) (by exact hm4) (by exact hm5) (by walk_at "mem2") (by walk_at "mem2") (by walk_at "mem2") (by walk_at "mem2") S'
        · rw [if_neg hneg] at hf
          rw [if_neg (by simpa using hneg)]
          walk_at "go"
          rename_i s' S'
          split at hf
          case h_2 => cases hf
          rename_i lt g q e1 e2 e3
          split at hf
          case isFalse => cases hf
          rename_i hsm
          obtain ⟨q', hq', hf⟩ := Option.bind_eq_some_iff.mp hf
          obtain ⟨sh, hsh, hf⟩ := Option.bind_eq_some_iff.mp hf
          obtain ⟨left', hleft, hf⟩ := Option.bind_eq_some_iff.mp hf
          have hlt := (List.getElem?_eq_some_iff.mp e2).1
          have hm : mlead o g = some lt := by
            rw [List.getElem?_map, e2] at e1
            simpa using e1
          obtain ⟨vl, hvl, S'⟩ := S'.issAt (vs := ws) (ds := gs.map fun p => dLead (mlead o p)) (j := (firstDiv tm.1 (gs.map (mlead o)) 0).toNat) (d := dT lt) (by walk_at "mem2") (by rw [List.getElem?_map, e2, Option.map_some, hm]; rfl)
          obtain ⟨vg, hvg, S'⟩ := S'.polyAt (vs := vs) (ps := gs) (j := (firstDiv tm.1 (gs.map (mlead o)) 0).toNat) (p := g) (by walk_at "mem2") e2
          have hk0 : 0 ≤ firstDiv tm.1 (gs.map (mlead o)) 0 := by lia
          have hk1 : firstDiv tm.1 (gs.map (mlead o)) 0 < 2 ^ 63 := by lia
          have hqa : ∃ a, as[(firstDiv tm.1 (gs.map (mlead o)) 0).toNat]? = some a := ⟨_, List.getElem?_eq_getElem (by rw [ha]; exact (List.getElem?_eq_some_iff.mp e3).1)⟩
          obtain ⟨a, hqa⟩ := hqa
          have hqv : (as.map Value.ref)[(firstDiv tm.1 (gs.map (mlead o)) 0).toNat]? = some (.ref a) := by rw [List.getElem?_map, hqa]; rfl
          generalize firstDiv tm.1 (gs.map (mlead o)) 0 = kk at *
          refine asgTT r'.handled rfl rfl ?_
          walk_at "go"
          refine lSub (vs := ws) (x := vl) (by assumption) (.fact (by walk_at "mem2")) hk0 hk1 hvl (fun _ => rfl) ?_
          walk_at "go"
          refine subD (ds := [dM lt.1, dR lt.2]) (by assumption) (show As.is vl (dT lt) ∈ _ by walk_at "mem2") (by decide) (by decide) (d := dM lt.1) rfl (fun _ => rfl) fun v3 S' => ?_
          walk_at "go"
          refine useIs (d := dM (mquot tm.1 lt.1)) S' (fun b k pg hP => does_quotient (r'.le (by decide)) k pg (hP (.is vp (dM tm.1)) (by walk_at "mem2")) (hP (.is v3 (dM lt.1)) (by walk_at "mem2"))) fun v4 s' S' => ?_
          walk_at "go"
          refine lSub (vs := ws) (x := vl) (by assumption) (.fact (by walk_at "mem2")) hk0 hk1 hvl (fun _ => rfl) ?_
          walk_at "go"
          refine subD (ds := [dM lt.1, dR lt.2]) (by assumption) (show As.is vl (dT lt) ∈ _ by walk_at "mem2") (by decide) (by decide) (d := dR lt.2) rfl (fun _ => rfl) fun v5 S' => ?_
          walk_at "go"
          refine useIs (d := dR (tm.2 / lt.2)) S' (fun b k pg hP => does_rdiv (r'.le (by decide)) k pg (hP (.is vr (dR tm.2)) (by walk_at "mem2")) (hP (.is v5 (dR lt.2)) (by walk_at "mem2")) hsm.1 hsm.2.1 hsm.2.2) fun v6 s' S' => ?_
          walk_at "go"
          refine TT.mk (by assumption) fun s' S' => ?_
          walk_at "go"
          refine lSub (vs := as.map .ref) (x := .ref a) (by assumption) (.fact (by walk_at "mem2")) hk0 hk1 hqv (fun _ => rfl) ?_
          walk_at "go"
          rename_i s' S'
          obtain ⟨RR, pm1, pm2⟩ := QS_at hqa e3
          have S' := S'.perm (((pm1.cons _).cons _).trans (List.perm_append_comm (l₁ := [_, _]) (l₂ := [_]) |>.append_right RR))
          refine useAdd S' (r'.le (by decide)) .head (by walk_at "mem2") (by walk_at "mem2") hq' fun s' S' => ?_
          have S' := S'.perm ((List.perm_append_comm (l₁ := [_]) (l₂ := [_, _]) |>.append_right RR).trans (((pm2 q').cons _).cons _))
          walk_at "go"
          refine lSub (vs := vs) (x := vg) (by assumption) hld hk0 hk1 hvg (fun _ => rfl) ?_
          walk_at "go"
          refine useOwnB (p := sh) (by assumption) (fun b B => does_mvshift (r'.le (by decide)) B.bs B.pg ((Rd.fact (v := vg) (by walk_at "mem2")).at B) (B.facts (.is v4 (dM (mquot tm.1 lt.1))) (by walk_at "mem2")) (B.facts (.is v6 (dR (tm.2 / lt.2))) (by walk_at "mem2")) hsh) fun d9 s' S' => ?_
          walk_at "go"
          refine useOwnB (p := left') (by assumption) (fun b B => does_mvsub r' B.bs B.pg ((Rd.own (List.mem_cons_of_mem _ List.mem_cons_self)).at B) ((Rd.own List.mem_cons_self).at B) hleft) fun d10 s' S' => ?_
          walk_at "go"
          rename_i s' S'
          show codeAny _ _ _ _ _
          exact ih (qs.set kk.toNat q') rest left' d10 _ s' _ (by simpa using ha) hf (by exact hm1) rfl (by exact hm3) (by exact hm4) (by exact hm5) (by walk_at "mem2") (by walk_at "mem2") (by walk_at "mem2") (by walk_at "mem2") (S'.weaken (fun _ h => h) (.cons₂ _ (.cons _ (.cons _ (List.Sublist.refl _)))))
    | cons e r ih =>
      intro i ws m s' P hi hd hP1 hP2 S'
      obtain ⟨h3, h4, h5⟩ := drop_cons hd
      obtain ⟨v, hv, S'⟩ := S'.polyAt (j := i) (p := e) hP2 h3
      refine comp_stepL (nextName (nx_list S' (hld'.isL S') (arr_at hv) fun s' S' => ?_))
      refine wpAny_assign_Name ?_
      walk_at "go"
      refine useIsB (d := dLead (mlead o e)) (by assumption) (fun b B => does_mvlead (r'.le (by decide)) B.bs B.pg ((Rd.fact (by walk_at "mem")).at B)) fun v2 s' S' => ?_
      have S' := S'.issApp (vs := ws) (v := v2) (by walk_at "mem2") (by walk_at "mem")
      refine appO S' (.tail .head) (by have := S'.issLen (vs := ws) (by walk_at "mem2"); simp at this; lia) fun s' S' => ?_
      refine ih (i + 1) _ _ s' _ h5 h4 ?_ (by walk_at "mem2") S'
      have e1 : (gs.take (i + 1)).map (fun p => dLead (mlead o p)) = (gs.take i).map (fun p => dLead (mlead o p)) ++ [dLead (mlead o e)] := by
        rw [List.take_add_one, h3]; simp
      rw [e1]
      exact List.mem_cons_self
end
end
section
set_option maxRecDepth 100000

open PySem PySem.W PyProof.Rows PySem.Calls

section
variable {w : World} {s : Shared} {b : Heap} {A : Around}

set_option maxHeartbeats 8000000 in
theorem does_restof (r : Room A 8) (k : Keep b s.heap) (pg : Pg w b) {v1 v2 : Value} {f rs : Poly} {gs : List Poly} {vs : List Value} {o : Ord} {t : Tok} (h1 : DictAt PR w b s.heap v1 f) (h2 : ListAt s.heap v2 vs) (h3 : Polys PR w b vs gs) (hp : rest? o f gs = some rs) :
    Does PR w A s [] b (call (.ref 228) [v1, v2, .str o.nm t]) (ROwn rs) := by
  refine def0 r F228.2 k pg [As.polys vs gs] (mems1 h3) [("f", v1), ("some", v2), ("order", .str o.nm t)] rfl (fun s₁ L Q0 cm0 hC S => ?_)
  have r' := r.deeper (callEnvC F228.1 L 228)
  generalize hA : A.deeper (callEnvC F228.1 L 228) = A' at r' ⊢
  have hld : ∀ {P O}, Ld s [] P O v2 vs := .base h2 noDD
  walk_at "go"
  refine useTvB (by assumption) (fun b B => does_mvdivide r' B.bs B.pg ((Rd.base h1 noDD).at B) (hld.at B) (B.facts (.polys vs gs) (by walk_at "mem")) hp) fun v vq R s S => ?_
  walk_at "go"
  rename_i s S
  refine tvSub (by assumption) (by walk_at "mem") (by decide) (by decide) (x := .ref R) rfl (fun _ => rfl) ?_
  walk_at "out"
  exact S.endO (f := .ret (.ref R)) rfl List.mem_cons_self

set_option maxHeartbeats 8000000 in
theorem does_spoly (r : Room A 7) (k : Keep b s.heap) (pg : Pg w b) {v1 v2 : Value} {f g p' : Poly} {o : Ord} {t : Tok} (h1 : DictAt PR w b s.heap v1 f) (h2 : DictAt PR w b s.heap v2 g) (hp : spoly? o f g = some p') :
    Does PR w A s [] b (call (.ref 235) [v1, v2, .str o.nm t]) (ROwn p') := by
  refine def0 r F235.2 k pg [] (fun _ h => (nomatch h)) [("f", v1), ("g", v2), ("order", .str o.nm t)] rfl (fun s₁ L Q0 cm0 hC S => ?_)
  have r' := r.deeper (callEnvC F235.1 L 235)
  generalize hA : A.deeper (callEnvC F235.1 L 235) = A' at r' ⊢
  unfold spoly? at hp
  split at hp
  case h_2 => cases hp
  rename_i ta tb hla hlb
  split at hp
  case isFalse => cases hp
  rename_i h0
  obtain ⟨sx, hx, hp⟩ := Option.bind_eq_some_iff.mp hp
  obtain ⟨sy, hy, hp⟩ := Option.bind_eq_some_iff.mp hp
  have la : ∀ {s' b'} (B : Keep b' s'.heap) (pg : Pg w b') (x : DictAt PR w b' s'.heap v1 f) (A : Around) (r : Room A 2) (t : Tok), Does PR w A s' [] b' (call (.ref 202) [v1, .str o.nm t]) (RIs (dT ta)) := fun B pg x A r t => by
    have := does_mvlead (o := o) (t := t) r B pg x; rw [hla] at this; exact this
  have lb : ∀ {s' b'} (B : Keep b' s'.heap) (pg : Pg w b') (x : DictAt PR w b' s'.heap v2 g) (A : Around) (r : Room A 2) (t : Tok), Does PR w A s' [] b' (call (.ref 202) [v2, .str o.nm t]) (RIs (dT tb)) := fun B pg x A r t => by
    have := does_mvlead (o := o) (t := t) r B pg x; rw [hlb] at this; exact this
  walk_at "go"
  refine asgTT r'.handled rfl rfl ?_
  walk_at "go"
  refine useIsB (by assumption) (fun b B => la B.bs B.pg ((Rd.base h1 noDD).at B) _ (r'.le (by decide)) _) fun va s S => ?_
  walk_at "go"
  refine useIsB (by assumption) (fun b B => lb B.bs B.pg ((Rd.base h2 noDD).at B) _ (r'.le (by decide)) _) fun vb s S => ?_
  walk_at "go"
  refine TT.mk (by assumption) fun s S => ?_
  walk_at "go"
  refine subD (ds := [dM ta.1, dR ta.2]) (by assumption) (show As.is va (dT ta) ∈ _ by walk_at "mem2") (by decide) (by decide) (d := dM ta.1) rfl (fun _ => rfl) fun v3 S => ?_
  walk_at "go"
  refine subD (ds := [dM tb.1, dR tb.2]) (by assumption) (show As.is vb (dT tb) ∈ _ by walk_at "mem2") (by decide) (by decide) (d := dM tb.1) rfl (fun _ => rfl) fun v4 S => ?_
  walk_at "go"
  refine useIs (d := dM (mjoin ta.1 tb.1)) S (fun b k pg hP => does_join (r'.le (by decide)) k pg (hP (.is v3 (dM ta.1)) (by walk_at "mem2")) (hP (.is v4 (dM tb.1)) (by walk_at "mem2"))) fun v5 s S => ?_
  walk_at "go"
  refine subD (ds := [dM ta.1, dR ta.2]) (by assumption) (show As.is va (dT ta) ∈ _ by walk_at "mem2") (by decide) (by decide) (d := dM ta.1) rfl (fun _ => rfl) fun v6 S => ?_
  walk_at "go"
  refine useIs (d := dM (mquot (mjoin ta.1 tb.1) ta.1)) S (fun b k pg hP => does_quotient (r'.le (by decide)) k pg (hP (.is v5 (dM (mjoin ta.1 tb.1))) (by walk_at "mem2")) (hP (.is v6 (dM ta.1)) (by walk_at "mem2"))) fun v7 s S => ?_
  walk_at "go"
  refine subD (ds := [dM ta.1, dR ta.2]) (by assumption) (show As.is va (dT ta) ∈ _ by walk_at "mem2") (by decide) (by decide) (d := dR ta.2) rfl (fun _ => rfl) fun v8 S => ?_
  walk_at "go"
  refine useIs (d := dR ta.2⁻¹) S (fun b k pg hP => does_rinv (r'.le (by decide)) k pg (hP (.is v8 (dR ta.2)) (by walk_at "mem2")) h0.1) fun v9 s S => ?_
  walk_at "go"
  refine useOwnB (p := sx) S (fun b B => does_mvshift (r'.le (by decide)) B.bs B.pg ((Rd.base h1 noDD).at B) (B.facts (.is v7 (dM (mquot (mjoin ta.1 tb.1) ta.1))) (by walk_at "mem2")) (B.facts (.is v9 (dR ta.2⁻¹)) (by walk_at "mem2")) hx) fun d1 s S => ?_
  walk_at "go"
  refine subD (ds := [dM tb.1, dR tb.2]) (by assumption) (show As.is vb (dT tb) ∈ _ by walk_at "mem2") (by decide) (by decide) (d := dM tb.1) rfl (fun _ => rfl) fun v10 S => ?_
  walk_at "go"
  refine useIs (d := dM (mquot (mjoin ta.1 tb.1) tb.1)) S (fun b k pg hP => does_quotient (r'.le (by decide)) k pg (hP (.is v5 (dM (mjoin ta.1 tb.1))) (by walk_at "mem2")) (hP (.is v10 (dM tb.1)) (by walk_at "mem2"))) fun v11 s S => ?_
  walk_at "go"
  refine subD (ds := [dM tb.1, dR tb.2]) (by assumption) (show As.is vb (dT tb) ∈ _ by walk_at "mem2") (by decide) (by decide) (d := dR tb.2) rfl (fun _ => rfl) fun v12 S => ?_
  walk_at "go"
  refine useIs (d := dR tb.2⁻¹) S (fun b k pg hP => does_rinv (r'.le (by decide)) k pg (hP (.is v12 (dR tb.2)) (by walk_at "mem2")) h0.2) fun v13 s S => ?_
  walk_at "go"
  refine useOwnB (p := sy) S (fun b B => does_mvshift (r'.le (by decide)) B.bs B.pg ((Rd.base h2 noDD).at B) (B.facts (.is v11 (dM (mquot (mjoin ta.1 tb.1) tb.1))) (by walk_at "mem2")) (B.facts (.is v13 (dR tb.2⁻¹)) (by walk_at "mem2")) hy) fun d2 s S => ?_
  walk_at "go"
  refine useOwnB (p := p') S (fun b B => does_mvsub r' B.bs B.pg ((Rd.own (List.mem_cons_of_mem _ List.mem_cons_self)).at B) ((Rd.own List.mem_cons_self).at B) hp) fun d3 s S => ?_
  walk_at "out"
  exact S.endO rfl List.mem_cons_self
end
end
section
set_option maxRecDepth 100000

open PySem PySem.W PyProof.Rows PySem.Calls

section
variable {w : World} {s : Shared} {b : Heap} {A : Around}

theorem lt63 {α : Type} {l : List α} {k : Int} {x : α} (hz : l.length ≤ 1000000) (h : l[k.toNat]? = some x) : k < 2 ^ 63 := by
  have := (List.getElem?_eq_some_iff.mp h).1
  lia

set_option maxHeartbeats 8000000 in
theorem does_pairkey (r : Room A 2) (k : Keep b s.heap) (pg : Pg w b) {v1 v2 : Value} {pr : Mono} {ls : List Mono} {ws : List Value} {o : Ord} {t : Tok} {key : List Int × List Int} (h1 : Is b (dM pr) v1) (h2 : ListAt s.heap v2 ws) (h3 : IsL b (ls.map dM) ws)
    (hp : pairKey? o ls pr = some key) :
    Does PR w A s [] b (call (.ref 242) [v1, v2, .str o.nm t]) (RIs (.tup [dL key.1, dL key.2])) := by
  refine def0 r F242.2 k pg [As.is v1 (dM pr), As.iss ws (ls.map dM)] (mems2 h1 h3) [("pair", v1), ("leads", v2), ("order", .str o.nm t)] rfl (fun s₁ L Q0 cm0 hC S => ?_)
  have r' := r.deeper (callEnvC F242.1 L 242)
  generalize hA : A.deeper (callEnvC F242.1 L 242) = A' at r' ⊢
  have hld : ∀ {P O}, Ld s [] P O v2 ws := .base h2 noDD
  unfold pairKey? at hp
  split at hp
  case isFalse => cases hp
  rename_i hc
  split at hp
  case h_2 => cases hp
  rename_i ma mb ea eb
  simp only [Option.some.injEq] at hp
  subst hp
  obtain ⟨va, hva, S⟩ := S.issAt (vs := ws) (ds := ls.map dM) (d := dM ma) (by walk_at "mem") (map_at ea)
  obtain ⟨vb, hvb, S⟩ := S.issAt (vs := ws) (ds := ls.map dM) (d := dM mb) (by walk_at "mem") (map_at eb)
  walk_at "go"
  refine lSub (x := va) (by assumption) hld hc.1 (lt63 hc.2.2 ea) hva (fun _ => rfl) ?_
  walk_at "go"
  refine lSub (x := vb) (by assumption) hld hc.2.1 (lt63 hc.2.2 eb) hvb (fun _ => rfl) ?_
  walk_at "go"
  refine useIs (d := dM (mjoin ma mb)) (by assumption) (fun b k pg hP => does_join (r'.le (by decide)) k pg (hP (.is va (dM ma)) (by walk_at "mem2")) (hP (.is vb (dM mb)) (by walk_at "mem2"))) fun v5 s S => ?_
  walk_at "go"
  refine useIs (d := dL (okey o (mjoin ma mb))) (by assumption) (fun b k pg hP => does_okey r' k pg (hP (.is v5 (dM (mjoin ma mb))) (by walk_at "mem2"))) fun v6 s S => ?_
  walk_at "go"
  refine mkTup (ds := [dL (okey o (mjoin ma mb)), dM pr]) (by assumption) (.cons (.mem (by walk_at "mem2")) (.cons (.mem (by walk_at "mem2")) .nil)) (Nat.le_of_ble_eq_true rfl) fun v s S => ?_
  walk_at "out"
  exact S.end1 (p := As.is v (.tup [dL (okey o (mjoin ma mb)), dM pr])) ⟨rfl, rfl⟩ (.head _)

set_option maxHeartbeats 8000000 in
theorem does_least (r : Room A 3) (k : Keep b s.heap) (pg : Pg w b) {v1 v2 : Value} {wt : List Mono} {vw : List Value} {ls : List Mono} {ws : List Value} {o : Ord} {t : Tok} {pr : Mono} (h1 : ListAt s.heap v1 vw) (hw : IsL b (wt.map dM) vw) (h2 : ListAt s.heap v2 ws) (h3 : IsL b (ls.map dM) ws)
    (hp : least? o ls wt = some pr) :
    Does PR w A s [] b (call (.ref 256) [v1, v2, .str o.nm t]) (RIs (dM pr)) := by
  refine def0 r F256.2 k pg [As.iss vw (wt.map dM), As.iss ws (ls.map dM)] (mems2 hw h3) [("waiting", v1), ("leads", v2), ("order", .str o.nm t)] rfl (fun s₁ L Q0 cm0 hC S => ?_)
  have r' := r.deeper (callEnvC F256.1 L 256)
  generalize hA : A.deeper (callEnvC F256.1 L 256) = A' at r' ⊢
  have hld : ∀ {P O}, Ld s [] P O v2 ws := .base h2 noDD
  have hlw : ∀ {P O}, Ld s [] P O v1 vw := .base h1 noDD
  have hlen : vw.length = wt.length := by simpa using hw.length
  obtain ⟨l, rfl⟩ := hlw.ref S
  unfold least? at hp
  walk_at "go"
  refine asgTV rfl rfl ?_
  walk_at "go"
  refine mkTv S (Nat.le_of_ble_eq_true rfl) fun v s S => ?_
  refine assign2 r'.handled S List.mem_cons_self fun s S => ?_
  walk_at "go"
  rename_i s S
  refine forS (fun R hR => ?_) (fun _ => rfl)
  walk_at "go"
  refine ih_list S (hlw.isL S) fun I s hI S _ => ?_
  refine (?_ : ∀ (r : List Mono) (i : Nat) (f : Option (Mono × List Int × List Int)) (m : Str → Option Value) (s : Shared) (P : List As) (vb vp : Value), i ≤ wt.length → wt.drop i = r → (leastGo? o ls f r).bind (fun b => b.map (·.1)) = some pr →
    m "waiting" = some (.ref l) → m "leads" = some v2 → m "order" = some (.str o.nm t) → m "best" = some vb → m "place" = some vp → As.iss vw (wt.map dM) ∈ P → As.iss ws (ls.map dM) ∈ P →
    ((f = none ∧ vb = .none ∧ vp = .none) ∨ ∃ x, f = some x ∧ As.is vb (dM x.1) ∈ P ∧ As.is vp (.tup [dL x.2.1, dL x.2.2]) ∈ P ∧ x.2.1.length = (okey o (0, 0)).length ∧ x.2.2.length = 2) →
    St PR w _ _ _ (callEnvC F256.1 L 256) true m _ P [ilst I l i] s → codeAny (model PR w) A' _ _ s) wt 0 none _ s _ _ _ (Nat.zero_le _) rfl hp rfl rfl rfl rfl rfl (by walk_at "mem") (by walk_at "mem") (.inl ⟨rfl, rfl, rfl⟩) S
  clear S
  intro r
  induction r with
  | nil =>
    intro i f m s P vb vp hi hd hf hm1 hm2 hm3 hm4 hm5 hP1 hP2 hb S
    refine forG (nextName (nx_listE S r'.handled (hlw.isL S) (arr_end (by rw [hlen]; exact drop_nil hi hd)) fun s S => ?_))
    walk_at "go"
    rw [leastGo_n] at hf
    rcases hb with ⟨rfl, rfl, rfl⟩ | ⟨x, rfl, hbx, _⟩
    · cases hf
    · simp only [Option.bind_some, Option.map_some, Option.some.injEq] at hf
      subst hf
      walk_at "out"
      exact S.end1 ⟨rfl, rfl⟩ hbx
  | cons e r ih =>
    intro i f m s P vb vp hi hd hf hm1 hm2 hm3 hm4 hm5 hP1 hP2 hb S
    obtain ⟨h3, h4, h5⟩ := drop_cons hd
    obtain ⟨v, hv, S⟩ := S.issAt (j := i) (d := dM e) hP1 (map_at h3)
    refine forG (nextName (nx_list S (hlw.isL S) (arr_at hv) fun s S => ?_))
    refine wpAny_assign_Name ?_
    walk_at "go"
    rename_i S
    have hkk : ∃ key, pairKey? o ls e = some key := by
      rcases hb with ⟨rfl, _⟩ | ⟨x, rfl, _⟩
      · rw [leastGo_0] at hf
        cases hk : pairKey? o ls e with
        | none => rw [hk] at hf; cases hf
        | some key => exact ⟨key, rfl⟩
      · rw [leastGo_s] at hf
        cases hk : pairKey? o ls e with
        | none => rw [hk] at hf; cases hf
        | some key => exact ⟨key, rfl⟩
    obtain ⟨key, hkey⟩ := hkk
    have hk2 : key.1.length = (okey o (0, 0)).length ∧ key.2.length = 2 := by
      unfold pairKey? at hkey
      split at hkey
      · split at hkey
        · simp only [Option.some.injEq] at hkey
          subst hkey
          exact ⟨by cases o <;> rfl, rfl⟩
        · cases hkey
      · cases hkey
    refine useIsB (d := .tup [dL key.1, dL key.2]) S (fun b B => does_pairkey r' B.bs B.pg (B.facts (.is v (dM e)) (by walk_at "mem")) (hld.at B) (B.facts (.iss ws (ls.map dM)) (by walk_at "mem2")) hkey) fun v2 s S => ?_
    walk_at "go"
    rcases hb with ⟨rfl, rfl, rfl⟩ | ⟨x, rfl, hbx, hpx, hx1, hx2⟩
    · rw [if_pos (show (Value.none == Value.none) = true from rfl)]
      walk_at "go"
      refine asgTT r'.handled rfl rfl ?_
      walk_at "go"
      refine TT.mk (by assumption) fun s S => ?_
      walk_at "go"
      rename_i S
      show codeAny _ _ _ _ _
      rw [leastGo_0, hkey, Option.bind_some] at hf
      exact ih (i + 1) (some (e, key)) _ _ _ v v2 h5 h4 hf (by exact hm1) (by exact hm2) (by exact hm3) rfl rfl (by walk_at "mem2") (by walk_at "mem2") (.inr ⟨_, rfl, by walk_at "mem2", by walk_at "mem2", hk2.1, hk2.2⟩) S
    · have hne : (vb == Value.none) = false := refNe (ds := [.int x.1.1, .int x.1.2]) (S.has (p := As.is vb (dM x.1)) (by walk_at "mem2"))
      rw [hne, if_neg (by decide)]
      walk_at "go"
      rename_i S
      refine tLt2 (l1 := key.1) (l2 := key.2) (r1 := x.2.1) (r2 := x.2.2) S r'.u (by walk_at "mem2") (by walk_at "mem2") (by rw [hk2.1, hx1]) (by rw [hk2.2, hx2]) ?_
      walk_at "go"
      rw [leastGo_s, hkey, Option.bind_some] at hf
      by_cases hg : lexI2 .Lt key x.2 = true
      · rw [if_pos hg] at hf
        rw [show lexI2 .Lt (key.1, key.2) (x.2.1, x.2.2) = true from hg, if_pos rfl]
        walk_at "go"
        refine asgTT r'.handled rfl rfl ?_
        walk_at "go"
        refine TT.mk (by assumption) fun s S => ?_
        walk_at "go"
        rename_i S
        show codeAny _ _ _ _ _
        exact ih (i + 1) (some (e, key)) _ _ _ v v2 h5 h4 hf (by exact hm1) (by exact hm2) (by exact hm3) rfl rfl (by walk_at "mem2") (by walk_at "mem2") (.inr ⟨_, rfl, by walk_at "mem2", by walk_at "mem2", hk2.1, hk2.2⟩) S
      · rw [if_neg hg] at hf
        rw [if_neg (show ¬ lexI2 .Lt (key.1, key.2) (x.2.1, x.2.2) = true from hg)]
        walk_at "go"
        show codeAny _ _ _ _ _
        exact ih (i + 1) (some x) _ _ _ vb vp h5 h4 hf (by exact hm1) (by exact hm2) (by exact hm3) (by exact hm4) (by exact hm5) (by walk_at "mem2") (by walk_at "mem2") (.inr ⟨x, rfl, by walk_at "mem2", by walk_at "mem2", hx1, hx2⟩) S
end
end
section
set_option maxRecDepth 100000

open PySem PySem.W PyProof.Rows PySem.Calls

section
variable {w : World} {s : Shared} {b : Heap} {A : Around}

theorem needGo_c {pr : Mono} {wt : List Mono} {J m : Mono} {r : List Mono} {i : Int} : needGo pr wt J (m :: r) i = if ((pr.1 == i || pr.2 == i) || !(mdiv m J)) = true then needGo pr wt J r (i + 1)
    else if (!(wt.contains (min pr.1 i, max pr.1 i)) && !(wt.contains (min pr.2 i, max pr.2 i))) = true then true
    else needGo pr wt J r (i + 1) := rfl

set_option maxHeartbeats 16000000 in
theorem does_needless (r : Room A 3) (k : Keep b s.heap) (pg : Pg w b) {v1 v2 v3 : Value} {pr : Mono} {wt : List Mono} {vw : List Value} {ls : List Mono} {ws : List Value} {x : Bool} (h0 : Is b (dM pr) v1) (h1 : ListAt s.heap v2 vw) (hw : IsL b (wt.map dM) vw) (h2 : ListAt s.heap v3 ws) (h3 : IsL b (ls.map dM) ws)
    (hp : needless? ls wt pr = some x) :
    Does PR w A s [] b (call (.ref 249) [v1, v2, v3]) (RBool x) := by
  obtain ⟨la, ta, ua, rfl, hta⟩ := Is.mono2 h0
  refine def0 r F249.2 k pg [As.is (.ref la) (dM pr), As.tv (.ref la) [.int pr.1 ta, .int pr.2 ua], As.iss vw (wt.map dM), As.iss ws (ls.map dM)] ?_ [("pair", .ref la), ("waiting", v2), ("leads", v3)] rfl (fun s₁ L Q0 cm0 hC S => ?_)
  · intro p hp
    rcases List.mem_cons.mp hp with rfl | hp
    · exact h0
    · exact mems3 (Q := fun p => p.on PR w b) (show (As.tv (.ref la) [.int pr.1 ta, .int pr.2 ua]).on PR w b from ⟨la, rfl, hta⟩) (show (As.iss vw (wt.map dM)).on PR w b from hw) (show (As.iss ws (ls.map dM)).on PR w b from h3) p hp
  have r' := r.deeper (callEnvC F249.1 L 249)
  generalize hA : A.deeper (callEnvC F249.1 L 249) = A' at r' ⊢
  have hld : ∀ {P O}, Ld s [] P O v3 ws := .base h2 noDD
  have hlw : ∀ {P O}, Ld s [] P O v2 vw := .base h1 noDD
  have hlen : ws.length = ls.length := by simpa using h3.length
  obtain ⟨l, rfl⟩ := hld.ref S
  unfold needless? at hp
  split at hp
  case isFalse => cases hp
  rename_i hc
  split at hp
  case h_2 => cases hp
  rename_i ma mb ea eb
  simp only [Option.some.injEq] at hp
  obtain ⟨va, hva, S⟩ := S.issAt (vs := ws) (ds := ls.map dM) (d := dM ma) (by walk_at "mem") (map_at ea)
  obtain ⟨vb, hvb, S⟩ := S.issAt (vs := ws) (ds := ls.map dM) (d := dM mb) (by walk_at "mem") (map_at eb)
  walk_at "go"
  refine asgTV rfl rfl ?_
  walk_at "go"
  refine assign2 r'.handled S (by walk_at "mem") fun s S => ?_
  walk_at "go"
  refine lSub (x := va) (by assumption) hld hc.1 (lt63 hc.2.2 ea) hva (fun _ => rfl) ?_
  walk_at "go"
  refine lSub (x := vb) (by assumption) hld hc.2.1 (lt63 hc.2.2 eb) hvb (fun _ => rfl) ?_
  walk_at "go"
  refine useBool (x := mapart ma mb) (by assumption) (fun b k pg hP => does_apart r' k pg (hP (.is va (dM ma)) (by walk_at "mem2")) (hP (.is vb (dM mb)) (by walk_at "mem2"))) fun s S => ?_
  walk_at "go"
  by_cases hap : mapart ma mb = true
  · rw [hap, Bool.true_or] at hp
    subst hp
    rw [if_pos hap]
    walk_at "go"
    walk_at "out"
    exact S.end0 ⟨rfl, rfl, rfl⟩
  rw [if_neg hap]
  rw [Bool.not_eq_true] at hap
  rw [hap, Bool.false_or] at hp
  walk_at "go"
  refine lSub (x := va) (by assumption) hld hc.1 (lt63 hc.2.2 ea) hva (fun _ => rfl) ?_
  walk_at "go"
  refine lSub (x := vb) (by assumption) hld hc.2.1 (lt63 hc.2.2 eb) hvb (fun _ => rfl) ?_
  walk_at "go"
  refine useIs (d := dM (mjoin ma mb)) (by assumption) (fun b k pg hP => does_join (r'.le (by decide)) k pg (hP (.is va (dM ma)) (by walk_at "mem2")) (hP (.is vb (dM mb)) (by walk_at "mem2"))) fun vj s S => ?_
  walk_at "go"
  rename_i s S
  refine forS (fun R hR => ?_) (fun _ => rfl)
  walk_at "go"
  refine mk_enuL S (hld.isL S) fun e it s₂ S₂ k₂ => ?_
  refine ih_enu S₂ List.mem_cons_self ?_
  refine (?_ : ∀ (r : List Mono) (i : Nat) (m : Str → Option Value) (s' : Shared) (P : List As), i ≤ ls.length → ls.drop i = r → needGo pr wt (mjoin ma mb) r i = x →
    (∃ t, m "one" = some (.int pr.1 t)) → (∃ t, m "other" = some (.int pr.2 t)) → m "joined" = some vj → m "pair" = some (.ref la) → m "waiting" = some v2 →
    As.is (.ref la) (dM pr) ∈ P → As.is vj (dM (mjoin ma mb)) ∈ P → As.iss vw (wt.map dM) ∈ P → As.iss ws (ls.map dM) ∈ P →
    St PR w _ _ _ (callEnvC F249.1 L 249) true m _ P [ienu e it i, ilst it l i] s' → codeAny (model PR w) A' _ _ s') ls 0 _ s₂ _ (Nat.zero_le _) rfl hp ⟨_, rfl⟩ ⟨_, rfl⟩ rfl rfl rfl (by walk_at "mem2") (by walk_at "mem2") (by walk_at "mem2") (by walk_at "mem2") S₂
  clear S₂
  intro r
  induction r with
  | nil =>
    intro i m s' P hi hd hf hm1 hm2 hm3 hm4 hm5 hP1 hP2 hP3 hP4 S
    refine forG (nx_enuLE S r'.handled (hld.isL S) (arr_end (by rw [hlen]; exact drop_nil hi hd)) fun s S => ?_)
    walk_at "go"
    have hf : false = x := hf
    subst hf
    walk_at "out"
    exact S.end0 ⟨rfl, rfl, rfl⟩
  | cons e r ih =>
    intro i m s' P hi hd hf hm1 hm2 hm3 hm4 hm5 hP1 hP2 hP3 hP4 S
    obtain ⟨h3, h4, h5⟩ := drop_cons hd
    obtain ⟨v, hv, S⟩ := S.issAt (j := i) (d := dM e) hP4 (map_at h3)
    obtain ⟨to, hm1⟩ := hm1
    obtain ⟨tp, hm2⟩ := hm2
    rw [needGo_c] at hf
    refine forG (nx_enuL S (hld.isL S) (arr_at hv) rfl fun t v' s S => ?_)
    refine assign2 r'.handled S (by walk_at "mem") fun s S => ?_
    walk_at "go"
    refine inTup2 (q := pr) (by assumption) (by walk_at "mem2") ?_
    walk_at "go"
    rename_i s S
    have step : ∀ (s : Shared) (P : List As) (m' : Str → Option Value), needGo pr wt (mjoin ma mb) r (i + 1) = x → (∀ n : Str, n ≠ "at" → n ≠ "powers" → m' n = m n) → As.is (.ref la) (dM pr) ∈ P → As.is vj (dM (mjoin ma mb)) ∈ P → As.iss vw (wt.map dM) ∈ P → As.iss ws (ls.map dM) ∈ P → _ := fun s P m' hf hm q1 q2 q3 q4 =>
      ih (i + 1) m' s P h5 h4 hf ⟨to, (hm "one" (by decide) (by decide)).trans hm1⟩ ⟨tp, (hm "other" (by decide) (by decide)).trans hm2⟩ ((hm "joined" (by decide) (by decide)).trans hm3) ((hm "pair" (by decide) (by decide)).trans hm4) ((hm "waiting" (by decide) (by decide)).trans hm5) q1 q2 q3 q4
    have hmm : ∀ n : Str, n ≠ "at" → n ≠ "powers" → (upd (upd m "at" (.int i t)) "powers" v) n = m n := fun n q1 q2 => by simp only [upd, q1, q2, if_false]
    by_cases c1 : (pr.1 == (i : Int) || pr.2 == (i : Int)) = true
    · rw [if_pos c1]
      rw [if_pos (by rw [c1]; rfl)] at hf
      walk_at "go"
      show codeAny _ _ _ _ _
      exact step s _ _ hf hmm (by walk_at "mem2") (by walk_at "mem2") (by walk_at "mem2") (by walk_at "mem2") S
    rw [if_neg c1]
    rw [Bool.not_eq_true] at c1
    walk_at "go"
    refine useBool (x := mdiv e (mjoin ma mb)) (by assumption) (fun b k pg hP => does_divide (r'.le (by decide)) k pg (hP (.is v (dM e)) (by walk_at "mem2")) (hP (.is vj (dM (mjoin ma mb))) (by walk_at "mem2"))) fun s S => ?_
    walk_at "go"
    by_cases c2 : mdiv e (mjoin ma mb) = true
    case neg =>
      rw [Bool.not_eq_true] at c2
      rw [if_pos (by rw [c1, c2]; rfl)] at hf
      rw [c2, if_pos (by decide)]
      walk_at "go"
      show codeAny _ _ _ _ _
      exact step s _ _ hf hmm (by walk_at "mem2") (by walk_at "mem2") (by walk_at "mem2") (by walk_at "mem2") S
    rw [if_neg (by rw [c1, c2]; decide)] at hf
    rw [c2, if_neg (by decide)]
    walk_at "go"
    refine bMin r'.handled (by assumption) fun t1 s S => ?_
    walk_at "go"
    refine bMax r'.handled (by assumption) fun t2 s S => ?_
    walk_at "go"
    refine mkTup (ds := [.int (min pr.1 i), .int (max pr.1 i)]) (by assumption) (.cons .int (.cons .int .nil)) (Nat.le_of_ble_eq_true rfl) fun v4 s S => ?_
    walk_at "go"
    refine notInL (x := (min pr.1 i, max pr.1 i)) (ms := wt) S r'.u (show As.is v4 (.tup [.int (min pr.1 i), .int (max pr.1 i)]) ∈ _ by walk_at "mem2") hlw (by walk_at "mem2") ?_
    walk_at "go"
    by_cases c3 : wt.contains (min pr.1 (i : Int), max pr.1 (i : Int)) = true
    · rw [if_neg (by rw [c3, Bool.not_true, Bool.false_and]; decide)] at hf
      rw [c3, if_neg (by decide)]
      walk_at "go"
      show codeAny _ _ _ _ _
      exact step s _ _ hf hmm (by walk_at "mem2") (by walk_at "mem2") (by walk_at "mem2") (by walk_at "mem2") S
    rw [Bool.not_eq_true] at c3
    rw [c3, if_pos (by decide)]
    walk_at "go"
    refine bMin r'.handled (by assumption) fun t1 s S => ?_
    walk_at "go"
    refine bMax r'.handled (by assumption) fun t2 s S => ?_
    walk_at "go"
    refine mkTup (ds := [.int (min pr.2 i), .int (max pr.2 i)]) (by assumption) (.cons .int (.cons .int .nil)) (Nat.le_of_ble_eq_true rfl) fun v5 s S => ?_
    walk_at "go"
    refine notInL (x := (min pr.2 i, max pr.2 i)) (ms := wt) S r'.u (show As.is v5 (.tup [.int (min pr.2 i), .int (max pr.2 i)]) ∈ _ by walk_at "mem2") hlw (by walk_at "mem2") ?_
    walk_at "go"
    by_cases c4 : wt.contains (min pr.2 (i : Int), max pr.2 (i : Int)) = true
    · rw [if_neg (by rw [c3, c4]; decide)] at hf
      rw [c4, if_neg (by decide)]
      walk_at "go"
      show codeAny _ _ _ _ _
      exact step s _ _ hf hmm (by walk_at "mem2") (by walk_at "mem2") (by walk_at "mem2") (by walk_at "mem2") S
    rw [Bool.not_eq_true] at c4
    rw [if_pos (by rw [c3, c4]; decide)] at hf
    subst hf
    rw [c4, if_pos (by decide)]
    walk_at "go"
    walk_at "out"
    exact S.end0 ⟨rfl, rfl, rfl⟩
end
end
section
set_option maxRecDepth 100000

open PySem PySem.W PyProof.Rows PySem.Calls

section
variable {w : World} {s : Shared} {b : Heap} {A : Around}

noncomputable def RPolys (bs : List Poly) : Rl := fun v F N => ∃ B vs, v = .ref B ∧ F = [As.polys vs bs] ∧ N = [Ow.list B vs]

set_option maxHeartbeats 16000000 in
theorem does_groebner (r : Room A 9) (k : Keep b s.heap) (pg : Pg w b) {v1 : Value} {gs bs : List Poly} {vs : List Value} {o : Ord} {t tm : Tok} {most : Int} (h2 : ListAt s.heap v1 vs) (h3 : Polys PR w b vs gs) (hp : groebner? o most gs = some bs) :
    Does PR w A s [] b (call (.ref 261) [v1, .str o.nm t, .int most tm]) (RPolys bs) := by
  refine def0c r F261.2 k pg [As.polys vs gs] (mems1 h3) [("some", v1), ("order", .str o.nm t), ("most", .int most tm)] rfl (fun s₁ L Q0 hC S => ?_)
  have r' := r.deeper (callEnvC F261.1 L 261)
  generalize hA : A.deeper (callEnvC F261.1 L 261) = A' at r' ⊢
  have hlen : vs.length = gs.length := h3.length
  have hld : ∀ {P O}, Ld s [] P O v1 vs := .base h2 noDD
  obtain ⟨l, rfl⟩ := hld.ref S
  unfold groebner? at hp
  split at hp
  · cases hp
  rename_i hgz
  obtain ⟨bs0, hb0, hp⟩ := Option.bind_eq_some_iff.mp hp
  obtain ⟨ls0, hl0, hp⟩ := Option.bind_eq_some_iff.mp hp
  walk_at "go"
  -- basis
  refine listCompEG rfl (by decide) rfl (by decide) (clc rfl cln) (fun _ => rfl) (fun K1 hK1 => ?_)
  walk_at "go"
  refine ih_list S (hld.isL S) fun I sI hI SI _ => ?_
  refine hK1 _ _ ?_
  refine CompGo.mk [ilst I l 0] [] SI fun D C b₄ s₄ hk₄ pg₄ S₄ k₄ R1 hR1 => ?_
  have hld' : ∀ {P O}, Ld sI [I] P O (.ref l) vs := .base (hld.now SI) (fun l' e => by cases e; simpa using hI)
  refine compStart_ rfl rfl rfl (fun Q E hq => ih_ilst S₄ (List.mem_cons_of_mem _ List.mem_cons_self) hq) ?_
  refine (?_ : ∀ (r : List Poly) (i : Nat) (qs : List Poly) (ys : List Value) (m : Str → Option Value) (s' : Shared) (P : List As), i ≤ gs.length → gs.drop i = r → monGo? o qs r = some bs0 → qs.length ≤ i → As.polys ys qs ∈ P → As.polys vs gs ∈ P →
    St PR w _ _ b₄ _ false m _ P [ilst I l i, Ow.list D ys] s' → codeAny (model PR w) A' _ _ s') gs 0 [] [] _ s₄ _ (Nat.zero_le _) rfl hb0 (Nat.le_refl _) List.mem_cons_self (List.mem_cons_of_mem _ (by walk_at "mem")) ((S₄.polys0).perm (List.Perm.swap ..))
  clear S₄
  intro r
  induction r with
  | cons e r ih =>
    intro i qs ys m s' P hi hd hm hql hP1 hP2 S'
    obtain ⟨h3, h4, h5⟩ := drop_cons hd
    obtain ⟨v, hv, S'⟩ := S'.polyAt (j := i) (p := e) hP2 h3
    unfold monGo? at hm
    split at hm
    · cases hm
    rename_i hez
    have hez := Classical.not_not.mp hez
    refine comp_stepL1 (nextName (nx_list S' (hld'.isL S') (arr_at hv) fun s' S' => ?_))
    refine wpAny_assign_Name ?_
    walk_at "go"
    refine dLen (p := e) (by assumption) (.fact (by walk_at "mem")) hez fun tl s' S' => ?_
    walk_at "go"
    rename_i s' S'
    by_cases h0 : e.length = 0
    · rw [if_pos h0] at hm
      rw [if_neg (by simp [h0])]
      exact ih (i + 1) qs ys _ s' _ h5 h4 hm (by lia) (by walk_at "mem2") (by walk_at "mem2") S'
    rw [if_neg h0] at hm
    rw [if_pos (by simp; lia)]
    obtain ⟨q, hq, hm⟩ := Option.bind_eq_some_iff.mp hm
    walk_at "go"
    refine useOwnB (p := q) (by assumption) (fun b B => does_mvmonic (r'.le (by decide)) B.bs B.pg ((Rd.fact (by walk_at "mem")).at B) hq) fun d s' S' => ?_
    have S' := S'.frzX (fun a ha => ⟨_, List.mem_cons_self, (List.mem_singleton.mp ha).symm⟩)
    have S' := S'.polys1 List.mem_cons_self
    have hyl := S'.polysLen (vs := ys) (ps := qs) (by walk_at "mem2")
    have S' := S'.polysApp (vs := ys) (ps := qs) (by walk_at "mem2") List.mem_cons_self
    refine appO S' (.tail .head) (by lia) fun s' S' => ?_
    exact ih (i + 1) (qs ++ [q]) _ _ s' _ h5 h4 hm (by simp; lia) List.mem_cons_self (by walk_at "mem2") S'
  | nil =>
  intro i qs ys m s' P hi hd hm hql hP1 hP2 S'
  unfold monGo? at hm
  simp only [Option.some.injEq] at hm
  subst hm
  refine comp_stepL1 (nextName (nx_listE S' r'.handled (hld'.isL S') (arr_end (by rw [hlen]; exact drop_nil hi hd)) fun s' S' => ?_))
  have hql' : qs.length ≤ 1000 := by have := drop_nil hi hd; lia
  walk_at "outR"
  refine EndE.mk ys [As.polys ys qs] [] S' (fun b hb => mems1 (hb _ hP1)) fun s' S' => ?_
  simp only [List.nil_append, List.cons_append, List.append_nil] at S'
  walk_at "go"
  -- leads
  refine listCompAG rfl rfl (by decide) rfl (by decide) (clc rfl cln) (fun _ => rfl) rfl (fun K2 hK2 => ?_)
  walk_at "go"
  rename_i s' S'
  have hlB : Ld s [] (As.polys ys qs :: [As.polys vs gs]) [Ow.list D ys] (.ref D) ys := .own List.mem_cons_self
  have hyl := S'.polysLen (vs := ys) (ps := qs) (by walk_at "mem")
  refine ih_list S' (Ld.isL (.own List.mem_cons_self) S') fun I2 s2 hI2 S2 _ => ?_
  refine hK2 _ _ ?_
  refine CompGo.mk [ilst I2 D 0] [Ow.list D ys] S2 fun D2 C2 b₅ s₅ hk₅ pg₅ S₅ k₅ R2 hR2 => ?_
  have hld2 : ∀ {P O}, Ld s2 [I2] P O (.ref D) ys := .base (Ld.now (.own (List.mem_cons_of_mem _ List.mem_cons_self)) S2) (fun l' e => by cases e; simpa using hI2)
  refine compStart_ rfl rfl rfl (fun Q E hq => ih_ilst S₅ (List.mem_cons_of_mem _ List.mem_cons_self) hq) ?_
  refine (?_ : ∀ (r : List Poly) (i : Nat) (lq : List Mono) (ws : List Value) (m : Str → Option Value) (s' : Shared) (P : List As), i ≤ qs.length → qs.drop i = r → leadsGo? o lq r = some ls0 → As.iss ws (lq.map dM) ∈ P → lq.length = i → As.polys ys qs ∈ P →
    St PR w _ _ b₅ _ false m _ P [ilst I2 D i, Ow.list D2 ws] s' → codeAny (model PR w) A' _ _ s') qs 0 [] [] _ s₅ _ (Nat.zero_le _) rfl hl0 List.mem_cons_self rfl (List.mem_cons_of_mem _ (by walk_at "mem")) ((S₅.iss0).perm (List.Perm.swap ..))
  clear S₅
  intro r
  induction r with
  | cons e r ih =>
    intro i lq ws m s' P hi hd hm hP1 hlq hP2 S'
    obtain ⟨h3, h4, h5⟩ := drop_cons hd
    obtain ⟨v, hv, S'⟩ := S'.polyAt (j := i) (p := e) hP2 h3
    unfold leadsGo? at hm
    obtain ⟨te, hte, hm⟩ := Option.bind_eq_some_iff.mp hm
    refine comp_stepL (nextName (nx_list S' (hld2.isL S') (arr_at hv) fun s' S' => ?_))
    refine wpAny_assign_Name ?_
    walk_at "go"
    refine useIsB (d := dLead (mlead o e)) (by assumption) (fun b B => does_mvlead (r'.le (by decide)) B.bs B.pg ((Rd.fact (by walk_at "mem")).at B)) fun v2 s' S' => ?_
    rw [hte] at S'
    walk_at "go"
    refine subD (ds := [dM te.1, dR te.2]) (by assumption) (show As.is v2 (dLead (some te)) ∈ _ by walk_at "mem") (by decide) (by decide) (d := dM te.1) rfl (fun _ => rfl) fun v3 S' => ?_
    have hwl := S'.issLen (vs := ws) (ds := lq.map dM) (by walk_at "mem2")
    have S' := S'.issApp (vs := ws) (ds := lq.map dM) (by walk_at "mem2") List.mem_cons_self
    refine appO S' (.tail .head) (by simp at hwl; lia) fun s' S' => ?_
    exact ih (i + 1) (lq ++ [te.1]) _ _ s' _ h5 h4 hm (by rw [List.map_append]; exact List.mem_cons_self) (by simp; lia) (by walk_at "mem2") S'
  | nil =>
  intro i lq ws m s' P hi hd hm hP1 hlq hP2 S'
  unfold leadsGo? at hm
  simp only [Option.some.injEq] at hm
  subst hm
  refine comp_stepL (nextName (nx_listE S' r'.handled (hld2.isL S') (arr_end (by rw [hyl]; exact drop_nil hi hd)) fun s' S' => ?_))
  walk_at "outR"
  refine EndA.mk ws [As.iss ws (lq.map dM)] [] S' (fun b hb => mems1 (hb _ hP1)) fun C' m' s' S' => ?_
  refine stAG (y := "leads") S' rfl rfl fun s' S' => ?_
  simp only [List.nil_append, List.cons_append, List.append_nil] at S'
  walk_at "go"
  -- waiting
  refine listCompAG rfl rfl (by decide) rfl (by decide) cln (fun _ => rfl) rfl (fun K3 hK3 => ?_)
  walk_at "go"
  refine lLenL (vs := ys) S' (.own (by walk_at "mem")) (by lia) fun tn s' S' => ?_
  walk_at "go"
  rw [hyl]
  refine rng1 S' fun ra s' S' => ?_
  refine ih_rngN S' List.mem_cons_self (by lia) fun I3 s3 S3 => ?_
  refine hK3 _ _ ?_
  refine CompGo.mk [rngN I3 0 qs.length] _ S3 fun D3 C3 b₆ s₆ hk₆ pg₆ S₆ k₆ R3 hR3 => ?_
  refine compStart_ rfl rfl rfl (fun Q E hq => ih_rngNI S₆ (List.mem_cons_of_mem _ List.mem_cons_self) hq) ?_
  refine (?_ : ∀ (r : Nat) (j : Nat) (ps : List Value) (m : Str → Option Value) (s' : Shared) (P : List As), j + r = qs.length → As.iss ps ((pairsOf j).map dM) ∈ P →
    St PR w _ _ b₆ _ false m _ P [rngN I3 j qs.length, Ow.list D3 ps] s' → codeAny (model PR w) A' _ _ s') qs.length 0 [] _ s₆ _ (by lia) List.mem_cons_self ((S₆.iss0).perm (List.Perm.swap ..))
  clear S₆
  intro r
  induction r with
  | succ r ih =>
    intro j ps m s' P hj hP S'
    refine comp_step2 (nextName (nx_rngN S' (by lia) fun tj s' S' => ?_)) (fun _ => rfl)
    refine wpAny_assign_Name ?_
    walk_at "go"
    refine rng1 (by assumption) fun rb s' S' => ?_
    refine ih_rngN S' List.mem_cons_self (by lia) fun I4 s' S' => ?_
    refine compStart1_ rfl rfl rfl (fun Q E hq => ih_rngNI S' List.mem_cons_self hq) ?_
    refine (?_ : ∀ (r : Nat) (i : Nat) (ps : List Value) (m : Str → Option Value) (s' : Shared) (P : List As), i + r = j → As.iss ps ((pairsOf j ++ (pairsRow j).take i).map dM) ∈ P → m "other" = some (.int j tj) →
      St PR w _ _ b₆ _ false m _ P [rngN I4 i j, orng rb j, rngN I3 (j + 1) qs.length, Ow.list D3 ps] s' → codeAny (model PR w) A' _ _ s') j 0 ps _ s' _ (by lia) (by simpa using hP) rfl S'
    clear S'
    intro r2
    induction r2 with
    | succ r2 ih2 =>
      intro i ps m s' P hi hP hm S'
      refine comp_step2in (nextName (nx_rngN S' (by lia) fun ti s' S' => ?_))
      refine wpAny_assign_Name ?_
      walk_at "go"
      refine mkTup (ds := [.int i, .int j]) (by assumption) (.cons .int (.cons .int .nil)) (Nat.le_of_ble_eq_true rfl) fun v s' S' => ?_
      have hpl := S'.issLen (vs := ps) (ds := (pairsOf j ++ (pairsRow j).take i).map dM) (by walk_at "mem2")
      have S' := S'.issApp (vs := ps) (ds := (pairsOf j ++ (pairsRow j).take i).map dM) (by walk_at "mem2") List.mem_cons_self
      refine appO S' (.tail (.tail (.tail .head))) ?_ fun s' S' => ?_
      · have h1 := @pairsOf_len j
        have h2 : j * j ≤ 999 * 999 := Nat.mul_le_mul (by lia) (by lia)
        simp [pairsRow_len] at hpl
        lia
      refine ih2 (i + 1) _ _ s' _ (by lia) ?_ (by exact hm) S'
      have e : ((pairsOf j ++ (pairsRow j).take (i + 1)).map dM) = ((pairsOf j ++ (pairsRow j).take i).map dM) ++ [.tup [.int i, .int j]] := by
        have e2 : (pairsRow j)[i]? = some ((i : Int), (j : Int)) := by unfold pairsRow; rw [List.getElem?_map, List.getElem?_range (by lia)]; rfl
        rw [List.take_add_one, e2]
        simp [dM]
      rw [e]
      exact List.mem_cons_self
    | zero =>
      intro i ps m s' P hi hP hm S'
      refine comp_step2in (nextName (nx_rngNE S' r'.handled (by lia) fun s' S' => ?_))
      refine ⟨rfl, ?_⟩
      refine ih (j + 1) ps m s' P (by lia) ?_ (S'.weaken (fun _ h => h) (List.sublist_cons_self _ _))
      have e : (pairsRow j).take i = pairsRow j := List.take_of_length_le (by rw [pairsRow_len]; lia)
      rw [e] at hP
      rw [pairsOf_succ]
      exact hP
  | zero =>
  intro j ps m s' P hj hP S'
  have ej : j = qs.length := by lia
  subst ej
  refine comp_step2 (nextName (nx_rngNE S' r'.handled (by lia) fun s' S' => ?_)) (fun _ => rfl)
  walk_at "outR"
  refine EndA.mk ps [As.iss ps ((pairsOf qs.length).map dM)] [] S' (fun b hb => mems1 (hb _ hP)) fun C' m' s' S' => ?_
  refine stAG (y := "waiting") S' rfl rfl fun s' S' => ?_
  simp only [List.nil_append, List.cons_append, List.append_nil] at S'
  walk_at "go"
  rename_i s' S'
  have S' := S'.weaken (O' := [Ow.list D3 ps, Ow.list D2 ws, Ow.list D ys]) (fun _ h => h) (.cons₂ _ (.cons _ (List.Sublist.refl _)))
  refine (?_ : ∀ (n : Nat) (done : Int) (bsx : List Poly) (lq wt : List Mono) (ys ws ps : List Value) (W : Addr) (m cm : Str → Option Value) (s' : Shared) (P : List As), St PR w s [] b (callEnvC F261.1 L 261) true m cm P [Ow.list W ps, Ow.list D2 ws, Ow.list D ys] s' → grobGo? o most n done bsx lq wt = some bs →
    m "waiting" = some (.ref W) → m "leads" = some (.ref D2) → (∃ td, m "done" = some (.int done td)) → m "most" = some (.int most tm) → cm "basis" = some (.ref D) → cm "order" = some (.str o.nm t) →
    As.polys ys bsx ∈ P → As.iss ws (lq.map dM) ∈ P → As.iss ps (wt.map dM) ∈ P → codeAny (model PR w) A' _ _ s')
    FUEL2 0 qs lq (pairsOf qs.length) ys ws ps D3 _ _ s' _ S' hp rfl rfl ⟨_, rfl⟩ rfl rfl rfl (by walk_at "mem2") (by walk_at "mem2") (by walk_at "mem2")
  clear S' hp
  intro n
  induction n with
  | zero => intro done bsx lq wt ys ws ps W m cm s' P S' hf; exact nomatch hf
  | succ n ih =>
  intro done bsx lq wt ys ws ps W m cm s' P S' hf hm1 hm2 hm3 hm4 hc1 hc2 hP1 hP2 hP3
  obtain ⟨td, hm3⟩ := hm3
  unfold grobGo? at hf
  split at hf
  · cases hf
  rename_i hz
  have hz := Classical.not_not.mp hz
  have hpl := S'.issLen hP3
  rw [List.length_map] at hpl
  have hyl := S'.polysLen hP1
  have hwl := S'.issLen hP2
  rw [List.length_map] at hwl
  refine while_step ?_
  walk_at "go"
  refine lLenL (vs := ps) S' (.own (by walk_at "mem")) (by lia) fun tl s' S' => ?_
  walk_at "go"
  rename_i s' S'
  by_cases h0 : wt.length = 0
  · rw [if_pos h0] at hf
    rw [if_neg (by rw [hpl, h0]; decide)]
    walk_at "go"
    simp only [Option.some.injEq] at hf
    subst hf
    walk_at "out"
    exact S'.comes (F := [As.polys ys bsx]) (N := [Ow.list D ys]) ⟨D, ys, rfl, rfl, rfl⟩ (fun b hb => mems1 (hb _ hP1)) (.cons _ (.cons _ (List.Sublist.refl _)))
  rw [if_neg h0] at hf
  rw [if_pos (by simp; lia)]
  obtain ⟨pr, hpr, hf⟩ := Option.bind_eq_some_iff.mp hf
  obtain ⟨nd, hnd, hf⟩ := Option.bind_eq_some_iff.mp hf
  walk_at "go"
  refine useIsB (d := dM pr) S' (fun b B => does_least (r'.le (by decide)) B.bs B.pg ((Ld.own (l := W) (by walk_at "mem")).at B) (B.facts _ hP3) ((Ld.own (l := D2) (by walk_at "mem")).at B) (B.facts _ hP2) hpr) fun vpr s' S' => ?_
  walk_at "go"
  -- waiting without the pair
  refine listCompAG rfl rfl (by decide) rfl (by decide) (clc rfl cln) (fun _ => rfl) rfl (fun K4 hK4 => ?_)
  walk_at "go"
  rename_i s' S'
  refine ih_list S' (Ld.isL (vs := ps) (.own (by walk_at "mem")) S') fun I2 s2 hI2 S2 _ => ?_
  refine hK4 _ _ ?_
  refine CompGo.mk [ilst I2 W 0] _ S2 fun D4 C2 b₅ s₅ hk₅ pg₅ S₅ k₅ R4 hR4 => ?_
  have hldw : ∀ {P O}, Ld s2 [I2] P O (.ref W) ps := .base (Ld.now (.own (by walk_at "mem")) S2) (fun l' e => by cases e; simpa using hI2)
  refine compStart_ rfl rfl rfl (fun Q E hq => ih_ilst S₅ (List.mem_cons_of_mem _ List.mem_cons_self) hq) ?_
  refine (?_ : ∀ (r : List Mono) (i : Nat) (rs : List Value) (m : Str → Option Value) (s' : Shared) (P : List As), i ≤ wt.length → wt.drop i = r → As.iss rs (((wt.take i).filter fun x => !decide (x = pr)).map dM) ∈ P → As.iss ps (wt.map dM) ∈ P → As.is vpr (dM pr) ∈ P →
    St PR w _ _ b₅ _ false m _ P [ilst I2 W i, Ow.list D4 rs] s' → codeAny (model PR w) A' _ _ s') wt 0 [] _ s₅ _ (Nat.zero_le _) rfl List.mem_cons_self (List.mem_cons_of_mem _ (by walk_at "mem2")) (by walk_at "mem2") ((S₅.iss0).perm (List.Perm.swap ..))
  clear S₅
  intro r
  induction r with
  | cons e r ih2 =>
    intro i rs m s' P hi hd hP1 hP2 hP3 S'
    obtain ⟨h3, h4, h5⟩ := drop_cons hd
    obtain ⟨v, hv, S'⟩ := S'.issAt (j := i) (d := dM e) hP2 (map_at h3)
    refine comp_stepL1 (nextName (nx_list S' (hldw.isL S') (arr_at hv) fun s' S' => ?_))
    refine wpAny_assign_Name ?_
    walk_at "go"
    rename_i s' S'
    refine tNeM (x := e) (y := pr) S' r'.u (by walk_at "mem2") (by walk_at "mem2") ?_
    walk_at "go"
    have e1 : (wt.take (i + 1)).filter (fun x => !decide (x = pr)) = (wt.take i).filter (fun x => !decide (x = pr)) ++ (if (!decide (e = pr)) = true then [e] else []) := by
      rw [List.take_add_one, h3, List.filter_append]
      congr 1
      show List.filter _ [e] = _
      rw [List.filter_cons, List.filter_nil]
    by_cases he : (!decide (e = pr)) = true
    · rw [if_pos he] at e1
      rw [if_pos he]
      walk_at "go"
      have hrl := S'.issLen (vs := rs) (ds := ((wt.take i).filter fun x => !decide (x = pr)).map dM) (by walk_at "mem2")
      have hfl := List.length_filter_le (fun x => !decide (x = pr)) (wt.take i)
      rw [List.length_map] at hrl
      rw [List.length_take] at hfl
      have S' := S'.issApp (vs := rs) (v := v) (ds := ((wt.take i).filter fun x => !decide (x = pr)).map dM) (d := dM e) (by walk_at "mem2") (by walk_at "mem2")
      refine appO S' (.tail .head) (by lia) fun s' S' => ?_
      exact ih2 (i + 1) _ _ s' _ h5 h4 (by rw [e1, List.map_append]; exact List.mem_cons_self) (by walk_at "mem2") (by walk_at "mem2") S'
    · rw [if_neg he] at e1
      rw [if_neg he]
      exact ih2 (i + 1) _ _ s' _ h5 h4 (by rw [e1, List.append_nil]; walk_at "mem2") (by walk_at "mem2") (by walk_at "mem2") S'
  | nil =>
  intro i rs m' s' P' hi hd hP1' hP2' hP3' S'
  have hil := drop_nil hi hd
  subst hil
  rw [List.take_length] at hP1'
  refine comp_stepL1 (nextName (nx_listE S' r'.handled (hldw.isL S') (arr_end hpl.symm) fun s' S' => ?_))
  walk_at "outR"
  refine EndA.mk rs [As.iss rs ((wt.filter fun x => !decide (x = pr)).map dM)] [] S' (fun b hb => mems1 (hb _ hP1')) fun C' m' s' S' => ?_
  refine stAG (y := "waiting") S' rfl rfl fun s' S' => ?_
  simp only [List.nil_append, List.cons_append, List.append_nil] at S'
  have S' := S'.weaken (O' := [Ow.list D4 rs, Ow.list D2 ws, Ow.list D ys]) (fun _ h => h) (.cons₂ _ (.cons _ (List.Sublist.refl _)))
  generalize hwt' : (wt.filter fun x => !decide (x = pr)) = wt' at *
  walk_at "go"
  refine useBoolB (x := nd) S' (fun b B => does_needless (r'.le (by decide)) B.bs B.pg (B.facts (.is vpr (dM pr)) (by walk_at "mem2")) ((Ld.own (l := D4) (by walk_at "mem")).at B) (B.facts (.iss rs (wt'.map dM)) (by walk_at "mem2")) ((Ld.own (l := D2) (by walk_at "mem")).at B) (B.facts (.iss ws (lq.map dM)) (by walk_at "mem2")) hnd) fun s' S' => ?_
  walk_at "go"
  by_cases hn : nd = true
  · rw [if_pos hn] at hf
    rw [if_pos hn]
    walk_at "go"
    show codeAny _ _ _ _ _
    exact ih done bsx lq wt' ys ws rs D4 _ _ s' _ S' hf rfl (by exact hm2) ⟨td, by exact hm3⟩ (by exact hm4) (by exact hc1) (by exact hc2) (by walk_at "mem2") (by walk_at "mem2") (by walk_at "mem2")
  rw [if_neg hn] at hf
  rw [if_neg hn]
  split at hf
  · cases hf
  rename_i hdm
  split at hf
  case h_2 => cases hf
  rename_i f g ef eg
  obtain ⟨sp, hsp, hf⟩ := Option.bind_eq_some_iff.mp hf
  obtain ⟨rm, hrm, hf⟩ := Option.bind_eq_some_iff.mp hf
  have hnn : 0 ≤ pr.1 ∧ 0 ≤ pr.2 := by
    unfold needless? at hnd
    split at hnd
    · rename_i hc; exact ⟨hc.1, hc.2.1⟩
    · cases hnd
  obtain ⟨vf, hvf, S'⟩ := S'.polyAt (vs := ys) (ps := bsx) (p := f) (by walk_at "mem2") ef
  obtain ⟨vg, hvg, S'⟩ := S'.polyAt (vs := ys) (ps := bsx) (p := g) (by walk_at "mem2") eg
  walk_at "go"
  refine ldL S' rfl rfl (by exact hm3) ?_
  walk_at "go"
  refine iIadd (by assumption) fun t5 s' S' => ?_
  walk_at "go"
  rw [if_neg (by simpa using hdm)]
  walk_at "go"
  refine lSub (vs := ys) (x := vf) (by assumption) (.own (by walk_at "mem")) hnn.1 (lt63 (by lia) ef) hvf (fun _ => rfl) ?_
  walk_at "go"
  refine lSub (vs := ys) (x := vg) (by assumption) (.own (by walk_at "mem")) hnn.2 (lt63 (by lia) eg) hvg (fun _ => rfl) ?_
  walk_at "go"
  refine useOwnB (p := sp) (by assumption) (fun b B => does_spoly (r'.le (by decide)) B.bs B.pg ((Rd.fact (p := f) (by walk_at "mem2")).at B) ((Rd.fact (p := g) (by walk_at "mem2")).at B) hsp) fun dsp s' S' => ?_
  walk_at "go"
  refine useOwnB (p := rm) S' (fun b B => does_restof r' B.bs B.pg ((Rd.own List.mem_cons_self).at B) ((Ld.own (l := D) (by walk_at "mem")).at B) (B.facts (.polys ys bsx) (by walk_at "mem2")) hrm) fun dr s' S' => ?_
  walk_at "go"
  split at hf
  · cases hf
  rename_i hrz
  have hrz := Classical.not_not.mp hrz
  refine dLen (p := rm) (by assumption) (.own List.mem_cons_self) hrz fun tr s' S' => ?_
  walk_at "go"
  rename_i s' S'
  by_cases hr0 : rm.length = 0
  · rw [if_pos hr0] at hf
    rw [if_neg (by simp [hr0])]
    walk_at "go"
    show codeAny _ _ _ _ _
    exact ih (done + 1) bsx lq wt' ys ws rs D4 _ _ s' _ (S'.weaken (fun _ h => h) (.cons _ (.cons _ (List.Sublist.refl _)))) hf rfl (by exact hm2) ⟨_, rfl⟩ (by exact hm4) (by exact hc1) (by exact hc2) (by walk_at "mem2") (by walk_at "mem2") (by walk_at "mem2")
  rw [if_neg hr0] at hf
  rw [if_pos (by simp; lia)]
  obtain ⟨q, hq, hf⟩ := Option.bind_eq_some_iff.mp hf
  obtain ⟨tt, htt, hf⟩ := Option.bind_eq_some_iff.mp hf
  walk_at "go"
  -- waiting.extend
  refine mMeth (pl := _) F.plainAttrs_list F.slot_list_extend F.type_list_extend (by rfl) rfl rfl ?_
  walk_at "go"
  refine mtList (vs := rs) S' (by walk_at "mem") ?_
  walk_at "go"
  refine listCompEG rfl (by decide) rfl (by decide) (clc rfl cln) (fun _ => rfl) (fun K5 hK5 => ?_)
  walk_at "go"
  refine lLenL (vs := ys) S' (.own (by walk_at "mem")) (by lia) fun tn s' S' => ?_
  walk_at "go"
  rw [hyl]
  refine rng1 S' fun ra s' S' => ?_
  refine ih_rngN S' List.mem_cons_self (by lia) fun I3 s3 S3 => ?_
  refine hK5 _ _ ?_
  refine CompGo.mk [rngN I3 0 bsx.length] _ S3 fun D3 C3 b₆ s₆ hk₆ pg₆ S₆ k₆ R5 hR5 => ?_
  have hld3 : ∀ {P O}, Ld s3 [I3] P O (.ref D) ys := .base (Ld.now (.own (by walk_at "mem")) S3) (fun l' e => by
    cases e
    obtain ⟨b3, B3⟩ := S3
    have := (List.pairwise_cons.mp B3.oap).1 (Ow.list D ys) (by walk_at "mem")
    simpa using fun e => this e.symm)
  refine compStart_ rfl rfl rfl (fun Q E hq => ih_rngNI S₆ (List.mem_cons_of_mem _ List.mem_cons_self) hq) ?_
  refine (?_ : ∀ (r : Nat) (j : Nat) (ps : List Value) (m : Str → Option Value) (s' : Shared) (P : List As), j + r = bsx.length → As.iss ps (((pairsRow bsx.length).take j).map dM) ∈ P →
    St PR w _ _ b₆ _ false m _ P [rngN I3 j bsx.length, Ow.list D3 ps] s' → codeAny (model PR w) A' _ _ s') bsx.length 0 [] _ s₆ _ (by lia) List.mem_cons_self ((S₆.iss0).perm (List.Perm.swap ..))
  clear S₆
  intro r
  induction r with
  | succ r ih2 =>
    intro j ps m s' P hj hP S'
    refine comp_stepL (nextName (nx_rngN S' (by lia) fun tj s' S' => ?_))
    refine wpAny_assign_Name ?_
    walk_at "go"
    refine lLenL (vs := ys) (by assumption) hld3 (by lia) fun tn s' S' => ?_
    walk_at "go"
    rw [hyl]
    refine mkTup (ds := [.int j, .int bsx.length]) (by assumption) (.cons .int (.cons .int .nil)) (Nat.le_of_ble_eq_true rfl) fun v s' S' => ?_
    have hpl := S'.issLen (vs := ps) (ds := ((pairsRow bsx.length).take j).map dM) (by walk_at "mem2")
    have S' := S'.issApp (vs := ps) (ds := ((pairsRow bsx.length).take j).map dM) (by walk_at "mem2") List.mem_cons_self
    refine appO S' (.tail .head) (by simp [pairsRow_len] at hpl; lia) fun s' S' => ?_
    refine ih2 (j + 1) _ _ s' _ (by lia) ?_ S'
    have e : (((pairsRow bsx.length).take (j + 1)).map dM) = (((pairsRow bsx.length).take j).map dM) ++ [.tup [.int j, .int bsx.length]] := by
      have e2 : (pairsRow bsx.length)[j]? = some ((j : Int), (bsx.length : Int)) := by unfold pairsRow; rw [List.getElem?_map, List.getElem?_range (by lia)]; rfl
      rw [List.take_add_one, e2]
      simp [dM]
    rw [e]
    exact List.mem_cons_self
  | zero =>
  intro j ps2 m2 s' P2 hj hP S'
  have ej : (pairsRow bsx.length).take j = pairsRow bsx.length := List.take_of_length_le (by rw [pairsRow_len]; lia)
  rw [ej] at hP
  refine comp_stepL (nextName (nx_rngNE S' r'.handled (by lia) fun s' S' => ?_))
  walk_at "outR"
  refine EndE.mk ps2 [As.iss ps2 ((pairsRow bsx.length).map dM)] [] S' (fun b hb => mems1 (hb _ hP)) fun s' S' => ?_
  simp only [List.nil_append, List.cons_append, List.append_nil] at S'
  walk_at "go"
  have hrl := S'.issLen (vs := rs) (ds := wt'.map dM) (by walk_at "mem2")
  have hp2l := S'.issLen (vs := ps2) (ds := (pairsRow bsx.length).map dM) (by walk_at "mem2")
  rw [List.length_map] at hrl hp2l
  rw [pairsRow_len] at hp2l
  have hwl' : wt'.length ≤ wt.length := by rw [← hwt']; exact List.length_filter_le _ _
  have S' := S'.issApp2 (vs := rs) (ws := ps2) (ds := wt'.map dM) (es := (pairsRow bsx.length).map dM) (by walk_at "mem2") (by walk_at "mem2")
  rw [← List.map_append] at S'
  refine extO S' (.tail (.tail (.tail (.tail .head)))) (.own (by walk_at "mem")) (by lia) fun s' S' => ?_
  walk_at "go"
  -- basis.append
  refine mMeth (pl := _) F.plainAttrs_list F.slot_list_append F.type_list_append (by rfl) rfl rfl ?_
  walk_at "go"
  refine mtList (vs := ys) S' (by walk_at "mem") ?_
  walk_at "go"
  refine useOwnB (p := q) S' (fun b B => does_mvmonic (r'.le (by decide)) B.bs B.pg ((Rd.own (d := dr) (by walk_at "mem")).at B) hq) fun dq s' S' => ?_
  have S' := S'.frzX noD
  have S' := S'.polys1 List.mem_cons_self
  have S' := S'.polysApp (vs := ys) (ps := bsx) (by walk_at "mem2") List.mem_cons_self
  walk_at "go"
  refine appO S' (.tail (.tail (.tail (.tail (.tail (.tail .head)))))) (by lia) fun s' S' => ?_
  walk_at "go"
  -- leads.append
  refine mMeth (pl := _) F.plainAttrs_list F.slot_list_append F.type_list_append (by rfl) rfl rfl ?_
  walk_at "go"
  refine mtList (vs := ws) S' (by walk_at "mem") ?_
  walk_at "go"
  refine useIsB (d := dLead (mlead o rm)) S' (fun b B => does_mvlead (r'.le (by decide)) B.bs B.pg ((Rd.own (d := dr) (by walk_at "mem")).at B)) fun vl s' S' => ?_
  rw [htt] at S'
  walk_at "go"
  refine subD (ds := [dM tt.1, dR tt.2]) (by assumption) (show As.is vl (dLead (some tt)) ∈ _ by walk_at "mem") (by decide) (by decide) (d := dM tt.1) rfl (fun _ => rfl) fun v3 S' => ?_
  have S' := S'.issApp (vs := ws) (ds := lq.map dM) (by walk_at "mem2") List.mem_cons_self
  rw [show lq.map dM ++ [dM tt.1] = (lq ++ [tt.1]).map dM by rw [List.map_append]; rfl] at S'
  walk_at "go"
  refine appO S' (.tail (.tail (.tail (.tail (.tail .head))))) (by lia) fun s' S' => ?_
  walk_at "go"
  rename_i s' S'
  show codeAny _ _ _ _ _
  exact ih (done + 1) (bsx ++ [q]) (lq ++ [tt.1]) (wt' ++ pairsRow bsx.length) (ys ++ [.ref dq]) (ws ++ [v3]) (rs ++ ps2) D4 _ _ s' _ (S'.weaken (fun _ h => h) (.cons _ (.cons _ (.cons _ (.cons _ (List.Sublist.refl _)))))) hf rfl (by exact hm2) ⟨_, rfl⟩ (by exact hm4) (by exact hc1) (by exact hc2) (by walk_at "mem2") (by walk_at "mem2") (by walk_at "mem2")
end
end
section
set_option maxRecDepth 100000

open PySem PySem.W PyProof.Rows PySem.Calls

section
variable {w : World} {s : Shared} {b : Heap} {A : Around}

set_option maxHeartbeats 8000000 in
theorem does_ismember (r : Room A 9) (k : Keep b s.heap) (pg : Pg w b) {v1 v2 : Value} {f : Poly} {gs : List Poly} {vs : List Value} {o : Ord} {t : Tok} {x : Bool} (h1 : DictAt PR w b s.heap v1 f) (h2 : ListAt s.heap v2 vs) (h3 : Polys PR w b vs gs) (hp : ismem? o f gs = some x) :
    Does PR w A s [] b (call (.ref 273) [v1, v2, .str o.nm t]) (RBool x) := by
  refine def0 r F273.2 k pg [As.polys vs gs] (mems1 h3) [("f", v1), ("basis", v2), ("order", .str o.nm t)] rfl (fun s₁ L Q0 cm0 hC S => ?_)
  have r' := r.deeper (callEnvC F273.1 L 273)
  generalize hA : A.deeper (callEnvC F273.1 L 273) = A' at r' ⊢
  have hld : ∀ {P O}, Ld s [] P O v2 vs := .base h2 noDD
  unfold ismem? at hp
  obtain ⟨rs, hrs, hp⟩ := Option.bind_eq_some_iff.mp hp
  split at hp
  case isFalse => cases hp
  rename_i hz
  simp only [Option.some.injEq] at hp
  walk_at "go"
  refine useOwnB (p := rs) (by assumption) (fun b B => does_restof r' B.bs B.pg ((Rd.base h1 noDD).at B) (hld.at B) (B.facts (.polys vs gs) (by walk_at "mem")) hrs) fun d s S => ?_
  walk_at "go"
  refine dLen S (.own List.mem_cons_self) hz fun tl s S => ?_
  walk_at "go"
  have e : ((rs.length : Int) == 0) = x := by rw [← hp, Bool.eq_iff_iff]; simp
  walk_at "out"
  rw [e]
  exact St.end0 (by assumption) ⟨rfl, rfl, rfl⟩

set_option maxHeartbeats 16000000 in
theorem does_isbasis (r : Room A 9) (k : Keep b s.heap) (pg : Pg w b) {v1 : Value} {gs : List Poly} {vs : List Value} {o : Ord} {t : Tok} {x : Bool} (h2 : ListAt s.heap v1 vs) (h3 : Polys PR w b vs gs) (hp : isbasis? o gs = some x) :
    Does PR w A s [] b (call (.ref 266) [v1, .str o.nm t]) (RBool x) := by
  refine def0 r F266.2 k pg [As.polys vs gs] (mems1 h3) [("some", v1), ("order", .str o.nm t)] rfl (fun s₁ L Q0 cm0 hC S => ?_)
  have r' := r.deeper (callEnvC F266.1 L 266)
  generalize hA : A.deeper (callEnvC F266.1 L 266) = A' at r' ⊢
  have hlen : vs.length = gs.length := h3.length
  have hld : ∀ {P O}, Ld s [] P O v1 vs := .base h2 noDD
  obtain ⟨l, rfl⟩ := hld.ref S
  unfold isbasis? at hp
  split at hp
  case isFalse => cases hp
  rename_i hc
  obtain ⟨hall, hgz⟩ := hc
  walk_at "go"
  -- good
  refine listCompAG rfl rfl (by decide) rfl (by decide) cln (fun _ => rfl) rfl (fun K1 hK1 => ?_)
  walk_at "go"
  refine ih_list S (hld.isL S) fun I sI hI SI _ => ?_
  refine hK1 _ _ ?_
  refine CompGo.mk [ilst I l 0] [] SI fun D C b₄ s₄ hk₄ pg₄ S₄ k₄ R1 hR1 => ?_
  have hld' : ∀ {P O}, Ld sI [I] P O (.ref l) vs := .base (hld.now SI) (fun l' e => by cases e; simpa using hI)
  refine compStart_ rfl rfl rfl (fun Q E hq => ih_ilst S₄ (List.mem_cons_of_mem _ List.mem_cons_self) hq) ?_
  refine (?_ : ∀ (r : List Poly) (i : Nat) (ys : List Value) (m : Str → Option Value) (s' : Shared) (P : List As), i ≤ gs.length → gs.drop i = r → As.polys ys (good (gs.take i)) ∈ P → As.polys vs gs ∈ P →
    St PR w _ _ b₄ _ false m _ P [ilst I l i, Ow.list D ys] s' → codeAny (model PR w) A' _ _ s') gs 0 [] _ s₄ _ (Nat.zero_le _) rfl List.mem_cons_self (List.mem_cons_of_mem _ (by walk_at "mem")) ((S₄.polys0).perm (List.Perm.swap ..))
  clear S₄
  intro r
  induction r with
  | cons e r ih =>
    intro i ys m s' P hi hd hP1 hP2 S'
    obtain ⟨h3, h4, h5⟩ := drop_cons hd
    obtain ⟨v, hv, S'⟩ := S'.polyAt (j := i) (p := e) hP2 h3
    have hez : e.length ≤ 1000000 := by simpa using List.all_eq_true.mp hall e (List.mem_of_getElem? h3)
    have e1 : good (gs.take (i + 1)) = good (gs.take i) ++ (if decide (0 < e.length) = true then [e] else []) := by
      unfold good
      rw [List.take_add_one, h3, List.filter_append]
      congr 1
      show List.filter _ [e] = _
      rw [List.filter_cons, List.filter_nil]
    refine comp_stepL1 (nextName (nx_list S' (hld'.isL S') (arr_at hv) fun s' S' => ?_))
    refine wpAny_assign_Name ?_
    walk_at "go"
    refine dLen (p := e) (by assumption) (.fact (by walk_at "mem")) hez fun tl s' S' => ?_
    walk_at "go"
    rename_i s' S'
    by_cases h0 : 0 < e.length
    · rw [if_pos (by simpa using h0)] at e1
      rw [if_pos (by simp; lia)]
      walk_at "go"
      have hyl := S'.polysLen (vs := ys) (ps := good (gs.take i)) (by walk_at "mem2")
      have hgl : (good (gs.take i)).length ≤ i := by
        unfold good
        have h1 := List.length_filter_le (fun p : Poly => decide (0 < p.length)) (gs.take i)
        rw [List.length_take] at h1
        lia
      have S' := S'.polys1 (v := v) (p := e) (by walk_at "mem2")
      have S' := S'.polysApp (vs := ys) (ps := good (gs.take i)) (by walk_at "mem2") List.mem_cons_self
      refine appO S' (.tail .head) (by lia) fun s' S' => ?_
      exact ih (i + 1) _ _ s' _ h5 h4 (by rw [e1]; exact List.mem_cons_self) (by walk_at "mem2") S'
    · rw [if_neg (by simpa using h0)] at e1
      rw [if_neg (by rw [show e.length = 0 by lia]; decide)]
      exact ih (i + 1) _ _ s' _ h5 h4 (by rw [e1, List.append_nil]; walk_at "mem2") (by walk_at "mem2") S'
  | nil =>
  intro i ys m s' P hi hd hP1 hP2 S'
  have hil := drop_nil hi hd
  subst hil
  rw [List.take_length] at hP1
  refine comp_stepL1 (nextName (nx_listE S' r'.handled (hld'.isL S') (arr_end hlen.symm) fun s' S' => ?_))
  walk_at "outR"
  refine EndA.mk ys [As.polys ys (good gs)] [] S' (fun b hb => mems1 (hb _ hP1)) fun C' m' s' S' => ?_
  refine stAG (y := "good") S' rfl rfl fun s' S' => ?_
  simp only [List.nil_append, List.cons_append, List.append_nil] at S'
  have S' := S'.frzL noD
  have hyl := S'.polysLen (vs := ys) (ps := good gs) (by walk_at "mem2")
  have hgl : (good gs).length ≤ 1000 := Nat.le_trans (by unfold good; exact List.length_filter_le _ _) hgz
  walk_at "go"
  -- the loop
  refine forS (fun R hR => ?_) (fun _ => rfl)
  walk_at "go"
  refine mk_enuL S' (Ld.isL (vs := ys) (.fact (by walk_at "mem")) S') fun en it s₂ S₂ k₂ => ?_
  refine ih_enu S₂ List.mem_cons_self ?_
  refine (?_ : ∀ (r : List Poly) (i : Nat) (m : Str → Option Value) (s' : Shared) (P : List As), i ≤ (good gs).length → (good gs).drop i = r → isbOut? o (good gs) i r = some x →
    m "good" = some (.ref D) → m "order" = some (.str o.nm t) → As.polys ys (good gs) ∈ P → As.lst (.ref D) ys ∈ P →
    St PR w s [] b (callEnvC F266.1 L 266) true m _ P [ienu en it i, ilst it D i] s' → codeAny (model PR w) A' _ _ s') (good gs) 0 _ s₂ _ (Nat.zero_le _) rfl hp rfl rfl (by walk_at "mem") (by walk_at "mem") S₂
  clear S₂ S'
  intro r
  induction r with
  | nil =>
    intro i m s' P hi hd hf hm1 hm2 hP1 hP2 S'
    refine forG (nx_enuLE S' r'.handled (Ld.isL (vs := ys) (.fact hP2) S') (arr_end (by rw [hyl]; exact drop_nil hi hd)) fun s' S' => ?_)
    walk_at "go"
    have hf : some true = some x := hf
    cases hf
    walk_at "out"
    exact S'.end0 ⟨rfl, rfl, rfl⟩
  | cons e r ih =>
    intro i m s' P hi hd hf hm1 hm2 hP1 hP2 S'
    obtain ⟨h3, h4, h5⟩ := drop_cons hd
    obtain ⟨v, hv, S'⟩ := S'.polyAt (j := i) (p := e) hP1 h3
    unfold isbOut? at hf
    obtain ⟨bb, hbb, hf⟩ := Option.bind_eq_some_iff.mp hf
    refine forG (nx_enuL S' (Ld.isL (vs := ys) (.fact (by walk_at "mem2")) S') (arr_at hv) rfl fun t' v' s' S' => ?_)
    refine assign2 r'.handled S' (by walk_at "mem") fun s' S' => ?_
    walk_at "go"
    rename_i s' S'
    refine forS (fun R hR => ?_) (fun _ => rfl)
    refine lSlc (fun _ _ => rfl) ?_
    walk_at "go"
    refine ⟨i, _, ys, rfl, _, _, _, _, _, _, _, _, S', .fact (by walk_at "mem2"), by lia, fun DS s' S' => ?_⟩
    refine ih_list S' (Ld.isL (vs := ys.take i) (.own (by walk_at "mem")) S') fun I2 s2 hI2 S' _ => ?_
    refine (?_ : ∀ (r2 : List Poly) (j : Nat) (m : Str → Option Value) (s' : Shared) (P : List As), j ≤ i → ((good gs).take i).drop j = r2 → isbIn? o (good gs) e r2 = some bb →
      m "good" = some (.ref D) → m "order" = some (.str o.nm t) → m "one" = some v → As.polys ys (good gs) ∈ P → As.lst (.ref D) ys ∈ P → As.poly v e ∈ P →
      St PR w s [] b (callEnvC F266.1 L 266) true m _ P [ilst I2 DS j, Ow.list DS (ys.take i), ienu en it (i + 1), ilst it D (i + 1)] s' → codeAny (model PR w) A' _ _ s') ((good gs).take i) 0 _ s2 _ (Nat.zero_le _) rfl hbb (by exact hm1) (by exact hm2) rfl (by walk_at "mem2") (by walk_at "mem2") (by walk_at "mem2") S'
    clear S'
    intro r2
    have htl : ((good gs).take i).length = i := by rw [List.length_take]; lia
    have htl2 : (ys.take i).length = i := by rw [List.length_take]; lia
    induction r2 with
    | nil =>
      intro j m s' P hj hd hg hm1 hm2 hm3 hP1 hP2 hP3 S'
      have hg : some true = some bb := hg
      cases hg
      rw [if_pos rfl] at hf
      have hjl := drop_nil (by rw [htl]; exact hj) hd
      refine forG (nextName (nx_listE S' r'.handled (Ld.isL (vs := ys.take i) (.own (by walk_at "mem")) S') (arr_end (by rw [htl2]; lia)) fun s' S' => ?_))
      walk_at "go"
      show codeAny _ _ _ _ _
      exact ih (i + 1) m s' P h5 h4 hf hm1 hm2 hP1 hP2 (S'.weaken (fun _ h => h) (List.sublist_cons_self _ _))
    | cons g r2 ih2 =>
      intro j m s' P hj hd hg hm1 hm2 hm3 hP1 hP2 hP3 S'
      obtain ⟨h6, h7, h8⟩ := drop_cons hd
      have h6' : (good gs)[j]? = some g := by
        rw [List.getElem?_take] at h6
        split at h6
        · exact h6
        · cases h6
      obtain ⟨vg, hvg, S'⟩ := S'.polyAt (j := j) (p := g) hP1 h6'
      have hvg' : (ys.take i)[j]? = some vg := by rw [List.getElem?_take, if_pos (by lia)]; exact hvg
      unfold isbIn? at hg
      obtain ⟨sp, hsp, hg⟩ := Option.bind_eq_some_iff.mp hg
      obtain ⟨rm, hrm, hg⟩ := Option.bind_eq_some_iff.mp hg
      split at hg
      · cases hg
      rename_i hrz
      have hrz := Classical.not_not.mp hrz
      refine forG (nextName (nx_list S' (Ld.isL (vs := ys.take i) (.own (by walk_at "mem")) S') (arr_at hvg') fun s' S' => ?_))
      refine wpAny_assign_Name ?_
      walk_at "go"
      refine useOwnB (p := sp) (by assumption) (fun b B => does_spoly (r'.le (by decide)) B.bs B.pg ((Rd.fact (v := v) (p := e) (by walk_at "mem2")).at B) ((Rd.fact (v := vg) (p := g) (by walk_at "mem2")).at B) hsp) fun dsp s' S' => ?_
      walk_at "go"
      refine useOwnB (p := rm) S' (fun b B => does_restof r' B.bs B.pg ((Rd.own List.mem_cons_self).at B) ((Ld.fact (v := .ref D) (vs := ys) (by walk_at "mem2")).at B) (B.facts (.polys ys (good gs)) (by walk_at "mem2")) hrm) fun dr s' S' => ?_
      walk_at "go"
      refine dLen (p := rm) S' (.own List.mem_cons_self) hrz fun tr s' S' => ?_
      walk_at "go"
      rename_i s' S'
      by_cases hr0 : rm.length = 0
      · rw [if_pos hr0] at hg
        rw [if_neg (by simp [hr0])]
        walk_at "go"
        show codeAny _ _ _ _ _
        exact ih2 (j + 1) _ s' _ (by rw [htl] at h8; exact h8) h7 hg (by exact hm1) (by exact hm2) (by exact hm3) (by walk_at "mem2") (by walk_at "mem2") (by walk_at "mem2") (S'.weaken (fun _ h => h) (.cons _ (.cons _ (List.Sublist.refl _))))
      · rw [if_neg hr0] at hg
        cases hg
        have hf : some false = some x := hf
        cases hf
        rw [if_pos (by simp; lia)]
        walk_at "go"
        walk_at "out"
        exact S'.end0 ⟨rfl, rfl, rfl⟩
end
end
section
set_option maxRecDepth 100000

open PySem PySem.W PyProof.Rows PySem.Calls

theorem bools_snoc {b : Bool} : ∀ {vs : List Value} {bs : List Bool}, LSm.BoolsAre vs bs → LSm.BoolsAre (vs ++ [.bool b]) (bs ++ [b])
  | _, _, .nil => .cons _ .nil
  | _, _, .cons b' h => .cons b' (bools_snoc h)
section
variable {w : World} {s : Shared} {b : Heap} {A : Around}

set_option maxHeartbeats 8000000 in
theorem does_iswhole (r : Room A 1) (k : Keep b s.heap) (pg : Pg w b) {v1 : Value} {gs : List Poly} {vs : List Value} {x : Bool} (h2 : ListAt s.heap v1 vs) (h3 : Polys PR w b vs gs) (hp : iswhole? gs = some x) :
    Does PR w A s [] b (call (.ref 278) [v1]) (RBool x) := by
  refine def0 r F278.2 k pg [As.polys vs gs] (mems1 h3) [("basis", v1)] rfl (fun s₁ L Q0 cm0 hC S => ?_)
  have r' := r.deeper (callEnvC F278.1 L 278)
  generalize hA : A.deeper (callEnvC F278.1 L 278) = A' at r' ⊢
  have hlen : vs.length = gs.length := h3.length
  have hld : ∀ {P O}, Ld s [] P O v1 vs := .base h2 noDD
  obtain ⟨l, rfl⟩ := hld.ref S
  unfold iswhole? at hp
  split at hp
  case isFalse => cases hp
  rename_i hc
  obtain ⟨hall, hgz⟩ := hc
  simp only [Option.some.injEq] at hp
  walk_at "go"
  refine listCompEG rfl (by decide) rfl (by decide) cln (fun _ => rfl) (fun K1 hK1 => ?_)
  walk_at "go"
  refine ih_list S (hld.isL S) fun I sI hI SI _ => ?_
  refine hK1 _ _ ?_
  refine CompGo.mk [ilst I l 0] [] SI fun D C b₄ s₄ hk₄ pg₄ S₄ k₄ R1 hR1 => ?_
  have hld' : ∀ {P O}, Ld sI [I] P O (.ref l) vs := .base (hld.now SI) (fun l' e => by cases e; simpa using hI)
  refine compStart_ rfl rfl rfl (fun Q E hq => ih_ilst S₄ (List.mem_cons_of_mem _ List.mem_cons_self) hq) ?_
  refine (?_ : ∀ (r : List Poly) (i : Nat) (ys : List Value) (m : Str → Option Value) (s' : Shared) (P : List As), i ≤ gs.length → gs.drop i = r → LSm.BoolsAre ys ((gs.take i).map isOne) → As.polys vs gs ∈ P →
    St PR w _ _ b₄ _ false m _ P [ilst I l i, Ow.list D ys] s' → codeAny (model PR w) A' _ _ s') gs 0 [] _ s₄ _ (Nat.zero_le _) rfl .nil (by walk_at "mem") (S₄.perm (List.Perm.swap ..))
  clear S₄
  intro r
  induction r with
  | cons e r ih =>
    intro i ys m s' P hi hd hB hP2 S'
    obtain ⟨h3, h4, h5⟩ := drop_cons hd
    obtain ⟨v, hv, S'⟩ := S'.polyAt (j := i) (p := e) hP2 h3
    have hez : e.length ≤ 1000000 := by simpa using List.all_eq_true.mp hall e (List.mem_of_getElem? h3)
    have hyl : ys.length = i := by rw [hB.length, List.length_map, List.length_take]; lia
    have e1 : (gs.take (i + 1)).map isOne = (gs.take i).map isOne ++ [isOne e] := by rw [List.take_add_one, h3]; simp
    have hB2 : ∀ b, isOne e = b → LSm.BoolsAre (ys ++ [.bool b]) ((gs.take (i + 1)).map isOne) := fun b hb => by
      rw [e1, hb]
      exact bools_snoc hB
    refine comp_stepL (nextName (nx_list S' (hld'.isL S') (arr_at hv) fun s' S' => ?_))
    refine wpAny_assign_Name ?_
    walk_at "go"
    refine dLen (p := e) (by assumption) (.fact (by walk_at "mem")) hez fun tl s' S' => ?_
    walk_at "go"
    rename_i s' S'
    by_cases h1 : e.length = 1
    · rw [if_pos (by rw [h1]; decide)]
      obtain ⟨e0, rfl⟩ := List.length_eq_one_iff.mp h1
      walk_at "go"
      refine dList r'.handled S' (.fact (p := [e0]) (by walk_at "mem2")) hez fun al vl s' S' => ?_
      walk_at "go"
      rename_i s' S'
      obtain ⟨v0, hv0, S'⟩ := S'.issAt (vs := vl) (ds := ([e0].map (·.1)).map dM) (j := 0) (d := dM e0.1) (by walk_at "mem") rfl
      refine lSub (vs := vl) (x := v0) S' (.own (by walk_at "mem")) (by decide) (by decide) hv0 (fun _ => rfl) ?_
      walk_at "go"
      refine bSumM r'.handled S' List.mem_cons_self fun t s' S' => ?_
      walk_at "go"
      rename_i s' S'
      refine appO S' (.tail (.tail .head)) (by lia) fun s' S' => ?_
      exact ih (i + 1) _ _ s' _ h5 h4 (hB2 _ rfl) (by walk_at "mem2") (S'.weaken (fun _ h => h) (.cons _ (List.Sublist.refl _)))
    · have hne : ((e.length : Int) == 1) = false := by rw [beq_eq_false_iff_ne]; lia
      rw [hne, if_neg (by decide)]
      refine appO S' (.tail .head) (by lia) fun s' S' => ?_
      exact ih (i + 1) _ _ s' _ h5 h4 (hB2 false (by
        match e, h1 with
        | [], _ => rfl
        | [_], h1 => exact absurd rfl h1
        | _ :: _ :: _, _ => rfl)) (by walk_at "mem2") S'
  | nil =>
  intro i ys m s' P hi hd hB hP2 S'
  have hil := drop_nil hi hd
  subst hil
  rw [List.take_length] at hB
  refine comp_stepL (nextName (nx_listE S' r'.handled (hld'.isL S') (arr_end hlen.symm) fun s' S' => ?_))
  walk_at "outR"
  refine EndE.mk ys [] [] S' (fun b hb p hp => (nomatch hp)) fun s' S' => ?_
  walk_at "go"
  refine bAny r'.handled S' (.own List.mem_cons_self) hB fun s' S' => ?_
  have e : ((gs.map isOne).any id) = x := by rw [← hp, List.any_map]; rfl
  walk_at "out"
  rw [e]
  exact S'.end0 ⟨rfl, rfl, rfl⟩
end
end
section
set_option maxRecDepth 100000

open PySem PySem.W PyProof.Rows PySem.Calls

noncomputable def BoxOk (vs : List Value) (st : Int) : Prop := (∃ ns, IntsAre vs ns) ∧ vs.length ≤ 1000 ∧ 0 ≤ st ∧ st < 2147483647
theorem bits_small {x : Int} (h : x.natAbs < 2 ^ 31) : Builtin.Int.intBits x ≤ bitsCap := by
  unfold Builtin.Int.intBits
  split
  · exact Nat.zero_le _
  · rename_i hx
    have hne : x.natAbs ≠ 0 := by
      intro h0
      apply hx
      simp [Int.natAbs_eq_zero.mp h0]
    have := (Nat.log2_lt hne).mpr h
    exact Nat.le_trans this (by decide)
theorem fmod_in {a c : Int} (ha : 0 ≤ a) (hc : 0 < c) : 0 ≤ a.fmod c ∧ a.fmod c < c := by
  rw [Int.fmod_eq_emod_of_nonneg _ (by lia)]
  exact ⟨Int.emod_nonneg _ (by lia), Int.emod_lt_of_pos _ hc⟩
theorem fmod_in' {a c : Int} (hc : 0 < c) : 0 ≤ a.fmod c ∧ a.fmod c < c := by
  rw [Int.fmod_eq_emod_of_nonneg _ (by lia)]
  exact ⟨Int.emod_nonneg _ (by lia), Int.emod_lt_of_pos _ hc⟩

section
variable {w : World} {s : Shared} {b : Heap} {A : Around}

theorem frames_of {A : Around} {n : Nat} (r : Room A n) (e : Env) : ∃ l, (A.deeper e).frames = some (e :: l) := by
  obtain ⟨l, h⟩ := r.frames
  exact ⟨l, by show A.frames.map _ = _; rw [h]; rfl⟩

set_option maxHeartbeats 8000000 in
theorem does_take (r : Room A 1) (k : Keep b s.heap) (pg : Pg w b) {B L : Addr} {vs : List Value} {st wide : Int} {tk tw : Tok} (hB : (Ow.list B [.ref L, .int st tk]).on PR w b s.heap) (hL : (Ow.list L vs).on PR w b s.heap) (hBb : b.get? B = none) (hLb : b.get? L = none)
    (hne : B ≠ L) (hok : BoxOk vs st) (hw : 0 < wide) :
    Does PR w A s [B, L] b (call (.ref 285) [.ref B, .int wide tw]) (fun v F N => ∃ x t vs' st' t', v = .int x t ∧ 0 ≤ x ∧ x < wide ∧ BoxOk vs' st' ∧ F = [] ∧ N = [Ow.list B [.ref L, .int st' t'], Ow.list L vs']) := by
  refine def_ (O := [Ow.list B [.ref L, .int st tk], Ow.list L vs]) r F285.2 k pg (P := []) (fun _ h => (nomatch h)) ?_ ?_ ?_
    [("box", .ref B), ("wide", .int wide tw)] rfl (fun s₁ L' S => ?_)
  · intro x hx
    rcases List.mem_cons.mp hx with rfl | hx
    · exact ⟨hB, hBb⟩
    · obtain rfl := List.mem_singleton.mp hx
      exact ⟨hL, hLb⟩
  · intro x hx
    rcases List.mem_cons.mp hx with rfl | hx
    · exact List.mem_cons_self
    · obtain rfl := List.mem_singleton.mp hx
      exact List.mem_cons_of_mem _ List.mem_cons_self
  · exact List.pairwise_cons.mpr ⟨fun y hy => by obtain rfl := List.mem_singleton.mp hy; exact hne, List.pairwise_singleton _ _⟩
  have r' := r.deeper (callEnvC F285.1 L' 285)
  obtain ⟨lf, hfr⟩ := frames_of r (callEnvC F285.1 L' 285)
  generalize hA : A.deeper (callEnvC F285.1 L' 285) = A' at r' hfr ⊢
  obtain ⟨⟨ns, hI⟩, hvl, hs0, hs1⟩ := hok
  walk_at "go"
  rename_i S
  refine lSub (vs := [.ref L, .int st tk]) (x := .ref L) S (.own (by walk_at "mem")) (by decide) (by decide) rfl (fun _ => rfl) ?_
  walk_at "go"
  refine lLenL (vs := vs) S (.own (by walk_at "mem")) (by lia) fun tl s S => ?_
  walk_at "go"
  rename_i s S
  cases hI with
  | @cons n t vs' ns' hI =>
    rw [if_pos (by simp)]
    walk_at "go"
    refine mMeth (pl := _) F.plainAttrs_list F.slot_list_pop F.type_list_pop (by rfl) rfl rfl ?_
    walk_at "go"
    rename_i S
    refine lSub (vs := [.ref L, .int st tk]) (x := .ref L) S (.own (by walk_at "mem")) (by decide) (by decide) rfl (fun _ => rfl) ?_
    refine mtList (vs := .int n t :: vs') S (by walk_at "mem") ?_
    walk_at "go"
    refine popO (by assumption) (.tail .head) (by simp at hvl; lia) fun s S => ?_
    walk_at "go"
    refine bAbs S fun t s S => ?_
    walk_at "go"
    refine iMod S (by lia) fun t s S => ?_
    have hb := fmod_in (a := (n.natAbs : Int)) (c := wide) (by lia) hw
    walk_at "out"
    exact S.comes (F := []) (N := [Ow.list B [.ref L, .int st tk], Ow.list L vs']) ⟨_, _, vs', st, tk, rfl, hb.1, hb.2, ⟨⟨_, hI⟩, by simp at hvl; lia, hs0, hs1⟩, rfl, rfl⟩ (fun _ _ _ h => (nomatch h)) (List.Sublist.refl _)
  | nil =>
    rw [if_neg (by simp)]
    walk_at "go"
    refine wpAny_Assign_Subscript ?_
    walk_at "go"
    refine lSub (vs := [.ref L, .int st tk]) (x := .int st tk) (by assumption) (.own (by walk_at "mem")) (by decide) (by decide) rfl (fun _ => rfl) ?_
    walk_at "go"
    refine iMul (by assumption) (mulOk (bits_small (by lia)) (bits_small (by decide))) fun t s S => ?_
    walk_at "go"
    refine iMod (by assumption) (by decide) fun t2 s S => ?_
    have hb0 := fmod_in (a := st * 48271 + 17) (c := 2147483647) (by lia) (by decide)
    generalize (st * 48271 + 17).fmod 2147483647 = st' at hb0
    walk_at "go"
    refine setO (vs := [.ref L, .int st tk]) (k := 1) (by assumption) .head (by decide) (by decide) (by simp) fun s S => ?_
    have S : St PR w _ _ _ _ _ _ _ _ [Ow.list B [.ref L, .int st' t2], Ow.list L []] s := S
    walk_at "go"
    refine lSub (vs := [.ref L, .int st' t2]) (x := .int st' t2) (by assumption) (.own (by walk_at "mem")) (by decide) (by decide) rfl (fun _ => rfl) ?_
    walk_at "go"
    have hd : A'.depth + Builtin.pylongFrames < recursionLimit := by have := r'.depth; show A'.depth + 100 < _; lia
    refine iFdiv (by assumption) (by decide) hfr hd rfl rfl rfl rfl fun t3 s S => ?_
    walk_at "go"
    refine iMod (by assumption) (by lia) fun t4 s S => ?_
    have hb := fmod_in' (a := st'.fdiv 8) (c := wide) hw
    walk_at "out"
    exact S.comes (F := []) (N := [Ow.list B [.ref L, .int st' t2], Ow.list L []]) ⟨_, _, [], st', t2, rfl, hb.1, hb.2, ⟨⟨[], .nil⟩, by simp, hb0.1, hb0.2⟩, rfl, rfl⟩ (fun _ _ _ h => (nomatch h)) (List.Sublist.refl _)

theorem useTake {s₀ : Shared} {DD : List Addr} {b₀ : Heap} {env : Env} {cw : Bool} {m cm : Str → Option Value} {P : List As} {O O' : List Ow} {E : Value → Shared → Prop} {B L : Addr} {vs : List Value} {st wide : Int} {tk tw : Tok} {Q : Value → Shared → Prop}
    (S : St PR w s₀ DD b₀ env cw m cm P O s) (r : Room A 1) (hp : O.Perm (Ow.list B [.ref L, .int st tk] :: Ow.list L vs :: O')) (hok : BoxOk vs st) (hw : 0 < wide)
    (h : ∀ x t vs' st' t' s', 0 ≤ x → x < wide → BoxOk vs' st' → St PR w s₀ DD b₀ env cw m cm P (Ow.list B [.ref L, .int st' t'] :: Ow.list L vs' :: O') s' → Q (.int x t) s') :
    (Mine.hd.heap_1 w.params).In s.heap ∧ wpAny (model PR w) A (call (.ref 285) [.ref B, .int wide tw]) Q E s := by
  have S := S.perm hp
  refine ⟨S.inK, ?_⟩
  have hne : B ≠ L ∧ ∀ y ∈ O', y.a ≠ B ∧ y.a ≠ L := by
    obtain ⟨b, B1⟩ := S
    obtain ⟨h1, h2⟩ := List.pairwise_cons.mp B1.oap
    obtain ⟨h3, _⟩ := List.pairwise_cons.mp h2
    exact ⟨h1 _ List.mem_cons_self, fun y hy => ⟨fun e => h1 y (List.mem_cons_of_mem _ hy) e.symm, fun e => h3 y hy e.symm⟩⟩
  refine S.doesB (D' := [B, L]) (O' := O') (fun b B1 => does_take r B1.bs B1.pg (B1.own _ List.mem_cons_self).1 (B1.own _ (List.mem_cons_of_mem _ List.mem_cons_self)).1 (B1.own _ List.mem_cons_self).2.1 (B1.own _ (List.mem_cons_of_mem _ List.mem_cons_self)).2.1 hne.1 hok hw)
    (fun a ha => ?_) ((List.sublist_cons_self _ _).trans (List.sublist_cons_self _ _)) (fun x hx hm => ?_) fun v s' F N hR S' => ?_
  · rcases List.mem_cons.mp ha with rfl | ha
    · exact ⟨_, List.mem_cons_self, rfl⟩
    · obtain rfl := List.mem_singleton.mp ha
      exact ⟨_, List.mem_cons_of_mem _ List.mem_cons_self, rfl⟩
  · rcases List.mem_cons.mp hm with e | hm
    · exact (hne.2 x hx).1 e
    · exact (hne.2 x hx).2 (List.mem_singleton.mp hm)
  · obtain ⟨x, t, vs', st', t', rfl, h0, h1, h2, rfl, rfl⟩ := hR
    exact h x t vs' st' t' s' h0 h1 h2 S'

set_option maxHeartbeats 8000000 in
theorem does_box (r : Room A 1) (k : Keep b s.heap) (pg : Pg w b) {v1 : Value} {vs : List Value} {ns : List Int} {t1 t2 : Tok} (h1 : ListAt s.heap v1 vs) (hI : IntsAre vs ns) (hl : vs.length ≤ 1000) :
    Does PR w A s [] b (call (.ref 292) [v1, .int 24 t1, .int 11 t2]) (fun v F N => ∃ B L vs' st' t', v = .ref B ∧ BoxOk vs' st' ∧ F = [] ∧ N = [Ow.list B [.ref L, .int st' t'], Ow.list L vs']) := by
  refine def0 r F292.2 k pg [] (fun _ h => (nomatch h)) [("script", v1), ("much", .int 24 t1), ("seed", .int 11 t2)] rfl (fun s₁ L' Q0 cm0 hC S => ?_)
  have r' := r.deeper (callEnvC F292.1 L' 292)
  generalize hA : A.deeper (callEnvC F292.1 L' 292) = A' at r' ⊢
  have hld : ∀ {P O}, Ld s [] P O v1 vs := .base h1 noDD
  have hI24 : IntsAre (vs.take 24) (ns.take 24) := hI.take 24
  walk_at "go"
  rename_i s S
  refine forS (fun R hR => ?_) (fun _ => rfl)
  refine lSlc (fun _ _ => rfl) ?_
  walk_at "go"
  refine ⟨24, t1, vs, rfl, _, _, _, _, _, _, _, _, S, hld, by lia, fun DS s S => ?_⟩
  refine ih_list S (Ld.isL (vs := vs.take 24) (.own (by walk_at "mem")) S) fun I s hI S _ => ?_
  refine (?_ : ∀ (r : List Value) (i : Nat) (m : Str → Option Value) (s' : Shared) (st : Int), i ≤ (vs.take 24).length → (vs.take 24).drop i = r → 0 ≤ st → st < 2147483647 → (∃ t, m "stirred" = some (.int st t)) → m "script" = some v1 → m "much" = some (.int 24 t1) →
    St PR w _ _ _ (callEnvC F292.1 L' 292) true m _ [] [ilst I DS i, Ow.list DS (vs.take 24)] s' → codeAny (model PR w) A' _ _ s') (vs.take 24) 0 _ s 11 (Nat.zero_le _) rfl (by decide) (by decide) ⟨_, rfl⟩ rfl rfl S
  clear S
  intro r
  induction r with
  | nil =>
    intro i m s' st hi hd h0 h1 hm1 hm2 hm3 S
    obtain ⟨ts, hm1⟩ := hm1
    refine forG (nextName (nx_listE S r'.handled (Ld.isL (vs := vs.take 24) (.own (by walk_at "mem")) S) (arr_end (drop_nil hi hd)) fun s S => ?_))
    walk_at "go"
    refine ⟨24, t1, vs, rfl, _, _, _, _, _, _, _, _, S, hld, by lia, fun D2 s S => ?_⟩
    walk_at "go"
    refine lCopy S (.own List.mem_cons_self) (by rw [List.length_take]; lia) fun L s S => ?_
    walk_at "go"
    refine mkList S (Nat.le_of_ble_eq_true rfl) fun B s S => ?_
    walk_at "out"
    exact S.comes (F := []) (N := [Ow.list B [.ref L, .int st ts], Ow.list L (vs.take 24)]) ⟨B, L, _, st, ts, rfl, ⟨⟨_, hI24⟩, by rw [List.length_take]; lia, h0, h1⟩, rfl, rfl⟩ (fun _ _ _ h => (nomatch h)) (.cons₂ _ (.cons₂ _ (List.nil_sublist _)))
  | cons e r ih =>
    intro i m s' st hi hd h0 h1 hm1 hm2 hm3 S
    obtain ⟨ts, hm1⟩ := hm1
    obtain ⟨h3, h4, h5⟩ := drop_cons hd
    obtain ⟨n, t, rfl⟩ := hI24.all e (List.mem_of_getElem? h3)
    refine forG (nextName (nx_list S (Ld.isL (vs := vs.take 24) (.own (by walk_at "mem")) S) (arr_at h3) fun s S => ?_))
    refine wpAny_assign_Name ?_
    walk_at "go"
    refine iMul (by assumption) (mulOk (bits_small (by lia)) (bits_small (by decide))) fun t s S => ?_
    walk_at "go"
    refine iMod (by assumption) (by decide) fun t2 s S => ?_
    have hb0 := fmod_in' (a := st * 31 + n) (c := 2147483647) (by decide)
    walk_at "go"
    rename_i s S
    show codeAny _ _ _ _ _
    exact ih (i + 1) _ s _ h5 h4 hb0.1 hb0.2 ⟨_, rfl⟩ (by exact hm2) (by exact hm3) S
end
end
section
set_option maxRecDepth 100000

open PySem PySem.W PyProof.Rows PySem.Calls

theorem dR_int (n : Int) : (D.tup [.int n, .int 1]) = dR (n : Rat) := by unfold dR; simp

section
variable {w : World} {s : Shared} {b : Heap} {A : Around}

set_option maxHeartbeats 8000000 in
theorem does_zeroat (r : Room A 7) (k : Keep b s.heap) (pg : Pg w b) {B L : Addr} {vs ps : List Value} {v2 : Value} {st : Int} {tk th : Tok} {x y : Rat} {G : Poly → Prop} (hB : (Ow.list B [.ref L, .int st tk]).on PR w b s.heap) (hL : (Ow.list L vs).on PR w b s.heap) (hBb : b.get? B = none) (hLb : b.get? L = none)
    (hne : B ≠ L) (hok : BoxOk vs st) (hv : ListAt s.heap v2 ps) (hvn : ∀ l, v2 = .ref l → l ∉ [B, L]) (hps : IsL b [dR x, dR y] ps) (H : ∀ f, Fnd 2 f → ∃ c p, mvat? x y f = some c ∧ mvsub? f (mvterm (0, 0) c) = some p ∧ G p) :
    Does PR w A s [B, L] b (call (.ref 299) [.ref B, v2, .int 2 th]) (fun v F N => ∃ p d vs' st' t', G p ∧ v = .ref d ∧ BoxOk vs' st' ∧ F = [] ∧ N = [Ow.dict d p, Ow.list B [.ref L, .int st' t'], Ow.list L vs']) := by
  refine def_ (O := [Ow.list B [.ref L, .int st tk], Ow.list L vs]) r F299.2 k pg (P := [As.iss ps [dR x, dR y]]) (mems1 hps) ?_ ?_ ?_
    [("box", .ref B), ("point", v2), ("high", .int 2 th)] rfl (fun s₁ L' S => ?_)
  · intro x hx
    rcases List.mem_cons.mp hx with rfl | hx
    · exact ⟨hB, hBb⟩
    · obtain rfl := List.mem_singleton.mp hx
      exact ⟨hL, hLb⟩
  · intro x hx
    rcases List.mem_cons.mp hx with rfl | hx
    · exact List.mem_cons_self
    · obtain rfl := List.mem_singleton.mp hx
      exact List.mem_cons_of_mem _ List.mem_cons_self
  · exact List.pairwise_cons.mpr ⟨fun y hy => by obtain rfl := List.mem_singleton.mp hy; exact hne, List.pairwise_singleton _ _⟩
  have r' := r.deeper (callEnvC F299.1 L' 299)
  generalize hA : A.deeper (callEnvC F299.1 L' 299) = A' at r' ⊢
  walk_at "go"
  refine dNew (by assumption) fun D s₂ S => ?_
  walk_at "go"
  refine forS (fun R hR => ?_) (fun _ => rfl)
  walk_at "go"
  refine rng1 (by assumption) fun ra s₃ S => ?_
  refine ih_rngN (n := 2) S List.mem_cons_self (by decide) fun I s₄ S => ?_
  refine (?_ : ∀ (r : Nat) (i : Nat) (f : Poly) (m : Str → Option Value) (s' : Shared) (P : List As) (vs : List Value) (st : Int) (tk : Tok), i + r = 2 → Fnd i f → BoxOk vs st → As.iss ps [dR x, dR y] ∈ P →
    m "found" = some (.ref D) → m "box" = some (.ref B) → m "point" = some v2 → m "high" = some (.int 2 th) →
    St PR w s [B, L] b (callEnvC F299.1 L' 299) true m _ P [rngN I i 2, Ow.dict D f, Ow.list B [.ref L, .int st tk], Ow.list L vs] s' → codeAny (model PR w) A' _ _ s') 2 0 [] _ s₄ _ vs st tk rfl .zero hok (by walk_at "mem") rfl rfl rfl rfl (S.weaken (fun _ h => h) (.cons₂ _ (.cons _ (List.Sublist.refl _))))
  clear S
  intro r0
  induction r0 with
  | zero =>
    intro i f m s' P vs st tk hi hf hok hP hm1 hm2 hm3 hm4 S'
    have hi2 : i = 2 := by lia
    subst hi2
    obtain ⟨c, p, hc, hp, hG⟩ := H f hf
    refine forG (nextName (nx_rngNE S' r'.handled (by lia) fun s' S' => ?_))
    walk_at "go"
    refine useIsB (d := dR c) S' (fun b B1 => does_mvat (r'.le (by decide)) B1.bs B1.pg ((Rd.own List.mem_cons_self).at B1) ((Ld.base hv hvn).at B1) (B1.facts _ hP) hc) fun vc s' S' => ?_
    walk_at "go"
    refine useOwnB (p := mvterm (0, 0) c) (by assumption) (fun b B1 => does_mvnumber (r'.le (by decide)) B1.bs B1.pg (B1.facts (.is vc (dR c)) (by walk_at "mem"))) fun dn s' S' => ?_
    walk_at "go"
    refine useOwnB (p := p) S' (fun b B1 => does_mvsub r' B1.bs B1.pg ((Rd.own (List.mem_cons_of_mem _ List.mem_cons_self)).at B1) ((Rd.own List.mem_cons_self).at B1) hp) fun d s' S' => ?_
    walk_at "out"
    exact S'.comes (F := []) (N := [Ow.dict d p, Ow.list B [.ref L, .int st tk], Ow.list L vs]) ⟨p, d, vs, st, tk, hG, rfl, hok, rfl, rfl⟩ (fun _ _ _ h => (nomatch h)) (.cons₂ _ (.cons _ (.cons _ (List.Sublist.refl _))))
  | succ r0 ih =>
    intro i f m s' P vs st tk hi hf hok hP hm1 hm2 hm3 hm4 S'
    have hfl := hf.len
    refine forG (nextName (nx_rngN S' (by lia) fun ti s' S' => ?_))
    refine wpAny_assign_Name ?_
    walk_at "go"
    rename_i s' S'
    refine useTake S' (r'.le (by decide)) (List.perm_append_comm (l₁ := [_, _]) (l₂ := [_, _])) hok (by decide) fun a ta vs st tk s' ha0 ha1 hok S' => ?_
    walk_at "go"
    refine useTake S' (r'.le (by decide)) (List.Perm.refl _) hok (by decide) fun c tc vs st tk s' hc0 hc1 hok S' => ?_
    walk_at "go"
    refine mkTup (ds := [.int a, .int c]) S' (.cons .int (.cons .int .nil)) (Nat.le_of_ble_eq_true rfl) fun vp s' S' => ?_
    walk_at "go"
    rename_i s' S'
    refine useTake S' (r'.le (by decide)) (List.Perm.refl _) hok (by decide) fun e te vs st tk s' he0 he1 hok S' => ?_
    walk_at "go"
    rename_i s' S'
    have S' := S'.perm (List.perm_append_comm (l₁ := [_, _]) (l₂ := [_, _]))
    by_cases h0 : e - 2 = 0
    · rw [if_neg (by rw [h0]; decide)]
      walk_at "go"
      show codeAny _ _ _ _ _
      exact ih (i + 1) f _ _ _ vs st tk (by lia) (.skip hf) hok (by walk_at "mem2") (by exact hm1) (by exact hm2) (by exact hm3) (by exact hm4) S'
    · rw [if_pos (by simpa using h0)]
      walk_at "go"
      refine wpAny_Assign_Subscript ?_
      walk_at "go"
      refine mkTup (ds := [.int (e - 2), .int 1]) (by assumption) (.cons .int (.cons .int .nil)) (Nat.le_of_ble_eq_true rfl) fun vr s' S' => ?_
      walk_at "go"
      have hdr : (Mine.D.tup [.int (e - 2), .int 1]) = dR ((e - 2 : Int) : Rat) := dR_int _
      rw [hdr] at S'
      refine dSetItem (q := (a, c)) (c := ((e - 2 : Int) : Rat)) S' r'.u (.tail .head) (show As.is vp (.tup [.int a, .int c]) ∈ _ by walk_at "mem2") (by walk_at "mem2") (by lia) fun s' S' => ?_
      walk_at "go"
      show codeAny _ _ _ _ _
      exact ih (i + 1) _ _ _ _ vs st tk (by lia) (.put hf ha0 ha1 hc0 hc1 h0 (by lia) (by lia)) hok (by walk_at "mem2") (by exact hm1) (by exact hm2) (by exact hm3) (by exact hm4) S'
end
end
section
set_option maxRecDepth 100000

open PySem PySem.W PyProof.Rows PySem.Calls

theorem leadsAll_get {o : Ord} : ∀ {gs : List Poly} {ls : List (Mono × Rat)}, leadsAll? o gs = some ls → ls.length = gs.length ∧ ∀ (i : Nat) (e : Poly), gs[i]? = some e → ∃ t, ls[i]? = some t ∧ mlead o e = some t
  | [], ls, h => by
    have : some [] = some ls := h
    cases this
    exact ⟨rfl, fun i e he => by simp at he⟩
  | p :: r, ls, h => by
    unfold leadsAll? at h
    obtain ⟨t, ht, h⟩ := Option.bind_eq_some_iff.mp h
    obtain ⟨ls', h', rfl⟩ := Option.map_eq_some_iff.mp h
    obtain ⟨h1, h2⟩ := leadsAll_get h'
    refine ⟨by simp [h1], fun i e he => ?_⟩
    cases i with
    | zero => simp at he; subst he; exact ⟨t, rfl, ht⟩
    | succ i => simpa using h2 i e (by simpa using he)
noncomputable def fitsTo (q : Mono) (ls : List (Mono × Rat)) (n : Nat) : List Nat := (List.range n).filter fun i => match ls[i]? with
  | some t => mdiv t.1 q
  | none => false
theorem fitsTo_all {q : Mono} {ls : List (Mono × Rat)} : fitsTo q ls ls.length = fitsOf q ls := rfl
theorem fitsTo_succ {q : Mono} {ls : List (Mono × Rat)} {n : Nat} {t : Mono × Rat} (h : ls[n]? = some t) : fitsTo q ls (n + 1) = fitsTo q ls n ++ (if mdiv t.1 q = true then [n] else []) := by
  unfold fitsTo
  rw [List.range_succ, List.filter_append]
  congr 1
  rw [List.filter_cons, List.filter_nil, h]
theorem plook_of_mem {p : Poly} (hn : (p.map (·.1)).Nodup) {e : Mono × Rat} (he : e ∈ p) : plook p e.1 = some e.2 := by
  obtain ⟨i, hi⟩ := List.getElem?_of_mem he
  exact plook_at hn hi
theorem Rd.nodup {prog : Program} {w : World} {s₀ s : Shared} {DD : List Addr} {b₀ : Heap} {env : Env} {cw : Bool} {m cm : Str → Option Value} {P : List As} {O : List Ow} {v : Value} {p : Poly}
    (r : Rd prog w s₀ DD b₀ P O v p) (S : St prog w s₀ DD b₀ env cw m cm P O s) : (p.map (·.1)).Nodup := by
  obtain ⟨b, d, o, B, _, _, _, es, ep, xs, _, _, _, _, hn, he⟩ := r.get S
  exact he.nodup hn

section
variable {w : World} {s : Shared} {b : Heap} {A : Around}

set_option maxHeartbeats 16000000 in
theorem does_lrest (r : Room A 7) (k : Keep b s.heap) (pg : Pg w b) {v1 v2 : Value} {f : Poly} {gs : List Poly} {vs : List Value} {o : Ord} {t : Tok} {Q : Poly → Prop} (h1 : DictAt PR w b s.heap v1 f) (h2 : ListAt s.heap v2 vs) (h3 : Polys PR w b vs gs) (hp : LRest o f gs Q) :
    Does PR w A s [] b (call (.ref 304) [v1, v2, .str o.nm t]) (fun v F N => ∃ p d, Q p ∧ v = .ref d ∧ F = [] ∧ N = [Ow.dict d p]) := by
  refine def0c r F304.2 k pg [As.polys vs gs] (mems1 h3) [("f", v1), ("some", v2), ("order", .str o.nm t)] rfl (fun s₁ L Q0 hC S => ?_)
  have r' := r.deeper (callEnvC F304.1 L 304)
  generalize hA : A.deeper (callEnvC F304.1 L 304) = A' at r' ⊢
  have hlen : vs.length = gs.length := h3.length
  have hld : ∀ {P O}, Ld s [] P O v2 vs := .base h2 noDD
  obtain ⟨l, rfl⟩ := hld.ref S
  obtain ⟨hbx, hz, hgz, ls, hls, hrun⟩ := hp
  obtain ⟨hll, hlg⟩ := leadsAll_get hls
  walk_at "go"
  refine dCopy (by assumption) (.base h1 noDD) hbx hz fun LL s₂ S => ?_
  walk_at "go"
  rename_i s₃ S
  -- leads
  refine listCompAG rfl rfl (by decide) rfl (by decide) (clc rfl cln) (fun _ => rfl) rfl (fun K1 hK1 => ?_)
  walk_at "go"
  refine ih_list S (hld.isL S) fun I sI hI SI _ => ?_
  refine hK1 _ _ ?_
  refine CompGo.mk [ilst I l 0] _ SI fun D C b₄ s₄ hk₄ pg₄ S₄ k₄ R1 hR1 => ?_
  have hld' : ∀ {P O}, Ld sI [I] P O (.ref l) vs := .base (hld.now SI) (fun l' e => by cases e; simpa using hI)
  refine compStart_ rfl rfl rfl (fun Q E hq => ih_ilst S₄ (List.mem_cons_of_mem _ List.mem_cons_self) hq) ?_
  refine (?_ : ∀ (r : List Poly) (i : Nat) (ws : List Value) (m : Str → Option Value) (s' : Shared) (P : List As), i ≤ gs.length → gs.drop i = r → As.iss ws ((ls.take i).map dT) ∈ P → As.polys vs gs ∈ P →
    St PR w _ _ b₄ _ false m _ P [ilst I l i, Ow.list D ws] s' → codeAny (model PR w) A' _ _ s') gs 0 [] _ s₄ _ (Nat.zero_le _) rfl List.mem_cons_self (List.mem_cons_of_mem _ (by walk_at "mem")) ((S₄.iss0).perm (List.Perm.swap ..))
  clear S₄
  intro r
  induction r with
  | cons e r ih =>
    intro i ws m s' P hi hd hP1 hP2 S'
    obtain ⟨h3, h4, h5⟩ := drop_cons hd
    obtain ⟨v, hv, S'⟩ := S'.polyAt (j := i) (p := e) hP2 h3
    obtain ⟨te, hte, hme⟩ := hlg i e h3
    refine comp_stepL (nextName (nx_list S' (hld'.isL S') (arr_at hv) fun s' S' => ?_))
    refine wpAny_assign_Name ?_
    walk_at "go"
    refine useIsB (d := dT te) (by assumption) (fun b B => by have := does_mvlead (o := o) (t := t) (r'.le (by decide)) B.bs B.pg ((Rd.fact (v := v) (p := e) (by walk_at "mem")).at B); rw [hme] at this; exact this) fun v2 s' S' => ?_
    have hwl := S'.issLen (vs := ws) (ds := (ls.take i).map dT) (by walk_at "mem2")
    have S' := S'.issApp (vs := ws) (ds := (ls.take i).map dT) (by walk_at "mem2") List.mem_cons_self
    refine appO S' (.tail .head) (by simp at hwl; lia) fun s' S' => ?_
    refine ih (i + 1) _ _ s' _ h5 h4 ?_ (by walk_at "mem2") S'
    have e1 : (ls.take (i + 1)).map dT = (ls.take i).map dT ++ [dT te] := by rw [List.take_add_one, hte]; simp
    rw [e1]
    exact List.mem_cons_self
  | nil =>
  intro i ws m s' P hi hd hP1 hP2 S'
  have hil := drop_nil hi hd
  subst hil
  rw [← hll, List.take_length] at hP1
  refine comp_stepL (nextName (nx_listE S' r'.handled (hld'.isL S') (arr_end hlen.symm) fun s' S' => ?_))
  walk_at "outR"
  refine EndA.mk ws [As.iss ws (ls.map dT)] [] S' (fun b hb => mems1 (hb _ hP1)) fun C' m' s' S' => ?_
  refine stAG (y := "leads") S' rfl rfl fun s' S' => ?_
  simp only [List.nil_append, List.cons_append, List.append_nil] at S'
  have S' := S'.frzL noD
  have hwl := S'.issLen (vs := ws) (ds := ls.map dT) (by walk_at "mem2")
  rw [List.length_map] at hwl
  walk_at "go"
  rename_i s' S'
  -- the loop
  refine (?_ : ∀ (n : Nat) (left : Poly) (LL : Addr) (m cm : Str → Option Value) (s' : Shared) (P : List As), St PR w s [] b (callEnvC F304.1 L 304) true m cm P [Ow.dict LL left] s' → lrest o gs ls n left Q →
    m "left" = some (.ref LL) → m "some" = some (.ref l) → m "leads" = some (.ref D) → m "turning" = some (.bool true) → As.polys vs gs ∈ P → As.lst (.ref D) ws ∈ P → As.iss ws (ls.map dT) ∈ P → codeAny (model PR w) A' _ _ s')
    FUEL f LL _ _ s' _ S' hrun rfl rfl rfl rfl (by walk_at "mem") (by walk_at "mem") (by walk_at "mem")
  clear S' hrun
  intro n
  induction n with
  | zero => intro left LL m cm s' P S' hf; exact hf.elim
  | succ n ih =>
  intro left LL m cm s' P S' hf hm1 hm2 hm3 hm4 hP1 hP2 hP3
  obtain ⟨hl64, hstep, hend⟩ := hf
  have hnd := (Rd.own (d := LL) (p := left) List.mem_cons_self).nodup S'
  refine while_step ?_
  walk_at "go"
  rename_i s' S'
  refine forS (fun R hR => ?_) (fun _ => rfl)
  walk_at "go"
  refine dSorted r'.handled S' (.own List.mem_cons_self) hl64 fun DS ks ms s' hms S' => ?_
  have hkl := S'.issLen (vs := ks) (ds := ms.map dM) List.mem_cons_self
  rw [List.length_map] at hkl
  refine ih_list S' (Ld.isL (vs := ks) (.own (by walk_at "mem")) S') fun I2 s2 hI2 S' _ => ?_
  refine (?_ : ∀ (r2 : List Mono) (i : Nat) (m cm : Str → Option Value) (s' : Shared) (P : List As), St PR w s [] b (callEnvC F304.1 L 304) true m cm P [ilst I2 DS i, Ow.list DS ks, Ow.dict LL left] s' → i ≤ ms.length → ms.drop i = r2 → (∀ q ∈ ms.take i, fitsOf q ls = []) →
    m "left" = some (.ref LL) → m "some" = some (.ref l) → m "leads" = some (.ref D) → m "turning" = some (.bool false) → As.polys vs gs ∈ P → As.lst (.ref D) ws ∈ P → As.iss ws (ls.map dT) ∈ P → As.iss ks (ms.map dM) ∈ P → codeAny (model PR w) A' _ _ s') ms 0 _ _ s2 _ S' (Nat.zero_le _) rfl (fun _ h => by simp at h) (by exact hm1) (by exact hm2) (by exact hm3) rfl (by walk_at "mem2") (by walk_at "mem2") (by walk_at "mem2") (by walk_at "mem2")
  clear S'
  intro r2
  induction r2 with
  | nil =>
    intro i m cm s' P S' hi hd hno hm1 hm2 hm3 hm4 hP1 hP2 hP3 hP4
    have hil := drop_nil hi hd
    subst hil
    rw [List.take_length] at hno
    refine forG (nextName (nx_listE S' r'.handled (Ld.isL (vs := ks) (.own (by walk_at "mem")) S') (arr_end hkl.symm) fun s' S' => ?_))
    walk_at "go"
    show codeAny _ _ _ _ _
    refine while_step ?_
    walk_at "go"
    have hQ : Q left := hend fun e he => hno _ (hms.symm.mem_iff.mp (List.mem_map_of_mem he))
    walk_at "out"
    exact S'.comes (F := []) (N := [Ow.dict LL left]) ⟨left, LL, hQ, rfl, rfl, rfl⟩ (fun _ _ _ h => (nomatch h)) (.cons _ (List.Sublist.refl _))
  | cons q r2 ih2 =>
    intro i m cm s' P S' hi hd hno hm1 hm2 hm3 hm4 hP1 hP2 hP3 hP4
    obtain ⟨h3, h4, h5⟩ := drop_cons hd
    obtain ⟨vq, hvq, S'⟩ := S'.issAt (j := i) (d := dM q) hP4 (map_at h3)
    refine forG (nextName (nx_list S' (Ld.isL (vs := ks) (.own (by walk_at "mem")) S') (arr_at hvq) fun s' S' => ?_))
    refine wpAny_assign_Name ?_
    walk_at "go"
    rename_i s' S'
    -- fits
    refine listCompAG rfl rfl (by decide) rfl (by decide) (clc rfl cln) (fun _ => rfl) rfl (fun K2 hK2 => ?_)
    walk_at "go"
    refine mk_enuL S' (Ld.isL (vs := ws) (.fact (by walk_at "mem2")) S') fun en it s₂ S₂ k₂ => ?_
    walk_at "go"
    refine ih_enu S₂ List.mem_cons_self ?_
    refine hK2 _ _ ?_
    refine CompGo.mk [ienu en it 0, ilst it D 0] _ S₂ fun D4 C4 b₅ s₅ hk₅ pg₅ S₅ k₅ R2 hR2 => ?_
    refine compStart_ rfl rfl rfl (fun Q E hq => ih_enu S₅ (List.mem_cons_of_mem _ List.mem_cons_self) hq) ?_
    refine (?_ : ∀ (r3 : List (Mono × Rat)) (j : Nat) (fs : List Value) (m : Str → Option Value) (s' : Shared) (P : List As), j ≤ ls.length → ls.drop j = r3 → As.iss fs ((fitsTo q ls j).map fun (i : Nat) => Mine.D.int i) ∈ P → As.lst (.ref D) ws ∈ P → As.iss ws (ls.map dT) ∈ P → As.is vq (dM q) ∈ P →
      St PR w _ _ b₅ _ false m _ P [ienu en it j, ilst it D j, Ow.list D4 fs] s' → codeAny (model PR w) A' _ _ s') ls 0 [] _ s₅ _ (Nat.zero_le _) rfl List.mem_cons_self (List.mem_cons_of_mem _ (by walk_at "mem2")) (List.mem_cons_of_mem _ (by walk_at "mem2")) (List.mem_cons_of_mem _ (by walk_at "mem2")) ((S₅.iss0).perm (List.perm_append_comm (l₁ := [_]) (l₂ := [_, _])))
    clear S₅
    intro r3
    induction r3 with
    | cons e r3 ih3 =>
      intro j fs m s' P hj hd hP1 hP2 hP3 hP4 S'
      obtain ⟨h6, h7, h8⟩ := drop_cons hd
      obtain ⟨v, hv, S'⟩ := S'.issAt (vs := ws) (ds := ls.map dT) (j := j) (d := dT e) hP3 (map_at h6)
      have hft := fitsTo_succ (q := q) h6
      refine comp_stepL1 (nx_enuL S' (Ld.isL (vs := ws) (.fact (by walk_at "mem2")) S') (arr_at hv) rfl fun t' v' s' S' => ?_)
      refine assign2 r'.handled S' (by walk_at "mem") fun s' S' => ?_
      walk_at "go"
      rename_i S'
      refine subD (ds := [dM e.1, dR e.2]) S' (show As.is v (dT e) ∈ _ by walk_at "mem") (by decide) (by decide) (d := dM e.1) rfl (fun _ => rfl) fun v3 S' => ?_
      walk_at "go"
      refine useBool (x := mdiv e.1 q) (by assumption) (fun b k pg hP => does_divide (r'.le (by decide)) k pg (hP (.is v3 (dM e.1)) (by walk_at "mem")) (hP (.is vq (dM q)) (by walk_at "mem2"))) fun s' S' => ?_
      walk_at "go"
      by_cases hdv : mdiv e.1 q = true
      · rw [if_pos hdv] at hft
        rw [if_pos hdv]
        walk_at "go"
        have hfl := S'.issLen (vs := fs) (ds := (fitsTo q ls j).map fun (i : Nat) => Mine.D.int i) (by walk_at "mem2")
        have hfl2 : (fitsTo q ls j).length ≤ j := by
          unfold fitsTo
          have := List.length_filter_le (fun i => match ls[i]? with | some t => mdiv t.1 q | none => false) (List.range j)
          simpa using this
        have S' := (S'.more (v := .int j t') (d := .int j) (fun b _ => by unfold Is; exact ⟨_, rfl⟩)).issApp (vs := fs) (ds := (fitsTo q ls j).map fun (i : Nat) => Mine.D.int i) (by walk_at "mem2") List.mem_cons_self
        refine appO S' (.tail (.tail .head)) (by simp at hfl; lia) fun s' S' => ?_
        exact ih3 (j + 1) _ _ s' _ h8 h7 (by rw [hft, List.map_append]; exact List.mem_cons_self) (by walk_at "mem2") (by walk_at "mem2") (by walk_at "mem2") S'
      · rw [if_neg hdv] at hft
        rw [if_neg hdv]
        exact ih3 (j + 1) _ _ s' _ h8 h7 (by rw [hft, List.append_nil]; walk_at "mem2") (by walk_at "mem2") (by walk_at "mem2") (by walk_at "mem2") S'
    | nil =>
    intro j fs m5 s' P5 hj hd hQ1 hQ2 hQ3 hQ4 S'
    have hjl := drop_nil hj hd
    subst hjl
    rw [fitsTo_all] at hQ1
    refine comp_stepL1 (nx_enuLE S' r'.handled (Ld.isL (vs := ws) (.fact hQ2) S') (arr_end hwl.symm) fun s' S' => ?_)
    walk_at "outR"
    refine EndA.mk fs [As.iss fs ((fitsOf q ls).map fun (i : Nat) => Mine.D.int i)] [] S' (fun b hb => mems1 (hb _ hQ1)) fun C' m' s' S' => ?_
    refine stAG (y := "fits") S' rfl rfl fun s' S' => ?_
    simp only [List.nil_append, List.cons_append, List.append_nil] at S'
    have hfl := S'.issLen (vs := fs) (ds := (fitsOf q ls).map fun (i : Nat) => Mine.D.int i) (by walk_at "mem")
    rw [List.length_map] at hfl
    walk_at "go"
    refine mkList (by assumption) (Nat.zero_le _) fun DE s' S' => ?_
    refine lNe0 S' (by have := r'.u; lia) (.own (vs := fs) (by walk_at "mem")) (.own List.mem_cons_self) ?_
    walk_at "go"
    cases hgl : (fitsOf q ls).getLast? with
    | none =>
      have hf0 : fitsOf q ls = [] := List.getLast?_eq_none_iff.mp hgl
      rw [hf0, List.length_nil] at hfl
      rw [if_neg (by rw [hfl]; decide)]
      walk_at "go"
      show codeAny _ _ _ _ _
      refine ih2 (i + 1) _ _ s' _ (S'.weaken (fun _ h => h) (.cons _ (.cons _ (List.Sublist.refl _)))) h5 h4 (fun q' hq' => ?_) (by exact hm1) (by exact hm2) (by exact hm3) (by exact hm4) (by walk_at "mem2") (by walk_at "mem2") (by walk_at "mem2") (by walk_at "mem2")
      rw [List.take_add_one, h3] at hq'
      rcases List.mem_append.mp hq' with h | h
      · exact hno q' h
      · have : q' = q := by simpa using h
        rw [this]; exact hf0
    | some j =>
      have hfne : fs.length ≠ 0 := by
        intro h0
        rw [h0] at hfl
        rw [List.eq_nil_of_length_eq_zero hfl.symm] at hgl
        cases hgl
      rw [if_pos (by simpa using hfne)]
      have hqm : q ∈ left.map (·.1) := hms.mem_iff.mp (List.mem_of_getElem? h3)
      obtain ⟨e, he, rfl⟩ := List.mem_map.mp hqm
      obtain ⟨lt, g, sh, left', q1, q2, q3, q4, q5, q6, q7, q8⟩ := hstep e he j hgl
      have hlk := plook_of_mem hnd he
      have hjl : j < ls.length := (List.getElem?_eq_some_iff.mp q1).1
      obtain ⟨vl, hvl, S'⟩ := S'.issAt (vs := ws) (ds := ls.map dT) (j := j) (d := dT lt) (by walk_at "mem2") (map_at q1)
      obtain ⟨vg, hvg, S'⟩ := S'.polyAt (vs := vs) (ps := gs) (j := j) (p := g) (by walk_at "mem2") q2
      have hfl2 : (fitsOf e.1 ls)[fs.length - 1]? = some j := by rw [hfl, ← List.getLast?_eq_getElem?]; exact hgl
      obtain ⟨vj, hvj, S'⟩ := S'.issAt (vs := fs) (ds := (fitsOf e.1 ls).map fun (i : Nat) => Mine.D.int i) (j := fs.length - 1) (d := .int j) (by walk_at "mem2") (by rw [List.getElem?_map, hfl2]; rfl)
      obtain ⟨tj, rfl⟩ := S'.intOf (v := vj) (i := j) (by walk_at "mem")
      walk_at "go"
      refine lLast (vs := fs) (x := .int j tj) (by assumption) (.own (by walk_at "mem")) (by rw [List.getLast?_eq_getElem?]; exact hvj) (fun _ => rfl) ?_
      walk_at "go"
      refine dSub (p := left) (q := e.1) (by assumption) r'.u (.own (by walk_at "mem")) (by walk_at "mem2") hlk (fun _ _ => rfl) fun v2 s' S' => ?_
      walk_at "go"
      refine lSub (vs := ws) (x := vl) (by assumption) (.fact (by walk_at "mem2")) (by lia) (by lia) (by simpa using hvl) (fun _ => rfl) ?_
      walk_at "go"
      refine subD (ds := [dM lt.1, dR lt.2]) (by assumption) (show As.is vl (dT lt) ∈ _ by walk_at "mem2") (by decide) (by decide) (d := dR lt.2) rfl (fun _ => rfl) fun v5 S' => ?_
      walk_at "go"
      refine useIs (d := dR (e.2 / lt.2)) S' (fun b k pg hP => does_rdiv (r'.le (by decide)) k pg (hP (.is v2 (dR e.2)) (by walk_at "mem2")) (hP (.is v5 (dR lt.2)) (by walk_at "mem2")) q3 q4 q5) fun v6 s' S' => ?_
      walk_at "go"
      refine lSub (vs := vs) (x := vg) (by assumption) hld (by lia) (by lia) (by simpa using hvg) (fun _ => rfl) ?_
      walk_at "go"
      refine lSub (vs := ws) (x := vl) (by assumption) (.fact (by walk_at "mem2")) (by lia) (by lia) (by simpa using hvl) (fun _ => rfl) ?_
      walk_at "go"
      refine subD (ds := [dM lt.1, dR lt.2]) (by assumption) (show As.is vl (dT lt) ∈ _ by walk_at "mem2") (by decide) (by decide) (d := dM lt.1) rfl (fun _ => rfl) fun v7 S' => ?_
      walk_at "go"
      refine useIs (d := dM (mquot e.1 lt.1)) S' (fun b k pg hP => does_quotient (r'.le (by decide)) k pg (hP (.is vq (dM e.1)) (by walk_at "mem2")) (hP (.is v7 (dM lt.1)) (by walk_at "mem2"))) fun v8 s' S' => ?_
      walk_at "go"
      refine useOwnB (p := sh) S' (fun b B => does_mvshift (r'.le (by decide)) B.bs B.pg ((Rd.fact (v := vg) (p := g) (by walk_at "mem2")).at B) (B.facts (.is v8 (dM (mquot e.1 lt.1))) (by walk_at "mem2")) (B.facts (.is v6 (dR (e.2 / lt.2))) (by walk_at "mem2")) q6) fun d9 s' S' => ?_
      walk_at "go"
      refine useOwnB (p := left') S' (fun b B => does_mvsub r' B.bs B.pg ((Rd.own (d := LL) (p := left) (by walk_at "mem")).at B) ((Rd.own List.mem_cons_self).at B) q7) fun d10 s' S' => ?_
      walk_at "go"
      rename_i s' S'
      show codeAny _ _ _ _ _
      exact ih left' d10 _ _ s' _ (S'.weaken (O' := [Ow.dict d10 left']) (fun _ h => h) (.cons₂ _ (List.nil_sublist _))) q8 rfl (by exact hm2) (by exact hm3) rfl (by walk_at "mem2") (by walk_at "mem2") (by walk_at "mem2")
end
end
section
set_option maxRecDepth 100000

open PySem PySem.W PyProof.Rows PySem.Calls

section
variable {w : World} {s₀ s : Shared} {DD : List Addr} {b₀ : Heap} {env : Env} {cw : Bool} {m cm : Str → Option Value} {P : List As} {O : List Ow}
variable {A : Around} {E : Value → Shared → Prop}
theorem useLrest {v1 v2 : Value} {f : Poly} {gs : List Poly} {vs : List Value} {o : Ord} {t : Tok} {R : Poly → Prop} {Q : Value → Shared → Prop} (S : St PR w s₀ DD b₀ env cw m cm P O s) (r : Room A 7)
    (h1 : Rd PR w s₀ DD b₀ P O v1 f) (h2 : Ld s₀ DD P O v2 vs) (h3 : As.polys vs gs ∈ P) (hp : LRest o f gs R)
    (h : ∀ p d s', R p → St PR w s₀ DD b₀ env cw m cm P (Ow.dict d p :: O) s' → Q (.ref d) s') : (Mine.hd.heap_1 w.params).In s.heap ∧ wpAny (model PR w) A (call (.ref 304) [v1, v2, .str o.nm t]) Q E s := by
  refine ⟨S.inK, S.doesB (fun b B => does_lrest r B.bs B.pg (h1.at B) (h2.at B) (B.facts _ h3) hp) (fun _ h => (nomatch h)) (List.Sublist.refl _) (fun _ _ h => (nomatch h)) fun v s' F N hR S' => ?_⟩
  obtain ⟨p, d, hRp, rfl, rfl, rfl⟩ := hR
  exact h p d s' hRp S'
end

section
variable {w : World} {s : Shared} {b : Heap} {A : Around}

set_option maxHeartbeats 16000000 in
theorem does_allzero (r : Room A 8) (k : Keep b s.heap) (pg : Pg w b) {v1 : Value} {gs : List Poly} {vs : List Value} {o : Ord} {t : Tok} (h2 : ListAt s.heap v1 vs) (h3 : Polys PR w b vs gs) (hp : AllZero o gs) :
    Does PR w A s [] b (call (.ref 311) [v1, .str o.nm t]) (RBool true) := by
  refine def0 r F311.2 k pg [As.polys vs gs] (mems1 h3) [("basis", v1), ("order", .str o.nm t)] rfl (fun s₁ L Q0 cm0 hC S => ?_)
  have r' := r.deeper (callEnvC F311.1 L 311)
  generalize hA : A.deeper (callEnvC F311.1 L 311) = A' at r' ⊢
  have hlen : vs.length = gs.length := h3.length
  have hld : ∀ {P O}, Ld s [] P O v1 vs := .base h2 noDD
  obtain ⟨l, rfl⟩ := hld.ref S
  obtain ⟨hgz, hall⟩ := hp
  walk_at "go"
  refine forS (fun R hR => ?_) (fun _ => rfl)
  walk_at "go"
  refine mk_enuL S (hld.isL S) fun en it s₂ S₂ k₂ => ?_
  refine ih_enu S₂ List.mem_cons_self ?_
  refine (?_ : ∀ (r : List Poly) (i : Nat) (m : Str → Option Value) (s' : Shared) (P : List As), St PR w s [] b (callEnvC F311.1 L 311) true m _ P [ienu en it i, ilst it l i] s' → i ≤ gs.length → gs.drop i = r →
    m "basis" = some (.ref l) → m "order" = some (.str o.nm t) → As.polys vs gs ∈ P → codeAny (model PR w) A' _ _ s') gs 0 _ s₂ _ S₂ (Nat.zero_le _) rfl rfl rfl (by walk_at "mem")
  clear S₂
  intro r
  induction r with
  | nil =>
    intro i m s' P S' hi hd hm1 hm2 hP1
    refine forG (nx_enuLE S' r'.handled (hld.isL S') (arr_end (by rw [hlen]; exact drop_nil hi hd)) fun s' S' => ?_)
    walk_at "go"
    walk_at "out"
    exact S'.end0 ⟨rfl, rfl, rfl⟩
  | cons e r ih =>
    intro i m s' P S' hi hd hm1 hm2 hP1
    obtain ⟨h3, h4, h5⟩ := drop_cons hd
    have hin := hall i e h3
    obtain ⟨v, hv, S'⟩ := S'.polyAt (j := i) (p := e) hP1 h3
    refine forG (nx_enuL S' (hld.isL S') (arr_at hv) rfl fun t' v' s' S' => ?_)
    refine assign2 r'.handled S' (by walk_at "mem") fun s' S' => ?_
    walk_at "go"
    rename_i s' S'
    refine forS (fun R hR => ?_) (fun _ => rfl)
    walk_at "go"
    refine ⟨i, _, vs, rfl, _, _, _, _, _, _, _, _, S', hld, by lia, fun DS s' S' => ?_⟩
    refine ih_list S' (Ld.isL (vs := vs.take i) (.own (by walk_at "mem")) S') fun I2 s2 hI2 S' _ => ?_
    refine (?_ : ∀ (r2 : List Poly) (j : Nat) (m : Str → Option Value) (s' : Shared) (P : List As), St PR w s [] b (callEnvC F311.1 L 311) true m _ P [ilst I2 DS j, Ow.list DS (vs.take i), ienu en it (i + 1), ilst it l (i + 1)] s' → j ≤ i → (gs.take i).drop j = r2 →
      m "basis" = some (.ref l) → m "order" = some (.str o.nm t) → m "one" = some v → As.polys vs gs ∈ P → As.poly v e ∈ P → codeAny (model PR w) A' _ _ s') (gs.take i) 0 _ s2 _ S' (Nat.zero_le _) rfl (by exact hm1) (by exact hm2) rfl (by walk_at "mem2") (by walk_at "mem2")
    clear S'
    intro r2
    have htl : (gs.take i).length = i := by rw [List.length_take]; lia
    have htl2 : (vs.take i).length = i := by rw [List.length_take]; lia
    induction r2 with
    | nil =>
      intro j m s' P S' hj hd hm1 hm2 hm3 hP1 hP3
      have hjl := drop_nil (by rw [htl]; exact hj) hd
      refine forG (nextName (nx_listE S' r'.handled (Ld.isL (vs := vs.take i) (.own (by walk_at "mem")) S') (arr_end (by rw [htl2]; lia)) fun s' S' => ?_))
      walk_at "go"
      show codeAny _ _ _ _ _
      exact ih (i + 1) m s' P (S'.weaken (fun _ h => h) (List.sublist_cons_self _ _)) h5 h4 hm1 hm2 hP1
    | cons g r2 ih2 =>
      intro j m s' P S' hj hd hm1 hm2 hm3 hP1 hP3
      obtain ⟨h6, h7, h8⟩ := drop_cons hd
      have h6' : gs[j]? = some g := by
        rw [List.getElem?_take] at h6
        split at h6
        · exact h6
        · cases h6
      obtain ⟨vg, hvg, S'⟩ := S'.polyAt (j := j) (p := g) hP1 h6'
      have hvg' : (vs.take i)[j]? = some vg := by rw [List.getElem?_take, if_pos (by lia)]; exact hvg
      obtain ⟨sp, hsp, hlr⟩ := hin g (List.mem_of_getElem? h6)
      refine forG (nextName (nx_list S' (Ld.isL (vs := vs.take i) (.own (by walk_at "mem")) S') (arr_at hvg') fun s' S' => ?_))
      refine wpAny_assign_Name ?_
      walk_at "go"
      refine useOwnB (p := sp) (by assumption) (fun b B => does_spoly (r'.le (by decide)) B.bs B.pg ((Rd.fact (v := v) (p := e) (by walk_at "mem2")).at B) ((Rd.fact (v := vg) (p := g) (by walk_at "mem2")).at B) hsp) fun dsp s' S' => ?_
      walk_at "go"
      refine useLrest S' r' (.own List.mem_cons_self) hld (by walk_at "mem2") hlr fun p dp s' hp0 S' => ?_
      subst hp0
      walk_at "go"
      refine dNew S' fun d0 s' S' => ?_
      refine dNe0 S' (by have := r'.u; lia) (.own (d := dp) (p := []) (by walk_at "mem")) (.own (d := d0) (p := []) (by walk_at "mem")) ?_
      walk_at "go"
      show codeAny _ _ _ _ _
      exact ih2 (j + 1) _ s' _ (S'.weaken (fun _ h => h) (.cons _ (.cons _ (.cons _ (List.Sublist.refl _))))) (by rw [htl] at h8; exact h8) h7 (by exact hm1) (by exact hm2) (by exact hm3) (by walk_at "mem2") (by walk_at "mem2")
end
end
section
set_option maxRecDepth 100000

open PySem PySem.W PyProof.Rows PySem.Calls

noncomputable def F316 : { fd : FuncData // fnAt 316 fd } := ⟨_, fun P => ⟨_, _, _, by rfl⟩⟩
theorem g_law (w : World) : nsIn (Mine.hd.heap_1 w.params) mainGlobals "law" = some (some (.ref 316)) := by kernel_rfl

section
variable {w : World} {s₀ s : Shared} {DD : List Addr} {b₀ : Heap} {env : Env} {cw : Bool} {m cm : Str → Option Value} {P : List As} {O : List Ow}
variable {A : Around} {E : Value → Shared → Prop}
theorem useZero {O' : List Ow} {B L : Addr} {vs ps : List Value} {v2 : Value} {st : Int} {tk th : Tok} {x y : Rat} {G : Poly → Prop} {Q : Value → Shared → Prop}
    (S : St PR w s₀ DD b₀ env cw m cm P O s) (r : Room A 7) (hp : O.Perm (Ow.list B [.ref L, .int st tk] :: Ow.list L vs :: O')) (hok : BoxOk vs st) (hv : Ld s₀ DD P O v2 ps) (hvn : ∀ l, v2 = .ref l → l ∉ [B, L]) (hps : As.iss ps [dR x, dR y] ∈ P)
    (H : ∀ f, Fnd 2 f → ∃ c p, mvat? x y f = some c ∧ mvsub? f (mvterm (0, 0) c) = some p ∧ G p)
    (h : ∀ p d vs' st' t' s', G p → BoxOk vs' st' → St PR w s₀ DD b₀ env cw m cm P (Ow.dict d p :: Ow.list B [.ref L, .int st' t'] :: Ow.list L vs' :: O') s' → Q (.ref d) s') :
    (Mine.hd.heap_1 w.params).In s.heap ∧ wpAny (model PR w) A (call (.ref 299) [.ref B, v2, .int 2 th]) Q E s := by
  have hv' := fun b (B1 : StB PR w s₀ DD b₀ env cw m cm P O s b) => hv.at B1
  have hva : ListAt s.heap v2 ps := hv.now S
  clear hv hv'
  have S := S.perm hp
  refine ⟨S.inK, ?_⟩
  have hne : B ≠ L ∧ ∀ y ∈ O', y.a ≠ B ∧ y.a ≠ L := by
    obtain ⟨b, B1⟩ := S
    obtain ⟨h1, h2⟩ := List.pairwise_cons.mp B1.oap
    obtain ⟨h3, _⟩ := List.pairwise_cons.mp h2
    exact ⟨h1 _ List.mem_cons_self, fun y hy => ⟨fun e => h1 y (List.mem_cons_of_mem _ hy) e.symm, fun e => h3 y hy e.symm⟩⟩
  refine S.doesB (D' := [B, L]) (O' := O') (fun b B1 => does_zeroat r B1.bs B1.pg (B1.own _ List.mem_cons_self).1 (B1.own _ (List.mem_cons_of_mem _ List.mem_cons_self)).1 (B1.own _ List.mem_cons_self).2.1 (B1.own _ (List.mem_cons_of_mem _ List.mem_cons_self)).2.1 hne.1 hok hva hvn (B1.facts _ hps) H)
    (fun a ha => ?_) ((List.sublist_cons_self _ _).trans (List.sublist_cons_self _ _)) (fun x hx hm => ?_) fun v s' F N hR S' => ?_
  · rcases List.mem_cons.mp ha with rfl | ha
    · exact ⟨_, List.mem_cons_self, rfl⟩
    · obtain rfl := List.mem_singleton.mp ha
      exact ⟨_, List.mem_cons_of_mem _ List.mem_cons_self, rfl⟩
  · rcases List.mem_cons.mp hm with e | hm
    · exact (hne.2 x hx).1 e
    · exact (hne.2 x hx).2 (List.mem_singleton.mp hm)
  · obtain ⟨p, d, vs', st', t', hG, rfl, h2, rfl, rfl⟩ := hR
    exact h p d vs' st' t' s' hG h2 S'
theorem useBox {v1 : Value} {vs : List Value} {ns : List Int} {t1 t2 : Tok} {Q : Value → Shared → Prop} (S : St PR w s₀ DD b₀ env cw m cm P O s) (r : Room A 1) (h1 : Ld s₀ DD P O v1 vs) (hI : IntsAre vs ns) (hl : vs.length ≤ 1000)
    (h : ∀ B L vs' st' t' s', BoxOk vs' st' → St PR w s₀ DD b₀ env cw m cm P (Ow.list B [.ref L, .int st' t'] :: Ow.list L vs' :: O) s' → Q (.ref B) s') :
    (Mine.hd.heap_1 w.params).In s.heap ∧ wpAny (model PR w) A (call (.ref 292) [v1, .int 24 t1, .int 11 t2]) Q E s := by
  refine ⟨S.inK, S.doesB (fun b B => does_box r B.bs B.pg (h1.at B) hI hl) (fun _ h => (nomatch h)) (List.Sublist.refl _) (fun _ _ h => (nomatch h)) fun v s' F N hR S' => ?_⟩
  obtain ⟨B, L, vs', st', t', rfl, h2, rfl, rfl⟩ := hR
  exact h B L vs' st' t' s' h2 S'
theorem St.factNe {v : Addr} {vs : List Value} {y : Ow} (S : St PR w s₀ DD b₀ env cw m cm P O s) (h : As.lst (.ref v) vs ∈ P) (hy : y ∈ O) : v ≠ y.a := by
  obtain ⟨b, B⟩ := S
  obtain ⟨a, e, n, ho⟩ := B.facts _ h
  cases e
  intro e
  rw [e, (B.own y hy).2.1] at ho
  cases ho
theorem lSubOrd {value slice : Expr} {v : Value} {x : Int} {u t1 t2 t3 : Tok} {Q : Value → Shared → Prop} (S : St PR w s₀ DD b₀ env cw m cm P O s) (hl : Ld s₀ DD P O v [.str "lex" t1, .str "grlex" t2, .str "grevlex" t3]) (h0 : 0 ≤ x) (h1 : x < 3)
    (hs : ∀ t, subscripted slice false (.ref t) (.int x u) = operate [.ref t, .int x u] (getItem (.ref t) (.int x u)))
    (h : ∀ (o : Ord) tt, Q (.str o.nm tt) s) : wpAny (model PR w) A (subscriptTail value slice v (.int x u)) Q E s := by
  have hx : x = 0 ∨ x = 1 ∨ x = 2 := by lia
  rcases hx with rfl | rfl | rfl
  · exact lSub S hl (by decide) (by decide) rfl hs (h .lex _)
  · exact lSub S hl (by decide) (by decide) rfl hs (h .grlex _)
  · exact lSub S hl (by decide) (by decide) rfl hs (h .grevlex _)
theorem useGrob {v1 : Value} {gs bs : List Poly} {vs : List Value} {o : Ord} {t tm : Tok} {most : Int} {Q : Value → Shared → Prop} (S : St PR w s₀ DD b₀ env cw m cm P O s) (r : Room A 9) (h1 : Ld s₀ DD P O v1 vs) (h3 : As.polys vs gs ∈ P) (hp : groebner? o most gs = some bs)
    (h : ∀ B ys s', St PR w s₀ DD b₀ env cw m cm (As.polys ys bs :: P) (Ow.list B ys :: O) s' → Q (.ref B) s') :
    (Mine.hd.heap_1 w.params).In s.heap ∧ wpAny (model PR w) A (call (.ref 261) [v1, .str o.nm t, .int most tm]) Q E s := by
  refine ⟨S.inK, S.doesB (fun b B => does_groebner r B.bs B.pg (h1.at B) (B.facts _ h3) hp) (fun _ h => (nomatch h)) (List.Sublist.refl _) (fun _ _ h => (nomatch h)) fun v s' F N hR S' => ?_⟩
  obtain ⟨B, ys, rfl, rfl, rfl⟩ := hR
  exact h B ys s' S'
end

theorem dR_2 : (D.tup [.int 2, .int 1]) = dR 2 := rfl
theorem dR_5 : (D.tup [.int 5, .int 1]) = dR 5 := rfl
theorem dR_3 : (D.tup [.int 3, .int 1]) = dR 3 := rfl
theorem dR_m13 : (D.tup [.int (-1), .int 3]) = dR (-1 / 3) := by
  have h1 : ((-1 / 3 : Rat)).num = -1 := by decide +kernel
  have h2 : ((-1 / 3 : Rat)).den = 3 := by decide +kernel
  unfold dR; rw [h1, h2]; rfl
theorem dR_17 : (D.tup [.int 1, .int 7]) = dR (1 / 7) := by
  have h1 : ((1 / 7 : Rat)).num = 1 := by decide +kernel
  have h2 : ((1 / 7 : Rat)).den = 7 := by decide +kernel
  unfold dR; rw [h1, h2]; rfl
section
variable {w : World} {s : Shared} {b : Heap} {A : Around}

set_option maxHeartbeats 32000000 in
theorem does_law {s0 : Shared} (H : Plain) (r : Room A 12) (k : Keep b s0.heap) (pg : Pg w b) {v1 : Value} {vs : List Value} {ns : List Int} (h1 : ListAt s0.heap v1 vs) (hI : IntsAre vs ns) (hl : vs.length ≤ 1000) :
    Does PR w A s0 [] b (call (.ref 316) [v1]) (RBool true) := by
  refine def0 r F316.2 k pg [] (fun _ h => (nomatch h)) [("script", v1)] rfl (fun s₁ L' Q0 cm0 hC S => ?_)
  have r' := r.deeper (callEnvC F316.1 L' 316)
  generalize hA : A.deeper (callEnvC F316.1 L' 316) = A' at r' ⊢
  have hld : ∀ {P O}, Ld s0 [] P O v1 vs := .base h1 noDD
  walk_at "go"
  refine useBox (by assumption) (r'.le (by decide)) hld hI hl fun B L bx st tk s hok S => ?_
  walk_at "go"
  refine mkList (by assumption) (Nat.le_of_ble_eq_true rfl) fun OL s S => ?_
  walk_at "go"
  refine useTake (by assumption) (r'.le (by decide)) (List.perm_append_comm (l₁ := [_]) (l₂ := [_, _])) hok (by decide) fun x tx bx st tk s hx0 hx1 hok S => ?_
  refine lSubOrd S (.own (List.mem_cons_of_mem _ (List.mem_cons_of_mem _ List.mem_cons_self))) hx0 hx1 (fun _ => rfl) fun o to => ?_
  have S := S.weaken (O' := [Ow.list B [.ref L, .int st tk], Ow.list L bx]) (fun _ h => h) (.cons₂ _ (.cons₂ _ (List.nil_sublist _)))
  walk_at "go"
  -- point
  refine useTake (by assumption) (r'.le (by decide)) (List.Perm.refl _) hok (by decide) fun pa ta bx st tk s ha0 ha1 hok S => ?_
  walk_at "go"
  refine mkTup (ds := [.int (pa - 1), .int 1]) (by assumption) (.cons .int (.cons .int .nil)) (Nat.le_of_ble_eq_true rfl) fun va s S => ?_
  rw [show (D.tup [.int (pa - 1), .int 1]) = dR ((pa - 1 : Int) : Rat) from dR_int _] at S
  walk_at "go"
  refine useTake (by assumption) (r'.le (by decide)) (List.Perm.refl _) hok (by decide) fun pb tb bx st tk s hb0 hb1 hok S => ?_
  walk_at "go"
  refine mkTup (ds := [.int (pb - 1), .int 1]) (by assumption) (.cons .int (.cons .int .nil)) (Nat.le_of_ble_eq_true rfl) fun vb s S => ?_
  rw [show (D.tup [.int (pb - 1), .int 1]) = dR ((pb - 1 : Int) : Rat) from dR_int _] at S
  walk_at "go"
  have S := (S.iss0).issApp (v := va) (d := dR ((pa - 1 : Int) : Rat)) List.mem_cons_self (by walk_at "mem")
  have S := S.issApp (v := vb) (d := dR ((pb - 1 : Int) : Rat)) List.mem_cons_self (by walk_at "mem")
  simp only [List.nil_append, List.cons_append] at S
  generalize hpx : ((pa - 1 : Int) : Rat) = px at S
  generalize hpy : ((pb - 1 : Int) : Rat) = py at S
  refine mkList S (Nat.le_of_ble_eq_true rfl) fun PT s S => ?_
  have S := S.frzL noD
  walk_at "go"
  rename_i s S
  have HZ : ∀ f, Fnd 2 f → ∃ c p, mvat? px py f = some c ∧ mvsub? f (mvterm (0, 0) c) = some p ∧ ZA px py p := fun f hf => by
    obtain ⟨c, p, h1, h2⟩ := H.za (pa - 1) (pb - 1) (by lia) (by lia) (by lia) (by lia) f hf
    rw [hpx, hpy] at h1
    exact ⟨c, p, h1, h2, f, hf, c, h1, h2⟩
  -- some
  refine listCompAG rfl rfl (by decide) rfl (by decide) (clc rfl (clc rfl cln)) (fun _ => rfl) rfl (fun KQ1 hKQ1 => ?_)
  walk_at "go"
  refine rng1 (by assumption) fun ra s S => ?_
  refine ih_rngN (n := 2) S List.mem_cons_self (by decide) fun I s2 S => ?_
  have S := S.perm (List.Perm.cons _ (List.perm_append_comm (l₁ := [_]) (l₂ := [_, _])))
  refine hKQ1 _ _ ?_
  refine CompGo.mk [rngN I 0 2, Ow.list B [.ref L, .int st tk], Ow.list L bx] _ S fun D C b₄ s₄ hk₄ pg₄ S₄ k₄ R1 hR1 => ?_
  refine compStart_ rfl rfl rfl (fun Q E hq => ih_rngNI S₄ (List.mem_cons_of_mem _ List.mem_cons_self) hq) ?_
  refine (?_ : ∀ (r i : Nat) (fs : List Poly) (ys bx : List Value) (st : Int) (tk : Tok) (m : Str → Option Value) (s' : Shared) (P : List As), St PR w s2 [I, B, L] b₄ _ false m _ P [rngN I i 2, Ow.list D ys, Ow.list B [.ref L, .int st tk], Ow.list L bx] s' → i + r = 2 → fs.length = i → (∀ p ∈ fs, ZA px py p) → BoxOk bx st →
    As.polys ys fs ∈ P → As.lst (.ref PT) [va, vb] ∈ P → As.iss [va, vb] [dR px, dR py] ∈ P → codeAny (model PR w) A' _ _ s') 2 0 [] [] bx st tk _ s₄ _ ((S₄.polys0).perm (List.Perm.swap ..)) rfl rfl (fun _ h => nomatch h) hok List.mem_cons_self (List.mem_cons_of_mem _ (by walk_at "mem")) (List.mem_cons_of_mem _ (by walk_at "mem"))
  clear S₄
  intro r0
  induction r0 with
  | succ r0 ih =>
    intro i fs ys bx st tk m s' P S' hi hfl hza hok hP1 hP2 hP3
    refine comp_stepL (nextName (nx_rngN S' (by lia) fun ti s' S' => ?_))
    refine wpAny_assign_Name ?_
    walk_at "go"
    rename_i s' S'
    have n1 := S'.factNe (v := PT) (vs := [va, vb]) (y := Ow.list B [.ref L, .int st tk]) (by walk_at "mem2") (by walk_at "mem")
    have n2 := S'.factNe (v := PT) (vs := [va, vb]) (y := Ow.list L bx) (by walk_at "mem2") (by walk_at "mem")
    have hyl := S'.polysLen (vs := ys) (ps := fs) (by walk_at "mem2")
    refine useZero S' (r'.le (by decide)) (List.perm_append_comm (l₁ := [_, _]) (l₂ := [_, _])) hok (ps := [va, vb]) (.fact (by walk_at "mem2")) (fun l e => by cases e; simp; exact ⟨n1, n2⟩) (by walk_at "mem2") HZ fun p d bx st tk s' hG hok S' => ?_
    have S' := S'.frzX (fun a ha => by
      simp only [List.mem_cons, List.not_mem_nil, or_false] at ha
      rcases ha with rfl | rfl | rfl
      · exact ⟨_, List.mem_cons_of_mem _ (List.mem_cons_of_mem _ List.mem_cons_self), rfl⟩
      · exact ⟨_, List.mem_cons_self, rfl⟩
      · exact ⟨_, List.mem_cons_of_mem _ List.mem_cons_self, rfl⟩)
    have S' := (S'.polys1 List.mem_cons_self).polysApp (vs := ys) (ps := fs) (by walk_at "mem2") List.mem_cons_self
    refine appO S' (.tail (.tail (.tail .head))) (by lia) fun s' S' => ?_
    refine ih (i + 1) (fs ++ [p]) _ bx st tk _ s' _ (S'.perm (List.perm_append_comm (l₁ := [_, _]) (l₂ := [_, _]))) (by lia) (by simp [hfl]) (fun q hq => ?_) hok List.mem_cons_self (by walk_at "mem2") (by walk_at "mem2")
    rcases List.mem_append.mp hq with h | h
    · exact hza q h
    · rw [List.mem_singleton.mp h]; exact hG
  | zero =>
  intro i fs ys bx st tk m s' P S' hi hfl hza hok hP1 hP2 hP3
  have hi2 : i = 2 := by lia
  subst hi2
  obtain ⟨f, g, rfl⟩ : ∃ f g, fs = [f, g] := by
    match fs, hfl with
    | [f, g], _ => exact ⟨f, g, rfl⟩
  have hzf := hza f List.mem_cons_self
  have hzg := hza g (List.mem_cons_of_mem _ List.mem_cons_self)
  clear hza S
  obtain ⟨bs, u, v, told, t1, f3, ws, K⟩ := H.ok o (pa - 1) (pb - 1) (by lia) (by lia) (by lia) (by lia) f g (by rw [hpx, hpy]; exact hzf) (by rw [hpx, hpy]; exact hzg)
  rw [hpx, hpy] at K
  refine comp_stepL (nextName (nx_rngNE S' r'.handled (by lia) fun s' S' => ?_))
  walk_at "outR"
  refine EndA.mk ys [As.polys ys [f, g], As.lst (.ref PT) [va, vb], As.iss [va, vb] [dR px, dR py]] _ S' (fun b hb => mems3 (hb _ hP1) (hb _ hP2) (hb _ hP3)) fun C' m' s' S' => ?_
  refine stAG (y := "some") S' rfl rfl fun s' S' => ?_
  simp only [List.nil_append, List.cons_append, List.append_nil] at S'
  have S' := S'.frzL noD
  have S' := S'.weaken (O' := []) (fun _ h => h) (List.nil_sublist _)
  walk_at "go"
  refine useGrob (by assumption) (r'.le (by decide)) (.fact (vs := ys) (by walk_at "mem")) (by walk_at "mem") K.gb fun BB zs s' S' => ?_
  have S' := S'.frzL noD
  walk_at "go"
  rename_i s' S'
  have hzl := S'.polysLen (vs := zs) (ps := bs) (by walk_at "mem")
  have hbl := K.len
  -- the basis is as it should be
  refine listCompEG rfl (by decide) rfl (by decide) (clc rfl (clc rfl cln)) (fun _ => rfl) (fun KQ2 hKQ2 => ?_)
  walk_at "go"
  refine ih_list S' (Ld.isL (vs := zs) (.fact (by walk_at "mem")) S') fun I2 s3 hI2 S3 _ => ?_
  refine hKQ2 _ _ ?_
  refine CompGo.mk [ilst I2 BB 0] [] S3 fun D5 C5 b₅ s₅ hk₅ pg₅ S₅ k₅ R2 hR2 => ?_
  refine compStart_ rfl rfl rfl (fun Q E hq => ih_ilst S₅ (List.mem_cons_of_mem _ List.mem_cons_self) hq) ?_
  refine (?_ : ∀ (r : List Poly) (i : Nat) (m : Str → Option Value) (s' : Shared) (P : List As), St PR w s3 [I2] b₅ _ false m _ P [ilst I2 BB i, Ow.list D5 []] s' → i ≤ bs.length → bs.drop i = r →
    As.polys zs bs ∈ P → As.lst (.ref BB) zs ∈ P → As.lst (.ref PT) [va, vb] ∈ P → As.iss [va, vb] [dR px, dR py] ∈ P → codeAny (model PR w) A' _ _ s') bs 0 _ s₅ _ (S₅.perm (List.Perm.swap ..)) (Nat.zero_le _) rfl (by walk_at "mem") (by walk_at "mem") (by walk_at "mem") (by walk_at "mem")
  clear S₅
  intro r
  induction r with
  | cons e r ih =>
    intro i m s' P S' hi hd hP1 hP2 hP3 hP4
    obtain ⟨h3, h4, h5⟩ := drop_cons hd
    obtain ⟨ve, hve, S'⟩ := S'.polyAt (j := i) (p := e) hP1 h3
    obtain ⟨hne, ⟨mm, hml⟩, hat⟩ := K.each e (List.mem_of_getElem? h3)
    refine comp_stepL1 (nextName (nx_list S' (Ld.isL (vs := zs) (.fact (by walk_at "mem2")) S') (arr_at hve) fun s' S' => ?_))
    refine wpAny_assign_Name ?_
    walk_at "go"
    refine dNew (by assumption) fun d0 s' S' => ?_
    refine dEq0 S' (by have := r'.u; lia) (.fact (p := e) (by walk_at "mem2")) (.own (p := []) List.mem_cons_self) ?_
    walk_at "go"
    have hne' : (e.length == 0) = false := by rw [beq_eq_false_iff_ne]; exact hne
    rw [hne', if_neg (by decide)]
    walk_at "go"
    refine useIsB (d := dT (mm, 1)) S' (fun b B1 => by have := does_mvlead (o := o) (t := to) (r'.le (by decide)) B1.bs B1.pg ((Rd.fact (v := ve) (p := e) (by walk_at "mem2")).at B1); rw [hml] at this; exact this) fun vl s' S' => ?_
    walk_at "go"
    refine subD (ds := [dM mm, dR 1]) (by assumption) (show As.is vl (dT (mm, 1)) ∈ _ by walk_at "mem") (by decide) (by decide) (d := dR 1) rfl (fun _ => rfl) fun v1' S' => ?_
    walk_at "go"
    rename_i S'
    refine tNeR' (x := 1) (y := 1) S' r'.u (by walk_at "mem") (by walk_at "mem") ?_
    walk_at "go"
    rw [if_neg (by simp)]
    walk_at "go"
    refine useIsB (d := dR 0) S' (fun b B1 => does_mvat (r'.le (by decide)) B1.bs B1.pg ((Rd.fact (v := ve) (p := e) (by walk_at "mem2")).at B1) ((Ld.fact (v := .ref PT) (vs := [va, vb]) (by walk_at "mem2")).at B1) (B1.facts (.iss [va, vb] [dR px, dR py]) (by walk_at "mem2")) hat) fun v0 s' S' => ?_
    walk_at "go"
    rename_i S'
    refine tNeR' (x := 0) (y := 0) S' r'.u (by walk_at "mem") (by walk_at "mem") ?_
    walk_at "go"
    rw [if_neg (by simp)]
    walk_at "go"
    exact ih (i + 1) _ s' _ (S'.weaken (fun _ h => h) (.cons _ (List.Sublist.refl _))) h5 h4 (by walk_at "mem2") (by walk_at "mem2") (by walk_at "mem2") (by walk_at "mem2")
  | nil =>
  intro i m5 s' P5 S' hi hd hQ1 hQ2 hQ3 hQ4
  have hil := drop_nil hi hd
  subst hil
  refine comp_stepL1 (nextName (nx_listE S' r'.handled (Ld.isL (vs := zs) (.fact hQ2) S') (arr_end hzl.symm) fun s' S' => ?_))
  walk_at "outR"
  refine EndE.mk [] [] [] S' (fun b hb p hp => (nomatch hp)) fun s' S' => ?_
  simp only [List.nil_append, List.cons_append, List.append_nil] at S'
  walk_at "go"
  refine mkList (by assumption) (Nat.zero_le _) fun DE s' S' => ?_
  refine lNe0 S' (by have := r'.u; lia) (.own (vs := []) (by walk_at "mem")) (.own List.mem_cons_self) ?_
  walk_at "go"
  refine useBoolB (x := true) (by assumption) (fun b B1 => does_allzero (r'.le (by decide)) B1.bs B1.pg ((Ld.fact (v := .ref BB) (vs := zs) (by walk_at "mem")).at B1) (B1.facts (.polys zs bs) (by walk_at "mem")) K.zero) fun s' S' => ?_
  walk_at "go"
  rw [if_neg (by decide)]
  walk_at "go"
  refine useBoolB (x := true) (by assumption) (fun b B1 => does_isbasis (r'.le (by decide)) B1.bs B1.pg ((Ld.fact (v := .ref BB) (vs := zs) (by walk_at "mem")).at B1) (B1.facts (.polys zs bs) (by walk_at "mem")) K.isb) fun s' S' => ?_
  walk_at "go"
  refine ne_bool ?_
  walk_at "go"
  rw [if_neg (by decide)]
  walk_at "go"
  refine useBoolB (x := false) (by assumption) (fun b B1 => does_iswhole (r'.le (by decide)) B1.bs B1.pg ((Ld.fact (v := .ref BB) (vs := zs) (by walk_at "mem")).at B1) (B1.facts (.polys zs bs) (by walk_at "mem")) K.isw) fun s' S' => ?_
  obtain ⟨vf, hvf, S'⟩ := S'.polyAt (vs := ys) (ps := [f, g]) (j := 0) (p := f) (by walk_at "mem") rfl
  obtain ⟨vg, hvg, S'⟩ := S'.polyAt (vs := ys) (ps := [f, g]) (j := 1) (p := g) (by walk_at "mem") rfl
  walk_at "go"
  rw [if_neg (by decide)]
  walk_at "go"
  refine lSub (vs := ys) (x := vf) (by assumption) (.fact (by walk_at "mem")) (by decide) (by decide) hvf (fun _ => rfl) ?_
  walk_at "go"
  refine dDisp (by assumption) rfl rfl (by decide) (by decide) fun dk s' S' => ?_
  refine pair1 ?_
  walk_at "go"
  refine mkTup (ds := [.int 1, .int 0]) (by assumption) (.cons .int (.cons .int .nil)) (Nat.le_of_ble_eq_true rfl) fun q1 s' S' => ?_
  walk_at "go"
  refine mkTup (ds := [.int 2, .int 1]) (by assumption) (.cons .int (.cons .int .nil)) (Nat.le_of_ble_eq_true rfl) fun c1 s' S' => ?_
  refine pair1 ?_
  walk_at "go"
  refine mkTup (ds := [.int 0, .int 1]) (by assumption) (.cons .int (.cons .int .nil)) (Nat.le_of_ble_eq_true rfl) fun q2 s' S' => ?_
  walk_at "go"
  refine mkTup (ds := [.int (-1), .int 3]) (by assumption) (.cons .int (.cons .int .nil)) (Nat.le_of_ble_eq_true rfl) fun c2 s' S' => ?_
  rw [dR_2, dR_m13, show (Mine.D.tup [.int 1, .int 0]) = dM (1, 0) from rfl, show (Mine.D.tup [.int 0, .int 1]) = dM (0, 1) from rfl] at S'
  refine pair0 (stor1 ?_)
  refine dSet (q := (1, 0)) (c := 2) S' (by have := r'.u; lia) .head (by walk_at "mem") (by walk_at "mem") (Nat.zero_le _) fun s' S' => ?_
  refine stor1 ?_
  refine dSet (q := (0, 1)) (c := -1 / 3) S' (by have := r'.u; lia) .head (by walk_at "mem") (by walk_at "mem") (Nat.le_of_ble_eq_true rfl) fun s' S' => stor0 ?_
  rw [show pset (pset [] (1, 0) 2) (0, 1) (-1 / 3) = K1 from rfl] at S'
  walk_at "go"
  refine useOwnB (p := u) (by assumption) (fun b B1 => does_mvmul (r'.le (by decide)) B1.bs B1.pg ((Rd.fact (v := vf) (p := f) (by walk_at "mem")).at B1) ((Rd.own (d := dk) (p := K1) List.mem_cons_self).at B1) K.hu) fun du s' S' => ?_
  walk_at "go"
  refine lSub (vs := ys) (x := vg) (by assumption) (.fact (by walk_at "mem")) (by decide) (by decide) hvg (fun _ => rfl) ?_
  walk_at "go"
  refine dDisp (by assumption) rfl rfl (by decide) (by decide) fun dk2 s' S' => ?_
  refine pair1 ?_
  walk_at "go"
  refine mkTup (ds := [.int 0, .int 1]) (by assumption) (.cons .int (.cons .int .nil)) (Nat.le_of_ble_eq_true rfl) fun q3 s' S' => ?_
  walk_at "go"
  refine pair1 ?_
  walk_at "go"
  refine mkTup (ds := [.int 0, .int 0]) (by assumption) (.cons .int (.cons .int .nil)) (Nat.le_of_ble_eq_true rfl) fun q4 s' S' => ?_
  walk_at "go"
  refine mkTup (ds := [.int 5, .int 1]) (by assumption) (.cons .int (.cons .int .nil)) (Nat.le_of_ble_eq_true rfl) fun c4 s' S' => ?_
  rw [dR_5, show (Mine.D.tup [.int 0, .int 0]) = dM (0, 0) from rfl, show (Mine.D.tup [.int 0, .int 1]) = dM (0, 1) from rfl] at S'
  refine pair0 (stor1 ?_)
  refine dSet (q := (0, 1)) (c := 1) S' (by have := r'.u; lia) .head (by walk_at "mem") (by walk_at "mem") (Nat.zero_le _) fun s' S' => ?_
  refine stor1 ?_
  refine dSet (q := (0, 0)) (c := 5) S' (by have := r'.u; lia) .head (by walk_at "mem") (by walk_at "mem") (Nat.le_of_ble_eq_true rfl) fun s' S' => stor0 ?_
  rw [show pset (pset [] (0, 1) 1) (0, 0) 5 = K2 from rfl] at S'
  walk_at "go"
  refine useOwnB (p := v) (by assumption) (fun b B1 => does_mvmul (r'.le (by decide)) B1.bs B1.pg ((Rd.fact (v := vg) (p := g) (by walk_at "mem")).at B1) ((Rd.own (d := dk2) (p := K2) List.mem_cons_self).at B1) K.hv) fun dv s' S' => ?_
  walk_at "go"
  refine useOwnB (p := told) (by assumption) (fun b B1 => does_mvadd (r'.le (by decide)) B1.bs B1.pg ((Rd.own (d := du) (p := u) (by walk_at "mem")).at B1) ((Rd.own (d := dv) (p := v) List.mem_cons_self).at B1) K.htold) fun dt s' S' => ?_
  have S' := S'.frzX noD
  have S' := S'.weaken (O' := []) (fun _ h => h) (List.nil_sublist _)
  walk_at "go"
  rename_i s' S'
  have S' := (S'.polys1 (v := .ref dt) (p := told) (by walk_at "mem")).polysApp (vs := ys) (ps := [f, g]) (by walk_at "mem") List.mem_cons_self
  simp only [List.nil_append, List.cons_append, List.append_nil] at S'
  refine forS (fun R hR => ?_) (fun _ => rfl)
  walk_at "go"
  refine mkList (by assumption) (Nat.le_of_ble_eq_true rfl) fun TL s' S' => ?_
  have hyl : ys.length = 2 := S'.polysLen (vs := ys) (ps := [f, g]) (by walk_at "mem")
  walk_at "go"
  refine lAdd (vs := ys) (us := [.ref dt]) S' (.fact (by walk_at "mem")) (.own List.mem_cons_self) (by rw [hyl]; exact Nat.le_of_ble_eq_true rfl) fun SL s' S' => ?_
  walk_at "go"
  have hvz : (ys ++ [Value.ref dt]).length = 3 := by simp [hyl]
  refine ih_list S' (Ld.isL (vs := ys ++ [.ref dt]) (.own List.mem_cons_self) S') fun I2 s2 hI2 S2 _ => ?_
  refine (?_ : ∀ (r : List Poly) (i : Nat) (m : Str → Option Value) (s' : Shared) (P : List As), St PR w s0 [] b (callEnvC F316.1 L' 316) true m _ P [ilst I2 SL i, Ow.list SL (ys ++ [.ref dt])] s' → i ≤ 3 → ([f, g, told] : List Poly).drop i = r →
    m "some" = some (.ref D) → m "basis" = some (.ref BB) → m "told" = some (.ref dt) → As.polys (ys ++ [.ref dt]) [f, g, told] ∈ P → As.polys ys [f, g] ∈ P → As.lst (.ref D) ys ∈ P → As.polys zs bs ∈ P → As.lst (.ref BB) zs ∈ P → As.poly (.ref dt) told ∈ P → As.poly vf f ∈ P →
    codeAny (model PR w) A' _ _ s') [f, g, told] 0 _ s2 _ (S2.weaken (fun _ h => h) (.cons₂ _ (.cons₂ _ (List.nil_sublist _)))) (by decide) rfl rfl rfl rfl (by walk_at "mem2") (by walk_at "mem2") (by walk_at "mem2") (by walk_at "mem2") (by walk_at "mem2") (by walk_at "mem2") (by walk_at "mem2")
  clear S2 S'
  intro r
  induction r with
  | cons e r ih =>
    intro i m s' P S' hi hd hm1 hm2 hm3 hP1 hP2 hP3 hP4 hP5 hP6 hP7
    obtain ⟨h3, h4, h5⟩ := drop_cons hd
    obtain ⟨ve, hve, S'⟩ := S'.polyAt (j := i) (p := e) hP1 h3
    obtain ⟨k1, k2⟩ := K.mem e (List.mem_of_getElem? h3)
    refine forG (nextName (nx_list S' (Ld.isL (vs := ys ++ [.ref dt]) (.own (by walk_at "mem")) S') (arr_at hve) fun s' S' => ?_))
    refine wpAny_assign_Name ?_
    walk_at "go"
    refine useBoolB (x := true) (by assumption) (fun b B1 => does_ismember (r'.le (by decide)) B1.bs B1.pg ((Rd.fact (v := ve) (p := e) (by walk_at "mem2")).at B1) ((Ld.fact (v := .ref BB) (vs := zs) (by walk_at "mem2")).at B1) (B1.facts (.polys zs bs) (by walk_at "mem2")) k1) fun s' S' => ?_
    walk_at "go"
    refine ne_bool ?_
    walk_at "go"
    rw [if_neg (by decide)]
    walk_at "go"
    refine useLrest (by assumption) (r'.le (by decide)) (.fact (v := ve) (p := e) (by walk_at "mem2")) (.fact (v := .ref BB) (vs := zs) (by walk_at "mem2")) (by walk_at "mem2") k2 fun p dp s' hp0 S' => ?_
    subst hp0
    walk_at "go"
    refine dNew (by assumption) fun d0 s' S' => ?_
    refine dNe0 S' (by have := r'.u; lia) (.own (d := dp) (p := []) (by walk_at "mem")) (.own (d := d0) (p := []) (by walk_at "mem")) ?_
    walk_at "go"
    rw [if_neg (by decide)]
    first | rw [if_neg (by decide)] | skip
    walk_at "go"
    show codeAny _ _ _ _ _
    exact ih (i + 1) _ s' _ (S'.weaken (fun _ h => h) (.cons _ (.cons _ (List.Sublist.refl _)))) h5 h4 (by exact hm1) (by exact hm2) (by exact hm3) (by walk_at "mem2") (by walk_at "mem2") (by walk_at "mem2") (by walk_at "mem2") (by walk_at "mem2") (by walk_at "mem2") (by walk_at "mem2")
  | nil =>
  intro i m s' P S' hi hd hm1 hm2 hm3 hP1 hP2 hP3 hP4 hP5 hP6 hP7
  have hil : i = 3 := drop_nil (l := [f, g, told]) hi hd
  refine forG (nextName (nx_listE S' r'.handled (Ld.isL (vs := ys ++ [.ref dt]) (.own (by walk_at "mem")) S') (arr_end (by rw [hvz, hil])) fun s' S' => ?_))
  have S' := S'.weaken (O' := []) (fun _ h => h) (List.nil_sublist _)
  walk_at "go"
  refine useOwnB (p := mvterm (0, 0) 1) (by assumption) (fun b B1 => does_mvnumber (r'.le (by decide)) B1.bs B1.pg (B1.facts (.is (.ref 82) (dR 1)) (by walk_at "mem2"))) fun dn s' S' => ?_
  walk_at "go"
  refine useOwnB (p := t1) (by assumption) (fun b B1 => does_mvadd (r'.le (by decide)) B1.bs B1.pg ((Rd.fact (v := .ref dt) (p := told) (by walk_at "mem2")).at B1) ((Rd.own (d := dn) List.mem_cons_self).at B1) K.ht1) fun d1 s' S' => ?_
  walk_at "go"
  refine useBoolB (x := false) (by assumption) (fun b B1 => does_ismember (r'.le (by decide)) B1.bs B1.pg ((Rd.own (d := d1) (p := t1) (by walk_at "mem")).at B1) ((Ld.fact (v := .ref BB) (vs := zs) (by walk_at "mem2")).at B1) (B1.facts (.polys zs bs) (by walk_at "mem2")) K.nmem) fun s' S' => ?_
  walk_at "go"
  rw [if_neg (by decide)]
  walk_at "go"
  refine dNew (by assumption) fun d0 s' S' => ?_
  walk_at "go"
  refine useBoolB (x := true) (by assumption) (fun b B1 => does_ismember (r'.le (by decide)) B1.bs B1.pg ((Rd.own (d := d0) (p := []) (by walk_at "mem")).at B1) ((Ld.fact (v := .ref BB) (vs := zs) (by walk_at "mem2")).at B1) (B1.facts (.polys zs bs) (by walk_at "mem2")) K.emem) fun s' S' => ?_
  walk_at "go"
  rw [if_neg (by decide)]
  have S' := S'.weaken (O' := []) (fun _ h => h) (List.nil_sublist _)
  walk_at "go"
  -- whole
  refine lSub (vs := ys) (x := vf) (by assumption) (.fact (by walk_at "mem2")) (by decide) (by decide) hvf (fun _ => rfl) ?_
  walk_at "go"
  refine mkTup (ds := [.int 3, .int 1]) (by assumption) (.cons .int (.cons .int .nil)) (Nat.le_of_ble_eq_true rfl) fun c3 s' S' => ?_
  rw [dR_3] at S'
  walk_at "go"
  refine useOwnB (p := mvterm (0, 0) 3) (by assumption) (fun b B1 => does_mvnumber (r'.le (by decide)) B1.bs B1.pg (B1.facts (.is c3 (dR 3)) (by walk_at "mem2"))) fun dn s' S' => ?_
  walk_at "go"
  refine useOwnB (p := f3) (by assumption) (fun b B1 => does_mvadd (r'.le (by decide)) B1.bs B1.pg ((Rd.fact (v := vf) (p := f) (by walk_at "mem2")).at B1) ((Rd.own (d := dn) List.mem_cons_self).at B1) K.hf3) fun d3 s' S' => ?_
  have S' := S'.frzX noD
  have S' := (S'.polys1 (v := .ref d3) (p := f3) List.mem_cons_self).polysApp (vs := ys) (ps := [f, g]) (by walk_at "mem2") List.mem_cons_self
  simp only [List.nil_append, List.cons_append] at S'
  walk_at "go"
  refine mkList (by assumption) (Nat.le_of_ble_eq_true rfl) fun TL s' S' => ?_
  walk_at "go"
  refine lAdd (vs := ys) (us := [.ref d3]) S' (.fact (by walk_at "mem2")) (.own List.mem_cons_self) (by rw [hyl]; exact Nat.le_of_ble_eq_true rfl) fun SL2 s' S' => ?_
  walk_at "go"
  refine useGrob (gs := [f, g, f3]) (by assumption) (r'.le (by decide)) (.own (vs := ys ++ [.ref d3]) List.mem_cons_self) (by walk_at "mem2") K.gw fun WW us s' S' => ?_
  have S' := S'.frzL noD
  walk_at "go"
  refine useBoolB (x := true) (by assumption) (fun b B1 => does_iswhole (r'.le (by decide)) B1.bs B1.pg ((Ld.fact (v := .ref WW) (vs := us) (by walk_at "mem2")).at B1) (B1.facts (.polys us ws) (by walk_at "mem2")) K.wisw) fun s' S' => ?_
  walk_at "go"
  rw [if_pos rfl]
  walk_at "go"
  refine dDisp (by assumption) rfl rfl (by decide) (by decide) fun dk s' S' => ?_
  refine pair1 ?_
  walk_at "go"
  refine mkTup (ds := [.int 5, .int 1]) (by assumption) (.cons .int (.cons .int .nil)) (Nat.le_of_ble_eq_true rfl) fun q1 s' S' => ?_
  rw [show (Mine.D.tup [.int 5, .int 1]) = dM (5, 1) from rfl] at S'
  walk_at "go"
  refine mkTup (ds := [.int 1, .int 7]) (by assumption) (.cons .int (.cons .int .nil)) (Nat.le_of_ble_eq_true rfl) fun c1 s' S' => ?_
  rw [dR_17] at S'
  refine pair0 (stor1 ?_)
  refine dSet (q := (5, 1)) (c := 1 / 7) S' (by have := r'.u; lia) .head (by walk_at "mem2") (by walk_at "mem2") (Nat.zero_le _) fun s' S' => stor0 ?_
  rw [show pset [] (5, 1) (1 / 7) = K3 from rfl] at S'
  walk_at "go"
  refine useBoolB (x := true) (by assumption) (fun b B1 => does_ismember (r'.le (by decide)) B1.bs B1.pg ((Rd.own (d := dk) (p := K3) (by walk_at "mem")).at B1) ((Ld.fact (v := .ref WW) (vs := us) (by walk_at "mem2")).at B1) (B1.facts (.polys us ws) (by walk_at "mem2")) K.wmem) fun s' S' => ?_
  walk_at "go"
  walk_at "out"
  exact St.end0 (by assumption) ⟨rfl, rfl, rfl⟩
end
end
end Mine
section
set_option Elab.async false
set_option maxRecDepth 100000
namespace Mine
open PySem PySem.W PyProof.Rows PySem.Calls
theorem room_caller : Room callerA 12 := ⟨rfl, by decide, by decide, ⟨[], rfl⟩⟩
theorem well_list {P : Params} {h : Heap} {a : Addr} {vs : List Value} {xs : List PyData} (hL : h.IsList a vs.toArray) (x : Well P h (.ref a) (ofPy (.list xs))) : ListAt h (.ref a) vs := by
  have e : ofPy (.list xs) = .list (ofPys xs) := rfl
  rw [e] at x
  cases x with
  | list g _ =>
    obtain ⟨o, g2, _, n, e2⟩ := hL
    rw [g] at g2
    cases g2
    refine ⟨a, rfl, ?_⟩
    injection e2 with e3 e4
    rw [← e3]
    exact ⟨_, g⟩
theorem law_main (H : Plain) : PySem.Challenge.rw_nn0270_01.Holds := Mine.hd (by
  k_fill
  intro w s₀ s₁ mg mb G Y fa o pm cd doc dV kV ho hd hcd hD hmg hg args vals as hpre hlay hrd hwl hlo
  have KX := kIn_of Y
  have X := (Ground.X G).1
  have V := (Ground.X G).2
  refine Ground.open G ?_
  intro T B D TE TW
  wrow_args hpre hlay hrd hwl hlo
  rename Heap.IsList _ _ _ => hL
  rename IntsAre _ _ => hI
  rename Well _ _ _ _ => w1
  rename (¬ _) => hc
  have h1 := well_list hL w1
  have pg : Pg w s₁.heap := ⟨KX, T.nolimit, ⟨mg, T.g⟩, ⟨mb, T.b, T.builtins⟩, T.seer (by kernel_rfl)⟩
  have hfa : fa = 316 := by
    have e := (mg_of KX T.g (g_law w)).symm.trans hmg
    cases e
    rfl
  subst hfa
  refine does_law H room_caller (Keep.refl _) pg h1 hI (by have := hI.length; omega) _ _ fun v s' b' F N hR R => ?_
  obtain ⟨rfl, rfl, rfl⟩ := hR
  refine GoodW.toG ⟨.inl ⟨_, .bool true, [], rfl, fun _ => rfl, ?_, ?_, fun _ => ⟨.nil, fun _ h => nomatch h⟩⟩, fun b o hb => R.frame b o (fun h => nomatch h) hb, ?_, ?_⟩
  · exact .bool true
  · show (WShape.has [] (.bool true) .bool && WTm.holds [] (.eq .res (.lit (.bool true))) _) = true
    have e1 : WShape.has [] (.bool true) .bool = true := by first | rfl | decide | simp [WShape.has]
    rw [e1, Bool.true_and]
    unfold WTm.holds
    have e2 : same (WData.bool true) (WData.bool true) = true := by first | rfl | decide | simp [same]
    simp [WTm.value, e2]
  · obtain ⟨h', tk, rfl⟩ := R.same
    rfl
  · obtain ⟨h', tk, rfl⟩ := R.same
    exact hg)
end Mine
end
theorem PySem.Challenge.cw_nn0270_01_holds : PySem.Challenge.rw_nn0270_01.Holds :=
  Mine.law_main Mine.plain
