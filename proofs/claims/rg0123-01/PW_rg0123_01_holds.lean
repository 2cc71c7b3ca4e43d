import PyProof.Rows.All
import Wide.All
import OpenK.AllK
import Wide.FinOn
import PySem.Challenge.RW_rg0123_01
set_option maxHeartbeats 4000000
open PySem PySem.W PyProof.Rows
set_option maxRecDepth 100000
set_option maxHeartbeats 0
set_option Elab.async false
namespace Mine
noncomputable def runG (ok : Thread → Bool) (st : SharedT → Thread → Option (SharedT × Thread)) : Nat → SharedT → Thread → Option SharedT
  | 0, _, _ => none
  | n + 1, s, t => match through t with
    | true => some s
    | false => match ok t with
      | false => none
      | true => match st s t with
        | some (s', t') => runG ok st n s' t'
        | none => none
theorem runG_top {tb : String → Option Builtin} {p : Program} {w : World} {n₀ : Nat} {ann : Option Value} : ∀ {n : Nat} {s s' : SharedT} {t : Thread}, runG (stepOk n₀ ann) (stepT (denote tb) p w) n s t = some s' → topRun tb p w n₀ ann n s.abs t = some s'.abs
  | 0, _, _, _, h => by cases h
  | n + 1, s, s', t, h => by
    unfold runG at h
    unfold topRun
    cases he : through t with
    | true => rw [he] at h; cases h; rfl
    | false =>
      rw [he] at h
      cases hk : stepOk n₀ ann t with
      | false => rw [hk] at h; cases h
      | true =>
        rw [hk] at h
        cases hs : stepT (denote tb) p w s t with
        | none => rw [hs] at h; cases h
        | some r => obtain ⟨s₂, t₂⟩ := r; rw [hs] at h; rw [stepT_spec hs]; exact runG_top h
noncomputable def plant : List Obj → Nat → PySem.W.BT → PySem.W.BT
  | [], _, t => t
  | o :: l, n, t => plant l (n + 1) (t.ins n o)
noncomputable def getT (s : SharedT) (a : Addr) : Option Obj := match Nat.blt a s.n with
  | true => alive ((s.tree.get a).getD default)
  | false => none
theorem getT_eq (s : SharedT) (a : Addr) : s.abs.heap.get? a = getT s a := by
  unfold getT
  cases h : Nat.blt a s.n with
  | true =>
    have h : a < s.n := Nat.le_of_ble_eq_true h
    show (absHeap s.tree s.n s.life).get? a = alive ((s.tree.get a).getD default)
    unfold Heap.get?
    rw [absHeap_at, if_pos h]
    obtain ⟨c, d, dt, sl⟩ := (s.tree.get a).getD default
    cases dt <;> rfl
  | false =>
    have h : ¬ a < s.n := fun x => by rw [show Nat.blt a s.n = true from Nat.ble_eq_true_of_le x] at h; cases h
    exact abs_get_none h
theorem left_of {p q : Program} {loose : List Str} {Xt : Shared → Bool} {α : Type} {Yf : Shared → α} {Ya : World → α} {N : Nat} {H₀ : Params → Heap} {T : World → PySem.W.BT} {n : Nat} {gs₀ : Array GenState} {d₀ : Drawn} {k₀ : Nat} {ann : Option Value}
    (open_ : ∀ w : World, (fencedOpening treeTable p w N).map (fun s => (s.heap, s.gens, s.drawn, s.toks)) = some (H₀ w.params, gs₀, d₀, k₀))
    (size : ∀ w : World, ((H₀ w.params).isNs mainGlobals && gs₀.size == 0, (H₀ w.params).objs.size, (H₀ w.params).nsMap mainGlobals "__annotations__") = (true, n, ann))
    (tree : ∀ w : World, absHeap (T w) n (H₀ w.params).life = H₀ w.params)
    (run : ∀ (w : World) (os : OsState), (runG (stepOk n ann) (stepT (denote treeTable) p w) N ⟨T w, n, (H₀ w.params).life, gs₀, d₀, k₀, os⟩ (topStub p)).map (fun s => (staticsOk (importedModules p.main.body) (H₀ w.params) s.abs.heap && namesBound p s.abs.heap && gensDone s.abs && laidKept (H₀ w.params) s.abs.heap,
      openSeen q loose (importedModules p.main.body) Xt true s.abs)) = some (true, openGood q loose))
    {Yt : SharedT → α} (hY : ∀ s, Yf s.abs = Yt s)
    (run2 : ∀ (w : World) (os : OsState), (runG (stepOk n ann) (stepT (denote treeTable) p w) N ⟨T w, n, (H₀ w.params).life, gs₀, d₀, k₀, os⟩ (topStub p)).map Yt = some (Ya w)) : LeftO p q loose Xt Yf Ya N := fun w => by
  obtain ⟨⟨h, gs, d, k, os⟩, e, e'⟩ := Option.map_eq_some_iff.mp (open_ w)
  obtain ⟨rfl, rfl, rfl, rfl⟩ : h = H₀ w.params ∧ gs = gs₀ ∧ d = d₀ ∧ k = k₀ := by simpa using e'
  obtain ⟨z1, z2, z3⟩ : _ ∧ _ ∧ _ := by simpa only [Prod.mk.injEq] using size w
  obtain ⟨s', hr, hl⟩ := Option.map_eq_some_iff.mp (run w os)
  obtain ⟨l1, l2⟩ : _ ∧ _ := by simpa only [Prod.mk.injEq] using hl
  have l3 : Yf s'.abs = Ya w := by
    have h2 := run2 w os
    rw [hr] at h2
    exact (hY s').trans (Option.some.inj h2)
  have r := runG_top hr
  rw [show SharedT.abs ⟨T w, n, (H₀ w.params).life, gs, d, k, os⟩ = ⟨H₀ w.params, gs, d, k, os⟩ from congrArg (fun H => Shared.mk H gs d k os) (tree w)] at r
  have t : topFrom treeTable p w N ⟨H₀ w.params, gs, d, k, os⟩ = some s'.abs := by
    unfold topFrom
    dsimp only
    rw [z1, z2, z3, r]
    show (match staticsOk (importedModules p.main.body) (H₀ w.params) s'.abs.heap && namesBound p s'.abs.heap && gensDone s'.abs && laidKept (H₀ w.params) s'.abs.heap with | true => _ | false => _) = _
    rw [l1]
  unfold openEnds
  rw [e]
  show (topFrom treeTable p w N _).map _ = _
  rw [t]
  exact congrArg some (Prod.ext l2 l3)
abbrev view : Program := PySem.W.view PySem.Challenge.pw_rg0123_01 [0, 2, 3, 5, 6, 7, 9, 10, 11, 13, 15, 17, 18, 19, 20, 21]
abbrev heldR := RowW.records PySem.Challenge.rw_rg0123_01.row.toRowW
abbrev mods := importedModules PySem.Challenge.pw_rg0123_01.main.body
theorem boot_size : ∀ P, ((boot_heap P).isNs mainGlobals && (Array.mk [] : Array GenState).size == 0, (boot_heap P).objs.size, (boot_heap P).nsMap mainGlobals "__annotations__") = (true, 11, some (.ref 6)) := fun P => by kernel_rfl
theorem opens : opening PySem.Challenge.pw_rg0123_01 = plainProg PySem.Challenge.pw_rg0123_01.main.scope.names := by kernel_rfl
theorem fences : ∀ s, fenceModules? PySem.Challenge.pw_rg0123_01 s = some s := fun s => by kernel_rfl
theorem planted : ∀ P, absHeap (plant (boot_heap P).objs.toList 0 .nil) 11 (boot_heap P).life = boot_heap P := fun P => by kernel_rfl
noncomputable abbrev T0 (w : World) (os : OsState) : SharedT := ⟨plant (boot_heap w.params).objs.toList 0 .nil, 11, (boot_heap w.params).life, Array.mk [], boot_drawn, boot_toks, os⟩
theorem ranAll : ∀ w os, (runG (stepOk 11 (some (.ref 6))) (stepT (denote treeTable) PySem.Challenge.pw_rg0123_01 w) 6334 (T0 w os) (topStub PySem.Challenge.pw_rg0123_01)).map (fun s => (staticsOk mods (boot_heap w.params) s.abs.heap && namesBound PySem.Challenge.pw_rg0123_01 s.abs.heap && gensDone s.abs && laidKept (boot_heap w.params) s.abs.heap,
    openSeen view [] mods (fun s => xlAt view [] s && recOk heldR s) true s.abs)) = some (true, openGood view []) := fun w os => by
  rw [PySem.W.Fast.te6613529449190102663, PySem.W.Fast.te10156331382660048174, PySem.W.Fast.te14364793385576792824, PySem.W.Fast.te11892475500146522536, PySem.W.Fast.te4187177175401517315]
  kernel_rfl
theorem left {K : Params → Frag} {as : List Addr} {e : ∀ P, as = (K P).map (·.1)}
    (run : ∀ w os, (runG (stepOk 11 (some (.ref 6))) (stepT (denote treeTable) PySem.Challenge.pw_rg0123_01 w) 6334 (T0 w os) (topStub PySem.Challenge.pw_rg0123_01)).map (fun s => as.map (getT s)) = some ((K w.params).map fun p => some p.2)) :
    LeftO PySem.Challenge.pw_rg0123_01 view [] (fun s => xlAt view [] s && recOk heldR s) (Hook.obs (kHook K as e)) (Hook.val (kHook K as e)) 6334 :=
  left_of (boot_open (N := 6334) opens (by decide +kernel) fences) (fun w => boot_size w.params) (fun w => planted w.params) ranAll (Yt := fun s => as.map (getT s)) (fun s => List.map_congr_left fun a _ => getT_eq s a) run
abbrev row := PySem.Challenge.rw_rg0123_01.row
theorem headL (H : Hook) (said : row.wellSaid = true) {d : DefRec} {kwd : List (Str × Expr)} (hl : LeftO row.prog view [] (fun s => xlAt view [] s && recOk heldR s) H.obs H.val 6334)
    (hdef : defOf view row.name = some (d, kwd)) (hp : row.prog.theDef row.name = some (d.params, d.body, d.scope)) (hk : kwWritten? d.params.kwonlyargs d.params.kw_defaults = some kwd)
    (hw : row.toRowW.promised) (hc : WalkO view [] (XL view []) H.says row.toRowW d kwd fun f vs => PySem.call f vs) : row.Holds :=
  holds_open hl H.of H.keeps (fun s e => xl_of s (Bool.and_eq_true_iff.mp e).1) XL.keeps hdef hp hk (fun s e => recFacts_of (Bool.and_eq_true_iff.mp e).2) (by rfl) said (by decide +kernel) ⟨rfl, rfl, rfl, rfl, rfl, by decide +kernel⟩ hw hc
end Mine
local macro_rules | `(tactic| o_law) => `(tactic| refine holds_law (by kernel_rfl) fun said => ?_)
local macro_rules | `(tactic| o_head $H) => do
  let hl := Lean.mkIdent `hl
  let hw := Lean.mkIdent `hw
  let hc := Lean.mkIdent `hc
  `(tactic| (refine Mine.headL $H (by assumption) ?$hl (by rfl) (by rfl) (by rfl) ?$hw ?$hc; (case $hl:ident => refine Mine.left fun w os => ?_; rw [PySem.W.Fast.te6613529449190102663, PySem.W.Fast.te10156331382660048174, PySem.W.Fast.te14364793385576792824, PySem.W.Fast.te11892475500146522536]; kernel_rfl)))
open_top Mine.hd for PySem.Challenge.rw_rg0123_01

set_option Elab.async false
set_option linter.all false
noncomputable section
namespace Mine
namespace Ln
set_option genSizeOf false
set_option genInjectivity false
inductive E | v (i : Nat) | c (n : Nat) | add (a b : E) | mul (k : Nat) (a : E)
inductive I | v (i : Nat) | c (k : Int) | n (e : E) | add (a b : I) | sub (a b : I) | mul (k : Int) (a : I)
inductive F | le (a b : E) | eq (a b : E) | no (a : F) | and (a b : F) | or (a b : F) | imp (a b : F) | ff | ile (a b : I) | ieq (a b : I)
noncomputable def nth : List Nat → Nat → Nat
  | [], _ => 0
  | x :: _, 0 => x
  | _ :: l, i + 1 => nth l i
noncomputable def nti : List Int → Nat → Int
  | [], _ => 0
  | x :: _, 0 => x
  | _ :: l, i + 1 => nti l i
noncomputable def E.den (l : List Nat) : E → Nat
  | .v i => nth l i
  | .c n => n
  | .add a b => a.den l + b.den l
  | .mul k a => k * a.den l
noncomputable def I.den (z : List Int) (l : List Nat) : I → Int
  | .v i => nti z i
  | .c k => k
  | .n e => (e.den l : Int)
  | .add a b => a.den z l + b.den z l
  | .sub a b => a.den z l - b.den z l
  | .mul k a => k * a.den z l
noncomputable def F.den (z : List Int) (l : List Nat) : F → Prop
  | .le a b => a.den l ≤ b.den l
  | .eq a b => a.den l = b.den l
  | .no a => ¬ a.den z l
  | .and a b => a.den z l ∧ b.den z l
  | .or a b => a.den z l ∨ b.den z l
  | .imp a b => a.den z l → b.den z l
  | .ff => False
  | .ile a b => a.den z l ≤ b.den z l
  | .ieq a b => a.den z l = b.den z l
structure C where
  r : List Int
  k : Int
noncomputable def dot : List Int → List Nat → Int
  | [], _ => 0
  | c :: cs, l => match l with
    | [] => 0
    | x :: xs => c * x + dot cs xs
noncomputable def C.val (c : C) (l : List Nat) : Int := c.k + dot c.r l
noncomputable def adds : List Int → List Int → List Int
  | [], bs => bs
  | a :: as, l => match l with
    | [] => a :: as
    | b :: bs => (a + b) :: adds as bs
noncomputable def scl (k : Int) : List Int → List Int
  | [] => []
  | a :: as => (k * a) :: scl k as
theorem dot_nil (a : List Int) : dot a [] = 0 := by cases a <;> rfl
theorem dot_adds (a : List Int) : ∀ (b : List Int) (l : List Nat), dot (adds a b) l = dot a l + dot b l := by
  induction a with
  | nil => exact fun b l => (Int.zero_add _).symm
  | cons a as ih =>
    intro b l
    cases l with
    | nil => rw [dot_nil, dot_nil, dot_nil]; rfl
    | cons x xs =>
      cases b with
      | nil => exact (Int.add_zero _).symm
      | cons b bs =>
        show (a + b) * x + dot (adds as bs) xs = (a * x + dot as xs) + (b * x + dot bs xs)
        rw [ih, Int.add_mul, Int.add_assoc, Int.add_assoc, Int.add_left_comm (b * x)]
theorem dot_scl (k : Int) (a : List Int) : ∀ l : List Nat, dot (scl k a) l = k * dot a l := by
  induction a with
  | nil => exact fun l => (Int.mul_zero k).symm
  | cons a as ih =>
    intro l
    cases l with
    | nil => exact (Int.mul_zero k).symm
    | cons x xs =>
      show (k * a) * x + dot (scl k as) xs = k * (a * x + dot as xs)
      rw [ih, Int.mul_add, Int.mul_assoc]
noncomputable def C.add (a b : C) : C := ⟨adds a.r b.r, a.k + b.k⟩
noncomputable def C.scl (k : Int) (a : C) : C := ⟨Ln.scl k a.r, k * a.k⟩
theorem val_add (a b : C) (l : List Nat) : (a.add b).val l = a.val l + b.val l := by
  show a.k + b.k + dot (adds a.r b.r) l = a.k + dot a.r l + (b.k + dot b.r l)
  rw [dot_adds, Int.add_assoc, Int.add_assoc, Int.add_left_comm b.k]
theorem val_scl (k : Int) (a : C) (l : List Nat) : (a.scl k).val l = k * a.val l := by
  show k * a.k + dot (Ln.scl k a.r) l = k * (a.k + dot a.r l)
  rw [dot_scl, Int.mul_add]
noncomputable def unit : Nat → List Int
  | 0 => [1]
  | i + 1 => 0 :: unit i
theorem val_unit (i : Nat) : ∀ l : List Nat, (C.mk (unit i) 0).val l = nth l i := by
  have h : ∀ l : List Nat, dot (unit i) l = nth l i := by
    induction i with
    | zero =>
      intro l
      cases l with
      | nil => rfl
      | cons x xs => show 1 * (x : Int) + 0 = x; rw [Int.one_mul, Int.add_zero]
    | succ i ih =>
      intro l
      cases l with
      | nil => rfl
      | cons x xs => show 0 * (x : Int) + dot (unit i) xs = nth xs i; rw [ih, Int.zero_mul, Int.zero_add]
  exact fun l => (Int.zero_add _).trans (h l)
noncomputable def flat : List Int → List Nat → List Nat
  | [], l => l
  | x :: z, l => x.toNat :: (-x).toNat :: flat z l
noncomputable def E.lin (m : Nat) : E → C
  | .v i => ⟨unit (2 * m + i), 0⟩
  | .c n => ⟨[], n⟩
  | .add a b => (a.lin m).add (b.lin m)
  | .mul k a => (a.lin m).scl k
noncomputable def I.lin (m : Nat) : I → C
  | .v i => match Nat.blt i m with
    | true => .add ⟨unit (2 * i), 0⟩ (.scl (-1) ⟨unit (2 * i + 1), 0⟩)
    | false => ⟨[], 0⟩
  | .c k => ⟨[], k⟩
  | .n e => e.lin m
  | .add a b => (a.lin m).add (b.lin m)
  | .sub a b => (a.lin m).add ((b.lin m).scl (-1))
  | .mul k a => (a.lin m).scl k
theorem nth_flat (l : List Nat) (i : Nat) : ∀ z : List Int, nth (flat z l) (2 * z.length + i) = nth l i
  | [] => congrArg (nth l) (Nat.zero_add i)
  | x :: z => by
    rw [show 2 * (x :: z).length + i = (2 * z.length + i) + 1 + 1 by rw [List.length_cons, Nat.mul_add, Nat.add_right_comm]]
    exact nth_flat l i z
theorem nti_flat (l : List Nat) : ∀ (z : List Int) (i : Nat), i < z.length → nti z i = (nth (flat z l) (2 * i) : Int) + -1 * (nth (flat z l) (2 * i + 1) : Int)
  | [], _, h => absurd h (Nat.not_lt_zero _)
  | x :: z, 0, _ => by show x = (x.toNat : Int) + -1 * ((-x).toNat : Int); rw [Int.neg_mul, Int.one_mul]; exact (Int.toNat_sub_toNat_neg x).symm
  | x :: z, i + 1, h => nti_flat l z i (Nat.lt_of_succ_lt_succ h)
theorem nti_far : ∀ (z : List Int) (i : Nat), ¬ i < z.length → nti z i = 0
  | [], _, _ => rfl
  | x :: z, 0, h => absurd (Nat.zero_lt_succ _) h
  | x :: z, i + 1, h => nti_far z i fun q => h (Nat.succ_lt_succ q)
theorem E.lin_eq (z : List Int) (l : List Nat) (e : E) : (e.den l : Int) = (e.lin z.length).val (flat z l) := by
  induction e with
  | v i => exact ((val_unit _ _).trans (congrArg Int.ofNat (nth_flat l i z))).symm
  | c n => exact (Int.add_zero _).symm
  | add a b ha hb => exact ((val_add ..).trans (by rw [← ha, ← hb]; rfl)).symm
  | mul k a ha => exact ((val_scl ..).trans (by rw [← ha]; rfl)).symm
theorem I.lin_eq (z : List Int) (l : List Nat) (e : I) : e.den z l = (e.lin z.length).val (flat z l) := by
  induction e with
  | v i =>
    show nti z i = C.val (match Nat.blt i z.length with | true => _ | false => _) _
    cases h : Nat.blt i z.length with
    | true => exact (nti_flat l z i (Nat.le_of_ble_eq_true h)).trans ((val_add ..).trans (by rw [val_scl, val_unit, val_unit])).symm
    | false => exact nti_far z i fun q => by rw [show Nat.blt i z.length = true from Nat.ble_eq_true_of_le q] at h; cases h
  | c k => exact (Int.add_zero _).symm
  | n e => exact e.lin_eq z l
  | add a b ha hb => exact ((val_add ..).trans (by rw [← ha, ← hb]; rfl)).symm
  | sub a b ha hb => exact ((val_add ..).trans (by rw [val_scl, ← ha, ← hb, Int.neg_mul, Int.one_mul]; rfl)).symm
  | mul k a ha => exact ((val_scl ..).trans (by rw [← ha]; rfl)).symm
/-- b - a - k ≥ 0 -/
noncomputable def dif (a b : C) (k : Int) : C := (b.add (a.scl (-1))).add ⟨[], -k⟩
noncomputable def ok (l : List Nat) (c : C) : Prop := 0 ≤ c.val l
theorem dif_ok {l : List Nat} {a b : C} {k : Int} (h : a.val l + k ≤ b.val l) : ok l (dif a b k) := by
  show 0 ≤ C.val _ _
  rw [dif, val_add, val_add, val_scl, show (C.mk [] (-k)).val l = -k from Int.add_zero _]
  omega
noncomputable def prod : List (List C) → List (List C) → List (List C)
  | [], _ => []
  | x :: xs, b => b.map (fun y => x ++ y) ++ prod xs b
noncomputable def alls (l : List Nat) : List C → Prop
  | [] => True
  | c :: cs => ok l c ∧ alls l cs
noncomputable def sat (l : List Nat) : List (List C) → Prop
  | [] => False
  | x :: xs => alls l x ∨ sat l xs
theorem alls_app {l : List Nat} : ∀ {a b : List C}, alls l a → alls l b → alls l (a ++ b)
  | [], _, _, h => h
  | _ :: _, _, h, k => ⟨h.1, alls_app h.2 k⟩
theorem sat_app {l : List Nat} : ∀ {a b : List (List C)}, sat l a ∨ sat l b → sat l (a ++ b)
  | [], _, h => h.elim False.elim id
  | _ :: _, _, h => h.elim (fun h => h.elim .inl fun h => .inr (sat_app (.inl h))) fun h => .inr (sat_app (.inr h))
theorem sat_map {l : List Nat} {x : List C} (h : alls l x) : ∀ {b : List (List C)}, sat l b → sat l (b.map fun y => x ++ y)
  | [], k => k
  | _ :: _, k => k.elim (fun k => .inl (alls_app h k)) fun k => .inr (sat_map h k)
theorem sat_prod {l : List Nat} : ∀ {a b : List (List C)}, sat l a → sat l b → sat l (prod a b)
  | [], _, h, _ => h.elim
  | _ :: _, _, h, k => sat_app (h.elim (fun h => .inl (sat_map h k)) fun h => .inr (sat_prod h k))
noncomputable def rel (a b : C) : Bool → List (List C)
  | true => [[dif a b 0]]
  | false => [[dif b a 1]]
noncomputable def same (a b : C) : Bool → List (List C)
  | true => [[dif a b 0, dif b a 0]]
  | false => [[dif a b 1], [dif b a 1]]
noncomputable def F.dnf (m : Nat) : F → Bool → List (List C)
  | .le a b, s => rel (a.lin m) (b.lin m) s
  | .eq a b, s => same (a.lin m) (b.lin m) s
  | .ile a b, s => rel (a.lin m) (b.lin m) s
  | .ieq a b, s => same (a.lin m) (b.lin m) s
  | .no a, s => a.dnf m (!s)
  | .and a b, s => match s with
    | true => prod (a.dnf m true) (b.dnf m true)
    | false => a.dnf m false ++ b.dnf m false
  | .or a b, s => match s with
    | true => a.dnf m true ++ b.dnf m true
    | false => prod (a.dnf m false) (b.dnf m false)
  | .imp a b, s => match s with
    | true => a.dnf m false ++ b.dnf m true
    | false => prod (a.dnf m true) (b.dnf m false)
  | .ff, s => match s with
    | true => []
    | false => [[]]
theorem rel_ok {l : List Nat} {a b : C} : (a.val l ≤ b.val l → sat l (rel a b true)) ∧ (¬ a.val l ≤ b.val l → sat l (rel a b false)) :=
  ⟨fun h => .inl ⟨dif_ok ((Int.add_zero _).symm ▸ h), trivial⟩, fun h => .inl ⟨dif_ok (Int.lt_of_not_ge h), trivial⟩⟩
theorem same_ok {l : List Nat} {a b : C} : (a.val l = b.val l → sat l (same a b true)) ∧ (¬ a.val l = b.val l → sat l (same a b false)) :=
  ⟨fun h => .inl ⟨dif_ok ((Int.add_zero _).symm ▸ Int.le_of_eq h), dif_ok ((Int.add_zero _).symm ▸ Int.le_of_eq h.symm), trivial⟩,
    fun h => (Int.lt_or_gt_of_ne h).elim (fun h => .inl ⟨dif_ok h, trivial⟩) fun h => .inr (.inl ⟨dif_ok h, trivial⟩)⟩
theorem F.dnf_ok (z : List Int) (l : List Nat) (f : F) : (f.den z l → sat (flat z l) (f.dnf z.length true)) ∧ (¬ f.den z l → sat (flat z l) (f.dnf z.length false)) := by
  induction f with
  | le a b =>
    refine ⟨fun h => rel_ok.1 ?_, fun h => rel_ok.2 fun q => h ?_⟩
    · rw [← E.lin_eq, ← E.lin_eq]; exact Int.ofNat_le.mpr h
    · rw [← E.lin_eq, ← E.lin_eq] at q; exact Int.ofNat_le.mp q
  | eq a b =>
    refine ⟨fun h => same_ok.1 ?_, fun h => same_ok.2 fun q => h ?_⟩
    · rw [← E.lin_eq, ← E.lin_eq]; exact congrArg _ h
    · rw [← E.lin_eq, ← E.lin_eq] at q; exact Int.ofNat.inj q
  | ile a b =>
    refine ⟨fun h => rel_ok.1 ?_, fun h => rel_ok.2 fun q => h ?_⟩
    · rw [← I.lin_eq, ← I.lin_eq]; exact h
    · rw [← I.lin_eq, ← I.lin_eq] at q; exact q
  | ieq a b =>
    refine ⟨fun h => same_ok.1 ?_, fun h => same_ok.2 fun q => h ?_⟩
    · rw [← I.lin_eq, ← I.lin_eq]; exact h
    · rw [← I.lin_eq, ← I.lin_eq] at q; exact q
  | no a ha => exact ⟨ha.2, fun h => ha.1 (Classical.not_not.mp h)⟩
  | and a b ha hb => exact ⟨fun h => sat_prod (ha.1 h.1) (hb.1 h.2), fun h => sat_app ((Classical.em _).elim (fun x => .inr (hb.2 fun y => h ⟨x, y⟩)) fun x => .inl (ha.2 x))⟩
  | or a b ha hb => exact ⟨fun h => sat_app (h.imp ha.1 hb.1), fun h => sat_prod (ha.2 fun x => h (.inl x)) (hb.2 fun x => h (.inr x))⟩
  | imp a b ha hb => exact ⟨fun h => sat_app ((Classical.em _).elim (fun x => .inr (hb.1 (h x))) fun x => .inl (ha.2 x)), fun h => sat_prod (ha.1 (Classical.byContradiction fun x => h fun y => (x y).elim)) (hb.2 fun x => h fun _ => x)⟩
  | ff => exact ⟨False.elim, fun _ => .inl trivial⟩
/-- the head's variable taken out -/
noncomputable def hd (c : C) : Int := match c.r with
  | a :: _ => a
  | [] => 0
noncomputable def tl (c : C) : C := match c.r with
  | _ :: as => ⟨as, c.k⟩
  | [] => c
theorem val_hd (x : Nat) (l : List Nat) : ∀ c : C, c.val (x :: l) = (tl c).val l + hd c * x
  | ⟨[], k⟩ => by show k + 0 = k + 0 + 0 * (x : Int); rw [Int.zero_mul, Int.add_zero, Int.add_zero]
  | ⟨a :: as, k⟩ => by show k + (a * x + dot as l) = k + dot as l + a * x; rw [Int.add_comm (a * x), Int.add_assoc]
noncomputable def mix (p n : C) : C := ((tl p).scl (-(hd n))).add ((tl n).scl (hd p))
theorem mix_ok {x : Nat} {l : List Nat} {p n : C} (hp : ok (x :: l) p) (hn : ok (x :: l) n) (p0 : 0 < hd p) (n0 : hd n < 0) : ok l (mix p n) := by
  show 0 ≤ C.val _ _
  rw [mix, val_add, val_scl, val_scl]
  have a : 0 ≤ C.val _ _ := hp
  have b : 0 ≤ C.val _ _ := hn
  rw [val_hd] at a b
  have u := Int.add_nonneg (Int.mul_nonneg (Int.neg_nonneg_of_nonpos (Int.le_of_lt n0)) a) (Int.mul_nonneg (Int.le_of_lt p0) b)
  rw [Int.mul_add, Int.mul_add, Int.neg_mul _ (hd p * x), ← Int.mul_assoc (hd n), ← Int.mul_assoc (hd p), Int.mul_comm (hd p) (hd n)] at u
  have v : ∀ s t q : Int, s + -q + (t + q) = s + t := by intros; omega
  rw [v] at u
  exact u
noncomputable def mixs (p : C) : List C → List C → List C
  | [], r => r
  | n :: ns, r => match @decide (hd n < 0) (Int.decLt _ _) with
    | true => mix p n :: mixs p ns r
    | false => mixs p ns r
noncomputable def step (cs : List C) : List C → List C
  | [] => []
  | p :: ps => match @decide (0 < hd p) (Int.decLt _ _) with
    | true => mixs p cs (step cs ps)
    | false => match @decide (hd p = 0) (Int.instDecidableEq _ _) with
      | true => tl p :: step cs ps
      | false => step cs ps
theorem mixs_ok {x : Nat} {l : List Nat} {p : C} (hp : ok (x :: l) p) (p0 : 0 < hd p) {r : List C} (hr : alls l r) : ∀ {ns : List C}, alls (x :: l) ns → alls l (mixs p ns r)
  | [], _ => hr
  | n :: ns, H => by
    show alls l (match @decide (hd n < 0) (Int.decLt _ _) with | true => _ | false => _)
    cases q : @decide (hd n < 0) (Int.decLt _ _) with
    | true => exact ⟨mix_ok hp H.1 p0 (of_decide_eq_true q), mixs_ok hp p0 hr H.2⟩
    | false => exact mixs_ok hp p0 hr H.2
theorem step_ok {x : Nat} {l : List Nat} {cs : List C} (hc : alls (x :: l) cs) : ∀ {ps : List C}, alls (x :: l) ps → alls l (step cs ps)
  | [], _ => trivial
  | p :: ps, H => by
    have ih := step_ok hc H.2
    show alls l (match @decide (0 < hd p) (Int.decLt _ _) with | true => mixs p cs _ | false => match @decide (hd p = 0) (Int.instDecidableEq _ _) with | true => tl p :: _ | false => _)
    cases q : @decide (0 < hd p) (Int.decLt _ _) with
    | true => exact mixs_ok H.1 (of_decide_eq_true q) ih hc
    | false =>
      cases q : @decide (hd p = 0) (Int.instDecidableEq _ _) with
      | false => exact ih
      | true =>
        refine ⟨?_, ih⟩
        have a : 0 ≤ C.val _ _ := H.1
        rw [val_hd, show hd p = 0 from of_decide_eq_true q, Int.zero_mul, Int.add_zero] at a
        exact a
noncomputable def bad : List C → Bool
  | [] => false
  | c :: cs => match @decide (c.k < 0) (Int.decLt _ _) with
    | true => true
    | false => bad cs
noncomputable def elim : Nat → List C → Bool
  | 0, cs => bad cs
  | n + 1, cs => elim n (step cs (⟨[1], 0⟩ :: cs))
theorem bad_ok : ∀ {cs : List C}, alls [] cs → bad cs = false
  | [], _ => rfl
  | d :: ds, H => by
    show (match @decide (d.k < 0) (Int.decLt _ _) with | true => true | false => bad ds) = false
    have a : 0 ≤ d.k + dot d.r [] := H.1
    rw [dot_nil, Int.add_zero] at a
    rw [decide_eq_false fun z => Int.lt_irrefl _ (Int.lt_of_lt_of_le z a)]
    exact bad_ok H.2
theorem elim_ok : ∀ {l : List Nat} {cs : List C}, alls l cs → elim l.length cs = false
  | [], _, H => bad_ok H
  | x :: l, cs, H => elim_ok (l := l) (step_ok H ⟨by show 0 ≤ 0 + (1 * (x : Int) + 0); rw [Int.zero_add, Int.add_zero, Int.one_mul]; exact Int.natCast_nonneg x, H⟩)
noncomputable def none : Nat → List (List C) → Bool
  | _, [] => true
  | n, x :: xs => match elim n x with
    | true => none n xs
    | false => false
theorem none_ok {l : List Nat} : ∀ {d : List (List C)}, none l.length d = true → ¬ sat l d
  | [], _, h => h
  | x :: xs, h, k => by
    have h : (match elim l.length x with | true => none l.length xs | false => false) = true := h
    cases q : elim l.length x with
    | false => rw [q] at h; cases h
    | true =>
      rw [q] at h
      exact k.elim (fun k => by rw [elim_ok k] at q; cases q) (none_ok h)
theorem lin (z : List Int) (l : List Nat) (f : F) (h : none (flat z l).length (f.dnf z.length false) = true) : f.den z l :=
  Classical.byContradiction fun n => none_ok h ((f.dnf_ok z l).2 n)
theorem sub_or (a b : Nat) : (a ≤ b ∧ a - b = 0) ∨ b + (a - b) = a := (Nat.le_total a b).imp (fun h => ⟨h, Nat.sub_eq_zero_of_le h⟩) Nat.add_sub_cancel'
theorem min_or (a b : Nat) : (a ≤ b ∧ min a b = a) ∨ (b ≤ a ∧ min a b = b) := (Nat.le_total a b).imp (fun h => ⟨h, Nat.min_eq_left h⟩) fun h => ⟨h, Nat.min_eq_right h⟩
theorem max_or (a b : Nat) : (a ≤ b ∧ max a b = b) ∨ (b ≤ a ∧ max a b = a) := (Nat.le_total a b).imp (fun h => ⟨h, Nat.max_eq_right h⟩) fun h => ⟨h, Nat.max_eq_left h⟩
theorem toNat_or (a : Int) : (a ≤ 0 ∧ a.toNat = 0) ∨ (a.toNat : Int) = a := (Int.le_total a 0).imp (fun h => ⟨h, Int.toNat_of_nonpos h⟩) Int.toNat_of_nonneg
theorem abs_or (a : Int) : (a.natAbs : Int) = a ∨ a + (a.natAbs : Int) = 0 := (Int.le_total 0 a).imp Int.natAbs_of_nonneg fun h => by rw [Int.ofNat_natAbs_of_nonpos h, Int.add_right_neg]
theorem half (a : Nat) : 2 * (a / 2) ≤ a ∧ a ≤ 2 * (a / 2) + 1 := ⟨Nat.mul_div_le a 2, Nat.le_of_lt_succ (Nat.lt_mul_div_succ a (Nat.zero_lt_succ 1))⟩
end Ln
end Mine
end

set_option Elab.async false
set_option linter.all false
namespace Mine
theorem o1 {x0 : Nat} {x1 : Nat} {x2 : Nat} : ((max x2 (x1 + 1)) ≤ x0) → (x0 ≠ x1) := Ln.lin [] [x0, x1, x2, (max x2 (x1 + 1))] (.imp (.or (.and (.le (.v 2) (.add (.v 1) (.c 1))) (.eq (.v 3) (.add (.v 1) (.c 1)))) (.and (.le (.add (.v 1) (.c 1)) (.v 2)) (.eq (.v 3) (.v 2)))) (.imp (.le (.v 3) (.v 0)) (.no (.eq (.v 0) (.v 1))))) (by kernel_rfl) (Ln.max_or x2 (x1 + 1))
theorem o2 {x0 : Nat} {x1 : Nat} {x2 : Nat} : ((max x0 (x2 + 1)) ≤ x1) → (x0 ≤ x1) := Ln.lin [] [x0, x1, x2, (max x0 (x2 + 1))] (.imp (.or (.and (.le (.v 0) (.add (.v 2) (.c 1))) (.eq (.v 3) (.add (.v 2) (.c 1)))) (.and (.le (.add (.v 2) (.c 1)) (.v 0)) (.eq (.v 3) (.v 0)))) (.imp (.le (.v 3) (.v 1)) (.le (.v 0) (.v 1)))) (by kernel_rfl) (Ln.max_or x0 (x2 + 1))
theorem o3 {x0 : Nat} : (x0 ≤ 1000) → (x0 ≤ 16777216) := Ln.lin [] [x0] (.imp (.le (.v 0) (.c 1000)) (.le (.v 0) (.c 16777216))) (by kernel_rfl)
theorem o4 {x0 : Int} {x1 : Nat} : (x0 < ((x1 : Nat) : Int)) → (x1 ≤ 1000) → (x0 < (2 ^ 63 : Int)) := Ln.lin [x0] [x1] (.imp (.ile (.add (.v 0) (.c 1)) (.n (.v 0))) (.imp (.le (.v 0) (.c 1000)) (.ile (.add (.v 0) (.c 1)) (.c (2 ^ 63 : Int))))) (by kernel_rfl)
theorem o5 {x0 : Nat} {x1 : Nat} {x2 : Nat} : (x2 = x1) → (((x0 : Nat) : Int) < ((x2 : Nat) : Int)) → (x0 < x1) := Ln.lin [] [x0, x1, x2] (.imp (.eq (.v 2) (.v 1)) (.imp (.ile (.add (.n (.v 0)) (.c 1)) (.n (.v 2))) (.le (.add (.v 0) (.c 1)) (.v 1)))) (by kernel_rfl)
theorem o6 {x0 : Nat} {x1 : Nat} : (x1 ≤ 1000) → (x1 = x0) → (((x0 : Nat) : Int) < (2 ^ 63 : Int)) := Ln.lin [] [x0, x1] (.imp (.le (.v 1) (.c 1000)) (.imp (.eq (.v 1) (.v 0)) (.ile (.add (.n (.v 0)) (.c 1)) (.c (2 ^ 63 : Int))))) (by kernel_rfl)
theorem o7 {x0 : Nat} {x1 : Nat} : (x1 ≤ 1000) → (x0 = x1) → (x0 ≤ 1000) := Ln.lin [] [x0, x1] (.imp (.le (.v 1) (.c 1000)) (.imp (.eq (.v 0) (.v 1)) (.le (.v 0) (.c 1000)))) (by kernel_rfl)
theorem o8 {x0 : Nat} {x1 : Nat} : (x0 ≤ (x1 + 1)) → (x1 ≤ 1000) → (x0 ≤ (16777216 + 1)) := Ln.lin [] [x0, x1] (.imp (.le (.v 0) (.add (.v 1) (.c 1))) (.imp (.le (.v 1) (.c 1000)) (.le (.v 0) (.add (.c 16777216) (.c 1))))) (by kernel_rfl)
theorem o9 {x0 : Nat} {x1 : Nat} {x2 : Nat} : (((x0 + (6 * x2)) + 6) < x1) → ((x0 + 5) < x1) := Ln.lin [] [x0, x1, x2] (.imp (.le (.add (.add (.add (.v 0) (.mul 6 (.v 2))) (.c 6)) (.c 1)) (.v 1)) (.le (.add (.add (.v 0) (.c 5)) (.c 1)) (.v 1))) (by kernel_rfl)
theorem o10 {x0 : Nat} {x1 : Nat} {x2 : Nat} : ((x0 + (x1 + 1)) < x2) → (((x0 + 1) + x1) < x2) := Ln.lin [] [x0, x1, x2] (.imp (.le (.add (.add (.v 0) (.add (.v 1) (.c 1))) (.c 1)) (.v 2)) (.le (.add (.add (.add (.v 0) (.c 1)) (.v 1)) (.c 1)) (.v 2))) (by kernel_rfl)
theorem o11 {x0 : Nat} {x1 : Nat} {x2 : Nat} : (((x0 + (6 * (x1 + 1))) + 6) < x2) → ((((x0 + 3) + (6 * x1)) + 6) < x2) := Ln.lin [] [x0, x1, x2] (.imp (.le (.add (.add (.add (.v 0) (.mul 6 (.add (.v 1) (.c 1)))) (.c 6)) (.c 1)) (.v 2)) (.le (.add (.add (.add (.add (.v 0) (.c 3)) (.mul 6 (.v 1))) (.c 6)) (.c 1)) (.v 2))) (by kernel_rfl)
theorem o12 {x0 : Nat} {x1 : Nat} {x2 : Nat} {x3 : Nat} : (x1 ≤ x3) → ((x0 + x3) < x2) → ((x0 + x1) < x2) := Ln.lin [] [x0, x1, x2, x3] (.imp (.le (.v 1) (.v 3)) (.imp (.le (.add (.add (.v 0) (.v 3)) (.c 1)) (.v 2)) (.le (.add (.add (.v 0) (.v 1)) (.c 1)) (.v 2)))) (by kernel_rfl)
theorem o13 {x0 : Nat} {x1 : Nat} {x2 : Nat} {x3 : Nat} : (x1 ≤ x3) → (((x0 + (6 * x3)) + 6) < x2) → (((x0 + (6 * x1)) + 6) < x2) := Ln.lin [] [x0, x1, x2, x3] (.imp (.le (.v 1) (.v 3)) (.imp (.le (.add (.add (.add (.v 0) (.mul 6 (.v 3))) (.c 6)) (.c 1)) (.v 2)) (.le (.add (.add (.add (.v 0) (.mul 6 (.v 1))) (.c 6)) (.c 1)) (.v 2)))) (by kernel_rfl)
theorem o14 {x0 : Nat} {x1 : Nat} {x2 : Nat} : (((x0 + (6 * (x1 + 1))) + 6) < x2) → ((((x0 + 1) + (6 * x1)) + 6) < x2) := Ln.lin [] [x0, x1, x2] (.imp (.le (.add (.add (.add (.v 0) (.mul 6 (.add (.v 1) (.c 1)))) (.c 6)) (.c 1)) (.v 2)) (.le (.add (.add (.add (.add (.v 0) (.c 1)) (.mul 6 (.v 1))) (.c 6)) (.c 1)) (.v 2))) (by kernel_rfl)
theorem o15 {x0 : Int} {x1 : Nat} : (x1 ≤ 1000) → ((Int.toNat x0) < x1) → (x0 < (2 ^ 63 : Int)) := Ln.lin [x0] [x1, (Int.toNat x0)] (.imp (.or (.and (.ile (.v 0) (.c 0)) (.eq (.v 1) (.c 0))) (.ieq (.n (.v 1)) (.v 0))) (.imp (.le (.v 0) (.c 1000)) (.imp (.le (.add (.v 1) (.c 1)) (.v 0)) (.ile (.add (.v 0) (.c 1)) (.c (2 ^ 63 : Int)))))) (by kernel_rfl) (Ln.toNat_or x0)
theorem o16 {x0 : Nat} : ((-9223372036854775808 : Int) ≤ ((x0 : Nat) : Int)) := Ln.lin [] [x0] (.ile (.c (-9223372036854775808 : Int)) (.n (.v 0))) (by kernel_rfl)
theorem o17 {x0 : Nat} {x1 : Nat} : (x0 < x1) → (x1 ≤ 1000) → (((x0 : Nat) : Int) < (2 ^ 63 : Int)) := Ln.lin [] [x0, x1] (.imp (.le (.add (.v 0) (.c 1)) (.v 1)) (.imp (.le (.v 1) (.c 1000)) (.ile (.add (.n (.v 0)) (.c 1)) (.c (2 ^ 63 : Int))))) (by kernel_rfl)
theorem o18 {x0 : Nat} : (¬ (((x0 : Nat) : Int) < (0 : Int))) := Ln.lin [] [x0] (.no (.ile (.add (.n (.v 0)) (.c 1)) (.c 0))) (by kernel_rfl)
theorem o19 {x0 : Nat} {x1 : Nat} : (x0 < x1) → (((x0 : Nat) : Int) < ((x1 : Nat) : Int)) := Ln.lin [] [x0, x1] (.imp (.le (.add (.v 0) (.c 1)) (.v 1)) (.ile (.add (.n (.v 0)) (.c 1)) (.n (.v 1)))) (by kernel_rfl)
theorem o20 {x0 : Nat} {x1 : Nat} : (x1 ≤ 1000) → (x1 = x0) → (x0 ≤ 16777216) := Ln.lin [] [x0, x1] (.imp (.le (.v 1) (.c 1000)) (.imp (.eq (.v 1) (.v 0)) (.le (.v 0) (.c 16777216)))) (by kernel_rfl)
theorem o21 {x0 : Nat} {x1 : Nat} {x2 : Nat} {x3 : Nat} : (x2 ≤ 1000) → (x3 ≤ 1000) → (x2 = x0) → (x3 = x1) → ((x0 + x1) ≤ 16777216) := Ln.lin [] [x0, x1, x2, x3] (.imp (.le (.v 2) (.c 1000)) (.imp (.le (.v 3) (.c 1000)) (.imp (.eq (.v 2) (.v 0)) (.imp (.eq (.v 3) (.v 1)) (.le (.add (.v 0) (.v 1)) (.c 16777216)))))) (by kernel_rfl)
theorem o22 {x0 : Nat} {x1 : Nat} {x2 : Nat} {x3 : Nat} : (x2 ≤ 1000) → (x3 ≤ 1000) → (x2 = x0) → (x3 = x1) → ((x0 + x1) ≤ (16777216 + 1)) := Ln.lin [] [x0, x1, x2, x3] (.imp (.le (.v 2) (.c 1000)) (.imp (.le (.v 3) (.c 1000)) (.imp (.eq (.v 2) (.v 0)) (.imp (.eq (.v 3) (.v 1)) (.le (.add (.v 0) (.v 1)) (.add (.c 16777216) (.c 1))))))) (by kernel_rfl)
theorem o23 {x0 : Nat} {x1 : Nat} : ((x1 + (0 + 1)) = x0) → ((x0 - 1) = x1) := Ln.lin [] [x0, x1, (x0 - 1)] (.imp (.or (.and (.le (.v 0) (.c 1)) (.eq (.v 2) (.c 0))) (.eq (.add (.c 1) (.v 2)) (.v 0))) (.imp (.eq (.add (.v 1) (.add (.c 0) (.c 1))) (.v 0)) (.eq (.v 2) (.v 1)))) (by kernel_rfl) (Ln.sub_or x0 1)
theorem o24 {x0 : Nat} {x1 : Nat} : (x1 ≤ 1000) → ((x1 + (0 + 1)) = x0) → (x0 ≤ 16777216) := Ln.lin [] [x0, x1] (.imp (.le (.v 1) (.c 1000)) (.imp (.eq (.add (.v 1) (.add (.c 0) (.c 1))) (.v 0)) (.le (.v 0) (.c 16777216)))) (by kernel_rfl)
theorem o25 {x0 : Nat} {x1 : Nat} : ((x1 + (0 + 1)) = x0) → (x0 ≤ (x1 + 1)) := Ln.lin [] [x0, x1] (.imp (.eq (.add (.v 1) (.add (.c 0) (.c 1))) (.v 0)) (.le (.v 0) (.add (.v 1) (.c 1)))) (by kernel_rfl)
theorem o26 {x0 : Nat} : (x0 ≤ 1000) → (x0 ≤ 16777215) := Ln.lin [] [x0] (.imp (.le (.v 0) (.c 1000)) (.le (.v 0) (.c 16777215))) (by kernel_rfl)
theorem o27 {x0 : Int} (h0 : ((0 : Int) ≤ x0)) (h1 : (x0 ≤ (1000000 : Int))) : (((((-(9223372036854775808 : Int)) ≤ x0) ∧ (x0 < (9223372036854775808 : Int))) ∧ (((-(9223372036854775808 : Int)) ≤ (max x0 (0 : Int))) ∧ ((max x0 (0 : Int)) < (9223372036854775808 : Int)))) ∧ (((max x0 (0 : Int)) = (0 : Int)) ∨ (((-(9223372036854775808 : Int)) ≤ x0) ∧ (x0 < (9223372036854775808 : Int))))) := by omega
theorem o28 {x0 : Int} {x1 : Nat} : (x1 < (Int.toNat x0)) → ((0 : Int) < ((((Int.toNat x0) : Nat) : Int) - ((x1 : Nat) : Int))) := Ln.lin [x0] [x1, (Int.toNat x0)] (.imp (.or (.and (.ile (.v 0) (.c 0)) (.eq (.v 1) (.c 0))) (.ieq (.n (.v 1)) (.v 0))) (.imp (.le (.add (.v 0) (.c 1)) (.v 1)) (.ile (.add (.c 0) (.c 1)) (.sub (.n (.v 1)) (.n (.v 0)))))) (by kernel_rfl) (Ln.toNat_or x0)
theorem o29 {x0 : Nat} : ((((x0 + 1) : Nat) : Int) = (((x0 : Nat) : Int) + (1 : Int))) := Ln.lin [] [x0] (.ieq (.n (.add (.v 0) (.c 1))) (.add (.n (.v 0)) (.c 1))) (by kernel_rfl)
theorem o30 {x0 : Int} {x1 : Nat} : (((((Int.toNat x0) : Nat) : Int) - (((x1 : Nat) : Int) + (1 : Int))) = (((((Int.toNat x0) : Nat) : Int) - ((x1 : Nat) : Int)) - (1 : Int))) := Ln.lin [x0] [x1, (Int.toNat x0)] (.imp (.or (.and (.ile (.v 0) (.c 0)) (.eq (.v 1) (.c 0))) (.ieq (.n (.v 1)) (.v 0))) (.ieq (.sub (.n (.v 1)) (.add (.n (.v 0)) (.c 1))) (.sub (.sub (.n (.v 1)) (.n (.v 0))) (.c 1)))) (by kernel_rfl) (Ln.toNat_or x0)
theorem o31 {x0 : Nat} {x1 : Nat} : (x1 = x0) → (x0 ≤ x1) := Ln.lin [] [x0, x1] (.imp (.eq (.v 1) (.v 0)) (.le (.v 0) (.v 1))) (by kernel_rfl)
theorem o32 {x0 : Nat} {x1 : Nat} {x2 : Nat} : ((x0 + x1) = x2) → (x1 < x2) → ((x0 - 1) < x0) := Ln.lin [] [x0, x1, x2, (x0 - 1)] (.imp (.or (.and (.le (.v 0) (.c 1)) (.eq (.v 3) (.c 0))) (.eq (.add (.c 1) (.v 3)) (.v 0))) (.imp (.eq (.add (.v 0) (.v 1)) (.v 2)) (.imp (.le (.add (.v 1) (.c 1)) (.v 2)) (.le (.add (.v 3) (.c 1)) (.v 0))))) (by kernel_rfl) (Ln.sub_or x0 1)
theorem o33 {x0 : Nat} {x1 : Nat} {x2 : Nat} : ((x0 + x1) = x2) → (x1 < x2) → (((x0 - 1) + (x1 + 1)) = x2) := Ln.lin [] [x0, x1, x2, (x0 - 1)] (.imp (.or (.and (.le (.v 0) (.c 1)) (.eq (.v 3) (.c 0))) (.eq (.add (.c 1) (.v 3)) (.v 0))) (.imp (.eq (.add (.v 0) (.v 1)) (.v 2)) (.imp (.le (.add (.v 1) (.c 1)) (.v 2)) (.eq (.add (.v 3) (.add (.v 1) (.c 1))) (.v 2))))) (by kernel_rfl) (Ln.sub_or x0 1)
theorem o34 {x0 : Nat} {x1 : Nat} {x2 : Nat} : ((x2 + x0) = x1) → (x1 ≤ x0) → (x0 = x1) := Ln.lin [] [x0, x1, x2] (.imp (.eq (.add (.v 2) (.v 0)) (.v 1)) (.imp (.le (.v 1) (.v 0)) (.eq (.v 0) (.v 1)))) (by kernel_rfl)
theorem o35 {x0 : Nat} {x1 : Nat} {x2 : Nat} : (x1 ≤ 1000) → (x0 = x2) → (x2 < x1) → (x0 ≤ 1000) := Ln.lin [] [x0, x1, x2] (.imp (.le (.v 1) (.c 1000)) (.imp (.eq (.v 0) (.v 2)) (.imp (.le (.add (.v 2) (.c 1)) (.v 1)) (.le (.v 0) (.c 1000))))) (by kernel_rfl)
theorem o36 {x0 : Nat} {x1 : Nat} {x2 : Nat} : (x1 ≤ 1000) → (x0 ≤ x2) → (x2 < x1) → (x0 ≤ 1000) := Ln.lin [] [x0, x1, x2] (.imp (.le (.v 1) (.c 1000)) (.imp (.le (.v 0) (.v 2)) (.imp (.le (.add (.v 2) (.c 1)) (.v 1)) (.le (.v 0) (.c 1000))))) (by kernel_rfl)
theorem o37 {x0 : Nat} {x1 : Nat} : ((0 + x0) = x1) → (x0 = x1) := Ln.lin [] [x0, x1] (.imp (.eq (.add (.c 0) (.v 0)) (.v 1)) (.eq (.v 0) (.v 1))) (by kernel_rfl)
theorem o38 {x0 : Nat} {x1 : Nat} {x2 : Nat} : (((x2 + 1) + x0) = x1) → (x0 < x1) := Ln.lin [] [x0, x1, x2] (.imp (.eq (.add (.add (.v 2) (.c 1)) (.v 0)) (.v 1)) (.le (.add (.v 0) (.c 1)) (.v 1))) (by kernel_rfl)
theorem o39 {x0 : Nat} {x1 : Nat} {x2 : Nat} : (((x0 + 1) + x1) = x2) → ((x0 + (x1 + 1)) = x2) := Ln.lin [] [x0, x1, x2] (.imp (.eq (.add (.add (.v 0) (.c 1)) (.v 1)) (.v 2)) (.eq (.add (.v 0) (.add (.v 1) (.c 1))) (.v 2))) (by kernel_rfl)
theorem o40 {x0 : Nat} {x1 : Nat} {x2 : Nat} : (x1 = x2) → (x2 = x0) → (¬ (x0 < x1)) := Ln.lin [] [x0, x1, x2] (.imp (.eq (.v 1) (.v 2)) (.imp (.eq (.v 2) (.v 0)) (.no (.le (.add (.v 0) (.c 1)) (.v 1))))) (by kernel_rfl)
theorem o41 {x0 : Int} : ((0 : Int) ≤ x0) → (x0 < (1000 : Int)) → (((-9223372036854775808 : Int) ≤ x0) ∧ (x0 < (9223372036854775808 : Int))) := Ln.lin [x0] [] (.imp (.ile (.c 0) (.v 0)) (.imp (.ile (.add (.v 0) (.c 1)) (.c 1000)) (.and (.ile (.c (-9223372036854775808 : Int)) (.v 0)) (.ile (.add (.v 0) (.c 1)) (.c 9223372036854775808))))) (by kernel_rfl)
theorem o42 {x0 : Int} : ((0 : Int) ≤ x0) → (¬ (x0 < (0 : Int))) := Ln.lin [x0] [] (.imp (.ile (.c 0) (.v 0)) (.no (.ile (.add (.v 0) (.c 1)) (.c 0)))) (by kernel_rfl)
theorem o43 {x0 : Int} {x1 : Nat} {x2 : Nat} : ((Int.toNat x0) < x2) → (x1 = x2) → (x0 < ((x1 : Nat) : Int)) := Ln.lin [x0] [x1, x2, (Int.toNat x0)] (.imp (.or (.and (.ile (.v 0) (.c 0)) (.eq (.v 2) (.c 0))) (.ieq (.n (.v 2)) (.v 0))) (.imp (.le (.add (.v 2) (.c 1)) (.v 1)) (.imp (.eq (.v 0) (.v 1)) (.ile (.add (.v 0) (.c 1)) (.n (.v 0)))))) (by kernel_rfl) (Ln.toNat_or x0)
theorem o44 {x0 : Nat} {x1 : Nat} : ((x0 + 1) ≤ x1) → (x0 ≤ x1) := Ln.lin [] [x0, x1] (.imp (.le (.add (.v 0) (.c 1)) (.v 1)) (.le (.v 0) (.v 1))) (by kernel_rfl)
theorem o45 {x0 : Nat} {x1 : Nat} : ((x0 + 1) ≤ x1) → (x0 < x1) := Ln.lin [] [x0, x1] (.imp (.le (.add (.v 0) (.c 1)) (.v 1)) (.le (.add (.v 0) (.c 1)) (.v 1))) (by kernel_rfl)
theorem o46 {x0 : Int} {x1 : Int} {x2 : Nat} : (((0 : Int) ≤ x0) ∧ (x0 ≤ ((1000000 : Int) * ((x2 : Nat) : Int)))) → (((0 : Int) ≤ x1) ∧ (x1 ≤ (1000000 : Int))) → (((0 : Int) ≤ (x0 + x1)) ∧ ((x0 + x1) ≤ ((1000000 : Int) * (((x2 + 1) : Nat) : Int)))) := Ln.lin [x0, x1] [x2] (.imp (.and (.ile (.c 0) (.v 0)) (.ile (.v 0) (.mul 1000000 (.n (.v 0))))) (.imp (.and (.ile (.c 0) (.v 1)) (.ile (.v 1) (.c 1000000))) (.and (.ile (.c 0) (.add (.v 0) (.v 1))) (.ile (.add (.v 0) (.v 1)) (.mul 1000000 (.n (.add (.v 0) (.c 1)))))))) (by kernel_rfl)
theorem o47 {x0 : Nat} {x1 : Nat} : (x0 < x1) → (x0 ≤ x1) := Ln.lin [] [x0, x1] (.imp (.le (.add (.v 0) (.c 1)) (.v 1)) (.le (.v 0) (.v 1))) (by kernel_rfl)
theorem o48 {x0 : Nat} {x1 : Nat} : (x0 < x1) → ((x0 + 1) ≤ x1) := Ln.lin [] [x0, x1] (.imp (.le (.add (.v 0) (.c 1)) (.v 1)) (.le (.add (.v 0) (.c 1)) (.v 1))) (by kernel_rfl)
theorem o49 {x0 : Int} : (((0 : Int) ≤ x0) ∧ (x0 ≤ (1000000 : Int))) → ((-9223372036854775808 : Int) ≤ x0) := Ln.lin [x0] [] (.imp (.and (.ile (.c 0) (.v 0)) (.ile (.v 0) (.c 1000000))) (.ile (.c (-9223372036854775808 : Int)) (.v 0))) (by kernel_rfl)
theorem o50 {x0 : Int} : (((0 : Int) ≤ x0) ∧ (x0 ≤ (1000000 : Int))) → (x0 < (2 ^ 63 : Int)) := Ln.lin [x0] [] (.imp (.and (.ile (.c 0) (.v 0)) (.ile (.v 0) (.c 1000000))) (.ile (.add (.v 0) (.c 1)) (.c (2 ^ 63 : Int)))) (by kernel_rfl)
theorem o51 {x0 : Int} {x1 : Nat} : (((0 : Int) ≤ x0) ∧ (x0 ≤ ((1000000 : Int) * (((x1 + 1) : Nat) : Int)))) → ((-9223372036854775808 : Int) ≤ x0) := Ln.lin [x0] [x1] (.imp (.and (.ile (.c 0) (.v 0)) (.ile (.v 0) (.mul 1000000 (.n (.add (.v 0) (.c 1)))))) (.ile (.c (-9223372036854775808 : Int)) (.v 0))) (by kernel_rfl)
theorem o52 {x0 : Int} {x1 : Nat} {x2 : Nat} : (x1 ≤ 1000) → (x2 < x1) → (((0 : Int) ≤ x0) ∧ (x0 ≤ ((1000000 : Int) * (((x2 + 1) : Nat) : Int)))) → (x0 < (2 ^ 63 : Int)) := Ln.lin [x0] [x1, x2] (.imp (.le (.v 0) (.c 1000)) (.imp (.le (.add (.v 1) (.c 1)) (.v 0)) (.imp (.and (.ile (.c 0) (.v 0)) (.ile (.v 0) (.mul 1000000 (.n (.add (.v 1) (.c 1)))))) (.ile (.add (.v 0) (.c 1)) (.c (2 ^ 63 : Int)))))) (by kernel_rfl)
theorem o53 {x0 : Nat} {x1 : Nat} : (0 < x1) → (x0 ≤ (x1 - 1)) → (x0 < x1) := Ln.lin [] [x0, x1, (x1 - 1)] (.imp (.or (.and (.le (.v 1) (.c 1)) (.eq (.v 2) (.c 0))) (.eq (.add (.c 1) (.v 2)) (.v 1))) (.imp (.le (.add (.c 0) (.c 1)) (.v 1)) (.imp (.le (.v 0) (.v 2)) (.le (.add (.v 0) (.c 1)) (.v 1))))) (by kernel_rfl) (Ln.sub_or x1 1)
theorem o54 {x0 : Nat} {x1 : Nat} {x2 : Nat} : (x2 = x0) → (x2 = x1) → (x0 = x1) := Ln.lin [] [x0, x1, x2] (.imp (.eq (.v 2) (.v 0)) (.imp (.eq (.v 2) (.v 1)) (.eq (.v 0) (.v 1)))) (by kernel_rfl)
theorem o55 {x0 : Nat} {x1 : Nat} {x2 : Nat} : (x1 ≤ 1000) → (x1 = x2) → (x0 = x2) → (x0 ≤ 16777216) := Ln.lin [] [x0, x1, x2] (.imp (.le (.v 1) (.c 1000)) (.imp (.eq (.v 1) (.v 2)) (.imp (.eq (.v 0) (.v 2)) (.le (.v 0) (.c 16777216))))) (by kernel_rfl)
theorem o56 {x0 : Nat} {x1 : Nat} : (x1 < 64) → (x1 = x0) → (x0 < 64) := Ln.lin [] [x0, x1] (.imp (.le (.add (.v 1) (.c 1)) (.c 64)) (.imp (.eq (.v 1) (.v 0)) (.le (.add (.v 0) (.c 1)) (.c 64)))) (by kernel_rfl)
theorem o57 {x0 : Nat} {x1 : Nat} {x2 : Nat} : (x1 ≤ x2) → ((x0 + x1) ≤ (x0 + x2)) := Ln.lin [] [x0, x1, x2] (.imp (.le (.v 1) (.v 2)) (.le (.add (.v 0) (.v 1)) (.add (.v 0) (.v 2)))) (by kernel_rfl)
theorem o58 {x0 : Nat} {x1 : Nat} {x2 : Nat} : (x0 ≤ x2) → (x0 ≤ (x1 + x2)) := Ln.lin [] [x0, x1, x2] (.imp (.le (.v 0) (.v 2)) (.le (.v 0) (.add (.v 1) (.v 2)))) (by kernel_rfl)
theorem o59 {x0 : Nat} {x1 : Nat} {x2 : Nat} : (x0 ≤ x2) → ((x0 + x1) ≤ (x1 + x2)) := Ln.lin [] [x0, x1, x2] (.imp (.le (.v 0) (.v 2)) (.le (.add (.v 0) (.v 1)) (.add (.v 1) (.v 2)))) (by kernel_rfl)
theorem o60 {x0 : Nat} {x1 : Nat} {x2 : Nat} {x3 : Nat} : ((x1 + x2) ≤ x3) → (((x0 + x1) + x2) ≤ (x0 + x3)) := Ln.lin [] [x0, x1, x2, x3] (.imp (.le (.add (.v 1) (.v 2)) (.v 3)) (.le (.add (.add (.v 0) (.v 1)) (.v 2)) (.add (.v 0) (.v 3)))) (by kernel_rfl)
theorem o61 {x0 : Nat} {x1 : Nat} : ((x0 + 1) < x1) → (x0 < x1) := Ln.lin [] [x0, x1] (.imp (.le (.add (.add (.v 0) (.c 1)) (.c 1)) (.v 1)) (.le (.add (.v 0) (.c 1)) (.v 1))) (by kernel_rfl)
theorem o62 {x0 : Nat} {x1 : Nat} {x2 : Nat} : (x2 ≤ 500) → (x0 ≤ 500) → ((x0 + (min x1 x2)) ≤ 1000) := Ln.lin [] [x0, x1, x2, (min x1 x2)] (.imp (.or (.and (.le (.v 1) (.v 2)) (.eq (.v 3) (.v 1))) (.and (.le (.v 2) (.v 1)) (.eq (.v 3) (.v 2)))) (.imp (.le (.v 2) (.c 500)) (.imp (.le (.v 0) (.c 500)) (.le (.add (.v 0) (.v 3)) (.c 1000))))) (by kernel_rfl) (Ln.min_or x1 x2)
theorem o63 {x0 : Nat} : (1000 ≤ x0) → (x0 < 1000) → False := Ln.lin [] [x0] (.imp (.le (.c 1000) (.v 0)) (.imp (.le (.add (.v 0) (.c 1)) (.c 1000)) .ff)) (by kernel_rfl)
theorem o64 {x0 : Nat} : (1000 ≤ (max x0 1000)) := Ln.lin [] [x0, (max x0 1000)] (.imp (.or (.and (.le (.v 0) (.c 1000)) (.eq (.v 1) (.c 1000))) (.and (.le (.c 1000) (.v 0)) (.eq (.v 1) (.v 0)))) (.le (.c 1000) (.v 1))) (by kernel_rfl) (Ln.max_or x0 1000)
theorem o65 {x0 : Nat} {x1 : Nat} : ((max x0 1000) ≤ x1) → (x0 ≤ x1) := Ln.lin [] [x0, x1, (max x0 1000)] (.imp (.or (.and (.le (.v 0) (.c 1000)) (.eq (.v 2) (.c 1000))) (.and (.le (.c 1000) (.v 0)) (.eq (.v 2) (.v 0)))) (.imp (.le (.v 2) (.v 1)) (.le (.v 0) (.v 1)))) (by kernel_rfl) (Ln.max_or x0 1000)
theorem o66 {x0 : Nat} {x1 : Nat} : (x0 < x1) → (x0 < (x1 + 1)) := Ln.lin [] [x0, x1] (.imp (.le (.add (.v 0) (.c 1)) (.v 1)) (.le (.add (.v 0) (.c 1)) (.add (.v 1) (.c 1)))) (by kernel_rfl)
theorem o67 {x0 : Nat} : (x0 < (x0 + 1)) := Ln.lin [] [x0] (.le (.add (.v 0) (.c 1)) (.add (.v 0) (.c 1))) (by kernel_rfl)
theorem o68 {x0 : Nat} {x1 : Nat} {x2 : Nat} {x3 : Nat} {x4 : Nat} : (x4 < 0) → ((x0 + x1) = (x2 + x3)) := Ln.lin [] [x0, x1, x2, x3, x4] (.imp (.le (.add (.v 4) (.c 1)) (.c 0)) (.eq (.add (.v 0) (.v 1)) (.add (.v 2) (.v 3)))) (by kernel_rfl)
theorem o69 {x0 : Nat} {x1 : Nat} {x2 : Nat} : (((x0 + x1) + x2) = ((x0 + x2) + x1)) := Ln.lin [] [x0, x1, x2] (.eq (.add (.add (.v 0) (.v 1)) (.v 2)) (.add (.add (.v 0) (.v 2)) (.v 1))) (by kernel_rfl)
theorem o70 {x0 : Nat} {x1 : Nat} : (x0 < (x1 + 1)) → (¬ (x0 = x1)) → (x0 < x1) := Ln.lin [] [x0, x1] (.imp (.le (.add (.v 0) (.c 1)) (.add (.v 1) (.c 1))) (.imp (.no (.eq (.v 0) (.v 1))) (.le (.add (.v 0) (.c 1)) (.v 1)))) (by kernel_rfl)
theorem o71 {x0 : Nat} {x1 : Nat} {x2 : Nat} {x3 : Nat} {x4 : Nat} : ((x0 + x2) = (x3 + x4)) → (((x0 + x1) + x2) = ((x3 + x1) + x4)) := Ln.lin [] [x0, x1, x2, x3, x4] (.imp (.eq (.add (.v 0) (.v 2)) (.add (.v 3) (.v 4))) (.eq (.add (.add (.v 0) (.v 1)) (.v 2)) (.add (.add (.v 3) (.v 1)) (.v 4)))) (by kernel_rfl)
theorem o72 {x0 : Nat} {x1 : Nat} {x2 : Nat} : (x2 < 0) → (x0 ≤ x1) := Ln.lin [] [x0, x1, x2] (.imp (.le (.add (.v 2) (.c 1)) (.c 0)) (.le (.v 0) (.v 1))) (by kernel_rfl)
theorem o73 {x0 : Nat} {x1 : Nat} : (x0 ≤ (x1 + x0)) := Ln.lin [] [x0, x1] (.le (.v 0) (.add (.v 1) (.v 0))) (by kernel_rfl)
theorem o74 {x0 : Nat} {x1 : Nat} {x2 : Nat} : (x0 ≤ x1) → (x0 ≤ (x1 + x2)) := Ln.lin [] [x0, x1, x2] (.imp (.le (.v 0) (.v 1)) (.le (.v 0) (.add (.v 1) (.v 2)))) (by kernel_rfl)
theorem o75 {x0 : Int} {x1 : Nat} : ((Int.toNat x0) < x1) → (x0 < ((x1 : Nat) : Int)) := Ln.lin [x0] [x1, (Int.toNat x0)] (.imp (.or (.and (.ile (.v 0) (.c 0)) (.eq (.v 1) (.c 0))) (.ieq (.n (.v 1)) (.v 0))) (.imp (.le (.add (.v 1) (.c 1)) (.v 0)) (.ile (.add (.v 0) (.c 1)) (.n (.v 0))))) (by kernel_rfl) (Ln.toNat_or x0)
theorem o76 {x0 : Int} : (((0 : Int) ≤ x0) ∧ (x0 ≤ (0 : Int))) → (x0 = (0 : Int)) := Ln.lin [x0] [] (.imp (.and (.ile (.c 0) (.v 0)) (.ile (.v 0) (.c 0))) (.ieq (.v 0) (.c 0))) (by kernel_rfl)
theorem o77 {x0 : Nat} {x1 : Nat} {x2 : Nat} : ((x0 + x2) = x1) → (1 ≤ x2) → (x0 < x1) := Ln.lin [] [x0, x1, x2] (.imp (.eq (.add (.v 0) (.v 2)) (.v 1)) (.imp (.le (.c 1) (.v 2)) (.le (.add (.v 0) (.c 1)) (.v 1)))) (by kernel_rfl)
theorem o78 {x0 : Int} {x1 : Nat} : ((0 : Int) ≤ x0) → (x0 < ((x1 : Nat) : Int)) → ((Int.toNat x0) < x1) := Ln.lin [x0] [x1, (Int.toNat x0)] (.imp (.or (.and (.ile (.v 0) (.c 0)) (.eq (.v 1) (.c 0))) (.ieq (.n (.v 1)) (.v 0))) (.imp (.ile (.c 0) (.v 0)) (.imp (.ile (.add (.v 0) (.c 1)) (.n (.v 0))) (.le (.add (.v 1) (.c 1)) (.v 0))))) (by kernel_rfl) (Ln.toNat_or x0)
theorem o79 {x0 : Nat} : (x0 ≤ 8) → (x0 ≤ 1000) := Ln.lin [] [x0] (.imp (.le (.v 0) (.c 8)) (.le (.v 0) (.c 1000))) (by kernel_rfl)
theorem o80 {x0 : Int} {x1 : Nat} : (((0 : Int) ≤ x0) ∧ (x0 ≤ ((x1 : Nat) : Int))) → (¬ (x0 = ((x1 : Nat) : Int))) → ((Int.toNat x0) < x1) := Ln.lin [x0] [x1, (Int.toNat x0)] (.imp (.or (.and (.ile (.v 0) (.c 0)) (.eq (.v 1) (.c 0))) (.ieq (.n (.v 1)) (.v 0))) (.imp (.and (.ile (.c 0) (.v 0)) (.ile (.v 0) (.n (.v 0)))) (.imp (.no (.ieq (.v 0) (.n (.v 0)))) (.le (.add (.v 1) (.c 1)) (.v 0))))) (by kernel_rfl) (Ln.toNat_or x0)
theorem o81 {x0 : Int} {x1 : Nat} {x2 : Nat} : (x2 < x1) → (((0 : Int) ≤ x0) ∧ (x0 ≤ ((x2 : Nat) : Int))) → ((Int.toNat x0) < x1) := Ln.lin [x0] [x1, x2, (Int.toNat x0)] (.imp (.or (.and (.ile (.v 0) (.c 0)) (.eq (.v 2) (.c 0))) (.ieq (.n (.v 2)) (.v 0))) (.imp (.le (.add (.v 1) (.c 1)) (.v 0)) (.imp (.and (.ile (.c 0) (.v 0)) (.ile (.v 0) (.n (.v 1)))) (.le (.add (.v 2) (.c 1)) (.v 0))))) (by kernel_rfl) (Ln.toNat_or x0)
theorem o82 {x0 : Nat} : ((100 + x0) ≠ 15) := Ln.lin [] [x0] (.no (.eq (.add (.c 100) (.v 0)) (.c 15))) (by kernel_rfl)
theorem o83 {x0 : Nat} : ((100 + x0) ≠ 24) := Ln.lin [] [x0] (.no (.eq (.add (.c 100) (.v 0)) (.c 24))) (by kernel_rfl)
theorem o84 {x0 : Nat} : ((100 + x0) ≠ 25) := Ln.lin [] [x0] (.no (.eq (.add (.c 100) (.v 0)) (.c 25))) (by kernel_rfl)
theorem o85 {x0 : Nat} : ((100 + x0) ≠ 26) := Ln.lin [] [x0] (.no (.eq (.add (.c 100) (.v 0)) (.c 26))) (by kernel_rfl)
theorem o86 {x0 : Nat} {x1 : Nat} : (((x0 : Nat) : Int) < ((x1 : Nat) : Int)) → (x0 < x1) := Ln.lin [] [x0, x1] (.imp (.ile (.add (.n (.v 0)) (.c 1)) (.n (.v 1))) (.le (.add (.v 0) (.c 1)) (.v 1))) (by kernel_rfl)
theorem o87 {x0 : Nat} {x1 : Nat} {x2 : Int} : (((0 : Int) ≤ x2) ∧ (x2 ≤ ((x1 : Nat) : Int))) → (¬ (x2 = ((x1 : Nat) : Int))) → (x2 = ((x0 : Nat) : Int)) → (x0 < x1) := Ln.lin [x2] [x0, x1] (.imp (.and (.ile (.c 0) (.v 0)) (.ile (.v 0) (.n (.v 1)))) (.imp (.no (.ieq (.v 0) (.n (.v 1)))) (.imp (.ieq (.v 0) (.n (.v 0))) (.le (.add (.v 0) (.c 1)) (.v 1))))) (by kernel_rfl)
theorem o88 {x0 : Nat} {x1 : Nat} {x2 : Nat} {x3 : Int} : (x2 < x1) → (((0 : Int) ≤ x3) ∧ (x3 ≤ ((x2 : Nat) : Int))) → (x3 = ((x0 : Nat) : Int)) → (((x0 : Nat) : Int) < ((x1 : Nat) : Int)) := Ln.lin [x3] [x0, x1, x2] (.imp (.le (.add (.v 2) (.c 1)) (.v 1)) (.imp (.and (.ile (.c 0) (.v 0)) (.ile (.v 0) (.n (.v 2)))) (.imp (.ieq (.v 0) (.n (.v 0))) (.ile (.add (.n (.v 0)) (.c 1)) (.n (.v 1)))))) (by kernel_rfl)
theorem o89 {x0 : Nat} {x1 : Nat} {x2 : Int} : (¬ (x2 = ((x1 : Nat) : Int))) → (x2 = ((x0 : Nat) : Int)) → (((x0 : Nat) : Int) ≠ ((x1 : Nat) : Int)) := Ln.lin [x2] [x0, x1] (.imp (.no (.ieq (.v 0) (.n (.v 1)))) (.imp (.ieq (.v 0) (.n (.v 0))) (.no (.ieq (.n (.v 0)) (.n (.v 1)))))) (by kernel_rfl)
theorem o90 {x0 : Nat} {x1 : Nat} : (x1 < 8) → (x0 = (x1 + 1)) → (x0 ≤ 8) := Ln.lin [] [x0, x1] (.imp (.le (.add (.v 1) (.c 1)) (.c 8)) (.imp (.eq (.v 0) (.add (.v 1) (.c 1))) (.le (.v 0) (.c 8)))) (by kernel_rfl)
theorem o91 {x0 : Nat} : (((0 : Int) ≤ ((x0 : Nat) : Int)) ∧ (((x0 : Nat) : Int) ≤ ((x0 : Nat) : Int))) := Ln.lin [] [x0] (.and (.ile (.c 0) (.n (.v 0))) (.ile (.n (.v 0)) (.n (.v 0)))) (by kernel_rfl)
theorem o92 {x0 : Nat} {x1 : Nat} {x2 : Nat} : (x0 = (x2 + 1)) → (x2 < x1) → (x0 ≤ x1) := Ln.lin [] [x0, x1, x2] (.imp (.eq (.v 0) (.add (.v 2) (.c 1))) (.imp (.le (.add (.v 2) (.c 1)) (.v 1)) (.le (.v 0) (.v 1)))) (by kernel_rfl)
theorem o93 {x0 : Nat} {x1 : Nat} {x2 : Nat} : (x1 < 8) → (x2 = (x1 + 1)) → (x0 < x2) → (x0 < 50) := Ln.lin [] [x0, x1, x2] (.imp (.le (.add (.v 1) (.c 1)) (.c 8)) (.imp (.eq (.v 2) (.add (.v 1) (.c 1))) (.imp (.le (.add (.v 0) (.c 1)) (.v 2)) (.le (.add (.v 0) (.c 1)) (.c 50))))) (by kernel_rfl)
theorem o94 {x0 : Nat} {x1 : Nat} {x2 : Nat} : (x2 = (x1 + 1)) → (x0 < x2) → (¬ (x0 = x1)) → (x0 < x1) := Ln.lin [] [x0, x1, x2] (.imp (.eq (.v 2) (.add (.v 1) (.c 1))) (.imp (.le (.add (.v 0) (.c 1)) (.v 2)) (.imp (.no (.eq (.v 0) (.v 1))) (.le (.add (.v 0) (.c 1)) (.v 1))))) (by kernel_rfl)
theorem o95 {x0 : Nat} {x1 : Nat} : (x0 < x1) → (((0 : Int) ≤ ((x0 : Nat) : Int)) ∧ (((x0 : Nat) : Int) < ((x1 : Nat) : Int))) := Ln.lin [] [x0, x1] (.imp (.le (.add (.v 0) (.c 1)) (.v 1)) (.and (.ile (.c 0) (.n (.v 0))) (.ile (.add (.n (.v 0)) (.c 1)) (.n (.v 1))))) (by kernel_rfl)
theorem o96 {x0 : Int} {x1 : Nat} {x2 : Nat} : (x1 = (x2 + 1)) → (((0 : Int) ≤ x0) ∧ (x0 < ((x2 : Nat) : Int))) → (((0 : Int) ≤ x0) ∧ (x0 < ((x1 : Nat) : Int))) := Ln.lin [x0] [x1, x2] (.imp (.eq (.v 0) (.add (.v 1) (.c 1))) (.imp (.and (.ile (.c 0) (.v 0)) (.ile (.add (.v 0) (.c 1)) (.n (.v 1)))) (.and (.ile (.c 0) (.v 0)) (.ile (.add (.v 0) (.c 1)) (.n (.v 0)))))) (by kernel_rfl)
theorem o97 {x0 : Nat} {x1 : Nat} : (x0 = x1) → ((x0 + 1) = (x1 + 1)) := Ln.lin [] [x0, x1] (.imp (.eq (.v 0) (.v 1)) (.eq (.add (.v 0) (.c 1)) (.add (.v 1) (.c 1)))) (by kernel_rfl)
theorem o98 {x0 : Nat} {x1 : Nat} {x2 : Nat} : ((x0 + x1) = x2) → ((x0 + (x1 + 1)) = (x2 + 1)) := Ln.lin [] [x0, x1, x2] (.imp (.eq (.add (.v 0) (.v 1)) (.v 2)) (.eq (.add (.v 0) (.add (.v 1) (.c 1))) (.add (.v 2) (.c 1)))) (by kernel_rfl)
theorem o99 {x0 : Nat} {x1 : Nat} {x2 : Nat} : (x2 = (x1 + 1)) → (x2 ≤ x0) → (x0 ≠ x1) := Ln.lin [] [x0, x1, x2] (.imp (.eq (.v 2) (.add (.v 1) (.c 1))) (.imp (.le (.v 2) (.v 0)) (.no (.eq (.v 0) (.v 1))))) (by kernel_rfl)
theorem o100 {x0 : Nat} {x1 : Nat} {x2 : Nat} : (x2 = (x0 + 1)) → (x2 ≤ x1) → (x0 ≤ x1) := Ln.lin [] [x0, x1, x2] (.imp (.eq (.v 2) (.add (.v 0) (.c 1))) (.imp (.le (.v 2) (.v 1)) (.le (.v 0) (.v 1)))) (by kernel_rfl)
theorem o101 {x0 : Nat} : (x0 < 8) → (x0 < 50) := Ln.lin [] [x0] (.imp (.le (.add (.v 0) (.c 1)) (.c 8)) (.le (.add (.v 0) (.c 1)) (.c 50))) (by kernel_rfl)
theorem o102 {x0 : Nat} : (x0 < 8) → (x0 ≤ 1000) := Ln.lin [] [x0] (.imp (.le (.add (.v 0) (.c 1)) (.c 8)) (.le (.v 0) (.c 1000))) (by kernel_rfl)
theorem o103 {x0 : Nat} : (24 ≠ (100 + x0)) := Ln.lin [] [x0] (.no (.eq (.c 24) (.add (.c 100) (.v 0)))) (by kernel_rfl)
theorem o104 {x0 : Nat} : (14 ≠ (100 + x0)) := Ln.lin [] [x0] (.no (.eq (.c 14) (.add (.c 100) (.v 0)))) (by kernel_rfl)
theorem o105 {x0 : Nat} : (15 ≠ (100 + x0)) := Ln.lin [] [x0] (.no (.eq (.c 15) (.add (.c 100) (.v 0)))) (by kernel_rfl)
theorem o106 {x0 : Nat} : (x0 < 8) → (x0 ≤ 999) := Ln.lin [] [x0] (.imp (.le (.add (.v 0) (.c 1)) (.c 8)) (.le (.v 0) (.c 999))) (by kernel_rfl)
theorem o107 {x0 : Nat} : (26 ≠ (100 + x0)) := Ln.lin [] [x0] (.no (.eq (.c 26) (.add (.c 100) (.v 0)))) (by kernel_rfl)
theorem o108 {x0 : Nat} {x1 : Nat} : (x0 ≠ x1) → ((100 + x0) ≠ (100 + x1)) := Ln.lin [] [x0, x1] (.imp (.no (.eq (.v 0) (.v 1))) (.no (.eq (.add (.c 100) (.v 0)) (.add (.c 100) (.v 1))))) (by kernel_rfl)
theorem o109 {x0 : Nat} : (¬ (((24 ≤ x0) ∧ (x0 ≤ 26)) ∨ ((100 ≤ x0) ∧ (x0 < 150)))) → (x0 ≠ 24) := Ln.lin [] [x0] (.imp (.no (.or (.and (.le (.c 24) (.v 0)) (.le (.v 0) (.c 26))) (.and (.le (.c 100) (.v 0)) (.le (.add (.v 0) (.c 1)) (.c 150))))) (.no (.eq (.v 0) (.c 24)))) (by kernel_rfl)
theorem o110 {x0 : Nat} : (¬ (((24 ≤ x0) ∧ (x0 ≤ 26)) ∨ ((100 ≤ x0) ∧ (x0 < 150)))) → (x0 ≠ 25) := Ln.lin [] [x0] (.imp (.no (.or (.and (.le (.c 24) (.v 0)) (.le (.v 0) (.c 26))) (.and (.le (.c 100) (.v 0)) (.le (.add (.v 0) (.c 1)) (.c 150))))) (.no (.eq (.v 0) (.c 25)))) (by kernel_rfl)
theorem o111 {x0 : Nat} {x1 : Nat} : (x1 < 8) → (¬ (((24 ≤ x0) ∧ (x0 ≤ 26)) ∨ ((100 ≤ x0) ∧ (x0 < 150)))) → (x0 ≠ (100 + x1)) := Ln.lin [] [x0, x1] (.imp (.le (.add (.v 1) (.c 1)) (.c 8)) (.imp (.no (.or (.and (.le (.c 24) (.v 0)) (.le (.v 0) (.c 26))) (.and (.le (.c 100) (.v 0)) (.le (.add (.v 0) (.c 1)) (.c 150))))) (.no (.eq (.v 0) (.add (.c 100) (.v 1)))))) (by kernel_rfl)
theorem o112 {x0 : Int} {x1 : Nat} : (x0 < ((x1 : Nat) : Int)) → ((0 : Int) ≤ x0) → ((Int.toNat x0) < x1) := Ln.lin [x0] [x1, (Int.toNat x0)] (.imp (.or (.and (.ile (.v 0) (.c 0)) (.eq (.v 1) (.c 0))) (.ieq (.n (.v 1)) (.v 0))) (.imp (.ile (.add (.v 0) (.c 1)) (.n (.v 0))) (.imp (.ile (.c 0) (.v 0)) (.le (.add (.v 1) (.c 1)) (.v 0))))) (by kernel_rfl) (Ln.toNat_or x0)
theorem o113 {x0 : Nat} {x1 : Nat} : (x1 ≤ 8) → (x0 ≤ x1) → (x0 < 64) := Ln.lin [] [x0, x1] (.imp (.le (.v 1) (.c 8)) (.imp (.le (.v 0) (.v 1)) (.le (.add (.v 0) (.c 1)) (.c 64)))) (by kernel_rfl)
theorem o114 {x0 : Nat} {x1 : Nat} {x2 : Nat} : (x0 < x2) → (x1 = x2) → (((0 : Int) ≤ ((x0 : Nat) : Int)) ∧ (((x0 : Nat) : Int) ≤ ((x1 : Nat) : Int))) := Ln.lin [] [x0, x1, x2] (.imp (.le (.add (.v 0) (.c 1)) (.v 2)) (.imp (.eq (.v 1) (.v 2)) (.and (.ile (.c 0) (.n (.v 0))) (.ile (.n (.v 0)) (.n (.v 1)))))) (by kernel_rfl)
theorem o115 {x0 : Nat} {x1 : Nat} : (x1 ≤ 8) → (x0 < x1) → (x0 < 50) := Ln.lin [] [x0, x1] (.imp (.le (.v 1) (.c 8)) (.imp (.le (.add (.v 0) (.c 1)) (.v 1)) (.le (.add (.v 0) (.c 1)) (.c 50)))) (by kernel_rfl)
theorem o116 {x0 : Nat} {x1 : Nat} : (x1 < x0) → (¬ (x0 = x1)) := Ln.lin [] [x0, x1] (.imp (.le (.add (.v 1) (.c 1)) (.v 0)) (.no (.eq (.v 0) (.v 1)))) (by kernel_rfl)
theorem o117 {x0 : Nat} {x1 : Nat} : (¬ (x1 = x0)) → (¬ (((x0 : Nat) : Int) = ((x1 : Nat) : Int))) := Ln.lin [] [x0, x1] (.imp (.no (.eq (.v 1) (.v 0))) (.no (.ieq (.n (.v 0)) (.n (.v 1))))) (by kernel_rfl)
theorem o118 {x0 : Nat} {x1 : Nat} {x2 : Nat} : (x0 < x2) → (x2 < x1) → (x0 < x1) := Ln.lin [] [x0, x1, x2] (.imp (.le (.add (.v 0) (.c 1)) (.v 2)) (.imp (.le (.add (.v 2) (.c 1)) (.v 1)) (.le (.add (.v 0) (.c 1)) (.v 1)))) (by kernel_rfl)
theorem o119 {x0 : Nat} {x1 : Nat} : (x0 < x1) → (¬ (x0 = x1)) := Ln.lin [] [x0, x1] (.imp (.le (.add (.v 0) (.c 1)) (.v 1)) (.no (.eq (.v 0) (.v 1)))) (by kernel_rfl)
theorem o120 {x0 : Nat} {x1 : Nat} {x2 : Nat} {x3 : Nat} {x4 : Nat} {x5 : Nat} : (x2 = x1) → ((x0 + x3) = (x4 + (x3 + x5))) → ((x4 + x5) = (x2 + 0)) → (x0 = x1) := Ln.lin [] [x0, x1, x2, x3, x4, x5] (.imp (.eq (.v 2) (.v 1)) (.imp (.eq (.add (.v 0) (.v 3)) (.add (.v 4) (.add (.v 3) (.v 5)))) (.imp (.eq (.add (.v 4) (.v 5)) (.add (.v 2) (.c 0))) (.eq (.v 0) (.v 1))))) (by kernel_rfl)
theorem o121 {x0 : Nat} {x1 : Nat} : (x0 < x1) → (¬ (((x0 : Nat) : Int) = ((x1 : Nat) : Int))) := Ln.lin [] [x0, x1] (.imp (.le (.add (.v 0) (.c 1)) (.v 1)) (.no (.ieq (.n (.v 0)) (.n (.v 1))))) (by kernel_rfl)
theorem o122 {x0 : Nat} {x1 : Nat} {x2 : Nat} {x3 : Nat} : ((x0 + x3) = x2) → ((x1 + 1) = (x3 + 0)) → (((x0 + 1) + x1) = x2) := Ln.lin [] [x0, x1, x2, x3] (.imp (.eq (.add (.v 0) (.v 3)) (.v 2)) (.imp (.eq (.add (.v 1) (.c 1)) (.add (.v 3) (.c 0))) (.eq (.add (.add (.v 0) (.c 1)) (.v 1)) (.v 2)))) (by kernel_rfl)
theorem o123 {x0 : Nat} {x1 : Nat} {x2 : Nat} {x3 : Nat} : (x1 < x2) → (x2 < x3) → (x3 ≤ x0) → (x0 ≠ x1) := Ln.lin [] [x0, x1, x2, x3] (.imp (.le (.add (.v 1) (.c 1)) (.v 2)) (.imp (.le (.add (.v 2) (.c 1)) (.v 3)) (.imp (.le (.v 3) (.v 0)) (.no (.eq (.v 0) (.v 1)))))) (by kernel_rfl)
theorem o124 {x0 : Nat} : ((x0 + 1) ≠ x0) := Ln.lin [] [x0] (.no (.eq (.add (.v 0) (.c 1)) (.v 0))) (by kernel_rfl)
theorem o125 {x0 : Nat} : (x0 ≤ (x0 + 1)) := Ln.lin [] [x0] (.le (.v 0) (.add (.v 0) (.c 1))) (by kernel_rfl)
theorem o126 {x0 : Nat} {x1 : Nat} : (1000 ≤ x1) → (x0 < 1000) → (x0 ≠ x1) := Ln.lin [] [x0, x1] (.imp (.le (.c 1000) (.v 1)) (.imp (.le (.add (.v 0) (.c 1)) (.c 1000)) (.no (.eq (.v 0) (.v 1))))) (by kernel_rfl)
theorem o127 {x0 : Nat} {x1 : Nat} : (1000 ≤ x1) → (x0 < 1000) → (x0 ≠ (x1 + 1)) := Ln.lin [] [x0, x1] (.imp (.le (.c 1000) (.v 1)) (.imp (.le (.add (.v 0) (.c 1)) (.c 1000)) (.no (.eq (.v 0) (.add (.v 1) (.c 1)))))) (by kernel_rfl)
theorem o128 {x0 : Nat} {x1 : Nat} : (x1 = (x0 + 1)) → (x0 ≤ x1) := Ln.lin [] [x0, x1] (.imp (.eq (.v 1) (.add (.v 0) (.c 1))) (.le (.v 0) (.v 1))) (by kernel_rfl)
theorem o129 {x0 : Int} {x1 : Int} {x2 : Int} {x3 : Int} : (x2 = x3) → (x2 = x0) → (x3 = x1) → (x0 = x1) := Ln.lin [x0, x1, x2, x3] [] (.imp (.ieq (.v 2) (.v 3)) (.imp (.ieq (.v 2) (.v 0)) (.imp (.ieq (.v 3) (.v 1)) (.ieq (.v 0) (.v 1))))) (by kernel_rfl)
theorem o130 {x0 : Int} {x1 : Int} {x2 : Int} {x3 : Int} : (x2 = x3) → (x2 = x1) → (x3 = x0) → (x0 = x1) := Ln.lin [x0, x1, x2, x3] [] (.imp (.ieq (.v 2) (.v 3)) (.imp (.ieq (.v 2) (.v 1)) (.imp (.ieq (.v 3) (.v 0)) (.ieq (.v 0) (.v 1))))) (by kernel_rfl)
theorem o131 {x0 : Nat} {x1 : Nat} {x2 : Nat} : (x1 ≤ 8) → (((x2 : Nat) : Int) < ((x1 : Nat) : Int)) → (((x0 : Nat) : Int) ≤ ((x2 : Nat) : Int)) → ((100 + x0) < 1000) := Ln.lin [] [x0, x1, x2] (.imp (.le (.v 1) (.c 8)) (.imp (.ile (.add (.n (.v 2)) (.c 1)) (.n (.v 1))) (.imp (.ile (.n (.v 0)) (.n (.v 2))) (.le (.add (.add (.c 100) (.v 0)) (.c 1)) (.c 1000))))) (by kernel_rfl)
theorem o132 {x0 : Nat} {x1 : Nat} : (x1 ≤ 8) → (((x0 : Nat) : Int) < ((x1 : Nat) : Int)) → ((100 + x0) < 1000) := Ln.lin [] [x0, x1] (.imp (.le (.v 1) (.c 8)) (.imp (.ile (.add (.n (.v 0)) (.c 1)) (.n (.v 1))) (.le (.add (.add (.c 100) (.v 0)) (.c 1)) (.c 1000)))) (by kernel_rfl)
theorem o133 {x0 : Nat} {x1 : Nat} : (¬ (((x0 : Nat) : Int) = ((x1 : Nat) : Int))) → ((100 + x0) ≠ (100 + x1)) := Ln.lin [] [x0, x1] (.imp (.no (.ieq (.n (.v 0)) (.n (.v 1)))) (.no (.eq (.add (.c 100) (.v 0)) (.add (.c 100) (.v 1))))) (by kernel_rfl)
theorem o134 {x0 : Nat} {x1 : Nat} : (x1 ≤ 8) → (x0 ≤ x1) → (x0 ≤ 1000) := Ln.lin [] [x0, x1] (.imp (.le (.v 1) (.c 8)) (.imp (.le (.v 0) (.v 1)) (.le (.v 0) (.c 1000)))) (by kernel_rfl)
theorem o135 {x0 : Nat} {x1 : Nat} : (((x1 : Nat) : Int) < ((x0 : Nat) : Int)) → (0 < x0) := Ln.lin [] [x0, x1] (.imp (.ile (.add (.n (.v 1)) (.c 1)) (.n (.v 0))) (.le (.add (.c 0) (.c 1)) (.v 0))) (by kernel_rfl)
theorem o136 {x0 : Nat} {x1 : Nat} {x2 : Nat} : (x1 ≤ 8) → (x0 = x2) → (x2 < x1) → (x0 ≤ 1000) := Ln.lin [] [x0, x1, x2] (.imp (.le (.v 1) (.c 8)) (.imp (.eq (.v 0) (.v 2)) (.imp (.le (.add (.v 2) (.c 1)) (.v 1)) (.le (.v 0) (.c 1000))))) (by kernel_rfl)
theorem o137 {x0 : Int} {x1 : Int} {x2 : Nat} {x3 : Nat} : (¬ (((x2 : Nat) : Int) = ((x3 : Nat) : Int))) → (((x2 : Nat) : Int) = x0) → (((x3 : Nat) : Int) = x1) → (x0 ≠ x1) := Ln.lin [x0, x1] [x2, x3] (.imp (.no (.ieq (.n (.v 0)) (.n (.v 1)))) (.imp (.ieq (.n (.v 0)) (.v 0)) (.imp (.ieq (.n (.v 1)) (.v 1)) (.no (.ieq (.v 0) (.v 1)))))) (by kernel_rfl)
theorem o138 {x0 : Int} {x1 : Int} {x2 : Nat} {x3 : Nat} : (¬ (((x2 : Nat) : Int) = ((x3 : Nat) : Int))) → (((x2 : Nat) : Int) = x1) → (((x3 : Nat) : Int) = x0) → (x0 ≠ x1) := Ln.lin [x0, x1] [x2, x3] (.imp (.no (.ieq (.n (.v 0)) (.n (.v 1)))) (.imp (.ieq (.n (.v 0)) (.v 1)) (.imp (.ieq (.n (.v 1)) (.v 0)) (.no (.ieq (.v 0) (.v 1)))))) (by kernel_rfl)
theorem o139 {x0 : Nat} {x1 : Nat} : (((x0 : Nat) : Int) ≤ ((x1 : Nat) : Int)) → (¬ (((x0 : Nat) : Int) = ((x1 : Nat) : Int))) → (x0 < x1) := Ln.lin [] [x0, x1] (.imp (.ile (.n (.v 0)) (.n (.v 1))) (.imp (.no (.ieq (.n (.v 0)) (.n (.v 1)))) (.le (.add (.v 0) (.c 1)) (.v 1)))) (by kernel_rfl)
theorem o140 {x0 : Nat} : (25 ≠ (100 + x0)) := Ln.lin [] [x0] (.no (.eq (.c 25) (.add (.c 100) (.v 0)))) (by kernel_rfl)
theorem o141 {x0 : Nat} : (x0 < 50) → ((100 + x0) < 1000) := Ln.lin [] [x0] (.imp (.le (.add (.v 0) (.c 1)) (.c 50)) (.le (.add (.add (.c 100) (.v 0)) (.c 1)) (.c 1000))) (by kernel_rfl)
theorem o142 {x0 : Nat} : (¬ (((24 ≤ x0) ∧ (x0 ≤ 26)) ∨ ((100 ≤ x0) ∧ (x0 < 150)))) → (x0 ≠ 26) := Ln.lin [] [x0] (.imp (.no (.or (.and (.le (.c 24) (.v 0)) (.le (.v 0) (.c 26))) (.and (.le (.c 100) (.v 0)) (.le (.add (.v 0) (.c 1)) (.c 150))))) (.no (.eq (.v 0) (.c 26)))) (by kernel_rfl)
theorem o143 {x0 : Nat} {x1 : Nat} {x2 : Nat} {x3 : Nat} : (x2 ≤ 8) → (((x3 : Nat) : Int) < ((x2 : Nat) : Int)) → (((x1 : Nat) : Int) ≤ ((x3 : Nat) : Int)) → (¬ (((24 ≤ x0) ∧ (x0 ≤ 26)) ∨ ((100 ≤ x0) ∧ (x0 < 150)))) → (x0 ≠ (100 + x1)) := Ln.lin [] [x0, x1, x2, x3] (.imp (.le (.v 2) (.c 8)) (.imp (.ile (.add (.n (.v 3)) (.c 1)) (.n (.v 2))) (.imp (.ile (.n (.v 1)) (.n (.v 3))) (.imp (.no (.or (.and (.le (.c 24) (.v 0)) (.le (.v 0) (.c 26))) (.and (.le (.c 100) (.v 0)) (.le (.add (.v 0) (.c 1)) (.c 150))))) (.no (.eq (.v 0) (.add (.c 100) (.v 1)))))))) (by kernel_rfl)
theorem o144 {x0 : Nat} {x1 : Nat} {x2 : Nat} : (x1 = x2) → (x0 < x2) → (x0 < x1) := Ln.lin [] [x0, x1, x2] (.imp (.eq (.v 1) (.v 2)) (.imp (.le (.add (.v 0) (.c 1)) (.v 2)) (.le (.add (.v 0) (.c 1)) (.v 1)))) (by kernel_rfl)
theorem o145 {x0 : Nat} {x1 : Nat} {x2 : Nat} : (x0 = x2) → (x2 < x1) → ((x0 + 1) ≤ x1) := Ln.lin [] [x0, x1, x2] (.imp (.eq (.v 0) (.v 2)) (.imp (.le (.add (.v 2) (.c 1)) (.v 1)) (.le (.add (.v 0) (.c 1)) (.v 1)))) (by kernel_rfl)
theorem o146 {x0 : Nat} : (x0 ≤ 8) → (((x0 : Nat) : Int) ≤ (1000000 : Int)) := Ln.lin [] [x0] (.imp (.le (.v 0) (.c 8)) (.ile (.n (.v 0)) (.c 1000000))) (by kernel_rfl)
theorem o147 {x0 : Nat} {x1 : Nat} : ((x0 + 5) < x1) → (x0 < x1) := Ln.lin [] [x0, x1] (.imp (.le (.add (.add (.v 0) (.c 5)) (.c 1)) (.v 1)) (.le (.add (.v 0) (.c 1)) (.v 1))) (by kernel_rfl)
theorem o148 {x0 : Nat} : (x0 ≠ (x0 + 1)) := Ln.lin [] [x0] (.no (.eq (.v 0) (.add (.v 0) (.c 1)))) (by kernel_rfl)
theorem o149 {x0 : Nat} : (x0 ≤ 7) → (x0 ≤ 1000) := Ln.lin [] [x0] (.imp (.le (.v 0) (.c 7)) (.le (.v 0) (.c 1000))) (by kernel_rfl)
theorem o150 {x0 : Nat} : (x0 ≤ 2) → (x0 ≤ 999) := Ln.lin [] [x0] (.imp (.le (.v 0) (.c 2)) (.le (.v 0) (.c 999))) (by kernel_rfl)
theorem o151 {x0 : Nat} : (x0 ≤ 2) → (x0 ≤ 1000) := Ln.lin [] [x0] (.imp (.le (.v 0) (.c 2)) (.le (.v 0) (.c 1000))) (by kernel_rfl)
theorem o152 {x0 : Nat} {x1 : Nat} : ((x0 + 5) < x1) → ((x0 + 1) < x1) := Ln.lin [] [x0, x1] (.imp (.le (.add (.add (.v 0) (.c 5)) (.c 1)) (.v 1)) (.le (.add (.add (.v 0) (.c 1)) (.c 1)) (.v 1))) (by kernel_rfl)
theorem o153 {x0 : Nat} : (x0 < 7) → (x0 ≤ 1000) := Ln.lin [] [x0] (.imp (.le (.add (.v 0) (.c 1)) (.c 7)) (.le (.v 0) (.c 1000))) (by kernel_rfl)
theorem o154 {x0 : Nat} {x1 : Nat} : (x1 < 7) → (x0 ≤ x1) → (x0 ≤ 1000) := Ln.lin [] [x0, x1] (.imp (.le (.add (.v 1) (.c 1)) (.c 7)) (.imp (.le (.v 0) (.v 1)) (.le (.v 0) (.c 1000)))) (by kernel_rfl)
theorem o155 {x0 : Int} {x1 : Nat} : (((0 : Int) ≤ x0) ∧ (x0 < ((x1 : Nat) : Int))) → ((Int.toNat x0) < x1) := Ln.lin [x0] [x1, (Int.toNat x0)] (.imp (.or (.and (.ile (.v 0) (.c 0)) (.eq (.v 1) (.c 0))) (.ieq (.n (.v 1)) (.v 0))) (.imp (.and (.ile (.c 0) (.v 0)) (.ile (.add (.v 0) (.c 1)) (.n (.v 0)))) (.le (.add (.v 1) (.c 1)) (.v 0)))) (by kernel_rfl) (Ln.toNat_or x0)
theorem o156 {x0 : Nat} : (1000 ≤ x0) → (x0 ≠ 21) := Ln.lin [] [x0] (.imp (.le (.c 1000) (.v 0)) (.no (.eq (.v 0) (.c 21)))) (by kernel_rfl)
theorem o157 {x0 : Nat} : (1000 ≤ x0) → (x0 ≠ 20) := Ln.lin [] [x0] (.imp (.le (.c 1000) (.v 0)) (.no (.eq (.v 0) (.c 20)))) (by kernel_rfl)
theorem o158 {x0 : Nat} : (1000 ≤ x0) → (12 ≠ x0) := Ln.lin [] [x0] (.imp (.le (.c 1000) (.v 0)) (.no (.eq (.c 12) (.v 0)))) (by kernel_rfl)
theorem o159 {x0 : Nat} : (1000 ≤ x0) → (13 ≠ x0) := Ln.lin [] [x0] (.imp (.le (.c 1000) (.v 0)) (.no (.eq (.c 13) (.v 0)))) (by kernel_rfl)
theorem o160 {x0 : Nat} : (1000 ≤ x0) → (22 ≠ x0) := Ln.lin [] [x0] (.imp (.le (.c 1000) (.v 0)) (.no (.eq (.c 22) (.v 0)))) (by kernel_rfl)
theorem o161 {x0 : Nat} {x1 : Nat} : (x1 < 7) → (x0 = x1) → (x0 ≤ 1000) := Ln.lin [] [x0, x1] (.imp (.le (.add (.v 1) (.c 1)) (.c 7)) (.imp (.eq (.v 0) (.v 1)) (.le (.v 0) (.c 1000)))) (by kernel_rfl)
theorem o162 {x0 : Nat} {x1 : Nat} : (x0 < x1) → (x0 ≤ (x1 - 1)) := Ln.lin [] [x0, x1, (x1 - 1)] (.imp (.or (.and (.le (.v 1) (.c 1)) (.eq (.v 2) (.c 0))) (.eq (.add (.c 1) (.v 2)) (.v 1))) (.imp (.le (.add (.v 0) (.c 1)) (.v 1)) (.le (.v 0) (.v 2)))) (by kernel_rfl) (Ln.sub_or x1 1)
theorem o163 {x0 : Int} {x1 : Int} {x2 : Int} : (((0 : Int) ≤ x0) ∧ (x0 ≤ x2)) → (x2 ≤ x1) → (x0 ≤ x1) := Ln.lin [x0, x1, x2] [] (.imp (.and (.ile (.c 0) (.v 0)) (.ile (.v 0) (.v 2))) (.imp (.ile (.v 2) (.v 1)) (.ile (.v 0) (.v 1)))) (by kernel_rfl)
theorem o164 {x0 : Nat} : (x0 < 7) → ((x0 - 1) ≤ 6) := Ln.lin [] [x0, (x0 - 1)] (.imp (.or (.and (.le (.v 0) (.c 1)) (.eq (.v 1) (.c 0))) (.eq (.add (.c 1) (.v 1)) (.v 0))) (.imp (.le (.add (.v 0) (.c 1)) (.c 7)) (.le (.v 1) (.c 6)))) (by kernel_rfl) (Ln.sub_or x0 1)
theorem o165 {x0 : Nat} {x1 : Nat} : (x1 ≤ 2) → (x0 = x1) → (x0 ≤ 2) := Ln.lin [] [x0, x1] (.imp (.le (.v 1) (.c 2)) (.imp (.eq (.v 0) (.v 1)) (.le (.v 0) (.c 2)))) (by kernel_rfl)
theorem o166 {x0 : Nat} {x1 : Int} : (((0 : Int) ≤ x1) ∧ (x1 < ((x0 : Nat) : Int))) → (0 < x0) := Ln.lin [x1] [x0] (.imp (.and (.ile (.c 0) (.v 0)) (.ile (.add (.v 0) (.c 1)) (.n (.v 0)))) (.le (.add (.c 0) (.c 1)) (.v 0))) (by kernel_rfl)
theorem o167 {x0 : Nat} : (0 < x0) → (x0 = ((x0 - 1) + 1)) := Ln.lin [] [x0, (x0 - 1)] (.imp (.or (.and (.le (.v 0) (.c 1)) (.eq (.v 1) (.c 0))) (.eq (.add (.c 1) (.v 1)) (.v 0))) (.imp (.le (.add (.c 0) (.c 1)) (.v 0)) (.eq (.v 0) (.add (.v 1) (.c 1))))) (by kernel_rfl) (Ln.sub_or x0 1)
theorem o168 {x0 : Int} {x1 : Int} (h0 : (((0 : Int) ≤ x0) ∧ (x0 ≤ x1))) (h1 : ((1 : Int) ≤ x1)) : (((0 : Int) ≤ ((1 : Int) + (x0 + (0 : Int)))) ∧ (((1 : Int) + (x0 + (0 : Int))) ≤ (x1 * (3 : Int)))) := by omega
theorem o169 {x0 : Int} {x1 : Int} {x2 : Int} (h0 : (((0 : Int) ≤ x0) ∧ (x0 ≤ x2))) (h1 : (((0 : Int) ≤ x1) ∧ (x1 ≤ x2))) (h2 : ((1 : Int) ≤ x2)) : (((0 : Int) ≤ ((1 : Int) + (x0 + (x1 + (0 : Int))))) ∧ (((1 : Int) + (x0 + (x1 + (0 : Int)))) ≤ (x2 * (3 : Int)))) := by omega
theorem o170 {x0 : Int} {x1 : Int} : (x1 ≤ (729 : Int)) → (x0 ≤ x1) → (x0 ≤ (1000000 : Int)) := Ln.lin [x0, x1] [] (.imp (.ile (.v 1) (.c 729)) (.imp (.ile (.v 0) (.v 1)) (.ile (.v 0) (.c 1000000)))) (by kernel_rfl)
theorem o171 {x0 : Nat} : (1000 ≤ x0) → (21 ≠ x0) := Ln.lin [] [x0] (.imp (.le (.c 1000) (.v 0)) (.no (.eq (.c 21) (.v 0)))) (by kernel_rfl)
theorem o172 {x0 : Nat} : (1000 ≤ x0) → (20 ≠ x0) := Ln.lin [] [x0] (.imp (.le (.c 1000) (.v 0)) (.no (.eq (.c 20) (.v 0)))) (by kernel_rfl)
theorem o173 {x0 : Nat} : (¬ ((20 ≤ x0) ∧ (x0 ≤ 23))) → (x0 ≠ 22) := Ln.lin [] [x0] (.imp (.no (.and (.le (.c 20) (.v 0)) (.le (.v 0) (.c 23)))) (.no (.eq (.v 0) (.c 22)))) (by kernel_rfl)
theorem o174 {x0 : Nat} : (¬ ((20 ≤ x0) ∧ (x0 ≤ 23))) → (x0 ≠ 21) := Ln.lin [] [x0] (.imp (.no (.and (.le (.c 20) (.v 0)) (.le (.v 0) (.c 23)))) (.no (.eq (.v 0) (.c 21)))) (by kernel_rfl)
theorem o175 {x0 : Nat} : (¬ ((20 ≤ x0) ∧ (x0 ≤ 23))) → (x0 ≠ 20) := Ln.lin [] [x0] (.imp (.no (.and (.le (.c 20) (.v 0)) (.le (.v 0) (.c 23)))) (.no (.eq (.v 0) (.c 20)))) (by kernel_rfl)
theorem o176 {x0 : Nat} {x1 : Nat} : (1000 ≤ x1) → (x1 < x0) → (x0 ≠ 22) := Ln.lin [] [x0, x1] (.imp (.le (.c 1000) (.v 1)) (.imp (.le (.add (.v 1) (.c 1)) (.v 0)) (.no (.eq (.v 0) (.c 22))))) (by kernel_rfl)
theorem o177 {x0 : Nat} {x1 : Nat} : (x1 < x0) → (x0 ≠ x1) := Ln.lin [] [x0, x1] (.imp (.le (.add (.v 1) (.c 1)) (.v 0)) (.no (.eq (.v 0) (.v 1)))) (by kernel_rfl)
theorem o178 {x0 : Nat} {x1 : Nat} : (1000 ≤ x1) → (x1 < x0) → (x0 ≠ 21) := Ln.lin [] [x0, x1] (.imp (.le (.c 1000) (.v 1)) (.imp (.le (.add (.v 1) (.c 1)) (.v 0)) (.no (.eq (.v 0) (.c 21))))) (by kernel_rfl)
theorem o179 {x0 : Nat} {x1 : Nat} : (1000 ≤ x1) → (x1 < x0) → (x0 ≠ 20) := Ln.lin [] [x0, x1] (.imp (.le (.c 1000) (.v 1)) (.imp (.le (.add (.v 1) (.c 1)) (.v 0)) (.no (.eq (.v 0) (.c 20))))) (by kernel_rfl)
theorem o180 {x0 : Nat} : (1000 ≤ x0) → (12 ≠ (x0 + 1)) := Ln.lin [] [x0] (.imp (.le (.c 1000) (.v 0)) (.no (.eq (.c 12) (.add (.v 0) (.c 1))))) (by kernel_rfl)
theorem o181 {x0 : Nat} : (1000 ≤ x0) → (13 ≠ (x0 + 1)) := Ln.lin [] [x0] (.imp (.le (.c 1000) (.v 0)) (.no (.eq (.c 13) (.add (.v 0) (.c 1))))) (by kernel_rfl)
theorem o182 {x0 : Nat} : (1000 ≤ x0) → (23 ≠ (x0 + 1)) := Ln.lin [] [x0] (.imp (.le (.c 1000) (.v 0)) (.no (.eq (.c 23) (.add (.v 0) (.c 1))))) (by kernel_rfl)
theorem o183 {x0 : Nat} : ((x0 + 2) ≠ (x0 + 1)) := Ln.lin [] [x0] (.no (.eq (.add (.v 0) (.c 2)) (.add (.v 0) (.c 1)))) (by kernel_rfl)
theorem o184 {x0 : Nat} : (x0 < (x0 + 2)) := Ln.lin [] [x0] (.le (.add (.v 0) (.c 1)) (.add (.v 0) (.c 2))) (by kernel_rfl)
theorem o185 {x0 : Nat} : ((x0 + 1) ≠ (x0 + 2)) := Ln.lin [] [x0] (.no (.eq (.add (.v 0) (.c 1)) (.add (.v 0) (.c 2)))) (by kernel_rfl)
theorem o186 {x0 : Nat} : ((x0 + 3) ≠ (x0 + 2)) := Ln.lin [] [x0] (.no (.eq (.add (.v 0) (.c 3)) (.add (.v 0) (.c 2)))) (by kernel_rfl)
theorem o187 {x0 : Nat} : ((x0 + 3) ≠ (x0 + 1)) := Ln.lin [] [x0] (.no (.eq (.add (.v 0) (.c 3)) (.add (.v 0) (.c 1)))) (by kernel_rfl)
theorem o188 {x0 : Nat} : (x0 < (x0 + 3)) := Ln.lin [] [x0] (.le (.add (.v 0) (.c 1)) (.add (.v 0) (.c 3))) (by kernel_rfl)
theorem o189 {x0 : Nat} : (1000 ≤ x0) → (23 ≠ (x0 + 3)) := Ln.lin [] [x0] (.imp (.le (.c 1000) (.v 0)) (.no (.eq (.c 23) (.add (.v 0) (.c 3))))) (by kernel_rfl)
theorem o190 {x0 : Nat} : (1000 ≤ x0) → (23 ≠ (x0 + 2)) := Ln.lin [] [x0] (.imp (.le (.c 1000) (.v 0)) (.no (.eq (.c 23) (.add (.v 0) (.c 2))))) (by kernel_rfl)
theorem o191 {x0 : Nat} {x1 : Nat} : (1000 ≤ x1) → (x0 < 1000) → (x0 ≠ (x1 + 3)) := Ln.lin [] [x0, x1] (.imp (.le (.c 1000) (.v 1)) (.imp (.le (.add (.v 0) (.c 1)) (.c 1000)) (.no (.eq (.v 0) (.add (.v 1) (.c 3)))))) (by kernel_rfl)
theorem o192 {x0 : Nat} {x1 : Nat} : (1000 ≤ x1) → (x0 < 1000) → (x0 ≠ (x1 + 2)) := Ln.lin [] [x0, x1] (.imp (.le (.c 1000) (.v 1)) (.imp (.le (.add (.v 0) (.c 1)) (.c 1000)) (.no (.eq (.v 0) (.add (.v 1) (.c 2)))))) (by kernel_rfl)
theorem o193 {x0 : Nat} : (x0 < 7) → (x0 ≤ 999) := Ln.lin [] [x0] (.imp (.le (.add (.v 0) (.c 1)) (.c 7)) (.le (.v 0) (.c 999))) (by kernel_rfl)
theorem o194 {x0 : Nat} : (x0 < 7) → (x0 ≤ 6) := Ln.lin [] [x0] (.imp (.le (.add (.v 0) (.c 1)) (.c 7)) (.le (.v 0) (.c 6))) (by kernel_rfl)
theorem o195 {x0 : Int} {x1 : Nat} : (((0 : Int) ≤ x0) ∧ (x0 < ((x1 : Nat) : Int))) → (((0 : Int) ≤ x0) ∧ (x0 < (((x1 + 1) : Nat) : Int))) := Ln.lin [x0] [x1] (.imp (.and (.ile (.c 0) (.v 0)) (.ile (.add (.v 0) (.c 1)) (.n (.v 0)))) (.and (.ile (.c 0) (.v 0)) (.ile (.add (.v 0) (.c 1)) (.n (.add (.v 0) (.c 1)))))) (by kernel_rfl)
theorem o196 {x0 : Nat} : (¬ ((20 ≤ x0) ∧ (x0 ≤ 23))) → (x0 ≠ 23) := Ln.lin [] [x0] (.imp (.no (.and (.le (.c 20) (.v 0)) (.le (.v 0) (.c 23)))) (.no (.eq (.v 0) (.c 23)))) (by kernel_rfl)
theorem o197 {x0 : Nat} {x1 : Nat} : (x0 < x1) → (x0 ≠ (x1 + 3)) := Ln.lin [] [x0, x1] (.imp (.le (.add (.v 0) (.c 1)) (.v 1)) (.no (.eq (.v 0) (.add (.v 1) (.c 3))))) (by kernel_rfl)
theorem o198 {x0 : Nat} {x1 : Nat} : (x0 < x1) → (x0 ≠ (x1 + 2)) := Ln.lin [] [x0, x1] (.imp (.le (.add (.v 0) (.c 1)) (.v 1)) (.no (.eq (.v 0) (.add (.v 1) (.c 2))))) (by kernel_rfl)
theorem o199 {x0 : Nat} {x1 : Nat} : (x0 < x1) → (x0 ≠ (x1 + 1)) := Ln.lin [] [x0, x1] (.imp (.le (.add (.v 0) (.c 1)) (.v 1)) (.no (.eq (.v 0) (.add (.v 1) (.c 1))))) (by kernel_rfl)
theorem o200 {x0 : Nat} {x1 : Nat} : (x1 ≤ 8) → (x0 < x1) → ((100 ≤ (100 + x0)) ∧ ((100 + x0) < 150)) := Ln.lin [] [x0, x1] (.imp (.le (.v 1) (.c 8)) (.imp (.le (.add (.v 0) (.c 1)) (.v 1)) (.and (.le (.c 100) (.add (.c 100) (.v 0))) (.le (.add (.add (.c 100) (.v 0)) (.c 1)) (.c 150))))) (by kernel_rfl)
theorem o201 {x0 : Nat} : (x0 < 50) → ((100 ≤ (100 + x0)) ∧ ((100 + x0) < 150)) := Ln.lin [] [x0] (.imp (.le (.add (.v 0) (.c 1)) (.c 50)) (.and (.le (.c 100) (.add (.c 100) (.v 0))) (.le (.add (.add (.c 100) (.v 0)) (.c 1)) (.c 150)))) (by kernel_rfl)
theorem o202 {x0 : Nat} : (((24 ≤ x0) ∧ (x0 ≤ 26)) ∨ ((100 ≤ x0) ∧ (x0 < 150))) → (x0 < 1000) := Ln.lin [] [x0] (.imp (.or (.and (.le (.c 24) (.v 0)) (.le (.v 0) (.c 26))) (.and (.le (.c 100) (.v 0)) (.le (.add (.v 0) (.c 1)) (.c 150)))) (.le (.add (.v 0) (.c 1)) (.c 1000))) (by kernel_rfl)
theorem o203 {x0 : Nat} {x1 : Nat} : (x1 ≤ 7) → (x1 = x0) → (x0 ≤ 7) := Ln.lin [] [x0, x1] (.imp (.le (.v 1) (.c 7)) (.imp (.eq (.v 1) (.v 0)) (.le (.v 0) (.c 7)))) (by kernel_rfl)
theorem o204 {x0 : Nat} {x1 : Nat} : (x0 < x1) → (x1 ≤ 7) → (x0 ≤ 6) := Ln.lin [] [x0, x1] (.imp (.le (.add (.v 0) (.c 1)) (.v 1)) (.imp (.le (.v 1) (.c 7)) (.le (.v 0) (.c 6)))) (by kernel_rfl)
theorem o205 {x0 : Nat} : (x0 ≤ 7) → ((2 * x0) ≤ 14) := Ln.lin [] [x0] (.imp (.le (.v 0) (.c 7)) (.le (.mul 2 (.v 0)) (.c 14))) (by kernel_rfl)
theorem o206 {x0 : Nat} {x1 : Prop} : ((x0 ≤ 2) ∧ x1) → (x0 ≤ 1000) := fun h0 => Ln.lin [] [x0] (.imp (.le (.v 0) (.c 2)) (.le (.v 0) (.c 1000))) (by kernel_rfl) h0.1
theorem o207 {x0 : Int} {x1 : Nat} {x2 : Nat} : (((0 : Int) ≤ x0) ∧ (x0 < ((x2 : Nat) : Int))) → (x2 = x1) → (x0 < ((x1 : Nat) : Int)) := Ln.lin [x0] [x1, x2] (.imp (.and (.ile (.c 0) (.v 0)) (.ile (.add (.v 0) (.c 1)) (.n (.v 1)))) (.imp (.eq (.v 1) (.v 0)) (.ile (.add (.v 0) (.c 1)) (.n (.v 0))))) (by kernel_rfl)
theorem o208 {x0 : Nat} {x1 : Nat} {x2 : Prop} : ((x1 ≤ 2) ∧ x2) → (x0 = x1) → (x0 ≤ 1000) := fun h0 h1 => Ln.lin [] [x0, x1] (.imp (.le (.v 1) (.c 2)) (.imp (.eq (.v 0) (.v 1)) (.le (.v 0) (.c 1000)))) (by kernel_rfl) h0.1 h1
theorem o209 {x0 : Nat} {x1 : Nat} {x2 : Prop} : ((x1 ≤ 2) ∧ x2) → (x0 = x1) → (x0 ≤ 2) := fun h0 h1 => Ln.lin [] [x0, x1] (.imp (.le (.v 1) (.c 2)) (.imp (.eq (.v 0) (.v 1)) (.le (.v 0) (.c 2)))) (by kernel_rfl) h0.1 h1
theorem o210 {x0 : Prop} {x1 : Nat} {x2 : Nat} (h0 : (x1 ≠ x2)) (h1 : (x2 = x1)) : (x0 ∧ (((x1 : Nat) : Int) ≠ ((x2 : Nat) : Int))) := by omega
theorem o211 {x0 : Int} {x1 : Nat} : (¬ (x1 = (Int.toNat x0))) → (x0 ≠ ((x1 : Nat) : Int)) := Ln.lin [x0] [x1, (Int.toNat x0)] (.imp (.or (.and (.ile (.v 0) (.c 0)) (.eq (.v 1) (.c 0))) (.ieq (.n (.v 1)) (.v 0))) (.imp (.no (.eq (.v 0) (.v 1))) (.no (.ieq (.v 0) (.n (.v 0)))))) (by kernel_rfl) (Ln.toNat_or x0)
theorem o212 {x0 : Nat} {x1 : Int} : ((0 : Int) ≤ x1) → (x1 < ((x0 : Nat) : Int)) → (0 < x0) := Ln.lin [x1] [x0] (.imp (.ile (.c 0) (.v 0)) (.imp (.ile (.add (.v 0) (.c 1)) (.n (.v 0))) (.le (.add (.c 0) (.c 1)) (.v 0)))) (by kernel_rfl)
theorem o213 {x0 : Nat} {x1 : Nat} {x2 : Nat} {x3 : Nat} : (x1 ≤ 90) → (x2 < x3) → (x3 ≤ 7) → (x0 ≤ (x2 + x1)) → (x0 ≤ 1000) := Ln.lin [] [x0, x1, x2, x3] (.imp (.le (.v 1) (.c 90)) (.imp (.le (.add (.v 2) (.c 1)) (.v 3)) (.imp (.le (.v 3) (.c 7)) (.imp (.le (.v 0) (.add (.v 2) (.v 1))) (.le (.v 0) (.c 1000)))))) (by kernel_rfl)
theorem o214 {x0 : Nat} : (((24 ≤ x0) ∧ (x0 ≤ 26)) ∨ ((100 ≤ x0) ∧ (x0 < 150))) → (x0 ≠ 27) := Ln.lin [] [x0] (.imp (.or (.and (.le (.c 24) (.v 0)) (.le (.v 0) (.c 26))) (.and (.le (.c 100) (.v 0)) (.le (.add (.v 0) (.c 1)) (.c 150)))) (.no (.eq (.v 0) (.c 27)))) (by kernel_rfl)
theorem o215 {x0 : Nat} : (x0 ≤ 23) → (x0 < 1000) := Ln.lin [] [x0] (.imp (.le (.v 0) (.c 23)) (.le (.add (.v 0) (.c 1)) (.c 1000))) (by kernel_rfl)
theorem o216 {x0 : Nat} : (x0 ≤ 23) → (x0 ≠ 27) := Ln.lin [] [x0] (.imp (.le (.v 0) (.c 23)) (.no (.eq (.v 0) (.c 27)))) (by kernel_rfl)
theorem o217 {x0 : Nat} {x1 : Nat} {x2 : Nat} : (x0 ≤ (x1 + x2)) → ((x0 + 1) ≤ (x1 + (x2 + 1))) := Ln.lin [] [x0, x1, x2] (.imp (.le (.v 0) (.add (.v 1) (.v 2))) (.le (.add (.v 0) (.c 1)) (.add (.v 1) (.add (.v 2) (.c 1))))) (by kernel_rfl)
theorem o218 {x0 : Nat} : (1000 ≤ x0) → (x0 ≠ 27) := Ln.lin [] [x0] (.imp (.le (.c 1000) (.v 0)) (.no (.eq (.v 0) (.c 27)))) (by kernel_rfl)
theorem o219 {x0 : Nat} : (1000 ≤ x0) → (¬ (((24 ≤ x0) ∧ (x0 ≤ 26)) ∨ ((100 ≤ x0) ∧ (x0 < 150)))) := Ln.lin [] [x0] (.imp (.le (.c 1000) (.v 0)) (.no (.or (.and (.le (.c 24) (.v 0)) (.le (.v 0) (.c 26))) (.and (.le (.c 100) (.v 0)) (.le (.add (.v 0) (.c 1)) (.c 150)))))) (by kernel_rfl)
theorem o220 {x0 : Nat} {x1 : Nat} {x2 : Nat} {x3 : Nat} : (x1 ≤ 90) → (x2 < x3) → (x3 ≤ 7) → (x0 ≤ (x2 + x1)) → (x0 ≤ 999) := Ln.lin [] [x0, x1, x2, x3] (.imp (.le (.v 1) (.c 90)) (.imp (.le (.add (.v 2) (.c 1)) (.v 3)) (.imp (.le (.v 3) (.c 7)) (.imp (.le (.v 0) (.add (.v 2) (.v 1))) (.le (.v 0) (.c 999)))))) (by kernel_rfl)
theorem o221 {x0 : Nat} {x1 : Nat} {x2 : Nat} : (x1 < x2) → (x2 ≤ 7) → (x0 ≤ x1) → (x0 ≤ 1000) := Ln.lin [] [x0, x1, x2] (.imp (.le (.add (.v 1) (.c 1)) (.v 2)) (.imp (.le (.v 2) (.c 7)) (.imp (.le (.v 0) (.v 1)) (.le (.v 0) (.c 1000))))) (by kernel_rfl)
theorem o222 {x0 : Nat} : (1000 ≤ x0) → (x0 ≠ 28) := Ln.lin [] [x0] (.imp (.le (.c 1000) (.v 0)) (.no (.eq (.v 0) (.c 28)))) (by kernel_rfl)
theorem o223 {x0 : Nat} : (1000 ≤ x0) → (31 ≠ x0) := Ln.lin [] [x0] (.imp (.le (.c 1000) (.v 0)) (.no (.eq (.c 31) (.v 0)))) (by kernel_rfl)
theorem o224 {x0 : Nat} {x1 : Nat} {x2 : Nat} {x3 : Nat} {x4 : Nat} : (x1 ≤ 896) → (((x2 + x3) + x4) ≤ x1) → (x0 = x3) → (x0 ≤ 1000) := Ln.lin [] [x0, x1, x2, x3, x4] (.imp (.le (.v 1) (.c 896)) (.imp (.le (.add (.add (.v 2) (.v 3)) (.v 4)) (.v 1)) (.imp (.eq (.v 0) (.v 3)) (.le (.v 0) (.c 1000))))) (by kernel_rfl)
theorem o225 {x0 : Nat} {x1 : Nat} : (x1 ≤ 896) → (x0 ≤ x1) → (x0 ≤ 1000) := Ln.lin [] [x0, x1] (.imp (.le (.v 1) (.c 896)) (.imp (.le (.v 0) (.v 1)) (.le (.v 0) (.c 1000)))) (by kernel_rfl)
theorem o226 {x0 : Nat} : (1000 ≤ x0) → (x0 ≠ 31) := Ln.lin [] [x0] (.imp (.le (.c 1000) (.v 0)) (.no (.eq (.v 0) (.c 31)))) (by kernel_rfl)
theorem o227 {x0 : Nat} {x1 : Nat} : (1000 ≤ x1) → (x1 ≤ x0) → (x0 ≠ 28) := Ln.lin [] [x0, x1] (.imp (.le (.c 1000) (.v 1)) (.imp (.le (.v 1) (.v 0)) (.no (.eq (.v 0) (.c 28))))) (by kernel_rfl)
theorem o228 {x0 : Nat} {x1 : Nat} : (1000 ≤ x1) → (x1 ≤ x0) → (x0 ≠ 31) := Ln.lin [] [x0, x1] (.imp (.le (.c 1000) (.v 1)) (.imp (.le (.v 1) (.v 0)) (.no (.eq (.v 0) (.c 31))))) (by kernel_rfl)
theorem o229 {x0 : Nat} {x1 : Nat} {x2 : Nat} : (x1 < x2) → (x2 ≤ 7) → (x0 ≤ (x2 + x1)) → (x0 ≤ 1000) := Ln.lin [] [x0, x1, x2] (.imp (.le (.add (.v 1) (.c 1)) (.v 2)) (.imp (.le (.v 2) (.c 7)) (.imp (.le (.v 0) (.add (.v 2) (.v 1))) (.le (.v 0) (.c 1000))))) (by kernel_rfl)
theorem o230 {x0 : Nat} : (1000 ≤ x0) → (x0 ≠ 30) := Ln.lin [] [x0] (.imp (.le (.c 1000) (.v 0)) (.no (.eq (.v 0) (.c 30)))) (by kernel_rfl)
theorem o231 {x0 : Nat} {x1 : Nat} {x2 : Nat} {x3 : Nat} : (x1 < x2) → (x2 ≤ 7) → (x3 ≤ (x2 + x1)) → (x0 ≤ x3) → (x0 ≤ 1000) := Ln.lin [] [x0, x1, x2, x3] (.imp (.le (.add (.v 1) (.c 1)) (.v 2)) (.imp (.le (.v 2) (.c 7)) (.imp (.le (.v 3) (.add (.v 2) (.v 1))) (.imp (.le (.v 0) (.v 3)) (.le (.v 0) (.c 1000)))))) (by kernel_rfl)
theorem o232 {x0 : Nat} : (1000 ≤ x0) → (30 ≠ x0) := Ln.lin [] [x0] (.imp (.le (.c 1000) (.v 0)) (.no (.eq (.c 30) (.v 0)))) (by kernel_rfl)
theorem o233 {x0 : Nat} : (1000 ≤ x0) → (10 ≠ x0) := Ln.lin [] [x0] (.imp (.le (.c 1000) (.v 0)) (.no (.eq (.c 10) (.v 0)))) (by kernel_rfl)
theorem o234 {x0 : Nat} : (1000 ≤ x0) → (11 ≠ x0) := Ln.lin [] [x0] (.imp (.le (.c 1000) (.v 0)) (.no (.eq (.c 11) (.v 0)))) (by kernel_rfl)
theorem o235 {x0 : Nat} : (¬ (((20 ≤ x0) ∧ (x0 ≤ 31)) ∨ (((100 ≤ x0) ∧ (x0 < 150)) ∨ (1000 ≤ x0)))) → (x0 < 1000) := Ln.lin [] [x0] (.imp (.no (.or (.and (.le (.c 20) (.v 0)) (.le (.v 0) (.c 31))) (.or (.and (.le (.c 100) (.v 0)) (.le (.add (.v 0) (.c 1)) (.c 150))) (.le (.c 1000) (.v 0))))) (.le (.add (.v 0) (.c 1)) (.c 1000))) (by kernel_rfl)
theorem o236 {x0 : Nat} : (¬ (((20 ≤ x0) ∧ (x0 ≤ 31)) ∨ (((100 ≤ x0) ∧ (x0 < 150)) ∨ (1000 ≤ x0)))) → (x0 ≠ 30) := Ln.lin [] [x0] (.imp (.no (.or (.and (.le (.c 20) (.v 0)) (.le (.v 0) (.c 31))) (.or (.and (.le (.c 100) (.v 0)) (.le (.add (.v 0) (.c 1)) (.c 150))) (.le (.c 1000) (.v 0))))) (.no (.eq (.v 0) (.c 30)))) (by kernel_rfl)
theorem o237 {x0 : Nat} : (¬ (((20 ≤ x0) ∧ (x0 ≤ 31)) ∨ (((100 ≤ x0) ∧ (x0 < 150)) ∨ (1000 ≤ x0)))) → (x0 ≠ 31) := Ln.lin [] [x0] (.imp (.no (.or (.and (.le (.c 20) (.v 0)) (.le (.v 0) (.c 31))) (.or (.and (.le (.c 100) (.v 0)) (.le (.add (.v 0) (.c 1)) (.c 150))) (.le (.c 1000) (.v 0))))) (.no (.eq (.v 0) (.c 31)))) (by kernel_rfl)
theorem o238 {x0 : Nat} : (¬ (((20 ≤ x0) ∧ (x0 ≤ 31)) ∨ (((100 ≤ x0) ∧ (x0 < 150)) ∨ (1000 ≤ x0)))) → (x0 ≠ 28) := Ln.lin [] [x0] (.imp (.no (.or (.and (.le (.c 20) (.v 0)) (.le (.v 0) (.c 31))) (.or (.and (.le (.c 100) (.v 0)) (.le (.add (.v 0) (.c 1)) (.c 150))) (.le (.c 1000) (.v 0))))) (.no (.eq (.v 0) (.c 28)))) (by kernel_rfl)
theorem o239 {x0 : Nat} : (¬ (((20 ≤ x0) ∧ (x0 ≤ 31)) ∨ (((100 ≤ x0) ∧ (x0 < 150)) ∨ (1000 ≤ x0)))) → (x0 ≠ 27) := Ln.lin [] [x0] (.imp (.no (.or (.and (.le (.c 20) (.v 0)) (.le (.v 0) (.c 31))) (.or (.and (.le (.c 100) (.v 0)) (.le (.add (.v 0) (.c 1)) (.c 150))) (.le (.c 1000) (.v 0))))) (.no (.eq (.v 0) (.c 27)))) (by kernel_rfl)
theorem o240 {x0 : Nat} : (¬ (((20 ≤ x0) ∧ (x0 ≤ 31)) ∨ (((100 ≤ x0) ∧ (x0 < 150)) ∨ (1000 ≤ x0)))) → (¬ (((24 ≤ x0) ∧ (x0 ≤ 26)) ∨ ((100 ≤ x0) ∧ (x0 < 150)))) := Ln.lin [] [x0] (.imp (.no (.or (.and (.le (.c 20) (.v 0)) (.le (.v 0) (.c 31))) (.or (.and (.le (.c 100) (.v 0)) (.le (.add (.v 0) (.c 1)) (.c 150))) (.le (.c 1000) (.v 0))))) (.no (.or (.and (.le (.c 24) (.v 0)) (.le (.v 0) (.c 26))) (.and (.le (.c 100) (.v 0)) (.le (.add (.v 0) (.c 1)) (.c 150)))))) (by kernel_rfl)
theorem o241 {x0 : Nat} {x1 : Nat} {x2 : Nat} : (x2 ≤ 896) → (x1 ≤ x2) → ((x0 + x1) ≤ (x0 + 896)) := Ln.lin [] [x0, x1, x2] (.imp (.le (.v 2) (.c 896)) (.imp (.le (.v 1) (.v 2)) (.le (.add (.v 0) (.v 1)) (.add (.v 0) (.c 896))))) (by kernel_rfl)
theorem o242 {x0 : Nat} : (¬ (((24 ≤ x0) ∧ (x0 ≤ 31)) ∨ ((100 ≤ x0) ∧ (x0 < 150)))) → (x0 ≠ 30) := Ln.lin [] [x0] (.imp (.no (.or (.and (.le (.c 24) (.v 0)) (.le (.v 0) (.c 31))) (.and (.le (.c 100) (.v 0)) (.le (.add (.v 0) (.c 1)) (.c 150))))) (.no (.eq (.v 0) (.c 30)))) (by kernel_rfl)
theorem o243 {x0 : Nat} : (¬ (((24 ≤ x0) ∧ (x0 ≤ 31)) ∨ ((100 ≤ x0) ∧ (x0 < 150)))) → (x0 ≠ 31) := Ln.lin [] [x0] (.imp (.no (.or (.and (.le (.c 24) (.v 0)) (.le (.v 0) (.c 31))) (.and (.le (.c 100) (.v 0)) (.le (.add (.v 0) (.c 1)) (.c 150))))) (.no (.eq (.v 0) (.c 31)))) (by kernel_rfl)
theorem o244 {x0 : Nat} : (¬ (((24 ≤ x0) ∧ (x0 ≤ 31)) ∨ ((100 ≤ x0) ∧ (x0 < 150)))) → (x0 ≠ 28) := Ln.lin [] [x0] (.imp (.no (.or (.and (.le (.c 24) (.v 0)) (.le (.v 0) (.c 31))) (.and (.le (.c 100) (.v 0)) (.le (.add (.v 0) (.c 1)) (.c 150))))) (.no (.eq (.v 0) (.c 28)))) (by kernel_rfl)
theorem o245 {x0 : Nat} : (¬ (((24 ≤ x0) ∧ (x0 ≤ 31)) ∨ ((100 ≤ x0) ∧ (x0 < 150)))) → (x0 ≠ 27) := Ln.lin [] [x0] (.imp (.no (.or (.and (.le (.c 24) (.v 0)) (.le (.v 0) (.c 31))) (.and (.le (.c 100) (.v 0)) (.le (.add (.v 0) (.c 1)) (.c 150))))) (.no (.eq (.v 0) (.c 27)))) (by kernel_rfl)
theorem o246 {x0 : Nat} : (¬ (((24 ≤ x0) ∧ (x0 ≤ 31)) ∨ ((100 ≤ x0) ∧ (x0 < 150)))) → (¬ (((24 ≤ x0) ∧ (x0 ≤ 26)) ∨ ((100 ≤ x0) ∧ (x0 < 150)))) := Ln.lin [] [x0] (.imp (.no (.or (.and (.le (.c 24) (.v 0)) (.le (.v 0) (.c 31))) (.and (.le (.c 100) (.v 0)) (.le (.add (.v 0) (.c 1)) (.c 150))))) (.no (.or (.and (.le (.c 24) (.v 0)) (.le (.v 0) (.c 26))) (.and (.le (.c 100) (.v 0)) (.le (.add (.v 0) (.c 1)) (.c 150)))))) (by kernel_rfl)
theorem o247 {x0 : Nat} : (x0 ≤ 23) → (¬ (((24 ≤ x0) ∧ (x0 ≤ 31)) ∨ ((100 ≤ x0) ∧ (x0 < 150)))) := Ln.lin [] [x0] (.imp (.le (.v 0) (.c 23)) (.no (.or (.and (.le (.c 24) (.v 0)) (.le (.v 0) (.c 31))) (.and (.le (.c 100) (.v 0)) (.le (.add (.v 0) (.c 1)) (.c 150)))))) (by kernel_rfl)
theorem o248 {x0 : Nat} : (((24 ≤ x0) ∧ (x0 ≤ 26)) ∨ ((100 ≤ x0) ∧ (x0 < 150))) → (x0 ≠ 30) := Ln.lin [] [x0] (.imp (.or (.and (.le (.c 24) (.v 0)) (.le (.v 0) (.c 26))) (.and (.le (.c 100) (.v 0)) (.le (.add (.v 0) (.c 1)) (.c 150)))) (.no (.eq (.v 0) (.c 30)))) (by kernel_rfl)
theorem o249 {x0 : Nat} : (((24 ≤ x0) ∧ (x0 ≤ 26)) ∨ ((100 ≤ x0) ∧ (x0 < 150))) → (x0 ≠ 31) := Ln.lin [] [x0] (.imp (.or (.and (.le (.c 24) (.v 0)) (.le (.v 0) (.c 26))) (.and (.le (.c 100) (.v 0)) (.le (.add (.v 0) (.c 1)) (.c 150)))) (.no (.eq (.v 0) (.c 31)))) (by kernel_rfl)
theorem o250 {x0 : Nat} : (((24 ≤ x0) ∧ (x0 ≤ 26)) ∨ ((100 ≤ x0) ∧ (x0 < 150))) → (x0 ≠ 28) := Ln.lin [] [x0] (.imp (.or (.and (.le (.c 24) (.v 0)) (.le (.v 0) (.c 26))) (.and (.le (.c 100) (.v 0)) (.le (.add (.v 0) (.c 1)) (.c 150)))) (.no (.eq (.v 0) (.c 28)))) (by kernel_rfl)
theorem o251 {x0 : Nat} {x1 : Nat} {x2 : Nat} : (x0 ≤ (x1 + x2)) → ((x0 + 1) ≤ ((x1 + 1) + x2)) := Ln.lin [] [x0, x1, x2] (.imp (.le (.v 0) (.add (.v 1) (.v 2))) (.le (.add (.v 0) (.c 1)) (.add (.add (.v 1) (.c 1)) (.v 2)))) (by kernel_rfl)
theorem o252 {x0 : Nat} {x1 : Nat} {x2 : Nat} {x3 : Nat} {x4 : Nat} : (((x0 + x1) + x3) ≤ x4) → (x2 ≤ x4) → (((x0 + (x1 + x2)) + x3) ≤ (2 * x4)) := Ln.lin [] [x0, x1, x2, x3, x4] (.imp (.le (.add (.add (.v 0) (.v 1)) (.v 3)) (.v 4)) (.imp (.le (.v 2) (.v 4)) (.le (.add (.add (.v 0) (.add (.v 1) (.v 2))) (.v 3)) (.mul 2 (.v 4))))) (by kernel_rfl)
theorem o253 {x0 : Nat} : (1000 ≤ x0) → (28 ≠ x0) := Ln.lin [] [x0] (.imp (.le (.c 1000) (.v 0)) (.no (.eq (.c 28) (.v 0)))) (by kernel_rfl)
theorem o254 {x0 : Nat} {x1 : Nat} {x2 : Nat} {x3 : Nat} {x4 : Nat} : (x3 ≤ (x1 + x2)) → (x0 ≤ (x4 + 1)) → (x4 ≤ x3) → (x0 ≤ (x1 + (x2 + 1))) := Ln.lin [] [x0, x1, x2, x3, x4] (.imp (.le (.v 3) (.add (.v 1) (.v 2))) (.imp (.le (.v 0) (.add (.v 4) (.c 1))) (.imp (.le (.v 4) (.v 3)) (.le (.v 0) (.add (.v 1) (.add (.v 2) (.c 1))))))) (by kernel_rfl)
theorem o255 {x0 : Nat} {x1 : Nat} {x2 : Nat} : (x0 ≤ x2) → (x1 ≤ x2) → ((x0 + x1) ≤ (2 * x2)) := Ln.lin [] [x0, x1, x2] (.imp (.le (.v 0) (.v 2)) (.imp (.le (.v 1) (.v 2)) (.le (.add (.v 0) (.v 1)) (.mul 2 (.v 2))))) (by kernel_rfl)
theorem o256 {x0 : Nat} {x1 : Nat} : (x0 ≤ x1) → (x0 ≤ (2 * x1)) := Ln.lin [] [x0, x1] (.imp (.le (.v 0) (.v 1)) (.le (.v 0) (.mul 2 (.v 1)))) (by kernel_rfl)
theorem o257 {x0 : Nat} {x1 : Nat} {x2 : Nat} {x3 : Nat} {x4 : Nat} : (x2 ≤ x4) → (((x0 + x1) + x4) ≤ x3) → (((x0 + x1) + x2) ≤ x3) := Ln.lin [] [x0, x1, x2, x3, x4] (.imp (.le (.v 2) (.v 4)) (.imp (.le (.add (.add (.v 0) (.v 1)) (.v 4)) (.v 3)) (.le (.add (.add (.v 0) (.v 1)) (.v 2)) (.v 3)))) (by kernel_rfl)
theorem o258 {x0 : Nat} : (x0 ≤ 23) → (x0 ≠ 29) := Ln.lin [] [x0] (.imp (.le (.v 0) (.c 23)) (.no (.eq (.v 0) (.c 29)))) (by kernel_rfl)
theorem o259 {x0 : Nat} : (((24 ≤ x0) ∧ (x0 ≤ 26)) ∨ ((100 ≤ x0) ∧ (x0 < 150))) → (x0 ≠ 29) := Ln.lin [] [x0] (.imp (.or (.and (.le (.c 24) (.v 0)) (.le (.v 0) (.c 26))) (.and (.le (.c 100) (.v 0)) (.le (.add (.v 0) (.c 1)) (.c 150)))) (.no (.eq (.v 0) (.c 29)))) (by kernel_rfl)
theorem o260 {x0 : Nat} : (1000 ≤ x0) → (x0 ≠ 29) := Ln.lin [] [x0] (.imp (.le (.c 1000) (.v 0)) (.no (.eq (.v 0) (.c 29)))) (by kernel_rfl)
theorem o261 {x0 : Nat} : (x0 ≤ 23) → (x0 ≠ 31) := Ln.lin [] [x0] (.imp (.le (.v 0) (.c 23)) (.no (.eq (.v 0) (.c 31)))) (by kernel_rfl)
theorem o262 {x0 : Nat} {x1 : Nat} {x2 : Nat} {x3 : Nat} {x4 : Nat} {x5 : Nat} : ((x1 + x2) = (x4 + x5)) → (((x0 + x4) + x5) ≤ x3) → (((x0 + x1) + x2) ≤ x3) := Ln.lin [] [x0, x1, x2, x3, x4, x5] (.imp (.eq (.add (.v 1) (.v 2)) (.add (.v 4) (.v 5))) (.imp (.le (.add (.add (.v 0) (.v 4)) (.v 5)) (.v 3)) (.le (.add (.add (.v 0) (.v 1)) (.v 2)) (.v 3)))) (by kernel_rfl)
theorem o263 {x0 : Nat} {x1 : Nat} : (x1 < x0) → (0 < x0) := Ln.lin [] [x0, x1] (.imp (.le (.add (.v 1) (.c 1)) (.v 0)) (.le (.add (.c 0) (.c 1)) (.v 0))) (by kernel_rfl)
theorem o264 {x0 : Nat} {x1 : Nat} {x2 : Nat} : (x1 ≤ 896) → (((x0 + x2) + 1) ≤ x1) → (x0 ≤ 1000) := Ln.lin [] [x0, x1, x2] (.imp (.le (.v 1) (.c 896)) (.imp (.le (.add (.add (.v 0) (.v 2)) (.c 1)) (.v 1)) (.le (.v 0) (.c 1000)))) (by kernel_rfl)
theorem o265 {x0 : Nat} {x1 : Nat} {x2 : Nat} : (((x0 + x1) + 1) ≤ x2) → (((x0 + 1) + x1) ≤ x2) := Ln.lin [] [x0, x1, x2] (.imp (.le (.add (.add (.v 0) (.v 1)) (.c 1)) (.v 2)) (.le (.add (.add (.v 0) (.c 1)) (.v 1)) (.v 2))) (by kernel_rfl)
theorem o266 {x0 : Nat} : ((x0 + 2) ≤ (x0 + 3)) := Ln.lin [] [x0] (.le (.add (.v 0) (.c 2)) (.add (.v 0) (.c 3))) (by kernel_rfl)
theorem o267 {x0 : Nat} {x1 : Nat} : (0 < x1) → (x0 = x1) → (0 < x0) := Ln.lin [] [x0, x1] (.imp (.le (.add (.c 0) (.c 1)) (.v 1)) (.imp (.eq (.v 0) (.v 1)) (.le (.add (.c 0) (.c 1)) (.v 0)))) (by kernel_rfl)
theorem o268 {x0 : Nat} {x1 : Nat} {x2 : Nat} {x3 : Nat} : (x1 ≤ 896) → (x0 = x2) → (((x3 + x2) + 0) ≤ x1) → (x0 ≤ 1000) := Ln.lin [] [x0, x1, x2, x3] (.imp (.le (.v 1) (.c 896)) (.imp (.eq (.v 0) (.v 2)) (.imp (.le (.add (.add (.v 3) (.v 2)) (.c 0)) (.v 1)) (.le (.v 0) (.c 1000))))) (by kernel_rfl)
theorem o269 {x0 : Nat} {x1 : Nat} {x2 : Nat} {x3 : Nat} : (x1 ≤ 896) → (((x2 + x3) + 0) ≤ x1) → ((x0 + 1) = x3) → (x0 ≤ 1000) := Ln.lin [] [x0, x1, x2, x3] (.imp (.le (.v 1) (.c 896)) (.imp (.le (.add (.add (.v 2) (.v 3)) (.c 0)) (.v 1)) (.imp (.eq (.add (.v 0) (.c 1)) (.v 3)) (.le (.v 0) (.c 1000))))) (by kernel_rfl)
theorem o270 {x0 : Nat} {x1 : Nat} : (((0 : Int) ≤ ((x0 : Nat) : Int)) ∧ (((x0 : Nat) : Int) < ((x1 : Nat) : Int))) → (x0 < x1) := Ln.lin [] [x0, x1] (.imp (.and (.ile (.c 0) (.n (.v 0))) (.ile (.add (.n (.v 0)) (.c 1)) (.n (.v 1)))) (.le (.add (.v 0) (.c 1)) (.v 1))) (by kernel_rfl)
theorem o271 {x0 : Nat} {x1 : Nat} {x2 : Nat} : (((0 : Int) ≤ ((x1 : Nat) : Int)) ∧ (((x1 : Nat) : Int) < ((x2 : Nat) : Int))) → (x0 = x2) → (0 < x0) := Ln.lin [] [x0, x1, x2] (.imp (.and (.ile (.c 0) (.n (.v 1))) (.ile (.add (.n (.v 1)) (.c 1)) (.n (.v 2)))) (.imp (.eq (.v 0) (.v 2)) (.le (.add (.c 0) (.c 1)) (.v 0)))) (by kernel_rfl)
theorem o272 {x0 : Nat} {x1 : Nat} {x2 : Nat} {x3 : Nat} {x4 : Nat} : ((x4 + 1) = x2) → (x1 = x3) → (x0 = x4) → ((x0 + (897 * (8 - x1))) < (x2 + (897 * (8 - x3)))) := Ln.lin [] [x0, x1, x2, x3, x4, (8 - x1), (8 - x3)] (.imp (.or (.and (.le (.c 8) (.v 1)) (.eq (.v 5) (.c 0))) (.eq (.add (.v 1) (.v 5)) (.c 8))) (.imp (.or (.and (.le (.c 8) (.v 3)) (.eq (.v 6) (.c 0))) (.eq (.add (.v 3) (.v 6)) (.c 8))) (.imp (.eq (.add (.v 4) (.c 1)) (.v 2)) (.imp (.eq (.v 1) (.v 3)) (.imp (.eq (.v 0) (.v 4)) (.le (.add (.add (.v 0) (.mul 897 (.v 5))) (.c 1)) (.add (.v 2) (.mul 897 (.v 6))))))))) (by kernel_rfl) (Ln.sub_or 8 x1) (Ln.sub_or 8 x3)
theorem o273 {x0 : Nat} {x1 : Nat} {x2 : Nat} {x3 : Nat} {x4 : Nat} {x5 : Nat} {x6 : Nat} : (x4 ≤ 7) → ((x5 + 1) = x2) → (x6 = x4) → (x1 < x6) → (x1 = (x3 + 1)) → (x0 ≤ (x5 + 896)) → ((x0 + (897 * (8 - x1))) < (x2 + (897 * (8 - x3)))) := Ln.lin [] [x0, x1, x2, x3, x4, x5, x6, (8 - x1), (8 - x3)] (.imp (.or (.and (.le (.c 8) (.v 1)) (.eq (.v 7) (.c 0))) (.eq (.add (.v 1) (.v 7)) (.c 8))) (.imp (.or (.and (.le (.c 8) (.v 3)) (.eq (.v 8) (.c 0))) (.eq (.add (.v 3) (.v 8)) (.c 8))) (.imp (.le (.v 4) (.c 7)) (.imp (.eq (.add (.v 5) (.c 1)) (.v 2)) (.imp (.eq (.v 6) (.v 4)) (.imp (.le (.add (.v 1) (.c 1)) (.v 6)) (.imp (.eq (.v 1) (.add (.v 3) (.c 1))) (.imp (.le (.v 0) (.add (.v 5) (.c 896))) (.le (.add (.add (.v 0) (.mul 897 (.v 7))) (.c 1)) (.add (.v 2) (.mul 897 (.v 8)))))))))))) (by kernel_rfl) (Ln.sub_or 8 x1) (Ln.sub_or 8 x3)
theorem o274 {x0 : Nat} {x1 : Nat} {x2 : Nat} : (x0 ≤ ((x1 + 1) + x2)) → (x0 ≤ ((x1 + 1) + (x2 + 1))) := Ln.lin [] [x0, x1, x2] (.imp (.le (.v 0) (.add (.add (.v 1) (.c 1)) (.v 2))) (.le (.v 0) (.add (.add (.v 1) (.c 1)) (.add (.v 2) (.c 1))))) (by kernel_rfl)
theorem o275 {x0 : Int} {x1 : Nat} : ((0 : Int) ≤ x0) → ((Int.toNat x0) = x1) → (x0 = ((x1 : Nat) : Int)) := Ln.lin [x0] [x1, (Int.toNat x0)] (.imp (.or (.and (.ile (.v 0) (.c 0)) (.eq (.v 1) (.c 0))) (.ieq (.n (.v 1)) (.v 0))) (.imp (.ile (.c 0) (.v 0)) (.imp (.eq (.v 1) (.v 0)) (.ieq (.v 0) (.n (.v 0)))))) (by kernel_rfl) (Ln.toNat_or x0)
theorem o276 {x0 : Nat} {x1 : Int} : (x0 < (Int.toNat x1)) → ((x0 + 1) ≤ (Int.toNat x1)) := Ln.lin [x1] [x0, (Int.toNat x1)] (.imp (.or (.and (.ile (.v 0) (.c 0)) (.eq (.v 1) (.c 0))) (.ieq (.n (.v 1)) (.v 0))) (.imp (.le (.add (.v 0) (.c 1)) (.v 1)) (.le (.add (.v 0) (.c 1)) (.v 1)))) (by kernel_rfl) (Ln.toNat_or x1)
theorem o277 {x0 : Nat} : ((x0 + 3) ≤ (x0 + 4)) := Ln.lin [] [x0] (.le (.add (.v 0) (.c 3)) (.add (.v 0) (.c 4))) (by kernel_rfl)
theorem o278 {x0 : Int} {x1 : Nat} {x2 : Nat} : (x2 = x1) → (x0 < ((x2 : Nat) : Int)) → (x0 < ((x1 : Nat) : Int)) := Ln.lin [x0] [x1, x2] (.imp (.eq (.v 1) (.v 0)) (.imp (.ile (.add (.v 0) (.c 1)) (.n (.v 1))) (.ile (.add (.v 0) (.c 1)) (.n (.v 0))))) (by kernel_rfl)
theorem o279 {x0 : Nat} : (x0 ≤ x0) := Ln.lin [] [x0] (.le (.v 0) (.v 0)) (by kernel_rfl)
theorem o280 {x0 : Nat} : (((24 ≤ x0) ∧ (x0 ≤ 26)) ∨ ((100 ≤ x0) ∧ (x0 < 150))) → (¬ ((20 ≤ x0) ∧ (x0 ≤ 23))) := Ln.lin [] [x0] (.imp (.or (.and (.le (.c 24) (.v 0)) (.le (.v 0) (.c 26))) (.and (.le (.c 100) (.v 0)) (.le (.add (.v 0) (.c 1)) (.c 150)))) (.no (.and (.le (.c 20) (.v 0)) (.le (.v 0) (.c 23))))) (by kernel_rfl)
theorem o281 {x0 : Nat} {x1 : Nat} : (x1 < 7) → (x1 = x0) → (x0 < 8) := Ln.lin [] [x0, x1] (.imp (.le (.add (.v 1) (.c 1)) (.c 7)) (.imp (.eq (.v 1) (.v 0)) (.le (.add (.v 0) (.c 1)) (.c 8)))) (by kernel_rfl)
theorem o282 {x0 : Nat} : (¬ ((20 ≤ x0) ∧ (x0 ≤ 26))) → (¬ ((100 ≤ x0) ∧ (x0 < 150))) → (¬ (((24 ≤ x0) ∧ (x0 ≤ 26)) ∨ ((100 ≤ x0) ∧ (x0 < 150)))) := Ln.lin [] [x0] (.imp (.no (.and (.le (.c 20) (.v 0)) (.le (.v 0) (.c 26)))) (.imp (.no (.and (.le (.c 100) (.v 0)) (.le (.add (.v 0) (.c 1)) (.c 150)))) (.no (.or (.and (.le (.c 24) (.v 0)) (.le (.v 0) (.c 26))) (.and (.le (.c 100) (.v 0)) (.le (.add (.v 0) (.c 1)) (.c 150))))))) (by kernel_rfl)
theorem o283 {x0 : Nat} : (¬ ((20 ≤ x0) ∧ (x0 ≤ 26))) → (¬ ((20 ≤ x0) ∧ (x0 ≤ 23))) := Ln.lin [] [x0] (.imp (.no (.and (.le (.c 20) (.v 0)) (.le (.v 0) (.c 26)))) (.no (.and (.le (.c 20) (.v 0)) (.le (.v 0) (.c 23))))) (by kernel_rfl)
theorem o284 {x0 : Nat} : (1000 ≤ x0) → (¬ ((20 ≤ x0) ∧ (x0 ≤ 23))) := Ln.lin [] [x0] (.imp (.le (.c 1000) (.v 0)) (.no (.and (.le (.c 20) (.v 0)) (.le (.v 0) (.c 23))))) (by kernel_rfl)
theorem o285 {x0 : Nat} : (x0 ≤ 23) → (¬ (((24 ≤ x0) ∧ (x0 ≤ 26)) ∨ ((100 ≤ x0) ∧ (x0 < 150)))) := Ln.lin [] [x0] (.imp (.le (.v 0) (.c 23)) (.no (.or (.and (.le (.c 24) (.v 0)) (.le (.v 0) (.c 26))) (.and (.le (.c 100) (.v 0)) (.le (.add (.v 0) (.c 1)) (.c 150)))))) (by kernel_rfl)
theorem o286 {x0 : Nat} {x1 : Nat} {x2 : Nat} : (x1 = 0) → ((x0 + x2) = x1) → (x0 ≤ 8) := Ln.lin [] [x0, x1, x2] (.imp (.eq (.v 1) (.c 0)) (.imp (.eq (.add (.v 0) (.v 2)) (.v 1)) (.le (.v 0) (.c 8)))) (by kernel_rfl)
theorem o287 {x0 : Nat} {x1 : Nat} {x2 : Nat} : (x1 < 7) → (x1 = x2) → (x0 < x2) → (x0 ≤ 8) := Ln.lin [] [x0, x1, x2] (.imp (.le (.add (.v 1) (.c 1)) (.c 7)) (.imp (.eq (.v 1) (.v 2)) (.imp (.le (.add (.v 0) (.c 1)) (.v 2)) (.le (.v 0) (.c 8))))) (by kernel_rfl)
theorem o288 {x0 : Nat} {x1 : Nat} {x2 : Nat} {x3 : Nat} : (x1 < 7) → (x1 = x2) → (x0 ≤ (x2 + x3)) → (x3 ≤ 8) → (x0 ≤ 1000) := Ln.lin [] [x0, x1, x2, x3] (.imp (.le (.add (.v 1) (.c 1)) (.c 7)) (.imp (.eq (.v 1) (.v 2)) (.imp (.le (.v 0) (.add (.v 2) (.v 3))) (.imp (.le (.v 3) (.c 8)) (.le (.v 0) (.c 1000)))))) (by kernel_rfl)
theorem o289 {x0 : Nat} : (1000 ≤ x0) → (14 ≠ x0) := Ln.lin [] [x0] (.imp (.le (.c 1000) (.v 0)) (.no (.eq (.c 14) (.v 0)))) (by kernel_rfl)
theorem o290 {x0 : Nat} : (1000 ≤ x0) → (15 ≠ x0) := Ln.lin [] [x0] (.imp (.le (.c 1000) (.v 0)) (.no (.eq (.c 15) (.v 0)))) (by kernel_rfl)
theorem o291 {x0 : Nat} {x1 : Nat} : (1000 ≤ x1) → (((24 ≤ x0) ∧ (x0 ≤ 26)) ∨ ((100 ≤ x0) ∧ (x0 < 150))) → (x0 ≠ x1) := Ln.lin [] [x0, x1] (.imp (.le (.c 1000) (.v 1)) (.imp (.or (.and (.le (.c 24) (.v 0)) (.le (.v 0) (.c 26))) (.and (.le (.c 100) (.v 0)) (.le (.add (.v 0) (.c 1)) (.c 150)))) (.no (.eq (.v 0) (.v 1))))) (by kernel_rfl)
theorem o292 {x0 : Nat} : (x0 ≤ 23) → (x0 ≠ 30) := Ln.lin [] [x0] (.imp (.le (.v 0) (.c 23)) (.no (.eq (.v 0) (.c 30)))) (by kernel_rfl)
theorem o293 {x0 : Nat} {x1 : Nat} : (1000 ≤ x1) → (x0 ≤ 23) → (x0 ≠ x1) := Ln.lin [] [x0, x1] (.imp (.le (.c 1000) (.v 1)) (.imp (.le (.v 0) (.c 23)) (.no (.eq (.v 0) (.v 1))))) (by kernel_rfl)
theorem o294 {x0 : Nat} {x1 : Nat} : (1000 ≤ x1) → (x1 < x0) → (x0 ≠ 30) := Ln.lin [] [x0, x1] (.imp (.le (.c 1000) (.v 1)) (.imp (.le (.add (.v 1) (.c 1)) (.v 0)) (.no (.eq (.v 0) (.c 30))))) (by kernel_rfl)
theorem o295 {x0 : Nat} {x1 : Nat} {x2 : Nat} : (1 ≤ x2) → (x0 = (x1 + (2 * x2))) → ((x1 + 2) ≤ x0) := Ln.lin [] [x0, x1, x2] (.imp (.le (.c 1) (.v 2)) (.imp (.eq (.v 0) (.add (.v 1) (.mul 2 (.v 2)))) (.le (.add (.v 1) (.c 2)) (.v 0)))) (by kernel_rfl)
theorem o296 {x0 : Nat} {x1 : Nat} : (x0 < x1) → (x0 ≠ x1) := Ln.lin [] [x0, x1] (.imp (.le (.add (.v 0) (.c 1)) (.v 1)) (.no (.eq (.v 0) (.v 1)))) (by kernel_rfl)
theorem o297 {x0 : Int} {x1 : Nat} : (((0 : Int) ≤ x0) ∧ (x0 < ((x1 : Nat) : Int))) → (((0 : Int) ≤ x0) ∧ (x0 < (((x1 : Nat) : Int) + (1 : Int)))) := Ln.lin [x0] [x1] (.imp (.and (.ile (.c 0) (.v 0)) (.ile (.add (.v 0) (.c 1)) (.n (.v 0)))) (.and (.ile (.c 0) (.v 0)) (.ile (.add (.v 0) (.c 1)) (.add (.n (.v 0)) (.c 1))))) (by kernel_rfl)
theorem o298 {x0 : Nat} : (1000 ≤ x0) → (10 ≠ (x0 + 1)) := Ln.lin [] [x0] (.imp (.le (.c 1000) (.v 0)) (.no (.eq (.c 10) (.add (.v 0) (.c 1))))) (by kernel_rfl)
theorem o299 {x0 : Nat} : (1000 ≤ x0) → (11 ≠ (x0 + 1)) := Ln.lin [] [x0] (.imp (.le (.c 1000) (.v 0)) (.no (.eq (.c 11) (.add (.v 0) (.c 1))))) (by kernel_rfl)
theorem o300 {x0 : Int} {x1 : Nat} {x2 : Nat} {x3 : Nat} : (x2 = x3) → (x1 = (x3 + 1)) → (((0 : Int) ≤ x0) ∧ (x0 < ((x2 : Nat) : Int))) → (x0 < ((x1 : Nat) : Int)) := Ln.lin [x0] [x1, x2, x3] (.imp (.eq (.v 1) (.v 2)) (.imp (.eq (.v 0) (.add (.v 2) (.c 1))) (.imp (.and (.ile (.c 0) (.v 0)) (.ile (.add (.v 0) (.c 1)) (.n (.v 1)))) (.ile (.add (.v 0) (.c 1)) (.n (.v 0)))))) (by kernel_rfl)
theorem o301 {x0 : Nat} {x1 : Nat} : (x1 ≤ 2) → (x0 = x1) → (x0 ≤ 60) := Ln.lin [] [x0, x1] (.imp (.le (.v 1) (.c 2)) (.imp (.eq (.v 0) (.v 1)) (.le (.v 0) (.c 60)))) (by kernel_rfl)
theorem o302 {x0 : Nat} {x1 : Nat} : (x0 ≤ x1) → (x0 ≠ (x1 + 2)) := Ln.lin [] [x0, x1] (.imp (.le (.v 0) (.v 1)) (.no (.eq (.v 0) (.add (.v 1) (.c 2))))) (by kernel_rfl)
theorem o303 {x0 : Nat} {x1 : Nat} : (x0 ≤ x1) → (x0 ≠ (x1 + 1)) := Ln.lin [] [x0, x1] (.imp (.le (.v 0) (.v 1)) (.no (.eq (.v 0) (.add (.v 1) (.c 1))))) (by kernel_rfl)
theorem o304 {x0 : Nat} {x1 : Nat} {x2 : Nat} {x3 : Nat} {x4 : Nat} {x5 : Nat} : (x1 ≤ 2) → (x2 ≤ 896) → (x3 = x1) → (x4 ≤ x3) → (x5 < x4) → (x0 ≤ (x2 + x5)) → (x0 ≤ 1000) := Ln.lin [] [x0, x1, x2, x3, x4, x5] (.imp (.le (.v 1) (.c 2)) (.imp (.le (.v 2) (.c 896)) (.imp (.eq (.v 3) (.v 1)) (.imp (.le (.v 4) (.v 3)) (.imp (.le (.add (.v 5) (.c 1)) (.v 4)) (.imp (.le (.v 0) (.add (.v 2) (.v 5))) (.le (.v 0) (.c 1000)))))))) (by kernel_rfl)
theorem o305 {x0 : Nat} {x1 : Nat} : (x1 ≤ x0) → ((x0 + 2) ≠ x1) := Ln.lin [] [x0, x1] (.imp (.le (.v 1) (.v 0)) (.no (.eq (.add (.v 0) (.c 2)) (.v 1)))) (by kernel_rfl)
theorem o306 {x0 : Nat} {x1 : Nat} : (x0 = x1) → (((0 : Int) ≤ ((x0 : Nat) : Int)) ∧ (((x0 : Nat) : Int) < (((x1 : Nat) : Int) + (1 : Int)))) := Ln.lin [] [x0, x1] (.imp (.eq (.v 0) (.v 1)) (.and (.ile (.c 0) (.n (.v 0))) (.ile (.add (.n (.v 0)) (.c 1)) (.add (.n (.v 1)) (.c 1))))) (by kernel_rfl)
theorem o307 {x0 : Nat} {x1 : Nat} {x2 : Nat} : (x0 ≤ (x1 + x2)) → (x0 ≤ (x1 + (x2 + 1))) := Ln.lin [] [x0, x1, x2] (.imp (.le (.v 0) (.add (.v 1) (.v 2))) (.le (.v 0) (.add (.v 1) (.add (.v 2) (.c 1))))) (by kernel_rfl)
theorem o308 {x0 : Nat} {x1 : Nat} {x2 : Nat} {x3 : Nat} : ((x3 + 2) ≤ x2) → (((x0 + x1) + 0) ≤ x3) → (((x0 + x1) + 1) ≤ x2) := Ln.lin [] [x0, x1, x2, x3] (.imp (.le (.add (.v 3) (.c 2)) (.v 2)) (.imp (.le (.add (.add (.v 0) (.v 1)) (.c 0)) (.v 3)) (.le (.add (.add (.v 0) (.v 1)) (.c 1)) (.v 2)))) (by kernel_rfl)
theorem o309 {x0 : Nat} {x1 : Nat} {x2 : Nat} {x3 : Nat} : (x3 ≤ (x1 + x2)) → (x0 ≤ (x3 + 1)) → (x0 ≤ ((x1 + 1) + x2)) := Ln.lin [] [x0, x1, x2, x3] (.imp (.le (.v 3) (.add (.v 1) (.v 2))) (.imp (.le (.v 0) (.add (.v 3) (.c 1))) (.le (.v 0) (.add (.add (.v 1) (.c 1)) (.v 2))))) (by kernel_rfl)
theorem o310 {x0 : Int} {x1 : Nat} : (((0 : Int) ≤ x0) ∧ (x0 < (((x1 : Nat) : Int) + (1 : Int)))) → (((0 : Int) ≤ x0) ∧ (x0 < (((x1 + 1) : Nat) : Int))) := Ln.lin [x0] [x1] (.imp (.and (.ile (.c 0) (.v 0)) (.ile (.add (.v 0) (.c 1)) (.add (.n (.v 0)) (.c 1)))) (.and (.ile (.c 0) (.v 0)) (.ile (.add (.v 0) (.c 1)) (.n (.add (.v 0) (.c 1)))))) (by kernel_rfl)
theorem o311 {x0 : Nat} {x1 : Nat} {x2 : Nat} {x3 : Nat} {x4 : Nat} {x5 : Nat} : (x2 ≤ 2) → ((x3 + 2) ≤ x1) → (x4 = x2) → (x5 ≤ x4) → (x0 ≤ (x3 + x5)) → (x0 ≤ x1) := Ln.lin [] [x0, x1, x2, x3, x4, x5] (.imp (.le (.v 2) (.c 2)) (.imp (.le (.add (.v 3) (.c 2)) (.v 1)) (.imp (.eq (.v 4) (.v 2)) (.imp (.le (.v 5) (.v 4)) (.imp (.le (.v 0) (.add (.v 3) (.v 5))) (.le (.v 0) (.v 1))))))) (by kernel_rfl)
theorem o312 {x0 : Nat} {x1 : Nat} : (x0 = x1) → (x0 < (x1 + 1)) := Ln.lin [] [x0, x1] (.imp (.eq (.v 0) (.v 1)) (.le (.add (.v 0) (.c 1)) (.add (.v 1) (.c 1)))) (by kernel_rfl)
theorem o313 {x0 : Nat} : (¬ (((20 ≤ x0) ∧ (x0 ≤ 31)) ∨ (((100 ≤ x0) ∧ (x0 < 150)) ∨ (1000 ≤ x0)))) → (¬ ((20 ≤ x0) ∧ (x0 ≤ 26))) := Ln.lin [] [x0] (.imp (.no (.or (.and (.le (.c 20) (.v 0)) (.le (.v 0) (.c 31))) (.or (.and (.le (.c 100) (.v 0)) (.le (.add (.v 0) (.c 1)) (.c 150))) (.le (.c 1000) (.v 0))))) (.no (.and (.le (.c 20) (.v 0)) (.le (.v 0) (.c 26))))) (by kernel_rfl)
theorem o314 {x0 : Nat} : (¬ (((20 ≤ x0) ∧ (x0 ≤ 31)) ∨ (((100 ≤ x0) ∧ (x0 < 150)) ∨ (1000 ≤ x0)))) → (¬ ((100 ≤ x0) ∧ (x0 < 150))) := Ln.lin [] [x0] (.imp (.no (.or (.and (.le (.c 20) (.v 0)) (.le (.v 0) (.c 31))) (.or (.and (.le (.c 100) (.v 0)) (.le (.add (.v 0) (.c 1)) (.c 150))) (.le (.c 1000) (.v 0))))) (.no (.and (.le (.c 100) (.v 0)) (.le (.add (.v 0) (.c 1)) (.c 150))))) (by kernel_rfl)
theorem o315 {x0 : Nat} {x1 : Nat} : (1000 ≤ x0) → (1000 ≤ (max x0 (x1 + 1))) := Ln.lin [] [x0, x1, (max x0 (x1 + 1))] (.imp (.or (.and (.le (.v 0) (.add (.v 1) (.c 1))) (.eq (.v 2) (.add (.v 1) (.c 1)))) (.and (.le (.add (.v 1) (.c 1)) (.v 0)) (.eq (.v 2) (.v 0)))) (.imp (.le (.c 1000) (.v 0)) (.le (.c 1000) (.v 2)))) (by kernel_rfl) (Ln.max_or x0 (x1 + 1))
theorem o316 {x0 : Nat} {x1 : Nat} : (x0 < (max x1 (x0 + 1))) := Ln.lin [] [x0, x1, (max x1 (x0 + 1))] (.imp (.or (.and (.le (.v 1) (.add (.v 0) (.c 1))) (.eq (.v 2) (.add (.v 0) (.c 1)))) (.and (.le (.add (.v 0) (.c 1)) (.v 1)) (.eq (.v 2) (.v 1)))) (.le (.add (.v 0) (.c 1)) (.v 2))) (by kernel_rfl) (Ln.max_or x1 (x0 + 1))
theorem o317 {x0 : Nat} {x1 : Nat} : (x1 ≤ 7) → (x0 ≤ x1) → (x0 ≤ 1000) := Ln.lin [] [x0, x1] (.imp (.le (.v 1) (.c 7)) (.imp (.le (.v 0) (.v 1)) (.le (.v 0) (.c 1000)))) (by kernel_rfl)
theorem o318 {x0 : Nat} : (1000 ≤ x0) → (1000 ≤ (x0 + 1)) := Ln.lin [] [x0] (.imp (.le (.c 1000) (.v 0)) (.le (.c 1000) (.add (.v 0) (.c 1)))) (by kernel_rfl)
theorem o319 {x0 : Nat} {x1 : Nat} {x2 : Nat} : (x1 ≤ 7) → (x2 ≤ x1) → (x0 = x2) → (x0 ≤ 7) := Ln.lin [] [x0, x1, x2] (.imp (.le (.v 1) (.c 7)) (.imp (.le (.v 2) (.v 1)) (.imp (.eq (.v 0) (.v 2)) (.le (.v 0) (.c 7))))) (by kernel_rfl)
theorem o320 {x0 : Nat} {x1 : Nat} {x2 : Nat} {x3 : Nat} : (x1 ≤ 7) → (x2 ≤ x1) → (x3 = x2) → (x0 ≤ x3) → (x0 ≤ 7) := Ln.lin [] [x0, x1, x2, x3] (.imp (.le (.v 1) (.c 7)) (.imp (.le (.v 2) (.v 1)) (.imp (.eq (.v 3) (.v 2)) (.imp (.le (.v 0) (.v 3)) (.le (.v 0) (.c 7)))))) (by kernel_rfl)
theorem o321 {x0 : Nat} : (¬ ((12 ≤ x0) ∧ (x0 ≤ 13))) → (¬ ((20 ≤ x0) ∧ (x0 ≤ 23))) → (¬ ((x0 = 13) ∨ ((20 ≤ x0) ∧ (x0 ≤ 23)))) := Ln.lin [] [x0] (.imp (.no (.and (.le (.c 12) (.v 0)) (.le (.v 0) (.c 13)))) (.imp (.no (.and (.le (.c 20) (.v 0)) (.le (.v 0) (.c 23)))) (.no (.or (.eq (.v 0) (.c 13)) (.and (.le (.c 20) (.v 0)) (.le (.v 0) (.c 23))))))) (by kernel_rfl)
theorem o322 {x0 : Nat} : (¬ ((12 ≤ x0) ∧ (x0 ≤ 13))) → (x0 ≠ 12) := Ln.lin [] [x0] (.imp (.no (.and (.le (.c 12) (.v 0)) (.le (.v 0) (.c 13)))) (.no (.eq (.v 0) (.c 12)))) (by kernel_rfl)
theorem o323 {x0 : Nat} : (¬ ((12 ≤ x0) ∧ (x0 ≤ 13))) → (x0 ≠ 13) := Ln.lin [] [x0] (.imp (.no (.and (.le (.c 12) (.v 0)) (.le (.v 0) (.c 13)))) (.no (.eq (.v 0) (.c 13)))) (by kernel_rfl)
theorem o324 {x0 : Nat} : (1000 ≤ x0) → (x0 ≠ 12) := Ln.lin [] [x0] (.imp (.le (.c 1000) (.v 0)) (.no (.eq (.v 0) (.c 12)))) (by kernel_rfl)
theorem o325 {x0 : Nat} : (1000 ≤ x0) → (x0 ≠ 13) := Ln.lin [] [x0] (.imp (.le (.c 1000) (.v 0)) (.no (.eq (.v 0) (.c 13)))) (by kernel_rfl)
theorem o326 {x0 : Nat} : (1000 ≤ x0) → (¬ ((x0 = 13) ∨ ((20 ≤ x0) ∧ (x0 ≤ 23)))) := Ln.lin [] [x0] (.imp (.le (.c 1000) (.v 0)) (.no (.or (.eq (.v 0) (.c 13)) (.and (.le (.c 20) (.v 0)) (.le (.v 0) (.c 23)))))) (by kernel_rfl)
theorem o327 {x0 : Nat} : (14 ≤ x0) → (x0 ≠ 11) := Ln.lin [] [x0] (.imp (.le (.c 14) (.v 0)) (.no (.eq (.v 0) (.c 11)))) (by kernel_rfl)
theorem o328 {x0 : Nat} : (x0 < 150) → (x0 < 1000) := Ln.lin [] [x0] (.imp (.le (.add (.v 0) (.c 1)) (.c 150)) (.le (.add (.v 0) (.c 1)) (.c 1000))) (by kernel_rfl)
theorem o329 {x0 : Nat} : (14 ≤ x0) → (¬ ((12 ≤ x0) ∧ (x0 ≤ 13))) := Ln.lin [] [x0] (.imp (.le (.c 14) (.v 0)) (.no (.and (.le (.c 12) (.v 0)) (.le (.v 0) (.c 13))))) (by kernel_rfl)
theorem o330 {x0 : Nat} : (14 ≤ x0) → (12 ≤ x0) := Ln.lin [] [x0] (.imp (.le (.c 14) (.v 0)) (.le (.c 12) (.v 0))) (by kernel_rfl)
theorem o331 {x0 : Nat} : ((100 + x0) ≠ 14) := Ln.lin [] [x0] (.no (.eq (.add (.c 100) (.v 0)) (.c 14))) (by kernel_rfl)
theorem o332 {x0 : Nat} : (14 ≤ (100 + x0)) := Ln.lin [] [x0] (.le (.c 14) (.add (.c 100) (.v 0))) (by kernel_rfl)
theorem o333 {x0 : Nat} : (x0 < 50) → ((100 + x0) < 150) := Ln.lin [] [x0] (.imp (.le (.add (.v 0) (.c 1)) (.c 50)) (.le (.add (.add (.c 100) (.v 0)) (.c 1)) (.c 150))) (by kernel_rfl)
theorem o334 {x0 : Nat} : (¬ ((20 ≤ (100 + x0)) ∧ ((100 + x0) ≤ 23))) := Ln.lin [] [x0] (.no (.and (.le (.c 20) (.add (.c 100) (.v 0))) (.le (.add (.c 100) (.v 0)) (.c 23)))) (by kernel_rfl)
theorem o335 {x0 : Nat} : (¬ ((14 ≤ x0) ∧ (x0 ≤ 15))) → (¬ ((24 ≤ x0) ∧ (x0 ≤ 26))) → (¬ ((x0 = 15) ∨ ((x0 = 24) ∨ ((x0 = 25) ∨ (x0 = 26))))) := Ln.lin [] [x0] (.imp (.no (.and (.le (.c 14) (.v 0)) (.le (.v 0) (.c 15)))) (.imp (.no (.and (.le (.c 24) (.v 0)) (.le (.v 0) (.c 26)))) (.no (.or (.eq (.v 0) (.c 15)) (.or (.eq (.v 0) (.c 24)) (.or (.eq (.v 0) (.c 25)) (.eq (.v 0) (.c 26)))))))) (by kernel_rfl)
theorem o336 {x0 : Nat} : (¬ ((14 ≤ x0) ∧ (x0 ≤ 15))) → (x0 ≠ 14) := Ln.lin [] [x0] (.imp (.no (.and (.le (.c 14) (.v 0)) (.le (.v 0) (.c 15)))) (.no (.eq (.v 0) (.c 14)))) (by kernel_rfl)
theorem o337 {x0 : Nat} : (¬ ((14 ≤ x0) ∧ (x0 ≤ 15))) → (x0 ≠ 15) := Ln.lin [] [x0] (.imp (.no (.and (.le (.c 14) (.v 0)) (.le (.v 0) (.c 15)))) (.no (.eq (.v 0) (.c 15)))) (by kernel_rfl)
theorem o338 {x0 : Nat} : (1000 ≤ x0) → (x0 ≠ 14) := Ln.lin [] [x0] (.imp (.le (.c 1000) (.v 0)) (.no (.eq (.v 0) (.c 14)))) (by kernel_rfl)
theorem o339 {x0 : Nat} : (1000 ≤ x0) → (x0 ≠ 15) := Ln.lin [] [x0] (.imp (.le (.c 1000) (.v 0)) (.no (.eq (.v 0) (.c 15)))) (by kernel_rfl)
theorem o340 {x0 : Nat} : (1000 ≤ x0) → (x0 ≠ 11) := Ln.lin [] [x0] (.imp (.le (.c 1000) (.v 0)) (.no (.eq (.v 0) (.c 11)))) (by kernel_rfl)
theorem o341 {x0 : Nat} : (1000 ≤ x0) → (¬ ((x0 = 15) ∨ ((x0 = 24) ∨ ((x0 = 25) ∨ (x0 = 26))))) := Ln.lin [] [x0] (.imp (.le (.c 1000) (.v 0)) (.no (.or (.eq (.v 0) (.c 15)) (.or (.eq (.v 0) (.c 24)) (.or (.eq (.v 0) (.c 25)) (.eq (.v 0) (.c 26))))))) (by kernel_rfl)
theorem o342 {x0 : Nat} : (20 ≤ x0) → (x0 ≠ 11) := Ln.lin [] [x0] (.imp (.le (.c 20) (.v 0)) (.no (.eq (.v 0) (.c 11)))) (by kernel_rfl)
theorem o343 {x0 : Nat} : (20 ≤ x0) → (¬ ((14 ≤ x0) ∧ (x0 ≤ 15))) := Ln.lin [] [x0] (.imp (.le (.c 20) (.v 0)) (.no (.and (.le (.c 14) (.v 0)) (.le (.v 0) (.c 15))))) (by kernel_rfl)
theorem o344 {x0 : Nat} : (x0 ≤ 23) → (¬ ((24 ≤ x0) ∧ (x0 ≤ 26))) := Ln.lin [] [x0] (.imp (.le (.v 0) (.c 23)) (.no (.and (.le (.c 24) (.v 0)) (.le (.v 0) (.c 26))))) (by kernel_rfl)
theorem o345 {x0 : Nat} : (x0 < 100) → (x0 < 1000) := Ln.lin [] [x0] (.imp (.le (.add (.v 0) (.c 1)) (.c 100)) (.le (.add (.v 0) (.c 1)) (.c 1000))) (by kernel_rfl)
theorem o346 {x0 : Nat} : (27 ≤ x0) → (¬ ((14 ≤ x0) ∧ (x0 ≤ 15))) := Ln.lin [] [x0] (.imp (.le (.c 27) (.v 0)) (.no (.and (.le (.c 14) (.v 0)) (.le (.v 0) (.c 15))))) (by kernel_rfl)
theorem o347 {x0 : Nat} : (27 ≤ x0) → (¬ ((24 ≤ x0) ∧ (x0 ≤ 26))) := Ln.lin [] [x0] (.imp (.le (.c 27) (.v 0)) (.no (.and (.le (.c 24) (.v 0)) (.le (.v 0) (.c 26))))) (by kernel_rfl)
theorem o348 {x0 : Nat} : (27 ≤ x0) → (14 ≤ x0) := Ln.lin [] [x0] (.imp (.le (.c 27) (.v 0)) (.le (.c 14) (.v 0))) (by kernel_rfl)
theorem o349 {x0 : Nat} : (x0 < 100) → (x0 < 150) := Ln.lin [] [x0] (.imp (.le (.add (.v 0) (.c 1)) (.c 100)) (.le (.add (.v 0) (.c 1)) (.c 150))) (by kernel_rfl)
theorem o350 {x0 : Nat} : (27 ≤ x0) → (¬ ((20 ≤ x0) ∧ (x0 ≤ 23))) := Ln.lin [] [x0] (.imp (.le (.c 27) (.v 0)) (.no (.and (.le (.c 20) (.v 0)) (.le (.v 0) (.c 23))))) (by kernel_rfl)
theorem o351 {x0 : Nat} : (29 ≤ x0) → (x0 ≠ 11) := Ln.lin [] [x0] (.imp (.le (.c 29) (.v 0)) (.no (.eq (.v 0) (.c 11)))) (by kernel_rfl)
theorem o352 {x0 : Nat} : (29 ≤ x0) → (x0 ≠ 28) := Ln.lin [] [x0] (.imp (.le (.c 29) (.v 0)) (.no (.eq (.v 0) (.c 28)))) (by kernel_rfl)
theorem o353 {x0 : Nat} : (29 ≤ x0) → (x0 ≠ 27) := Ln.lin [] [x0] (.imp (.le (.c 29) (.v 0)) (.no (.eq (.v 0) (.c 27)))) (by kernel_rfl)
theorem o354 {x0 : Nat} : (29 ≤ x0) → (27 ≤ x0) := Ln.lin [] [x0] (.imp (.le (.c 29) (.v 0)) (.le (.c 27) (.v 0))) (by kernel_rfl)
theorem o355 {x0 : Nat} : (¬ ((27 ≤ x0) ∧ (x0 ≤ 31))) → (x0 ≠ 31) := Ln.lin [] [x0] (.imp (.no (.and (.le (.c 27) (.v 0)) (.le (.v 0) (.c 31)))) (.no (.eq (.v 0) (.c 31)))) (by kernel_rfl)
theorem o356 {x0 : Nat} : (¬ ((27 ≤ x0) ∧ (x0 ≤ 31))) → (x0 ≠ 30) := Ln.lin [] [x0] (.imp (.no (.and (.le (.c 27) (.v 0)) (.le (.v 0) (.c 31)))) (.no (.eq (.v 0) (.c 30)))) (by kernel_rfl)
theorem o357 {x0 : Nat} : (¬ ((27 ≤ x0) ∧ (x0 ≤ 31))) → (x0 ≠ 29) := Ln.lin [] [x0] (.imp (.no (.and (.le (.c 27) (.v 0)) (.le (.v 0) (.c 31)))) (.no (.eq (.v 0) (.c 29)))) (by kernel_rfl)
theorem o358 {x0 : Nat} : (¬ ((27 ≤ x0) ∧ (x0 ≤ 31))) → (x0 ≠ 28) := Ln.lin [] [x0] (.imp (.no (.and (.le (.c 27) (.v 0)) (.le (.v 0) (.c 31)))) (.no (.eq (.v 0) (.c 28)))) (by kernel_rfl)
theorem o359 {x0 : Nat} : (¬ ((27 ≤ x0) ∧ (x0 ≤ 31))) → (x0 ≠ 27) := Ln.lin [] [x0] (.imp (.no (.and (.le (.c 27) (.v 0)) (.le (.v 0) (.c 31)))) (.no (.eq (.v 0) (.c 27)))) (by kernel_rfl)
theorem o360 {x0 : Nat} : (x0 ≤ 23) → (¬ ((27 ≤ x0) ∧ (x0 ≤ 31))) := Ln.lin [] [x0] (.imp (.le (.v 0) (.c 23)) (.no (.and (.le (.c 27) (.v 0)) (.le (.v 0) (.c 31))))) (by kernel_rfl)
theorem o361 {x0 : Nat} : (((24 ≤ x0) ∧ (x0 ≤ 26)) ∨ ((100 ≤ x0) ∧ (x0 < 150))) → (x0 ≠ 11) := Ln.lin [] [x0] (.imp (.or (.and (.le (.c 24) (.v 0)) (.le (.v 0) (.c 26))) (.and (.le (.c 100) (.v 0)) (.le (.add (.v 0) (.c 1)) (.c 150)))) (.no (.eq (.v 0) (.c 11)))) (by kernel_rfl)
theorem o362 {x0 : Nat} : (((24 ≤ x0) ∧ (x0 ≤ 26)) ∨ ((100 ≤ x0) ∧ (x0 < 150))) → (¬ ((27 ≤ x0) ∧ (x0 ≤ 31))) := Ln.lin [] [x0] (.imp (.or (.and (.le (.c 24) (.v 0)) (.le (.v 0) (.c 26))) (.and (.le (.c 100) (.v 0)) (.le (.add (.v 0) (.c 1)) (.c 150)))) (.no (.and (.le (.c 27) (.v 0)) (.le (.v 0) (.c 31))))) (by kernel_rfl)
theorem o363 {x0 : Prop} {x1 : Int} (h0 : (x1 < (0 : Int))) (h1 : ((0 : Int) ≤ x1)) : x0 := by omega
theorem o364 {x0 : Nat} : (¬ ((11 ≤ x0) ∧ (x0 < 150))) → (x0 ≠ 11) := Ln.lin [] [x0] (.imp (.no (.and (.le (.c 11) (.v 0)) (.le (.add (.v 0) (.c 1)) (.c 150)))) (.no (.eq (.v 0) (.c 11)))) (by kernel_rfl)
theorem o365 {x0 : Nat} : (¬ ((11 ≤ x0) ∧ (x0 < 150))) → (¬ ((27 ≤ x0) ∧ (x0 ≤ 31))) := Ln.lin [] [x0] (.imp (.no (.and (.le (.c 11) (.v 0)) (.le (.add (.v 0) (.c 1)) (.c 150)))) (.no (.and (.le (.c 27) (.v 0)) (.le (.v 0) (.c 31))))) (by kernel_rfl)
theorem o366 {x0 : Nat} : (¬ ((11 ≤ x0) ∧ (x0 < 150))) → (¬ ((14 ≤ x0) ∧ (x0 ≤ 15))) := Ln.lin [] [x0] (.imp (.no (.and (.le (.c 11) (.v 0)) (.le (.add (.v 0) (.c 1)) (.c 150)))) (.no (.and (.le (.c 14) (.v 0)) (.le (.v 0) (.c 15))))) (by kernel_rfl)
theorem o367 {x0 : Nat} : (¬ ((11 ≤ x0) ∧ (x0 < 150))) → (¬ ((24 ≤ x0) ∧ (x0 ≤ 26))) := Ln.lin [] [x0] (.imp (.no (.and (.le (.c 11) (.v 0)) (.le (.add (.v 0) (.c 1)) (.c 150)))) (.no (.and (.le (.c 24) (.v 0)) (.le (.v 0) (.c 26))))) (by kernel_rfl)
theorem o368 {x0 : Nat} : (¬ ((11 ≤ x0) ∧ (x0 < 150))) → (¬ ((12 ≤ x0) ∧ (x0 ≤ 13))) := Ln.lin [] [x0] (.imp (.no (.and (.le (.c 11) (.v 0)) (.le (.add (.v 0) (.c 1)) (.c 150)))) (.no (.and (.le (.c 12) (.v 0)) (.le (.v 0) (.c 13))))) (by kernel_rfl)
theorem o369 {x0 : Nat} : (¬ ((11 ≤ x0) ∧ (x0 < 150))) → (¬ ((20 ≤ x0) ∧ (x0 ≤ 23))) := Ln.lin [] [x0] (.imp (.no (.and (.le (.c 11) (.v 0)) (.le (.add (.v 0) (.c 1)) (.c 150)))) (.no (.and (.le (.c 20) (.v 0)) (.le (.v 0) (.c 23))))) (by kernel_rfl)
theorem o370 {x0 : Nat} : (1000 ≤ x0) → (x0 ≠ 11) := Ln.lin [] [x0] (.imp (.le (.c 1000) (.v 0)) (.no (.eq (.v 0) (.c 11)))) (by kernel_rfl)
theorem o371 {x0 : Nat} : (1000 ≤ x0) → (¬ ((27 ≤ x0) ∧ (x0 ≤ 31))) := Ln.lin [] [x0] (.imp (.le (.c 1000) (.v 0)) (.no (.and (.le (.c 27) (.v 0)) (.le (.v 0) (.c 31))))) (by kernel_rfl)
theorem o372 {x0 : Nat} : (1000 ≤ x0) → (¬ (x0 < 1000)) := Ln.lin [] [x0] (.imp (.le (.c 1000) (.v 0)) (.no (.le (.add (.v 0) (.c 1)) (.c 1000)))) (by kernel_rfl)
theorem o373 {x0 : Nat} : (((10 ≤ x0) ∧ (x0 < 32)) ∨ ((100 ≤ x0) ∧ (x0 < 150))) → (x0 < 1000) := Ln.lin [] [x0] (.imp (.or (.and (.le (.c 10) (.v 0)) (.le (.add (.v 0) (.c 1)) (.c 32))) (.and (.le (.c 100) (.v 0)) (.le (.add (.v 0) (.c 1)) (.c 150)))) (.le (.add (.v 0) (.c 1)) (.c 1000))) (by kernel_rfl)
theorem o374 {x0 : Nat} : (((10 ≤ x0) ∧ (x0 < 32)) ∨ ((100 ≤ x0) ∧ (x0 < 150))) → (¬ ((x0 < 10) ∨ (((32 ≤ x0) ∧ (x0 < 100)) ∨ ((150 ≤ x0) ∧ (x0 < 1000))))) := Ln.lin [] [x0] (.imp (.or (.and (.le (.c 10) (.v 0)) (.le (.add (.v 0) (.c 1)) (.c 32))) (.and (.le (.c 100) (.v 0)) (.le (.add (.v 0) (.c 1)) (.c 150)))) (.no (.or (.le (.add (.v 0) (.c 1)) (.c 10)) (.or (.and (.le (.c 32) (.v 0)) (.le (.add (.v 0) (.c 1)) (.c 100))) (.and (.le (.c 150) (.v 0)) (.le (.add (.v 0) (.c 1)) (.c 1000))))))) (by kernel_rfl)
theorem o375 {x0 : Nat} : (20 ≤ x0) → (x0 ≤ 23) → (((10 ≤ x0) ∧ (x0 < 32)) ∨ ((100 ≤ x0) ∧ (x0 < 150))) := Ln.lin [] [x0] (.imp (.le (.c 20) (.v 0)) (.imp (.le (.v 0) (.c 23)) (.or (.and (.le (.c 10) (.v 0)) (.le (.add (.v 0) (.c 1)) (.c 32))) (.and (.le (.c 100) (.v 0)) (.le (.add (.v 0) (.c 1)) (.c 150)))))) (by kernel_rfl)
theorem o376 {x0 : Nat} : (((24 ≤ x0) ∧ (x0 ≤ 26)) ∨ ((100 ≤ x0) ∧ (x0 < 150))) → (((10 ≤ x0) ∧ (x0 < 32)) ∨ ((100 ≤ x0) ∧ (x0 < 150))) := Ln.lin [] [x0] (.imp (.or (.and (.le (.c 24) (.v 0)) (.le (.v 0) (.c 26))) (.and (.le (.c 100) (.v 0)) (.le (.add (.v 0) (.c 1)) (.c 150)))) (.or (.and (.le (.c 10) (.v 0)) (.le (.add (.v 0) (.c 1)) (.c 32))) (.and (.le (.c 100) (.v 0)) (.le (.add (.v 0) (.c 1)) (.c 150))))) (by kernel_rfl)
theorem o377 {x0 : Nat} : (1000 ≤ x0) → (¬ ((x0 < 10) ∨ (((32 ≤ x0) ∧ (x0 < 100)) ∨ ((150 ≤ x0) ∧ (x0 < 1000))))) := Ln.lin [] [x0] (.imp (.le (.c 1000) (.v 0)) (.no (.or (.le (.add (.v 0) (.c 1)) (.c 10)) (.or (.and (.le (.c 32) (.v 0)) (.le (.add (.v 0) (.c 1)) (.c 100))) (.and (.le (.c 150) (.v 0)) (.le (.add (.v 0) (.c 1)) (.c 1000))))))) (by kernel_rfl)
theorem o378 {x0 : Nat} {x1 : Nat} {x2 : Nat} : (x2 ≤ x1) → (x0 ≤ x2) → (x0 ≤ x1) := Ln.lin [] [x0, x1, x2] (.imp (.le (.v 2) (.v 1)) (.imp (.le (.v 0) (.v 2)) (.le (.v 0) (.v 1)))) (by kernel_rfl)
theorem o379 {x0 : Nat} {x1 : Nat} : (x0 ≤ x1) → ((x0 + 1) ≤ (x1 + 1)) := Ln.lin [] [x0, x1] (.imp (.le (.v 0) (.v 1)) (.le (.add (.v 0) (.c 1)) (.add (.v 1) (.c 1)))) (by kernel_rfl)
theorem o380 {x0 : Int} : ((0 : Int) < x0) → ((0 : Int) ≤ x0) := Ln.lin [x0] [] (.imp (.ile (.add (.c 0) (.c 1)) (.v 0)) (.ile (.c 0) (.v 0))) (by kernel_rfl)
theorem o381 {x0 : Int} : ((0 : Int) < x0) → (x0 ≠ (0 : Int)) := Ln.lin [x0] [] (.imp (.ile (.add (.c 0) (.c 1)) (.v 0)) (.no (.ieq (.v 0) (.c 0)))) (by kernel_rfl)
theorem o382 {x0 : Nat} : (x0 ≤ 50) → (x0 ≤ 1000) := Ln.lin [] [x0] (.imp (.le (.v 0) (.c 50)) (.le (.v 0) (.c 1000))) (by kernel_rfl)
theorem o383 {x0 : Nat} : ((-18446744073709551616 : Int) < ((x0 : Nat) : Int)) := Ln.lin [] [x0] (.ile (.add (.c (-18446744073709551616 : Int)) (.c 1)) (.n (.v 0))) (by kernel_rfl)
theorem o384 {x0 : Nat} {x1 : Nat} : (x1 ≤ 9000) → (x0 ≤ x1) → (((x0 : Nat) : Int) < (2 ^ 64 : Int)) := Ln.lin [] [x0, x1] (.imp (.le (.v 1) (.c 9000)) (.imp (.le (.v 0) (.v 1)) (.ile (.add (.n (.v 0)) (.c 1)) (.c (2 ^ 64 : Int))))) (by kernel_rfl)
theorem o385 {x0 : Nat} : ((-18446744073709551616 : Int) < ((7 : Int) * ((x0 : Nat) : Int))) := Ln.lin [] [x0] (.ile (.add (.c (-18446744073709551616 : Int)) (.c 1)) (.mul 7 (.n (.v 0)))) (by kernel_rfl)
theorem o386 {x0 : Nat} {x1 : Nat} : (x1 ≤ 9000) → (x0 ≤ x1) → (((7 : Int) * ((x0 : Nat) : Int)) < (2 ^ 64 : Int)) := Ln.lin [] [x0, x1] (.imp (.le (.v 1) (.c 9000)) (.imp (.le (.v 0) (.v 1)) (.ile (.add (.mul 7 (.n (.v 0))) (.c 1)) (.c (2 ^ 64 : Int))))) (by kernel_rfl)
theorem o387 {x0 : Nat} {x1 : Int} : ((Int.natAbs x1) ≤ 1000000) → (((x0 : Nat) : Int) ≤ ((((Int.natAbs x1) : Nat) : Int) + (2 : Int))) → (x0 ≤ 1000002) := Ln.lin [x1] [x0, (Int.natAbs x1)] (.imp (.or (.ieq (.n (.v 1)) (.v 0)) (.ieq (.add (.v 0) (.n (.v 1))) (.c 0))) (.imp (.le (.v 1) (.c 1000000)) (.imp (.ile (.n (.v 0)) (.add (.n (.v 1)) (.c 2))) (.le (.v 0) (.c 1000002))))) (by kernel_rfl) (Ln.abs_or x1)
theorem o388 {x0 : Nat} : (((x0 + 3) + 1) ≤ (x0 + 7)) := Ln.lin [] [x0] (.le (.add (.add (.v 0) (.c 3)) (.c 1)) (.add (.v 0) (.c 7))) (by kernel_rfl)
theorem o389 {x0 : Nat} : (12 ≤ x0) → (x0 ≠ 10) := Ln.lin [] [x0] (.imp (.le (.c 12) (.v 0)) (.no (.eq (.v 0) (.c 10)))) (by kernel_rfl)
theorem o390 {x0 : Nat} : (12 ≤ x0) → (x0 ≠ 11) := Ln.lin [] [x0] (.imp (.le (.c 12) (.v 0)) (.no (.eq (.v 0) (.c 11)))) (by kernel_rfl)
theorem o391 {x0 : Nat} : (12 ≤ x0) → (10 ≤ x0) := Ln.lin [] [x0] (.imp (.le (.c 12) (.v 0)) (.le (.c 10) (.v 0))) (by kernel_rfl)
theorem o392 {x0 : Nat} : (¬ ((x0 = 1) ∨ (((10 ≤ x0) ∧ (x0 < 150)) ∨ (1000 ≤ x0)))) → (x0 ≠ 10) := Ln.lin [] [x0] (.imp (.no (.or (.eq (.v 0) (.c 1)) (.or (.and (.le (.c 10) (.v 0)) (.le (.add (.v 0) (.c 1)) (.c 150))) (.le (.c 1000) (.v 0))))) (.no (.eq (.v 0) (.c 10)))) (by kernel_rfl)
theorem o393 {x0 : Nat} : (¬ ((x0 = 1) ∨ (((10 ≤ x0) ∧ (x0 < 150)) ∨ (1000 ≤ x0)))) → (x0 ≠ 11) := Ln.lin [] [x0] (.imp (.no (.or (.eq (.v 0) (.c 1)) (.or (.and (.le (.c 10) (.v 0)) (.le (.add (.v 0) (.c 1)) (.c 150))) (.le (.c 1000) (.v 0))))) (.no (.eq (.v 0) (.c 11)))) (by kernel_rfl)
theorem o394 {x0 : Nat} : (¬ ((x0 = 1) ∨ (((10 ≤ x0) ∧ (x0 < 150)) ∨ (1000 ≤ x0)))) → (¬ ((11 ≤ x0) ∧ (x0 < 150))) := Ln.lin [] [x0] (.imp (.no (.or (.eq (.v 0) (.c 1)) (.or (.and (.le (.c 10) (.v 0)) (.le (.add (.v 0) (.c 1)) (.c 150))) (.le (.c 1000) (.v 0))))) (.no (.and (.le (.c 11) (.v 0)) (.le (.add (.v 0) (.c 1)) (.c 150))))) (by kernel_rfl)
theorem o395 {x0 : Nat} : (((20 ≤ x0) ∧ (x0 ≤ 31)) ∨ (((100 ≤ x0) ∧ (x0 < 150)) ∨ (1000 ≤ x0))) → ((x0 = 1) ∨ (((10 ≤ x0) ∧ (x0 < 150)) ∨ (1000 ≤ x0))) := Ln.lin [] [x0] (.imp (.or (.and (.le (.c 20) (.v 0)) (.le (.v 0) (.c 31))) (.or (.and (.le (.c 100) (.v 0)) (.le (.add (.v 0) (.c 1)) (.c 150))) (.le (.c 1000) (.v 0)))) (.or (.eq (.v 0) (.c 1)) (.or (.and (.le (.c 10) (.v 0)) (.le (.add (.v 0) (.c 1)) (.c 150))) (.le (.c 1000) (.v 0))))) (by kernel_rfl)
theorem o396 {x0 : Nat} : (x0 = 1) → ((x0 < 10) ∨ (((32 ≤ x0) ∧ (x0 < 100)) ∨ ((150 ≤ x0) ∧ (x0 < 1000)))) := Ln.lin [] [x0] (.imp (.eq (.v 0) (.c 1)) (.or (.le (.add (.v 0) (.c 1)) (.c 10)) (.or (.and (.le (.c 32) (.v 0)) (.le (.add (.v 0) (.c 1)) (.c 100))) (.and (.le (.c 150) (.v 0)) (.le (.add (.v 0) (.c 1)) (.c 1000)))))) (by kernel_rfl)
theorem o397 {x0 : Nat} : (x0 < 2) → ((x0 = 0) ∨ (x0 = 1)) := Ln.lin [] [x0] (.imp (.le (.add (.v 0) (.c 1)) (.c 2)) (.or (.eq (.v 0) (.c 0)) (.eq (.v 0) (.c 1)))) (by kernel_rfl)
theorem o398 {x0 : Nat} : ((x0 + 6) ≤ (x0 + 7)) := Ln.lin [] [x0] (.le (.add (.v 0) (.c 6)) (.add (.v 0) (.c 7))) (by kernel_rfl)
theorem o399 {x0 : Nat} {x1 : Nat} : (x0 ≤ x1) → (x1 < 2) → (x0 < 7) := Ln.lin [] [x0, x1] (.imp (.le (.v 0) (.v 1)) (.imp (.le (.add (.v 1) (.c 1)) (.c 2)) (.le (.add (.v 0) (.c 1)) (.c 7)))) (by kernel_rfl)
theorem o400 {x0 : Nat} {x1 : Nat} {x2 : Nat} : (x2 ≤ x1) → (x0 ≤ (x2 + 1)) → (x0 ≤ (x1 + 1)) := Ln.lin [] [x0, x1, x2] (.imp (.le (.v 2) (.v 1)) (.imp (.le (.v 0) (.add (.v 2) (.c 1))) (.le (.v 0) (.add (.v 1) (.c 1))))) (by kernel_rfl)
theorem o401 {x0 : Nat} : (x0 ≤ 8000) → (x0 ≤ 9000) := Ln.lin [] [x0] (.imp (.le (.v 0) (.c 8000)) (.le (.v 0) (.c 9000))) (by kernel_rfl)
theorem o402 {x0 : Int} : ((0 : Int) ≤ x0) → ((0 : Int) ≤ ((2 : Int) + x0)) := Ln.lin [x0] [] (.imp (.ile (.c 0) (.v 0)) (.ile (.c 0) (.add (.c 2) (.v 0)))) (by kernel_rfl)
theorem o403 {x0 : Int} : (x0 < (4 : Int)) → (((2 : Int) + x0) ≤ (1000000 : Int)) := Ln.lin [x0] [] (.imp (.ile (.add (.v 0) (.c 1)) (.c 4)) (.ile (.add (.c 2) (.v 0)) (.c 1000000))) (by kernel_rfl)
theorem o404 {x0 : Int} {x1 : Nat} : (x0 < (4 : Int)) → (5 ≤ x1) → (((2 : Int) + x0) ≤ ((x1 : Nat) : Int)) := Ln.lin [x0] [x1] (.imp (.ile (.add (.v 0) (.c 1)) (.c 4)) (.imp (.le (.c 5) (.v 0)) (.ile (.add (.c 2) (.v 0)) (.n (.v 0))))) (by kernel_rfl)
theorem o405 {x0 : Nat} {x1 : Nat} : (x0 ≤ 8000) → (x1 < 5) → (((x0 + 1) + (5 * x1)) ≤ 9000) := Ln.lin [] [x0, x1] (.imp (.le (.v 0) (.c 8000)) (.imp (.le (.add (.v 1) (.c 1)) (.c 5)) (.le (.add (.add (.v 0) (.c 1)) (.mul 5 (.v 1))) (.c 9000)))) (by kernel_rfl)
theorem o406 {x0 : Int} : ((0 : Int) ≤ x0) → (x0 < (2 : Int)) → ((x0 = (0 : Int)) ∨ (x0 = (1 : Int))) := Ln.lin [x0] [] (.imp (.ile (.c 0) (.v 0)) (.imp (.ile (.add (.v 0) (.c 1)) (.c 2)) (.or (.ieq (.v 0) (.c 0)) (.ieq (.v 0) (.c 1))))) (by kernel_rfl)
theorem o407 {x0 : Int} : ((0 : Int) ≤ x0) → ((0 : Int) ≤ (((1 : Int) + x0) - (1 : Int))) := Ln.lin [x0] [] (.imp (.ile (.c 0) (.v 0)) (.ile (.c 0) (.sub (.add (.c 1) (.v 0)) (.c 1)))) (by kernel_rfl)
theorem o408 {x0 : Int} : (x0 < (2 : Int)) → ((((1 : Int) + x0) - (1 : Int)) < (1000 : Int)) := Ln.lin [x0] [] (.imp (.ile (.add (.v 0) (.c 1)) (.c 2)) (.ile (.add (.sub (.add (.c 1) (.v 0)) (.c 1)) (.c 1)) (.c 1000))) (by kernel_rfl)
theorem o409 {x0 : Int} : ((0 : Int) ≤ x0) → ((0 : Int) ≤ ((1 : Int) + x0)) := Ln.lin [x0] [] (.imp (.ile (.c 0) (.v 0)) (.ile (.c 0) (.add (.c 1) (.v 0)))) (by kernel_rfl)
theorem o410 {x0 : Int} : (x0 < (2 : Int)) → (((1 : Int) + x0) ≤ (1000000 : Int)) := Ln.lin [x0] [] (.imp (.ile (.add (.v 0) (.c 1)) (.c 2)) (.ile (.add (.c 1) (.v 0)) (.c 1000000))) (by kernel_rfl)
theorem o411 {x0 : Int} : (x0 < (2 : Int)) → (((1 : Int) + x0) ≤ (1000 : Int)) := Ln.lin [x0] [] (.imp (.ile (.add (.v 0) (.c 1)) (.c 2)) (.ile (.add (.c 1) (.v 0)) (.c 1000))) (by kernel_rfl)
theorem o412 {x0 : Nat} : (1000 ≤ x0) → (1 ≠ x0) := Ln.lin [] [x0] (.imp (.le (.c 1000) (.v 0)) (.no (.eq (.c 1) (.v 0)))) (by kernel_rfl)
theorem o413 {x0 : Nat} : (1000 ≤ x0) → (2 ≠ x0) := Ln.lin [] [x0] (.imp (.le (.c 1000) (.v 0)) (.no (.eq (.c 2) (.v 0)))) (by kernel_rfl)
theorem o414 {x0 : Nat} {x1 : Int} : (x1 < (2 : Int)) → (((x0 : Nat) : Int) < ((1 : Int) + x1)) → (x0 < 2) := Ln.lin [x1] [x0] (.imp (.ile (.add (.v 0) (.c 1)) (.c 2)) (.imp (.ile (.add (.n (.v 0)) (.c 1)) (.add (.c 1) (.v 0))) (.le (.add (.v 0) (.c 1)) (.c 2)))) (by kernel_rfl)
theorem o415 {x0 : Nat} : (((x0 + 5) + 2) ≤ (x0 + 7)) := Ln.lin [] [x0] (.le (.add (.add (.v 0) (.c 5)) (.c 2)) (.add (.v 0) (.c 7))) (by kernel_rfl)
theorem o416 {x0 : Nat} {x1 : Nat} {x2 : Nat} : (x0 ≤ 8000) → (x1 < 5) → (x2 < 2) → (((((x0 + 1) + (5 * x1)) + 1) + x2) ≤ 9000) := Ln.lin [] [x0, x1, x2] (.imp (.le (.v 0) (.c 8000)) (.imp (.le (.add (.v 1) (.c 1)) (.c 5)) (.imp (.le (.add (.v 2) (.c 1)) (.c 2)) (.le (.add (.add (.add (.add (.v 0) (.c 1)) (.mul 5 (.v 1))) (.c 1)) (.v 2)) (.c 9000))))) (by kernel_rfl)
theorem o417 {x0 : Nat} : (0 < x0) → ((0 : Int) < ((x0 : Nat) : Int)) := Ln.lin [] [x0] (.imp (.le (.add (.c 0) (.c 1)) (.v 0)) (.ile (.add (.c 0) (.c 1)) (.n (.v 0)))) (by kernel_rfl)
theorem o418 {x0 : Nat} : (1000 ≤ x0) → (¬ (x0 = 1)) := Ln.lin [] [x0] (.imp (.le (.c 1000) (.v 0)) (.no (.eq (.v 0) (.c 1)))) (by kernel_rfl)
theorem o419 {x0 : Nat} {x1 : Nat} {x2 : Nat} : ((((((x0 + 1) + (5 * x1)) + 1) + x2) + 1) ≤ ((((x0 + 1) + (5 * x1)) + 1) + (x2 + 1))) := Ln.lin [] [x0, x1, x2] (.le (.add (.add (.add (.add (.add (.v 0) (.c 1)) (.mul 5 (.v 1))) (.c 1)) (.v 2)) (.c 1)) (.add (.add (.add (.add (.v 0) (.c 1)) (.mul 5 (.v 1))) (.c 1)) (.add (.v 2) (.c 1)))) (by kernel_rfl)
theorem o420 {x0 : Nat} {x1 : Int} : (x1 < (2 : Int)) → (x0 = (Int.toNat ((1 : Int) + x1))) → (x0 ≤ 2) := Ln.lin [x1] [x0, (Int.toNat ((1 : Int) + x1))] (.imp (.or (.and (.ile (.add (.c 1) (.v 0)) (.c 0)) (.eq (.v 1) (.c 0))) (.ieq (.n (.v 1)) (.add (.c 1) (.v 0)))) (.imp (.ile (.add (.v 0) (.c 1)) (.c 2)) (.imp (.eq (.v 0) (.v 1)) (.le (.v 0) (.c 2))))) (by kernel_rfl) (Ln.toNat_or ((1 : Int) + x1))
theorem o421 {x0 : Int} : (x0 < (2 : Int)) → (((1 : Int) + x0) ≤ (2 : Int)) := Ln.lin [x0] [] (.imp (.ile (.add (.v 0) (.c 1)) (.c 2)) (.ile (.add (.c 1) (.v 0)) (.c 2))) (by kernel_rfl)
theorem o422 {x0 : Nat} : ((x0 + 5) ≤ (x0 + 7)) := Ln.lin [] [x0] (.le (.add (.v 0) (.c 5)) (.add (.v 0) (.c 7))) (by kernel_rfl)
theorem o423 {x0 : Nat} {x1 : Nat} : (x0 ≤ (2 + x1)) → (x1 < 5) → (x0 < 7) := Ln.lin [] [x0, x1] (.imp (.le (.v 0) (.add (.c 2) (.v 1))) (.imp (.le (.add (.v 1) (.c 1)) (.c 5)) (.le (.add (.v 0) (.c 1)) (.c 7)))) (by kernel_rfl)
theorem o424 {x0 : Nat} {x1 : Nat} {x2 : Nat} : (x2 ≤ 2) → (((((x0 + 1) + (5 * x1)) + 1) + x2) ≤ ((x0 + 1) + (5 * (x1 + 1)))) := Ln.lin [] [x0, x1, x2] (.imp (.le (.v 2) (.c 2)) (.le (.add (.add (.add (.add (.v 0) (.c 1)) (.mul 5 (.v 1))) (.c 1)) (.v 2)) (.add (.add (.v 0) (.c 1)) (.mul 5 (.add (.v 1) (.c 1)))))) (by kernel_rfl)
theorem o425 {x0 : Nat} {x1 : Nat} {x2 : Nat} : (x2 ≤ (2 + x1)) → (x0 ≤ (x2 + 1)) → (x0 ≤ (2 + (x1 + 1))) := Ln.lin [] [x0, x1, x2] (.imp (.le (.v 2) (.add (.c 2) (.v 1))) (.imp (.le (.v 0) (.add (.v 2) (.c 1))) (.le (.v 0) (.add (.c 2) (.add (.v 1) (.c 1)))))) (by kernel_rfl)
theorem o426 {x0 : Int} : (x0 < (4 : Int)) → (((2 : Int) + x0) ≤ (5 : Int)) := Ln.lin [x0] [] (.imp (.ile (.add (.v 0) (.c 1)) (.c 4)) (.ile (.add (.c 2) (.v 0)) (.c 5))) (by kernel_rfl)
theorem o427 {x0 : Nat} {x1 : Nat} : (x1 ≤ 5) → (((x0 + 1) + (5 * x1)) ≤ (x0 + 50)) := Ln.lin [] [x0, x1] (.imp (.le (.v 1) (.c 5)) (.le (.add (.add (.v 0) (.c 1)) (.mul 5 (.v 1))) (.add (.v 0) (.c 50)))) (by kernel_rfl)
theorem o428 {x0 : Nat} : (x0 ≤ 8000) → ((x0 + 50) ≤ 9000) := Ln.lin [] [x0] (.imp (.le (.v 0) (.c 8000)) (.le (.add (.v 0) (.c 50)) (.c 9000))) (by kernel_rfl)
theorem o429 {x0 : Int} : (x0 < (3 : Int)) → (((1 : Int) + x0) ≤ (1000000 : Int)) := Ln.lin [x0] [] (.imp (.ile (.add (.v 0) (.c 1)) (.c 3)) (.ile (.add (.c 1) (.v 0)) (.c 1000000))) (by kernel_rfl)
theorem o430 {x0 : Int} {x1 : Nat} : (x0 < (3 : Int)) → (3 ≤ x1) → (((1 : Int) + x0) ≤ ((x1 : Nat) : Int)) := Ln.lin [x0] [x1] (.imp (.ile (.add (.v 0) (.c 1)) (.c 3)) (.imp (.le (.c 3) (.v 0)) (.ile (.add (.c 1) (.v 0)) (.n (.v 0))))) (by kernel_rfl)
theorem o431 {x0 : Nat} {x1 : Nat} : (x0 ≤ 8000) → (x1 < 3) → (((x0 + 51) + (5 * x1)) ≤ 9000) := Ln.lin [] [x0, x1] (.imp (.le (.v 0) (.c 8000)) (.imp (.le (.add (.v 1) (.c 1)) (.c 3)) (.le (.add (.add (.v 0) (.c 51)) (.mul 5 (.v 1))) (.c 9000)))) (by kernel_rfl)
theorem o432 {x0 : Nat} {x1 : Nat} : (x0 ≤ 8000) → (x1 < 3) → ((((x0 + 51) + (5 * x1)) + 1) ≤ 9000) := Ln.lin [] [x0, x1] (.imp (.le (.v 0) (.c 8000)) (.imp (.le (.add (.v 1) (.c 1)) (.c 3)) (.le (.add (.add (.add (.v 0) (.c 51)) (.mul 5 (.v 1))) (.c 1)) (.c 9000)))) (by kernel_rfl)
theorem o433 {x0 : Nat} : (x0 < 3) → ((Int.natAbs ((x0 : Nat) : Int)) ≤ 1000000) := Ln.lin [] [x0, (Int.natAbs ((x0 : Nat) : Int))] (.imp (.or (.ieq (.n (.v 1)) (.n (.v 0))) (.ieq (.add (.n (.v 0)) (.n (.v 1))) (.c 0))) (.imp (.le (.add (.v 0) (.c 1)) (.c 3)) (.le (.v 1) (.c 1000000)))) (by kernel_rfl) (Ln.abs_or ((x0 : Nat) : Int))
theorem o434 {x0 : Nat} : ((x0 + 4) ≤ (x0 + 7)) := Ln.lin [] [x0] (.le (.add (.v 0) (.c 4)) (.add (.v 0) (.c 7))) (by kernel_rfl)
theorem o435 {x0 : Nat} : (x0 < 3) → (x0 ≤ 90) := Ln.lin [] [x0] (.imp (.le (.add (.v 0) (.c 1)) (.c 3)) (.le (.v 0) (.c 90))) (by kernel_rfl)
theorem o436 {x0 : Int} {x1 : Nat} {x2 : Nat} : (x0 < ((x2 : Nat) : Int)) → (x2 = x1) → (x0 < ((x1 : Nat) : Int)) := Ln.lin [x0] [x1, x2] (.imp (.ile (.add (.v 0) (.c 1)) (.n (.v 1))) (.imp (.eq (.v 1) (.v 0)) (.ile (.add (.v 0) (.c 1)) (.n (.v 0))))) (by kernel_rfl)
theorem o437 {x0 : Nat} : (x0 < 3) → ((x0 = 0) ∨ ((x0 = 1) ∨ (x0 = 2))) := Ln.lin [] [x0] (.imp (.le (.add (.v 0) (.c 1)) (.c 3)) (.or (.eq (.v 0) (.c 0)) (.or (.eq (.v 0) (.c 1)) (.eq (.v 0) (.c 2))))) (by kernel_rfl)
theorem o438 {x0 : Nat} {x1 : Nat} : (x1 ≤ 1000002) → (x0 = 1) → ((x0 + x1) ≤ 16777216) := Ln.lin [] [x0, x1] (.imp (.le (.v 1) (.c 1000002)) (.imp (.eq (.v 0) (.c 1)) (.le (.add (.v 0) (.v 1)) (.c 16777216)))) (by kernel_rfl)
theorem o439 {x0 : Nat} {x1 : Nat} : (((((x0 + 51) + (5 * x1)) + 1) + 1) ≤ ((x0 + 51) + (5 * (x1 + 1)))) := Ln.lin [] [x0, x1] (.le (.add (.add (.add (.add (.v 0) (.c 51)) (.mul 5 (.v 1))) (.c 1)) (.c 1)) (.add (.add (.v 0) (.c 51)) (.mul 5 (.add (.v 1) (.c 1))))) (by kernel_rfl)
theorem o440 {x0 : Int} : (x0 < (3 : Int)) → (((1 : Int) + x0) ≤ (3 : Int)) := Ln.lin [x0] [] (.imp (.ile (.add (.v 0) (.c 1)) (.c 3)) (.ile (.add (.c 1) (.v 0)) (.c 3))) (by kernel_rfl)
theorem o441 {x0 : Nat} : (x0 ≤ 3) → (x0 ≤ 90) := Ln.lin [] [x0] (.imp (.le (.v 0) (.c 3)) (.le (.v 0) (.c 90))) (by kernel_rfl)
theorem o442 {x0 : Nat} {x1 : Nat} : (0 < x1) → (x1 = x0) → (0 < x0) := Ln.lin [] [x0, x1] (.imp (.le (.add (.c 0) (.c 1)) (.v 1)) (.imp (.eq (.v 1) (.v 0)) (.le (.add (.c 0) (.c 1)) (.v 0)))) (by kernel_rfl)
theorem o443 {x0 : Nat} {x1 : Nat} : (x1 ≤ 3) → (((x0 + 51) + (5 * x1)) ≤ (x0 + 100)) := Ln.lin [] [x0, x1] (.imp (.le (.v 1) (.c 3)) (.le (.add (.add (.v 0) (.c 51)) (.mul 5 (.v 1))) (.add (.v 0) (.c 100)))) (by kernel_rfl)
theorem o444 {x0 : Nat} : (x0 ≤ 0) → (x0 = 0) := Ln.lin [] [x0] (.imp (.le (.v 0) (.c 0)) (.eq (.v 0) (.c 0))) (by kernel_rfl)
theorem o445 {x0 : Nat} {x1 : Nat} {x2 : Nat} : (x2 ≤ (x1 + 1)) → (x0 < x2) → (x0 ≤ x1) := Ln.lin [] [x0, x1, x2] (.imp (.le (.v 2) (.add (.v 1) (.c 1))) (.imp (.le (.add (.v 0) (.c 1)) (.v 2)) (.le (.v 0) (.v 1)))) (by kernel_rfl)
theorem o446 {x0 : Nat} {x1 : Int} : (((0 : Int) ≤ x1) ∧ (x1 < (0 : Int))) → (x0 ≤ 0) := Ln.lin [x1] [x0] (.imp (.and (.ile (.c 0) (.v 0)) (.ile (.add (.v 0) (.c 1)) (.c 0))) (.le (.v 0) (.c 0))) (by kernel_rfl)
theorem o447 {x0 : Int} {x1 : Nat} : (((0 : Int) ≤ x0) ∧ (x0 < (((x1 + 1) : Nat) : Int))) → (x0 ≠ ((x1 : Nat) : Int)) → (((0 : Int) ≤ x0) ∧ (x0 < ((x1 : Nat) : Int))) := Ln.lin [x0] [x1] (.imp (.and (.ile (.c 0) (.v 0)) (.ile (.add (.v 0) (.c 1)) (.n (.add (.v 0) (.c 1))))) (.imp (.no (.ieq (.v 0) (.n (.v 0)))) (.and (.ile (.c 0) (.v 0)) (.ile (.add (.v 0) (.c 1)) (.n (.v 0)))))) (by kernel_rfl)
theorem o448 {x0 : Nat} {x1 : Nat} {x2 : Nat} : (x0 ≤ 2) → (x1 ≤ (2 * x2)) → ((x0 + x1) ≤ (2 * (x2 + 1))) := Ln.lin [] [x0, x1, x2] (.imp (.le (.v 0) (.c 2)) (.imp (.le (.v 1) (.mul 2 (.v 2))) (.le (.add (.v 0) (.v 1)) (.mul 2 (.add (.v 2) (.c 1)))))) (by kernel_rfl)
theorem o449 {x0 : Nat} {x1 : Nat} {x2 : Nat} : (x1 ≤ (2 * x2)) → (x0 ≤ 2) → ((x0 + x1) ≤ (2 * (x2 + 1))) := Ln.lin [] [x0, x1, x2] (.imp (.le (.v 1) (.mul 2 (.v 2))) (.imp (.le (.v 0) (.c 2)) (.le (.add (.v 0) (.v 1)) (.mul 2 (.add (.v 2) (.c 1)))))) (by kernel_rfl)
theorem o450 {x0 : Nat} {x1 : Nat} : (x1 ≤ 8) → (x0 = x1) → (x0 ≤ 1000) := Ln.lin [] [x0, x1] (.imp (.le (.v 1) (.c 8)) (.imp (.eq (.v 0) (.v 1)) (.le (.v 0) (.c 1000)))) (by kernel_rfl)
theorem o451 {x0 : Nat} {x1 : Nat} : (x1 ≤ 8) → (x0 = x1) → (((x0 : Nat) : Int) ≤ (1000000 : Int)) := Ln.lin [] [x0, x1] (.imp (.le (.v 1) (.c 8)) (.imp (.eq (.v 0) (.v 1)) (.ile (.n (.v 0)) (.c 1000000)))) (by kernel_rfl)
theorem o452 {x0 : Nat} {x1 : Nat} : ((min x0 x1) ≤ x1) := Ln.lin [] [x0, x1, (min x0 x1)] (.imp (.or (.and (.le (.v 0) (.v 1)) (.eq (.v 2) (.v 0))) (.and (.le (.v 1) (.v 0)) (.eq (.v 2) (.v 1)))) (.le (.v 2) (.v 1))) (by kernel_rfl) (Ln.min_or x0 x1)
theorem o453 {x0 : Nat} {x1 : Nat} {x2 : Nat} : (x1 ≤ 7) → (x0 ≤ (2 * x2)) → (x2 ≤ x1) → (x0 ≤ 500) := Ln.lin [] [x0, x1, x2] (.imp (.le (.v 1) (.c 7)) (.imp (.le (.v 0) (.mul 2 (.v 2))) (.imp (.le (.v 2) (.v 1)) (.le (.v 0) (.c 500))))) (by kernel_rfl)
theorem o454 {x0 : Nat} : (x0 ≤ 2) → (x0 ≤ 500) := Ln.lin [] [x0] (.imp (.le (.v 0) (.c 2)) (.le (.v 0) (.c 500))) (by kernel_rfl)
theorem o455 {x0 : Nat} {x1 : Nat} : (x1 ≤ 7) → (x0 ≤ (2 * x1)) → (x0 ≤ 1000) := Ln.lin [] [x0, x1] (.imp (.le (.v 1) (.c 7)) (.imp (.le (.v 0) (.mul 2 (.v 1))) (.le (.v 0) (.c 1000)))) (by kernel_rfl)
theorem o456 {x0 : Nat} {x1 : Nat} : (x0 ≤ 7) → (x1 ≤ (2 * x0)) → ((x0 + x1) ≤ 60) := Ln.lin [] [x0, x1] (.imp (.le (.v 0) (.c 7)) (.imp (.le (.v 1) (.mul 2 (.v 0))) (.le (.add (.v 0) (.v 1)) (.c 60)))) (by kernel_rfl)
theorem o457 {x0 : Nat} : ((x0 + 2) ≠ x0) := Ln.lin [] [x0] (.no (.eq (.add (.v 0) (.c 2)) (.v 0))) (by kernel_rfl)
theorem o458 {x0 : Nat} : (x0 ≤ (x0 + 2)) := Ln.lin [] [x0] (.le (.v 0) (.add (.v 0) (.c 2))) (by kernel_rfl)
theorem o459 {x0 : Nat} {x1 : Nat} : (1000 ≤ x1) → (x0 < 1000) → (x0 < x1) := Ln.lin [] [x0, x1] (.imp (.le (.c 1000) (.v 1)) (.imp (.le (.add (.v 0) (.c 1)) (.c 1000)) (.le (.add (.v 0) (.c 1)) (.v 1)))) (by kernel_rfl)
theorem o460 {x0 : Nat} {x1 : Nat} : (x1 < x0) → ((x0 - x1) = ((x0 - (x1 + 1)) + 1)) := Ln.lin [] [x0, x1, (x0 - x1), (x0 - (x1 + 1))] (.imp (.or (.and (.le (.v 0) (.v 1)) (.eq (.v 2) (.c 0))) (.eq (.add (.v 1) (.v 2)) (.v 0))) (.imp (.or (.and (.le (.v 0) (.add (.v 1) (.c 1))) (.eq (.v 3) (.c 0))) (.eq (.add (.add (.v 1) (.c 1)) (.v 3)) (.v 0))) (.imp (.le (.add (.v 1) (.c 1)) (.v 0)) (.eq (.v 2) (.add (.v 3) (.c 1)))))) (by kernel_rfl) (Ln.sub_or x0 x1) (Ln.sub_or x0 (x1 + 1))
theorem o461 {x0 : Nat} {x1 : Nat} : (x1 < x0) → ((x0 + 1) ≠ x1) := Ln.lin [] [x0, x1] (.imp (.le (.add (.v 1) (.c 1)) (.v 0)) (.no (.eq (.add (.v 0) (.c 1)) (.v 1)))) (by kernel_rfl)
theorem o462 {x0 : Nat} : (¬ ((x0 = 161) ∨ (x0 = 163))) → (x0 ≠ 161) := Ln.lin [] [x0] (.imp (.no (.or (.eq (.v 0) (.c 161)) (.eq (.v 0) (.c 163)))) (.no (.eq (.v 0) (.c 161)))) (by kernel_rfl)
theorem o463 {x0 : Nat} : (¬ ((x0 = 161) ∨ (x0 = 163))) → (x0 ≠ 163) := Ln.lin [] [x0] (.imp (.no (.or (.eq (.v 0) (.c 161)) (.eq (.v 0) (.c 163)))) (.no (.eq (.v 0) (.c 163)))) (by kernel_rfl)
theorem o464 {x0 : Nat} : (x0 ≤ 900) → (x0 ≤ 999) := Ln.lin [] [x0] (.imp (.le (.v 0) (.c 900)) (.le (.v 0) (.c 999))) (by kernel_rfl)
theorem o465 {x0 : Nat} : (x0 ≤ 20) → (x0 ≤ 999) := Ln.lin [] [x0] (.imp (.le (.v 0) (.c 20)) (.le (.v 0) (.c 999))) (by kernel_rfl)
theorem o466 {x0 : Nat} : (2 ≤ (x0 + 4)) := Ln.lin [] [x0] (.le (.c 2) (.add (.v 0) (.c 4))) (by kernel_rfl)
theorem o467 {x0 : Nat} {x1 : Nat} {x2 : Nat} {x3 : Prop} : (x2 ≤ 7) → ((x0 ≤ 2) ∧ x3) → (x1 ≤ (2 * x2)) → ((x0 + x1) ≤ 500) := fun h0 h1 h2 => Ln.lin [] [x0, x1, x2] (.imp (.le (.v 2) (.c 7)) (.imp (.le (.v 0) (.c 2)) (.imp (.le (.v 1) (.mul 2 (.v 2))) (.le (.add (.v 0) (.v 1)) (.c 500))))) (by kernel_rfl) h0 h1.1 h2
theorem o468 {x0 : Nat} {x1 : Nat} : (x0 ≤ x1) → (x0 ≤ (x1 + 1)) := Ln.lin [] [x0, x1] (.imp (.le (.v 0) (.v 1)) (.le (.v 0) (.add (.v 1) (.c 1)))) (by kernel_rfl)
theorem o469 {x0 : Nat} {x1 : Nat} : (x1 ≤ 7) → (x0 = x1) → (x0 ≤ 1000) := Ln.lin [] [x0, x1] (.imp (.le (.v 1) (.c 7)) (.imp (.eq (.v 0) (.v 1)) (.le (.v 0) (.c 1000)))) (by kernel_rfl)
theorem o470 {x0 : Nat} {x1 : Nat} {x2 : Prop} : (x0 ≤ 20) → ((x1 ≤ 2) ∧ x2) → ((x0 + x1) ≤ 22) := fun h0 h1 => Ln.lin [] [x0, x1] (.imp (.le (.v 0) (.c 20)) (.imp (.le (.v 1) (.c 2)) (.le (.add (.v 0) (.v 1)) (.c 22)))) (by kernel_rfl) h0 h1.1
theorem o471 {x0 : Nat} {x1 : Nat} : ((x0 + x1) ≤ 22) → (x0 ≤ 1000) := Ln.lin [] [x0, x1] (.imp (.le (.add (.v 0) (.v 1)) (.c 22)) (.le (.v 0) (.c 1000))) (by kernel_rfl)
theorem o472 {x0 : Nat} {x1 : Nat} : ((x1 + x0) ≤ 22) → (x0 ≤ 1000) := Ln.lin [] [x0, x1] (.imp (.le (.add (.v 1) (.v 0)) (.c 22)) (.le (.v 0) (.c 1000))) (by kernel_rfl)
theorem o473 {x0 : Nat} {x1 : Nat} : ((x0 + x1) ≤ 22) → ((x0 + x1) ≤ 1000) := Ln.lin [] [x0, x1] (.imp (.le (.add (.v 0) (.v 1)) (.c 22)) (.le (.add (.v 0) (.v 1)) (.c 1000))) (by kernel_rfl)
theorem o474 {x0 : Nat} {x1 : Nat} : ((x0 + 1) < x1) → (x0 ≠ (x1 + 1)) := Ln.lin [] [x0, x1] (.imp (.le (.add (.add (.v 0) (.c 1)) (.c 1)) (.v 1)) (.no (.eq (.v 0) (.add (.v 1) (.c 1))))) (by kernel_rfl)
theorem o475 {x0 : Nat} {x1 : Nat} : ((x0 + 1) < x1) → (x0 ≠ x1) := Ln.lin [] [x0, x1] (.imp (.le (.add (.add (.v 0) (.c 1)) (.c 1)) (.v 1)) (.no (.eq (.v 0) (.v 1)))) (by kernel_rfl)
theorem o476 {x0 : Nat} {x1 : Nat} {x2 : Nat} : ((x1 + x2) ≤ 22) → (x0 ≤ (x1 + x2)) → (x0 ≤ 60) := Ln.lin [] [x0, x1, x2] (.imp (.le (.add (.v 1) (.v 2)) (.c 22)) (.imp (.le (.v 0) (.add (.v 1) (.v 2))) (.le (.v 0) (.c 60)))) (by kernel_rfl)
theorem o477 {x0 : Nat} {x1 : Nat} {x2 : Nat} {x3 : Nat} : ((x1 + x2) ≤ 22) → (x3 ≤ (x1 + x2)) → (x0 ≤ x3) → (x0 ≤ 1000) := Ln.lin [] [x0, x1, x2, x3] (.imp (.le (.add (.v 1) (.v 2)) (.c 22)) (.imp (.le (.v 3) (.add (.v 1) (.v 2))) (.imp (.le (.v 0) (.v 3)) (.le (.v 0) (.c 1000))))) (by kernel_rfl)
theorem o478 {x0 : Nat} {x1 : Nat} : ((x1 + x0) ≤ 22) → (x0 ≤ 900) := Ln.lin [] [x0, x1] (.imp (.le (.add (.v 1) (.v 0)) (.c 22)) (.le (.v 0) (.c 900))) (by kernel_rfl)
theorem o479 {x0 : Nat} {x1 : Nat} {x2 : Nat} : (x1 ≤ 7) → (x0 ≤ x2) → (x2 < x1) → (x0 ≤ 1000) := Ln.lin [] [x0, x1, x2] (.imp (.le (.v 1) (.c 7)) (.imp (.le (.v 0) (.v 2)) (.imp (.le (.add (.v 2) (.c 1)) (.v 1)) (.le (.v 0) (.c 1000))))) (by kernel_rfl)
theorem o480 {x0 : Nat} {x1 : Nat} : ((x0 + 1) < x1) → (x0 ≠ (x1 + 2)) := Ln.lin [] [x0, x1] (.imp (.le (.add (.add (.v 0) (.c 1)) (.c 1)) (.v 1)) (.no (.eq (.v 0) (.add (.v 1) (.c 2))))) (by kernel_rfl)
theorem o481 {x0 : Nat} {x1 : Nat} : ((x0 + 1) < x1) → ((x0 + 1) ≠ (x1 + 2)) := Ln.lin [] [x0, x1] (.imp (.le (.add (.add (.v 0) (.c 1)) (.c 1)) (.v 1)) (.no (.eq (.add (.v 0) (.c 1)) (.add (.v 1) (.c 2))))) (by kernel_rfl)
theorem o482 {x0 : Nat} {x1 : Nat} : ((x0 + 1) < x1) → ((x0 + 1) ≠ (x1 + 1)) := Ln.lin [] [x0, x1] (.imp (.le (.add (.add (.v 0) (.c 1)) (.c 1)) (.v 1)) (.no (.eq (.add (.v 0) (.c 1)) (.add (.v 1) (.c 1))))) (by kernel_rfl)
theorem o483 {x0 : Nat} {x1 : Nat} : ((x0 + 1) < x1) → ((x0 + 1) ≠ x1) := Ln.lin [] [x0, x1] (.imp (.le (.add (.add (.v 0) (.c 1)) (.c 1)) (.v 1)) (.no (.eq (.add (.v 0) (.c 1)) (.v 1)))) (by kernel_rfl)
theorem o484 {x0 : Nat} {x1 : Nat} : ((x1 + 1) < x0) → (x0 ≠ x1) := Ln.lin [] [x0, x1] (.imp (.le (.add (.add (.v 1) (.c 1)) (.c 1)) (.v 0)) (.no (.eq (.v 0) (.v 1)))) (by kernel_rfl)
theorem o485 {x0 : Nat} : (x0 ≠ (x0 + 2)) := Ln.lin [] [x0] (.no (.eq (.v 0) (.add (.v 0) (.c 2)))) (by kernel_rfl)
theorem o486 {x0 : Nat} {x1 : Nat} : (x1 ≤ 7) → (x0 ≤ x1) → (x0 ≤ 7) := Ln.lin [] [x0, x1] (.imp (.le (.v 1) (.c 7)) (.imp (.le (.v 0) (.v 1)) (.le (.v 0) (.c 7)))) (by kernel_rfl)
theorem o487 {x0 : Nat} {x1 : Nat} : (x1 ≤ 7) → (x0 ≤ x1) → (x0 ≤ 8) := Ln.lin [] [x0, x1] (.imp (.le (.v 1) (.c 7)) (.imp (.le (.v 0) (.v 1)) (.le (.v 0) (.c 8)))) (by kernel_rfl)
theorem o488 {x0 : Int} {x1 : Nat} : (x1 ≤ 7) → (((0 : Int) ≤ x0) ∧ (x0 < ((x1 : Nat) : Int))) → (((0 : Int) ≤ x0) ∧ (x0 < (7 : Int))) := Ln.lin [x0] [x1] (.imp (.le (.v 0) (.c 7)) (.imp (.and (.ile (.c 0) (.v 0)) (.ile (.add (.v 0) (.c 1)) (.n (.v 0)))) (.and (.ile (.c 0) (.v 0)) (.ile (.add (.v 0) (.c 1)) (.c 7))))) (by kernel_rfl)
theorem o489 {x0 : Nat} {x1 : Nat} : (x1 ≤ 7) → ((x0 + 1) ≤ x1) → (x0 ≤ 20) := Ln.lin [] [x0, x1] (.imp (.le (.v 1) (.c 7)) (.imp (.le (.add (.v 0) (.c 1)) (.v 1)) (.le (.v 0) (.c 20)))) (by kernel_rfl)
theorem o490 {x0 : Nat} : ((x0 + 1) ≤ (x0 + 5)) := Ln.lin [] [x0] (.le (.add (.v 0) (.c 1)) (.add (.v 0) (.c 5))) (by kernel_rfl)
theorem o491 {x0 : Nat} {x1 : Nat} {x2 : Nat} : (x0 ≤ 8900) → (x2 ≤ 7) → (x1 ≤ x2) → ((x0 + x1) ≤ 9000) := Ln.lin [] [x0, x1, x2] (.imp (.le (.v 0) (.c 8900)) (.imp (.le (.v 2) (.c 7)) (.imp (.le (.v 1) (.v 2)) (.le (.add (.v 0) (.v 1)) (.c 9000))))) (by kernel_rfl)
theorem o492 {x0 : Nat} {x1 : Nat} {x2 : Nat} : (x2 ≤ 7) → (x1 = (8 - x0)) → ((x0 + 1) ≤ x2) → ((8 - (x0 + 1)) < x1) := Ln.lin [] [x0, x1, x2, (8 - x0), (8 - (x0 + 1))] (.imp (.or (.and (.le (.c 8) (.v 0)) (.eq (.v 3) (.c 0))) (.eq (.add (.v 0) (.v 3)) (.c 8))) (.imp (.or (.and (.le (.c 8) (.add (.v 0) (.c 1))) (.eq (.v 4) (.c 0))) (.eq (.add (.add (.v 0) (.c 1)) (.v 4)) (.c 8))) (.imp (.le (.v 2) (.c 7)) (.imp (.eq (.v 1) (.v 3)) (.imp (.le (.add (.v 0) (.c 1)) (.v 2)) (.le (.add (.v 4) (.c 1)) (.v 1))))))) (by kernel_rfl) (Ln.sub_or 8 x0) (Ln.sub_or 8 (x0 + 1))
theorem o493 {x0 : Nat} {x1 : Nat} : (x1 < 200) → (170 ≤ x1) → ((x0 = 1) ∨ (x0 = x1)) → ((x0 < 10) ∨ (((32 ≤ x0) ∧ (x0 < 100)) ∨ ((150 ≤ x0) ∧ (x0 < 1000)))) := Ln.lin [] [x0, x1] (.imp (.le (.add (.v 1) (.c 1)) (.c 200)) (.imp (.le (.c 170) (.v 1)) (.imp (.or (.eq (.v 0) (.c 1)) (.eq (.v 0) (.v 1))) (.or (.le (.add (.v 0) (.c 1)) (.c 10)) (.or (.and (.le (.c 32) (.v 0)) (.le (.add (.v 0) (.c 1)) (.c 100))) (.and (.le (.c 150) (.v 0)) (.le (.add (.v 0) (.c 1)) (.c 1000)))))))) (by kernel_rfl)
theorem o494 {x0 : Nat} : (170 ≤ x0) → (¬ ((5 = 1) ∨ (5 = x0))) := Ln.lin [] [x0] (.imp (.le (.c 170) (.v 0)) (.no (.or (.eq (.c 5) (.c 1)) (.eq (.c 5) (.v 0))))) (by kernel_rfl)
theorem o495 {x0 : Nat} : (170 ≤ x0) → (¬ ((6 = 1) ∨ (6 = x0))) := Ln.lin [] [x0] (.imp (.le (.c 170) (.v 0)) (.no (.or (.eq (.c 6) (.c 1)) (.eq (.c 6) (.v 0))))) (by kernel_rfl)
theorem o496 {x0 : Nat} : (x0 < 200) → (¬ ((300 = 1) ∨ (300 = x0))) := Ln.lin [] [x0] (.imp (.le (.add (.v 0) (.c 1)) (.c 200)) (.no (.or (.eq (.c 300) (.c 1)) (.eq (.c 300) (.v 0))))) (by kernel_rfl)
theorem o497 {x0 : Nat} : (x0 < 200) → (¬ ((301 = 1) ∨ (301 = x0))) := Ln.lin [] [x0] (.imp (.le (.add (.v 0) (.c 1)) (.c 200)) (.no (.or (.eq (.c 301) (.c 1)) (.eq (.c 301) (.v 0))))) (by kernel_rfl)
theorem o498 {x0 : Nat} : (x0 < 170) → (x0 < 1000) := Ln.lin [] [x0] (.imp (.le (.add (.v 0) (.c 1)) (.c 170)) (.le (.add (.v 0) (.c 1)) (.c 1000))) (by kernel_rfl)
theorem o499 {x0 : Nat} {x1 : Nat} : (170 ≤ x1) → (160 ≤ x0) → (x0 < 170) → (¬ ((x0 = 1) ∨ (x0 = x1))) := Ln.lin [] [x0, x1] (.imp (.le (.c 170) (.v 1)) (.imp (.le (.c 160) (.v 0)) (.imp (.le (.add (.v 0) (.c 1)) (.c 170)) (.no (.or (.eq (.v 0) (.c 1)) (.eq (.v 0) (.v 1))))))) (by kernel_rfl)
theorem o500 {x0 : Nat} : (x0 < 200) → (x0 < 1000) := Ln.lin [] [x0] (.imp (.le (.add (.v 0) (.c 1)) (.c 200)) (.le (.add (.v 0) (.c 1)) (.c 1000))) (by kernel_rfl)
theorem o501 {x0 : Nat} {x1 : Nat} : (170 ≤ x1) → ((x1 + 1) ≤ x0) → (¬ ((x0 = 1) ∨ (x0 = x1))) := Ln.lin [] [x0, x1] (.imp (.le (.c 170) (.v 1)) (.imp (.le (.add (.v 1) (.c 1)) (.v 0)) (.no (.or (.eq (.v 0) (.c 1)) (.eq (.v 0) (.v 1)))))) (by kernel_rfl)
theorem o502 {x0 : Nat} : (170 ≤ x0) → (170 ≤ (x0 + 1)) := Ln.lin [] [x0] (.imp (.le (.c 170) (.v 0)) (.le (.c 170) (.add (.v 0) (.c 1)))) (by kernel_rfl)
theorem o503 {x0 : Nat} : (160 ≤ x0) → (¬ (x0 = 1)) := Ln.lin [] [x0] (.imp (.le (.c 160) (.v 0)) (.no (.eq (.v 0) (.c 1)))) (by kernel_rfl)
theorem o504 {x0 : Nat} {x1 : Nat} : (170 ≤ x1) → (x1 ≤ x0) → (¬ (x0 = 1)) := Ln.lin [] [x0, x1] (.imp (.le (.c 170) (.v 1)) (.imp (.le (.v 1) (.v 0)) (.no (.eq (.v 0) (.c 1))))) (by kernel_rfl)
theorem o505 {x0 : Nat} : (160 ≤ x0) → (x0 ≠ 5) := Ln.lin [] [x0] (.imp (.le (.c 160) (.v 0)) (.no (.eq (.v 0) (.c 5)))) (by kernel_rfl)
theorem o506 {x0 : Nat} {x1 : Nat} : (170 ≤ x1) → (x1 ≤ x0) → (x0 ≠ 5) := Ln.lin [] [x0, x1] (.imp (.le (.c 170) (.v 1)) (.imp (.le (.v 1) (.v 0)) (.no (.eq (.v 0) (.c 5))))) (by kernel_rfl)
theorem o507 {x0 : Nat} : (x0 ≤ 63) → (x0 ≤ 1000) := Ln.lin [] [x0] (.imp (.le (.v 0) (.c 63)) (.le (.v 0) (.c 1000))) (by kernel_rfl)
theorem o508 {x0 : Nat} : ((min 50 x0) ≤ 1000) := Ln.lin [] [x0, (min 50 x0)] (.imp (.or (.and (.le (.c 50) (.v 0)) (.eq (.v 1) (.c 50))) (.and (.le (.v 0) (.c 50)) (.eq (.v 1) (.v 0)))) (.le (.v 1) (.c 1000))) (by kernel_rfl) (Ln.min_or 50 x0)
theorem o509 {x0 : Nat} {x1 : Nat} : (x0 = (min 50 x1)) → (x0 ≤ 50) := Ln.lin [] [x0, x1, (min 50 x1)] (.imp (.or (.and (.le (.c 50) (.v 1)) (.eq (.v 2) (.c 50))) (.and (.le (.v 1) (.c 50)) (.eq (.v 2) (.v 1)))) (.imp (.eq (.v 0) (.v 2)) (.le (.v 0) (.c 50)))) (by kernel_rfl) (Ln.min_or 50 x1)
theorem o510 {x0 : Nat} : (5 ≤ x0) → (x0 ≠ 1) := Ln.lin [] [x0] (.imp (.le (.c 5) (.v 0)) (.no (.eq (.v 0) (.c 1)))) (by kernel_rfl)
theorem o511 {x0 : Nat} : (5 ≤ x0) → (x0 ≠ 2) := Ln.lin [] [x0] (.imp (.le (.c 5) (.v 0)) (.no (.eq (.v 0) (.c 2)))) (by kernel_rfl)
theorem o512 {x0 : Nat} : (5 ≤ x0) → (x0 ≠ 4) := Ln.lin [] [x0] (.imp (.le (.c 5) (.v 0)) (.no (.eq (.v 0) (.c 4)))) (by kernel_rfl)
theorem o513 {x0 : Nat} : (10 ≤ x0) → (5 ≤ x0) := Ln.lin [] [x0] (.imp (.le (.c 10) (.v 0)) (.le (.c 5) (.v 0))) (by kernel_rfl)
theorem o514 {x0 : Nat} : (x0 < 1000) → (x0 ≠ 1) → (¬ ((10 ≤ x0) ∧ (x0 < 150))) → (¬ ((x0 = 1) ∨ (((10 ≤ x0) ∧ (x0 < 150)) ∨ (1000 ≤ x0)))) := Ln.lin [] [x0] (.imp (.le (.add (.v 0) (.c 1)) (.c 1000)) (.imp (.no (.eq (.v 0) (.c 1))) (.imp (.no (.and (.le (.c 10) (.v 0)) (.le (.add (.v 0) (.c 1)) (.c 150)))) (.no (.or (.eq (.v 0) (.c 1)) (.or (.and (.le (.c 10) (.v 0)) (.le (.add (.v 0) (.c 1)) (.c 150))) (.le (.c 1000) (.v 0)))))))) (by kernel_rfl)
theorem o515 {x0 : Nat} : (6 ≤ x0) → (x0 ≠ 5) := Ln.lin [] [x0] (.imp (.le (.c 6) (.v 0)) (.no (.eq (.v 0) (.c 5)))) (by kernel_rfl)
theorem o516 {x0 : Nat} : (6 ≤ x0) → (x0 ≠ 1) := Ln.lin [] [x0] (.imp (.le (.c 6) (.v 0)) (.no (.eq (.v 0) (.c 1)))) (by kernel_rfl)
theorem o517 {x0 : Nat} : (6 ≤ x0) → (5 ≤ x0) := Ln.lin [] [x0] (.imp (.le (.c 6) (.v 0)) (.le (.c 5) (.v 0))) (by kernel_rfl)
theorem o518 {x0 : Nat} : (((x0 + 6) + 2) ≤ (x0 + 8)) := Ln.lin [] [x0] (.le (.add (.add (.v 0) (.c 6)) (.c 2)) (.add (.v 0) (.c 8))) (by kernel_rfl)
theorem o519 {x0 : Nat} : (160 ≤ x0) → (x0 ≠ 6) := Ln.lin [] [x0] (.imp (.le (.c 160) (.v 0)) (.no (.eq (.v 0) (.c 6)))) (by kernel_rfl)
theorem o520 {x0 : Nat} : (160 ≤ x0) → (6 ≤ x0) := Ln.lin [] [x0] (.imp (.le (.c 160) (.v 0)) (.le (.c 6) (.v 0))) (by kernel_rfl)
theorem o521 {x0 : Nat} : (160 ≤ x0) → (¬ ((10 ≤ x0) ∧ (x0 < 150))) := Ln.lin [] [x0] (.imp (.le (.c 160) (.v 0)) (.no (.and (.le (.c 10) (.v 0)) (.le (.add (.v 0) (.c 1)) (.c 150))))) (by kernel_rfl)
theorem o522 {x0 : Nat} : (170 ≤ x0) → (x0 ≠ 6) := Ln.lin [] [x0] (.imp (.le (.c 170) (.v 0)) (.no (.eq (.v 0) (.c 6)))) (by kernel_rfl)
theorem o523 {x0 : Nat} : (170 ≤ x0) → (6 ≤ x0) := Ln.lin [] [x0] (.imp (.le (.c 170) (.v 0)) (.le (.c 6) (.v 0))) (by kernel_rfl)
theorem o524 {x0 : Nat} : (170 ≤ x0) → (¬ ((10 ≤ x0) ∧ (x0 < 150))) := Ln.lin [] [x0] (.imp (.le (.c 170) (.v 0)) (.no (.and (.le (.c 10) (.v 0)) (.le (.add (.v 0) (.c 1)) (.c 150))))) (by kernel_rfl)
theorem o525 {x0 : Nat} : (((x0 + 4) + 4) ≤ (x0 + 8)) := Ln.lin [] [x0] (.le (.add (.add (.v 0) (.c 4)) (.c 4)) (.add (.v 0) (.c 8))) (by kernel_rfl)
theorem o526 {x0 : Nat} : (((x0 + 7) + 1) ≤ (x0 + 8)) := Ln.lin [] [x0] (.le (.add (.add (.v 0) (.c 7)) (.c 1)) (.add (.v 0) (.c 8))) (by kernel_rfl)
theorem o527 {x0 : Nat} {x1 : Nat} {x2 : Nat} : (x1 ≤ 7) → (x2 ≤ x1) → (x0 < x2) → ((100 + x0) ≤ 9000) := Ln.lin [] [x0, x1, x2] (.imp (.le (.v 1) (.c 7)) (.imp (.le (.v 2) (.v 1)) (.imp (.le (.add (.v 0) (.c 1)) (.v 2)) (.le (.add (.c 100) (.v 0)) (.c 9000))))) (by kernel_rfl)
theorem o528 {x0 : Nat} : ((0 : Int) ≤ ((x0 : Nat) : Int)) := Ln.lin [] [x0] (.ile (.c 0) (.n (.v 0))) (by kernel_rfl)
theorem o529 {x0 : Nat} {x1 : Nat} : (x0 = x1) → (0 < x1) → (((x0 : Nat) : Int) ≠ (0 : Int)) := Ln.lin [] [x0, x1] (.imp (.eq (.v 0) (.v 1)) (.imp (.le (.add (.c 0) (.c 1)) (.v 1)) (.no (.ieq (.n (.v 0)) (.c 0))))) (by kernel_rfl)
theorem o530 {x0 : Nat} {x1 : Nat} : (x0 = x1) → (0 < x1) → ((0 : Int) < ((x0 : Nat) : Int)) := Ln.lin [] [x0, x1] (.imp (.eq (.v 0) (.v 1)) (.imp (.le (.add (.c 0) (.c 1)) (.v 1)) (.ile (.add (.c 0) (.c 1)) (.n (.v 0))))) (by kernel_rfl)
theorem o531 {x0 : Int} {x1 : Nat} {x2 : Nat} : (x2 = x1) → ((0 : Int) ≤ x0) → (x0 < ((x2 : Nat) : Int)) → ((Int.toNat x0) < x1) := Ln.lin [x0] [x1, x2, (Int.toNat x0)] (.imp (.or (.and (.ile (.v 0) (.c 0)) (.eq (.v 2) (.c 0))) (.ieq (.n (.v 2)) (.v 0))) (.imp (.eq (.v 1) (.v 0)) (.imp (.ile (.c 0) (.v 0)) (.imp (.ile (.add (.v 0) (.c 1)) (.n (.v 1))) (.le (.add (.v 2) (.c 1)) (.v 0)))))) (by kernel_rfl) (Ln.toNat_or x0)
theorem o532 {x0 : Nat} {x1 : Int} : ((0 : Int) ≤ x1) → (x1 < ((x0 : Nat) : Int)) → (((x0 : Nat) : Int) ≠ (0 : Int)) := Ln.lin [x1] [x0] (.imp (.ile (.c 0) (.v 0)) (.imp (.ile (.add (.v 0) (.c 1)) (.n (.v 0))) (.no (.ieq (.n (.v 0)) (.c 0))))) (by kernel_rfl)
theorem o533 {x0 : Nat} {x1 : Nat} {x2 : Nat} {x3 : Nat} {x4 : Nat} : (x1 ≤ 7) → (x2 ≤ x1) → (x3 ≤ x4) → (x4 < x2) → (x0 = x3) → (x0 ≤ 1000) := Ln.lin [] [x0, x1, x2, x3, x4] (.imp (.le (.v 1) (.c 7)) (.imp (.le (.v 2) (.v 1)) (.imp (.le (.v 3) (.v 4)) (.imp (.le (.add (.v 4) (.c 1)) (.v 2)) (.imp (.eq (.v 0) (.v 3)) (.le (.v 0) (.c 1000))))))) (by kernel_rfl)
theorem o534 {x0 : Nat} {x1 : Nat} {x2 : Nat} {x3 : Nat} : (x1 ≤ 7) → (x2 ≤ x1) → (x0 ≤ x3) → (x3 < x2) → ((x0 + 1) ≤ 8) := Ln.lin [] [x0, x1, x2, x3] (.imp (.le (.v 1) (.c 7)) (.imp (.le (.v 2) (.v 1)) (.imp (.le (.v 0) (.v 3)) (.imp (.le (.add (.v 3) (.c 1)) (.v 2)) (.le (.add (.v 0) (.c 1)) (.c 8)))))) (by kernel_rfl)
theorem o535 {x0 : Nat} {x1 : Nat} : (x1 ≤ 7) → (x0 ≤ x1) → ((100 + x0) ≤ 110) := Ln.lin [] [x0, x1] (.imp (.le (.v 1) (.c 7)) (.imp (.le (.v 0) (.v 1)) (.le (.add (.c 100) (.v 0)) (.c 110)))) (by kernel_rfl)
theorem o536 {x0 : Nat} {x1 : Nat} : (x0 = x1) → (x1 ≤ 8) → (x0 ≤ 1000) := Ln.lin [] [x0, x1] (.imp (.eq (.v 0) (.v 1)) (.imp (.le (.v 1) (.c 8)) (.le (.v 0) (.c 1000)))) (by kernel_rfl)
theorem o537 {x0 : Nat} {x1 : Nat} : (x1 = (170 + x0)) → ((170 + x0) ≤ x1) := Ln.lin [] [x0, x1] (.imp (.eq (.v 1) (.add (.c 170) (.v 0))) (.le (.add (.c 170) (.v 0)) (.v 1))) (by kernel_rfl)
theorem o538 {x0 : Nat} {x1 : Nat} : (x1 < 2) → (x0 = (170 + x1)) → (x0 < 200) := Ln.lin [] [x0, x1] (.imp (.le (.add (.v 1) (.c 1)) (.c 2)) (.imp (.eq (.v 0) (.add (.c 170) (.v 1))) (.le (.add (.v 0) (.c 1)) (.c 200)))) (by kernel_rfl)
theorem o539 {x0 : Nat} : (x0 < 2) → ((110 + (5 * x0)) ≤ 9000) := Ln.lin [] [x0] (.imp (.le (.add (.v 0) (.c 1)) (.c 2)) (.le (.add (.c 110) (.mul 5 (.v 0))) (.c 9000))) (by kernel_rfl)
theorem o540 {x0 : Nat} {x1 : Nat} : (x1 < 2) → (x0 = (170 + x1)) → (x0 < 1000) := Ln.lin [] [x0, x1] (.imp (.le (.add (.v 1) (.c 1)) (.c 2)) (.imp (.eq (.v 0) (.add (.c 170) (.v 1))) (.le (.add (.v 0) (.c 1)) (.c 1000)))) (by kernel_rfl)
theorem o541 {x0 : Nat} {x1 : Nat} : (x0 = (170 + x1)) → (¬ (x0 = 1)) := Ln.lin [] [x0, x1] (.imp (.eq (.v 0) (.add (.c 170) (.v 1))) (.no (.eq (.v 0) (.c 1)))) (by kernel_rfl)
theorem o542 {x0 : Nat} {x1 : Nat} : (x0 = (170 + x1)) → (1 ≠ x0) := Ln.lin [] [x0, x1] (.imp (.eq (.v 0) (.add (.c 170) (.v 1))) (.no (.eq (.c 1) (.v 0)))) (by kernel_rfl)
theorem o543 {x0 : Nat} {x1 : Nat} : (x0 = (170 + x1)) → (2 ≠ x0) := Ln.lin [] [x0, x1] (.imp (.eq (.v 0) (.add (.c 170) (.v 1))) (.no (.eq (.c 2) (.v 0)))) (by kernel_rfl)
theorem o544 {x0 : Nat} : (¬ ((6 = 1) ∨ (6 = (170 + x0)))) := Ln.lin [] [x0] (.no (.or (.eq (.c 6) (.c 1)) (.eq (.c 6) (.add (.c 170) (.v 0))))) (by kernel_rfl)
theorem o545 {x0 : Nat} {x1 : Nat} {x2 : Nat} : (x1 ≤ 7) → (x2 ≤ x1) → (x0 = x2) → (x0 ≤ 1000) := Ln.lin [] [x0, x1, x2] (.imp (.le (.v 1) (.c 7)) (.imp (.le (.v 2) (.v 1)) (.imp (.eq (.v 0) (.v 2)) (.le (.v 0) (.c 1000))))) (by kernel_rfl)
theorem o546 {x0 : Nat} {x1 : Nat} : (x0 < 2) → (x1 < 2) → ((((110 + (5 * x0)) + 1) + x1) ≤ 9000) := Ln.lin [] [x0, x1] (.imp (.le (.add (.v 0) (.c 1)) (.c 2)) (.imp (.le (.add (.v 1) (.c 1)) (.c 2)) (.le (.add (.add (.add (.c 110) (.mul 5 (.v 0))) (.c 1)) (.v 1)) (.c 9000)))) (by kernel_rfl)
theorem o547 {x0 : Nat} {x1 : Nat} : (((((110 + (5 * x0)) + 1) + x1) + 1) ≤ (((110 + (5 * x0)) + 1) + (x1 + 1))) := Ln.lin [] [x0, x1] (.le (.add (.add (.add (.add (.c 110) (.mul 5 (.v 0))) (.c 1)) (.v 1)) (.c 1)) (.add (.add (.add (.c 110) (.mul 5 (.v 0))) (.c 1)) (.add (.v 1) (.c 1)))) (by kernel_rfl)
theorem o548 {x0 : Nat} {x1 : Int} : (((1 : Int) + x1) ≤ (2 : Int)) → (x0 = (Int.toNat ((1 : Int) + x1))) → (x0 ≤ 2) := Ln.lin [x1] [x0, (Int.toNat ((1 : Int) + x1))] (.imp (.or (.and (.ile (.add (.c 1) (.v 0)) (.c 0)) (.eq (.v 1) (.c 0))) (.ieq (.n (.v 1)) (.add (.c 1) (.v 0)))) (.imp (.ile (.add (.c 1) (.v 0)) (.c 2)) (.imp (.eq (.v 0) (.v 1)) (.le (.v 0) (.c 2))))) (by kernel_rfl) (Ln.toNat_or ((1 : Int) + x1))
theorem o549 {x0 : Nat} : (x0 < 2) → ((170 + x0) < 200) := Ln.lin [] [x0] (.imp (.le (.add (.v 0) (.c 1)) (.c 2)) (.le (.add (.add (.c 170) (.v 0)) (.c 1)) (.c 200))) (by kernel_rfl)
theorem o550 {x0 : Nat} {x1 : Nat} : (1000 ≤ x0) → (x1 < 2) → (¬ ((x0 = 1) ∨ (x0 = (170 + x1)))) := Ln.lin [] [x0, x1] (.imp (.le (.c 1000) (.v 0)) (.imp (.le (.add (.v 1) (.c 1)) (.c 2)) (.no (.or (.eq (.v 0) (.c 1)) (.eq (.v 0) (.add (.c 170) (.v 1))))))) (by kernel_rfl)
theorem o551 {x0 : Nat} {x1 : Nat} : (x1 ≤ 2) → ((((110 + (5 * x0)) + 1) + x1) ≤ ((110 + (5 * x0)) + 3)) := Ln.lin [] [x0, x1] (.imp (.le (.v 1) (.c 2)) (.le (.add (.add (.add (.c 110) (.mul 5 (.v 0))) (.c 1)) (.v 1)) (.add (.add (.c 110) (.mul 5 (.v 0))) (.c 3)))) (by kernel_rfl)
theorem o552 {x0 : Nat} : (x0 ≤ 2) → (x0 ≤ 60) := Ln.lin [] [x0] (.imp (.le (.v 0) (.c 2)) (.le (.v 0) (.c 60))) (by kernel_rfl)
theorem o553 {x0 : Nat} : (1000 ≤ x0) → (6 ≠ x0) := Ln.lin [] [x0] (.imp (.le (.c 1000) (.v 0)) (.no (.eq (.c 6) (.v 0)))) (by kernel_rfl)
theorem o554 {x0 : Nat} : (2 ≤ (x0 + 8)) := Ln.lin [] [x0] (.le (.c 2) (.add (.v 0) (.c 8))) (by kernel_rfl)
theorem o555 {x0 : Nat} {x1 : Nat} {x2 : Nat} : (x1 ≤ (2 * x2)) → (x2 ≤ 8) → (x0 ≤ 2) → ((x0 + x1) ≤ 500) := Ln.lin [] [x0, x1, x2] (.imp (.le (.v 1) (.mul 2 (.v 2))) (.imp (.le (.v 2) (.c 8)) (.imp (.le (.v 0) (.c 2)) (.le (.add (.v 0) (.v 1)) (.c 500))))) (by kernel_rfl)
theorem o556 {x0 : Nat} : (((110 + (5 * x0)) + 3) ≤ (110 + (5 * (x0 + 1)))) := Ln.lin [] [x0] (.le (.add (.add (.c 110) (.mul 5 (.v 0))) (.c 3)) (.add (.c 110) (.mul 5 (.add (.v 0) (.c 1))))) (by kernel_rfl)
theorem o557 {x0 : Nat} : (((x0 + 2) + 1) ≤ (x0 + 8)) := Ln.lin [] [x0] (.le (.add (.add (.v 0) (.c 2)) (.c 1)) (.add (.v 0) (.c 8))) (by kernel_rfl)
theorem o558 {x0 : Nat} : (¬ ((x0 < 10) ∨ (((32 ≤ x0) ∧ (x0 < 100)) ∨ ((150 ≤ x0) ∧ (x0 < 1000))))) → (x0 ≠ 160) := Ln.lin [] [x0] (.imp (.no (.or (.le (.add (.v 0) (.c 1)) (.c 10)) (.or (.and (.le (.c 32) (.v 0)) (.le (.add (.v 0) (.c 1)) (.c 100))) (.and (.le (.c 150) (.v 0)) (.le (.add (.v 0) (.c 1)) (.c 1000)))))) (.no (.eq (.v 0) (.c 160)))) (by kernel_rfl)
theorem o559 {x0 : Nat} : (¬ ((x0 < 10) ∨ (((32 ≤ x0) ∧ (x0 < 100)) ∨ ((150 ≤ x0) ∧ (x0 < 1000))))) → (x0 ≠ 161) := Ln.lin [] [x0] (.imp (.no (.or (.le (.add (.v 0) (.c 1)) (.c 10)) (.or (.and (.le (.c 32) (.v 0)) (.le (.add (.v 0) (.c 1)) (.c 100))) (.and (.le (.c 150) (.v 0)) (.le (.add (.v 0) (.c 1)) (.c 1000)))))) (.no (.eq (.v 0) (.c 161)))) (by kernel_rfl)
theorem o560 {x0 : Nat} : (¬ ((x0 < 10) ∨ (((32 ≤ x0) ∧ (x0 < 100)) ∨ ((150 ≤ x0) ∧ (x0 < 1000))))) → (x0 ≠ 162) := Ln.lin [] [x0] (.imp (.no (.or (.le (.add (.v 0) (.c 1)) (.c 10)) (.or (.and (.le (.c 32) (.v 0)) (.le (.add (.v 0) (.c 1)) (.c 100))) (.and (.le (.c 150) (.v 0)) (.le (.add (.v 0) (.c 1)) (.c 1000)))))) (.no (.eq (.v 0) (.c 162)))) (by kernel_rfl)
theorem o561 {x0 : Nat} : (¬ ((x0 < 10) ∨ (((32 ≤ x0) ∧ (x0 < 100)) ∨ ((150 ≤ x0) ∧ (x0 < 1000))))) → (¬ ((x0 = 161) ∨ (x0 = 163))) := Ln.lin [] [x0] (.imp (.no (.or (.le (.add (.v 0) (.c 1)) (.c 10)) (.or (.and (.le (.c 32) (.v 0)) (.le (.add (.v 0) (.c 1)) (.c 100))) (.and (.le (.c 150) (.v 0)) (.le (.add (.v 0) (.c 1)) (.c 1000)))))) (.no (.or (.eq (.v 0) (.c 161)) (.eq (.v 0) (.c 163))))) (by kernel_rfl)
theorem o562 {x0 : Nat} : (¬ ((160 ≤ x0) ∧ (x0 < 170))) → (x0 ≠ 160) := Ln.lin [] [x0] (.imp (.no (.and (.le (.c 160) (.v 0)) (.le (.add (.v 0) (.c 1)) (.c 170)))) (.no (.eq (.v 0) (.c 160)))) (by kernel_rfl)
theorem o563 {x0 : Nat} : (¬ ((160 ≤ x0) ∧ (x0 < 170))) → (x0 ≠ 161) := Ln.lin [] [x0] (.imp (.no (.and (.le (.c 160) (.v 0)) (.le (.add (.v 0) (.c 1)) (.c 170)))) (.no (.eq (.v 0) (.c 161)))) (by kernel_rfl)
theorem o564 {x0 : Nat} : (¬ ((160 ≤ x0) ∧ (x0 < 170))) → (x0 ≠ 162) := Ln.lin [] [x0] (.imp (.no (.and (.le (.c 160) (.v 0)) (.le (.add (.v 0) (.c 1)) (.c 170)))) (.no (.eq (.v 0) (.c 162)))) (by kernel_rfl)
theorem o565 {x0 : Nat} : (¬ ((160 ≤ x0) ∧ (x0 < 170))) → (¬ ((x0 = 161) ∨ (x0 = 163))) := Ln.lin [] [x0] (.imp (.no (.and (.le (.c 160) (.v 0)) (.le (.add (.v 0) (.c 1)) (.c 170)))) (.no (.or (.eq (.v 0) (.c 161)) (.eq (.v 0) (.c 163))))) (by kernel_rfl)
theorem o566 {x0 : Nat} : (((x0 + 2) + 6) ≤ (x0 + 8)) := Ln.lin [] [x0] (.le (.add (.add (.v 0) (.c 2)) (.c 6)) (.add (.v 0) (.c 8))) (by kernel_rfl)
theorem o567 {x0 : Nat} {x1 : Nat} {x2 : Nat} {x3 : Nat} : (x2 ≤ 7) → (x3 ≤ x2) → (x1 ≤ (2 * x3)) → (x0 ≤ 2) → ((x0 + x1) ≤ 500) := Ln.lin [] [x0, x1, x2, x3] (.imp (.le (.v 2) (.c 7)) (.imp (.le (.v 3) (.v 2)) (.imp (.le (.v 1) (.mul 2 (.v 3))) (.imp (.le (.v 0) (.c 2)) (.le (.add (.v 0) (.v 1)) (.c 500)))))) (by kernel_rfl)
theorem o568 {x0 : Nat} : (1000 ≤ x0) → (300 ≠ x0) := Ln.lin [] [x0] (.imp (.le (.c 1000) (.v 0)) (.no (.eq (.c 300) (.v 0)))) (by kernel_rfl)
theorem o569 {x0 : Nat} : (1000 ≤ x0) → (301 ≠ x0) := Ln.lin [] [x0] (.imp (.le (.c 1000) (.v 0)) (.no (.eq (.c 301) (.v 0)))) (by kernel_rfl)
theorem o570 {x0 : Nat} {x1 : Nat} {x2 : Nat} : (x1 ≤ 7) → (x2 ≤ x1) → (x0 ≤ (2 * x2)) → ((1 + x0) ≤ 500) := Ln.lin [] [x0, x1, x2] (.imp (.le (.v 1) (.c 7)) (.imp (.le (.v 2) (.v 1)) (.imp (.le (.v 0) (.mul 2 (.v 2))) (.le (.add (.c 1) (.v 0)) (.c 500))))) (by kernel_rfl)
theorem o571 {x0 : Nat} : (¬ ((63 : Int) < ((x0 : Nat) : Int))) → (x0 ≤ 63) := Ln.lin [] [x0] (.imp (.no (.ile (.add (.c 63) (.c 1)) (.n (.v 0)))) (.le (.v 0) (.c 63))) (by kernel_rfl)
theorem o572 {x0 : Nat} {x1 : Nat} : ((x0 + x1) ≤ 500) → (x0 ≤ 1000) := Ln.lin [] [x0, x1] (.imp (.le (.add (.v 0) (.v 1)) (.c 500)) (.le (.v 0) (.c 1000))) (by kernel_rfl)
theorem o573 {x0 : Nat} {x1 : Nat} {x2 : Nat} : (x1 = (x0 + x2)) → (x1 ≤ 500) → (x0 ≤ 1000) := Ln.lin [] [x0, x1, x2] (.imp (.eq (.v 1) (.add (.v 0) (.v 2))) (.imp (.le (.v 1) (.c 500)) (.le (.v 0) (.c 1000)))) (by kernel_rfl)
theorem o574 {x0 : Nat} {x1 : Nat} {x2 : Nat} : (x1 ≤ 500) → (x1 = ((x0 + 1) + x2)) → (x0 ≤ 1000) := Ln.lin [] [x0, x1, x2] (.imp (.le (.v 1) (.c 500)) (.imp (.eq (.v 1) (.add (.add (.v 0) (.c 1)) (.v 2))) (.le (.v 0) (.c 1000)))) (by kernel_rfl)
theorem o575 {x0 : Nat} {x1 : Nat} {x2 : Nat} : (x0 = ((x1 + 1) + x2)) → ((x0 - 1) < x0) := Ln.lin [] [x0, x1, x2, (x0 - 1)] (.imp (.or (.and (.le (.v 0) (.c 1)) (.eq (.v 3) (.c 0))) (.eq (.add (.c 1) (.v 3)) (.v 0))) (.imp (.eq (.v 0) (.add (.add (.v 1) (.c 1)) (.v 2))) (.le (.add (.v 3) (.c 1)) (.v 0)))) (by kernel_rfl) (Ln.sub_or x0 1)
theorem o576 {x0 : Nat} {x1 : Nat} {x2 : Nat} : (x0 = ((x1 + 1) + x2)) → ((x0 - 1) = (x1 + x2)) := Ln.lin [] [x0, x1, x2, (x0 - 1)] (.imp (.or (.and (.le (.v 0) (.c 1)) (.eq (.v 3) (.c 0))) (.eq (.add (.c 1) (.v 3)) (.v 0))) (.imp (.eq (.v 0) (.add (.add (.v 1) (.c 1)) (.v 2))) (.eq (.v 3) (.add (.v 1) (.v 2))))) (by kernel_rfl) (Ln.sub_or x0 1)
theorem o577 {x0 : Nat} : (x0 ≤ 500) → ((x0 - 1) ≤ 500) := Ln.lin [] [x0, (x0 - 1)] (.imp (.or (.and (.le (.v 0) (.c 1)) (.eq (.v 1) (.c 0))) (.eq (.add (.c 1) (.v 1)) (.v 0))) (.imp (.le (.v 0) (.c 500)) (.le (.v 1) (.c 500)))) (by kernel_rfl) (Ln.sub_or x0 1)
theorem o578 {x0 : Nat} {x1 : Nat} : (x0 ≤ (500 - x1)) → (x0 ≤ (500 - (x1 - 1))) := Ln.lin [] [x0, x1, (500 - x1), (x1 - 1), (500 - (x1 - 1))] (.imp (.or (.and (.le (.c 500) (.v 1)) (.eq (.v 2) (.c 0))) (.eq (.add (.v 1) (.v 2)) (.c 500))) (.imp (.or (.and (.le (.v 1) (.c 1)) (.eq (.v 3) (.c 0))) (.eq (.add (.c 1) (.v 3)) (.v 1))) (.imp (.or (.and (.le (.c 500) (.v 3)) (.eq (.v 4) (.c 0))) (.eq (.add (.v 3) (.v 4)) (.c 500))) (.imp (.le (.v 0) (.v 2)) (.le (.v 0) (.v 4)))))) (by kernel_rfl) (Ln.sub_or 500 x1) (Ln.sub_or x1 1) (Ln.sub_or 500 (x1 - 1))
theorem o579 {x0 : Nat} {x1 : Nat} : (x0 ≤ (500 - x1)) → (x0 ≤ 1000) := Ln.lin [] [x0, x1, (500 - x1)] (.imp (.or (.and (.le (.c 500) (.v 1)) (.eq (.v 2) (.c 0))) (.eq (.add (.v 1) (.v 2)) (.c 500))) (.imp (.le (.v 0) (.v 2)) (.le (.v 0) (.c 1000)))) (by kernel_rfl) (Ln.sub_or 500 x1)
theorem o580 {x0 : Nat} {x1 : Nat} {x2 : Nat} {x3 : Nat} {x4 : Nat} : (x3 = ((x0 + 1) + x4)) → ((x2 + x1) ≤ x4) → (((x0 + x1) + x2) < x3) := Ln.lin [] [x0, x1, x2, x3, x4] (.imp (.eq (.v 3) (.add (.add (.v 0) (.c 1)) (.v 4))) (.imp (.le (.add (.v 2) (.v 1)) (.v 4)) (.le (.add (.add (.add (.v 0) (.v 1)) (.v 2)) (.c 1)) (.v 3)))) (by kernel_rfl)
theorem o581 {x0 : Nat} {x1 : Nat} {x2 : Nat} {x3 : Nat} {x4 : Nat} : (x3 ≤ 500) → (x3 = ((x0 + 1) + x4)) → ((x2 + x1) ≤ x4) → (((x0 + x1) + x2) ≤ 500) := Ln.lin [] [x0, x1, x2, x3, x4] (.imp (.le (.v 3) (.c 500)) (.imp (.eq (.v 3) (.add (.add (.v 0) (.c 1)) (.v 4))) (.imp (.le (.add (.v 2) (.v 1)) (.v 4)) (.le (.add (.add (.v 0) (.v 1)) (.v 2)) (.c 500))))) (by kernel_rfl)
theorem o582 {x0 : Nat} {x1 : Nat} {x2 : Nat} {x3 : Nat} {x4 : Nat} {x5 : Nat} : (x4 ≤ 500) → (x0 ≤ (500 - x4)) → (x4 = ((x1 + 1) + x5)) → ((x3 + x2) ≤ x5) → ((x0 + 1) ≤ (500 - ((x1 + x2) + x3))) := Ln.lin [] [x0, x1, x2, x3, x4, x5, (500 - x4), (500 - ((x1 + x2) + x3))] (.imp (.or (.and (.le (.c 500) (.v 4)) (.eq (.v 6) (.c 0))) (.eq (.add (.v 4) (.v 6)) (.c 500))) (.imp (.or (.and (.le (.c 500) (.add (.add (.v 1) (.v 2)) (.v 3))) (.eq (.v 7) (.c 0))) (.eq (.add (.add (.add (.v 1) (.v 2)) (.v 3)) (.v 7)) (.c 500))) (.imp (.le (.v 4) (.c 500)) (.imp (.le (.v 0) (.v 6)) (.imp (.eq (.v 4) (.add (.add (.v 1) (.c 1)) (.v 5))) (.imp (.le (.add (.v 3) (.v 2)) (.v 5)) (.le (.add (.v 0) (.c 1)) (.v 7)))))))) (by kernel_rfl) (Ln.sub_or 500 x4) (Ln.sub_or 500 ((x1 + x2) + x3))
theorem o583 {x0 : Nat} {x1 : Nat} {x2 : Nat} {x3 : Nat} {x4 : Nat} : (x1 ≤ 500) → (x1 = ((x2 + 1) + x3)) → ((x4 + x0) ≤ x3) → (x0 ≤ 500) := Ln.lin [] [x0, x1, x2, x3, x4] (.imp (.le (.v 1) (.c 500)) (.imp (.eq (.v 1) (.add (.add (.v 2) (.c 1)) (.v 3))) (.imp (.le (.add (.v 4) (.v 0)) (.v 3)) (.le (.v 0) (.c 500))))) (by kernel_rfl)
theorem o584 {x0 : Nat} : (x0 ≤ 500) → (x0 ≤ 1000) := Ln.lin [] [x0] (.imp (.le (.v 0) (.c 500)) (.le (.v 0) (.c 1000))) (by kernel_rfl)
theorem o585 {x0 : Nat} {x1 : Nat} : ((x1 - x0) ≤ 0) → (x0 ≤ x1) → (x0 = x1) := Ln.lin [] [x0, x1, (x1 - x0)] (.imp (.or (.and (.le (.v 1) (.v 0)) (.eq (.v 2) (.c 0))) (.eq (.add (.v 0) (.v 2)) (.v 1))) (.imp (.le (.v 2) (.c 0)) (.imp (.le (.v 0) (.v 1)) (.eq (.v 0) (.v 1))))) (by kernel_rfl) (Ln.sub_or x1 x0)
theorem o586 {x0 : Nat} {x1 : Nat} {x2 : Nat} : (x1 ≤ x2) → (x0 < x1) → (((x0 + x1) / 2) < x2) := Ln.lin [] [x0, x1, x2, ((x0 + x1) / 2)] (.imp (.and (.le (.mul 2 (.v 3)) (.add (.v 0) (.v 1))) (.le (.add (.v 0) (.v 1)) (.add (.mul 2 (.v 3)) (.c 1)))) (.imp (.le (.v 1) (.v 2)) (.imp (.le (.add (.v 0) (.c 1)) (.v 1)) (.le (.add (.v 3) (.c 1)) (.v 2))))) (by kernel_rfl) (Ln.half (x0 + x1))
theorem o587 {x0 : Nat} {x1 : Nat} {x2 : Nat} : ((x0 - x1) ≤ (x2 + 1)) → ((x0 - (((x1 + x0) / 2) + 1)) ≤ x2) := Ln.lin [] [x0, x1, x2, (x0 - x1), ((x1 + x0) / 2), (x0 - (((x1 + x0) / 2) + 1))] (.imp (.or (.and (.le (.v 0) (.v 1)) (.eq (.v 3) (.c 0))) (.eq (.add (.v 1) (.v 3)) (.v 0))) (.imp (.and (.le (.mul 2 (.v 4)) (.add (.v 1) (.v 0))) (.le (.add (.v 1) (.v 0)) (.add (.mul 2 (.v 4)) (.c 1)))) (.imp (.or (.and (.le (.v 0) (.add (.v 4) (.c 1))) (.eq (.v 5) (.c 0))) (.eq (.add (.add (.v 4) (.c 1)) (.v 5)) (.v 0))) (.imp (.le (.v 3) (.add (.v 2) (.c 1))) (.le (.v 5) (.v 2)))))) (by kernel_rfl) (Ln.sub_or x0 x1) (Ln.half (x1 + x0)) (Ln.sub_or x0 (((x1 + x0) / 2) + 1))
theorem o588 {x0 : Nat} {x1 : Nat} : (x0 < x1) → ((((x0 + x1) / 2) + 1) ≤ x1) := Ln.lin [] [x0, x1, ((x0 + x1) / 2)] (.imp (.and (.le (.mul 2 (.v 2)) (.add (.v 0) (.v 1))) (.le (.add (.v 0) (.v 1)) (.add (.mul 2 (.v 2)) (.c 1)))) (.imp (.le (.add (.v 0) (.c 1)) (.v 1)) (.le (.add (.v 2) (.c 1)) (.v 1)))) (by kernel_rfl) (Ln.half (x0 + x1))
theorem o589 {x0 : Nat} {x1 : Nat} {x2 : Nat} : (x0 < (((x1 + x2) / 2) + 1)) → (((x1 + x2) / 2) ≤ x0) → (x0 = ((x1 + x2) / 2)) := Ln.lin [] [x0, x1, x2, ((x1 + x2) / 2)] (.imp (.and (.le (.mul 2 (.v 3)) (.add (.v 1) (.v 2))) (.le (.add (.v 1) (.v 2)) (.add (.mul 2 (.v 3)) (.c 1)))) (.imp (.le (.add (.v 0) (.c 1)) (.add (.v 3) (.c 1))) (.imp (.le (.v 3) (.v 0)) (.eq (.v 0) (.v 3))))) (by kernel_rfl) (Ln.half (x1 + x2))
theorem o590 {x0 : Nat} {x1 : Nat} {x2 : Nat} : ((x1 - x0) ≤ (x2 + 1)) → ((((x0 + x1) / 2) - x0) ≤ x2) := Ln.lin [] [x0, x1, x2, (x1 - x0), ((x0 + x1) / 2), (((x0 + x1) / 2) - x0)] (.imp (.or (.and (.le (.v 1) (.v 0)) (.eq (.v 3) (.c 0))) (.eq (.add (.v 0) (.v 3)) (.v 1))) (.imp (.and (.le (.mul 2 (.v 4)) (.add (.v 0) (.v 1))) (.le (.add (.v 0) (.v 1)) (.add (.mul 2 (.v 4)) (.c 1)))) (.imp (.or (.and (.le (.v 4) (.v 0)) (.eq (.v 5) (.c 0))) (.eq (.add (.v 0) (.v 5)) (.v 4))) (.imp (.le (.v 3) (.add (.v 2) (.c 1))) (.le (.v 5) (.v 2)))))) (by kernel_rfl) (Ln.sub_or x1 x0) (Ln.half (x0 + x1)) (Ln.sub_or ((x0 + x1) / 2) x0)
theorem o591 {x0 : Nat} {x1 : Nat} : (x0 < x1) → (x0 ≤ ((x0 + x1) / 2)) := Ln.lin [] [x0, x1, ((x0 + x1) / 2)] (.imp (.and (.le (.mul 2 (.v 2)) (.add (.v 0) (.v 1))) (.le (.add (.v 0) (.v 1)) (.add (.mul 2 (.v 2)) (.c 1)))) (.imp (.le (.add (.v 0) (.c 1)) (.v 1)) (.le (.v 0) (.v 2)))) (by kernel_rfl) (Ln.half (x0 + x1))
theorem o592 {x0 : Nat} {x1 : Nat} {x2 : Nat} : (((x0 + x1) / 2) < x2) → (((x0 + x1) / 2) ≤ x2) := Ln.lin [] [x0, x1, x2, ((x0 + x1) / 2)] (.imp (.and (.le (.mul 2 (.v 3)) (.add (.v 0) (.v 1))) (.le (.add (.v 0) (.v 1)) (.add (.mul 2 (.v 3)) (.c 1)))) (.imp (.le (.add (.v 3) (.c 1)) (.v 2)) (.le (.v 3) (.v 2)))) (by kernel_rfl) (Ln.half (x0 + x1))
theorem o593 {x0 : Nat} {x1 : Nat} {x2 : Nat} : (((x1 + x2) / 2) ≤ x0) → (x0 ≤ ((x1 + x2) / 2)) → (x0 = ((x1 + x2) / 2)) := Ln.lin [] [x0, x1, x2, ((x1 + x2) / 2)] (.imp (.and (.le (.mul 2 (.v 3)) (.add (.v 1) (.v 2))) (.le (.add (.v 1) (.v 2)) (.add (.mul 2 (.v 3)) (.c 1)))) (.imp (.le (.v 3) (.v 0)) (.imp (.le (.v 0) (.v 3)) (.eq (.v 0) (.v 3))))) (by kernel_rfl) (Ln.half (x1 + x2))
theorem o594 {x0 : Nat} {x1 : Nat} : (x0 ≤ x1) → (¬ (x0 < x1)) → (x0 = x1) := Ln.lin [] [x0, x1] (.imp (.le (.v 0) (.v 1)) (.imp (.no (.le (.add (.v 0) (.c 1)) (.v 1))) (.eq (.v 0) (.v 1)))) (by kernel_rfl)
theorem o595 {x0 : Nat} : ((x0 - 0) ≤ x0) := Ln.lin [] [x0, (x0 - 0)] (.imp (.or (.and (.le (.v 0) (.c 0)) (.eq (.v 1) (.c 0))) (.eq (.add (.c 0) (.v 1)) (.v 0))) (.le (.v 1) (.v 0))) (by kernel_rfl) (Ln.sub_or x0 0)
theorem o596 {x0 : Nat} {x1 : Nat} {x2 : Nat} {x3 : Nat} : (x2 < x3) → (x3 ≤ x2) → (x0 = x1) := Ln.lin [] [x0, x1, x2, x3] (.imp (.le (.add (.v 2) (.c 1)) (.v 3)) (.imp (.le (.v 3) (.v 2)) (.eq (.v 0) (.v 1)))) (by kernel_rfl)
theorem o597 {x0 : Nat} {x1 : Nat} {x2 : Nat} : (x2 < x2) → (x0 = x1) := Ln.lin [] [x0, x1, x2] (.imp (.le (.add (.v 2) (.c 1)) (.v 2)) (.eq (.v 0) (.v 1))) (by kernel_rfl)
theorem o598 {x0 : Nat} {x1 : Nat} : (x0 < (x1 + 1)) → (x0 ≤ x1) := Ln.lin [] [x0, x1] (.imp (.le (.add (.v 0) (.c 1)) (.add (.v 1) (.c 1))) (.le (.v 0) (.v 1))) (by kernel_rfl)
theorem o599 {x0 : Nat} {x1 : Nat} {x2 : Nat} : ((x2 + 1) ≤ x2) → (x0 = (x1 + 1)) := Ln.lin [] [x0, x1, x2] (.imp (.le (.add (.v 2) (.c 1)) (.v 2)) (.eq (.v 0) (.add (.v 1) (.c 1)))) (by kernel_rfl)
theorem o600 {x0 : Nat} {x1 : Nat} {x2 : Nat} : (x2 ≤ x1) → ((x0 + 1) < x2) → ((x0 + 1) < x1) := Ln.lin [] [x0, x1, x2] (.imp (.le (.v 2) (.v 1)) (.imp (.le (.add (.add (.v 0) (.c 1)) (.c 1)) (.v 2)) (.le (.add (.add (.v 0) (.c 1)) (.c 1)) (.v 1)))) (by kernel_rfl)
theorem o601 {x0 : Nat} {x1 : Nat} {x2 : Nat} {x3 : Nat} : (x2 < x3) → (x3 < (x2 + 1)) → (x0 = (x1 + 1)) := Ln.lin [] [x0, x1, x2, x3] (.imp (.le (.add (.v 2) (.c 1)) (.v 3)) (.imp (.le (.add (.v 3) (.c 1)) (.add (.v 2) (.c 1))) (.eq (.v 0) (.add (.v 1) (.c 1))))) (by kernel_rfl)
theorem o602 {x0 : Nat} {x1 : Nat} : (x1 ≤ x0) → (0 < x1) → (0 < x0) := Ln.lin [] [x0, x1] (.imp (.le (.v 1) (.v 0)) (.imp (.le (.add (.c 0) (.c 1)) (.v 1)) (.le (.add (.c 0) (.c 1)) (.v 0)))) (by kernel_rfl)
theorem o603 {x0 : Nat} {x1 : Nat} : (x1 < 0) → (x0 = 0) := Ln.lin [] [x0, x1] (.imp (.le (.add (.v 1) (.c 1)) (.c 0)) (.eq (.v 0) (.c 0))) (by kernel_rfl)
theorem o604 {x0 : Nat} : (x0 ≤ 0) → (x0 = 0) := Ln.lin [] [x0] (.imp (.le (.v 0) (.c 0)) (.eq (.v 0) (.c 0))) (by kernel_rfl)
theorem o605 {x0 : Nat} {x1 : Nat} : (x0 ≤ x1) → (x1 ≠ x0) → (x0 < x1) := Ln.lin [] [x0, x1] (.imp (.le (.v 0) (.v 1)) (.imp (.no (.eq (.v 1) (.v 0))) (.le (.add (.v 0) (.c 1)) (.v 1)))) (by kernel_rfl)
theorem o606 {x0 : Nat} {x1 : Nat} {x2 : Nat} : (x0 < x2) → (x2 ≤ x1) → (x0 < x1) := Ln.lin [] [x0, x1, x2] (.imp (.le (.add (.v 0) (.c 1)) (.v 2)) (.imp (.le (.v 2) (.v 1)) (.le (.add (.v 0) (.c 1)) (.v 1)))) (by kernel_rfl)
theorem o607 {x0 : Nat} {x1 : Nat} : ((x0 + 1) < (x1 + 1)) → (x0 < x1) := Ln.lin [] [x0, x1] (.imp (.le (.add (.add (.v 0) (.c 1)) (.c 1)) (.add (.v 1) (.c 1))) (.le (.add (.v 0) (.c 1)) (.v 1))) (by kernel_rfl)
theorem o608 {x0 : Nat} {x1 : Nat} : (x0 < (x1 + 1)) → ((13 + x0) < (x1 + 14)) := Ln.lin [] [x0, x1] (.imp (.le (.add (.v 0) (.c 1)) (.add (.v 1) (.c 1))) (.le (.add (.add (.c 13) (.v 0)) (.c 1)) (.add (.v 1) (.c 14)))) (by kernel_rfl)
theorem o609 {x0 : Nat} : (((x0 + 9) - x0) ≤ 9) := Ln.lin [] [x0, ((x0 + 9) - x0)] (.imp (.or (.and (.le (.add (.v 0) (.c 9)) (.v 0)) (.eq (.v 1) (.c 0))) (.eq (.add (.v 0) (.v 1)) (.add (.v 0) (.c 9)))) (.le (.v 1) (.c 9))) (by kernel_rfl) (Ln.sub_or (x0 + 9) x0)
theorem o610 {x0 : Nat} : ((x0 - x0) ≤ 9) := Ln.lin [] [x0, (x0 - x0)] (.imp (.or (.and (.le (.v 0) (.v 0)) (.eq (.v 1) (.c 0))) (.eq (.add (.v 0) (.v 1)) (.v 0))) (.le (.v 1) (.c 9))) (by kernel_rfl) (Ln.sub_or x0 x0)
theorem o611 {x0 : Nat} : (x0 ≤ (x0 + 9)) := Ln.lin [] [x0] (.le (.v 0) (.add (.v 0) (.c 9))) (by kernel_rfl)
theorem o612 {x0 : Nat} : (x0 = 0) → (¬ (0 < x0)) := Ln.lin [] [x0] (.imp (.eq (.v 0) (.c 0)) (.no (.le (.add (.c 0) (.c 1)) (.v 0)))) (by kernel_rfl)
theorem o613 {x0 : Nat} {x1 : Nat} : (x0 = (x1 + 1)) → (0 < x0) := Ln.lin [] [x0, x1] (.imp (.eq (.v 0) (.add (.v 1) (.c 1))) (.le (.add (.c 0) (.c 1)) (.v 0))) (by kernel_rfl)
theorem o614 {x0 : Nat} {x1 : Nat} : (x0 = (x1 + 1)) → ((x0 - 1) = x1) := Ln.lin [] [x0, x1, (x0 - 1)] (.imp (.or (.and (.le (.v 0) (.c 1)) (.eq (.v 2) (.c 0))) (.eq (.add (.c 1) (.v 2)) (.v 0))) (.imp (.eq (.v 0) (.add (.v 1) (.c 1))) (.eq (.v 2) (.v 1)))) (by kernel_rfl) (Ln.sub_or x0 1)
theorem o615 {x0 : Nat} {x1 : Nat} {x2 : Nat} {x3 : Nat} : (x2 ≤ (10 * x3)) → ((x0 - x1) ≤ 9) → ((((x0 - x1) + 1) + x2) ≤ (10 * (x3 + 1))) := Ln.lin [] [x0, x1, x2, x3, (x0 - x1)] (.imp (.or (.and (.le (.v 0) (.v 1)) (.eq (.v 4) (.c 0))) (.eq (.add (.v 1) (.v 4)) (.v 0))) (.imp (.le (.v 2) (.mul 10 (.v 3))) (.imp (.le (.v 4) (.c 9)) (.le (.add (.add (.v 4) (.c 1)) (.v 2)) (.mul 10 (.add (.v 3) (.c 1))))))) (by kernel_rfl) (Ln.sub_or x0 x1)
theorem o616 {x0 : Nat} {x1 : Nat} : (x0 ≤ (x1 - 1)) → (0 < x1) → ((x0 + 1) ≤ x1) := Ln.lin [] [x0, x1, (x1 - 1)] (.imp (.or (.and (.le (.v 1) (.c 1)) (.eq (.v 2) (.c 0))) (.eq (.add (.c 1) (.v 2)) (.v 1))) (.imp (.le (.v 0) (.v 2)) (.imp (.le (.add (.c 0) (.c 1)) (.v 1)) (.le (.add (.v 0) (.c 1)) (.v 1))))) (by kernel_rfl) (Ln.sub_or x1 1)
theorem o617 {x0 : Nat} {x1 : Nat} : (x0 ≤ x1) → ((x1 + 1) ≤ x0) → False := Ln.lin [] [x0, x1] (.imp (.le (.v 0) (.v 1)) (.imp (.le (.add (.v 1) (.c 1)) (.v 0)) .ff)) (by kernel_rfl)
theorem o618 {x0 : Int} : (x0 < (2 ^ 64 : Int)) → ((Int.toNat x0) < (2 ^ 64)) := Ln.lin [x0] [(Int.toNat x0)] (.imp (.or (.and (.ile (.v 0) (.c 0)) (.eq (.v 0) (.c 0))) (.ieq (.n (.v 0)) (.v 0))) (.imp (.ile (.add (.v 0) (.c 1)) (.c (2 ^ 64 : Int))) (.le (.add (.v 0) (.c 1)) (.c (2 ^ 64))))) (by kernel_rfl) (Ln.toNat_or x0)
theorem o619 {x0 : Nat} {x1 : Nat} {x2 : Nat} : (x2 < (x1 + 14)) → (x0 ≤ (10 * x2)) → (x0 < (10 * (x1 + 15))) := Ln.lin [] [x0, x1, x2] (.imp (.le (.add (.v 2) (.c 1)) (.add (.v 1) (.c 14))) (.imp (.le (.v 0) (.mul 10 (.v 2))) (.le (.add (.v 0) (.c 1)) (.mul 10 (.add (.v 1) (.c 15)))))) (by kernel_rfl)
theorem o620 {x0 : Nat} {x1 : Nat} : (x1 ≤ x0) → (0 < ((x0 + 1) - x1)) := Ln.lin [] [x0, x1, ((x0 + 1) - x1)] (.imp (.or (.and (.le (.add (.v 0) (.c 1)) (.v 1)) (.eq (.v 2) (.c 0))) (.eq (.add (.v 1) (.v 2)) (.add (.v 0) (.c 1)))) (.imp (.le (.v 1) (.v 0)) (.le (.add (.c 0) (.c 1)) (.v 2)))) (by kernel_rfl) (Ln.sub_or (x0 + 1) x1)
theorem o621 {x0 : Nat} {x1 : Nat} : (x0 ≤ x1) → ((x1 + 1) = x0) → False := Ln.lin [] [x0, x1] (.imp (.le (.v 0) (.v 1)) (.imp (.eq (.add (.v 1) (.c 1)) (.v 0)) .ff)) (by kernel_rfl)
theorem o622 {x0 : Nat} {x1 : Nat} : (x0 < (x1 + 14)) → (x0 < (x1 + 15)) := Ln.lin [] [x0, x1] (.imp (.le (.add (.v 0) (.c 1)) (.add (.v 1) (.c 14))) (.le (.add (.v 0) (.c 1)) (.add (.v 1) (.c 15)))) (by kernel_rfl)
theorem o623 {x0 : Nat} {x1 : Nat} {x2 : Nat} : ((x0 + (x2 + 1)) ≤ x1) → (x0 ≤ x1) := Ln.lin [] [x0, x1, x2] (.imp (.le (.add (.v 0) (.add (.v 2) (.c 1))) (.v 1)) (.le (.v 0) (.v 1))) (by kernel_rfl)
theorem o624 {x0 : Nat} {x1 : Nat} {x2 : Nat} : ((x0 + (x1 + 1)) ≤ x2) → (((x0 + 1) + x1) ≤ x2) := Ln.lin [] [x0, x1, x2] (.imp (.le (.add (.v 0) (.add (.v 1) (.c 1))) (.v 2)) (.le (.add (.add (.v 0) (.c 1)) (.v 1)) (.v 2))) (by kernel_rfl)
theorem o625 {x0 : Nat} {x1 : Nat} : ((x0 + (x1 + 1)) = ((x0 + 1) + x1)) := Ln.lin [] [x0, x1] (.eq (.add (.v 0) (.add (.v 1) (.c 1))) (.add (.add (.v 0) (.c 1)) (.v 1))) (by kernel_rfl)
theorem o626 {x0 : Nat} {x1 : Nat} : (x0 = (x1 + 1)) → (0 < x0) := Ln.lin [] [x0, x1] (.imp (.eq (.v 0) (.add (.v 1) (.c 1))) (.le (.add (.c 0) (.c 1)) (.v 0))) (by kernel_rfl)
theorem o627 {x0 : Nat} : ((x0 + 1) ≠ 0) := Ln.lin [] [x0] (.no (.eq (.add (.v 0) (.c 1)) (.c 0))) (by kernel_rfl)
theorem o628 {x0 : Nat} {x1 : Nat} : (x0 = x1) → (x0 ≤ x1) := Ln.lin [] [x0, x1] (.imp (.eq (.v 0) (.v 1)) (.le (.v 0) (.v 1))) (by kernel_rfl)
theorem o629 {x0 : Nat} {x1 : Nat} : (x0 ≤ x1) → (x1 ≤ x0) → (x0 = x1) := Ln.lin [] [x0, x1] (.imp (.le (.v 0) (.v 1)) (.imp (.le (.v 1) (.v 0)) (.eq (.v 0) (.v 1)))) (by kernel_rfl)
theorem o630 {x0 : Nat} {x1 : Nat} {x2 : Nat} : (x0 ≤ x2) → (x2 = x1) → (x2 ≤ x0) → (x0 = x1) := Ln.lin [] [x0, x1, x2] (.imp (.le (.v 0) (.v 2)) (.imp (.eq (.v 2) (.v 1)) (.imp (.le (.v 2) (.v 0)) (.eq (.v 0) (.v 1))))) (by kernel_rfl)
theorem o631 {x0 : Nat} {x1 : Nat} : ((x1 - x0) = 0) → (x0 ≤ x1) → (x0 = x1) := Ln.lin [] [x0, x1, (x1 - x0)] (.imp (.or (.and (.le (.v 1) (.v 0)) (.eq (.v 2) (.c 0))) (.eq (.add (.v 0) (.v 2)) (.v 1))) (.imp (.eq (.v 2) (.c 0)) (.imp (.le (.v 0) (.v 1)) (.eq (.v 0) (.v 1))))) (by kernel_rfl) (Ln.sub_or x1 x0)
theorem o632 {x0 : Nat} {x1 : Nat} {x2 : Nat} : ((x1 - x0) = (x2 + 1)) → (x0 < x1) := Ln.lin [] [x0, x1, x2, (x1 - x0)] (.imp (.or (.and (.le (.v 1) (.v 0)) (.eq (.v 3) (.c 0))) (.eq (.add (.v 0) (.v 3)) (.v 1))) (.imp (.eq (.v 3) (.add (.v 2) (.c 1))) (.le (.add (.v 0) (.c 1)) (.v 1)))) (by kernel_rfl) (Ln.sub_or x1 x0)
theorem o633 {x0 : Nat} {x1 : Nat} : (x1 ≤ 1000) → ((min x0 x1) ≤ 1000) := Ln.lin [] [x0, x1, (min x0 x1)] (.imp (.or (.and (.le (.v 0) (.v 1)) (.eq (.v 2) (.v 0))) (.and (.le (.v 1) (.v 0)) (.eq (.v 2) (.v 1)))) (.imp (.le (.v 1) (.c 1000)) (.le (.v 2) (.c 1000)))) (by kernel_rfl) (Ln.min_or x0 x1)
theorem o634 {x0 : Nat} : (x0 ≤ 1000) → ((x0 + 1) ≤ (16777216 + 1)) := Ln.lin [] [x0] (.imp (.le (.v 0) (.c 1000)) (.le (.add (.v 0) (.c 1)) (.add (.c 16777216) (.c 1)))) (by kernel_rfl)
theorem o635 {x0 : Nat} {x1 : Nat} {x2 : Nat} : ((x0 - x1) = (x2 + 1)) → ((x0 - (x1 + 1)) = x2) := Ln.lin [] [x0, x1, x2, (x0 - x1), (x0 - (x1 + 1))] (.imp (.or (.and (.le (.v 0) (.v 1)) (.eq (.v 3) (.c 0))) (.eq (.add (.v 1) (.v 3)) (.v 0))) (.imp (.or (.and (.le (.v 0) (.add (.v 1) (.c 1))) (.eq (.v 4) (.c 0))) (.eq (.add (.add (.v 1) (.c 1)) (.v 4)) (.v 0))) (.imp (.eq (.v 3) (.add (.v 2) (.c 1))) (.eq (.v 4) (.v 2))))) (by kernel_rfl) (Ln.sub_or x0 x1) (Ln.sub_or x0 (x1 + 1))
theorem o636 {x0 : Nat} : ((((x0 + 1) + 1) + 1) ≤ (x0 + 4)) := Ln.lin [] [x0] (.le (.add (.add (.add (.v 0) (.c 1)) (.c 1)) (.c 1)) (.add (.v 0) (.c 4))) (by kernel_rfl)
theorem o637 {x0 : Nat} : (x0 ≤ ((4 * x0) + 4)) := Ln.lin [] [x0] (.le (.v 0) (.add (.mul 4 (.v 0)) (.c 4))) (by kernel_rfl)
theorem o638 {x0 : Nat} {x1 : Nat} {x2 : Nat} : (x2 ≤ x1) → (x0 = x2) → (x0 ≤ x1) := Ln.lin [] [x0, x1, x2] (.imp (.le (.v 2) (.v 1)) (.imp (.eq (.v 0) (.v 2)) (.le (.v 0) (.v 1)))) (by kernel_rfl)
theorem o639 {x0 : Nat} {x1 : Nat} {x2 : Nat} : (x0 < x2) → (x2 = x1) → (x0 < x1) := Ln.lin [] [x0, x1, x2] (.imp (.le (.add (.v 0) (.c 1)) (.v 2)) (.imp (.eq (.v 2) (.v 1)) (.le (.add (.v 0) (.c 1)) (.v 1)))) (by kernel_rfl)
theorem o640 {x0 : Nat} {x1 : Nat} {x2 : Nat} {x3 : Nat} : (x1 ≤ 60) → (x2 < x3) → (x3 = x1) → (x0 ≤ x2) → (x0 < 4096) := Ln.lin [] [x0, x1, x2, x3] (.imp (.le (.v 1) (.c 60)) (.imp (.le (.add (.v 2) (.c 1)) (.v 3)) (.imp (.eq (.v 3) (.v 1)) (.imp (.le (.v 0) (.v 2)) (.le (.add (.v 0) (.c 1)) (.c 4096)))))) (by kernel_rfl)
theorem o641 {x0 : Nat} {x1 : Nat} {x2 : Nat} : (x2 ≤ x1) → (x0 = (x2 + 1)) → (x0 ≤ (x1 + 1)) := Ln.lin [] [x0, x1, x2] (.imp (.le (.v 2) (.v 1)) (.imp (.eq (.v 0) (.add (.v 2) (.c 1))) (.le (.v 0) (.add (.v 1) (.c 1))))) (by kernel_rfl)
theorem o642 {x0 : Nat} {x1 : Nat} {x2 : Nat} {x3 : Nat} : (x1 ≤ 60) → (x2 < x3) → (x3 = x1) → (x0 ≤ (x2 + 1)) → (x0 ≤ 1000) := Ln.lin [] [x0, x1, x2, x3] (.imp (.le (.v 1) (.c 60)) (.imp (.le (.add (.v 2) (.c 1)) (.v 3)) (.imp (.eq (.v 3) (.v 1)) (.imp (.le (.v 0) (.add (.v 2) (.c 1))) (.le (.v 0) (.c 1000)))))) (by kernel_rfl)
theorem o643 {x0 : Nat} {x1 : Nat} {x2 : Nat} : (x2 < (x1 + 1)) → (x0 < x2) → (x0 < x1) := Ln.lin [] [x0, x1, x2] (.imp (.le (.add (.v 2) (.c 1)) (.add (.v 1) (.c 1))) (.imp (.le (.add (.v 0) (.c 1)) (.v 2)) (.le (.add (.v 0) (.c 1)) (.v 1)))) (by kernel_rfl)
theorem o644 {x0 : Nat} {x1 : Nat} {x2 : Nat} : (x2 < (10 * x1)) → (x0 < x2) → (x0 < (10 * x1)) := Ln.lin [] [x0, x1, x2] (.imp (.le (.add (.v 2) (.c 1)) (.mul 10 (.v 1))) (.imp (.le (.add (.v 0) (.c 1)) (.v 2)) (.le (.add (.v 0) (.c 1)) (.mul 10 (.v 1))))) (by kernel_rfl)
theorem o645 {x0 : Nat} {x1 : Nat} : (x1 ≤ 7) → (x0 < x1) → (x0 < 7) := Ln.lin [] [x0, x1] (.imp (.le (.v 1) (.c 7)) (.imp (.le (.add (.v 0) (.c 1)) (.v 1)) (.le (.add (.v 0) (.c 1)) (.c 7)))) (by kernel_rfl)
theorem o646 {x0 : Nat} {x1 : Nat} : (x0 < (10 * x1)) → ((10 * x1) ≤ 460) → (x0 < 100000) := Ln.lin [] [x0, x1] (.imp (.le (.add (.v 0) (.c 1)) (.mul 10 (.v 1))) (.imp (.le (.mul 10 (.v 1)) (.c 460)) (.le (.add (.v 0) (.c 1)) (.c 100000)))) (by kernel_rfl)
theorem o647 {x0 : Nat} {x1 : Nat} : (x1 = 7) → (x0 ≤ 4) → ((x0 + 1) ≤ x1) := Ln.lin [] [x0, x1] (.imp (.eq (.v 1) (.c 7)) (.imp (.le (.v 0) (.c 4)) (.le (.add (.v 0) (.c 1)) (.v 1)))) (by kernel_rfl)
theorem o648 {x0 : Nat} {x1 : Nat} : (x1 = 31) → (x0 ≤ 7) → ((x0 + 1) ≤ x1) := Ln.lin [] [x0, x1] (.imp (.eq (.v 1) (.c 31)) (.imp (.le (.v 0) (.c 7)) (.le (.add (.v 0) (.c 1)) (.v 1)))) (by kernel_rfl)
theorem o649 {x0 : Nat} {x1 : Nat} {x2 : Nat} : (x1 < 7) → (x2 ≤ x1) → (x0 = (x2 + 1)) → (x0 ≤ 1000) := Ln.lin [] [x0, x1, x2] (.imp (.le (.add (.v 1) (.c 1)) (.c 7)) (.imp (.le (.v 2) (.v 1)) (.imp (.eq (.v 0) (.add (.v 2) (.c 1))) (.le (.v 0) (.c 1000))))) (by kernel_rfl)
theorem o650 {x0 : Nat} {x1 : Nat} (h0 : (((x0 + 1) * 5) ≥ (x1 * 3))) (h1 : (x1 = 7)) (h2 : (x0 ≤ 4)) : ((x0 = 4) ∧ (x1 = 7)) := by omega
theorem o651 {x0 : Nat} {x1 : Nat} (h0 : (((x0 + 1) * 5) ≥ (x1 * 3))) (h1 : (x1 = 31)) (h2 : (x0 ≤ 7)) : ((x0 = 4) ∧ (x1 = 7)) := by omega
theorem o652 {x0 : Nat} {x1 : Nat} {x2 : Nat} : (x0 = (x1 + 1)) → ((x1 = 4) ∧ (x2 = 7)) → (x0 ≤ 31) := Ln.lin [] [x0, x1, x2] (.imp (.eq (.v 0) (.add (.v 1) (.c 1))) (.imp (.and (.eq (.v 1) (.c 4)) (.eq (.v 2) (.c 7))) (.le (.v 0) (.c 31)))) (by kernel_rfl)
theorem o653 {x0 : Nat} {x1 : Nat} {x2 : Nat} : (x0 = (x1 + 1)) → ((x1 = 4) ∧ (x2 = 7)) → (x0 ≤ 1000) := Ln.lin [] [x0, x1, x2] (.imp (.eq (.v 0) (.add (.v 1) (.c 1))) (.imp (.and (.eq (.v 1) (.c 4)) (.eq (.v 2) (.c 7))) (.le (.v 0) (.c 1000)))) (by kernel_rfl)
theorem o654 {x0 : Nat} {x1 : Nat} {x2 : Nat} : (x0 = (x1 + 1)) → ((x1 = 4) ∧ (x2 = 7)) → (x0 ≤ 7) := Ln.lin [] [x0, x1, x2] (.imp (.eq (.v 0) (.add (.v 1) (.c 1))) (.imp (.and (.eq (.v 1) (.c 4)) (.eq (.v 2) (.c 7))) (.le (.v 0) (.c 7)))) (by kernel_rfl)
theorem o655 {x0 : Nat} {x1 : Nat} (h0 : (¬ (((x0 + 1) * 5) ≥ (x1 * 3)))) (h1 : (x1 = 7)) : ((x0 + 1) ≤ 4) := by omega
theorem o656 {x0 : Nat} {x1 : Nat} : (x1 < 7) → (x0 ≤ x1) → ((x0 + 1) ≤ 7) := Ln.lin [] [x0, x1] (.imp (.le (.add (.v 1) (.c 1)) (.c 7)) (.imp (.le (.v 0) (.v 1)) (.le (.add (.v 0) (.c 1)) (.c 7)))) (by kernel_rfl)
theorem o657 {x0 : Nat} : (x0 < 64) → (x0 ≤ 16777216) := Ln.lin [] [x0] (.imp (.le (.add (.v 0) (.c 1)) (.c 64)) (.le (.v 0) (.c 16777216))) (by kernel_rfl)
theorem o658 {x0 : Nat} {x1 : Nat} : (x1 < 64) → (x0 = x1) → (x0 ≤ (16777216 + 1)) := Ln.lin [] [x0, x1] (.imp (.le (.add (.v 1) (.c 1)) (.c 64)) (.imp (.eq (.v 0) (.v 1)) (.le (.v 0) (.add (.c 16777216) (.c 1))))) (by kernel_rfl)
theorem o659 {x0 : Nat} : (¬ (x0 < 2)) → (0 < x0) := Ln.lin [] [x0] (.imp (.no (.le (.add (.v 0) (.c 1)) (.c 2))) (.le (.add (.c 0) (.c 1)) (.v 0))) (by kernel_rfl)
theorem o660 {x0 : Nat} : (¬ (x0 < 2)) → (2 ≤ x0) := Ln.lin [] [x0] (.imp (.no (.le (.add (.v 0) (.c 1)) (.c 2))) (.le (.c 2) (.v 0))) (by kernel_rfl)
theorem o661 {x0 : Nat} : (x0 ≤ 60) → (x0 ≤ 1000) := Ln.lin [] [x0] (.imp (.le (.v 0) (.c 60)) (.le (.v 0) (.c 1000))) (by kernel_rfl)
theorem o662 {x0 : Nat} {x1 : Nat} : (x1 ≤ 60) → (x0 = x1) → (x0 ≤ 16777216) := Ln.lin [] [x0, x1] (.imp (.le (.v 1) (.c 60)) (.imp (.eq (.v 0) (.v 1)) (.le (.v 0) (.c 16777216)))) (by kernel_rfl)
theorem o663 {x0 : Nat} {x1 : Nat} {x2 : Nat} : (x1 ≤ 60) → (x2 = x1) → (x0 ≤ x2) → (x0 ≤ 60) := Ln.lin [] [x0, x1, x2] (.imp (.le (.v 1) (.c 60)) (.imp (.eq (.v 2) (.v 1)) (.imp (.le (.v 0) (.v 2)) (.le (.v 0) (.c 60))))) (by kernel_rfl)
theorem o664 {x0 : Nat} {x1 : Nat} {x2 : Nat} {x3 : Nat} : (x1 ≤ 60) → (x2 = x1) → (x3 ≤ x2) → (x0 = x3) → (x0 < 64) := Ln.lin [] [x0, x1, x2, x3] (.imp (.le (.v 1) (.c 60)) (.imp (.eq (.v 2) (.v 1)) (.imp (.le (.v 3) (.v 2)) (.imp (.eq (.v 0) (.v 3)) (.le (.add (.v 0) (.c 1)) (.c 64)))))) (by kernel_rfl)
theorem o665 {x0 : Nat} {x1 : Nat} {x2 : Nat} : ((x2 + 5) < x1) → (x0 ≤ (x2 + 4)) → (x0 < x1) := Ln.lin [] [x0, x1, x2] (.imp (.le (.add (.add (.v 2) (.c 5)) (.c 1)) (.v 1)) (.imp (.le (.v 0) (.add (.v 2) (.c 4))) (.le (.add (.v 0) (.c 1)) (.v 1)))) (by kernel_rfl)
theorem o666 {x0 : Nat} {x1 : Nat} {x2 : Nat} : (x1 ≤ 7) → (x1 = x2) → (x0 ≤ x2) → (x0 ≤ 60) := Ln.lin [] [x0, x1, x2] (.imp (.le (.v 1) (.c 7)) (.imp (.eq (.v 1) (.v 2)) (.imp (.le (.v 0) (.v 2)) (.le (.v 0) (.c 60))))) (by kernel_rfl)
theorem o667 {x0 : Nat} {x1 : Nat} {x2 : Nat} {x3 : Nat} : (x1 ≤ 7) → (x1 = x2) → (x3 ≤ x2) → (x0 = x3) → (x0 < 64) := Ln.lin [] [x0, x1, x2, x3] (.imp (.le (.v 1) (.c 7)) (.imp (.eq (.v 1) (.v 2)) (.imp (.le (.v 3) (.v 2)) (.imp (.eq (.v 0) (.v 3)) (.le (.add (.v 0) (.c 1)) (.c 64)))))) (by kernel_rfl)
end Mine

open PySem PySem.W PyProof.Rows
set_option Elab.async false
set_option maxRecDepth 100000
set_option linter.unusedVariables false
namespace Mine
set_option genSizeOf false

structure An3 (a b c : Prop) : Prop where mk :: (p1 : a) (p2 : b) (p3 : c)
structure An4 (a b c d : Prop) : Prop where mk :: (p1 : a) (p2 : b) (p3 : c) (p4 : d)
structure An5 (a b c d e : Prop) : Prop where mk :: (p1 : a) (p2 : b) (p3 : c) (p4 : d) (p5 : e)
structure An6 (a b c d e f : Prop) : Prop where mk :: (p1 : a) (p2 : b) (p3 : c) (p4 : d) (p5 : e) (p6 : f)
structure An7 (a b c d e f g : Prop) : Prop where mk :: (p1 : a) (p2 : b) (p3 : c) (p4 : d) (p5 : e) (p6 : f) (p7 : g)
structure An8 (a b c d e f g h : Prop) : Prop where mk :: (p1 : a) (p2 : b) (p3 : c) (p4 : d) (p5 : e) (p6 : f) (p7 : g) (p8 : h)
structure An9 (a b c d e f g h i : Prop) : Prop where mk :: (p1 : a) (p2 : b) (p3 : c) (p4 : d) (p5 : e) (p6 : f) (p7 : g) (p8 : h) (p9 : i)
inductive Sm2 {α β : Type} (P : α → β → Prop) : Prop | mk (x0 : α) (x1 : β) (h : P x0 x1) : Sm2 P
inductive Sm3 {α β γ : Type} (P : α → β → γ → Prop) : Prop | mk (x0 : α) (x1 : β) (x2 : γ) (h : P x0 x1 x2) : Sm3 P
inductive Sm4 {α β γ δ : Type} (P : α → β → γ → δ → Prop) : Prop | mk (x0 : α) (x1 : β) (x2 : γ) (x3 : δ) (h : P x0 x1 x2 x3) : Sm4 P
inductive Sm5 {α β γ δ ε : Type} (P : α → β → γ → δ → ε → Prop) : Prop | mk (x0 : α) (x1 : β) (x2 : γ) (x3 : δ) (x4 : ε) (h : P x0 x1 x2 x3 x4) : Sm5 P
inductive Sm6 {α β γ δ ε ζ : Type} (P : α → β → γ → δ → ε → ζ → Prop) : Prop | mk (x0 : α) (x1 : β) (x2 : γ) (x3 : δ) (x4 : ε) (x5 : ζ) (h : P x0 x1 x2 x3 x4 x5) : Sm6 P
inductive Atom
  | s (x : Str)
  | i (k : Int)
  deriving DecidableEq

inductive V
  | none
  | bool (b : Bool)
  | int (i : Int)
  | str (x : Str)
  | tup (l : List V)
  | ref (i : Nat)
  | rng (n : Int)
  | opq
  | base (a : Addr)

inductive AObj
  | list (vs : List V)
  | idict (kvs : List (Int × V)) (pin : Option Obj := none)
  | sdict (kvs : List (Str × V))
  | tdict (kvs : List (List Atom × V))
  | inst (C : Addr) (d : Option Nat)

abbrev Sto := Nat → Option AObj
abbrev Loc := Nat → Addr

structure St where
  Γ : List (Str × V)
  σ : Sto

def setG (Γ : List (Str × V)) (x : Str) (v : V) : List (Str × V) := (x, v) :: Γ.filter (fun p => !(p.1 == x))
def setS (σ : Sto) (i : Nat) (o : AObj) : Sto := fun j => if j = i then some o else σ j
def setL (ι : Loc) (i : Nat) (a : Addr) : Loc := fun j => if j = i then a else ι j

mutual
inductive Rep (h : Heap) (σ : Sto) (ι : Loc) : V → Value → Prop
  | none : Rep h σ ι .none .none
  | bool (b : Bool) : Rep h σ ι (.bool b) (.bool b)
  | int (i : Int) (t : Tok) : Rep h σ ι (.int i) (.int i t)
  | str (x : Str) (t : Tok) : Rep h σ ι (.str x) (.str x t)
  | ref (i : Nat) : σ i ≠ Option.none → Rep h σ ι (.ref i) (.ref (ι i))
  | tup {l : List V} {a : Addr} {us : List Value} {n : Nat} : h.get? a = some { cls := .type "tuple", data := .seq us.toArray n } → Reps h σ ι l us → Rep h σ ι (.tup l) (.ref a)
  | rng {n : Int} {a : Addr} {t u v : Tok} : h.get? a = some { cls := .type "range", data := .fields #[.int 0 t, .int n u, .int 1 v] } → Rep h σ ι (.rng n) (.ref a)
  | opq (u : Value) : Rep h σ ι .opq u
  | base (a : Addr) : Rep h σ ι (.base a) (.ref a)
inductive Reps (h : Heap) (σ : Sto) (ι : Loc) : List V → List Value → Prop
  | nil : Reps h σ ι [] []
  | cons {v : V} {u : Value} {vs : List V} {us : List Value} : Rep h σ ι v u → Reps h σ ι vs us → Reps h σ ι (v :: vs) (u :: us)
end

theorem Rep.noneE {h σ ι} {motive : (u : Value) → Rep h σ ι .none u → Prop} (mk : motive .none .none) {u} (r : Rep h σ ι .none u) : motive u r := by cases r; exact mk
theorem Rep.boolE {h σ ι b} {motive : (u : Value) → Rep h σ ι (.bool b) u → Prop} (mk : motive (.bool b) (.bool b)) {u} (r : Rep h σ ι (.bool b) u) : motive u r := by cases r; exact mk
theorem Rep.intE {h σ ι i} {motive : (u : Value) → Rep h σ ι (.int i) u → Prop} (mk : ∀ t, motive (.int i t) (.int i t)) {u} (r : Rep h σ ι (.int i) u) : motive u r := by cases r; exact mk _
theorem Rep.strE {h σ ι x} {motive : (u : Value) → Rep h σ ι (.str x) u → Prop} (mk : ∀ t, motive (.str x t) (.str x t)) {u} (r : Rep h σ ι (.str x) u) : motive u r := by cases r; exact mk _
theorem Rep.refE {h σ ι i} {motive : (u : Value) → Rep h σ ι (.ref i) u → Prop} (mk : ∀ n : σ i ≠ Option.none, motive (.ref (ι i)) (.ref i n)) {u} (r : Rep h σ ι (.ref i) u) : motive u r := by cases r; exact mk ‹_›
theorem Rep.baseE {h σ ι a} {motive : (u : Value) → Rep h σ ι (.base a) u → Prop} (mk : motive (.ref a) (.base a)) {u} (r : Rep h σ ι (.base a) u) : motive u r := by cases r; exact mk
def TupO (o : Obj) : Prop := (o.cls = .type "tuple" ∧ ∃ items n, o.data = .seq items n) ∨ (o.cls = .type "range" ∧ ∃ fs, o.data = .fields fs)
structure Ext (h : Heap) (σ : Sto) (ι : Loc) (h' : Heap) (σ' : Sto) (ι' : Loc) : Prop where
  tup : ∀ a o, h.get? a = some o → TupO o → h'.get? a = some o
  ids : ∀ i, σ i ≠ none → σ' i ≠ none ∧ ι' i = ι i
theorem Ext.rfl' {h σ ι} : Ext h σ ι h σ ι := ⟨fun _ _ x _ => x, fun _ x => ⟨x, rfl⟩⟩
theorem Ext.trans {h σ ι h' σ' ι' h'' σ'' ι''} (x : Ext h σ ι h' σ' ι') (y : Ext h' σ' ι' h'' σ'' ι'') : Ext h σ ι h'' σ'' ι'' :=
  ⟨fun a us z c => y.tup _ _ (x.tup _ _ z c) c, fun i z => ⟨(y.ids i (x.ids i z).1).1, (y.ids i (x.ids i z).1).2.trans (x.ids i z).2⟩⟩

theorem Reps.ind {h σ ι} {P : List V → List Value → Prop} (n : P [] []) (c : ∀ {v u vs us}, Rep h σ ι v u → P vs us → P (v :: vs) (u :: us)) {vs us} (r : Reps h σ ι vs us) : P vs us :=
  Reps.rec (motive_1 := fun _ _ _ => True) (motive_2 := fun vs us _ => P vs us) trivial (fun _ => trivial) (fun _ _ => trivial) (fun _ _ => trivial) (fun _ _ => trivial) (fun _ _ _ => trivial) (fun _ => trivial) (fun _ => trivial) (fun _ => trivial) n (fun a _ _ y => c a y) r
theorem Rep.ext {h σ ι h' σ' ι'} (X : Ext h σ ι h' σ' ι') {v u} (r : Rep h σ ι v u) : Rep h' σ' ι' v u :=
  Rep.rec (motive_1 := fun v u _ => Rep h' σ' ι' v u) (motive_2 := fun v u _ => Reps h' σ' ι' v u) .none .bool .int .str (fun i n => (X.ids i n).2 ▸ Rep.ref i (X.ids i n).1) (fun e _ r => .tup (X.tup _ _ e (.inl ⟨rfl, _, _, rfl⟩)) r) (fun e => .rng (X.tup _ _ e (.inr ⟨rfl, _, rfl⟩))) .opq .base .nil (fun _ _ a b => .cons a b) r
theorem Reps.ext {h σ ι h' σ' ι'} (X : Ext h σ ι h' σ' ι') {v u} (r : Reps h σ ι v u) : Reps h' σ' ι' v u :=
  r.ind .nil fun a b => .cons (a.ext X) b
theorem Reps.length {h σ ι} {vs us} (r : Reps h σ ι vs us) : vs.length = us.length :=
  r.ind (P := fun vs us => vs.length = us.length) rfl fun _ b => congrArg (· + 1) b
theorem Reps.get {h σ ι} {vs us} (r : Reps h σ ι vs us) : ∀ {i : Nat} {v : V}, vs[i]? = some v → ∃ u, us[i]? = some u ∧ Rep h σ ι v u :=
  r.ind (P := fun vs us => ∀ {i : Nat} {v : V}, vs[i]? = some v → ∃ u, us[i]? = some u ∧ Rep h σ ι v u) (fun e => nomatch e) fun {_ u _ _} a b i _ e => by
    cases i with
    | zero => cases e; exact ⟨u, rfl, a⟩
    | succ i => exact b e
theorem Reps.append {h σ ι} {vs us ws xs} (r : Reps h σ ι vs us) (q : Reps h σ ι ws xs) : Reps h σ ι (vs ++ ws) (us ++ xs) :=
  r.ind (P := fun vs us => Reps h σ ι (vs ++ ws) (us ++ xs)) q fun a b => .cons a b
theorem Reps.drop {h σ ι} {vs us} (n : Nat) (r : Reps h σ ι vs us) : Reps h σ ι (vs.drop n) (us.drop n) := by
  induction n generalizing vs us with
  | zero => exact r
  | succ n ih => cases r with
    | nil => exact .nil
    | cons _ b => exact ih b
theorem Reps.take {h σ ι} {vs us} (n : Nat) (r : Reps h σ ι vs us) : Reps h σ ι (vs.take n) (us.take n) := by
  induction n generalizing vs us with
  | zero => exact .nil
  | succ n ih => cases r with
    | nil => exact .nil
    | cons a b => exact .cons a (ih b)
theorem Reps.one {h σ ι v u} (r : Rep h σ ι v u) : Reps h σ ι [v] [u] := .cons r .nil
theorem Reps.set {h σ ι} {vs us} (n : Nat) {v u} (r : Reps h σ ι vs us) (q : Rep h σ ι v u) : Reps h σ ι (vs.set n v) (us.set n u) := by
  induction n generalizing vs us with
  | zero => cases r with
    | nil => exact .nil
    | cons _ b => exact .cons q b
  | succ n ih => cases r with
    | nil => exact .nil
    | cons a b => exact .cons a (ih b)

/-- keyed values -/
inductive RepK {κ : Type} (h : Heap) (σ : Sto) (ι : Loc) : List (κ × V) → List (κ × Value) → Prop
  | nil : RepK h σ ι [] []
  | cons {k : κ} {v : V} {u : Value} {vs us} : Rep h σ ι v u → RepK h σ ι vs us → RepK h σ ι ((k, v) :: vs) ((k, u) :: us)
theorem RepK.ext {κ : Type} {h σ ι h' σ' ι'} (X : Ext h σ ι h' σ' ι') {v u} (r : RepK (κ := κ) h σ ι v u) : RepK (κ := κ) h' σ' ι' v u :=
  RepK.rec (motive := fun v u _ => RepK (κ := κ) h' σ' ι' v u) .nil (fun a _ b => .cons (a.ext X) b) r
theorem RepK.keys {κ : Type} {h σ ι} {v u} (r : RepK (κ := κ) h σ ι v u) : u.map (·.1) = v.map (·.1) :=
  RepK.rec (motive := fun (v : List (κ × V)) (u : List (κ × Value)) _ => u.map (·.1) = v.map (·.1)) rfl (fun _ _ b => congrArg (List.cons _) b) r
theorem RepK.length {κ : Type} {h σ ι} {v u} (x : RepK (κ := κ) h σ ι v u) : v.length = u.length :=
  RepK.rec (motive := fun v u _ => v.length = u.length) rfl (fun _ _ b => congrArg (· + 1) b) x
theorem RepK.append {κ : Type} {h σ ι} {v u w x} (r : RepK (κ := κ) h σ ι v u) (q : RepK (κ := κ) h σ ι w x) : RepK h σ ι (v ++ w) (u ++ x) :=
  RepK.rec (motive := fun v u _ => RepK h σ ι (v ++ w) (u ++ x)) q (fun a _ b => .cons a b) r

/-- keyed values of a dict whose keys are objects: the key, its address, its value -/
inductive RepH {κ : Type} (h : Heap) (σ : Sto) (ι : Loc) : List (κ × V) → List (κ × Addr × Value) → Prop
  | nil : RepH h σ ι [] []
  | cons {k : κ} {v : V} {a : Addr} {u : Value} {vs us} : Rep h σ ι v u → RepH h σ ι vs us → RepH h σ ι ((k, v) :: vs) ((k, a, u) :: us)
theorem RepH.ext {κ : Type} {h σ ι h' σ' ι'} (X : Ext h σ ι h' σ' ι') {v u} (r : RepH (κ := κ) h σ ι v u) : RepH (κ := κ) h' σ' ι' v u :=
  RepH.rec (motive := fun v u _ => RepH (κ := κ) h' σ' ι' v u) .nil (fun a _ b => .cons (a.ext X) b) r
theorem RepH.keys {κ : Type} {h σ ι} {v u} (r : RepH (κ := κ) h σ ι v u) : u.map (·.1) = v.map (·.1) :=
  RepH.rec (motive := fun (v : List (κ × V)) (u : List (κ × Addr × Value)) _ => u.map (·.1) = v.map (·.1)) rfl (fun _ _ b => congrArg (List.cons _) b) r

def Atom.isV : Atom → Value → Bool
  | .s x, .str y _ => y == x
  | .i k, .int j _ => j == k
  | _, _ => false
end Mine

open PySem PySem.W PyProof.Rows PySem.SeqAt
set_option Elab.async false
set_option maxRecDepth 100000
set_option linter.unusedVariables false
namespace Mine

theorem Atom.isV_shape {k : Atom} {v : Value} (h : Atom.isV k v = true) : (∃ x t, k = .s x ∧ v = .str x t) ∨ (∃ i t, k = .i i ∧ v = .int i t) := by
  cases k <;> cases v <;> simp_all [Atom.isV]

def Atom.hash (w : World) : Atom → Int
  | .s x => hashStr w x
  | .i k => hashInt k

def atomKind (prog : Program) (w : World) : KeyKind prog w Atom where
  is := Atom.isV
  hash := Atom.hash w
  inj := fun v a b ha hb => by
    rcases Atom.isV_shape ha with ⟨x, t, rfl, rfl⟩ | ⟨i, t, rfl, rfl⟩ <;> rcases Atom.isV_shape hb with ⟨y, u, rfl, e⟩ | ⟨j, u, rfl, e⟩ <;> cases e <;> rfl
  byValue := fun k v h => by rcases Atom.isV_shape h with ⟨x, t, rfl, rfl⟩ | ⟨i, t, rfl, rfl⟩ <;> rfl
  pyHash := fun hv h => by
    rcases Atom.isV_shape hv with ⟨x, t, rfl, rfl⟩ | ⟨i, t, rfl, rfl⟩
    · exact wpAny_pyHash_str h
    · exact wpAny_pyHash_int h
  eqBool := fun {A E s a b u v Q} hu hv h => by
    rcases Atom.isV_shape hu with ⟨x, t, rfl, rfl⟩ | ⟨i, t, rfl, rfl⟩ <;> rcases Atom.isV_shape hv with ⟨y, r, rfl, rfl⟩ | ⟨j, r, rfl, rfl⟩
    · exact wpAny_eqBool_str (by simpa using h)
    · exact EqAt.str_int x t j r prog w E Q (by simpa using h)
    · exact EqAt.int_str i t y r prog w E Q (by simpa using h)
    · exact wpAny_eqBool_int (by
        have e : (i == j) = decide (Atom.i i = Atom.i j) := by
          by_cases q : i = j
          · subst q; simp
          · simp [q]
        rw [e]; exact h)
  «strs» := fun k x t v h => by
    rcases Atom.isV_shape h with ⟨y, r, rfl, e⟩ | ⟨j, r, rfl, e⟩
    · cases e; cases v <;> rfl
    · cases e

abbrev tupK (prog : Program) (w : World) : HeapKind prog w (List Atom) := tupleKind (atomKind prog w)

def RepO (prog : Program) (w : World) (h : Heap) (σ : Sto) (ι : Loc) (a : Addr) : AObj → Prop
  | .list vs => ∃ us, h.PlainList a us.toArray ∧ Reps h σ ι vs us
  | .idict kvs pin => ∃ us, An4 (h.DictOf (intKind prog w) a us) (RepK h σ ι kvs us) (a ≠ sysModules) (∀ ob, pin = some ob → h.get? a = some ob)
  | .sdict kvs => ∃ us, An3 (h.DictOf (strKind prog w) a us) (RepK h σ ι kvs us) (a ≠ sysModules)
  | .tdict kvs => ∃ us, An3 (h.DictOfH (tupK prog w) a us) (RepH h σ ι kvs us) (a ≠ sysModules)
  | .inst C d => h.get? a = some ⟨.ref C, d.map ι, .plain, #[]⟩ ∧ ∀ j, d = some j → σ j ≠ none

theorem IsTupleKey.ofExt {prog : Program} {w : World} {h h' : Heap} (X : ∀ a o, h.get? a = some o → TupO o → h'.get? a = some o) {ks : List Atom} {a : Addr} (x : IsTupleKey (atomKind prog w) h ks a) : IsTupleKey (atomKind prog w) h' ks a := by
  obtain ⟨o, items, n, ho, hc, hd, hi⟩ := x
  exact ⟨o, items, n, X a o ho (.inl ⟨hc, _, _, hd⟩), hc, hd, hi⟩

theorem RepO.ext {prog w h σ ι a o h' σ' ι'} (X : Ext h σ ι h' σ' ι') (k : ∀ ob, h.get? a = some ob → h'.get? a = some ob) (r : RepO prog w h σ ι a o) : RepO prog w h' σ' ι' a o := by
  cases o with
  | list vs =>
    obtain ⟨us, ⟨n, ho⟩, rs⟩ := r
    exact ⟨us, ⟨n, k _ ho⟩, rs.ext X⟩
  | idict kvs pin =>
    obtain ⟨us, ⟨ob, es, ep, ho, r⟩, rs, n, hp⟩ := r
    exact ⟨us, ⟨ob, es, ep, k _ ho, r⟩, rs.ext X, n, fun ob e => k _ (hp ob e)⟩
  | sdict kvs =>
    obtain ⟨us, ⟨ob, es, ep, ho, r⟩, rs, n⟩ := r
    exact ⟨us, ⟨ob, es, ep, k _ ho, r⟩, rs.ext X, n⟩
  | tdict kvs =>
    obtain ⟨us, ⟨ob, es, ep, ho, hx, hd, he, hk, hn⟩, rs, n⟩ := r
    exact ⟨us, ⟨ob, es, ep, k _ ho, hx, hd, he, fun x m => IsTupleKey.ofExt X.tup (hk x m), hn⟩, rs.ext X, n⟩
  | inst C d =>
    obtain ⟨ho, hd⟩ := r
    refine ⟨?_, fun j e => (X.ids j (hd j e)).1⟩
    rw [k _ ho]
    cases d with
    | none => rfl
    | some j => simp only [Option.map_some, (X.ids j (hd j rfl)).2]

theorem RepO.notTuple {prog w h σ ι a o ob} (r : RepO prog w h σ ι a o) (ho : h.get? a = some ob) : ¬ TupO ob := by
  intro hT
  have hc : (ob.cls = .type "tuple" ∨ ob.cls = .type "range") := hT.elim (fun x => .inl x.1) (fun x => .inr x.1)
  cases o with
  | list vs => obtain ⟨_, ⟨n', ho'⟩, _⟩ := r; rw [ho] at ho'; cases ho'; exact absurd (show (Value.type "list" = Value.type "tuple" ∨ Value.type "list" = Value.type "range") from hc) (by decide)
  | idict kvs pin => obtain ⟨_, ⟨ob', es, ep, ho', ⟨hc', _⟩, _⟩, _⟩ := r; rw [ho] at ho'; cases ho'; rw [hc'] at hc; exact absurd hc (by decide)
  | sdict kvs => obtain ⟨_, ⟨ob', es, ep, ho', ⟨hc', _⟩, _⟩, _⟩ := r; rw [ho] at ho'; cases ho'; rw [hc'] at hc; exact absurd hc (by decide)
  | tdict kvs => obtain ⟨_, ⟨ob', es, ep, ho', ⟨hc', _⟩, _⟩, _⟩ := r; rw [ho] at ho'; cases ho'; rw [hc'] at hc; exact absurd hc (by decide)
  | inst C d => obtain ⟨ho', _⟩ := r; rw [ho] at ho'; cases ho'; rcases hc with hc | hc <;> cases hc

theorem RepO.notFields {prog w h σ ι a o ob fs} (r : RepO prog w h σ ι a o) (ho : h.get? a = some ob) : ob.data ≠ .fields fs := by
  intro hd
  cases o with
  | list vs => obtain ⟨_, ⟨n', ho'⟩, _⟩ := r; rw [ho] at ho'; cases ho'; cases hd
  | idict kvs pin => obtain ⟨_, ⟨ob', es, ep, ho', ⟨hc', _⟩, hd', _⟩, _⟩ := r; rw [ho] at ho'; cases ho'; rw [hd] at hd'; cases hd'
  | sdict kvs => obtain ⟨_, ⟨ob', es, ep, ho', ⟨hc', _⟩, hd', _⟩, _⟩ := r; rw [ho] at ho'; cases ho'; rw [hd] at hd'; cases hd'
  | tdict kvs => obtain ⟨_, ⟨ob', es, ep, ho', ⟨hc', _⟩, hd', _⟩, _⟩ := r; rw [ho] at ho'; cases ho'; rw [hd] at hd'; cases hd'
  | inst C d => obtain ⟨ho', _⟩ := r; rw [ho] at ho'; cases ho'; cases hd

theorem RepO.notCell {prog w h σ ι a o v} (r : RepO prog w h σ ι a o) : ¬ h.IsCell a v := by
  rintro ⟨ob, ho, hd⟩
  cases o with
  | list vs => obtain ⟨_, ⟨n', ho'⟩, _⟩ := r; rw [ho] at ho'; cases ho'; cases hd
  | idict kvs pin => obtain ⟨_, ⟨ob', es, ep, ho', ⟨hc', _⟩, hd', _⟩, _⟩ := r; rw [ho] at ho'; cases ho'; rw [hd] at hd'; cases hd'
  | sdict kvs => obtain ⟨_, ⟨ob', es, ep, ho', ⟨hc', _⟩, hd', _⟩, _⟩ := r; rw [ho] at ho'; cases ho'; rw [hd] at hd'; cases hd'
  | tdict kvs => obtain ⟨_, ⟨ob', es, ep, ho', ⟨hc', _⟩, hd', _⟩, _⟩ := r; rw [ho] at ho'; cases ho'; rw [hd] at hd'; cases hd'
  | inst C d => obtain ⟨ho', _⟩ := r; rw [ho] at ho'; cases ho'; cases hd

theorem RepO.some {prog w h σ ι a o} (r : RepO prog w h σ ι a o) : ∃ ob, h.get? a = some ob := by
  cases o with
  | list vs => obtain ⟨_, ⟨n', ho'⟩, _⟩ := r; exact ⟨_, ho'⟩
  | idict kvs pin => obtain ⟨_, ⟨ob', es, ep, ho', _⟩, _⟩ := r; exact ⟨_, ho'⟩
  | sdict kvs => obtain ⟨_, ⟨ob', es, ep, ho', _⟩, _⟩ := r; exact ⟨_, ho'⟩
  | tdict kvs => obtain ⟨_, ⟨ob', es, ep, ho', _⟩, _⟩ := r; exact ⟨_, ho'⟩
  | inst C d => exact ⟨_, r.1⟩

set_option genInjectivity false in
/-- what stands for the whole run -/
structure Wd where
  prog : Program
  w : World
  K : Frag
  h₀ : Heap
  p : Program
  loose : List Str
  mg : Str → Option Value
  mb : Str → Option Value
  X : K.In h₀
  T : TopRead p loose mg mb h₀
  os : OsState
  gens : Array GenState

abbrev Frz := Addr → Option Obj

structure Hp (W : Wd) (G : Frz) (σ : Sto) (ι : Loc) (h : Heap) (ω : OsState) (γ : Array GenState) : Prop where
  base : ∀ b o, W.h₀.get? b = some o → G b = some o
  keep : ∀ b o, G b = some o → h.get? b = some o
  objs : ∀ i o, σ i = some o → G (ι i) = none ∧ RepO W.prog W.w h σ ι (ι i) o
  inj : ∀ i j, σ i ≠ none → σ j ≠ none → ι i = ι j → i = j
  fin : ∃ N, ∀ i, N ≤ i → σ i = none
  same : ω = W.os ∧ γ = W.gens

theorem Hp.all {W G σ ι h} (X : Hp W G σ ι h ω γ) : ∀ b o, W.h₀.get? b = some o → h.get? b = some o := fun b o e => X.keep b o (X.base b o e)
theorem Hp.inK {W G σ ι h} (X : Hp W G σ ι h ω γ) : W.K.In h := W.X.keeps X.all
theorem Hp.top {W G σ ι h} (X : Hp W G σ ι h ω γ) : TopRead W.p W.loose W.mg W.mb h := W.T.keeps X.all
theorem Hp.nolimit {W G σ ι h} (X : Hp W G σ ι h ω γ) : h.NoLimit := X.top.nolimit
theorem Hp.live {W G σ ι h i} (X : Hp W G σ ι h ω γ) (e : σ i ≠ none) : ∃ o, An3 (σ i = some o) (G (ι i) = none) (RepO W.prog W.w h σ ι (ι i) o) := by
  cases q : σ i with
  | none => exact absurd q e
  | some o => exact ⟨o, rfl, (X.objs i o q).1, (X.objs i o q).2⟩

theorem Hp.re {W G σ ι h} (X : Hp W G σ ι h ω γ) (a : ω' = ω) (b : γ' = γ) : Hp W G σ ι h ω' γ' := by subst a; subst b; exact X
/-- growth: all stays, new objects -/
theorem Hp.grow {W G σ ι h h'} (X : Hp W G σ ι h ω γ) (k : ∀ b o, h.get? b = some o → h'.get? b = some o) : Hp W G σ ι h' ω γ ∧ Ext h σ ι h' σ ι := by
  have E : Ext h σ ι h' σ ι := ⟨fun a o ho _ => k _ _ ho, fun i z => ⟨z, rfl⟩⟩
  exact ⟨⟨X.base, fun b o e => k _ _ (X.keep b o e), fun i o e => ⟨(X.objs i o e).1, (X.objs i o e).2.ext E (k _)⟩, X.inj, X.fin, X.same⟩, E⟩

/-- a place that is no tuple and none of ours turns -/
theorem Hp.turn {W G σ ι h h'} {a : Addr} (X : Hp W G σ ι h ω γ) (k : Heap.ExtBut a h h') (nt : ∀ ob, h.get? a = some ob → ¬ TupO ob) (ng : G a = none) (no : ∀ i, σ i ≠ none → ι i ≠ a) : Hp W G σ ι h' ω γ ∧ Ext h σ ι h' σ ι := by
  have E : Ext h σ ι h' σ ι := ⟨fun b o ho hc => k b o (fun e => nt o (e ▸ ho) hc) ho, fun i z => ⟨z, rfl⟩⟩
  refine ⟨⟨X.base, fun b o e => k b o (fun q => ?_) (X.keep b o e), fun i o e => ⟨(X.objs i o e).1, (X.objs i o e).2.ext E fun ob q => k _ _ (no i (by rw [e]; exact fun z => by cases z)) q⟩, X.inj, X.fin, X.same⟩, E⟩
  rw [q, ng] at e; cases e

theorem Ext.setS {h σ ι h'} {i : Nat} {o' : AObj} (E : Ext h σ ι h' σ ι) (hi : σ i ≠ none) : Ext h σ ι h' (setS σ i o') ι :=
  ⟨E.tup, fun j z => ⟨by unfold Mine.setS; split <;> simp_all, rfl⟩⟩

/-- one of our objects turns -/
theorem Hp.set {W G σ ι h h'} {i : Nat} {o o' : AObj} (X : Hp W G σ ι h ω γ) (hi : σ i = some o) (k : Heap.ExtBut (ι i) h h')
    (r : Ext h σ ι h' (setS σ i o') ι → RepO W.prog W.w h' (setS σ i o') ι (ι i) o') : Hp W G (setS σ i o') ι h' ω γ ∧ Ext h σ ι h' (setS σ i o') ι := by
  have R := (X.objs i o hi).2
  have hi' : σ i ≠ none := by rw [hi]; exact fun z => by cases z
  have E : Ext h σ ι h' (setS σ i o') ι := ⟨fun b ob ho hc => k b ob (fun e => R.notTuple (e ▸ ho) hc) ho, fun j z => ⟨by unfold Mine.setS; split <;> simp_all, rfl⟩⟩
  have live : ∀ j, setS σ i o' j ≠ none → σ j ≠ none := fun j z => by
    unfold Mine.setS at z; split at z
    · rename_i q; rw [q]; exact hi'
    · exact z
  refine ⟨⟨X.base, fun b ob e => k b ob (fun q => ?_) (X.keep b ob e), fun j oj e => ?_, fun a b ha hb => X.inj a b (live a ha) (live b hb), ?_, X.same⟩, E⟩
  · rw [q, (X.objs i o hi).1] at e; cases e
  · by_cases q : j = i
    · subst q
      have e' : o' = oj := by simpa [Mine.setS] using e
      subst e'
      exact ⟨(X.objs j o hi).1, r E⟩
    · have e' : σ j = some oj := by simpa [Mine.setS, q] using e
      refine ⟨(X.objs j oj e').1, (X.objs j oj e').2.ext E fun ob z => k _ _ (fun w => q (X.inj j i (by rw [e']; exact fun z => by cases z) hi' w)) z⟩
  · obtain ⟨N, hN⟩ := X.fin
    refine ⟨N, fun j hj => ?_⟩
    have := hN j hj
    unfold Mine.setS; split
    · rename_i q; rw [q] at this; exact absurd this hi'
    · exact this

/-- a new object of ours -/
theorem Hp.new {W G σ ι h h'} {i : Nat} {a : Addr} {o' : AObj} (X : Hp W G σ ι h ω γ) (hi : σ i = none) (ha : h.get? a = none) (k : ∀ b o, h.get? b = some o → h'.get? b = some o)
    (r : Ext h σ ι h' (setS σ i o') (setL ι i a) → RepO W.prog W.w h' (setS σ i o') (setL ι i a) a o') : Hp W G (setS σ i o') (setL ι i a) h' ω γ ∧ Ext h σ ι h' (setS σ i o') (setL ι i a) := by
  have E : Ext h σ ι h' (setS σ i o') (setL ι i a) := ⟨fun b ob ho _ => k _ _ ho, fun j z => by
    have hj : j ≠ i := fun q => z (q ▸ hi)
    exact ⟨by simpa [Mine.setS, hj] using z, by simp [setL, hj]⟩⟩
  have hne : ∀ j oj, σ j = some oj → j ≠ i := fun j oj e q => by rw [q, hi] at e; cases e
  have hadr : ∀ j oj, σ j = some oj → ι j ≠ a := fun j oj e q => by
    obtain ⟨ob, hob⟩ := (X.objs j oj e).2.some
    rw [q, ha] at hob; cases hob
  have cas : ∀ j, setS σ i o' j ≠ none → j = i ∨ ∃ oj, σ j = some oj := fun j z => by
    by_cases q : j = i
    · exact .inl q
    · right
      have : σ j ≠ none := by simpa [Mine.setS, q] using z
      exact Option.ne_none_iff_exists'.mp this
  refine ⟨⟨X.base, fun b ob e => k _ _ (X.keep b ob e), fun j oj e => ?_, fun x y hx hy e => ?_, ?_, X.same⟩, E⟩
  · by_cases q : j = i
    · subst q
      have e' : o' = oj := by simpa [Mine.setS] using e
      subst e'
      refine ⟨?_, by simpa [setL] using r E⟩
      simp only [setL, if_true]
      cases z : G a with
      | none => rfl
      | some ob => have := X.keep a ob z; rw [ha] at this; cases this
    · have e' : σ j = some oj := by simpa [Mine.setS, q] using e
      have : setL ι i a j = ι j := by simp [setL, q]
      rw [this]
      exact ⟨(X.objs j oj e').1, (X.objs j oj e').2.ext E fun ob z => k _ _ z⟩
  · rcases cas x hx with rfl | ⟨ox, ex⟩ <;> rcases cas y hy with rfl | ⟨oy, ey⟩
    · rfl
    · have := hne y oy ey
      simp only [setL, if_true, if_neg this] at e
      exact absurd e.symm (hadr y oy ey)
    · have := hne x ox ex
      simp only [setL, if_true, if_neg this] at e
      exact absurd e (hadr x ox ex)
    · have h1 := hne x ox ex
      have h2 := hne y oy ey
      simp only [setL, if_neg h1, if_neg h2] at e
      exact X.inj x y (by rw [ex]; exact fun z => by cases z) (by rw [ey]; exact fun z => by cases z) e
  · obtain ⟨N, hN⟩ := X.fin
    refine ⟨max N (i + 1), fun j hj => ?_⟩
    have h1 : j ≠ i := by exact o1 hj
    simp only [Mine.setS, if_neg h1]
    exact hN j (by exact o2 hj)

end Mine

open PySem PySem.W PyProof.Rows PySem.SeqAt
set_option Elab.async false
set_option maxRecDepth 100000
set_option linter.unusedVariables false
namespace Mine

structure Fx where
  env : Env
  own : Bool

structure Fm (F : Fx) (G : Frz) (Γ : List (Str × V)) (σ : Sto) (ι : Loc) (h : Heap) : Prop where
  fresh : G F.env.locals = none
  ns : ∃ m, h.Ns F.env.locals m ∧ ∀ x v, F.env.kindOf x = some .local → Γ.lookup x = some v → ∃ u, m x = some u ∧ Rep h σ ι v u
  cell : ∀ x v, (F.env.kindOf x = some .cell ∨ F.env.kindOf x = some .free) → Γ.lookup x = some v → ∃ c u, F.env.cells.lookup x = some c ∧ h.IsCell c (some u) ∧ Rep h σ ι v u
  sep : ∀ i, σ i ≠ none → ι i ≠ F.env.locals
  ownc : F.own = true → ∀ x c, F.env.kindOf x = some .cell → F.env.cells.lookup x = some c → G c = none ∧ (∃ v, h.IsCell c v) ∧ ∀ y, (F.env.kindOf y = some .cell ∨ F.env.kindOf y = some .free) → F.env.cells.lookup y = some c → y = x

theorem Fm.step {F G Γ σ ι h h' σ' ι'} (X : Fm F G Γ σ ι h) (E : Ext h σ ι h' σ' ι') (kL : ∀ o, h.get? F.env.locals = some o → h'.get? F.env.locals = some o)
    (kC : ∀ c v, h.IsCell c v → h'.IsCell c v) (sep : ∀ i, σ' i ≠ none → ι' i ≠ F.env.locals) : Fm F G Γ σ' ι' h' where
  fresh := X.fresh
  ns := by
    obtain ⟨m, ⟨o, es, ep, ho, r⟩, hm⟩ := X.ns
    exact ⟨m, ⟨o, es, ep, kL _ ho, r⟩, fun x v hk hx => let ⟨u, hu, ru⟩ := hm x v hk hx; ⟨u, hu, ru.ext E⟩⟩
  cell := fun x v hk hx => let ⟨c, u, hc, hi, r⟩ := X.cell x v hk hx; ⟨c, u, hc, kC _ _ hi, r.ext E⟩
  sep := sep
  ownc := fun o x c hk hc => let ⟨a, ⟨v, b⟩, d⟩ := X.ownc o x c hk hc; ⟨a, ⟨v, kC _ _ b⟩, d⟩

structure Ok (W : Wd) (F : Fx) (G : Frz) (st : St) (ι : Loc) (h : Heap) (ω : OsState) (γ : Array GenState) : Prop where
  hp : Hp W G st.σ ι h ω γ
  fm : Fm F G st.Γ st.σ ι h

section
variable {W : Wd} {F : Fx} {G : Frz} {Γ : List (Str × V)} {σ : Sto} {ι : Loc} {h h' : Heap}

theorem Ok.grow (X : Ok W F G ⟨Γ, σ⟩ ι h ω γ) (k : ∀ b o, h.get? b = some o → h'.get? b = some o) : Ok W F G ⟨Γ, σ⟩ ι h' ω γ ∧ Ext h σ ι h' σ ι := by
  obtain ⟨H, E⟩ := X.hp.grow k
  exact ⟨⟨H, X.fm.step E (k _) (fun c v z => z.keeps k) X.fm.sep⟩, E⟩

theorem Ok.set {i : Nat} {o o' : AObj} (X : Ok W F G ⟨Γ, σ⟩ ι h ω γ) (hi : σ i = some o) (k : Heap.ExtBut (ι i) h h')
    (r : Ext h σ ι h' (setS σ i o') ι → RepO W.prog W.w h' (setS σ i o') ι (ι i) o') : Ok W F G ⟨Γ, setS σ i o'⟩ ι h' ω γ ∧ Ext h σ ι h' (setS σ i o') ι := by
  obtain ⟨H, E⟩ := X.hp.set hi k r
  have hi' : σ i ≠ none := by rw [hi]; exact fun z => by cases z
  refine ⟨⟨H, X.fm.step E (fun ob z => k _ _ (Ne.symm (X.fm.sep i hi')) z) (fun c v z => ?_) (fun j z => X.fm.sep j ?_)⟩, E⟩
  · obtain ⟨ob, ho, hd⟩ := z
    refine ⟨ob, k _ _ (fun q => ?_) ho, hd⟩
    exact (X.hp.objs i o hi).2.notCell (v := v) (by rw [← q]; exact ⟨ob, ho, hd⟩)
  · change setS σ i o' j ≠ none at z
    unfold setS at z; split at z
    · rename_i q; rw [q]; exact hi'
    · exact z

theorem Ok.new {i : Nat} {a : Addr} {o' : AObj} (X : Ok W F G ⟨Γ, σ⟩ ι h ω γ) (hi : σ i = none) (ha : h.get? a = none) (k : ∀ b o, h.get? b = some o → h'.get? b = some o)
    (r : Ext h σ ι h' (setS σ i o') (setL ι i a) → RepO W.prog W.w h' (setS σ i o') (setL ι i a) a o') : Ok W F G ⟨Γ, setS σ i o'⟩ (setL ι i a) h' ω γ ∧ Ext h σ ι h' (setS σ i o') (setL ι i a) := by
  obtain ⟨H, E⟩ := X.hp.new hi ha k r
  refine ⟨⟨H, X.fm.step E (k _) (fun c v z => z.keeps k) (fun j z => ?_)⟩, E⟩
  by_cases q : j = i
  · subst q
    obtain ⟨m, ⟨o, es, ep, ho, _⟩, _⟩ := X.fm.ns
    intro e
    simp only [setL, if_true] at e
    rw [e, ho] at ha; cases ha
  · have e1 : setL ι i a j = ι j := by simp [setL, q]
    rw [e1]
    exact X.fm.sep j (by simpa [setS, q] using z)

theorem lookup_setG_self {Γ : List (Str × V)} {x : Str} {v : V} : (setG Γ x v).lookup x = some v := by simp [setG]
theorem lookup_setG_ne {Γ : List (Str × V)} {x y : Str} {v : V} (n : y ≠ x) : (setG Γ x v).lookup y = Γ.lookup y := by
  have h1 : (y == x) = false := by simpa using n
  rw [setG, List.lookup_cons, h1]
  dsimp only
  induction Γ with
  | nil => rfl
  | cons p r ih =>
    obtain ⟨z, w⟩ := p
    by_cases q : z = x
    · subst q; simp [List.lookup_cons, h1, ih]
    · have : (z == x) = false := by simpa using q
      simp only [List.filter_cons, this, Bool.not_false, if_true, List.lookup_cons, ih]

/-- a local name turns -/
theorem Ok.local {x : Str} {v : V} {u : Value} {m : Str → Option Value} (X : Ok W F G ⟨Γ, σ⟩ ι h ω γ) (hx : F.env.kindOf x = some .local) (hs : Heap.SameBut F.env.locals h h')
    (hm : h.Ns F.env.locals m) (hn : h'.Ns F.env.locals (fun y => if y = x then some u else m y)) (r : Rep h σ ι v u) : Ok W F G ⟨setG Γ x v, σ⟩ ι h' ω γ ∧ Ext h σ ι h' σ ι := by
  obtain ⟨m₀, hm₀, hr⟩ := X.fm.ns
  have em : m₀ = m := by
    obtain ⟨o, es, ep, ho, hd, _, hf⟩ := hm
    obtain ⟨o', es', ep', ho', hd', _, hf'⟩ := hm₀
    rw [ho] at ho'; cases ho'; rw [hd] at hd'; cases hd'
    funext y; rw [← hf, ← hf']
  subst em
  have notT : ∀ ob, h.get? F.env.locals = some ob → ¬ TupO ob := by
    intro o ho hT
    obtain ⟨o', es, ep, ho', hd', _⟩ := hm
    rw [ho] at ho'; cases ho'
    rcases hT with ⟨_, _, n, hd⟩ | ⟨_, _, hd⟩ <;> · rw [hd] at hd'; cases hd'
  obtain ⟨H, E⟩ := X.hp.turn hs.extBut notT X.fm.fresh (fun i z => X.fm.sep i z)
  have kC : ∀ c v, h.IsCell c v → h'.IsCell c v := fun c v ⟨o, ho, hd⟩ => ⟨o, hs.extBut c o (fun q => by
    obtain ⟨o', es, ep, ho', hd', _⟩ := hm
    rw [q, ho'] at ho; cases ho; rw [hd] at hd'; cases hd') ho, hd⟩
  refine ⟨⟨H, ⟨X.fm.fresh, ⟨_, hn, fun y w hk hy => ?_⟩, fun y w hk hy => ?_, X.fm.sep, fun o y c hk hc => ?_⟩⟩, E⟩
  · by_cases q : y = x
    · subst q
      dsimp only at hy
      rw [lookup_setG_self] at hy; cases hy
      exact ⟨u, by simp, r.ext E⟩
    · dsimp only at hy
      rw [lookup_setG_ne q] at hy
      obtain ⟨u', hu', ru'⟩ := hr y w hk hy
      exact ⟨u', by simpa [q] using hu', ru'.ext E⟩
  · have q : y ≠ x := fun q => by rw [q, hx] at hk; rcases hk with hk | hk <;> cases hk
    dsimp only at hy
    rw [lookup_setG_ne q] at hy
    obtain ⟨c, u', hc, hi, r'⟩ := X.fm.cell y w hk hy
    exact ⟨c, u', hc, kC _ _ hi, r'.ext E⟩
  · obtain ⟨a, ⟨v, b⟩, d⟩ := X.fm.ownc o y c hk hc
    exact ⟨a, ⟨v, kC _ _ b⟩, d⟩

/-- a cell name turns -/
theorem Ok.cell {x : Str} {c : Addr} {v : V} {u : Value} (X : Ok W F G ⟨Γ, σ⟩ ι h ω γ) (ow : F.own = true) (hx : F.env.kindOf x = some .cell) (hc : F.env.cells.lookup x = some c) (hs : Heap.SameBut c h h')
    (hn : h'.IsCell c (some u)) (r : Rep h σ ι v u) : Ok W F G ⟨setG Γ x v, σ⟩ ι h' ω γ ∧ Ext h σ ι h' σ ι := by
  obtain ⟨gc, ⟨v₀, oc, hoc, hdc⟩, un⟩ := X.fm.ownc ow x c hx hc
  have notT : ∀ ob, h.get? c = some ob → ¬ TupO ob := by
    intro o ho hT
    rw [ho] at hoc; cases hoc
    rcases hT with ⟨_, _, n, hd⟩ | ⟨_, _, hd⟩ <;> · rw [hd] at hdc; cases hdc
  obtain ⟨H, E⟩ := X.hp.turn hs.extBut notT gc (fun i z q => by
    obtain ⟨o, _, _, ro⟩ := X.hp.live z
    exact ro.notCell (v := v₀) (by rw [q]; exact ⟨oc, hoc, hdc⟩))
  obtain ⟨m, hm, hr⟩ := X.fm.ns
  have hL : F.env.locals ≠ c := fun q => by
    obtain ⟨o', es, ep, ho', hd', _⟩ := hm
    rw [q, hoc] at ho'; cases ho'; rw [hdc] at hd'; cases hd'
  refine ⟨⟨H, ⟨X.fm.fresh, ⟨m, hm.extBut hs.extBut hL, fun y w hk hy => ?_⟩, fun y w hk hy => ?_, X.fm.sep, fun o y d hk hd => ?_⟩⟩, E⟩
  · have q : y ≠ x := fun q => by rw [q, hx] at hk; cases hk
    dsimp only at hy
    rw [lookup_setG_ne q] at hy
    obtain ⟨u', hu', ru'⟩ := hr y w hk hy
    exact ⟨u', hu', ru'.ext E⟩
  · by_cases q : y = x
    · subst q
      dsimp only at hy
      rw [lookup_setG_self] at hy; cases hy
      exact ⟨c, u, hc, hn, r.ext E⟩
    · dsimp only at hy
      rw [lookup_setG_ne q] at hy
      obtain ⟨d, u', hd, ⟨od, hod, hdd⟩, r'⟩ := X.fm.cell y w hk hy
      refine ⟨d, u', hd, ⟨od, hs.extBut d od (fun z => q (un y hk (z ▸ hd))) hod, hdd⟩, r'.ext E⟩
  · obtain ⟨a, ⟨w, od, hod, hdd⟩, un'⟩ := X.fm.ownc o y d hk hd
    refine ⟨a, ?_, un'⟩
    by_cases z : d = c
    · exact ⟨_, z ▸ hn⟩
    · exact ⟨w, od, hs.extBut d od z hod, hdd⟩
end

section
variable {α β : Type}

/-- where a run may end -/
inductive Po (W : Wd) (F : Fx) (G : Frz) (h₀ : Heap) (σ₀ : Sto) (ι₀ : Loc) (s : Shared) (P : Heap → St → Loc → Prop) : Prop
  | mk (st : St) (ι : Loc) (x : Ok W F G st ι s.heap s.os s.gens) (e : Ext h₀ σ₀ ι₀ s.heap st.σ ι) (p : P s.heap st ι) : Po W F G h₀ σ₀ ι₀ s P
inductive Lo (W : Wd) (F : Fx) (G : Frz) (h₀ : Heap) (σ₀ : Sto) (ι₀ : Loc) (r : Result) (s : Shared) (P : St → Prop) : Prop
  | mk (st : St) (ι : Loc) (n : r = .ok .next) (x : Ok W F G st ι s.heap s.os s.gens) (e : Ext h₀ σ₀ ι₀ s.heap st.σ ι) (p : P st) : Lo W F G h₀ σ₀ ι₀ r s P
inductive Vo (Q : V → St → Prop) (u : Value) (h : Heap) (st : St) (ι : Loc) : Prop
  | mk (v : V) (r : Rep h st.σ ι v u) (q : Q v st) : Vo Q u h st ι

def Tr (W : Wd) (F : Fx) (A : Around) (t : Sem α) (st : St) (P : α → Heap → St → Loc → Prop) : Prop :=
  ∀ (G : Frz) (ι : Loc) (s : Shared), Ok W F G st ι s.heap s.os s.gens →
    wpAny (model W.prog W.w) A t (fun a s' => Po W F G s.heap st.σ ι s' (P a)) (fun _ _ => False) s

variable {W : Wd} {F : Fx} {A : Around} {t : Sem α} {st : St} {P P' : α → Heap → St → Loc → Prop}

theorem Tr.use {G : Frz} {ι : Loc} {s : Shared} {Q : α → Shared → Prop} {E : Value → Shared → Prop} (T : Tr W F A t st P) (X : Ok W F G st ι s.heap s.os s.gens)
    (k : ∀ a s' st' ι', Ok W F G st' ι' s'.heap s'.os s'.gens → Ext s.heap st.σ ι s'.heap st'.σ ι' → P a s'.heap st' ι' → Q a s') : wpAny (model W.prog W.w) A t Q E s :=
  wpAny_mono (T G ι s X) (fun a s' ⟨st', ι', x, e, p⟩ => k a s' st' ι' x e p) fun _ _ z => z.elim

theorem Tr.mono (T : Tr W F A t st P) (k : ∀ a h st' ι', P a h st' ι' → P' a h st' ι') : Tr W F A t st P' :=
  fun G ι s X => T.use X fun a s' st' ι' x e p => ⟨st', ι', x, e, k a _ _ _ p⟩
end

/-- an expression gives a value -/
def Ev (W : Wd) (F : Fx) (A : Around) (e : Expr) (st : St) (Q : V → St → Prop) : Prop :=
  Tr W F A (eval e F.env) st (Vo Q)
/-- an expression as a test -/
def Is (W : Wd) (F : Fx) (A : Around) (e : Expr) (st : St) (Q : Bool → St → Prop) : Prop :=
  Tr W F A (isTrue e F.env (eval e F.env)) st fun b _ st' _ => Q b st'

inductive Fl
  | next
  | ret (v : V)
inductive RepFl (h : Heap) (σ : Sto) (ι : Loc) : Fl → Flow → Prop
  | next : RepFl h σ ι .next .next
  | ret {v : V} {u : Value} : Rep h σ ι v u → RepFl h σ ι (.ret v) (.ret u)
theorem RepFl.ext {h σ ι h' σ' ι'} (X : Ext h σ ι h' σ' ι') {v u} : RepFl h σ ι v u → RepFl h' σ' ι' v u
  | .next => .next
  | .ret r => .ret (r.ext X)

inductive FlO (Q : Fl → St → Prop) (u : Flow) (h : Heap) (st : St) (ι : Loc) : Prop
  | mk (v : Fl) (r : RepFl h st.σ ι v u) (q : Q v st) : FlO Q u h st ι
def Ex (W : Wd) (F : Fx) (A : Around) (x : Stmt) (st : St) (Q : Fl → St → Prop) : Prop :=
  Tr W F A (exec x F.env) st (FlO Q)
def Exs (W : Wd) (F : Fx) (A : Around) (x : List Stmt) (st : St) (Q : Fl → St → Prop) : Prop :=
  Tr W F A (execs x F.env) st (FlO Q)
/-- a store -/
def As (W : Wd) (F : Fx) (A : Around) (x : Expr) (v : V) (st : St) (Q : St → Prop) : Prop :=
  ∀ (G : Frz) (ι : Loc) (s : Shared) (u : Value), Ok W F G st ι s.heap s.os s.gens → Rep s.heap st.σ ι v u →
    wpAny (model W.prog W.w) A (assign x F.env u) (fun _ s' => Po W F G s.heap st.σ ι s' fun _ st' _ => Q st') (fun _ _ => False) s

section
variable {W : Wd} {F : Fx} {A : Around} {st : St}

theorem Ev.mono {e Q Q'} (T : Ev W F A e st Q) (k : ∀ v st', Q v st' → Q' v st') : Ev W F A e st Q' := Tr.mono T fun _ _ _ _ ⟨v, r, q⟩ => ⟨v, r, k _ _ q⟩
theorem Is.mono {e Q Q'} (T : Is W F A e st Q) (k : ∀ v st', Q v st' → Q' v st') : Is W F A e st Q' := Tr.mono T fun _ _ _ _ q => k _ _ q
theorem Ex.mono {e Q Q'} (T : Ex W F A e st Q) (k : ∀ v st', Q v st' → Q' v st') : Ex W F A e st Q' := Tr.mono T fun _ _ _ _ ⟨v, r, q⟩ => ⟨v, r, k _ _ q⟩
theorem Exs.mono {e Q Q'} (T : Exs W F A e st Q) (k : ∀ v st', Q v st' → Q' v st') : Exs W F A e st Q' := Tr.mono T fun _ _ _ _ ⟨v, r, q⟩ => ⟨v, r, k _ _ q⟩
end
end Mine

open PySem PySem.W PyProof.Rows PySem.SeqAt PySem.Calls
set_option Elab.async false
set_option maxRecDepth 100000
set_option linter.unusedVariables false
namespace Mine

section
variable {W : Wd} {F : Fx} {A : Around} {st : St}

theorem Ev.noneC {k p Q} (q : Q .none st) : Ev W F A (.Constant .none k p) st Q :=
  fun G ι s X => wpAny_pure (⟨_, _, X, .rfl', ⟨_, .none, q⟩⟩)
theorem Ev.boolC {b k p Q} (q : Q (.bool b) st) : Ev W F A (.Constant (.bool b) k p) st Q :=
  fun G ι s X => wpAny_pure (⟨_, _, X, .rfl', ⟨_, .bool b, q⟩⟩)
theorem Ev.intC {i k p Q} (q : Q (.int i) st) : Ev W F A (.Constant (.int i) k p) st Q :=
  fun G ι s X => wpAny_mkInt (⟨_, _, X, .rfl', ⟨_, .int i _, q⟩⟩)
theorem Ev.strC {x k p Q} (q : Q (.str x) st) : Ev W F A (.Constant (.str x) k p) st Q :=
  fun G ι s X => wpAny_mkText (⟨_, _, X, .rfl', ⟨_, .str x _, q⟩⟩)

theorem Ev.local {x v p Q} (q : st.Γ.lookup x = some v) (z : Q v st) (hk : F.env.kindOf x = some .local := by rfl) (hf : F.env.scope.kind = .function := by rfl) (hd : (x == ("__debug__" : Str)) = false := by decide) :
    Ev W F A (.Name x p) st Q := fun G ι s X => by
  obtain ⟨m, hm, hr⟩ := X.fm.ns
  obtain ⟨u, hu, r⟩ := hr x v hk q
  exact wpAny_Name (wpAny_loadName_local hf hk hm hu (⟨_, _, X, .rfl', ⟨v, r, z⟩⟩)) hd
theorem Ev.cell {x v p Q} (q : st.Γ.lookup x = some v) (z : Q v st) (hk : F.env.kindOf x = some .cell := by rfl) (hf : F.env.scope.kind = .function := by rfl) (hd : (x == ("__debug__" : Str)) = false := by decide) :
    Ev W F A (.Name x p) st Q := fun G ι s X => by
  obtain ⟨c, u, hc, hi, r⟩ := X.fm.cell x v (.inl hk) q
  exact wpAny_Name (wpAny_loadName_cell hf hk hc hi (⟨_, _, X, .rfl', ⟨v, r, z⟩⟩)) hd
theorem Ev.free {x v p Q} (q : st.Γ.lookup x = some v) (z : Q v st) (hk : F.env.kindOf x = some .free := by rfl) (hf : F.env.scope.kind = .function := by rfl) (hd : (x == ("__debug__" : Str)) = false := by decide)
    (hn : (x == ("__classdict__" : Str)) = false := by decide) : Ev W F A (.Name x p) st Q := fun G ι s X => by
  obtain ⟨c, u, hc, hi, r⟩ := X.fm.cell x v (.inr hk) q
  exact wpAny_Name (wpAny_loadName_free hf hk hc hi (⟨_, _, X, .rfl', ⟨v, r, z⟩⟩) hn) hd

/-- a name of the text's own top -/
theorem nameOwn {x : Str} {p : Pos} {v : Value} {G : Frz} {σ ι} {s : Shared} {Q : Value → Shared → Prop} {E : Value → Shared → Prop} (X : Hp W G σ ι s.heap s.os s.gens) (e : nsIn W.K mainGlobals x = some (some v)) (h : Q v s)
    (hk : F.env.kindOf x = some .globalImplicit := by rfl) (hf : F.env.scope.kind = .function := by rfl) (hg : F.env.globals = mainGlobals := by rfl) (hd : (x == ("__debug__" : Str)) = false := by decide) :
    wpAny (model W.prog W.w) A (eval (.Name x p) F.env) Q E s :=
  Name_function_global hf hk (loadGlobal_global (env := F.env) (by rw [hg]; exact X.top.g) (mg_of W.X W.T.g e) h) hd
/-- a builtin name -/
theorem nameBuiltin {x : Str} {p : Pos} {v : Value} {G : Frz} {σ ι} {s : Shared} {Q : Value → Shared → Prop} {E : Value → Shared → Prop} (X : Hp W G σ ι s.heap s.os s.gens) (e : nsIn W.K mainGlobals x = some none) (hv : bootBuiltins x = some v) (hn : x ≠ "__name__") (h : Q v s)
    (hk : F.env.kindOf x = some .globalImplicit := by rfl) (hf : F.env.scope.kind = .function := by rfl) (hg : F.env.globals = mainGlobals := by rfl) (hb : F.env.builtins = builtinsNs := by rfl) (hd : (x == ("__debug__" : Str)) = false := by decide) :
    wpAny (model W.prog W.w) A (eval (.Name x p) F.env) Q E s :=
  Name_function_global hf hk (loadGlobal_builtin (env := F.env) (by rw [hg]; exact X.top.g) (mg_none_of W.X W.T.g e) (by rw [hb]; exact X.top.b) ((X.top.builtins x hn).trans hv) h) hd

/-- a test whose value is a bool -/
theorem Is.plain {e Q} (T : Ev W F A e st fun v st' => ∃ b, v = .bool b ∧ Q b st') (he : ∀ whole, isTrue e F.env whole = (do let v ← whole; standAt e.pos; holding [v] (truthy v)) := by intro; rfl) : Is W F A e st Q :=
  fun G ι s X => isTrue_plain (T.use X fun u s' st' ι' x ext ⟨v, r, b, hv, q⟩ => by
    subst hv; cases r using Rep.boolE
    exact wpAny_truthy_bool (⟨_, _, x, ext, q⟩)) (he _)
theorem Is.not {e p Q} (T : Is W F A e st fun b st' => Q (!b) st') : Is W F A (.UnaryOp .Not e p) st Q :=
  fun G ι s X => by
    show wpAny _ _ (do return !(← isTrue e F.env (eval e F.env))) _ _ _
    exact wpAny_bind (T.use X fun b s' st' ι' x ext q => wpAny_pure (⟨_, _, x, ext, q⟩))

/-- and/or as a test -/
def Alls (W : Wd) (F : Fx) (A : Around) (op : BoolOp) (es : List Expr) (st : St) (Q : Bool → St → Prop) : Prop :=
  Tr W F A (allTrue op es F.env) st fun b _ st' _ => Q b st'
theorem Alls.nil {op Q} (q : Q (op == .And) st) : Alls W F A op [] st Q := fun G ι s X => wpAny_pure (⟨_, _, X, .rfl', q⟩)
theorem Alls.and {e es Q} (T : Is W F A e st fun b st' => if b = true then Alls W F A .And es st' Q else Q false st') : Alls W F A .And (e :: es) st Q := fun G ι s X => by
  rw [show allTrue .And (e :: es) F.env = _ from arm_allTrue_cons _ _ _ _]
  refine wpAny_bind (T.use X fun b s' st' ι' x ext q => ?_)
  cases b with
  | false => exact wpAny_pure (⟨_, _, x, ext, q⟩)
  | true => exact Tr.use (show Alls W F A .And es st' Q from by simpa using q) x fun b2 s2 st2 ι2 x2 ext2 q2 => ⟨_, _, x2, (ext.trans ext2), q2⟩
theorem Alls.or {e es Q} (T : Is W F A e st fun b st' => if b = true then Q true st' else Alls W F A .Or es st' Q) : Alls W F A .Or (e :: es) st Q := fun G ι s X => by
  rw [show allTrue .Or (e :: es) F.env = _ from arm_allTrue_cons _ _ _ _]
  refine wpAny_bind (T.use X fun b s' st' ι' x ext q => ?_)
  cases b with
  | true => exact wpAny_pure (⟨_, _, x, ext, q⟩)
  | false => exact Tr.use (show Alls W F A .Or es st' Q from by simpa using q) x fun b2 s2 st2 ι2 x2 ext2 q2 => ⟨_, _, x2, (ext.trans ext2), q2⟩
theorem Is.bool {op es p Q} (T : Alls W F A op es st Q) : Is W F A (.BoolOp op es p) st Q := T

theorem Ev.ifExp {t b o p Q} (T : Is W F A t st fun c st' => if c = true then Ev W F A b st' Q else Ev W F A o st' Q) : Ev W F A (.IfExp t b o p) st Q := fun G ι s X => by
  rw [show eval (.IfExp t b o p) F.env = _ from arm_eval_IfExp _ _ _ _ _]
  refine wpAny_bind (T.use X fun c s' st' ι' x ext q => ?_)
  cases c with
  | true => exact Tr.use (show Ev W F A b st' Q from by simpa using q) x fun b2 s2 st2 ι2 x2 ext2 q2 => ⟨_, _, x2, (ext.trans ext2), q2⟩
  | false => exact Tr.use (show Ev W F A o st' Q from by simpa using q) x fun b2 s2 st2 ι2 x2 ext2 q2 => ⟨_, _, x2, (ext.trans ext2), q2⟩

/-- `and`/`or` as a value, of bools -/
def Bools (W : Wd) (F : Fx) (A : Around) (p : Pos) (op : BoolOp) (es : List Expr) (st : St) (Q : V → St → Prop) : Prop :=
  Tr W F A (boolOp p op (evalEach es F.env)) st (Vo Q)
theorem Bools.one {e p op Q} (T : Ev W F A e st Q) : Bools W F A p op [e] st Q := T
theorem Bools.and {e e2 es p Q} (T : Ev W F A e st fun v st' => ∃ b, v = .bool b ∧ if b = true then Bools W F A p .And (e2 :: es) st' Q else Q (.bool false) st') : Bools W F A p .And (e :: e2 :: es) st Q := fun G ι s X => by
  refine wpAny_bind (T.use X fun u s' st' ι' x ext ⟨v, r, b, hv, q⟩ => ?_)
  subst hv; cases r using Rep.boolE
  refine wpAny_bind (wpAny_standAt (wpAny_bind (wpAny_holding (wpAny_truthy_bool ?_))))
  cases b with
  | false => exact wpAny_pure (⟨_, _, x, ext, ⟨_, .bool false, q⟩⟩)
  | true => exact Tr.use (show Bools W F A p .And (e2 :: es) st' Q from by simpa using q) x fun b2 s2 st2 ι2 x2 ext2 q2 => ⟨_, _, x2, (ext.trans ext2), q2⟩
theorem Ev.bool {op es p Q} (T : Bools W F A p op es st Q) : Ev W F A (.BoolOp op es p) st Q := T

/- statements -/
theorem Exs.nil {Q} (q : Q .next st) : Exs W F A [] st Q := fun G ι s X => wpAny_pure (⟨_, _, X, .rfl', ⟨_, .next, q⟩⟩)
theorem Exs.cons {x xs Q} (T : Ex W F A x st fun f st' => match f with | .next => Exs W F A xs st' Q | .ret v => Q (.ret v) st') : Exs W F A (x :: xs) st Q := fun G ι s X => by
  rw [show execs (x :: xs) F.env = _ from arm_execs_cons _ _ _]
  refine wpAny_bind (T.use X fun u s' st' ι' x ext ⟨f, r, q⟩ => ?_)
  cases r with
  | next => exact Tr.use (show Exs W F A xs st' Q from q) x fun b2 s2 st2 ι2 x2 ext2 q2 => ⟨_, _, x2, (ext.trans ext2), q2⟩
  | ret r => exact wpAny_pure (⟨_, _, x, ext, ⟨_, .ret r, q⟩⟩)
theorem Ex.ret {e p Q} (T : Ev W F A e st fun v st' => Q (.ret v) st') : Ex W F A (.Return (some e) p) st Q := fun G ι s X =>
  wpAny_Return_some (T.use X fun u s' st' ι' x ext ⟨v, r, q⟩ => ⟨_, _, x, ext, ⟨_, .ret r, q⟩⟩)
theorem Ex.iff {t b o p Q} (T : Is W F A t st fun c st' => if c = true then Exs W F A b st' Q else Exs W F A o st' Q) : Ex W F A (.If t b o p) st Q := fun G ι s X => by
  rw [show exec (.If t b o p) F.env = _ from arm_exec_If _ _ _ _ _]
  refine wpAny_bind (wpAny_standAt (wpAny_bind (T.use X fun c s' st' ι' x ext q => ?_)))
  cases c with
  | true => exact Tr.use (show Exs W F A b st' Q from by simpa using q) x fun b2 s2 st2 ι2 x2 ext2 q2 => ⟨_, _, x2, (ext.trans ext2), q2⟩
  | false => exact Tr.use (show Exs W F A o st' Q from by simpa using q) x fun b2 s2 st2 ι2 x2 ext2 q2 => ⟨_, _, x2, (ext.trans ext2), q2⟩

/-- a while loop with a measure -/
theorem Ex.while {t b p Q} (I : Nat → St → Prop) (n : Nat) (h0 : I n st)
    (turn : ∀ n st, I n st → Is W F A t st fun c st' => if c = true then Exs W F A b st' fun f st'' => match f with | .next => ∃ m, m < n ∧ I m st'' | .ret v => Q (.ret v) st'' else Q .next st') :
    Ex W F A (.While t b [] p) st Q := fun G ι s X => by
  refine wpAny_While (codeAny_whileLoop (fun n s' => Po W F G s.heap st.σ ι s' fun _ st' _ => I n st') (fun n s' hI => ?_) n ⟨st, ι, X, .rfl', h0⟩)
  obtain ⟨st1, ι1, X1, e1, i1⟩ := hI
  refine Tr.use (turn n st1 i1) X1 fun c s2 st2 ι2 X2 e2 q => ?_
  cases c with
  | true =>
    refine Tr.use (show Exs W F A b st2 (fun f st'' => match f with | .next => ∃ m, m < n ∧ I m st'' | .ret v => Q (.ret v) st'') from by simpa using q) X2 fun u s3 st3 ι3 X3 e3 ⟨f, r, q3⟩ => ?_
    cases r with
    | next => obtain ⟨m, hm, im⟩ := q3; exact ⟨m, hm, st3, ι3, X3, (e1.trans e2).trans e3, im⟩
    | ret r => exact ⟨st3, ι3, X3, (e1.trans e2).trans e3, ⟨_, .ret r, q3⟩⟩
  | false => exact wpAny_pure (⟨_, _, X2, (e1.trans e2), ⟨_, .next, by simpa using q⟩⟩)

/- stores -/
theorem As.local {x p v Q} (q : Q ⟨setG st.Γ x v, st.σ⟩) (hk : F.env.kindOf x = some .local := by rfl) (hf : F.env.scope.kind = .function := by rfl) : As W F A (.Name x p) v st Q := fun G ι s u X r => by
  obtain ⟨m, hm, _⟩ := X.fm.ns
  refine wpAny_bind (wpAny_standAt (wpAny_bind (wpAny_holding (wpAny_point (wpAny_bind (wpAny_storeName_local hk hm (fun h' hn hs => wpAny_point ?_) ?_))))))
  · obtain ⟨X', e⟩ := Ok.local X hk hs hm hn r
    exact ⟨_, ι, X', e, q⟩
  · show (F.env.scope.kind == .class || (F.env.scope.kind == .module && _)) = false
    rw [hf]; rfl
theorem As.cell {x p v Q} (q : Q ⟨setG st.Γ x v, st.σ⟩) (ow : F.own = true := by rfl) (hk : F.env.kindOf x = some .cell := by rfl) (hf : F.env.scope.kind = .function := by rfl) (hc : (F.env.cells.lookup x).isSome = true := by rfl) : As W F A (.Name x p) v st Q := fun G ι s u X r => by
  obtain ⟨c, hc⟩ := Option.isSome_iff_exists.mp hc
  obtain ⟨_, ⟨v₀, hv₀⟩, _⟩ := X.fm.ownc ow x c hk hc
  refine wpAny_bind (wpAny_standAt (wpAny_bind (wpAny_holding (wpAny_point (wpAny_bind (wpAny_storeName_cell hf hk hc hv₀ (fun h' hn hs => wpAny_point ?_)))))))
  obtain ⟨X', e⟩ := Ok.cell X ow hk hc hs hn r
  exact ⟨_, ι, X', e, q⟩

/-- an assignment to one target that is no exchange -/
theorem Ex.assign {t e p Q} (T : Ev W F A e st fun v st' => As W F A t v st' (Q .next)) (hs : swapsWith e (some t) p.line F.env = pure false := by rfl) (hw : swappedStores [t] e F.env = pure none := by rfl)
    (he : (assignEach [t] F.env).map (·.2) = [assign t F.env] := by rfl) : Ex W F A (.Assign [t] e p) st Q := fun G ι s X => by
  rw [show exec (.Assign [t] e p) F.env = _ from arm_exec_Assign _ _ _ _]
  refine wpAny_bind (wpAny_standAt (wpAny_bind ?_))
  show wpAny _ _ (swapsWith e (some t) p.line F.env) _ _ _
  rw [hs]
  refine wpAny_pure ?_
  refine wpAny_bind (T.use X fun u s' st' ι' x ext ⟨v, r, q⟩ => ?_)
  rw [hw, he]
  refine wpAny_bind (wpAny_pure ?_)
  refine wpAny_bind (wpAny_mono (q G ι' s' u x r) (fun _ s2 ⟨st2, ι2, x2, ext2, q2⟩ => wpAny_pure (⟨_, _, x2, (ext.trans ext2), ⟨_, .next, q2⟩⟩)) fun _ _ z => z.elim)

/-- a call whose value is dropped -/
theorem Ex.drop {f as ks pp p Q} (T : Ev W F A (.Call f as ks pp) st fun v st' => (v = .none ∨ (∃ b, v = .bool b) ∨ ∃ i, v = .int i) ∧ Q .next st') (hi : interactive F.env = false := by rfl) (hs : swapsWith (.Call f as ks pp) none p.line F.env = pure false := by rfl) : Ex W F A (.Expr (.Call f as ks pp) p) st Q := fun G ι s X => by
  rw [exec_Expr F.env (.Call f as ks pp) p hi hs]
  refine wpAny_bind (wpAny_standAt (wpAny_bind (T.use X fun u s' st' ι' x ext ⟨v, r, hv, q⟩ => ?_)))
  have : dropValue (.Call f as ks pp) p u = pure .next := by
    rcases hv with rfl | ⟨b, rfl⟩ | ⟨i, rfl⟩
    · cases r using Rep.noneE; rfl
    · cases r using Rep.boolE; rfl
    · cases r using Rep.intE; rfl
  rw [this]
  exact wpAny_pure (⟨_, _, x, ext, ⟨_, .next, q⟩⟩)
end
end Mine

open PySem PySem.W PyProof.Rows PySem.SeqAt PySem.Calls
set_option Elab.async false
set_option maxRecDepth 100000
set_option linter.unusedVariables false
namespace Mine

/-- all but our own objects stands still -/
noncomputable def frz (σ : Sto) (ι : Loc) (h : Heap) : Frz := fun b => by
  classical
  exact if (∃ i, σ i ≠ none ∧ ι i = b) then none else h.get? b
theorem frz_some {σ ι h b o} (e : frz σ ι h b = some o) : h.get? b = some o ∧ ∀ i, σ i ≠ none → ι i ≠ b := by
  classical
  unfold frz at e
  split at e
  · cases e
  · rename_i n
    exact ⟨e, fun i z q => n ⟨i, z, q⟩⟩
theorem frz_of {σ ι h b o} (e : h.get? b = some o) (n : ∀ i, σ i ≠ none → ι i ≠ b) : frz σ ι h b = some o := by
  classical
  unfold frz
  rw [if_neg (by rintro ⟨i, z, q⟩; exact n i z q)]
  exact e
theorem frz_ours {σ ι h i} (z : σ i ≠ none) : frz σ ι h (ι i) = none := by
  classical
  unfold frz
  rw [if_pos ⟨i, z, rfl⟩]

theorem Hp.sub {W G σ ι h} (X : Hp W G σ ι h ω γ) : ∀ b o, G b = some o → frz σ ι h b = some o := fun b o e =>
  frz_of (X.keep b o e) fun i z q => by obtain ⟨_, _, g, _⟩ := X.live z; rw [q, e] at g; cases g
theorem Hp.freeze {W G σ ι h} (X : Hp W G σ ι h ω γ) : Hp W (frz σ ι h) σ ι h ω γ where
  base := fun b o e => X.sub b o (X.base b o e)
  keep := fun b o e => (frz_some e).1
  objs := fun i o e => ⟨frz_ours (by rw [e]; exact fun z => by cases z), (X.objs i o e).2⟩
  inj := X.inj
  fin := X.fin
  same := X.same
theorem Hp.thaw {W G G' σ ι σ' ι' h h'} (X : Hp W G σ ι h ω γ) (Y : Hp W G' σ' ι' h' ω' γ') (s : ∀ b o, G b = some o → G' b = some o) : Hp W G σ' ι' h' ω' γ' where
  base := X.base
  keep := fun b o e => Y.keep b o (s b o e)
  objs := fun i o e => by
    refine ⟨?_, (Y.objs i o e).2⟩
    cases q : G (ι' i) with
    | none => rfl
    | some ob => have := s _ _ q; rw [(Y.objs i o e).1] at this; cases this
  inj := Y.inj
  fin := Y.fin
  same := Y.same

/-- where a call may end -/
inductive Fo (W : Wd) (G : Frz) (h₀ : Heap) (σ₀ : Sto) (ι₀ : Loc) (Q : V → Sto → Prop) (r : Result) (s : Shared) : Prop
  | mk (u : Value) (v : V) (σ : Sto) (ι : Loc) (e : r = .ok (.ret u)) (Y : Hp W G σ ι s.heap s.os s.gens) (ext : Ext h₀ σ₀ ι₀ s.heap σ ι) (rv : Rep s.heap σ ι v u) (q : Q v σ) : Fo W G h₀ σ₀ ι₀ Q r s
/-- a call -/
def Fn (W : Wd) (A : Around) (f : Value) (vs : List V) (σ : Sto) (Q : V → Sto → Prop) : Prop :=
  ∀ (G : Frz) (ι : Loc) (s : Shared) (us : List Value), Hp W G σ ι s.heap s.os s.gens → Reps s.heap σ ι vs us →
    codeAny (model W.prog W.w) A (.call f ⟨us, []⟩) (Fo W G s.heap σ ι Q) s

theorem Fn.mono {W A f vs σ Q Q'} (T : Fn W A f vs σ Q) (k : ∀ v σ', Q v σ' → Q' v σ') : Fn W A f vs σ Q' :=
  fun G ι s us X r => codeAny_mono (T G ι s us X r) fun r s' ⟨u, v, σ', ι', a, b, c, d, q⟩ => ⟨u, v, σ', ι', a, b, c, d, k _ _ q⟩

section
variable {W : Wd} {A : Around} {f : Value} {vs : List V} {σ : Sto} {Q : V → Sto → Prop} {α β γ : Type}
theorem Fn.mB {T : V} (h : Fn W A f vs σ fun v σ' => σ' = σ ∧ v = T) (k : Q T σ) : Fn W A f vs σ Q := h.mono fun _ _ ⟨a, b⟩ => a ▸ b ▸ k
theorem Fn.mD2 {T : α → V} {P : α → Prop} (h : Fn W A f vs σ fun v σ' => σ' = σ ∧ ∃ r, v = T r ∧ P r) (k : ∀ r, P r → Q (T r) σ) : Fn W A f vs σ Q := h.mono fun _ _ ⟨a, r, b, p⟩ => a ▸ b ▸ k r p
theorem Fn.mD3 {T : α → V} {P R : α → Prop} (h : Fn W A f vs σ fun v σ' => σ' = σ ∧ ∃ r, An3 (v = T r) (P r) (R r)) (k : ∀ r, P r → R r → Q (T r) σ) : Fn W A f vs σ Q := h.mono fun _ _ ⟨a, r, b, p, q⟩ => a ▸ b ▸ k r p q
theorem Fn.mC {T : α → V} {P R : α → Prop} {S U : Sto → Prop} (h : Fn W A f vs σ fun v σ' => An3 (∃ r, An3 (v = T r) (P r) (R r)) (S σ') (U σ')) (k : ∀ r σ', P r → R r → S σ' → U σ' → Q (T r) σ') : Fn W A f vs σ Q := h.mono fun _ _ ⟨⟨r, b, p, q⟩, s, u⟩ => b ▸ k r _ p q s u
theorem Fn.mC1 {T : α → V} {S U : Sto → Prop} (h : Fn W A f vs σ fun v σ' => An3 (∃ r, v = T r) (S σ') (U σ')) (k : ∀ r σ', S σ' → U σ' → Q (T r) σ') : Fn W A f vs σ Q := h.mono fun _ _ ⟨⟨r, b⟩, s, u⟩ => b ▸ k r _ s u
theorem Fn.mA2 {T : V} {S : Sto → Prop} (h : Fn W A f vs σ fun v σ' => v = T ∧ S σ') (k : ∀ σ', S σ' → Q T σ') : Fn W A f vs σ Q := h.mono fun _ _ ⟨b, s⟩ => b ▸ k _ s
theorem Fn.mA3 {T : V} {S U : Sto → Prop} (h : Fn W A f vs σ fun v σ' => An3 (v = T) (S σ') (U σ')) (k : ∀ σ', S σ' → U σ' → Q T σ') : Fn W A f vs σ Q := h.mono fun _ _ ⟨b, s, u⟩ => b ▸ k _ s u
theorem Fn.mA4 {T : V} {S U Z : Sto → Prop} (h : Fn W A f vs σ fun v σ' => An4 (v = T) (S σ') (U σ') (Z σ')) (k : ∀ σ', S σ' → U σ' → Z σ' → Q T σ') : Fn W A f vs σ Q := h.mono fun _ _ ⟨b, s, u, z⟩ => b ▸ k _ s u z
theorem Fn.mE4 {T : α → β → V} {S U Z : α → β → Sto → Prop} (h : Fn W A f vs σ fun v σ' => Sm2 fun x y => An4 (v = T x y) (S x y σ') (U x y σ') (Z x y σ')) (k : ∀ x y σ', S x y σ' → U x y σ' → Z x y σ' → Q (T x y) σ') : Fn W A f vs σ Q := h.mono fun _ _ ⟨x, y, b, s, u, z⟩ => b ▸ k x y _ s u z
theorem Fn.mE5 {T : α → β → V} {S U Z Y : α → β → Sto → Prop} (h : Fn W A f vs σ fun v σ' => Sm2 fun x y => An5 (v = T x y) (S x y σ') (U x y σ') (Z x y σ') (Y x y σ')) (k : ∀ x y σ', S x y σ' → U x y σ' → Z x y σ' → Y x y σ' → Q (T x y) σ') : Fn W A f vs σ Q := h.mono fun _ _ ⟨x, y, b, s, u, z, w⟩ => b ▸ k x y _ s u z w
theorem Fn.mF4 {T : α → β → γ → V} {S U Z : α → β → γ → Sto → Prop} (h : Fn W A f vs σ fun v σ' => Sm3 fun x y o => An4 (v = T x y o) (S x y o σ') (U x y o σ') (Z x y o σ')) (k : ∀ x y o σ', S x y o σ' → U x y o σ' → Z x y o σ' → Q (T x y o) σ') : Fn W A f vs σ Q := h.mono fun _ _ ⟨x, y, o, b, s, u, z⟩ => b ▸ k x y o _ s u z
end
/-- what a call does to the caller's frame -/
theorem Ok.after {W F G G' st σ' ι ι' h h'} (X : Ok W F G st ι h ω γ) (s : ∀ b o, frz st.σ ι h b = some o → G' b = some o) (Y : Hp W G' σ' ι' h' ω' γ') (E : Ext h st.σ ι h' σ' ι') : Ok W F G ⟨st.Γ, σ'⟩ ι' h' ω' γ' := by
  have S : ∀ b o, G b = some o → G' b = some o := fun b o e => s b o (X.hp.sub b o e)
  have kk : ∀ b o, h.get? b = some o → (∀ i, st.σ i ≠ none → ι i ≠ b) → h'.get? b = some o := fun b o e n => Y.keep b o (s b o (frz_of e n))
  have gg : ∀ b o, h.get? b = some o → (∀ i, st.σ i ≠ none → ι i ≠ b) → G' b = some o := fun b o e n => s b o (frz_of e n)
  obtain ⟨m, ⟨oL, es, ep, hoL, rL⟩, hm⟩ := X.fm.ns
  refine ⟨X.hp.thaw Y S, X.fm.step E (fun o e => kk _ _ e X.fm.sep) (fun c v ⟨oc, hoc, hdc⟩ => ⟨oc, kk c oc hoc fun i z q => ?_, hdc⟩) fun i z q => ?_⟩
  · obtain ⟨o, _, _, ro⟩ := X.hp.live z
    exact ro.notCell (v := v) (by rw [q]; exact ⟨oc, hoc, hdc⟩)
  · obtain ⟨o, _, g, _⟩ := Y.live z
    have := gg _ _ hoL X.fm.sep
    rw [q] at g
    rw [this] at g; cases g

theorem Fn.use {W F A st G ι s f vs us Qf} {Q : Value → Shared → Prop} {E : Value → Shared → Prop} (T : Fn W A f vs st.σ Qf) (X : Ok W F G st ι s.heap s.os s.gens) (r : Reps s.heap st.σ ι vs us)
    (k : ∀ u v s' σ' ι', Ok W F G ⟨st.Γ, σ'⟩ ι' s'.heap s'.os s'.gens → Ext s.heap st.σ ι s'.heap σ' ι' → Rep s'.heap σ' ι' v u → Qf v σ' → Q u s') : wpAny (model W.prog W.w) A (call f us) Q E s := by
  refine wpAny_call (codeAny_mono (T (frz st.σ ι s.heap) ι s us X.hp.freeze r) fun r s' ⟨u, v, σ', ι', e, Y, ext, rv, q⟩ => ?_)
  subst e
  exact k u v s' σ' ι' (X.after (fun _ _ e => e) Y ext) ext rv q

def Fl.val : Fl → V
  | .next => .none
  | .ret v => v

theorem bindL_lookup {k : Str → Option NameKind} {x : Str} (hk : k x = some .local) : ∀ (binds : List (Str × Value)) (m : Str → Option Value), (binds.map (·.1)).Nodup → bindL k binds m x = ((binds.lookup x).or (m x))
  | [], m, _ => by simp [bindL]
  | (n, v) :: r, m, nd => by
    rw [List.map_cons, List.nodup_cons] at nd
    rw [bindL, bindL_lookup hk r _ nd.2]
    by_cases q : x = n
    · subst q
      have : r.lookup x = none := by
        rw [List.lookup_eq_none_iff]
        intro p hp
        simp only [bne_iff_ne, ne_eq]
        intro e
        exact nd.1 (by show x ∈ _; rw [e]; exact List.mem_map.mpr ⟨p, hp, rfl⟩)
      simp [hk, this]
    · have h1 : (x == n) = false := by simpa using q
      rw [List.lookup_cons, h1]
      by_cases z : k n = some .local
      · simp [z, q]
      · simp [z]
theorem bindC_lookup {k : Str → Option NameKind} {x : Str} (hk : k x ≠ some .local) : ∀ (binds : List (Str × Value)) (m : Str → Option Value), (binds.map (·.1)).Nodup → bindC k binds m x = ((binds.lookup x).or (m x))
  | [], m, _ => by simp [bindC]
  | (n, v) :: r, m, nd => by
    rw [List.map_cons, List.nodup_cons] at nd
    rw [bindC, bindC_lookup hk r _ nd.2]
    by_cases q : x = n
    · subst q
      have : r.lookup x = none := by
        rw [List.lookup_eq_none_iff]
        intro p hp
        simp only [bne_iff_ne, ne_eq]
        intro e
        exact nd.1 (by show x ∈ _; rw [e]; exact List.mem_map.mpr ⟨p, hp, rfl⟩)
      simp [hk, this]
    · have h1 : (x == n) = false := by simpa using q
      rw [List.lookup_cons, h1]
      by_cases z : k n = some .local
      · simp [z]
      · simp [z, q]
theorem zip_rep {h σ ι} : ∀ {ns : List Str} {vs : List V} {us : List Value}, Reps h σ ι vs us → ∀ {x v}, (ns.zip vs).lookup x = some v → ∃ u, (ns.zip us).lookup x = some u ∧ Rep h σ ι v u
  | [], _, _, _, x, v, e => by simp at e
  | _ :: _, _, _, .nil, x, v, e => by simp at e
  | n :: ns, _, _, .cons a b, x, v, e => by
    rw [List.zip_cons_cons, List.lookup_cons] at e
    rw [List.zip_cons_cons, List.lookup_cons]
    split at e
    · cases e; exact ⟨_, rfl, a⟩
    · exact zip_rep b e
theorem zip_keys {us : List Value} {ns : List Str} (h : us.length = ns.length) : (ns.zip us).map (·.1) = ns := by
  rw [← List.unzip_fst, List.unzip_zip h.symm]
theorem mem_of_lookup' {cs : List (Str × Addr)} {z : Str} {c : Addr} (e : cs.lookup z = some c) : (z, c) ∈ cs := by
  induction cs with
  | nil => cases e
  | cons q t ih =>
    obtain ⟨a, b⟩ := q
    rw [List.lookup_cons] at e
    split at e
    · rename_i w; cases e; rw [beq_iff_eq.mp w]; exact .head _
    · exact .tail _ (ih e)
theorem pairwise_lookup {cs : List (Str × Addr)} (h : cs.Pairwise fun x y => x.2 ≠ y.2) {x y : Str} {c : Addr} (hx : cs.lookup x = some c) (hy : cs.lookup y = some c) : y = x := by
  induction cs with
  | nil => cases hx
  | cons p r ih =>
    obtain ⟨n, d⟩ := p
    rw [List.pairwise_cons] at h
    rw [List.lookup_cons] at hx hy
    split at hx <;> split at hy
    · rename_i _ w1 _ w2; rw [beq_iff_eq.mp w1, beq_iff_eq.mp w2]
    · cases hx; exact absurd rfl (h.1 (y, _) (mem_of_lookup' hy))
    · cases hy; exact absurd rfl (h.1 (x, _) (mem_of_lookup' hx))
    · exact ih h.2 hx hy

theorem mem_of_lookupG {β : Type} {cs : List (Str × β)} {z : Str} {c : β} (e : cs.lookup z = some c) : (z, c) ∈ cs := by
  induction cs with
  | nil => cases e
  | cons q t ih =>
    obtain ⟨a, b⟩ := q
    rw [List.lookup_cons] at e
    split at e
    · rename_i w; cases e; rw [beq_iff_eq.mp w]; exact .head _
    · exact .tail _ (ih e)

def fnEnv (fd : FuncData) (f L : Addr) : Env := envOfC fd.qualname fd.scope L f fd.code

/-- a call of an own function: its body -/
theorem Fn.of_body {W : Wd} {A : Around} {f : Addr} {vs : List V} {σ : Sto} {Q : V → Sto → Prop} (fd : FuncData) (names : List Str) {body : List Stmt} {oc : Value} {od : Option Addr} {osl : Array (Option Value)}
    (ho : W.K.lookup f = some ⟨oc, od, .func fd, osl⟩) (hcd : codeIn W.K fd.code fd.qualname = true) (hroom : A.depth < recursionLimit)
    (hbody : fd.body = .stmts body) (hgl : fd.globals = mainGlobals) (hcl : fd.closure = []) (hbu : fd.builtins = builtinsNs)
    (hbind : ∀ us : List Value, us.length = names.length → bindArgs fd ⟨us, []⟩ = pure (names.zip us))
    (hlen : vs.length = names.length) (hnd : names.Nodup)
    (hkinds : ∀ n, (names.all fun x => (fd.scope.names.lookup x == some .local) || ((fd.scope.names.lookup x == some .cell) && ((cellsFrom n fd.scope.names []).lookup x).isSome)) = true)
    (h : ∀ L, Exs W ⟨fnEnv fd f L, true⟩ (A.deeper (fnEnv fd f L)) body ⟨names.zip vs, σ⟩ (fun fl st' => Q fl.val st'.σ))
    (hco : fd.scope.isCoroutine = false) (hgen : fd.scope.isGenerator = false) (hk : fd.scope.kind = .function) : Fn W A (.ref f) vs σ Q := fun G ι s us X r => by
  have hu : us.length = names.length := r.length.symm.trans hlen
  have hkind : ∀ n, ∀ x ∈ names, fd.scope.names.lookup x = some .local ∨ (fd.scope.names.lookup x = some .cell ∧ ((cellsFrom n fd.scope.names []).lookup x).isSome = true) := fun n x hx => by
    have := List.all_eq_true.mp (hkinds n) x hx
    simpa only [Bool.or_eq_true, Bool.and_eq_true, beq_iff_eq] using this
  refine codeAny_call_function hroom (X.inK _ _ ho) rfl hco hgen hbody (codeRec_of X.inK hcd) ?_
  rw [hbind us hu]
  refine wpAny_pure ?_
  rw [hcl]
  refine wpAny_newFunctionEnv_cells hk (fun x hx => ?_) fun env' he s' x => ?_
  · have : x.1 ∈ names := by rw [← zip_keys hu]; exact List.mem_map_of_mem hx
    exact hkind _ _ this
  · have he' : env' = fnEnv fd f s.heap.objs.size := by rw [he, hgl, hbu]; rfl
    subst he'
    clear he
    have keep := x.toInCall.keep
    have nd : ((names.zip us).map (·.1)).Nodup := by rw [zip_keys hu]; exact hnd
    obtain ⟨Y, ext⟩ := X.grow keep
    have Y := let ⟨_, _, e⟩ := x.toInCall.same; Y.re (ω' := s'.os) (γ' := s'.gens) (by rw [e]) (by rw [e])
    have hL : (fnEnv fd f s.heap.objs.size).locals = s.heap.objs.size := rfl
    refine ⟨Y.nolimit, codeAny_func ?_⟩
    refine Tr.use (h s.heap.objs.size) (G := G) (ι := ι) ⟨Y, ⟨?_, ⟨_, x.toInCall.ns, fun y v hy hv => ?_⟩, fun y v hy hv => ?_, fun i z e => ?_, fun _ y c hy hc => ?_⟩⟩ fun fl s2 st2 ι2 X2 e2 ⟨w, rw', q⟩ => ?_
    · cases z : G (fnEnv fd f s.heap.objs.size).locals with
      | none => rfl
      | some o => exact absurd (Heap.lt_size (X.keep _ o z)) (by rw [hL]; exact Nat.lt_irrefl _)
    · dsimp only at hv
      obtain ⟨u, hu', ru⟩ := zip_rep r hv
      exact ⟨u, by rw [bindL_lookup hy _ _ nd, hu']; rfl, ru.ext ext⟩
    · dsimp only at hv
      obtain ⟨u, hu', ru⟩ := zip_rep r hv
      have hy' : (fnEnv fd f s.heap.objs.size).kindOf y ≠ some .local := fun q => by rw [q] at hy; rcases hy with hy | hy <;> cases hy
      have hyn : y ∈ names := by rw [← zip_keys hu]; exact List.mem_map.mpr ⟨(y, u), mem_of_lookupG hu', rfl⟩
      rcases hkind (s.heap.objs.size + 1) y hyn with q | ⟨q, q2⟩
      · exact absurd q hy'
      · obtain ⟨c, hc⟩ := Option.isSome_iff_exists.mp q2
        have := x.cell y c hc
        rw [bindC_lookup hy' _ _ nd, hu'] at this
        exact ⟨c, u, hc, this, ru.ext ext⟩
    · obtain ⟨o, _, _, ro⟩ := X.live z
      obtain ⟨ob, hob⟩ := ro.some
      have := Heap.lt_size hob
      rw [e, hL] at this
      exact Nat.lt_irrefl _ this
    · have := x.above y c (mem_of_lookup' hc)
      rw [hL] at this
      refine ⟨?_, ⟨_, x.cell y c hc⟩, fun y' hy' hc' => pairwise_lookup x.apart hc hc'⟩
      cases z : G c with
      | none => rfl
      | some o => exact absurd (Heap.lt_size (X.keep _ o z)) (Nat.not_lt.mpr (Nat.le_of_lt this))
    · cases rw' with
      | next => exact ⟨_, _, st2.σ, ι2, rfl, X2.hp, ext.trans e2, .none, q⟩
      | ret ru => exact ⟨_, _, st2.σ, ι2, rfl, X2.hp, ext.trans e2, ru, q⟩
end Mine

open PySem PySem.W PyProof.Rows PySem.SeqAt PySem.Calls
set_option Elab.async false
set_option maxRecDepth 100000
set_option linter.unusedVariables false
namespace Mine

section
variable {W : Wd} {F : Fx} {A : Around} {st : St}

inductive Vso (Q : List V → St → Prop) (us : List Value) (h : Heap) (st : St) (ι : Loc) : Prop
  | mk (vs : List V) (r : Reps h st.σ ι vs us) (q : Q vs st) : Vso Q us h st ι
/-- the arguments, in turn -/
def Evs (W : Wd) (F : Fx) (A : Around) (es : List Expr) (st : St) (Q : List V → St → Prop) : Prop :=
  ∀ p, Tr W F A (spliced (backTo p (starEach es F.env))) st (Vso Q)
def notStar : Expr → Bool
  | .Starred .. => false
  | _ => true
theorem starEach_cons {e : Expr} {es : List Expr} {env : Env} (h : notStar e = true) : starEach (e :: es) env = (false, eval e env) :: starEach es env := by
  cases e <;> first | rfl | cases h
theorem Evs.nil {Q} (q : Q [] st) : Evs W F A [] st Q := fun p G ι s X => spliced_nil ⟨_, _, X, .rfl', _, .nil, q⟩
theorem Evs.cons {e es Q} (T : Ev W F A e st fun v st' => Evs W F A es st' fun vs st'' => Q (v :: vs) st'') (h : notStar e = true := by rfl) : Evs W F A (e :: es) st Q := fun p G ι s X => by
  rw [starEach_cons h]
  refine spliced_cons (T.use X fun u s1 st1 ι1 X1 e1 ⟨v, r, q⟩ => (q p).use X1 fun us s2 st2 ι2 X2 e2 ⟨vs, rs, q2⟩ => ⟨_, _, X2, e1.trans e2, _, .cons (r.ext e2) rs, q2⟩)

theorem plain_starEach {p : Pos} {env : Env} : ∀ {es : List Expr}, es.all notStar = true → (backTo p (starEach es env)).any (·.1) = false
  | [], _ => rfl
  | e :: es, h => by
    rw [List.all_cons, Bool.and_eq_true] at h
    rw [starEach_cons h.1]
    exact plain_starEach (es := es) h.2

theorem evalArgs_plain {M : Model} {E : Value → Shared → Prop} {s : Shared} {f : Value} {p : Pos} {env : Env} {es : List Expr} {Q : Args → Shared → Prop} (h : es.all notStar = true)
    (k : wpAny M A (spliced (backTo p (starEach es env))) (fun us s' => Q ⟨us, []⟩ s') E s) : wpAny M A (evalArgs f true (backTo p (starEach es env)) []) Q E s := by
  cases es with
  | nil =>
    unfold evalArgs
    show wpAny M A (spliced [] >>= _) Q E s
    refine wpAny_bind (wpAny_mono k (fun us s' z => ?_) fun _ _ z => z)
    refine wpAny_bind (wpAny_pure (wpAny_holding (wpAny_bind (wpAny_pure (wpAny_bind (wpAny_pure (wpAny_pure z)))))))
  | cons e es =>
    rw [List.all_cons, Bool.and_eq_true] at h
    rw [starEach_cons h.1] at k ⊢
    exact evalArgs_kw (keywords := []) rfl (wpAny_mono k (fun us s' z => wpAny_evalAll_nil z) fun _ _ z => z)

/-- a call of a builtin or of an own function, the values being there -/
def Bi (W : Wd) (F : Fx) (A : Around) (f : Value) (vs : List V) (st : St) (Q : V → St → Prop) : Prop :=
  ∀ (G : Frz) (ι : Loc) (s : Shared) (us : List Value), Ok W F G st ι s.heap s.os s.gens → Reps s.heap st.σ ι vs us →
    wpAny (model W.prog W.w) A (call f us []) (fun u s' => Po W F G s.heap st.σ ι s' (Vo Q u)) (fun _ _ => False) s
theorem Bi.of_fn {f vs Q} (T : Fn W A f vs st.σ fun v σ' => Q v ⟨st.Γ, σ'⟩) : Bi W F A f vs st Q := fun G ι s us X r =>
  T.use X r fun u v s' σ' ι' X' e rv q => ⟨_, _, X', e, v, rv, q⟩

def isFnK (K : Frag) (f : Addr) : Bool := match K.lookup f with | some ⟨_, _, .func _, _⟩ => true | _ => false
theorem isFnK_of {K : Frag} {h : Heap} (X : K.In h) {f : Addr} (e : isFnK K f = true) : Sm2 fun o fd => h.get? f = some o ∧ o.data = .func fd := by
  unfold isFnK at e
  split at e
  · rename_i q; exact ⟨_, _, X _ _ q, rfl⟩
  · cases e

theorem tail_call {t : Sem Value} {E : Value → Shared → Prop} {Q : Value → Shared → Prop} {s : Shared} {M : Model} (ht : wpAny M A t Q E s) : wpAny M A (t >>= fun r => holding [r] point >>= fun _ => pure r) Q E s :=
  wpAny_bind (wpAny_mono ht (fun r s₂ hr => wpAny_bind (wpAny_holding (wpAny_point (wpAny_pure hr)))) fun _ _ x => x)

/-- callWith of an own function -/
theorem callWith_own {f : Addr} {first : List Value} {es : List Expr} {pos : Pos} {G : Frz} {ι : Loc} {s : Shared} {E : Value → Shared → Prop} {Q : Value → Shared → Prop} (hf : isFnK W.K f = true) (hp : es.all notStar = true)
    (h : wpAny (model W.prog W.w) A (spliced (backTo pos (starEach es F.env))) (fun us s' => W.K.In s'.heap ∧ wpAny (model W.prog W.w) A (call (.ref f) (first ++ us) []) Q E s') E s) :
    wpAny (model W.prog W.w) A (callWith pos (.ref f) first (backTo pos (starEach es F.env)) []) Q E s := by
  unfold callWith
  refine wpAny_bind (wpAny_holding (evalArgs_plain hp (wpAny_mono h (fun us s₁ h₁ => wpAny_bind (wpAny_standAt ?_)) fun _ _ x => x)))
  obtain ⟨o, fd, ho, hd⟩ := isFnK_of h₁.1 hf
  simp only [plain_starEach hp, List.any_nil, Bool.or_false]
  refine wpAny_bind (m := keeperOf (.ref f)) ?_
  unfold keeperOf
  refine wpAny_bind (wpAny_load ho ?_)
  rw [hd]
  refine wpAny_pure ?_
  dsimp only
  split
  · exact tail_call h₁.2
  · exact tail_call (by unfold callMarked; exact Calls.wpAny_keep h₁.2)

/-- callWith of what is no object of the heap -/
theorem callWith_val {f : Value} (hv : ∀ a, f ≠ .ref a) {first : List Value} {es : List Expr} {pos : Pos} {s : Shared} {E : Value → Shared → Prop} {Q : Value → Shared → Prop} (hp : es.all notStar = true)
    (h : wpAny (model W.prog W.w) A (spliced (backTo pos (starEach es F.env))) (fun us s' => wpAny (model W.prog W.w) A (call f (first ++ us) []) Q E s') E s) :
    wpAny (model W.prog W.w) A (callWith pos f first (backTo pos (starEach es F.env)) []) Q E s := by
  unfold callWith
  refine wpAny_bind (wpAny_holding (evalArgs_plain hp (wpAny_mono h (fun us s₁ h₁ => wpAny_bind (wpAny_standAt ?_)) fun _ _ x => x)))
  simp only [plain_starEach hp, List.any_nil, Bool.or_false]
  have : keeperOf f = pure .machine := by cases f <;> first | rfl | exact absurd rfl (hv _)
  rw [this]
  exact wpAny_bind (wpAny_pure (tail_call h₁))

/-- `f(..)`, f of the text's own top -/
theorem Ev.callOwn {x p es pos Q} {f : Addr} (e : nsIn W.K mainGlobals x = some (some (.ref f))) (hf : isFnK W.K f = true)
    (T : Evs W F A es st fun vs st' => Bi W F A (.ref f) vs st' Q)
    (hp : es.all notStar = true := by rfl) (hk : F.env.kindOf x = some .globalImplicit := by rfl) (hc : F.env.scope.kind = .function := by rfl) (hg : F.env.globals = mainGlobals := by rfl) (hd : (x == ("__debug__" : Str)) = false := by decide) :
    Ev W F A (.Call (.Name x p) es [] pos) st Q := fun G ι s X => by
  refine wpAny_Call_Name_kw (nameOwn X.hp e ?_ hk hc hg hd)
  refine callWith_own (G := G) (ι := ι) hf hp ((T pos).use X fun us s1 st1 ι1 X1 e1 ⟨vs, rs, q⟩ => ⟨X1.hp.inK, ?_⟩)
  exact wpAny_mono (q G ι1 s1 us X1 rs) (fun u s2 ⟨st2, ι2, X2, e2, v, r, q2⟩ => ⟨_, _, X2, e1.trans e2, v, r, q2⟩) fun _ _ z => z.elim
/-- `f(..)`, f a builtin -/
theorem Ev.callB {x p es pos Q} {f : Value} (e : nsIn W.K mainGlobals x = some none) (hv : bootBuiltins x = some f) (hx : x ≠ "__name__") (hf : ∀ a, f ≠ .ref a)
    (T : Evs W F A es st fun vs st' => Bi W F A f vs st' Q)
    (hp : es.all notStar = true := by rfl) (hk : F.env.kindOf x = some .globalImplicit := by rfl) (hc : F.env.scope.kind = .function := by rfl) (hg : F.env.globals = mainGlobals := by rfl) (hb : F.env.builtins = builtinsNs := by rfl) (hd : (x == ("__debug__" : Str)) = false := by decide) :
    Ev W F A (.Call (.Name x p) es [] pos) st Q := fun G ι s X => by
  refine wpAny_Call_Name_kw (nameBuiltin X.hp e hv hx ?_ hk hc hg hb hd)
  refine callWith_val hf hp ((T pos).use X fun us s1 st1 ι1 X1 e1 ⟨vs, rs, q⟩ => ?_)
  exact wpAny_mono (q G ι1 s1 us X1 rs) (fun u s2 ⟨st2, ι2, X2, e2, v, r, q2⟩ => ⟨_, _, X2, e1.trans e2, v, r, q2⟩) fun _ _ z => z.elim

/-- `o.name(..)` -/
theorem Ev.callM {o : Expr} {name apos es pos Q} (hp : es.all notStar = true := by rfl) (hn : es.length < 30 := by decide) (hl : (apos.endLine == pos.line) = true := by rfl)
    (hb : ∀ w, attributeBase o name F.env w = w := by intro; rfl)
    (T : Ev W F A o st fun ov st' => ∃ (f : Value), An3 (∀ (G : Frz) (ι : Loc) (s : Shared) (u : Value) (pl : Sem Bool) (E : Value → Shared → Prop) (Z : Value × List Value → Shared → Prop), Ok W F G st' ι s.heap s.os s.gens → Rep s.heap st'.σ ι ov u → (∀ tk, Z (f, [u]) { s with toks := tk }) → wpAny (model W.prog W.w) A (getMethod u name pl) Z E s) ((∀ a, f ≠ .ref a) ∨ ∃ a, f = .ref a ∧ isFnK W.K a = true) (Evs W F A es st' fun vs st'' => Bi W F A f (ov :: vs) st'' Q)) :
    Ev W F A (.Call (.Attribute o name apos) es [] pos) st Q := fun G ι s X => by
  rw [show eval (.Call (.Attribute o name apos) es [] pos) F.env = _ from arm_eval_Call _ _ _ _ _ _ _]
  rw [hb]
  refine wpAny_bind (T.use X fun u s1 st1 ι1 X1 e1 ⟨ov, r, f, hm, hf, q⟩ => ?_)
  refine wpAny_bind (wpAny_standAt ?_)
  unfold methodCall
  have few : methodCallForm (es.length + 0) (backTo pos (starEach es F.env)) (backToKw pos (keywordEach [] F.env)) = true := by
    unfold methodCallForm
    have h1 := plain_starEach (p := pos) (env := F.env) hp
    have h2 : ((backTo pos (starEach es F.env)).all fun x => !x.1) = true := by
      rw [List.all_eq_true]
      intro x hx
      rw [List.any_eq_false] at h1
      simpa using h1 x hx
    rw [h2, show backToKw pos (keywordEach [] F.env) = [] from rfl]
    simpa using hn
  rw [show [].length = 0 from rfl, few]
  refine wpAny_bind (wpAny_holding ?_)
  unfold calleeOf
  rw [if_pos rfl]
  refine hm G ι1 s1 u _ _ _ X1 r fun tk => ?_
  dsimp only
  have pp : ∀ c, methodCallPos true o F.env apos pos = c → c = pure pos := fun c e => by
    rw [← e]; unfold methodCallPos; rw [if_pos (by simpa using hl)]
  rw [pp _ rfl]
  refine wpAny_bind (wpAny_pure ?_)
  have fini : ∀ {us s2 st2 ι2}, Ok W F G st2 ι2 s2.heap s2.os s2.gens → Ext s.heap st.σ ι s2.heap st2.σ ι2 → Rep s2.heap st2.σ ι2 ov u → Vso (fun vs st2 => Bi W F A f (ov :: vs) st2 Q) us s2.heap st2 ι2 →
      wpAny (model W.prog W.w) A (call f ([u] ++ us) []) (fun a s' => Po W F G s.heap st.σ ι s' (Vo Q a)) (fun _ _ => False) s2 :=
    fun {us s2 st2 ι2} X2 e2 r2 ⟨vs, rs, b⟩ => wpAny_mono (b G ι2 s2 (u :: us) X2 (.cons r2 rs)) (fun u s3 ⟨st3, ι3, X3, e3, v, r3, q3⟩ => ⟨_, _, X3, e2.trans e3, v, r3, q3⟩) fun _ _ z => z.elim
  rcases hf with hf | ⟨a, rfl, hfn⟩
  · exact callWith_val hf hp ((q pos).use (s := { s1 with toks := tk }) X1 fun us s2 st2 ι2 X2 e2 z => fini X2 (e1.trans e2) (r.ext e2) z)
  · exact callWith_own (G := G) (ι := ι1) hfn hp ((q pos).use (s := { s1 with toks := tk }) X1 fun us s2 st2 ι2 X2 e2 z => ⟨X2.hp.inK, fini X2 (e1.trans e2) (r.ext e2) z⟩)
end
end Mine

open PySem PySem.W PyProof.Rows PySem.SeqAt PySem.Calls Builtin Builtin.ObjectAttr
set_option Elab.async false
set_option maxRecDepth 100000
set_option linter.unusedVariables false
namespace Mine

def storedV {κ : Type} [DecidableEq κ] (kvs : List (κ × V)) (k : κ) (v : V) : List (κ × V) :=
  if kvs.any (fun kv => kv.1 = k) then kvs.map (fun kv => if kv.1 = k then (kv.1, v) else kv) else kvs ++ [(k, v)]
def atV {κ : Type} [DecidableEq κ] (kvs : List (κ × V)) (k : κ) : Option V := (kvs.find? fun kv => kv.1 = k).map (·.2)

section
variable {κ : Type} [DecidableEq κ] {h : Heap} {σ : Sto} {ι : Loc}
theorem RepK.at {kvs : List (κ × V)} {us : List (κ × Value)} (r : RepK h σ ι kvs us) {k : κ} {v : V} (e : atV kvs k = some v) : ∃ u, valueAt us k = some u ∧ Rep h σ ι v u := by
  induction r with
  | nil => cases e
  | @cons k' v' u' vs us a b ih =>
    simp only [atV, valueAt, List.find?_cons] at e ih ⊢
    by_cases q : k' = k
    · simp only [q, decide_true, Option.map_some, Option.some.injEq] at e ⊢
      subst e; exact ⟨_, rfl, a⟩
    · simp only [q, decide_false] at e ⊢
      exact ih e
theorem RepK.none {kvs : List (κ × V)} {us : List (κ × Value)} (r : RepK h σ ι kvs us) {k : κ} (e : atV kvs k = none) : valueAt us k = none := by
  induction r with
  | nil => rfl
  | @cons k' v' u' vs us a b ih =>
    simp only [atV, valueAt, List.find?_cons] at e ih ⊢
    by_cases q : k' = k
    · simp [q] at e
    · simp only [q, decide_false] at e ⊢
      exact ih e
theorem RepK.any {kvs : List (κ × V)} {us : List (κ × Value)} (r : RepK h σ ι kvs us) (k : κ) : (us.any fun kv => decide (kv.1 = k)) = kvs.any fun kv => decide (kv.1 = k) := by
  induction r with
  | nil => rfl
  | cons a b ih => simp [ih]
theorem RepK.map {kvs : List (κ × V)} {us : List (κ × Value)} (r : RepK h σ ι kvs us) {k : κ} {v : V} {u : Value} (z : Rep h σ ι v u) :
    RepK h σ ι (kvs.map (fun kv => if kv.1 = k then (kv.1, v) else kv)) (us.map (fun kv => if kv.1 = k then (kv.1, u) else kv)) := by
  induction r with
  | nil => exact .nil
  | @cons k' v' u' vs us a b ih =>
    simp only [List.map_cons]
    by_cases q : k' = k
    · simp only [q, if_true]; exact .cons z ih
    · simp only [q, if_false]; exact .cons a ih
theorem RepK.stored {kvs : List (κ × V)} {us : List (κ × Value)} (r : RepK h σ ι kvs us) {k : κ} {v : V} {u : Value} (z : Rep h σ ι v u) : RepK h σ ι (storedV kvs k v) (stored us k u) := by
  unfold storedV PySem.stored
  rw [r.any k]
  split
  · exact r.map z
  · exact r.append (.cons z .nil)
theorem storedV_length (kvs : List (κ × V)) (k : κ) (v : V) : (storedV kvs k v).length ≤ kvs.length + 1 := by
  unfold storedV; split <;> simp
end

/- a dict with str keys as a namespace -/
section
variable {prog : Program} {w : World} {h : Heap} {d : Addr} {us : List (Str × Value)}
theorem isStr_eq (name : Str) (v : Value) : (strKind prog w).is name v = v.isStr name := by
  cases v <;> rfl
theorem lookIn_of (D : h.DictOf (strKind prog w) d us) : Sm3 fun o es ep => An7 (h.get? d = some o) o.ExactDict (o.data = .dict es ep) (KeysOf (strKind prog w) es) (Pairs (strKind prog w) es.toList us) ((us.map (·.1)).Nodup) (∀ name, lookIn name o = some (valueAt us name)) := by
  obtain ⟨o, es, ep, ho, hx, hd, hk, hp, hn⟩ := D
  refine ⟨o, es, ep, ho, hx, hd, hk, hp, hn, fun name => ?_⟩
  have hf := hp.find name
  have e : (fun e : DictEntry => (strKind prog w).is name e.key) = fun e => e.key.isStr name := funext fun e => isStr_eq name e.key
  rw [e] at hf
  unfold lookIn
  rw [hd]
  dsimp only
  cases q : es.toList.find? (·.key.isStr name) with
  | some en => rw [q] at hf; rw [← hf]; rfl
  | none =>
    rw [q] at hf
    have : es.toList.any (·.refKey) = false := by
      rw [List.any_eq_false]
      intro x hx'
      obtain ⟨k, hk', _⟩ := hk x (by simpa using hx')
      obtain ⟨t, ht⟩ := Value.isStrOf_shape hk'
      unfold DictEntry.refKey
      rw [ht]; simp
    dsimp only
    rw [this, ← hf]; rfl

theorem pairs_put {es : Array DictEntry} {us : List (Str × Value)} {o : Obj} {ep : Nat} {name : Str} {tk : Tok} {v : Value} (hx : o.ExactDict) (hd : o.data = .dict es ep) (hk : KeysOf (strKind prog w) es) (hp : Pairs (strKind prog w) es.toList us) (hn : (us.map (·.1)).Nodup) :
    (o.putName name (hashStr w name) (.str name tk) v).IsDictOf (strKind prog w) (stored us name v) ∧ ∃ es' ep', (o.putName name (hashStr w name) (.str name tk) v).data = .dict es' ep' ∧ es'.size ≤ es.size + 1 := by
  obtain ⟨c, dd, dat, sl⟩ := o
  dsimp only at hd
  subst hd
  have e : (fun e : DictEntry => e.key.isStr name) = fun e => (strKind prog w).is name e.key := funext fun e => (isStr_eq name e.key).symm
  rw [Obj.putName_eq]
  unfold Obj.putNameByArray
  dsimp only
  rw [e]
  have key : (strKind prog w).is name (.str name tk) = true := by show (name == name) = true; simp
  have fi := hp.findIdx name
  rw [show (List.findIdx? (fun e => (strKind prog w).is name e.key) es.toList) = es.findIdx? fun e => (strKind prog w).is name e.key from by cases es; simp] at fi
  cases q : es.findIdx? (fun e => (strKind prog w).is name e.key) with
  | some i =>
    rw [q] at fi
    have any := any_of_findIdx_some fi.symm
    dsimp only
    have pm := hp.modify hn (k := name) (i := i) (by rw [← q]; cases es; simp) v
    refine ⟨⟨_, _, hx, rfl, hk.modify i v, ?_, ?_⟩, _, _, rfl, by simp⟩
    · unfold PySem.stored; rw [if_pos any]; simpa using pm
    · unfold PySem.stored; rw [if_pos any, keys_map_store]; exact hn
  | none =>
    rw [q] at fi
    have nm := not_mem_of_findIdx_none fi.symm
    have any : ¬ (us.any fun kv => decide (kv.1 = name)) = true := by
      intro z
      obtain ⟨x, hx, hz⟩ := List.any_eq_true.mp z
      exact nm (by rw [← of_decide_eq_true hz]; exact List.mem_map_of_mem hx)
    dsimp only
    have pa := hp.append key (hashStr w name) v
    refine ⟨⟨_, _, hx, rfl, hk.push key v, ?_, ?_⟩, _, _, rfl, by simp⟩
    · unfold PySem.stored; rw [if_neg any]; simpa using pa
    · unfold PySem.stored; rw [if_neg any, List.map_append]
      exact List.nodup_append.mpr ⟨hn, by simp, fun a ha b hb e => by simp at hb; exact nm (hb ▸ e ▸ ha)⟩

theorem wpAny_nsSet_dict {A : Around} {E : Value → Shared → Prop} {s : Shared} {name : Str} {v : Value} {Q : Unit → Shared → Prop} (D : s.heap.DictOf (strKind prog w) d us) (hz : us.length ≤ 1000)
    (h : ∀ h' tk o', h'.get? d = some o' → o'.data.pastItsLine = none → h'.DictOf (strKind prog w) d (stored us name v) → Heap.SameBut d s.heap h' → Q () { s with heap := h', toks := tk }) : wpAny (model prog w) A (nsSet d name v) Q E s := by
  obtain ⟨o, es, ep, ho, hx, hd, hk, hp, hn, hl⟩ := lookIn_of D
  unfold nsSet
  refine wpAny_bind (wpAny_bind (wpAny_askSetting (wpAny_pure (wpAny_bind (wpAny_mkText (wpAny_bind (wpAny_loadPart ho ?_)))))))
  rw [hd]
  dsimp only
  have c : (!es.any (·.key.isStr name) && es.any (·.refKey)) = false := by
    have : es.any (·.refKey) = false := by
      rw [← Array.any_toList, List.any_eq_false]
      intro x hx'
      obtain ⟨k, hk', _⟩ := hk x (by simpa using hx')
      obtain ⟨t, ht⟩ := Value.isStrOf_shape hk'
      unfold DictEntry.refKey
      rw [ht]; simp
    rw [this, Bool.and_false]
  rw [aRefKeyMayBeTheName_at, c]
  obtain ⟨P1, es', ep', hd', hs'⟩ := pairs_put (name := name) (tk := s.toks) (v := v) hx hd hk hp hn
  have hfr : (o.putName name (hashStr w name) (.str name s.toks) v).isFreed = false := by
    have : ∀ (o : Obj) es ep, o.data = .dict es ep → o.isFreed = false := by rintro ⟨_, _, _, _⟩ _ _ rfl; rfl
    exact this _ _ _ hd'
  have D' := Heap.get?_update_self (fun o : Obj => o.putName name (hashStr w name) (.str name s.toks) v) ho hfr
  refine wpAny_updatePart ho ?_
  have hz' : es.size ≤ 1000 := by have := hp.length; simp at this; exact o7 hz this
  exact h _ _ _ D' (by rw [hd']; exact pastItsLine_dict (by rw [sizeLine_eq]; exact o8 hs' hz')) (Heap.dictOf_iff.mpr ⟨_, D', P1⟩) (Heap.SameBut.update ..)
end

/- instances -/
def hasDictK (K : Frag) (C : Addr) : Bool := (clsIn K C).any (·.hasDict)
/-- the class neither shadows the name nor hooks reading and storing -/
def plainAttr (K : Frag) (C : Addr) (name : Str) : Bool :=
  (clsIn K C).any (·.hasDict) && decide (findIn K (.ref C) name = some none) && decide (findIn K (.ref C) "__getattribute__" = some (some (.builtin "object.__getattribute__"))) && !copiedNames.contains name &&
    plainOver K C && decide (findIn K (.ref C) "__setattr__" = some (some (.builtin "object.__setattr__")))
/-- the class has the function f under the name -/
def plainMeth (K : Frag) (C : Addr) (name : Str) (f : Addr) : Bool :=
  decide (findIn K (.ref C) "__getattribute__" = some (some (.builtin "object.__getattribute__"))) && decide (findIn K (.ref C) "__getattr__" = some none) && decide (findIn K (.ref C) name = some (some (.ref f))) &&
    decide (typeIn K (.ref f) = some (.type "function"))

section
variable {W : Wd} {F : Fx} {A : Around} {st : St}

theorem instAt_of {G σ ι h} (X : Hp W G σ ι h ω γ) {i d : Nat} {C : Addr} {kvs : List (Str × V)} (hi : σ i = some (.inst C (some d))) (hd : σ d = some (.sdict kvs)) :
    ∃ ox od us, InstAt h (ι i) ox C (some od) ∧ ox = ⟨.ref C, some (ι d), .plain, #[]⟩ ∧ h.get? (ι d) = some od ∧ h.DictOf (strKind W.prog W.w) (ι d) us ∧ RepK h σ ι kvs us ∧ ∀ name, lookIn name od = some (valueAt us name) := by
  obtain ⟨hx, _⟩ := (X.objs i _ hi).2
  obtain ⟨us, D, r, _⟩ := (X.objs d _ hd).2
  obtain ⟨o, es, ep, ho, hex, hdat, hk, hp, hn, hl⟩ := lookIn_of D
  exact ⟨_, o, us, ⟨hx, rfl, rfl, ho⟩, rfl, ho, D, r, hl⟩

theorem getAttr_of {G ι s} {E : Value → Shared → Prop} {Z : Value → Shared → Prop} {expr : Bool} (X : Hp W G st.σ ι s.heap s.os s.gens) {i d : Nat} {C : Addr} {kvs : List (Str × V)} {name : Str} {w : V} (hi : st.σ i = some (.inst C (some d))) (hd : st.σ d = some (.sdict kvs)) (hw : atV kvs name = some w)
    (hp : plainAttr W.K C name = true) (hh : ∀ u, Rep s.heap st.σ ι w u → handedIn u = true) (k : ∀ u tk, Rep s.heap st.σ ι w u → Z u { s with toks := tk }) : wpAny (model W.prog W.w) A (getAttr (.ref (ι i)) name expr) Z E s := by
  obtain ⟨ox, od, us, I, _, _, D, r, hl⟩ := instAt_of X hi hd
  simp only [plainAttr, Bool.and_eq_true, decide_eq_true_eq, Bool.not_eq_true'] at hp
  obtain ⟨⟨⟨⟨⟨h1, h2⟩, h3⟩, h4⟩, _⟩, _⟩ := hp
  obtain ⟨u, hu, ru⟩ := r.at hw
  obtain ⟨cd, hc, hcd⟩ := any_some h1
  refine get_value (v := u) X.inK I h3 ?_ (hh u ru) (k u _ ru)
  unfold findObj
  rw [hc, Option.bind_some, h2, Option.bind_some]
  show (PySem.W.ownOf cd (some od) name).bind _ = _
  unfold PySem.W.ownOf
  rw [if_pos hcd]
  dsimp only
  rw [hl name, hu]
  rfl

theorem Rep.handed {h σ ι v u} (r : Rep h σ ι v u) (n : v ≠ .opq) : handedIn u = true := by
  cases r <;> first | rfl | exact absurd rfl n

/-- `o.name` -/
theorem Ev.attr {o : Expr} {name pos Q} (hb : ∀ w, attributeBase o name F.env w = w := by intro; rfl)
    (T : Ev W F A o st fun v st' => Sm5 fun i C d kvs w => An7 (v = .ref i) (st'.σ i = some (.inst C (some d))) (st'.σ d = some (.sdict kvs)) (atV kvs name = some w) (w ≠ .opq) (plainAttr W.K C name = true) (Q w st')) : Ev W F A (.Attribute o name pos) st Q := fun G ι s X => by
  rw [show eval (.Attribute o name pos) F.env = _ from arm_eval_Attribute _ _ _ _]
  rw [hb]
  refine wpAny_bind (T.use X fun u s1 st1 ι1 X1 e1 ⟨v, r, i, C, d, kvs, w, hv, hi, hd, hw, hq, hp, q⟩ => ?_)
  subst hv
  cases r using Rep.refE
  rename_i hli
  refine wpAny_bind (wpAny_standAt (wpAny_bind (wpAny_holding (getAttr_of X1.hp hi hd hw hp (fun u ru => ru.handed hq) fun u tk ru => ?_))))
  exact wpAny_bind (wpAny_letTemporaryGo (wpAny_pure ⟨_, _, X1, e1, w, ru, q⟩))

/-- `o.name = v` -/
theorem As.attr {o : Expr} {name pos v Q}
    (T : Ev W F A o st fun ov st' => Sm4 fun i C d kvs => An6 (ov = .ref i) (st'.σ i = some (.inst C (some d))) (st'.σ d = some (.sdict kvs)) (kvs.length ≤ 1000) (plainAttr W.K C name = true) (Q ⟨st'.Γ, setS st'.σ d (.sdict (storedV kvs name v))⟩)) : As W F A (.Attribute o name pos) v st Q := fun G ι s u X r => by
  rw [show assign (.Attribute o name pos) F.env u = _ from arm_assign_Attribute _ _ _ _ _]
  refine wpAny_bind (wpAny_holding (T.use X fun x s1 st1 ι1 X1 e1 ⟨ov, rx, i, C, d, kvs, hv, hi, hd, hz, hp, q⟩ => ?_))
  subst hv
  cases rx using Rep.refE
  rename_i hli
  have r1 := r.ext e1
  refine wpAny_bind (wpAny_standAt (wpAny_bind (wpAny_holding ?_)))
  obtain ⟨ox, od, us, I, hox, hod, D, rk, hl⟩ := instAt_of X1.hp hi hd
  simp only [plainAttr, Bool.and_eq_true, decide_eq_true_eq, Bool.not_eq_true'] at hp
  obtain ⟨⟨⟨⟨⟨h1, h2⟩, h3⟩, h4⟩, h5⟩, h6⟩ := hp
  obtain ⟨cd, hc, hcd⟩ := any_some h1
  have XK := X1.hp.inK
  refine set_plain XK I h6 (osa_open XK I h5 (r := none) (by unfold takerIn; rw [h2]; rfl) fun b => ?_)
  have hx := I.at_
  subst hox
  refine wpAny_bind (wpAny_pure (wpAny_bind (wpAny_bind (wpAny_loadPart hx (wpAny_bind ((looks_clsIn XK hc) _ _ _ _ (fun _ _ e => e) ?_))))))
  rw [hcd]
  refine wpAny_pure (a := some (ι1 d)) (wpAny_bind (wpAny_pure (wpAny_bind ?_)))
  have hz' : us.length ≤ 1000 := by rw [← rk.length]; exact hz
  refine wpAny_nsSet_dict (s := { s1 with toks := s1.toks + 1 }) D hz' fun h' tk o' ho' hpl D' hs => ?_
  obtain ⟨X2, e2⟩ := Ok.set (Γ := st1.Γ) (o' := .sdict (storedV kvs name v)) X1 hd hs.extBut fun E => by
    obtain ⟨_, _, _, n⟩ := (X1.hp.objs d _ hd).2
    exact ⟨_, D', (rk.ext E).stored (r1.ext E), n⟩
  refine wpAny_bind (wpAny_lookBehind ho' hpl ?_)
  refine wpAny_pure ?_
  have rel : ∀ {Z : Unit → Shared → Prop} {s : Shared} {vs : List Value}, Z () s → wpAny (model W.prog W.w) A (release vs []) Z (fun _ _ => False) s := fun {Z s vs} z => by
    unfold release
    generalize vs.filter _ = l
    induction l with
    | nil => exact wpAny_pure z
    | cons a r ih =>
      cases r with
      | nil => exact wpAny_pure z
      | cons b r => exact wpAny_bind (wpAny_holding (wpAny_point ih))
  exact rel ⟨_, _, X2, e1.trans e2, q⟩

/-- the lookup of an own method -/
theorem getM_own {G ι s u} {pl : Sem Bool} {E : Value → Shared → Prop} {Z : Value × List Value → Shared → Prop} {i d : Nat} {C f : Addr} {kvs : List (Str × V)} {name : Str} (hi : st.σ i = some (.inst C (some d))) (hd : st.σ d = some (.sdict kvs)) (hn : atV kvs name = none) (hp : plainMeth W.K C name f = true)
    (X : Ok W F G st ι s.heap s.os s.gens) (r : Rep s.heap st.σ ι (.ref i) u) (k : ∀ tk, Z (.ref f, [u]) { s with toks := tk }) : wpAny (model W.prog W.w) A (getMethod u name pl) Z E s := by
  cases r using Rep.refE
  obtain ⟨ox, od, us, I, hox, hod, D, rk, hl⟩ := instAt_of X.hp hi hd
  simp only [plainMeth, Bool.and_eq_true, decide_eq_true_eq] at hp
  obtain ⟨⟨⟨h1, h2⟩, h3⟩, h4⟩ := hp
  refine method_fn X.hp.inK I h1 h2 h3 h4 ?_ (k s.toks)
  unfold shadowIn
  dsimp only
  rw [hl name, rk.none hn]; rfl

/-- `o.name(..)`, a method of the text's own -/
theorem Ev.callMO {o : Expr} {name apos es pos Q} {C f : Addr}
    (T : Ev W F A o st fun ov st' => Sm3 fun i d kvs => An5 (ov = .ref i) (st'.σ i = some (.inst C (some d))) (st'.σ d = some (.sdict kvs)) (atV kvs name = none) (Evs W F A es st' fun vs st'' => Bi W F A (.ref f) (.ref i :: vs) st'' Q))
    (hm : plainMeth W.K C name f = true) (hf : isFnK W.K f = true)
    (hp : es.all notStar = true := by rfl) (hn : es.length < 30 := by decide) (hl : (apos.endLine == pos.line) = true := by rfl)
    (hb : ∀ w, attributeBase o name F.env w = w := by intro; rfl) :
    Ev W F A (.Call (.Attribute o name apos) es [] pos) st Q :=
  Ev.callM hp hn hl hb (T.mono fun ov st' ⟨i, d, kvs, hv, hi, hd, hno, ev⟩ => ⟨.ref f, fun G ι s u pl E Z X r k => by
    subst hv; exact getM_own hi hd hno hm X r k, .inr ⟨f, rfl, hf⟩, by subst hv; exact ev⟩)
end
end Mine

open PySem PySem.W PyProof.Rows PySem.SeqAt PySem.Calls
set_option Elab.async false
set_option maxRecDepth 100000
set_option linter.unusedVariables false
namespace Mine

/-- room for n more calls -/
structure Room (A : Around) (n : Nat) : Prop where
  depth : A.depth + n < recursionLimit
  units : A.units + 6 * n + 6 < cLine
  handled : A.handled = none
theorem Room.depth' {A n} (R : Room A n) : A.depth < recursionLimit := Nat.lt_of_le_of_lt (Nat.le_add_right _ _) R.depth
theorem Room.units' {A n} (R : Room A n) : A.units + 5 < cLine := by have := R.units; exact o9 this
theorem Room.deeper {A n env} (R : Room A (n + 1)) : Room (A.deeper env) n :=
  ⟨by have := R.depth; show A.depth + 1 + n < _; exact o10 this, by have := R.units; show A.units + 3 + 6 * n + 6 < _; exact o11 this, R.handled⟩
theorem Room.less {A n m} (R : Room A n) (h : m ≤ n) : Room A m := ⟨by have := R.depth; exact o12 h this, by have := R.units; exact o13 h this, R.handled⟩
theorem Room.make {A n C us} (R : Room A (n + 1)) : Room (A.under (.builtin "type.__call__" ⟨.ref C :: us, []⟩)) n := by
  have w : (Code.builtin "type.__call__" ⟨.ref C :: us, []⟩).weight = 1 := by
    have h1 : (Code.builtin "type.__call__" ⟨.ref C :: us, []⟩).frames = 0 := rfl
    have h2 : (Code.builtin "type.__call__" ⟨.ref C :: us, []⟩).isCreation = true := rfl
    have h3 : (Code.builtin "type.__call__" ⟨.ref C :: us, []⟩).isGuard = false := by
      show guardIds.contains "type.__call__" = false
      decide +kernel
    have h4 : (Code.builtin "type.__call__" ⟨.ref C :: us, []⟩).isCaller = false := rfl
    unfold Code.weight
    rw [h1, h2, h3, h4]; rfl
  have u : (Code.builtin "type.__call__" ⟨.ref C :: us, []⟩).cUnits = 1 := by
    show 1 + 3 * Code.frames (Code.builtin "type.__call__" ⟨.ref C :: us, []⟩) = 1
    rfl
  refine ⟨?_, ?_, R.handled⟩
  · show A.depth + (Code.builtin "type.__call__" ⟨.ref C :: us, []⟩).weight + n < _
    rw [w]; have := R.depth; exact o10 this
  · show A.units + (Code.builtin "type.__call__" ⟨.ref C :: us, []⟩).cUnits + 6 * n + 6 < _
    rw [u]; have := R.units; exact o14 this

section
variable {W : Wd} {F : Fx} {A : Around} {st : St}

/-- making an object of an own class -/
theorem Bi.make {C fI : Addr} {vs : List V} {Q : V → St → Prop} (i d : Nat) (hm : makesIn W.K C = true) (hi : findIn W.K (.ref C) "__init__" = some (some (.ref fI))) (hf : typeIn W.K (.ref fI) = some (.type "function"))
    (si : st.σ i = none) (sd : st.σ d = none) (ne : i ≠ d)
    (T : ∀ us : List Value, Fn W (A.under (.builtin "type.__call__" ⟨.ref C :: us, []⟩)) (.ref fI) (.ref i :: vs) (setS (setS st.σ d (.sdict [])) i (.inst C (some d))) fun v σ' => v = .none ∧ Q (.ref i) ⟨st.Γ, σ'⟩) : Bi W F A (.ref C) vs st Q := fun G ι s us X r => by
  obtain ⟨h, g, dr, t, os⟩ := s
  dsimp only at X r
  obtain ⟨Γ, σ⟩ := st
  dsimp only at si sd T X r
  have n1 : h.get? h.objs.size = none := by
    cases q : h.get? h.objs.size with
    | none => rfl
    | some o => exact absurd (Heap.lt_size q) (Nat.lt_irrefl _)
  have D0 := Heap.DictOf.new (knd := strKind W.prog W.w) h
  obtain ⟨X1, e1⟩ := Ok.new (i := d) (a := h.objs.size) (o' := .sdict []) X sd n1 (h' := h.push emptyDict) (fun b o e => Heap.get?_push_of_some _ e) fun E => ⟨[], D0, .nil, by
    intro q
    obtain ⟨mc, hN, _⟩ := X.hp.nolimit
    have := hN.lt
    rw [q] at this
    exact absurd this (by decide)⟩
  have n2 : (h.push emptyDict).get? (h.objs.size + 1) = none := by
    cases q : (h.push emptyDict).get? (h.objs.size + 1) with
    | none => rfl
    | some o => have := Heap.lt_size q; rw [Heap.size_push] at this; exact absurd this (Nat.lt_irrefl _)
  have si' : setS σ d (.sdict []) i = none := by simp [setS, ne, si]
  have hx : ((h.push emptyDict).push (instObj C h.objs.size)).get? (h.objs.size + 1) = some (instObj C h.objs.size) := by
    have := Heap.get?_push_size (h.push emptyDict) (o := instObj C h.objs.size) rfl
    rwa [Heap.size_push] at this
  obtain ⟨X2, e2⟩ := Ok.new (i := i) (a := h.objs.size + 1) (o' := .inst C (some d)) X1 si' n2 (h' := (h.push emptyDict).push (instObj C h.objs.size)) (fun b o e => Heap.get?_push_of_some _ e) fun E => by
    refine ⟨?_, fun j e => ?_⟩
    · rw [hx]
      have : setL (setL ι d h.objs.size) i (h.objs.size + 1) d = h.objs.size := by simp [setL, Ne.symm ne]
      simp [this]
    · cases e; simp [setS, Ne.symm ne]
  have ext := e1.trans e2
  have ri : Rep ((h.push emptyDict).push (instObj C h.objs.size)) (setS (setS σ d (.sdict [])) i (.inst C (some d))) (setL (setL ι d h.objs.size) i (h.objs.size + 1)) (.ref i) (.ref (h.objs.size + 1)) := by
    have : setL (setL ι d h.objs.size) i (h.objs.size + 1) i = h.objs.size + 1 := by simp [setL]
    have r0 := Rep.ref (h := (h.push emptyDict).push (instObj C h.objs.size)) (σ := setS (setS σ d (.sdict [])) i (.inst C (some d))) (ι := setL (setL ι d h.objs.size) i (h.objs.size + 1)) i (by simp [setS])
    rwa [this] at r0
  refine wpAny_call (make_core (makes_of X.hp.inK hm) (looks_findIn X.hp.inK hi) (fun self => bind_fn X.hp.inK self hf) (.inl rfl) ?_)
  refine codeAny_mono (T us (frz _ _ _) _ ⟨(h.push emptyDict).push (instObj C h.objs.size), g, dr, t, os⟩ (.ref (h.objs.size + 1) :: us) X2.hp.freeze (.cons ri (r.ext ext))) fun rr s' ⟨u, v, σ', ι', e, Y, ex, rv, hv, q⟩ => ?_
  subst e hv
  cases rv using Rep.noneE
  have X3 := X2.after (fun _ _ e => e) Y ex
  have ri' := ri.ext ex
  exact ⟨rfl, _, _, X3, ext.trans ex, _, ri', q⟩

def clsCallK (K : Frag) (C : Addr) : Bool := makesIn K C
/-- `C(..)` -/
theorem Ev.callCls {x p es pos Q} {C : Addr} (e : nsIn W.K mainGlobals x = some (some (.ref C))) (hm : makesIn W.K C = true)
    (T : Evs W F A es st fun vs st' => Bi W F A (.ref C) vs st' Q)
    (hp : es.all notStar = true := by rfl) (hk : F.env.kindOf x = some .globalImplicit := by rfl) (hc : F.env.scope.kind = .function := by rfl) (hg : F.env.globals = mainGlobals := by rfl) (hd : (x == ("__debug__" : Str)) = false := by decide) :
    Ev W F A (.Call (.Name x p) es [] pos) st Q := fun G ι s X => by
  refine wpAny_Call_Name_kw (nameOwn X.hp e ?_ hk hc hg hd)
  unfold callWith
  refine wpAny_bind (wpAny_holding (evalArgs_plain hp ((T pos).use X fun us s1 st1 ι1 X1 e1 ⟨vs, rs, q⟩ => wpAny_bind (wpAny_standAt ?_))))
  simp only [plain_starEach hp, List.any_nil, Bool.or_false]
  have call : Looks (model W.prog W.w) s1.heap (specialOf (.ref C) "__call__") (some (.builtin "type.__call__")) := by
    obtain ⟨_, made, base, self, top, call, typ⟩ := makes_of (M := model W.prog W.w) X1.hp.inK hm
    exact call
  obtain ⟨⟨oc, od, cd, sl, hC, _⟩, _⟩ := makes_of (M := model W.prog W.w) X1.hp.inK hm
  refine wpAny_bind (m := keeperOf (.ref C)) ?_
  unfold keeperOf
  refine wpAny_bind (wpAny_load hC (wpAny_bind (call.here (wpAny_pure ?_))))
  try dsimp only
  refine tail_call ?_
  exact wpAny_mono (q G ι1 s1 us X1 rs) (fun u s2 ⟨st2, ι2, X2, e2, v, r, q2⟩ => ⟨_, _, X2, e1.trans e2, v, r, q2⟩) fun _ _ z => z.elim
end
end Mine

open PySem PySem.W PyProof.Rows PySem.SeqAt PySem.Calls
set_option Elab.async false
set_option maxRecDepth 100000
set_option linter.unusedVariables false
namespace Mine

theorem release_ {M : Model} {A : Around} {E : Value → Shared → Prop} {Z : Unit → Shared → Prop} {s : Shared} {vs k : List Value} (z : Z () s) : wpAny M A (release vs k) Z E s := by
  unfold release
  generalize vs.filter _ = l
  induction l with
  | nil => exact wpAny_pure z
  | cons a r ih =>
    cases r with
    | nil => exact wpAny_pure z
    | cons b r => exact wpAny_bind (wpAny_holding (wpAny_point ih))

section
variable {W : Wd} {F : Fx} {A : Around} {st : St}

/-- a tree over given values -/
def Vt (W : Wd) (F : Fx) (A : Around) (t : List Value → Sem Value) (vs : List V) (st : St) (Q : V → St → Prop) : Prop :=
  ∀ (G : Frz) (ι : Loc) (s : Shared) (us : List Value), Ok W F G st ι s.heap s.os s.gens → Reps s.heap st.σ ι vs us →
    wpAny (model W.prog W.w) A (t us) (fun u s' => Po W F G s.heap st.σ ι s' (Vo Q u)) (fun _ _ => False) s
def t2 (f : Value → Value → Sem Value) : List Value → Sem Value
  | [a, b] => f a b
  | _ => pure .none
abbrev Bop (W : Wd) (F : Fx) (A : Around) (op : Operator) (a b : V) (st : St) (Q : V → St → Prop) := Vt W F A (t2 (binaryOp op)) [a, b] st Q
abbrev Cop (W : Wd) (F : Fx) (A : Around) (op : CmpOp) (a b : V) (st : St) (Q : Bool → St → Prop) := Vt W F A (t2 (compareOp op)) [a, b] st fun v st' => ∃ c, v = .bool c ∧ Q c st'

theorem Vt.two {f : Value → Value → Sem Value} {a b : V} {Q} (h : ∀ (G : Frz) (ι : Loc) (s : Shared) (ua ub : Value), Ok W F G st ι s.heap s.os s.gens → Rep s.heap st.σ ι a ua → Rep s.heap st.σ ι b ub →
    wpAny (model W.prog W.w) A (f ua ub) (fun u s' => Po W F G s.heap st.σ ι s' (Vo Q u)) (fun _ _ => False) s) : Vt W F A (t2 f) [a, b] st Q := fun G ι s us X r => by
  cases r with | cons r1 r => cases r with | cons r2 r => cases r; exact h G ι s _ _ X r1 r2
theorem Vt.two' {f : Value → Value → Sem Value} {a b : V} {Q} (T : Vt W F A (t2 f) [a, b] st Q) {G ι s ua ub} (X : Ok W F G st ι s.heap s.os s.gens) (ra : Rep s.heap st.σ ι a ua) (rb : Rep s.heap st.σ ι b ub) :
    wpAny (model W.prog W.w) A (f ua ub) (fun u s' => Po W F G s.heap st.σ ι s' (Vo Q u)) (fun _ _ => False) s :=
  T G ι s [ua, ub] X (.cons ra (.cons rb .nil))

theorem Ev.bin {l op r p Q} (T : Ev W F A l st fun a st1 => Ev W F A r st1 fun b st2 => Bop W F A op a b st2 Q) : Ev W F A (.BinOp l op r p) st Q := fun G ι s X => by
  rw [show eval (.BinOp l op r p) F.env = _ from arm_eval_BinOp _ _ _ _ _]
  refine wpAny_bind (T.use X fun ua s1 st1 ι1 X1 e1 ⟨a, ra, q⟩ => wpAny_bind (wpAny_holding (Tr.use q X1 fun ub s2 st2 ι2 X2 e2 ⟨b, rb, q2⟩ => ?_)))
  refine wpAny_bind (wpAny_standAt (wpAny_operating (wpAny_mono (q2.two' X2 (ra.ext e2) rb) (fun u s3 ⟨st3, ι3, X3, e3, z⟩ => ⟨_, _, X3, (e1.trans e2).trans e3, z⟩) fun _ _ z => z)))

theorem Bop.addI {a b : Int} {Q} (q : Q (.int (a + b)) st) : Bop W F A .Add (.int a) (.int b) st Q := Vt.two fun G ι s ua ub X ra rb => by
  cases ra using Rep.intE; cases rb using Rep.intE; exact add_int ⟨_, _, X, .rfl', _, .int _ _, q⟩
theorem Bop.subI {a b : Int} {Q} (q : Q (.int (a - b)) st) : Bop W F A .Sub (.int a) (.int b) st Q := Vt.two fun G ι s ua ub X ra rb => by
  cases ra using Rep.intE; cases rb using Rep.intE; exact sub_int ⟨_, _, X, .rfl', _, .int _ _, q⟩
theorem Bop.mulI {a b : Int} {Q} (hm : IntMulOk a b) (q : Q (.int (a * b)) st) : Bop W F A .Mult (.int a) (.int b) st Q := Vt.two fun G ι s ua ub X ra rb => by
  cases ra using Rep.intE; cases rb using Rep.intE; exact mul_int (hm := hm) ⟨_, _, X, .rfl', _, .int _ _, q⟩
theorem Bop.modI {a b : Int} {Q} (hb : b ≠ 0) (q : Q (.int (a.fmod b)) st) : Bop W F A .Mod (.int a) (.int b) st Q := Vt.two fun G ι s ua ub X ra rb => by
  cases ra using Rep.intE; cases rb using Rep.intE; exact mod_int' hb ⟨_, _, X, .rfl', _, .int _ _, q⟩

theorem Cop.eqI {a b : Int} {Q} (q : Q (decide (a = b)) st) : Cop W F A .Eq (.int a) (.int b) st Q := Vt.two fun G ι s ua ub X ra rb => by
  cases ra using Rep.intE; cases rb using Rep.intE; exact eq_int ⟨_, _, X, .rfl', _, .bool _, _, rfl, by rw [show (a == b) = decide (a = b) from rfl]; exact q⟩
theorem Cop.neI {a b : Int} {Q} (q : Q (decide (a ≠ b)) st) : Cop W F A .NotEq (.int a) (.int b) st Q := Vt.two fun G ι s ua ub X ra rb => by
  cases ra using Rep.intE; cases rb using Rep.intE; exact ne_int ⟨_, _, X, .rfl', _, .bool _, _, rfl, by rw [show (a != b) = decide (a ≠ b) from by by_cases h : a = b <;> simp [h]]; exact q⟩
theorem Cop.ltI {a b : Int} {Q} (q : Q (decide (a < b)) st) : Cop W F A .Lt (.int a) (.int b) st Q := Vt.two fun G ι s ua ub X ra rb => by
  cases ra using Rep.intE; cases rb using Rep.intE; exact lt_int ⟨_, _, X, .rfl', _, .bool _, _, rfl, q⟩
theorem Cop.leI {a b : Int} {Q} (q : Q (decide (a ≤ b)) st) : Cop W F A .LtE (.int a) (.int b) st Q := Vt.two fun G ι s ua ub X ra rb => by
  cases ra using Rep.intE; cases rb using Rep.intE; exact le_int ⟨_, _, X, .rfl', _, .bool _, _, rfl, q⟩
theorem Cop.gtI {a b : Int} {Q} (q : Q (decide (a > b)) st) : Cop W F A .Gt (.int a) (.int b) st Q := Vt.two fun G ι s ua ub X ra rb => by
  cases ra using Rep.intE; cases rb using Rep.intE; exact gt_int ⟨_, _, X, .rfl', _, .bool _, _, rfl, q⟩

/-- one comparison, as a value -/
theorem Ev.cmp {l op r p Q} (hb : behindInMarks op r = false := by rfl) (T : Ev W F A l st fun a st1 => Ev W F A r st1 fun b st2 => Cop W F A op a b st2 fun c st3 => Q (.bool c) st3) : Ev W F A (.Compare l [op] [r] p) st Q := fun G ι s X => by
  rw [show eval (.Compare l [op] [r] p) F.env = _ from arm_eval_Compare _ _ _ _ _]
  refine wpAny_bind (T.use X fun ua s1 st1 ι1 X1 e1 ⟨a, ra, q⟩ => ?_)
  have hm : markedEach [op] [r] (evalEach [r] F.env) = [eval r F.env] := by
    show [markedBehindIn op r (eval r F.env)] = _
    unfold markedBehindIn; rw [hb]
  rw [hm]
  refine wpAny_bind (wpAny_holding (Tr.use q X1 fun ub s2 st2 ι2 X2 e2 ⟨b, rb, q2⟩ => ?_))
  exact wpAny_bind (wpAny_standAt (wpAny_operating (wpAny_mono (q2.two' X2 (ra.ext e2) rb) (fun u s3 ⟨st3, ι3, X3, e3, v, rv, c, hv, qc⟩ => ⟨_, _, X3, (e1.trans e2).trans e3, v, rv, hv ▸ qc⟩) fun _ _ z => z)))
/-- one comparison, as a test -/
theorem Is.cmp {l op r p Q} (hb : behindInMarks op r = false := by rfl) (T : Ev W F A l st fun a st1 => Ev W F A r st1 fun b st2 => Cop W F A op a b st2 Q) : Is W F A (.Compare l [op] [r] p) st Q := fun G ι s X => by
  rw [show isTrue (.Compare l [op] [r] p) F.env _ = _ from arm_isTrue_Compare _ _ _ _ _ _]
  refine wpAny_bind (T.use X fun ua s1 st1 ι1 X1 e1 ⟨a, ra, q⟩ => ?_)
  have hm : markedEach [op] [r] (evalEach [r] F.env) = [eval r F.env] := by
    show [markedBehindIn op r (eval r F.env)] = _
    unfold markedBehindIn; rw [hb]
  rw [hm]
  refine wpAny_bind (wpAny_holding (Tr.use q X1 fun ub s2 st2 ι2 X2 e2 ⟨b, rb, q2⟩ => ?_))
  refine wpAny_bind (wpAny_standAt (wpAny_bind (wpAny_operating (wpAny_mono (q2.two' X2 (ra.ext e2) rb) (fun u s3 ⟨st3, ι3, X3, e3, v, rv, c, hv, qc⟩ => ?_) fun _ _ z => z))))
  subst hv; cases rv using Rep.boolE
  exact wpAny_holding (wpAny_truthy_bool ⟨_, _, X3, (e1.trans e2).trans e3, qc⟩)
/-- two comparisons, as a test -/
theorem Is.cmp2 {l op r op2 r2 p Q} (hb : behindInMarks op2 r2 = false := by rfl)
    (T : Ev W F A l st fun a st1 => Ev W F A r st1 fun b st2 => Cop W F A op a b st2 fun c st3 => if c = true then Ev W F A r2 st3 (fun d st4 => Cop W F A op2 b d st4 Q) else Q false st3) : Is W F A (.Compare l [op, op2] [r, r2] p) st Q := fun G ι s X => by
  rw [show isTrue (.Compare l [op, op2] [r, r2] p) F.env _ = _ from arm_isTrue_Compare _ _ _ _ _ _]
  refine wpAny_bind (T.use X fun ua s1 st1 ι1 X1 e1 ⟨a, ra, q⟩ => ?_)
  have hm : markedEach [op, op2] [r, r2] (evalEach [r, r2] F.env) = [eval r F.env, eval r2 F.env] := by
    show [eval r F.env, markedBehindIn op2 r2 (eval r2 F.env)] = _
    unfold markedBehindIn; rw [hb]
  rw [hm]
  refine wpAny_bind (wpAny_holding (Tr.use q X1 fun ub s2 st2 ι2 X2 e2 ⟨b, rb, q2⟩ => ?_))
  refine wpAny_bind (wpAny_standAt (wpAny_bind (wpAny_holding (wpAny_mono (q2.two' X2 (ra.ext e2) rb) (fun u s3 ⟨st3, ι3, X3, e3, v, rv, c, hv, qc⟩ => ?_) fun _ _ z => z.elim))))
  subst hv; cases rv using Rep.boolE
  refine wpAny_bind (release_ (wpAny_bind (wpAny_holding (wpAny_truthy_bool ?_))))
  cases c with
  | false => exact wpAny_pure ⟨_, _, X3, (e1.trans e2).trans e3, by simpa using qc⟩
  | true =>
    rw [if_pos rfl] at qc
    refine wpAny_bind (wpAny_holding (Tr.use qc X3 fun ud s4 st4 ι4 X4 e4 ⟨d, rd, q4⟩ => ?_))
    refine wpAny_bind (wpAny_standAt (wpAny_bind (wpAny_operating (wpAny_mono (q4.two' X4 ((rb.ext e3).ext e4) rd) (fun u s5 ⟨st5, ι5, X5, e5, v, rv, c, hv, qc⟩ => ?_) fun _ _ z => z))))
    subst hv; cases rv using Rep.boolE
    exact wpAny_holding (wpAny_truthy_bool ⟨_, _, X5, (((e1.trans e2).trans e3).trans e4).trans e5, qc⟩)

/- displays -/
theorem Hp.fresh {W G σ ι} {h : Heap} (X : Hp W G σ ι h ω γ) : h.get? h.objs.size = none := by
  cases q : h.get? h.objs.size with
  | none => rfl
  | some o => exact absurd (Heap.lt_size q) (Nat.lt_irrefl _)
theorem Ev.tuple {es k p Q} (T : Evs W F A es st fun vs st' => vs.length ≤ 1000 ∧ Q (.tup vs) st') : Ev W F A (.Tuple es k p) st Q := fun G ι s X => by
  rw [show eval (.Tuple es k p) F.env = _ from arm_eval_Tuple _ _ _ _]
  refine wpAny_bind (wpAny_standAt (wpAny_bind ((T p).use X fun us s1 st1 ι1 X1 e1 ⟨vs, rs, hl, q⟩ => ?_)))
  obtain ⟨Γ1, σ1⟩ := st1
  obtain ⟨X2, e2⟩ := X1.grow (h' := s1.heap.push { cls := .type "tuple", data := .seq us.toArray }) fun b o e => Heap.get?_push_of_some _ e
  refine wpAny_newTuple (hsz := by rw [← rs.length, sizeLine_eq]; exact o3 hl) ⟨_, _, X2, e1.trans e2, _, .tup (Heap.get?_push_size _ rfl) (rs.ext e2), q⟩
theorem Ev.list {es p Q} (i : Nat) (T : Evs W F A es st fun vs st' => An3 (vs.length ≤ 1000) (st'.σ i = none) (Q (.ref i) ⟨st'.Γ, setS st'.σ i (.list vs)⟩)) : Ev W F A (.List es p) st Q := fun G ι s X => by
  rw [show eval (.List es p) F.env = _ from arm_eval_List _ _ _]
  refine wpAny_bind (wpAny_standAt (wpAny_bind ((T p).use X fun us s1 st1 ι1 X1 e1 ⟨vs, rs, hl, hi, q⟩ => ?_)))
  obtain ⟨Γ1, σ1⟩ := st1
  obtain ⟨X2, e2⟩ := X1.new (i := i) (a := s1.heap.objs.size) (o' := .list vs) (h' := s1.heap.push { cls := .type "list", data := .seq us.toArray }) hi X1.hp.fresh (fun b o e => Heap.get?_push_of_some _ e) fun E =>
    ⟨us, ⟨0, Heap.get?_push_size _ rfl⟩, rs.ext E⟩
  refine wpAny_newList (hsz := by rw [← rs.length, sizeLine_eq]; exact o3 hl) ⟨_, _, X2, e1.trans e2, .ref i, ?_, q⟩
  have : setL ι1 i s1.heap.objs.size i = s1.heap.objs.size := by simp [setL]
  have r0 := Rep.ref (h := s1.heap.push { cls := .type "list", data := .seq us.toArray }) (σ := setS σ1 i (.list vs)) (ι := setL ι1 i s1.heap.objs.size) i (by simp [setS])
  rwa [this] at r0
end
end Mine

open PySem PySem.W PyProof.Rows PySem.SeqAt PySem.Calls
set_option Elab.async false
set_option maxRecDepth 100000
set_option linter.unusedVariables false
namespace Mine

theorem Rep.newRef {h : Heap} {σ : Sto} {ι : Loc} {i : Nat} {a : Addr} {o : AObj} : Rep h (setS σ i o) (setL ι i a) (.ref i) (.ref a) := by
  have e : setL ι i a i = a := by simp [setL]
  have r0 := Rep.ref (h := h) (σ := setS σ i o) (ι := setL ι i a) i (by simp [setS])
  rwa [e] at r0
theorem setS_live {σ : Sto} {i : Nat} {o : AObj} : setS σ i o i = some o := by simp [setS]

theorem Reps.inv1 {h σ ι v us} (r : Reps h σ ι [v] us) : ∃ u, us = [u] ∧ Rep h σ ι v u := by
  cases r with | cons r1 r => cases r; exact ⟨_, rfl, r1⟩
theorem Reps.inv2 {h σ ι v w us} (r : Reps h σ ι [v, w] us) : Sm2 fun u x => An3 (us = [u, x]) (Rep h σ ι v u) (Rep h σ ι w x) := by
  cases r with | cons r1 r => obtain ⟨x, rfl, r2⟩ := r.inv1; exact ⟨_, _, rfl, r1, r2⟩
theorem Reps.inv3 {h σ ι v w z us} (r : Reps h σ ι [v, w, z] us) : Sm3 fun u x y => An4 (us = [u, x, y]) (Rep h σ ι v u) (Rep h σ ι w x) (Rep h σ ι z y) := by
  cases r with | cons r1 r => obtain ⟨x, y, rfl, r2, r3⟩ := r.inv2; exact ⟨_, _, _, rfl, r1, r2, r3⟩
@[elab_as_elim] theorem Reps.on1 {h σ ι v us} {P : List Value → Prop} (r : Reps h σ ι [v] us) (k : ∀ u, Rep h σ ι v u → P [u]) : P us := by
  obtain ⟨u, e, a⟩ := r.inv1; exact e ▸ k u a
@[elab_as_elim] theorem Reps.on2 {h σ ι v w us} {P : List Value → Prop} (r : Reps h σ ι [v, w] us) (k : ∀ u x, Rep h σ ι v u → Rep h σ ι w x → P [u, x]) : P us := by
  obtain ⟨u, x, e, a, b⟩ := r.inv2; exact e ▸ k u x a b
@[elab_as_elim] theorem Reps.on3 {h σ ι v w z us} {P : List Value → Prop} (r : Reps h σ ι [v, w, z] us) (k : ∀ u x y, Rep h σ ι v u → Rep h σ ι w x → Rep h σ ι z y → P [u, x, y]) : P us := by
  obtain ⟨u, x, y, e, a, b, c⟩ := r.inv3; exact e ▸ k u x y a b c
theorem Rep.tupI {h σ ι l u} (r : Rep h σ ι (.tup l) u) : Sm3 fun a us n => An3 (u = .ref a) (h.get? a = some { cls := .type "tuple", data := .seq us.toArray n }) (Reps h σ ι l us) := by
  cases r with | tup a b => exact ⟨_, _, _, rfl, a, b⟩
theorem Rep.refI {h σ ι i u} (r : Rep h σ ι (.ref i) u) : u = .ref (ι i) := by cases r using Rep.refE; rfl

section
variable {W : Wd} {F : Fx} {A : Around} {st : St}

/-- the tail of a subscript -/
def Gop (W : Wd) (F : Fx) (A : Around) (o i : V) (st : St) (Q : V → St → Prop) : Prop :=
  ∀ (G : Frz) (ι : Loc) (s : Shared) (uo ui : Value), Ok W F G st ι s.heap s.os s.gens → Rep s.heap st.σ ι o uo → Rep s.heap st.σ ι i ui →
    ∃ T id, s.TypeIs uo T ∧ typeLookup (.type T) "__getitem__" = pure (some (.builtin id)) ∧ wpAny (model W.prog W.w) A (getItem uo ui) (fun u s' => Po W F G s.heap st.σ ι s' (Vo Q u)) (fun _ _ => False) s
theorem Ev.sub {value slice pos Q} (T : Ev W F A value st fun o st1 => Ev W F A slice st1 fun i st2 => Gop W F A o i st2 Q)
    (hs : ∀ o i, subscripted slice false o i = operate [o, i] (getItem o i) := by intros; rfl) : Ev W F A (.Subscript value slice pos) st Q := fun G ι s X =>
  Subscript_ (T.use X fun uo s1 st1 ι1 X1 e1 ⟨o, ro, q⟩ => Tr.use q X1 fun ui s2 st2 ι2 X2 e2 ⟨i, ri, q2⟩ => by
    obtain ⟨T, id, hT, hl, wp⟩ := q2 G ι2 s2 uo ui X2 (ro.ext e2) ri
    exact tail_any hT hl (wpAny_mono wp (fun u s3 ⟨st3, ι3, X3, e3, z⟩ => ⟨_, _, X3, (e1.trans e2).trans e3, z⟩) fun _ _ z => z) (hs _ _))

theorem listAt {G σ ι h i vs} (X : Hp W G σ ι h ω γ) (hi : σ i = some (.list vs)) : Sm2 fun us n => IsL h (ι i) us.toArray n ∧ Reps h σ ι vs us := by
  obtain ⟨us, ⟨n, ho⟩, r⟩ := (X.objs i _ hi).2
  exact ⟨us, n, ho, r⟩

theorem Gop.list {i : Nat} {k : Int} {vs : List V} {v : V} {Q} (hi : st.σ i = some (.list vs)) (h0 : 0 ≤ k) (hv : vs[k.toNat]? = some v) (hz : vs.length ≤ 1000) (q : Q v st) : Gop W F A (.ref i) (.int k) st Q := fun G ι s uo ui X ro ri => by
  cases ro using Rep.refE; cases ri using Rep.intE
  obtain ⟨us, n, hl, rs⟩ := listAt X.hp hi
  obtain ⟨u, hu, ru⟩ := rs.get hv
  have hk : k.toNat < vs.length := by
    rcases Nat.lt_or_ge k.toNat vs.length with z | z
    · exact z
    · rw [List.getElem?_eq_none z] at hv; cases hv
  exact ⟨"list", _, hl.isList.typeIs, slot_list_getitem.lookup, wpAny_getItem_list hl.isList h0 (by exact o15 hz hk) (by simpa using hu) ⟨_, _, X, .rfl', v, ru, q⟩⟩
theorem Gop.tup {k : Int} {vs : List V} {v : V} {Q} (h0 : 0 ≤ k) (hv : vs[k.toNat]? = some v) (hz : vs.length ≤ 1000) (q : Q v st) : Gop W F A (.tup vs) (.int k) st Q := fun G ι s uo ui X ro ri => by
  cases ri using Rep.intE
  obtain ⟨_, us, n, rfl, ho, rs⟩ := ro.tupI
  obtain ⟨u, hu, ru⟩ := rs.get hv
  have hlen := rs.length
  have hk : k.toNat < vs.length := by
    rcases Nat.lt_or_ge k.toNat vs.length with z | z
    · exact z
    · rw [List.getElem?_eq_none z] at hv; cases hv
  obtain ⟨j, rfl⟩ := Int.eq_ofNat_of_zero_le h0
  have hk : j < us.length := by rw [← hlen]; simpa using hk
  have hz2 : us.length ≤ 1000 := by rw [← hlen]; exact hz
  refine ⟨"tuple", _, ⟨_, ho, rfl⟩, PySem.F.slot_tuple_getitem.lookup, P.getItem_tuple (k := j) ho (by exact o16) (by exact o17 hk hz2) ?_ (by simpa using hu) ⟨_, _, X, .rfl', v, ru, q⟩⟩
  unfold seqIndex?
  have h1 : ¬ ((j : Int) < 0) := by exact o18
  have h2 : (j : Int) < us.length := by exact o19 hk
  simp only [if_neg h1, List.size_toArray]
  simp [h2]

/-- `o.append(v)` and its kin: the lookup of a method of a list -/
theorem getM_list {G ι s u} {pl : Sem Bool} {E : Value → Shared → Prop} {Z : Value × List Value → Shared → Prop} {i : Nat} {vs : List V} {name : Str} {id : String} (hi : st.σ i = some (.list vs)) (slot : Slot "list" name id) (hty : typeOf (.builtin id) = pure (.type "method_descriptor"))
    (X : Ok W F G st ι s.heap s.os s.gens) (r : Rep s.heap st.σ ι (.ref i) u) (k : ∀ tk, Z (.builtin id, [u]) { s with toks := tk }) : wpAny (model W.prog W.w) A (getMethod u name pl) Z E s := by
  cases r using Rep.refE
  obtain ⟨us, n, hl, rs⟩ := listAt X.hp hi
  exact getMethod_builtin hl.isList.typeIs PySem.F.plainAttrs_list slot hty (fun a e => by cases e; exact ⟨_, hl, rfl⟩) (k s.toks)

theorem Ok.listTurn {G ι h i vs us us' vs' n} {Γ : List (Str × V)} {σ : Sto} (X : Ok W F G ⟨Γ, σ⟩ ι h ω γ) (hi : σ i = some (.list vs)) (hl : IsL h (ι i) us n) (f : Array Value → Array Value) (hf : f us = us'.toArray) (r : Reps h σ ι vs' us') :
    Ok W F G ⟨Γ, setS σ i (.list vs')⟩ ι (h.update (ι i) (Obj.mapSeq f)) ω γ ∧ Ext h σ ι (h.update (ι i) (Obj.mapSeq f)) (setS σ i (.list vs')) ι :=
  X.set hi (Heap.SameBut.update ..).extBut fun E => ⟨us', ⟨_, hf ▸ hl.update f⟩, r.ext E⟩

theorem Bi.append {i : Nat} {vs : List V} {v : V} {Q} (hi : st.σ i = some (.list vs)) (hz : vs.length ≤ 1000) (q : Q .none ⟨st.Γ, setS st.σ i (.list (vs ++ [v]))⟩) : Bi W F A (.builtin "list.append") [.ref i, v] st Q := fun G ι s us X r => by
  refine r.on2 fun x1 x2 r1 r2 => ?_
  cases r1 using Rep.refE
  obtain ⟨Γ, σ⟩ := st
  obtain ⟨ws, n, hl, rs⟩ := listAt X.hp hi
  have hz' := rs.length
  refine call_meets PySem.F.slot_list_append hl.isList.typeIs PySem.F.entry_list_append (PySem.F.args_list_append_2 _ _) (list_append _ ws.toArray n _ (hsz := by rw [List.size_toArray, sizeLine_eq]; exact o20 hz hz')) ⟨hl, ?_⟩
  obtain ⟨X2, e2⟩ := Ok.listTurn (us' := ws ++ [_]) (vs' := vs ++ [v]) X hi hl (fun x => x.push x2) (by simp) (rs.append (.one r2))
  exact ⟨_, _, X2, e2, _, .none, q⟩

theorem Bi.extendL {i j : Nat} {vs ws : List V} {Q} (hi : st.σ i = some (.list vs)) (hj : st.σ j = some (.list ws)) (hne : i ≠ j) (hz : vs.length ≤ 1000) (hy : ws.length ≤ 1000) (q : Q .none ⟨st.Γ, setS st.σ i (.list (vs ++ ws))⟩) : Bi W F A (.builtin "list.extend") [.ref i, .ref j] st Q := fun G ι s us X r => by
  refine r.on2 fun x1 x2 r1 r2 => ?_
  cases r1 using Rep.refE; cases r2 using Rep.refE
  obtain ⟨Γ, σ⟩ := st
  obtain ⟨us, n, hl, rs⟩ := listAt X.hp hi
  obtain ⟨xs, m, hm, rx⟩ := listAt X.hp hj
  have hz' := rs.length
  have hy' := rx.length
  refine call_meets PySem.F.slot_list_extend hl.isList.typeIs PySem.F.entry_list_extend (PySem.F.args_list_extend_2 _ _) (AutoSeq1.list_extend_list_list_0 _ us.toArray n _ xs.toArray m (by simp [Builtin.List.listTooLong, sizeLine_eq]; intro _; exact o21 hz hy hz' hy') (by rw [List.size_toArray, sizeLine_eq]; exact o20 hz hz') (by simp only [List.size_toArray, sizeLine_eq]; exact o22 hz hy hz' hy')) ⟨hl, hm, ?_⟩
  obtain ⟨X2, e2⟩ := Ok.listTurn (us' := us ++ xs) (vs' := vs ++ ws) X hi hl (fun x => x ++ xs.toArray) (by simp) (rs.append rx)
  exact ⟨_, _, X2, e2, _, .none, q⟩
theorem Bi.extendT {i : Nat} {vs ws : List V} {Q} (hi : st.σ i = some (.list vs)) (hz : vs.length ≤ 1000) (hy : ws.length ≤ 1000) (q : Q .none ⟨st.Γ, setS st.σ i (.list (vs ++ ws))⟩) : Bi W F A (.builtin "list.extend") [.ref i, .tup ws] st Q := fun G ι s us X r => by
  refine r.on2 fun x1 x2 r1 r2 => ?_
  cases r1 using Rep.refE
  obtain ⟨_, xs, m, rfl, hm, rx⟩ := r2.tupI
  obtain ⟨Γ, σ⟩ := st
  obtain ⟨us, n, hl, rs⟩ := listAt X.hp hi
  have hz' := rs.length
  have hy' := rx.length
  refine call_meets PySem.F.slot_list_extend hl.isList.typeIs PySem.F.entry_list_extend (PySem.F.args_list_extend_2 _ _) (AutoSeq1.list_extend_list_tuple_0 _ us.toArray n _ xs.toArray m (by simp [Builtin.List.listTooLong, sizeLine_eq]; intro _; exact o21 hz hy hz' hy') (by rw [List.size_toArray, sizeLine_eq]; exact o20 hz hz') (by simp only [List.size_toArray, sizeLine_eq]; exact o22 hz hy hz' hy')) ⟨hl, hm, ?_⟩
  obtain ⟨X2, e2⟩ := Ok.listTurn (us' := us ++ xs) (vs' := vs ++ ws) X hi hl (fun x => x ++ xs.toArray) (by simp) (rs.append rx)
  exact ⟨_, _, X2, e2, _, .none, q⟩
theorem Bi.pop {i : Nat} {vs : List V} {v : V} {Q} (hi : st.σ i = some (.list (vs ++ [v]))) (hz : vs.length ≤ 1000) (q : Q v ⟨st.Γ, setS st.σ i (.list vs)⟩) : Bi W F A (.builtin "list.pop") [.ref i] st Q := fun G ι s us X r => by
  refine r.on1 fun x1 r1 => ?_
  cases r1 using Rep.refE
  obtain ⟨Γ, σ⟩ := st
  obtain ⟨us, n, hl, rs⟩ := listAt X.hp hi
  have hz' := rs.length
  simp only [List.length_append, List.length_cons, List.length_nil] at hz'
  obtain ⟨u, hu, ru⟩ := rs.get (i := vs.length) (v := v) (by simp)
  have rt := rs.take vs.length
  rw [List.take_left' rfl] at rt
  refine call_meets PySem.F.slot_list_pop hl.isList.typeIs PySem.F.entry_list_pop (PySem.F.args_list_pop_1 _) (MeetsSeq.list_pop_last _ us.toArray n u (by simp only [List.size_toArray]; rw [show us.length - 1 = vs.length by exact o23 hz']; simpa using hu) (by rw [List.size_toArray, sizeLine_eq]; exact o24 hz hz')) ⟨hl, ?_⟩
  obtain ⟨X2, e2⟩ := Ok.listTurn (us' := us.take vs.length) (vs' := vs) X hi hl (fun xs => xs.eraseIdxIfInBounds (us.toArray.size - 1)) (by
    simp only [List.size_toArray, List.eraseIdxIfInBounds_toArray]
    congr 1
    rw [show us.length - 1 = vs.length by exact o23 hz', List.eraseIdx_eq_take_drop_succ]
    rw [List.drop_eq_nil_of_le (by exact o25 hz')]; simp) rt
  exact ⟨_, _, X2, e2, v, ru.ext e2, q⟩

/-- `len(..)` -/
theorem Bi.lenL {i : Nat} {vs : List V} {Q} (hi : st.σ i = some (.list vs)) (hz : vs.length ≤ 1000) (q : Q (.int vs.length) st) : Bi W F A (.builtin "len") [.ref i] st Q := fun G ι s us X r => by
  refine r.on1 fun x1 r1 => ?_
  cases r1 using Rep.refE
  obtain ⟨us, n, hl, rs⟩ := listAt X.hp hi
  have hz' := rs.length
  refine call_len_list hl.isList (by rw [List.size_toArray]; exact o6 hz hz') ⟨_, _, X, .rfl', _, .int _ _, ?_⟩
  rw [List.size_toArray, ← hz']; exact q

/-- `list(..)` -/
theorem Bi.listL {i j : Nat} {vs : List V} {Q} (hi : st.σ i = some (.list vs)) (hz : vs.length ≤ 1000) (hj : st.σ j = none) (q : Q (.ref j) ⟨st.Γ, setS st.σ j (.list vs)⟩) : Bi W F A (.type "list") [.ref i] st Q := fun G ι s us X r => by
  refine r.on1 fun x1 r1 => ?_
  cases r1 using Rep.refE
  obtain ⟨Γ, σ⟩ := st
  obtain ⟨us, n, hl, rs⟩ := listAt X.hp hi
  have hz' := rs.length
  refine call_list_seq (hsz := by rw [List.size_toArray, sizeLine_eq]; exact o20 hz hz') _ (.inl rfl) hl rfl rfl fun h' c' hk hD => ?_
  obtain ⟨X2, e2⟩ := X.new (i := j) (a := s.heap.objs.size) (o' := .list vs) hj X.hp.fresh hk fun E => ⟨us, ⟨c', hD⟩, rs.ext E⟩
  exact ⟨_, _, X2, e2, _, .newRef, q⟩
theorem Bi.listT {j : Nat} {vs : List V} {Q} (hz : vs.length ≤ 1000) (hj : st.σ j = none) (q : Q (.ref j) ⟨st.Γ, setS st.σ j (.list vs)⟩) : Bi W F A (.type "list") [.tup vs] st Q := fun G ι s us X r => by
  refine r.on1 fun x1 r1 => ?_
  obtain ⟨_, us, n, rfl, hl, rs⟩ := r1.tupI
  obtain ⟨Γ, σ⟩ := st
  have hz' := rs.length
  refine call_list_seq (hsz := by rw [List.size_toArray, sizeLine_eq]; exact o20 hz hz') _ (.inr rfl) hl rfl rfl fun h' c' hk hD => ?_
  obtain ⟨X2, e2⟩ := X.new (i := j) (a := s.heap.objs.size) (o' := .list vs) hj X.hp.fresh hk fun E => ⟨us, ⟨c', hD⟩, rs.ext E⟩
  exact ⟨_, _, X2, e2, _, .newRef, q⟩
/-- `tuple(..)` -/
theorem Bi.tupleL {i : Nat} {vs : List V} {Q} (hi : st.σ i = some (.list vs)) (hz : vs.length ≤ 1000) (q : Q (.tup vs) st) : Bi W F A (.type "tuple") [.ref i] st Q := fun G ι s us X r => by
  refine r.on1 fun x1 r1 => ?_
  cases r1 using Rep.refE
  obtain ⟨Γ, σ⟩ := st
  obtain ⟨us, n, hl, rs⟩ := listAt X.hp hi
  have hz' := rs.length
  refine call_tuple_list (hsz := by rw [List.size_toArray, sizeLine_eq]; exact o20 hz hz') hl.isList fun h' hk => ?_
  obtain ⟨X2, e2⟩ := X.grow (h' := h'.push { cls := .type "tuple", data := .seq us.toArray }) fun b o e => Heap.get?_push_of_some _ (hk b o e)
  exact ⟨_, _, X2, e2, _, .tup (Heap.get?_push_size _ rfl) (rs.ext e2), q⟩
theorem Bi.tupleT {vs : List V} {Q} (q : Q (.tup vs) st) : Bi W F A (.type "tuple") [.tup vs] st Q := fun G ι s us X r => by
  refine r.on1 fun x1 r1 => ?_
  have r1' := r1
  obtain ⟨_, us, n, rfl, hl, rs⟩ := r1.tupI
  exact call_tuple_same ⟨_, hl, rfl, _, rfl⟩ ⟨_, _, X, .rfl', _, r1', q⟩

/-- `+` of lists -/
theorem Bop.addL {i j k : Nat} {vs ws : List V} {Q} (hi : st.σ i = some (.list vs)) (hj : st.σ j = some (.list ws)) (hz : vs.length ≤ 1000) (hy : ws.length ≤ 1000) (hk : st.σ k = none) (q : Q (.ref k) ⟨st.Γ, setS st.σ k (.list (vs ++ ws))⟩) : Bop W F A .Add (.ref i) (.ref j) st Q := Vt.two fun G ι s ua ub X ra rb => by
  cases ra using Rep.refE; cases rb using Rep.refE
  obtain ⟨Γ, σ⟩ := st
  obtain ⟨us, n, hl, rs⟩ := listAt X.hp hi
  obtain ⟨xs, m, hm, rx⟩ := listAt X.hp hj
  have hz' := rs.length
  have hy' := rx.length
  obtain ⟨X2, e2⟩ := X.new (i := k) (a := s.heap.objs.size) (o' := .list (vs ++ ws)) (h' := s.heap.push { cls := .type "list", data := .seq (us.toArray ++ xs.toArray) }) hk X.hp.fresh (fun b o e => Heap.get?_push_of_some _ e) fun E =>
    ⟨us ++ xs, ⟨0, by rw [Heap.get?_push_size _ rfl]; simp⟩, (rs.append rx).ext E⟩
  exact P.add_list (hsz := by simp only [List.size_toArray, sizeLine_eq]; exact o21 hz hy hz' hy') hl hm ⟨_, _, X2, e2, _, .newRef, q⟩

/-- `vs[1:]` of a tuple -/
theorem Ev.tail {value p1 k p2 pos Q} (T : Ev W F A value st fun o st1 => Sm2 fun v vs => An3 (o = .tup (v :: vs)) (vs.length ≤ 1000) (Q (.tup vs) st1)) : Ev W F A (.Subscript value (.Slice (some (.Constant (.int 1) k p1)) none none p2) pos) st Q := fun G ι s X =>
  Subscript_ (T.use X fun uo s1 st1 ι1 X1 e1 ⟨o, ro, v, vs, ho, hz, q⟩ => by
    subst ho
    obtain ⟨a, us, n, rfl, hl, rs⟩ := ro.tupI
    have hz' := rs.length
    obtain ⟨Γ1, σ1⟩ := st1
    rw [show eval (.Slice (some (.Constant (.int 1) k p1)) none none p2) F.env = _ from arm_eval_Slice _ _ _ _ _]
    have tl : ∀ (l : Value) (tk : Nat), (∃ t, l = .int 1 t) → wpAny (model W.prog W.w) A (newFields "slice" [l, .none, .none]) (fun i s₂ => wpAny (model W.prog W.w) A (subscriptTail value (.Slice (some (.Constant (.int 1) k p1)) none none p2) (.ref a) i)
        (fun a_1 s' => Po W F G s.heap st.σ ι s' (Vo Q a_1)) (fun _ _ => False) s₂) (fun _ _ => False) { s1 with toks := tk } := fun l tk ⟨t, ht⟩ => by
      subst ht
      refine wpAny_newObj_type ?_ (by show (_ : Array Value).size ≤ sizeLine + 2; simp [sizeLine_eq])
      have kk : ∀ b o, s1.heap.get? b = some o → (s1.heap.push { cls := .type "slice", data := .fields #[.int 1 t, .none, .none] }).get? b = some o := fun b o e => Heap.get?_push_of_some _ e
      have hl' := kk _ _ hl
      obtain ⟨X2, e2⟩ := X1.grow (h' := (s1.heap.push { cls := .type "slice", data := .fields #[.int 1 t, .none, .none] }).push { cls := .type "tuple", data := .seq (us.drop 1).toArray }) fun b o e => Heap.get?_push_of_some _ (kk b o e)
      refine tail_any (ops := [.ref s1.heap.objs.size, .ref a]) ⟨_, hl', rfl⟩ PySem.F.slot_tuple_getitem.lookup ?_ rfl
      refine getItem_tuple_from (hsz := by rw [List.size_toArray, ← hz', sizeLine_eq]; simp; exact o26 hz) ⟨_, hl', rfl, _, rfl⟩ (.new _ _ _ _) (Nat.le_refl 1) (by rw [List.size_toArray, ← hz']; simp) ?_
      exact ⟨_, _, X2, e1.trans e2, .tup vs, .tup (Heap.get?_push_size _ rfl) ((rs.drop 1).ext e2), q⟩
    refine wpAny_bind (m := mkInt 1) (wpAny_mkInt ?_)
    refine wpAny_bind (wpAny_holding (wpAny_pure ?_))
    refine wpAny_bind (wpAny_holding (wpAny_pure ?_))
    exact tl _ _ ⟨_, rfl⟩)
end
end Mine

open PySem PySem.W PyProof.Rows PySem.SeqAt PySem.Calls
set_option Elab.async false
set_option maxRecDepth 100000
set_option linter.unusedVariables false
namespace Mine

theorem ne_modules {a : Addr} (h : a ≠ sysModules) : (a == sysModules) = false := by simpa using h
theorem Hp.size_ne {W G σ ι} {h : Heap} (X : Hp W G σ ι h ω γ) : h.objs.size ≠ sysModules := by
  intro q
  obtain ⟨mc, hN, _⟩ := X.nolimit
  have := hN.lt
  rw [q] at this
  exact absurd this (by decide)
theorem intIs (prog : Program) (w : World) (k : Int) (t : Tok) : (PySem.intKind prog w).is k (.int k t) = true := by show Value.isInt k (.int k t) = true; simp [Value.isInt]
theorem strIs (prog : Program) (w : World) (k : Str) (t : Tok) : (PySem.strKind prog w).is k (.str k t) = true := by show (k == k) = true; simp

def Atom.V : Atom → V
  | .s x => .str x
  | .i k => .int k
theorem itemsAre {prog : Program} {w : World} {h : Heap} {σ : Sto} {ι : Loc} {ks : List Atom} {us : List Value} (r : Reps h σ ι (ks.map Atom.V) us) : PySem.ItemsAre (atomKind prog w) ks us := by
  induction ks generalizing us with
  | nil => cases r; exact .nil
  | cons k ks ih => cases r with | cons a r =>
    refine .cons ?_ (ih r)
    cases k with
    | s x => cases a using Rep.strE; exact beq_self_eq_true x
    | i k => cases a using Rep.intE; exact beq_self_eq_true k
theorem tupIs {prog : Program} {w : World} {h : Heap} {σ : Sto} {ι : Loc} {ks : List Atom} {u : Value} (r : Rep h σ ι (.tup (ks.map Atom.V)) u) : ∃ a, u = .ref a ∧ (tupK prog w).is h ks a := by
  obtain ⟨a, us, n, rfl, ho, rs⟩ := r.tupI
  exact ⟨a, rfl, _, us.toArray, n, ho, rfl, rfl, by simpa using itemsAre rs⟩

section
variable {h : Heap} {σ : Sto} {ι : Loc}
theorem RepH.at {kvs : List (List Atom × V)} {xs : List (List Atom × Addr × Value)} (r : RepH h σ ι kvs xs) {k : List Atom} {v : V} (e : atV kvs k = some v) : ∃ p, atKey xs k = some p ∧ Rep h σ ι v p.2 := by
  induction r with
  | nil => cases e
  | @cons k' v' a' u' vs us a b ih =>
    simp only [atV, atKey, List.find?_cons] at e ih ⊢
    by_cases q : k' = k
    · simp only [q, decide_true, Option.map_some, Option.some.injEq] at e ⊢
      subst e; exact ⟨_, rfl, a⟩
    · simp only [q, decide_false] at e ⊢
      exact ih e
theorem RepH.none {kvs : List (List Atom × V)} {xs : List (List Atom × Addr × Value)} (r : RepH h σ ι kvs xs) {k : List Atom} (e : atV kvs k = none) : atKey xs k = none := by
  induction r with
  | nil => rfl
  | @cons k' v' a' u' vs us a b ih =>
    simp only [atV, atKey, List.find?_cons] at e ih ⊢
    by_cases q : k' = k
    · simp [q] at e
    · simp only [q, decide_false] at e ⊢
      exact ih e
theorem RepH.append {kvs ws : List (List Atom × V)} {xs ys : List (List Atom × Addr × Value)} (r : RepH h σ ι kvs xs) (s : RepH h σ ι ws ys) : RepH h σ ι (kvs ++ ws) (xs ++ ys) := by
  induction r with
  | nil => exact s
  | cons a b ih => exact .cons a ih
theorem RepH.length {kvs : List (List Atom × V)} {xs : List (List Atom × Addr × Value)} (r : RepH h σ ι kvs xs) : kvs.length = xs.length := by
  have := congrArg List.length r.keys; simpa using this.symm
theorem without_eq {kvs : List (Int × V)} {us : List (Int × Value)} (r : RepK h σ ι kvs us) (k : Int) : RepK h σ ι (kvs.filter fun kv => decide (kv.1 ≠ k)) (without us k) := by
  unfold without
  induction r with
  | nil => exact .nil
  | @cons k' v' u' vs us a b ih =>
    by_cases q : k' = k
    · simpa [List.filter_cons, q] using ih
    · simp only [List.filter_cons, q, ne_eq, not_false_eq_true, decide_true, if_true]
      exact .cons a ih
end

section
variable {W : Wd} {F : Fx} {A : Around} {st : St}

theorem idictAt {G σ ι h i kvs pin} (X : Hp W G σ ι h ω γ) (hi : σ i = some (.idict kvs pin)) : ∃ us, An3 (h.DictOf (PySem.intKind W.prog W.w) (ι i) us) (RepK h σ ι kvs us) (ι i ≠ sysModules) := let ⟨us, a, b, c, _⟩ := (X.objs i _ hi).2; ⟨us, a, b, c⟩
theorem sdictAt {G σ ι h i kvs} (X : Hp W G σ ι h ω γ) (hi : σ i = some (.sdict kvs)) : ∃ us, An3 (h.DictOf (PySem.strKind W.prog W.w) (ι i) us) (RepK h σ ι kvs us) (ι i ≠ sysModules) := (X.objs i _ hi).2
theorem tdictAt {G σ ι h i kvs} (X : Hp W G σ ι h ω γ) (hi : σ i = some (.tdict kvs)) : ∃ us, An3 (h.DictOfH (tupK W.prog W.w) (ι i) us) (RepH h σ ι kvs us) (ι i ≠ sysModules) := (X.objs i _ hi).2

theorem valueAt_isSome {h σ ι} {κ : Type} [DecidableEq κ] {kvs : List (κ × V)} {us : List (κ × Value)} (r : RepK h σ ι kvs us) (k : κ) : (valueAt us k).isSome = (atV kvs k).isSome := by
  cases e : atV kvs k with
  | none => rw [r.none e]; rfl
  | some v => obtain ⟨u, hu, _⟩ := r.at e; rw [hu]; rfl
theorem atKey_isSome {h σ ι} {kvs : List (List Atom × V)} {us} (r : RepH h σ ι kvs us) (k : List Atom) : (atKey us k).isSome = (atV kvs k).isSome := by
  cases e : atV kvs k with
  | none => rw [r.none e]; rfl
  | some v => obtain ⟨u, hu, _⟩ := r.at e; rw [hu]; rfl

/- reading -/
theorem Gop.idict {i : Nat} {k : Int} {kvs : List (Int × V)} {v : V} {Q} {pin : Option Obj} (hi : st.σ i = some (.idict kvs pin)) (hv : atV kvs k = some v) (q : Q v st) : Gop W F A (.ref i) (.int k) st Q := fun G ι s uo ui X ro ri => by
  cases ro using Rep.refE; cases ri using Rep.intE
  obtain ⟨us, D, r, _⟩ := idictAt X.hp hi
  obtain ⟨u, hu, ru⟩ := r.at hv
  exact ⟨"dict", _, D.typeIs, slot_dict_getitem.lookup, wpAny_getItem_of (intIs _ _ _ _) D.mapOf hu ⟨_, _, X, .rfl', v, ru, q⟩⟩
theorem Gop.sdict {i : Nat} {k : Str} {kvs : List (Str × V)} {v : V} {Q} (hi : st.σ i = some (.sdict kvs)) (hv : atV kvs k = some v) (q : Q v st) : Gop W F A (.ref i) (.str k) st Q := fun G ι s uo ui X ro ri => by
  cases ro using Rep.refE; cases ri using Rep.strE
  obtain ⟨us, D, r, _⟩ := sdictAt X.hp hi
  obtain ⟨u, hu, ru⟩ := r.at hv
  exact ⟨"dict", _, D.typeIs, slot_dict_getitem.lookup, wpAny_getItem_of (strIs _ _ _ _) D.mapOf hu ⟨_, _, X, .rfl', v, ru, q⟩⟩
theorem Gop.tdict {i : Nat} {k : List Atom} {kvs : List (List Atom × V)} {v : V} {Q} (hu : A.units + 1 < cLine) (hi : st.σ i = some (.tdict kvs)) (hv : atV kvs k = some v) (q : Q v st) : Gop W F A (.ref i) (.tup (k.map Atom.V)) st Q := fun G ι s uo ui X ro ri => by
  cases ro using Rep.refE
  obtain ⟨a, rfl, ka⟩ := tupIs (prog := W.prog) (w := W.w) ri
  obtain ⟨us, D, r, _⟩ := tdictAt X.hp hi
  obtain ⟨p, hp, rp⟩ := r.at hv
  exact ⟨"dict", _, D.typeIs, slot_dict_getitem.lookup, wpAny_getItem_heap hu ka D hp ⟨_, _, X, .rfl', v, rp, q⟩⟩

/- storing -/
/-- the tail of a store by subscript -/
def Sop (W : Wd) (F : Fx) (A : Around) (o i v : V) (st : St) (Q : St → Prop) : Prop :=
  ∀ (G : Frz) (ι : Loc) (s : Shared) (uo ui uv : Value), Ok W F G st ι s.heap s.os s.gens → Rep s.heap st.σ ι o uo → Rep s.heap st.σ ι i ui → Rep s.heap st.σ ι v uv →
      wpAny (model W.prog W.w) A (setItem uo ui uv) (fun _ s' => Po W F G s.heap st.σ ι s' fun _ st' _ => Q st') (fun _ _ => False) s
theorem As.sub {o i pos v Q} (T : Ev W F A o st fun ov st1 => Ev W F A i st1 fun iv st2 => Sop W F A ov iv v st2 Q) : As W F A (.Subscript o i pos) v st Q := fun G ι s u X r => by
  rw [show assign (.Subscript o i pos) F.env u = _ from arm_assign_Subscript _ _ _ _ _]
  refine wpAny_bind (wpAny_holding (T.use X fun uo s1 st1 ι1 X1 e1 ⟨ov, ro, q⟩ => wpAny_bind (wpAny_holding (Tr.use q X1 fun ui s2 st2 ι2 X2 e2 ⟨iv, ri, q2⟩ => ?_))))
  refine wpAny_bind (wpAny_standAt (wpAny_bind (wpAny_holding (wpAny_mono (q2 G ι2 s2 uo ui u X2 (ro.ext e2) ri ((r.ext e1).ext e2)) (fun _ s3 ⟨st3, ι3, X3, e3, q3⟩ => release_ ⟨_, _, X3, (e1.trans e2).trans e3, q3⟩) fun _ _ z => z))))
theorem Sop.idict {i : Nat} {k : Int} {kvs : List (Int × V)} {v : V} {Q} {pin : Option Obj} (hi : st.σ i = some (.idict kvs pin)) (hz : kvs.length ≤ 1000) (q : Q ⟨st.Γ, setS st.σ i (.idict (storedV kvs k v))⟩) : Sop W F A (.ref i) (.int k) v st Q := fun G ι s uo ui uv X ro ri rv => by
  cases ro using Rep.refE; cases ri using Rep.intE
  obtain ⟨Γ, σ⟩ := st
  obtain ⟨us, D, r, n⟩ := idictAt X.hp hi
  have hl := r.length
  refine wpAny_setItem_pairs (hsz := by rw [← hl, sizeLine_eq]; exact o3 hz) (intIs _ _ _ _) D fun h' D' hs => ?_
  obtain ⟨X2, e2⟩ := X.set hi hs.extBut (o' := .idict (storedV kvs k v)) fun E => ⟨_, D', (r.ext E).stored (rv.ext E), n, fun _ e => nomatch e⟩
  exact ⟨_, _, X2, e2, q⟩
theorem Sop.sdict {i : Nat} {k : Str} {kvs : List (Str × V)} {v : V} {Q} (hi : st.σ i = some (.sdict kvs)) (hz : kvs.length ≤ 1000) (q : Q ⟨st.Γ, setS st.σ i (.sdict (storedV kvs k v))⟩) : Sop W F A (.ref i) (.str k) v st Q := fun G ι s uo ui uv X ro ri rv => by
  cases ro using Rep.refE; cases ri using Rep.strE
  obtain ⟨Γ, σ⟩ := st
  obtain ⟨us, D, r, n⟩ := sdictAt X.hp hi
  have hl := r.length
  refine wpAny_setItem_pairs (hsz := by rw [← hl, sizeLine_eq]; exact o3 hz) (strIs _ _ _ _) D fun h' D' hs => ?_
  obtain ⟨X2, e2⟩ := X.set hi hs.extBut (o' := .sdict (storedV kvs k v)) fun E => ⟨_, D', (r.ext E).stored (rv.ext E), n⟩
  exact ⟨_, _, X2, e2, q⟩
/-- a new tuple key -/
theorem Sop.tdict {i : Nat} {k : List Atom} {kvs : List (List Atom × V)} {v : V} {Q} (hu : A.units + 1 < cLine) (hi : st.σ i = some (.tdict kvs)) (hn : atV kvs k = none) (hz : kvs.length ≤ 1000) (q : Q ⟨st.Γ, setS st.σ i (.tdict (kvs ++ [(k, v)]))⟩) : Sop W F A (.ref i) (.tup (k.map Atom.V)) v st Q := fun G ι s uo ui uv X ro ri rv => by
  cases ro using Rep.refE
  obtain ⟨Γ, σ⟩ := st
  obtain ⟨a, rfl, ka⟩ := tupIs (prog := W.prog) (w := W.w) ri
  obtain ⟨us, D, r, n⟩ := tdictAt X.hp hi
  have hl := r.length
  refine wpAny_setItem_heap (hsz := by rw [← hl, sizeLine_eq]; exact o3 hz) hu ka D fun h' D' hs => ?_
  rw [storedH_new (r.none hn)] at D'
  obtain ⟨X2, e2⟩ := X.set hi hs.extBut (o' := .tdict (kvs ++ [(k, v)])) fun E => ⟨_, D', (r.ext E).append (.cons (rv.ext E) .nil), n⟩
  exact ⟨_, _, X2, e2, q⟩

/-- a list's item -/
theorem Sop.list {i : Nat} {k : Int} {vs : List V} {v : V} {Q} (hi : st.σ i = some (.list vs)) (h0 : 0 ≤ k) (hk : k < vs.length) (hz : vs.length ≤ 1000) (q : Q ⟨st.Γ, setS st.σ i (.list (vs.set k.toNat v))⟩) : Sop W F A (.ref i) (.int k) v st Q := fun G ι s uo ui uv X ro ri rv => by
  cases ro using Rep.refE; cases ri using Rep.intE
  rename_i tk
  obtain ⟨Γ, σ⟩ := st
  obtain ⟨us, n, hl, rs⟩ := listAt X.hp hi
  have hlen := rs.length
  have T := hl.isList.typeIs (s := s)
  unfold setItem
  try with_reducible refine wpAny_holding ?_
  refine wpAny_bind (wpAny_sequenceKey T (by decide) ?_)
  refine wpAny_bind (wpAny_callSpecial?_slot (name := Str.ofString "__setitem__") T PySem.slot_list_setitem (wpAny_call_entry PySem.slot_list_setitem T PySem.entry_list_setitem ?_ (PySem.args_list_setitem _ _ _)))
  show wpAny _ _ (Builtin.List.listSubscript? (.int k tk) >>= _) _ _ s
  refine wpAny_bind (wpAny_listSubscript_int (fitsIndex_of h0 (by exact o4 hk hz)) ?_)
  obtain ⟨j, rfl⟩ := Int.eq_ofNat_of_zero_le h0
  have hj : j < us.length := by exact o5 hlen hk
  show wpAny _ _ ((seqItemAt (ι i) j >>= fun r => pure (r.map (j, ·))) >>= _) _ _ s
  refine wpAny_bind (wpAny_bind (wpAny_seqItemAt hl rfl (wpAny_pure ?_)))
  have hx : us.toArray[j]? = some us[j] := by simp [hj]
  rw [hx]
  show wpAny _ _ (setSeqItemAt (ι i) j uv >>= _) _ _ s
  obtain ⟨X2, e2⟩ := Ok.listTurn (us' := us.set j uv) (vs' := vs.set j v) X hi hl (·.setIfInBounds j uv) (by simp) (rs.set j rv)
  refine wpAny_bind (wpAny_setSeqItemAt hl rfl ?_)
  have fin : Po W F G s.heap σ ι { s with heap := s.heap.update (ι i) (Obj.mapSeq (·.setIfInBounds j uv)) } fun _ st' _ => Q st' := ⟨_, _, X2, e2, q⟩
  exact wpAny_pure ⟨.none, rfl, wpAny_pure fin⟩

/- membership -/
theorem Cop.inI {i : Nat} {k : Int} {kvs : List (Int × V)} {Q} {pin : Option Obj} (hi : st.σ i = some (.idict kvs pin)) (q : Q (atV kvs k).isSome st) : Cop W F A .In (.int k) (.ref i) st Q := Vt.two fun G ι s ua ub X ra rb => by
  cases ra using Rep.intE; cases rb using Rep.refE
  obtain ⟨us, D, r, n⟩ := idictAt X.hp hi
  refine wpAny_in_of (intIs _ _ _ _) (ne_modules n) D.mapOf ⟨_, _, X, .rfl', _, .bool _, _, rfl, ?_⟩
  rw [valueAt_isSome r]; exact q
theorem Cop.notInI {i : Nat} {k : Int} {kvs : List (Int × V)} {Q} {pin : Option Obj} (hi : st.σ i = some (.idict kvs pin)) (q : Q (!(atV kvs k).isSome) st) : Cop W F A .NotIn (.int k) (.ref i) st Q := Vt.two fun G ι s ua ub X ra rb => by
  cases ra using Rep.intE; cases rb using Rep.refE
  obtain ⟨us, D, r, n⟩ := idictAt X.hp hi
  refine wpAny_notIn_of (intIs _ _ _ _) (ne_modules n) D.mapOf ⟨_, _, X, .rfl', _, .bool _, _, rfl, ?_⟩
  rw [valueAt_isSome r]; exact q
theorem Cop.inT {i : Nat} {k : List Atom} {kvs : List (List Atom × V)} {Q} (hu : A.units + 1 < cLine) (hi : st.σ i = some (.tdict kvs)) (q : Q (atV kvs k).isSome st) : Cop W F A .In (.tup (k.map Atom.V)) (.ref i) st Q := Vt.two fun G ι s ua ub X ra rb => by
  cases rb using Rep.refE
  obtain ⟨a, rfl, ka⟩ := tupIs (prog := W.prog) (w := W.w) ra
  obtain ⟨us, D, r, n⟩ := tdictAt X.hp hi
  refine wpAny_in_heap hu ka (ne_modules n) D ⟨_, _, X, .rfl', _, .bool _, _, rfl, ?_⟩
  rw [atKey_isSome r]; exact q

/- displays and calls -/
theorem Ev.dict0I {p Q} (i : Nat) (hi : st.σ i = none) (q : Q (.ref i) ⟨st.Γ, setS st.σ i (.idict [])⟩) : Ev W F A (.Dict [] [] p) st Q := fun G ι s X => by
  obtain ⟨Γ, σ⟩ := st
  obtain ⟨X2, e2⟩ := X.new (i := i) (a := s.heap.objs.size) (o' := .idict []) (h' := s.heap.push { cls := .type "dict", data := .dict #[] }) hi X.hp.fresh (fun b o e => Heap.get?_push_of_some _ e) fun E => ⟨[], Heap.DictOf.new _, .nil, X.hp.size_ne, fun _ e => nomatch e⟩
  exact wpAny_Dict_empty ⟨_, _, X2, e2, _, .newRef, q⟩
theorem Ev.dict0S {p Q} (i : Nat) (hi : st.σ i = none) (q : Q (.ref i) ⟨st.Γ, setS st.σ i (.sdict [])⟩) : Ev W F A (.Dict [] [] p) st Q := fun G ι s X => by
  obtain ⟨Γ, σ⟩ := st
  obtain ⟨X2, e2⟩ := X.new (i := i) (a := s.heap.objs.size) (o' := .sdict []) (h' := s.heap.push { cls := .type "dict", data := .dict #[] }) hi X.hp.fresh (fun b o e => Heap.get?_push_of_some _ e) fun E => ⟨[], Heap.DictOf.new _, .nil, X.hp.size_ne⟩
  exact wpAny_Dict_empty ⟨_, _, X2, e2, _, .newRef, q⟩
theorem Ev.dict0T {p Q} (i : Nat) (hi : st.σ i = none) (q : Q (.ref i) ⟨st.Γ, setS st.σ i (.tdict [])⟩) : Ev W F A (.Dict [] [] p) st Q := fun G ι s X => by
  obtain ⟨Γ, σ⟩ := st
  obtain ⟨X2, e2⟩ := X.new (i := i) (a := s.heap.objs.size) (o' := .tdict []) (h' := s.heap.push { cls := .type "dict", data := .dict #[] }) hi X.hp.fresh (fun b o e => Heap.get?_push_of_some _ e) fun E => ⟨[], Heap.DictOfH.new _, .nil, X.hp.size_ne⟩
  exact wpAny_Dict_empty ⟨_, _, X2, e2, _, .newRef, q⟩

theorem Bi.lenI {i : Nat} {kvs : List (Int × V)} {Q} {pin : Option Obj} (hi : st.σ i = some (.idict kvs pin)) (hz : kvs.length ≤ 1000) (q : Q (.int kvs.length) st) : Bi W F A (.builtin "len") [.ref i] st Q := fun G ι s us X r => by
  refine r.on1 fun x1 r1 => ?_
  cases r1 using Rep.refE
  obtain ⟨us, D, r, n⟩ := idictAt X.hp hi
  have hl := r.length
  refine call_len_dict (ne_modules n) D (by exact o6 hz hl) ⟨_, _, X, .rfl', _, .int _ _, ?_⟩
  rw [← hl]; exact q
theorem Bi.dictI {i j : Nat} {kvs : List (Int × V)} {Q} {pin : Option Obj} (hi : st.σ i = some (.idict kvs pin)) (hj : st.σ j = none) (hz : kvs.length ≤ 1000) (q : Q (.ref j) ⟨st.Γ, setS st.σ j (.idict kvs)⟩) : Bi W F A (.type "dict") [.ref i] st Q := fun G ι s us X r => by
  refine r.on1 fun x1 r1 => ?_
  cases r1 using Rep.refE
  obtain ⟨Γ, σ⟩ := st
  obtain ⟨us, D, r, n⟩ := idictAt X.hp hi
  have hl := r.length
  refine kt_call_dict (ne_modules n) D (by rw [← hl, sizeLine_eq]; exact o3 hz) fun h' D' hs => ?_
  have kk : ∀ b o, s.heap.get? b = some o → h'.get? b = some o := fun b o e => (hs.2 b (Nat.ne_of_lt (Heap.lt_size e))).trans (Heap.get?_push_of_some _ e)
  obtain ⟨X2, e2⟩ := X.new (i := j) (a := s.heap.objs.size) (o' := .idict kvs) hj X.hp.fresh kk fun E => ⟨us, D', r.ext E, X.hp.size_ne, fun _ e => nomatch e⟩
  exact ⟨_, _, X2, e2, _, .newRef, q⟩
theorem Bi.popI {i : Nat} {k : Int} {kvs : List (Int × V)} {v : V} {Q} {pin : Option Obj} (hi : st.σ i = some (.idict kvs pin)) (hv : atV kvs k = some v) (hz : kvs.length ≤ 1000) (q : Q v ⟨st.Γ, setS st.σ i (.idict (kvs.filter fun kv => decide (kv.1 ≠ k)))⟩) : Bi W F A (.builtin "dict.pop") [.ref i, .int k] st Q := fun G ι s us X r => by
  refine r.on2 fun x1 x2 r1 r2 => ?_
  cases r1 using Rep.refE; cases r2 using Rep.intE
  obtain ⟨Γ, σ⟩ := st
  obtain ⟨us, D, r, n⟩ := idictAt X.hp hi
  obtain ⟨u, hu, ru⟩ := r.at hv
  have hl := r.length
  refine call_meetsIn PySem.F.slot_dict_pop D.typeIs PySem.F.entry_dict_pop (PySem.F.args_dict_pop_2 _ _) (meets_dict_pop_there (PySem.intKind W.prog W.w) _ (intIs _ _ _ _) [] (.inl rfl) rfl) ⟨us, u, D, by rw [← hl, sizeLine_eq]; exact o3 hz, hu, fun h' D' hs => ?_⟩
  obtain ⟨X2, e2⟩ := X.set hi hs.extBut (o' := .idict (kvs.filter fun kv => decide (kv.1 ≠ k))) fun E => ⟨_, D', without_eq (r.ext E) k, n, fun _ e => nomatch e⟩
  exact ⟨_, _, X2, e2, v, ru.ext e2, q⟩
theorem Bi.getS {i : Nat} {k : Str} {kvs : List (Str × V)} {d v : V} {Q} (hi : st.σ i = some (.sdict kvs)) (hv : (atV kvs k).getD d = v) (q : Q v st) : Bi W F A (.builtin "dict.get") [.ref i, .str k, d] st Q := fun G ι s us X r => by
  refine r.on3 fun x1 x2 x3 r1 r2 r3 => ?_
  cases r1 using Rep.refE; cases r2 using Rep.strE
  obtain ⟨us, D, r, n⟩ := sdictAt X.hp hi
  refine call_meetsIn PySem.F.slot_dict_get D.typeIs PySem.F.entry_dict_get (PySem.F.args_dict_get_3 _ _ _) (meets_dict_get_default (PySem.strKind W.prog W.w) _ (strIs _ _ _ _) (ne_modules n) _) ⟨_, D.mapOf, ?_⟩
  refine ⟨_, _, X, .rfl', v, ?_, q⟩
  subst hv
  cases e : atV kvs k with
  | none => rw [r.none e]; exact r3
  | some v => obtain ⟨u, hu, ru⟩ := r.at e; rw [hu]; exact ru
end
end Mine

open PySem PySem.W PyProof.Rows PySem.SeqAt PySem.Calls
set_option Elab.async false
set_option maxRecDepth 100000
set_option linter.unusedVariables false
namespace Mine

section
variable {W : Wd} {F : Fx} {A : Around} {st : St} {G : Frz} {Γ : List (Str × V)} {σ : Sto} {ι : Loc} {h h' : Heap}

/-- a record of the machine's own (an iterator) turns, others may be made -/
theorem Ok.recT {a : Addr} {ob : Obj} {fs : Array Value} (X : Ok W F G ⟨Γ, σ⟩ ι h ω γ) (ho : h.get? a = some ob) (hd : ob.data = .fields fs) (hc : ob.cls ≠ .type "range") (g : G a = none) (k : Heap.ExtBut a h h') : Ok W F G ⟨Γ, σ⟩ ι h' ω γ ∧ Ext h σ ι h' σ ι := by
  obtain ⟨m, ⟨oL, es, ep, hoL, hdL, _⟩, _⟩ := X.fm.ns
  obtain ⟨H, E⟩ := X.hp.turn k (fun ob' ho' hT => by
    rw [ho] at ho'; cases ho'
    rcases hT with ⟨_, _, _, q⟩ | ⟨q, _⟩
    · rw [hd] at q; cases q
    · exact hc q) g fun i z q => by
      obtain ⟨o, _, _, ro⟩ := X.hp.live z
      rw [q] at ro
      exact ro.notFields ho hd
  refine ⟨⟨H, X.fm.step E (fun o e => k _ _ (fun q => ?_) e) (fun c v ⟨oc, hoc, hdc⟩ => ⟨oc, k _ _ (fun q => ?_) hoc, hdc⟩) X.fm.sep⟩, E⟩
  · rw [q, ho] at hoL; cases hoL; rw [hd] at hdL; cases hdL
  · rw [q, ho] at hoc; cases hoc; rw [hd] at hdc; cases hdc

/-- to freeze such a record -/
def pinG (G : Frz) (a : Addr) (ob : Obj) : Frz := fun b => if b = a then some ob else G b
theorem Ok.pinRec {a : Addr} {ob : Obj} {fs : Array Value} (X : Ok W F G ⟨Γ, σ⟩ ι h ω γ) (ho : h.get? a = some ob) (hd : ob.data = .fields fs) (g : G a = none) : Ok W F (pinG G a ob) ⟨Γ, σ⟩ ι h ω γ := by
  obtain ⟨m, ⟨oL, es, ep, hoL, hdL, _⟩, _⟩ := X.fm.ns
  have ne : ∀ b, G b = none → b ≠ a → pinG G a ob b = none := fun b e n => by simp [pinG, n, e]
  refine ⟨⟨fun b o e => ?_, fun b o e => ?_, fun i o e => ⟨ne _ (X.hp.objs i o e).1 fun q => ?_, (X.hp.objs i o e).2⟩, X.hp.inj, X.hp.fin, X.hp.same⟩, ⟨ne _ X.fm.fresh fun q => ?_, X.fm.ns, X.fm.cell, X.fm.sep, fun ow x c hk hc => ?_⟩⟩
  · by_cases q : b = a
    · subst q
      have := X.hp.base b o e
      rw [g] at this; cases this
    · simp only [pinG, if_neg q]; exact X.hp.base b o e
  · by_cases q : b = a
    · subst q; simp only [pinG, if_true, Option.some.injEq] at e; subst e; exact ho
    · simp only [pinG, if_neg q] at e; exact X.hp.keep b o e
  · exact (X.hp.objs i o e).2.notFields (q ▸ ho) hd
  · rw [q, ho] at hoL; cases hoL; rw [hd] at hdL; cases hdL
  · obtain ⟨gc, ⟨v, oc, hoc, hdc⟩, un⟩ := X.fm.ownc ow x c hk hc
    refine ⟨ne _ gc fun q => ?_, ⟨v, oc, hoc, hdc⟩, un⟩
    rw [q, ho] at hoc; cases hoc; rw [hd] at hdc; cases hdc
theorem Ok.unpinRec {a : Addr} {ob : Obj} (X : Ok W F (pinG G a ob) st ι h ω γ) (g : G a = none) (base : ∀ b o, W.h₀.get? b = some o → G b = some o) : Ok W F G st ι h ω γ ∧ h.get? a = some ob := by
  have up : ∀ b o, G b = some o → pinG G a ob b = some o := fun b o e => by
    have : b ≠ a := fun q => by rw [q, g] at e; cases e
    simp [pinG, this, e]
  have dn : ∀ b, pinG G a ob b = none → G b = none := fun b e => by
    cases q : G b with
    | none => rfl
    | some o => rw [up b o q] at e; cases e
  refine ⟨⟨⟨base, fun b o e => X.hp.keep b o (up b o e), fun i o e => ⟨dn _ (X.hp.objs i o e).1, (X.hp.objs i o e).2⟩, X.hp.inj, X.hp.fin, X.hp.same⟩, ⟨dn _ X.fm.fresh, X.fm.ns, X.fm.cell, X.fm.sep, fun ow x c hk hc => ?_⟩⟩, X.hp.keep a ob (by simp [pinG])⟩
  obtain ⟨gc, r⟩ := X.fm.ownc ow x c hk hc
  exact ⟨dn _ gc, r⟩

/-- what a value hands out in turn -/
def IterOf (v : V) (st : St) (vs : List V) : Prop :=
  match v with
  | .tup l => vs = l
  | .str x => x.cps.all (· < 128) = true ∧ vs = x.cps.toList.map fun c => .str ⟨#[c]⟩
  | .rng n => An3 (vs = (List.range n.toNat).map (fun k : Nat => .int k)) (0 ≤ n) (n ≤ 1000000)
  | .ref i => st.σ i = some (.list vs) ∨ ∃ kvs ob, st.σ i = some (.idict kvs (some ob)) ∧ vs = kvs.map fun p => .int p.1
  | _ => False

/-- an iterator over it, so far drawn -/
def ItAt (W : Wd) (h : Heap) (σ : Sto) (ι : Loc) (it : Addr) (n : Nat) : V → Prop
  | .tup l => Sm3 fun a us m => An3 (h.get? a = some { cls := .type "tuple", data := .seq us m }) (Reps h σ ι l us.toList) (h.IsTupleIter it a n)
  | .str x => ∃ t, h.IsStrIter it "str_ascii_iterator" x t n
  | .rng m => IsRangeIter h it n (m.toNat - n : Int) 1
  | .ref i => match σ i with
    | some (.list _) => h.IsListIter it (ι i) n
    | some (.idict kvs (some ob)) => Sm2 fun es ep => ob.data = .dict es ep ∧ h.IsKeyIter it (ι i) n kvs.length ep
    | _ => False
  | _ => False

theorem ItAt.rec {it n v} (x : ItAt W h σ ι it n v) : Sm2 fun ob fs => An3 (h.get? it = some ob) (ob.data = .fields fs) (ob.cls ≠ .type "range") := by
  cases v with
  | tup l => obtain ⟨a, us, m, _, _, o, ho, hc, hd⟩ := x; exact ⟨o, _, ho, hd, by rw [hc]; decide⟩
  | str x' => obtain ⟨t, o, ho, hc, hd⟩ := x; exact ⟨o, _, ho, hd, by rw [hc]; decide⟩
  | rng m => exact ⟨_, _, x, rfl, show Value.type "range_iterator" ≠ Value.type "range" by decide⟩
  | ref i =>
    simp only [ItAt] at x
    split at x
    · obtain ⟨o, ho, hc, hd⟩ := x; exact ⟨o, _, ho, hd, by rw [hc]; decide⟩
    · obtain ⟨_, _, _, o, ho, hc, hd⟩ := x; exact ⟨o, _, ho, hd, by rw [hc]; decide⟩
    · exact x.elim
  | _ => exact x.elim
theorem ItAt.step {it n v σ' ι'} (x : ItAt W h σ ι it n v) (E : Ext h σ ι h' σ' ι') (k : ∀ o, h.get? it = some o → h'.get? it = some o) (hs : ∀ i, v = .ref i → σ' i = σ i) : ItAt W h' σ' ι' it n v := by
  cases v with
  | tup l => obtain ⟨a, us, m, h1, h2, o, ho, r⟩ := x; exact ⟨a, us, m, E.tup _ _ h1 (.inl ⟨rfl, _, _, rfl⟩), h2.ext E, o, k _ ho, r⟩
  | str x' => obtain ⟨t, o, ho, r⟩ := x; exact ⟨t, o, k _ ho, r⟩
  | rng m => exact k _ x
  | ref i =>
    simp only [ItAt] at x ⊢
    rw [hs i rfl]
    split at x
    · rename_i vs e
      obtain ⟨o, ho, r⟩ := x
      have := (E.ids i (by rw [e]; exact fun z => by cases z)).2
      rw [this]
      exact ⟨o, k _ ho, r⟩
    · rename_i kvs ob e
      obtain ⟨es, ep, hd, o, ho, r⟩ := x
      have := (E.ids i (by rw [e]; exact fun z => by cases z)).2
      rw [this]
      exact ⟨es, ep, hd, o, k _ ho, r⟩
    · exact x.elim
  | _ => exact x.elim

theorem dictAt_pin {i kvs ob es ep} (X : Hp W G σ ι h ω γ) (hi : σ i = some (.idict kvs (some ob))) (hd : ob.data = .dict es ep) : ∃ us, An3 (h.DictAt (PySem.intKind W.prog W.w) (ι i) us ep) (RepK h σ ι kvs us) (ι i ≠ sysModules) := by
  obtain ⟨us, D, r, n, hp⟩ := (X.objs i _ hi).2
  obtain ⟨o, es', ep', ho, hx, hdat, rest⟩ := D
  have := hp ob rfl
  rw [ho] at this; cases this
  rw [hd] at hdat; cases hdat
  exact ⟨us, ⟨_, es, ho, hx, hd, rest⟩, r, n⟩
theorem rangeSize0 (n : Int) : Builtin.Range.rangeSize 0 n 1 = (n.toNat : Int) := by
  rw [rangeSize_nat]; simp

theorem iter_start {v : V} {vs : List V} {s : Shared} {u : Value} {E : Value → Shared → Prop} {Z : Value → Shared → Prop} (X : Ok W F G st ι s.heap s.os s.gens) (hv : IterOf v st vs) (r : Rep s.heap st.σ ι v u)
    (k : ∀ it s', (∀ b o, s.heap.get? b = some o → s'.heap.get? b = some o) → s.heap.get? it = none → Ok W F G st ι s'.heap s'.os s'.gens → Ext s.heap st.σ ι s'.heap st.σ ι → G it = none → ItAt W s'.heap st.σ ι it 0 v → Z (.ref it) s') : wpAny (model W.prog W.w) A (pyIter u) Z E s := by
  obtain ⟨Γ, σ⟩ := st
  have gn : G s.heap.objs.size = none := by
    cases q : G s.heap.objs.size with
    | none => rfl
    | some o => exact absurd (Heap.lt_size (X.hp.keep _ _ q)) (Nat.lt_irrefl _)
  have go : ∀ (o : Obj) (s' : Shared), s'.heap = s.heap.push o → s'.os = s.os → s'.gens = s.gens → ItAt W s'.heap σ ι s.heap.objs.size 0 v → Z (.ref s.heap.objs.size) s' := fun o s' e eo eg x => by
    have kk : ∀ b o', s.heap.get? b = some o' → s'.heap.get? b = some o' := fun b o' q => by rw [e]; exact Heap.get?_push_of_some _ q
    obtain ⟨X2, e2⟩ := X.grow kk
    exact k _ _ kk X.hp.fresh (eo ▸ eg ▸ X2) e2 gn x
  cases v with
  | tup l =>
    obtain ⟨a, us, n, rfl, ho, rs⟩ := r.tupI
    refine wpAny_pyIter_tuple ⟨_, ho, rfl, n, rfl⟩ (go _ _ rfl rfl rfl ⟨a, us.toArray, n, Heap.get?_push_of_some _ ho, ?_, _, Heap.get?_push_size _ rfl, rfl, rfl⟩)
    exact (by simpa using rs : Reps s.heap σ ι l us.toArray.toList).ext (X.grow (h' := s.heap.push _) fun b o e => Heap.get?_push_of_some _ e).2
  | str x =>
    cases r using Rep.strE
    exact wpAny_pyIter_ascii hv.1 (go _ _ rfl rfl rfl ⟨_, _, Heap.get?_push_size _ rfl, rfl, rfl⟩)
  | rng m =>
    cases r with | rng ho =>
    refine wpAny_pyIter_range ho ?_ (go _ _ rfl rfl rfl ?_)
    · obtain ⟨_, h1, h2⟩ := hv
      unfold Builtin.Range.small Builtin.Range.rangeFitsLong
      rw [rangeSize0]
      simp
      exact o27 h1 h2
    · show IsRangeIter _ _ _ _ _
      rw [rangeSize0]
      exact Heap.get?_push_size _ rfl
  | ref i =>
    cases r using Rep.refE
    rcases hv with hv | ⟨kvs, ob, hv, rfl⟩
    · have hv : σ i = some (.list vs) := hv
      obtain ⟨us, n, hl, rs⟩ := listAt X.hp hv
      refine wpAny_pyIter_list hl.isList (go _ _ rfl rfl rfl ?_)
      simp only [ItAt, hv]
      exact ⟨_, Heap.get?_push_size _ rfl, rfl, rfl⟩
    · have hv : σ i = some (.idict kvs (some ob)) := hv
      obtain ⟨us₀, D₀, _, _, hp⟩ := (X.hp.objs i _ hv).2
      obtain ⟨o, es, ep, ho, _, hdat, _⟩ := D₀
      have := hp ob rfl
      rw [ho] at this; cases this
      obtain ⟨us, D, r, n⟩ := dictAt_pin X.hp hv hdat
      have hl := r.length
      refine wpAny_pyIter_dict (ne_modules n) D (go _ _ rfl rfl rfl ?_)
      simp only [ItAt, hv]
      exact ⟨es, ep, hdat, _, Heap.get?_push_size _ rfl, rfl, by rw [hl]; rfl⟩
  | _ => exact (show False from hv).elim

theorem iter_item {v : V} {vs : List V} {x : V} {n : Nat} {it : Addr} {s : Shared} {E : Value → Shared → Prop} {Z : Option Value → Shared → Prop} (X : Ok W F G st ι s.heap s.os s.gens) (hv : IterOf v st vs) (hx : vs[n]? = some x) (y : ItAt W s.heap st.σ ι it n v) (g : G it = none)
    (k : ∀ u s', Ok W F G st ι s'.heap s'.os s'.gens → Ext s.heap st.σ ι s'.heap st.σ ι → ItAt W s'.heap st.σ ι it (n + 1) v → Rep s'.heap st.σ ι x u → Z (some u) s') : wpAny (model W.prog W.w) A (pyNext (.ref it)) Z E s := by
  obtain ⟨Γ, σ⟩ := st
  obtain ⟨ob, fs, hob, hfs, hcl⟩ := y.rec
  have go : ∀ h', Heap.SameBut it s.heap h' → Ok W F G ⟨Γ, σ⟩ ι h' s.os s.gens ∧ Ext s.heap σ ι h' σ ι := fun h' hs => X.recT hob hfs hcl g hs.extBut
  cases v with
  | tup l =>
    obtain ⟨a, us, m, ho, rs, hit⟩ := y
    subst hv
    obtain ⟨u, hu, ru⟩ := rs.get hx
    refine wpAny_pyNext_tuple_item hit ⟨_, ho, rfl, m, rfl⟩ (x := u) (by simpa using hu) fun h' hit' hs => ?_
    obtain ⟨X2, e2⟩ := go h' hs
    exact k u { s with heap := h' } X2 e2 ⟨a, us, m, e2.tup _ _ ho (.inl ⟨rfl, _, _, rfl⟩), rs.ext e2, hit'⟩ (ru.ext e2)
  | str x' =>
    obtain ⟨t, hit⟩ := y
    obtain ⟨ha, rfl⟩ := hv
    simp only [List.getElem?_map, Option.map_eq_some_iff] at hx
    obtain ⟨c, hc, rfl⟩ := hx
    refine wpAny_pyNext_ascii_item hit (c := c) (by simpa using hc) fun h' hit' hs => ?_
    obtain ⟨X2, e2⟩ := go h' hs
    exact k _ { s with heap := h', toks := s.toks + 1 } X2 e2 ⟨t, hit'⟩ (.str _ _)
  | rng m =>
    obtain ⟨rfl, hm⟩ := hv
    have hn : n < m.toNat := by
      rcases Nat.lt_or_ge n m.toNat with z | z
      · exact z
      · rw [List.getElem?_eq_none (by simpa using z)] at hx; cases hx
    have hx' : x = .int n := by simpa [hn] using hx.symm
    subst hx'
    refine wpAny_pyNext_range_item y (by exact o28 hn) fun h' hit' hs => ?_
    obtain ⟨X2, e2⟩ := go h' hs
    refine k _ { s with heap := h', toks := s.toks + 1 } X2 e2 ?_ (.int _ _)
    show IsRangeIter _ _ _ _ _
    have : ((n + 1 : Nat) : Int) = (n : Int) + 1 := by exact o29
    rw [this]
    have e3 : (m.toNat : Int) - ((n : Int) + 1) = (m.toNat : Int) - n - 1 := by exact o30
    rw [e3]
    exact hit'
  | ref i =>
    rcases hv with hv | ⟨kvs, ob', hv, rfl⟩
    · have hv : σ i = some (.list vs) := hv
      simp only [ItAt, hv] at y
      obtain ⟨us, m, hl, rs⟩ := listAt X.hp hv
      obtain ⟨u, hu, ru⟩ := rs.get hx
      refine wpAny_pyNext_list_item y hl.isList (x := u) (by simpa using hu) fun h' hit' hs => ?_
      obtain ⟨X2, e2⟩ := go h' hs
      exact k u { s with heap := h' } X2 e2 (by simp only [ItAt, hv]; exact hit') (ru.ext e2)
    · have hv : σ i = some (.idict kvs (some ob')) := hv
      simp only [ItAt, hv] at y
      obtain ⟨es, ep, hd, hit⟩ := y
      obtain ⟨us, D, r, nm⟩ := dictAt_pin X.hp hv hd
      have hk := r.keys
      have hl := r.length
      rw [hl] at hit
      simp only [List.getElem?_map, Option.map_eq_some_iff] at hx
      obtain ⟨p, hp, rfl⟩ := hx
      have : ∃ uv, us[n]? = some (p.1, uv) := by
        have e1 : (us.map (·.1))[n]? = some p.1 := by rw [hk]; simp [hp]
        simp only [List.getElem?_map, Option.map_eq_some_iff] at e1
        obtain ⟨⟨a, b⟩, e2, e3⟩ := e1
        exact ⟨b, by rw [e2]; simp at e3; rw [e3]⟩
      obtain ⟨uv, huv⟩ := this
      refine wpAny_pyNext_dict_item hit D huv fun key h' hkey hit' hs => ?_
      obtain ⟨t, rfl⟩ := Value.isInt_shape hkey
      obtain ⟨X2, e2⟩ := go h' hs
      refine k _ { s with heap := h' } X2 e2 ?_ (.int _ _)
      simp only [ItAt, hv]
      exact ⟨es, ep, hd, by rw [hl]; exact hit'⟩
  | _ => exact (show False from hv).elim

theorem iter_end {v : V} {vs : List V} {it : Addr} {s : Shared} {E : Value → Shared → Prop} {Z : Option Value → Shared → Prop} (hh : A.handled = none) (X : Ok W F G st ι s.heap s.os s.gens) (hv : IterOf v st vs) (y : ItAt W s.heap st.σ ι it vs.length v) (g : G it = none)
    (k : ∀ s', Ok W F G st ι s'.heap s'.os s'.gens → Ext s.heap st.σ ι s'.heap st.σ ι → Z none s') : wpAny (model W.prog W.w) A (pyNext (.ref it)) Z E s := by
  obtain ⟨Γ, σ⟩ := st
  obtain ⟨ob, fs, hob, hfs, hcl⟩ := y.rec
  have go : ∀ h', Heap.ExtBut it s.heap h' → Z none { s with heap := h' } := fun h' hs => by
    obtain ⟨X2, e2⟩ := X.recT hob hfs hcl g hs
    exact k { s with heap := h' } X2 e2
  cases v with
  | tup l =>
    obtain ⟨a, us, m, ho, rs, hit⟩ := y
    subst hv
    exact wpAny_pyNext_tuple_end hh hit ⟨_, ho, rfl, m, rfl⟩ (by have := rs.length; simp at this; simp; exact o31 this) go
  | str x' =>
    obtain ⟨t, hit⟩ := y
    obtain ⟨ha, rfl⟩ := hv
    exact wpAny_pyNext_ascii_end hh hit (by simp) go
  | rng m =>
    obtain ⟨rfl, hm⟩ := hv
    refine wpAny_pyNext_range_end hh y (by simp) go
  | ref i =>
    rcases hv with hv | ⟨kvs, ob', hv, rfl⟩
    · have hv : σ i = some (.list vs) := hv
      simp only [ItAt, hv] at y
      obtain ⟨us, m, hl, rs⟩ := listAt X.hp hv
      have := rs.length
      exact wpAny_pyNext_list_end hh y hl.isList (by simp; exact o31 this) go
    · have hv : σ i = some (.idict kvs (some ob')) := hv
      simp only [ItAt, hv] at y
      obtain ⟨es, ep, hd, hit⟩ := y
      obtain ⟨us, D, r, nm⟩ := dictAt_pin X.hp hv hd
      have hl := r.length
      rw [hl] at hit
      exact wpAny_pyNext_dict_end hh hit D (by simp; exact o31 hl) go
  | _ => exact (show False from hv).elim
end
end Mine

open PySem PySem.W PyProof.Rows PySem.SeqAt PySem.Calls
set_option Elab.async false
set_option maxRecDepth 100000
set_option linter.unusedVariables false
namespace Mine

section
variable {W : Wd} {F : Fx} {A : Around} {st : St} {G : Frz} {ι : Loc}

theorem iter_again {v : V} {n : Nat} {it : Addr} {s : Shared} {σ : Sto} {E : Value → Shared → Prop} {Z : Value → Shared → Prop} (hh : A.handled = none) (y : ItAt W s.heap σ ι it n v) (k : Z (.ref it) s) : wpAny (model W.prog W.w) A (pyIter (.ref it)) Z E s := by
  cases v with
  | tup l =>
    obtain ⟨a, us, m, ho, rs, hit⟩ := y
    exact wpAny_pyIter_tupleiter hit k
  | str x' =>
    obtain ⟨t, hit⟩ := y
    exact wpAny_pyIter_striter_ascii hit k
  | rng m => exact wpAny_pyIter_rangeiter y k
  | ref i =>
    simp only [ItAt] at y
    split at y
    · exact wpAny_pyIter_listiter y k
    · obtain ⟨_, _, _, hit⟩ := y
      exact wpAny_pyIter_keyiter hit k
    · exact y.elim
  | _ => exact y.elim

/-- a for loop -/
theorem Ex.for {t iter body p Q} (hh : A.handled = none)
    (T : Ev W F A iter st fun v st1 => Sm2 fun (vs : List V) (I : Nat → St → Prop) => An5 (IterOf v st1 vs) (I 0 st1) (∀ n st', I n st' → ∀ i, v = .ref i → st'.σ i = st1.σ i) (∀ n x st', vs[n]? = some x → I n st' → As W F A t x st' fun st2 => Exs W F A body st2 fun f st3 => match f with | .next => I (n + 1) st3 | .ret w => Q (.ret w) st3) (∀ st', I vs.length st' → Q .next st'))
    (hs : ∀ x, foldedSetIterable iter F.env x = pure x := by intro _; rfl) (ht : ∀ it v, letOwnedTupleGo t it v = pure () := by intro _ _; rfl) :
    Ex W F A (.For t iter body [] p) st Q := fun G ι s X => by
  rw [show exec (.For t iter body [] p) F.env = _ from arm_exec_For _ _ _ _ _ _]
  refine wpAny_bind (wpAny_standAt (wpAny_bind (T.use X fun u s1 st1 ι1 X1 e1 ⟨v, r, vs, I, hv, h0, hst, hturn, hend⟩ => ?_)))
  rw [hs]
  refine wpAny_bind (wpAny_pure (wpAny_bind (wpAny_standAt (wpAny_bind (wpAny_holding (iter_start X1 hv r fun it s2 _ _ X2 e2 git y0 => ?_))))))
  refine wpAny_runOwn ?_
  have hIt : ∀ {n st'}, I n st' → IterOf v st' vs := fun {n st'} i => by
    have := hst n st' i
    cases v with
    | ref j => simp only [IterOf] at hv ⊢; rw [this j rfl]; exact hv
    | _ => exact hv
  refine codeAny_forLoop_any (fun m s' => Sm3 fun n st' ι' => An5 (m + n = vs.length) (Ok W F G st' ι' s'.heap s'.os s'.gens) (Ext s.heap st.σ ι s'.heap st'.σ ι') (ItAt W s'.heap st'.σ ι' it n v) (I n st')) (fun m s' hI => ?_) vs.length ⟨0, st1, ι1, rfl, X2, e1.trans e2, y0, h0⟩
  obtain ⟨n, st', ι', hmn, X', e', y, i⟩ := hI
  rcases Nat.lt_or_ge n vs.length with hn | hn
  · have hx : vs[n]? = some vs[n] := by simp [hn]
    refine iter_item X' (hIt i) hx y git fun u2 s3 X3 e3 y3 r3 => ?_
    dsimp only
    rw [ht]
    refine wpAny_pure ?_
    obtain ⟨ob, fs, hob, hfs, hcl⟩ := y3.rec
    obtain ⟨Γ', σ'⟩ := st'
    have P := X3.pinRec hob hfs git
    refine wpAny_mono (hturn n _ _ hx i _ ι' s3 u2 P r3) (fun _ s4 ⟨st4, ι4, X4, e4, q4⟩ => ?_) fun _ _ z => z.elim
    refine Tr.use q4 X4 fun fl s5 st5 ι5 X5 e5 ⟨w, rw', q5⟩ => ?_
    obtain ⟨X6, h6⟩ := X5.unpinRec git X.hp.base
    have ee := ((e'.trans e3).trans e4).trans e5
    cases rw' with
    | next =>
      refine ⟨m - 1, by exact o32 hmn hn, n + 1, st5, ι5, by exact o33 hmn hn, X6, ee, ?_, q5⟩
      refine y3.step (e4.trans e5) (fun o e => by rw [hob] at e; cases e; exact h6) fun j e => ?_
      rw [hst _ _ q5 j e, hst _ _ i j e]
    | ret r => exact ⟨_, _, X6, ee, _, .ret r, q5⟩
  · have : n = vs.length := by exact o34 hmn hn
    subst this
    refine iter_end hh X' (hIt i) y git fun s3 X3 e3 => ?_
    refine wpAny_pure ⟨_, _, X3, e'.trans e3, _, .next, hend _ i⟩
end
end Mine

open PySem PySem.W PyProof.Rows PySem.SeqAt PySem.Calls
set_option Elab.async false
set_option maxRecDepth 100000
set_option linter.unusedVariables false
namespace Mine

/-- the cells that a block closes over -/
def clOf (env : Env) : List (Str × NameKind) → List (Str × Addr) → List (Str × Addr)
  | [], acc => acc
  | (n, k) :: r, acc => if k == .free then clOf env r ((n, (env.cells.lookup n).getD 0) :: acc) else clOf env r acc
def okFree (env : Env) (names : List (Str × NameKind)) : Bool :=
  names.all fun y => y.2 != .free || ((env.cells.lookup y.1).isSome && (env.kindOf y.1 == some .cell || env.kindOf y.1 == some .free))
def okComp (names : List (Str × NameKind)) : Bool :=
  names.all fun y => y.2 != .cell && (y.2 != .local || names.lookup y.1 == some .local)

theorem closure_eq {scope : Scope} {env : Env} (h : okFree env scope.names = true) : closureFor scope env = pure (clOf env scope.names []) := by
  unfold closureFor
  have gen : ∀ (names : List (Str × NameKind)) (acc : List (Str × Addr)), okFree env names = true →
      (forIn names acc fun x r => (if (x.2 == NameKind.free) = true then (cellOf env x.1 >>= fun a => pure (ForInStep.yield ((x.1, a) :: r))) else pure (ForInStep.yield r) : Sem (ForInStep (List (Str × Addr))))) = pure (clOf env names acc) := by
    intro names
    induction names with
    | nil => intro acc _; rfl
    | cons y r ih =>
      intro acc hy
      obtain ⟨n, k⟩ := y
      simp only [okFree, List.all_cons, Bool.and_eq_true] at hy
      rw [List.forIn_cons]
      by_cases hk : (k == NameKind.free) = true
      · have h1 := hy.1
        have : (k != NameKind.free) = false := by simp [bne, hk]
        simp only [this, Bool.false_or, Bool.and_eq_true] at h1
        obtain ⟨c, hc⟩ := Option.isSome_iff_exists.mp h1.1
        dsimp only
        rw [if_pos hk]
        have : cellOf env n = pure c := by unfold cellOf; rw [hc]
        rw [this]
        show (forIn r ((n, c) :: acc) _ : Sem _) = _
        rw [ih _ hy.2]
        simp only [clOf, hk, if_true, hc, Option.getD_some]
      · dsimp only
        rw [if_neg hk]
        show (forIn r acc _ : Sem _) = _
        rw [ih _ hy.2]
        simp only [clOf, hk]; rfl
  have := gen scope.names [] h
  show ((forIn scope.names [] fun x r => (if (x.2 == NameKind.free) = true then (cellOf env x.1 >>= fun a => pure (ForInStep.yield ((x.1, a) :: r))) else pure (ForInStep.yield r) : Sem (ForInStep (List (Str × Addr))))) >>= fun r => pure r) = _
  rw [this]
  rfl
theorem clOf_lookup {env : Env} {y : Str} : ∀ {names : List (Str × NameKind)} {acc : List (Str × Addr)}, okFree env names = true → (acc.lookup y = env.cells.lookup y ∨ (y, NameKind.free) ∈ names) → (clOf env names acc).lookup y = env.cells.lookup y
  | [], acc, _, h => by rcases h with h | h; exact h; cases h
  | (n, k) :: r, acc, ho, h => by
    simp only [okFree, List.all_cons, Bool.and_eq_true] at ho
    simp only [clOf]
    split
    · rename_i hk
      refine clOf_lookup ho.2 ?_
      have h1 := ho.1
      have : (k != NameKind.free) = false := by simp [bne, hk]
      simp only [this, Bool.false_or, Bool.and_eq_true] at h1
      obtain ⟨c, hc⟩ := Option.isSome_iff_exists.mp h1.1
      by_cases q : y = n
      · subst q; left; simp [hc]
      · rcases h with h | h
        · left
          have : (y == n) = false := by simpa using q
          rw [List.lookup_cons, this]; exact h
        · right
          rcases List.mem_cons.mp h with h | h
          · cases h; exact absurd rfl q
          · exact h
    · rename_i hk
      refine clOf_lookup ho.2 ?_
      rcases h with h | h
      · exact .inl h
      · rcases List.mem_cons.mp h with h | h
        · cases h; simp at hk
        · exact .inr h

theorem relabel_lookup {scope : Scope} {env : Env} {x : Str} : (relabel scope env).names.lookup x = (scope.names.lookup x).map fun k => if (k == .free && env.scope.kind == .function && env.kindOf x == some .cell) then .cell else k := by
  unfold relabel
  dsimp only
  induction scope.names with
  | nil => rfl
  | cons y r ih =>
    obtain ⟨n, k⟩ := y
    rw [List.map_cons]
    by_cases q : x = n
    · subst q
      by_cases z : (k == NameKind.free && env.scope.kind == .function && env.kindOf x == some .cell) = true
      · simp only [z, if_true, List.lookup_cons, beq_self_eq_true, Option.map_some]
      · simp only [z, List.lookup_cons, beq_self_eq_true, Option.map_some]
        simp
    · have h1 : (x == n) = false := by simpa using q
      have h2 : List.lookup x ((n, k) :: r) = List.lookup x r := by rw [List.lookup_cons, h1]
      rw [h2]
      dsimp only
      by_cases z : (k == NameKind.free && env.scope.kind == .function && env.kindOf n == some .cell) = true
      · simp only [z, if_true, List.lookup_cons, h1]; exact ih
      · simp only [z, Bool.false_eq_true, if_false, List.lookup_cons, h1]; exact ih

def compΓ (scope : Scope) (Γ : List (Str × V)) : List (Str × V) := Γ.filter fun p => !(scope.names.lookup p.1 == some .local)
theorem compΓ_lookup {scope : Scope} {Γ : List (Str × V)} {x : Str} : (compΓ scope Γ).lookup x = if scope.names.lookup x = some .local then none else Γ.lookup x := by
  unfold compΓ
  induction Γ with
  | nil => simp
  | cons p r ih =>
    obtain ⟨n, v⟩ := p
    rw [List.filter_cons]
    by_cases q : x = n
    · subst q
      by_cases z : scope.names.lookup x = some .local
      · simp only [z, beq_self_eq_true, Bool.not_true, if_true] at ih ⊢
        simpa [z] using ih
      · have : (scope.names.lookup x == some .local) = false := by simpa using z
        simp [this, z]
    · have h1 : (x == n) = false := by simpa using q
      split
      · rw [List.lookup_cons, h1, List.lookup_cons, h1]; exact ih
      · rw [ih, List.lookup_cons, h1]

def compFx (F : Fx) (scope : Scope) (C : Addr) : Fx := ⟨compEnvC scope (clOf F.env scope.names []) C F.env, false⟩

section
variable {W : Wd} {F : Fx} {A : Around} {st : St} {G : Frz} {Γ : List (Str × V)} {σ : Sto} {ι : Loc} {h h' : Heap}

/-- the frame of a block -/
theorem Ok.block {scope : Scope} {C : Addr} {G' : Frz} {σ' : Sto} {ι' : Loc} (X : Ok W F G ⟨Γ, σ⟩ ι h ω γ) (H : Hp W G' σ' ι' h' ω' γ') (E : Ext h σ ι h' σ' ι') (hf : okFree F.env scope.names = true) (hc : okComp scope.names = true)
    (k : ∀ b o, h.get? b = some o → h'.get? b = some o) (hC : h'.Ns C (fun _ => none)) (gC : G' C = none) (sep : ∀ i, σ' i ≠ none → ι' i ≠ C) : Ok W (compFx F scope C) G' ⟨compΓ scope Γ, σ'⟩ ι' h' ω' γ' := by
  have kind : ∀ x, (compFx F scope C).env.kindOf x = (relabel scope F.env).names.lookup x := fun x => rfl
  refine ⟨H, ⟨gC, ⟨_, hC, fun x v hk hv => ?_⟩, fun x v hk hv => ?_, sep, fun o => by cases o⟩⟩
  · exfalso
    rw [kind, relabel_lookup] at hk
    dsimp only at hv
    rw [compΓ_lookup] at hv
    split at hv
    · cases hv
    · rename_i n
      obtain ⟨k', hk', e⟩ := Option.map_eq_some_iff.mp hk
      split at e
      · cases e
      · subst e; exact n hk'
  · rw [kind, relabel_lookup] at hk
    dsimp only at hv
    rw [compΓ_lookup] at hv
    split at hv
    · cases hv
    · rename_i n
      have : scope.names.lookup x = some .free := by
        have hcell : scope.names.lookup x ≠ some .cell := fun q => by
          have := List.all_eq_true.mp hc _ (mem_of_lookupG q)
          simp at this
        rcases hk with hk | hk <;> obtain ⟨k', hk', e⟩ := Option.map_eq_some_iff.mp hk
        · split at e
          · rename_i z; simp only [Bool.and_eq_true, beq_iff_eq] at z; rw [hk', z.1.1]
          · subst e; exact absurd hk' hcell
        · split at e
          · cases e
          · subst e; exact hk'
      have mem := mem_of_lookupG this
      have ho := List.all_eq_true.mp hf _ mem
      simp only [bne_self_eq_false, Bool.false_or, Bool.and_eq_true, Bool.or_eq_true, beq_iff_eq] at ho
      obtain ⟨c, u, hcl, hi, r⟩ := X.fm.cell x v ho.2 hv
      exact ⟨c, u, (clOf_lookup hf (.inr mem)).trans hcl, hi.keeps k, r.ext E⟩
end
end Mine

open PySem PySem.W PyProof.Rows PySem.SeqAt PySem.Calls
set_option Elab.async false
namespace Mine
def tests (ifs : List Expr) (env : Env) : Sem Bool := forIn ifs true fun c r => if r = true then do let ok ← isTrue c env (eval c env); pure (ForInStep.yield ok) else pure (ForInStep.yield r)

theorem compTurn_leaf (elt target iter : Expr) (ifs : List Expr) (scope : Scope) (pos : Pos) (it acc : Value) (env : Env) :
    compTurn (.ListComp elt [⟨target, iter, ifs, 0⟩] scope pos) 0 it acc env = (standAt iter.pos >>= fun _ => pyNext it >>= fun r => match r with
      | none => pure (.done .next)
      | some v => letOwnedTupleGo target it v >>= fun _ => assign target env v >>= fun _ => tests ifs env >>= fun ok =>
        if ok = true then (eval elt env >>= fun x => call (.builtin "list.append") [acc, x] >>= fun _ => pure ()) >>= fun _ => again (.compLoop (.ListComp elt [⟨target, iter, ifs, 0⟩] scope pos) 0 it acc env)
        else again (.compLoop (.ListComp elt [⟨target, iter, ifs, 0⟩] scope pos) 0 it acc env)) := by rfl
theorem compTurn_leaf1 (elt target iter t0 i0 : Expr) (ifs ifs0 : List Expr) (scope : Scope) (pos : Pos) (it acc : Value) (env : Env) :
    compTurn (.ListComp elt [⟨t0, i0, ifs0, 0⟩, ⟨target, iter, ifs, 0⟩] scope pos) 1 it acc env = (standAt iter.pos >>= fun _ => pyNext it >>= fun r => match r with
      | none => pure (.done .next)
      | some v => letOwnedTupleGo target it v >>= fun _ => assign target env v >>= fun _ => tests ifs env >>= fun ok =>
        if ok = true then (eval elt env >>= fun x => call (.builtin "list.append") [acc, x] >>= fun _ => pure ()) >>= fun _ => again (.compLoop (.ListComp elt [⟨t0, i0, ifs0, 0⟩, ⟨target, iter, ifs, 0⟩] scope pos) 1 it acc env)
        else again (.compLoop (.ListComp elt [⟨t0, i0, ifs0, 0⟩, ⟨target, iter, ifs, 0⟩] scope pos) 1 it acc env)) := by rfl
theorem compTurn_outer (elt target iter t0 i0 : Expr) (ifs ifs0 : List Expr) (scope : Scope) (pos : Pos) (it acc : Value) (env : Env) :
    compTurn (.ListComp elt [⟨t0, i0, ifs0, 0⟩, ⟨target, iter, ifs, 0⟩] scope pos) 0 it acc env = (standAt i0.pos >>= fun _ => pyNext it >>= fun r => match r with
      | none => pure (.done .next)
      | some v => letOwnedTupleGo t0 it v >>= fun _ => assign t0 env v >>= fun _ => tests ifs0 env >>= fun ok =>
        if ok = true then (eval iter env >>= fun x => standAt iter.pos >>= fun _ => foldedSetIterable iter env x >>= fun x => holding [x] (pyIter x) >>= fun j => runOwn (.compStart (.ListComp elt [⟨t0, i0, ifs0, 0⟩, ⟨target, iter, ifs, 0⟩] scope pos) 1 j acc env) env >>= fun _ => again (.compLoop (.ListComp elt [⟨t0, i0, ifs0, 0⟩, ⟨target, iter, ifs, 0⟩] scope pos) 0 it acc env))
        else again (.compLoop (.ListComp elt [⟨t0, i0, ifs0, 0⟩, ⟨target, iter, ifs, 0⟩] scope pos) 0 it acc env)) := by rfl

section
variable {W : Wd} {F : Fx} {A : Around} {st : St} {G : Frz} {ι : Loc}

theorem tests_nil {env : Env} : tests [] env = pure true := rfl
theorem tests_one {c : Expr} {Q : Bool → St → Prop} (T : Is W F A c st Q) : Tr W F A (tests [c] F.env) st fun b _ st' _ => Q b st' := fun G ι s X => by
  unfold tests
  rw [List.forIn_cons]
  refine wpAny_bind ?_
  rw [if_pos rfl]
  exact wpAny_bind (T.use X fun b s' st' ι' x ext q => wpAny_pure (wpAny_pure ⟨_, _, x, ext, q⟩))
theorem tests_none {Q : Bool → St → Prop} (q : Q true st) : Tr W F A (tests [] F.env) st fun b _ st' _ => Q b st' := fun G ι s X => wpAny_pure ⟨_, _, X, .rfl', q⟩

/-- what a turn does behind its tests -/
def Act (W : Wd) (F : Fx) (A : Around) (act : Sem Unit) (acc : Nat) (accA : Addr) (st : St) (Q : St → Prop) : Prop :=
  ∀ (G : Frz) (ι : Loc) (s : Shared), Ok W F G st ι s.heap s.os s.gens → ι acc = accA →
    wpAny (model W.prog W.w) A act (fun _ s' => Po W F G s.heap st.σ ι s' fun _ st' _ => Q st') (fun _ _ => False) s

def ActF (W : Wd) (F : Fx) (A : Around) (body : Sem Fin) (c : Code) (acc : Nat) (accA : Addr) (st : St) (Q : St → Prop) : Prop :=
  ∀ (G : Frz) (ι : Loc) (s : Shared), Ok W F G st ι s.heap s.os s.gens → ι acc = accA →
    wpAny (model W.prog W.w) A body (fun fin s' => fin = .again c ∧ Po W F G s.heap st.σ ι s' fun _ st' _ => Q st') (fun _ _ => False) s
theorem ActF.of_act {act : Sem Unit} {c : Code} {acc : Nat} {accA : Addr} {Q : St → Prop} (T : Act W F A act acc accA st Q) : ActF W F A (act >>= fun _ => again c) c acc accA st Q := fun G ι s X hA =>
  wpAny_bind (wpAny_mono (T G ι s X hA) (fun _ s' h => wpAny_pure ⟨rfl, h⟩) fun _ _ z => z)

theorem comp_core {elt : Expr} {gens : List Comprehension} {scope : Scope} {pos p0 : Pos} {d : Nat} {t : Expr} {test : Sem Bool} {body : Sem Fin} {acc : Nat} {accA it : Addr} {v : V} {vs : List V} (hh : A.handled = none)
    (heq : compTurn (.ListComp elt gens scope pos) d (.ref it) (.ref accA) F.env = (standAt p0 >>= fun _ => pyNext (.ref it) >>= fun r => match r with
      | none => pure (.done .next)
      | some v => letOwnedTupleGo t (.ref it) v >>= fun _ => assign t F.env v >>= fun _ => test >>= fun ok =>
        if ok = true then body
        else again (.compLoop (.ListComp elt gens scope pos) d (.ref it) (.ref accA) F.env)))
    (ht : ∀ it v, letOwnedTupleGo t it v = pure ())
    (I : Nat → St → Prop) (hv : IterOf v st vs) (h0 : I 0 st) (hst : ∀ n st', I n st' → ∀ i, v = .ref i → st'.σ i = st.σ i)
    (turn : ∀ n x st', vs[n]? = some x → I n st' → As W F A t x st' fun st2 => Tr W F A test st2 fun ok _ st3 _ => if ok = true then ActF W F A body (.compLoop (.ListComp elt gens scope pos) d (.ref it) (.ref accA) F.env) acc accA st3 (I (n + 1)) else I (n + 1) st3)
    {s : Shared} (X : Ok W F G st ι s.heap s.os s.gens) (hacc : st.σ acc ≠ none) (hA : ι acc = accA) (git : G it = none) (y0 : ItAt W s.heap st.σ ι it 0 v) :
    codeAny (model W.prog W.w) A (.compLoop (.ListComp elt gens scope pos) d (.ref it) (.ref accA) F.env)
      (fun r s' => Lo W F G s.heap st.σ ι r s' fun st' => I vs.length st') s := by
  have hIt : ∀ {n st'}, I n st' → IterOf v st' vs := fun {n st'} i => by
    have := hst n st' i
    cases v with
    | ref j => simp only [IterOf] at hv ⊢; rw [this j rfl]; exact hv
    | _ => exact hv
  refine codeAny_loop rfl (fun m s' => Sm3 fun n st' ι' => An5 (m + n = vs.length) (Ok W F G st' ι' s'.heap s'.os s'.gens) (Ext s.heap st.σ ι s'.heap st'.σ ι') (ItAt W s'.heap st'.σ ι' it n v) (I n st')) (fun m s' hI => ?_) vs.length ⟨0, st, ι, rfl, X, .rfl', y0, h0⟩
  obtain ⟨n, st', ι', hmn, X', e', y, i⟩ := hI
  show wpAny _ _ ((compTurn (.ListComp elt gens scope pos) d (.ref it) (.ref accA) F.env).onRaise _) _ _ _
  refine wpAny_onRaise (wpAny_mono (E := fun _ _ => False) ?_ (fun _ _ z => z) fun _ _ z => z.elim)
  rw [heq]
  refine wpAny_bind (wpAny_standAt (wpAny_bind ?_))
  show wpAny (model W.prog W.w) A _ _ _ _
  rcases Nat.lt_or_ge n vs.length with hn | hn
  · have hx : vs[n]? = some vs[n] := by simp [hn]
    refine iter_item X' (hIt i) hx y git fun u2 s3 X3 e3 y3 r3 => ?_
    dsimp only
    rw [ht]
    refine wpAny_bind (wpAny_pure ?_)
    obtain ⟨ob, fs, hob, hfs, hcl⟩ := y3.rec
    obtain ⟨Γ', σ'⟩ := st'
    have P := X3.pinRec hob hfs git
    refine wpAny_bind (wpAny_mono (turn n _ _ hx i _ ι' s3 u2 P r3) (fun _ s4 ⟨st4, ι4, X4, e4, q4⟩ => ?_) fun _ _ z => z.elim)
    refine wpAny_bind (Tr.use q4 X4 fun ok s5 st5 ι5 X5 e5 q5 => ?_)
    have done : ∀ {s6 : Shared} {st6 ι6}, Ok W F (pinG G it ob) st6 ι6 s6.heap s6.os s6.gens → Ext s3.heap σ' ι' s6.heap st6.σ ι6 → I (n + 1) st6 →
        wpAny (model W.prog W.w) A (again (.compLoop (.ListComp elt gens scope pos) d (.ref it) (.ref accA) F.env)) (fun fin s' => match fin with | .done f => Lo W F G s.heap st.σ ι (.ok f) s' fun st' => I vs.length st' | .again c' => c' = .compLoop (.ListComp elt gens scope pos) d (.ref it) (.ref accA) F.env ∧ ∃ m_1, m_1 < m ∧ (Sm3 fun n st' ι' => An5 (m_1 + n = vs.length) (Ok W F G st' ι' s'.heap s'.os s'.gens) (Ext s.heap st.σ ι s'.heap st'.σ ι') (ItAt W s'.heap st'.σ ι' it n v) (I n st'))) (fun _ _ => False) s6 := fun {s6 st6 ι6} X6 e6 i6 => by
      obtain ⟨X7, h7⟩ := X6.unpinRec git X.hp.base
      refine wpAny_pure ⟨rfl, m - 1, by exact o32 hmn hn, n + 1, st6, ι6, by exact o33 hmn hn, X7, (e'.trans e3).trans e6, ?_, i6⟩
      refine y3.step e6 (fun o e => by rw [hob] at e; cases e; exact h7) fun j e => ?_
      rw [hst _ _ i6 j e, hst _ _ i j e]
    cases ok with
    | false => exact done X5 (e4.trans e5) (by simpa using q5)
    | true =>
      rw [if_pos rfl] at q5
      rw [if_pos rfl]
      have eA : ι5 acc = accA := by
        have := (((e'.trans e3).trans e4).trans e5).ids acc hacc
        rw [this.2, hA]
      refine wpAny_mono (q5 _ _ _ X5 eA) (fun fin s6 ⟨ef, st6, ι6, X6, e6, i6⟩ => ?_) fun _ _ z => z
      subst ef
      obtain ⟨X7, h7⟩ := X6.unpinRec git X.hp.base
      refine ⟨rfl, m - 1, by exact o32 hmn hn, n + 1, st6, ι6, by exact o33 hmn hn, X7, (e'.trans e3).trans ((e4.trans e5).trans e6), ?_, i6⟩
      refine y3.step ((e4.trans e5).trans e6) (fun o e => by rw [hob] at e; cases e; exact h7) fun j e => ?_
      rw [hst _ _ i6 j e, hst _ _ i j e]
  · have : n = vs.length := by exact o34 hmn hn
    subst this
    refine iter_end hh X' (hIt i) y git fun s3 X3 e3 => ?_
    exact wpAny_pure ⟨_, _, rfl, X3, e'.trans e3, i⟩

/-- the leaf's act: an item more -/
theorem Act.leaf {elt : Expr} {acc : Nat} {accA : Addr} {Q : St → Prop}
    (T : Ev W F A elt st fun w st' => ∃ out, An3 (st'.σ acc = some (.list out)) (out.length ≤ 1000) (Q ⟨st'.Γ, setS st'.σ acc (.list (out ++ [w]))⟩)) (hacc : st.σ acc ≠ none) :
    Act W F A (eval elt F.env >>= fun x => call (.builtin "list.append") [.ref accA, x] >>= fun _ => pure ()) acc accA st Q := fun G ι s X hA => by
  refine wpAny_bind (T.use X fun u s1 st1 ι1 X1 e1 ⟨w, r, out, ho, hz, q⟩ => ?_)
  have eA : ι1 acc = accA := (e1.ids acc hacc).2.trans hA
  have ra : Rep s1.heap st1.σ ι1 (.ref acc) (.ref accA) := by rw [← eA]; exact .ref acc (by rw [ho]; exact fun z => by cases z)
  refine wpAny_bind (wpAny_mono (Bi.append (A := A) (Q := fun _ st' => Q st') ho hz q G ι1 s1 [.ref accA, u] X1 (.cons ra (.one r))) (fun u2 s2 ⟨st2, ι2, X2, e2, v2, r2, q2⟩ => ?_) fun _ _ z => z)
  exact wpAny_pure ⟨_, _, X2, e1.trans e2, q2⟩
end
end Mine

open PySem PySem.W PyProof.Rows PySem.SeqAt PySem.Calls
set_option Elab.async false
set_option maxRecDepth 100000
set_option linter.unusedVariables false
namespace Mine

section
variable {W : Wd} {F : Fx} {A : Around} {st : St}

/-- the loop of a block -/
def Lp (W : Wd) (F : Fx) (A : Around) (scope : Scope) (C : Addr) (e : Expr) (acc : Nat) (v : V) (st : St) (Q : Sto → Prop) : Prop :=
  ∀ (G : Frz) (ι : Loc) (s : Shared) (it : Addr), Ok W (compFx F scope C) G st ι s.heap s.os s.gens → G it = none → ItAt W s.heap st.σ ι it 0 v →
    codeAny (model W.prog W.w) A (.compLoop e 0 (.ref it) (.ref (ι acc)) (compFx F scope C).env) (fun r s' => Lo W (compFx F scope C) G s.heap st.σ ι r s' fun st' => Q st'.σ) s

/-- what stands behind a block -/
def Behind (W : Wd) (A : Around) (use : Option (Value → Sem Unit)) (Z : Value → Shared → Prop) (C : Addr) (u : Value) (s' : Shared) : Prop :=
  match use with
  | none => ∃ m, s'.heap.Ns C m ∧ ∀ h', Heap.SameBut C s'.heap h' → Z u { s' with heap := h' }
  | some f => wpAny (model W.prog W.w) A (f u) (fun _ s'' => ∃ m, s''.heap.Ns C m ∧ ∀ h', Heap.SameBut C s''.heap h' → Z .none { s'' with heap := h' }) (fun _ _ => False) s'

/-- an address that is the frame's or ours nowhere -/
structure Apart (F : Fx) (G : Frz) (σ : Sto) (ι : Loc) (h : Heap) (C : Addr) : Prop where
  g : G C = none
  loc : C ≠ F.env.locals
  ours : ∀ i, σ i ≠ none → ι i ≠ C
  cell : ∀ v, ¬ h.IsCell C v
  ns : ∃ m, h.Ns C m

theorem comp_block {elt target iter : Expr} {ifs : List Expr} {gs : List Comprehension} {scope : Scope} {pos p : Pos} (how : Option (Value → Sem Unit)) (hh : A.handled = none) (acc : Nat) {Q : V → St → Prop} {Z : Value → Shared → Prop}
    (hf : okFree F.env scope.names = true) (hc : okComp scope.names = true) (hkind : scope.kind = .function)
    (T : Ev W F A iter st fun v st1 => st1.σ acc = none ∧ ∃ vs, IterOf v st1 vs ∧ ∀ C, Lp W F A scope C (.ListComp elt (⟨target, iter, ifs, 0⟩ :: gs) scope pos) acc v ⟨compΓ scope st1.Γ, setS st1.σ acc (.list [])⟩ fun σ' => σ' acc ≠ none ∧ Q (.ref acc) ⟨st1.Γ, σ'⟩)
    (hs : ∀ x, foldedSetIterable iter F.env x = pure x)
    {G : Frz} {ι : Loc} {s : Shared} (X : Ok W F G st ι s.heap s.os s.gens)
    (fini : ∀ (C : Addr) (u : Value) (s' : Shared) (st' : St) (ι' : Loc), Ok W F G st' ι' s'.heap s'.os s'.gens → Ext s.heap st.σ ι s'.heap st'.σ ι' → Rep s'.heap st'.σ ι' (.ref acc) u → Q (.ref acc) st' → Apart F G st'.σ ι' s'.heap C → Behind W A how Z C u s') :
    wpAny (model W.prog W.w) A (comprehension (.ListComp elt (⟨target, iter, ifs, 0⟩ :: gs) scope pos) scope F.env p (newList []) false (eval iter F.env) how) Z (fun _ _ => False) s := by
  have hnames : ∀ x ∈ scope.names, x.2 = .local → scope.names.lookup x.1 = some .local := fun x hx hl => by
    have := List.all_eq_true.mp hc x hx
    simp [hl] at this; exact this
  have hcell : ∀ x ∈ scope.names, x.2 ≠ .cell := fun x hx e => by
    have := List.all_eq_true.mp hc x hx
    simp [e] at this
  refine wpAny_comprehension_free rfl hs (closure_eq hf) hkind hnames (T.use X fun u s1 st1 ι1 X1 e1 ⟨v, r, ha, vs, hv, lp⟩ => ?_)
  obtain ⟨Γ1, σ1⟩ := st1
  dsimp only at ha lp e1
  refine iter_start X1 hv r fun it s2 k2 n2 X2 e2 git y => ?_
  dsimp only at e2 y
  have H2 : Hp W (frz σ1 ι1 s1.heap) σ1 ι1 s2.heap s2.os s2.gens := (X1.hp.freeze.grow k2).1.re (X2.hp.same.1.trans X1.hp.same.1.symm) (X2.hp.same.2.trans X1.hp.same.2.symm)
  have newG : ∀ {b}, s1.heap.get? b = none → frz σ1 ι1 s1.heap b = none := fun {b} e => by
    cases q : frz σ1 ι1 s1.heap b with
    | none => rfl
    | some o => rw [(frz_some q).1] at e; cases e
  have old : ∀ {b}, s2.heap.get? b = none → s1.heap.get? b = none := fun {b} e => by
    cases q : s1.heap.get? b with
    | none => rfl
    | some o => rw [k2 b o q] at e; cases e
  refine wpAny_newList (hsz := Nat.zero_le _) ?_
  have k3 : ∀ b o, s2.heap.get? b = some o → (s2.heap.push { cls := .type "list", data := .seq ([] : List Value).toArray }).get? b = some o := fun b o e => Heap.get?_push_of_some _ e
  obtain ⟨H3, e3⟩ := H2.new (i := acc) (a := s2.heap.objs.size) (o' := .list []) (h' := s2.heap.push { cls := .type "list", data := .seq ([] : List Value).toArray }) ha X2.hp.fresh k3 fun E => ⟨[], ⟨0, Heap.get?_push_size _ rfl⟩, .nil⟩
  have y3 := y.step e3 (fun o e => k3 _ _ e) (σ' := setS σ1 acc (.list [])) fun i hi => by
    have : i ≠ acc := fun q => by
      subst hi q
      have := r.refI
      cases r with | ref _ n => exact n ha
    simp [setS, this]
  refine wpAny_newFunctionEnv hcell (fun x hx => by cases hx) (fun h4 hns hsb => ?_) hkind
  have k4 : ∀ b o, (s2.heap.push { cls := .type "list", data := .seq ([] : List Value).toArray }).get? b = some o → h4.get? b = some o := fun b o e => (hsb.2 b (Nat.ne_of_lt (Heap.lt_size e))).trans (Heap.get?_push_of_some _ e)
  obtain ⟨H4, e4⟩ := H3.grow k4
  have y4 := y3.step e4 (fun o e => k4 _ _ e) fun _ _ => rfl
  have nC : s1.heap.get? (s2.heap.push { cls := .type "list", data := .seq ([] : List Value).toArray }).objs.size = none := by
    refine old ?_
    cases q : s2.heap.get? (s2.heap.push { cls := .type "list", data := .seq ([] : List Value).toArray }).objs.size with
    | none => rfl
    | some o => have := Heap.lt_size q; rw [Heap.size_push] at this; exact absurd (Nat.lt_of_succ_lt this) (Nat.lt_irrefl _)
  have hNs : h4.Ns (s2.heap.push { cls := .type "list", data := .seq ([] : List Value).toArray }).objs.size (fun _ => none) := hns
  generalize hCe : (s2.heap.push { cls := .type "list", data := .seq ([] : List Value).toArray }).objs.size = C at hNs nC
  have sepC : ∀ i, setS σ1 acc (.list []) i ≠ none → setL ι1 acc s2.heap.objs.size i ≠ C := fun i z q => by
    obtain ⟨o, _, _, ro⟩ := H3.live z
    obtain ⟨ob, hob⟩ := ro.some
    have := Heap.lt_size hob
    rw [q, ← hCe] at this
    exact Nat.lt_irrefl _ this
  have B := X1.block (scope := scope) (C := C) H4 ((e2.trans e3).trans e4) hf hc (fun b o e => k4 _ _ (k3 _ _ (k2 _ _ e))) hNs (newG nC) sepC
  have acA : setL ι1 acc s2.heap.objs.size acc = s2.heap.objs.size := by simp [setL]
  have nIt : frz σ1 ι1 s1.heap it = none := newG n2
  have core : ∀ (s4 : Shared), s4.heap = h4 → s4.os = s2.os → s4.gens = s2.gens → codeAny (model W.prog W.w) A (.compLoop (.ListComp elt (⟨target, iter, ifs, 0⟩ :: gs) scope pos) 0 (.ref it) (.ref s2.heap.objs.size) (compFx F scope C).env)
      (compPost (model W.prog W.w) A (fun _ _ => False) how Z (.ref s2.heap.objs.size) C) s4 := fun s4 hs4 ho4 hg4 => by
    subst hs4
    have loop := lp C (frz σ1 ι1 s1.heap) (setL ι1 acc s2.heap.objs.size) s4 it (ho4 ▸ hg4 ▸ B) nIt y4
    rw [acA] at loop
    refine codeAny_mono loop fun rr s' ⟨st', ι', e, X5, e5, hl, q⟩ => ?_
    subst e
    have ext := ((e2.trans e3).trans e4).trans e5
    have X6 : Ok W F G ⟨Γ1, st'.σ⟩ ι' s'.heap s'.os s'.gens := X1.after (G' := frz σ1 ι1 s1.heap) (fun _ _ e => e) X5.hp ext
    have rA : Rep s'.heap st'.σ ι' (.ref acc) (.ref s2.heap.objs.size) := by
      have := (e5.ids acc (by simp [setS])).2
      rw [acA] at this
      rw [← this]; exact .ref acc hl
    obtain ⟨m, hm, _⟩ := X5.fm.ns
    have hC : (compFx F scope C).env.locals = C := rfl
    have ap : Apart F G st'.σ ι' s'.heap C := by
      refine ⟨?_, fun q => ?_, X5.fm.sep, fun v ⟨o, ho, hd⟩ => ?_, m, hm⟩
      · cases z : G C with
        | none => rfl
        | some o => have := X1.hp.keep C o z; rw [nC] at this; cases this
      · obtain ⟨m', ⟨o, _, _, ho, _⟩, _⟩ := X1.fm.ns
        rw [← q, nC] at ho; cases ho
      · obtain ⟨o', es, ep, ho', hd', _⟩ := hm
        rw [hC, ho] at ho'; cases ho'; rw [hd] at hd'; cases hd'
    have B2 := fini C _ s' _ _ X6 (e1.trans ext) rA q ap
    unfold Behind at B2
    unfold compPost
    cases how <;> exact B2
  have heq : ∀ (q : C = C), True := fun _ => trivial
  subst hCe
  exact codeAny_compStart_list (core _ rfl rfl rfl) (iter_again hh y4 (core _ rfl rfl rfl))

/-- a comprehension as a value -/
theorem Ev.comp {elt target iter : Expr} {ifs : List Expr} {gs : List Comprehension} {scope : Scope} {pos : Pos} (hh : A.handled = none) (acc : Nat) {Q : V → St → Prop}
    (T : Ev W F A iter st fun v st1 => st1.σ acc = none ∧ ∃ vs, IterOf v st1 vs ∧ ∀ C, Lp W F A scope C (.ListComp elt (⟨target, iter, ifs, 0⟩ :: gs) scope pos) acc v ⟨compΓ scope st1.Γ, setS st1.σ acc (.list [])⟩ fun σ' => σ' acc ≠ none ∧ Q (.ref acc) ⟨st1.Γ, σ'⟩)
    (hf : okFree F.env scope.names = true := by rfl) (hc : okComp scope.names = true := by rfl) (hkind : scope.kind = .function := by rfl)
    (hs : ∀ x, foldedSetIterable iter F.env x = pure x := by intro _; rfl) : Ev W F A (.ListComp elt (⟨target, iter, ifs, 0⟩ :: gs) scope pos) st Q := fun G ι s X => by
  rw [eval_ListComp]
  refine comp_block (how := none) hh acc hf hc hkind T hs X fun C u s' st' ι' X' e' r q ap => ?_
  obtain ⟨m, hm⟩ := ap.ns
  refine ⟨m, hm, fun h' hs' => ?_⟩
  obtain ⟨Γ', σ'⟩ := st'
  obtain ⟨o, es, ep, ho, hd, _⟩ := hm
  obtain ⟨H, E2⟩ := X'.hp.turn hs'.extBut (fun ob hob hT => by
    rw [ho] at hob; cases hob
    rcases hT with ⟨_, _, _, q⟩ | ⟨_, _, q⟩ <;> · rw [hd] at q; cases q) ap.g ap.ours
  exact ⟨_, _, ⟨H, X'.fm.step E2 (fun o e => hs'.extBut _ _ (Ne.symm ap.loc) e) (fun c v ⟨oc, hoc, hdc⟩ => ⟨oc, hs'.extBut _ _ (fun q => ap.cell v (q ▸ ⟨oc, hoc, hdc⟩)) hoc, hdc⟩) X'.fm.sep⟩, e'.trans E2, _, r.ext E2, q⟩

theorem Ok.pinAp {G : Frz} {ι : Loc} {h : Heap} {C : Addr} {ob : Obj} (X : Ok W F G st ι h ω γ) (ap : Apart F G st.σ ι h C) (ho : h.get? C = some ob) : Ok W F (pinG G C ob) st ι h ω γ := by
  have ne : ∀ b, G b = none → b ≠ C → pinG G C ob b = none := fun b e n => by simp [pinG, n, e]
  refine ⟨⟨fun b o e => ?_, fun b o e => ?_, fun i o e => ⟨ne _ (X.hp.objs i o e).1 (ap.ours i (by rw [e]; exact fun z => by cases z)), (X.hp.objs i o e).2⟩, X.hp.inj, X.hp.fin, X.hp.same⟩, ⟨ne _ X.fm.fresh (Ne.symm ap.loc), X.fm.ns, X.fm.cell, X.fm.sep, fun ow x c hk hc => ?_⟩⟩
  · by_cases q : b = C
    · subst q
      have := X.hp.base b o e
      rw [ap.g] at this; cases this
    · simp only [pinG, if_neg q]; exact X.hp.base b o e
  · by_cases q : b = C
    · subst q; simp only [pinG, if_true, Option.some.injEq] at e; subst e; exact ho
    · simp only [pinG, if_neg q] at e; exact X.hp.keep b o e
  · obtain ⟨gc, ⟨v, hcl⟩, un⟩ := X.fm.ownc ow x c hk hc
    exact ⟨ne _ gc fun q => ap.cell v (q ▸ hcl), ⟨v, hcl⟩, un⟩

/-- `x = [.. for ..]` where the stores are exchanged -/
theorem Ex.assignComp {x px p} {elt target iter : Expr} {ifs : List Expr} {gs : List Comprehension} {scope : Scope} {pos : Pos} (hh : A.handled = none) (acc : Nat) {Q : Fl → St → Prop}
    (T : Ev W F A iter st fun v st1 => st1.σ acc = none ∧ ∃ vs, IterOf v st1 vs ∧ ∀ C, Lp W F A scope C (.ListComp elt (⟨target, iter, ifs, 0⟩ :: gs) scope pos) acc v ⟨compΓ scope st1.Γ, setS st1.σ acc (.list [])⟩ fun σ' => σ' acc ≠ none ∧ As W F A (.Name x px) (.ref acc) ⟨st1.Γ, σ'⟩ (Q .next))
    (hsw : swapsWith (.ListComp elt (⟨target, iter, ifs, 0⟩ :: gs) scope pos) (some (.Name x px)) p.line F.env = pure true := by rfl)
    (hf : okFree F.env scope.names = true := by rfl) (hc : okComp scope.names = true := by rfl) (hkind : scope.kind = .function := by rfl)
    (hs : ∀ x, foldedSetIterable iter F.env x = pure x := by intro _; rfl) : Ex W F A (.Assign [.Name x px] (.ListComp elt (⟨target, iter, ifs, 0⟩ :: gs) scope pos) p) st Q := fun G ι s X => by
  rw [exec_Assign_Name_used x px _ p hsw]
  refine wpAny_bind (wpAny_standAt (wpAny_bind ?_))
  show wpAny _ _ (comprehension _ scope F.env _ (newList []) _ (eval iter F.env) (some (PySem.assign (.Name x px) F.env)) >>= fun _ => pure ()) _ _ _
  refine wpAny_bind ?_
  refine comp_block (Q := fun v st' => v = .ref acc ∧ As W F A (.Name x px) (.ref acc) st' (Q .next)) (how := some (PySem.assign (.Name x px) F.env)) hh acc hf hc hkind (T.mono fun v st1 ⟨a, vs, b, lp⟩ => ⟨a, vs, b, fun C G ι s it X1 g y => codeAny_mono (lp C G ι s it X1 g y) fun r s' ⟨st', ι', e, X2, e2, n, q⟩ => ⟨st', ι', e, X2, e2, n, rfl, q⟩⟩) hs X fun C u s' st' ι' X' e' r q ap => ?_
  obtain ⟨m, o, es, ep, ho, hns⟩ := ap.ns
  have P := X'.pinAp ap ho
  refine wpAny_mono (q.2 _ ι' s' u P r) (fun _ s2 ⟨st2, ι2, X2, e2, q2⟩ => ?_) fun _ _ z => z
  obtain ⟨X3, h3⟩ := X2.unpinRec ap.g X.hp.base
  obtain ⟨hd, hr⟩ := hns
  refine ⟨m, ⟨o, es, ep, h3, hd, hr⟩, fun h' hs' => ?_⟩
  obtain ⟨Γ2, σ2⟩ := st2
  have gC : pinG G C o C ≠ none := by simp [pinG]
  have loc : F.env.locals ≠ C := fun q => gC (q ▸ X2.fm.fresh)
  have ours : ∀ i, σ2 i ≠ none → ι2 i ≠ C := fun i z q => by
    obtain ⟨_, _, g, _⟩ := X2.hp.live z
    rw [q] at g; exact gC g
  obtain ⟨H, E2⟩ := X3.hp.turn hs'.extBut (fun ob hob hT => by
    rw [h3] at hob; cases hob
    rcases hT with ⟨_, _, _, q⟩ | ⟨_, _, q⟩ <;> · rw [hd] at q; cases q) ap.g ours
  refine wpAny_pure (wpAny_pure ⟨_, _, ⟨H, X3.fm.step E2 (fun o e => hs'.extBut _ _ loc e) (fun c v ⟨oc, hoc, hdc⟩ => ⟨oc, hs'.extBut _ _ (fun q => ?_) hoc, hdc⟩) X3.fm.sep⟩, (e'.trans e2).trans E2, _, .next, q2⟩)
  rw [q, h3] at hoc; cases hoc; rw [hd] at hdc; cases hdc

/- the loops -/
theorem setG_setG {Γ : List (Str × V)} {x : Str} {v w : V} : setG (setG Γ x v) x w = setG Γ x w := by
  simp [setG, List.filter_cons]

/-- one `for`, no test: the items -/
theorem Lp.items {elt iter : Expr} {x : Str} {px pos : Pos} {scope : Scope} {C : Addr} {acc : Nat} {v : V} {vs : List V} {Q : Sto → Prop} (hh : A.handled = none) (hv : IterOf v st vs) (hacc : st.σ acc = some (.list [])) (hz : vs.length ≤ 1000)
    (J : Nat → List V → Sto → Prop) (h0 : J 0 [] st.σ) (hst : ∀ n out σ, J n out σ → ∀ i, v = .ref i → σ i = st.σ i)
    (turn : ∀ n y out σ, vs[n]? = some y → J n out σ → out.length = n → σ acc = some (.list out) → Ev W (compFx F scope C) A elt ⟨setG st.Γ x y, σ⟩ fun w st' => An3 (st'.Γ = setG st.Γ x y) (st'.σ acc = some (.list out)) (J (n + 1) (out ++ [w]) (setS st'.σ acc (.list (out ++ [w])))))
    (fini : ∀ out σ, J vs.length out σ → out.length = vs.length → σ acc = some (.list out) → Q σ)
    (hx : scope.names.lookup x = some .local := by rfl) (hk : scope.kind = .function := by rfl) : Lp W F A scope C (.ListComp elt [⟨.Name x px, iter, [], 0⟩] scope pos) acc v st Q := fun G ι s it X g y => by
  have kx : (compFx F scope C).env.kindOf x = some .local := by
    show (relabel scope F.env).names.lookup x = _
    rw [relabel_lookup, hx]; rfl
  refine codeAny_mono (comp_core (acc := acc) (v := v) (vs := vs) hh (compTurn_leaf elt (.Name x px) iter [] scope pos (.ref it) (.ref (ι acc)) (compFx F scope C).env) (fun _ _ => rfl)
    (fun n st' => (st'.Γ = st.Γ ∨ ∃ w, st'.Γ = setG st.Γ x w) ∧ ∃ out, An3 (out.length = n) (st'.σ acc = some (.list out)) (J n out st'.σ)) hv ⟨.inl rfl, [], rfl, hacc, h0⟩ (fun n st' ⟨_, out, _, _, j⟩ => hst n out _ j) (fun n y' st' hy ⟨hΓ, out, hl, ho, j⟩ => ?_) X (by rw [hacc]; exact fun z => by cases z) rfl g y) fun r s' ⟨st', ι', e, X', e', _, out, hl, ho, j⟩ => ⟨st', ι', e, X', e', fini out _ j hl ho⟩
  have eΓ : setG st'.Γ x y' = setG st.Γ x y' := by
    rcases hΓ with e | ⟨w, e⟩ <;> rw [e]
    exact setG_setG
  refine As.local (hk := kx) (hf := hk) ?_
  rw [eΓ]
  refine tests_none (Q := fun ok st3 => if ok = true then _ else _) ?_
  rw [if_pos rfl]
  refine ActF.of_act (Act.leaf ((turn n y' out st'.σ hy j hl ho).mono fun w st4 ⟨g4, o4, j4⟩ => ⟨out, o4, ?_, .inr ⟨y', g4⟩, out ++ [w], by simp [hl], setS_live, j4⟩) (by dsimp only; rw [ho]; exact fun z => by cases z))
  have : n < vs.length := by
    rcases Nat.lt_or_ge n vs.length with z | z
    · exact z
    · rw [List.getElem?_eq_none z] at hy; cases hy
  exact o35 hz hl this
/-- one `for` with a test -/
theorem Lp.filter {elt iter c : Expr} {x : Str} {px pos : Pos} {scope : Scope} {C : Addr} {acc : Nat} {v : V} {vs : List V} {Q : Sto → Prop} (hh : A.handled = none) (hv : IterOf v st vs) (hacc : st.σ acc = some (.list [])) (hz : vs.length ≤ 1000)
    (J : Nat → List V → Sto → Prop) (h0 : J 0 [] st.σ) (hst : ∀ n out σ, J n out σ → ∀ i, v = .ref i → σ i = st.σ i)
    (turn : ∀ n y out σ, vs[n]? = some y → J n out σ → out.length ≤ n → σ acc = some (.list out) → Is W (compFx F scope C) A c ⟨setG st.Γ x y, σ⟩ fun b st2 => st2.Γ = setG st.Γ x y ∧ st2.σ acc = some (.list out) ∧ if b = true then Ev W (compFx F scope C) A elt ⟨setG st.Γ x y, st2.σ⟩ fun w st' => An3 (st'.Γ = setG st.Γ x y) (st'.σ acc = some (.list out)) (J (n + 1) (out ++ [w]) (setS st'.σ acc (.list (out ++ [w]))))
      else J (n + 1) out st2.σ)
    (fini : ∀ out σ, J vs.length out σ → out.length ≤ vs.length → σ acc = some (.list out) → Q σ)
    (hx : scope.names.lookup x = some .local := by rfl) (hk : scope.kind = .function := by rfl) : Lp W F A scope C (.ListComp elt [⟨.Name x px, iter, [c], 0⟩] scope pos) acc v st Q := fun G ι s it X g y => by
  have kx : (compFx F scope C).env.kindOf x = some .local := by
    show (relabel scope F.env).names.lookup x = _
    rw [relabel_lookup, hx]; rfl
  refine codeAny_mono (comp_core (acc := acc) (v := v) (vs := vs) hh (compTurn_leaf elt (.Name x px) iter [c] scope pos (.ref it) (.ref (ι acc)) (compFx F scope C).env) (fun _ _ => rfl)
    (fun n st' => (st'.Γ = st.Γ ∨ ∃ w, st'.Γ = setG st.Γ x w) ∧ ∃ out, An3 (out.length ≤ n) (st'.σ acc = some (.list out)) (J n out st'.σ)) hv ⟨.inl rfl, [], Nat.le_refl _, hacc, h0⟩ (fun n st' ⟨_, out, _, _, j⟩ => hst n out _ j) (fun n y' st' hy ⟨hΓ, out, hl, ho, j⟩ => ?_) X (by rw [hacc]; exact fun z => by cases z) rfl g y) fun r s' ⟨st', ι', e, X', e', _, out, hl, ho, j⟩ => ⟨st', ι', e, X', e', fini out _ j hl ho⟩
  have eΓ : setG st'.Γ x y' = setG st.Γ x y' := by
    rcases hΓ with e | ⟨w, e⟩ <;> rw [e]
    exact setG_setG
  refine As.local (hk := kx) (hf := hk) ?_
  rw [eΓ]
  refine tests_one (Q := fun ok st3 => if ok = true then _ else _) ((turn n y' out st'.σ hy j hl ho).mono fun b st2 ⟨g2, o2, q⟩ => ?_)
  obtain ⟨Γ2, σ2⟩ := st2
  dsimp only at g2
  subst g2
  cases b with
  | false => exact ⟨.inr ⟨y', rfl⟩, out, Nat.le_succ_of_le hl, o2, by simpa using q⟩
  | true =>
    rw [if_pos rfl] at q ⊢
    refine ActF.of_act (Act.leaf (q.mono fun w st4 ⟨g4, o4, j4⟩ => ⟨out, o4, ?_, .inr ⟨y', g4⟩, out ++ [w], by simp; exact hl, setS_live, j4⟩) (by dsimp only at o2 ⊢; rw [o2]; exact fun z => by cases z))
    have : n < vs.length := by
      rcases Nat.lt_or_ge n vs.length with z | z
      · exact z
      · rw [List.getElem?_eq_none z] at hy; cases hy
    exact o36 hz hl this
end
end Mine

open PySem PySem.W PyProof.Rows PySem.SeqAt PySem.Calls
set_option Elab.async false
set_option maxRecDepth 100000
set_option linter.unusedVariables false
namespace Mine

section
variable {W : Wd} {F : Fx} {A : Around} {st : St} {G : Frz} {ι : Loc}

theorem draw_all {v : V} {vs : List V} {it : Addr} (hv : IterOf v st vs) (git : G it = none) : ∀ (k n : Nat) (s : Shared) (Z : List Value → Shared → Prop), k + n = vs.length → Ok W F G st ι s.heap s.os s.gens → ItAt W s.heap st.σ ι it n v →
    (∀ us s', Ok W F G st ι s'.heap s'.os s'.gens → Ext s.heap st.σ ι s'.heap st.σ ι → ItAt W s'.heap st.σ ι it vs.length v → Reps s'.heap st.σ ι (vs.drop n) us → Z us s') → wpAny (model W.prog W.w) A (draw (.ref it) k) Z (fun _ _ => False) s
  | 0, n, s, Z, e, X, y, h => by
    have : n = vs.length := by exact o37 e
    subst this
    exact wpAny_pure (h [] s X .rfl' y (by simp; exact .nil))
  | k + 1, n, s, Z, e, X, y, h => by
    have hn : n < vs.length := by exact o38 e
    have hx : vs[n]? = some vs[n] := by simp [hn]
    refine wpAny_bind (iter_item X hv hx y git fun u s1 X1 e1 y1 r1 => ?_)
    dsimp only
    refine wpAny_bind (wpAny_holding (draw_all hv git k (n + 1) s1 _ (by exact o39 e) X1 y1 fun us s2 X2 e2 y2 rs => ?_))
    refine wpAny_pure (h (u :: us) s2 X2 (e1.trans e2) y2 ?_)
    rw [List.drop_eq_getElem_cons hn]
    exact .cons (r1.ext e2) rs

theorem notIterable {v : V} {vs : List V} {s : Shared} {u : Value} {E : Value → Shared → Prop} {Z : Bool → Shared → Prop} (X : Ok W F G st ι s.heap s.os s.gens) (hv : IterOf v st vs) (r : Rep s.heap st.σ ι v u) (z : Z false s) (hd : (∃ l, v = .tup l) ∨ ∃ i, v = .ref i ∧ st.σ i = some (.list vs)) : wpAny (model W.prog W.w) A (notIterableAtAll u) Z E s := by
  unfold notIterableAtAll
  rcases hd with ⟨l, rfl⟩ | ⟨i, rfl, hi⟩
  · obtain ⟨a, us, n, rfl, ho, rs⟩ := r.tupI
    exact wpAny_bind (wpAny_specialOf (T := "tuple") ⟨_, ho, rfl⟩ PySem.F.slot_tuple_iter.lookup (wpAny_pure z))
  · cases r using Rep.refE
    obtain ⟨us, n, hl, rs⟩ := listAt X.hp hi
    exact wpAny_bind (wpAny_specialOf hl.isList.typeIs PySem.slot_list_iter.lookup (wpAny_pure z))

theorem unpack_all {v : V} {vs : List V} {s : Shared} {u : Value} {n : Nat} {Z : List Value → Shared → Prop} (hh : A.handled = none) (X : Ok W F G st ι s.heap s.os s.gens) (hv : IterOf v st vs) (hd : (∃ l, v = .tup l) ∨ ∃ i, v = .ref i ∧ st.σ i = some (.list vs)) (r : Rep s.heap st.σ ι v u) (hn : n = vs.length)
    (h : ∀ us s', Ok W F G st ι s'.heap s'.os s'.gens → Ext s.heap st.σ ι s'.heap st.σ ι → Reps s'.heap st.σ ι vs us → Z us s') : wpAny (model W.prog W.w) A (unpackItems u n none) Z (fun _ _ => False) s := by
  unfold unpackItems
  refine wpAny_bind (notIterable X hv r ?_ hd)
  rw [if_neg (by decide)]
  refine wpAny_bind (wpAny_holding (iter_start X hv r fun it s1 _ _ X1 e1 git y => ?_))
  dsimp only
  refine wpAny_bind (wpAny_holding (draw_all hv git n 0 s1 _ (by omega) X1 y fun us s2 X2 e2 y2 rs => ?_))
  have hl := rs.length
  rw [List.drop_zero] at rs hl
  rw [if_neg (by exact o40 hn hl)]
  refine wpAny_bind (wpAny_holding (iter_end hh X2 hv y2 git fun s3 X3 e3 => ?_))
  rw [if_neg (by decide)]
  exact wpAny_pure (h us s3 X3 ((e1.trans e2).trans e3) (rs.ext e3))

def AsEach (W : Wd) (F : Fx) (A : Around) : List Expr → List V → St → (St → Prop) → Prop
  | [], [], st, Q => Q st
  | e :: es, v :: vs, st, Q => As W F A e v st fun st' => AsEach W F A es vs st' Q
  | _, _, _, _ => False
theorem assignEach_cons {e : Expr} {es : List Expr} {env : Env} (h : notStar e = true) : assignEach (e :: es) env = (false, assign e env) :: assignEach es env := by
  cases e <;> first | rfl | cases h
theorem asEach_run : ∀ (es : List Expr) (vs : List V) (st : St) (ι : Loc) (s : Shared) (us : List Value) (Q : St → Prop), es.all notStar = true → AsEach W F A es vs st Q → Ok W F G st ι s.heap s.os s.gens → Reps s.heap st.σ ι vs us →
    wpAny (model W.prog W.w) A (assignInOrder ((assignEach es F.env).map (·.2)) us) (fun _ s' => Po W F G s.heap st.σ ι s' fun _ st' _ => Q st') (fun _ _ => False) s
  | [], [], st, ι, s, us, Q, _, q, X, r => by cases r; exact wpAny_pure ⟨_, _, X, .rfl', q⟩
  | [], _ :: _, _, _, _, _, _, _, q, _, _ => q.elim
  | _ :: _, [], _, _, _, _, _, _, q, _, _ => q.elim
  | e :: es, v :: vs, st, ι, s, us, Q, hs, q, X, r => by
    rw [List.all_cons, Bool.and_eq_true] at hs
    cases r with | cons r1 r2 =>
    rw [assignEach_cons hs.1]
    refine wpAny_bind (wpAny_holding (wpAny_mono (q G ι s _ X r1) (fun _ s1 ⟨st1, ι1, X1, e1, q1⟩ => ?_) fun _ _ z => z))
    exact wpAny_mono (asEach_run es vs st1 ι1 s1 _ Q hs.2 q1 X1 (r2.ext e1)) (fun _ s2 ⟨st2, ι2, X2, e2, q2⟩ => ⟨_, _, X2, e1.trans e2, q2⟩) fun _ _ z => z
theorem noStar_find {es : List Expr} {env : Env} (h : es.all notStar = true) : (assignEach es env).findIdx? (·.1) = none := by
  induction es with
  | nil => rfl
  | cons e es ih =>
    rw [List.all_cons, Bool.and_eq_true] at h
    rw [assignEach_cons h.1, List.findIdx?_cons]
    simp [ih h.2]
theorem assignEach_length {es : List Expr} {env : Env} (h : es.all notStar = true) : (assignEach es env).length = es.length := by
  induction es with
  | nil => rfl
  | cons e es ih =>
    rw [List.all_cons, Bool.and_eq_true] at h
    rw [assignEach_cons h.1, List.length_cons, ih h.2, List.length_cons]

/-- `a, b = v` -/
theorem As.tuple {es k p v vs Q} (hh : A.handled = none) (hv : IterOf v st vs) (hd : (∃ l, v = .tup l) ∨ ∃ i, v = .ref i ∧ st.σ i = some (.list vs)) (hl : es.length = vs.length) (T : AsEach W F A es vs st Q) (hs : es.all notStar = true := by rfl) : As W F A (.Tuple es k p) v st Q := fun G ι s u X r => by
  rw [show assign (.Tuple es k p) F.env u = _ from arm_assign_Tuple _ _ _ _ _]
  refine wpAny_bind (wpAny_standAt ?_)
  unfold unpack
  rw [noStar_find hs, assignEach_length hs]
  refine wpAny_bind (wpAny_holding (unpack_all hh X hv hd r hl fun us s1 X1 e1 rs => ?_))
  exact wpAny_mono (asEach_run es vs st ι s1 us Q hs T X1 rs) (fun _ s2 ⟨st2, ι2, X2, e2, q2⟩ => ⟨_, _, X2, e1.trans e2, q2⟩) fun _ _ z => z

theorem bindLocal {x v} {Q : St → Prop} {s : Shared} {u : Value} (X : Ok W F G st ι s.heap s.os s.gens) (r : Rep s.heap st.σ ι v u) (q : Q ⟨setG st.Γ x v, st.σ⟩) (hk : F.env.kindOf x = some .local) (hf : F.env.scope.kind = .function) :
    wpAny (model W.prog W.w) A (bindName F.env x u) (fun _ s' => Po W F G s.heap st.σ ι s' fun _ st' _ => Q st') (fun _ _ => False) s := by
  obtain ⟨m, hm, _⟩ := X.fm.ns
  refine wpAny_bind (wpAny_holding (wpAny_point (wpAny_bind (wpAny_storeName_local hk hm (fun h' hn hs => wpAny_point ?_) ?_))))
  · obtain ⟨X', e⟩ := Ok.local X hk hs hm hn r
    exact ⟨_, ι, X', e, q⟩
  · show (F.env.scope.kind == .class || (F.env.scope.kind == .module && _)) = false
    rw [hf]; rfl
/-- the exchanged stores of `a, b = (x, y)` -/
theorem Ex.swap2 {es k p' e p Q} {n1 n2 : Str} (hh : A.handled = none) (T : Ev W F A e st fun v st' => Sm2 fun x y => v = .tup [x, y] ∧ Q .next ⟨setG (setG st'.Γ n2 y) n1 x, st'.σ⟩)
    (hw : swappedStores [.Tuple es k p'] e F.env = pure (some [n1, n2]) := by rfl) (hs : swapsWith e (some (.Tuple es k p')) p.line F.env = pure false := by rfl)
    (h1 : F.env.kindOf n1 = some .local := by rfl) (h2 : F.env.kindOf n2 = some .local := by rfl) (hf : F.env.scope.kind = .function := by rfl) : Ex W F A (.Assign [.Tuple es k p'] e p) st Q := fun G ι s X => by
  rw [show exec (.Assign [.Tuple es k p'] e p) F.env = _ from arm_exec_Assign _ _ _ _]
  refine wpAny_bind (wpAny_standAt (wpAny_bind ?_))
  show wpAny _ _ (swapsWith e (some (.Tuple es k p')) p.line F.env) _ _ _
  rw [hs]
  refine wpAny_pure ?_
  refine wpAny_bind (T.use X fun u s1 st1 ι1 X1 e1 ⟨v, r, x, y, hv, q⟩ => ?_)
  subst hv
  rw [hw]
  refine wpAny_bind (wpAny_pure ?_)
  refine wpAny_bind (wpAny_rule (wpAny_bind (unpack_all (v := .tup [x, y]) (vs := [x, y]) hh X1 (show IterOf (.tup [x, y]) st1 [x, y] from rfl) (.inl ⟨_, rfl⟩) r rfl fun us s2 X2 e2 rs => ?_)))
  refine rs.on2 fun ux uy rx ry => ?_
  show wpAny _ _ (assignInOrder [bindName F.env n2, bindName F.env n1] [uy, ux] >>= _) _ _ _
  refine wpAny_bind (wpAny_bind (wpAny_holding ?_))
  refine wpAny_mono (bindLocal (Q := fun st' => st' = ⟨setG st1.Γ n2 y, st1.σ⟩) X2 ry rfl h2 hf) (fun _ s3 ⟨st3, ι3, X3, e3, q3⟩ => ?_) fun _ _ z => z
  subst q3
  refine wpAny_bind (wpAny_holding ?_)
  refine wpAny_mono (bindLocal (Q := fun st' => st' = ⟨setG (setG st1.Γ n2 y) n1 x, st1.σ⟩) X3 (rx.ext e3) rfl h1 hf) (fun _ s4 ⟨st4, ι4, X4, e4, q4⟩ => ?_) fun _ _ z => z
  subst q4
  exact wpAny_pure (wpAny_pure ⟨_, _, X4, ((e1.trans e2).trans e3).trans e4, _, .next, q⟩)
end
end Mine

open PySem PySem.W PyProof.Rows PySem.SeqAt PySem.Calls
set_option Elab.async false
set_option maxRecDepth 100000
set_option linter.unusedVariables false
namespace Mine

mutual
def V.refs : V → List Nat
  | .ref i => [i]
  | .tup l => V.refsL l
  | _ => []
def V.refsL : List V → List Nat
  | [] => []
  | v :: r => V.refs v ++ V.refsL r
end
def AObj.refs : AObj → List Nat
  | .list vs => V.refsL vs
  | .idict kvs _ => V.refsL (kvs.map (·.2))
  | .sdict kvs => V.refsL (kvs.map (·.2))
  | .tdict kvs => V.refsL (kvs.map (·.2))
  | .inst _ d => d.toList
def Closed (σ : Sto) : Prop := ∀ i o, σ i = some o → ∀ j ∈ o.refs, σ j ≠ Option.none

theorem Rep.restrict {h σ ι σ'} {v u} (r : Rep h σ ι v u) : (∀ j ∈ v.refs, σ' j ≠ Option.none) → Rep h σ' ι v u :=
  Rep.rec (motive_1 := fun v u _ => (∀ j ∈ v.refs, σ' j ≠ Option.none) → Rep h σ' ι v u) (motive_2 := fun v u _ => (∀ j ∈ V.refsL v, σ' j ≠ Option.none) → Reps h σ' ι v u)
    (fun _ => .none) (fun b _ => .bool b) (fun i t _ => .int i t) (fun x t _ => .str x t) (fun i _ n => .ref i (n i (.head _))) (fun e _ r n => .tup e (r n)) (fun e _ => .rng e) (fun u _ => .opq u) (fun a _ => .base a)
    (fun _ => .nil) (fun _ _ a b n => .cons (a fun j hj => n j (List.mem_append_left _ hj)) (b fun j hj => n j (List.mem_append_right _ hj))) r
theorem Reps.restrict {h σ ι σ'} {v u} (r : Reps h σ ι v u) : (∀ j ∈ V.refsL v, σ' j ≠ Option.none) → Reps h σ' ι v u :=
  r.ind (P := fun v u => (∀ j ∈ V.refsL v, σ' j ≠ Option.none) → Reps h σ' ι v u) (fun _ => .nil) fun a b n => .cons (a.restrict fun j hj => n j (List.mem_append_left _ hj)) (b fun j hj => n j (List.mem_append_right _ hj))
theorem RepK.restrict {κ : Type} {h σ ι σ'} {v u} (r : RepK (κ := κ) h σ ι v u) : (∀ j ∈ V.refsL (v.map (·.2)), σ' j ≠ Option.none) → RepK (κ := κ) h σ' ι v u :=
  RepK.rec (motive := fun (v : List (κ × V)) (u : List (κ × Value)) _ => (∀ j ∈ V.refsL (v.map fun (x : κ × V) => x.2), σ' j ≠ Option.none) → RepK (κ := κ) h σ' ι v u) (fun _ => .nil) (fun a _ b n => .cons (a.restrict fun j hj => n j (List.mem_append_left _ hj)) (b fun j hj => n j (List.mem_append_right _ hj))) r
theorem RepH.restrict {κ : Type} {h σ ι σ'} {v u} (r : RepH (κ := κ) h σ ι v u) : (∀ j ∈ V.refsL (v.map (·.2)), σ' j ≠ Option.none) → RepH (κ := κ) h σ' ι v u :=
  RepH.rec (motive := fun (v : List (κ × V)) (u : List (κ × Addr × Value)) _ => (∀ j ∈ V.refsL (v.map fun (x : κ × V) => x.2), σ' j ≠ Option.none) → RepH (κ := κ) h σ' ι v u) (fun _ => .nil) (fun a _ b n => .cons (a.restrict fun j hj => n j (List.mem_append_left _ hj)) (b fun j hj => n j (List.mem_append_right _ hj))) r
theorem RepO.restrict {prog w h σ ι σ' a o} (r : RepO prog w h σ ι a o) (n : ∀ j ∈ o.refs, σ' j ≠ Option.none) : RepO prog w h σ' ι a o := by
  cases o with
  | list vs => obtain ⟨us, p, rs⟩ := r; exact ⟨us, p, rs.restrict n⟩
  | idict kvs pin => obtain ⟨us, p, rs, q, q2⟩ := r; exact ⟨us, p, rs.restrict n, q, q2⟩
  | sdict kvs => obtain ⟨us, p, rs, q⟩ := r; exact ⟨us, p, rs.restrict n, q⟩
  | tdict kvs => obtain ⟨us, p, rs, q⟩ := r; exact ⟨us, p, rs.restrict n, q⟩
  | inst C d => exact ⟨r.1, fun j e => n j (by subst e; simp [AObj.refs])⟩

theorem Hp.restrict {W G σ' ι h} {σ : Sto} (X : Hp W G σ' ι h ω γ) (sub : ∀ i o, σ i = some o → σ' i = some o) (cl : Closed σ) : Hp W G σ ι h ω γ where
  base := X.base
  keep := X.keep
  objs := fun i o e => ⟨(X.objs i o (sub i o e)).1, (X.objs i o (sub i o e)).2.restrict (cl i o e)⟩
  same := X.same
  inj := fun i j hi hj e => X.inj i j (fun q => by obtain ⟨o, ho⟩ := Option.ne_none_iff_exists'.mp hi; rw [sub i o ho] at q; cases q) (fun q => by obtain ⟨o, ho⟩ := Option.ne_none_iff_exists'.mp hj; rw [sub j o ho] at q; cases q) e
  fin := by
    obtain ⟨N, hN⟩ := X.fin
    refine ⟨N, fun i hi => ?_⟩
    cases q : σ i with
    | none => rfl
    | some o => have := hN i hi; rw [sub i o q] at this; cases this

/- the state's refs are alive (from any heap that bears it) -/
theorem Rep.refsLive {h σ ι} {v u} (r : Rep h σ ι v u) : ∀ j ∈ v.refs, σ j ≠ Option.none :=
  Rep.rec (motive_1 := fun v u _ => ∀ j ∈ v.refs, σ j ≠ Option.none) (motive_2 := fun v u _ => ∀ j ∈ V.refsL v, σ j ≠ Option.none)
    (fun _ h => nomatch h) (fun _ _ h => nomatch h) (fun _ _ _ h => nomatch h) (fun _ _ _ h => nomatch h) (fun i n j hj => List.mem_singleton.mp hj ▸ n) (fun _ _ r => r) (fun _ _ h => nomatch h) (fun _ _ h => nomatch h) (fun _ _ h => nomatch h)
    (fun _ h => nomatch h) (fun _ _ a b j hj => (List.mem_append.mp hj).elim (a j) (b j)) r
theorem Reps.refsLive {h σ ι} {v u} (r : Reps h σ ι v u) : ∀ j ∈ V.refsL v, σ j ≠ Option.none :=
  r.ind (P := fun v u => ∀ j ∈ V.refsL v, σ j ≠ Option.none) (fun _ h => nomatch h) fun a b j hj => (List.mem_append.mp hj).elim (a.refsLive j) (b j)
theorem RepK.refsLive {κ : Type} {h σ ι} {v u} (r : RepK (κ := κ) h σ ι v u) : ∀ j ∈ V.refsL (v.map (·.2)), σ j ≠ Option.none :=
  RepK.rec (motive := fun (v : List (κ × V)) (u : List (κ × Value)) _ => ∀ j ∈ V.refsL (v.map fun (x : κ × V) => x.2), σ j ≠ Option.none) (fun _ h => nomatch h) (fun a _ b j hj => (List.mem_append.mp hj).elim (a.refsLive j) (b j)) r
theorem RepH.refsLive {κ : Type} {h σ ι} {v u} (r : RepH (κ := κ) h σ ι v u) : ∀ j ∈ V.refsL (v.map (·.2)), σ j ≠ Option.none :=
  RepH.rec (motive := fun (v : List (κ × V)) (u : List (κ × Addr × Value)) _ => ∀ j ∈ V.refsL (v.map fun (x : κ × V) => x.2), σ j ≠ Option.none) (fun _ h => nomatch h) (fun a _ b j hj => (List.mem_append.mp hj).elim (a.refsLive j) (b j)) r
theorem Hp.closed {W G σ ι h} (X : Hp W G σ ι h ω γ) : Closed σ := fun i o e j hj => by
  have r := (X.objs i o e).2
  cases o with
  | list vs => obtain ⟨us, p, rs⟩ := r; exact rs.refsLive j hj
  | idict kvs pin => obtain ⟨us, p, rs, q⟩ := r; exact rs.refsLive j hj
  | sdict kvs => obtain ⟨us, p, rs, q⟩ := r; exact rs.refsLive j hj
  | tdict kvs => obtain ⟨us, p, rs, q⟩ := r; exact rs.refsLive j hj
  | inst C d => exact r.2 j (by simpa [AObj.refs] using hj)
/-- nothing of the given store turned: all that the run made may be forgotten -/
theorem Fn.same {W A f vs σ} {P : V → Prop} (T : Fn W A f vs σ fun v σ' => An3 (∀ i, σ i ≠ Option.none → σ' i = σ i) (v.refs = []) (P v)) : Fn W A f vs σ fun v σ' => σ' = σ ∧ P v :=
  fun G ι s us X r => codeAny_mono (T G ι s us X r) fun rr s' ⟨u, v, σ', ι', e, Y, ext, rv, h1, h2, q⟩ =>
    ⟨u, v, σ, ι', e, Y.restrict (fun i o e => by rw [h1 i (by rw [e]; exact fun z => by cases z)]; exact e) X.closed, ⟨ext.tup, fun i z => ⟨z, (ext.ids i z).2⟩⟩, rv.restrict (by rw [h2]; simp), rfl, q⟩

theorem len0 {P : List Value → Prop} (h : P []) (us : List Value) (e : us.length = 0) : P us := List.eq_nil_of_length_eq_zero e ▸ h
theorem lenS {n : Nat} {P : List Value → Prop} (h : ∀ a us, us.length = n → P (a :: us)) (us : List Value) (e : us.length = n + 1) : P us := by
  cases us with
  | nil => cases e
  | cons a us => exact h a us (Nat.succ.inj e)
theorem bind1 {fd : FuncData} {x : Str} (h : ∀ a, bindArgs fd ⟨[a], []⟩ = pure [(x, a)]) : ∀ us : List Value, us.length = [x].length → bindArgs fd ⟨us, []⟩ = pure ([x].zip us) :=
  lenS fun a => len0 (P := fun us => bindArgs fd ⟨a :: us, []⟩ = pure ([x].zip (a :: us))) (h a)
theorem bind2 {fd : FuncData} {x y : Str} (h : ∀ a b, bindArgs fd ⟨[a, b], []⟩ = pure [(x, a), (y, b)]) : ∀ us : List Value, us.length = [x, y].length → bindArgs fd ⟨us, []⟩ = pure ([x, y].zip us) :=
  lenS fun a => lenS fun b => len0 (P := fun us => bindArgs fd ⟨a :: b :: us, []⟩ = pure ([x, y].zip (a :: b :: us))) (h a b)
theorem bind3 {fd : FuncData} {x y z : Str} (h : ∀ a b c, bindArgs fd ⟨[a, b, c], []⟩ = pure [(x, a), (y, b), (z, c)]) : ∀ us : List Value, us.length = [x, y, z].length → bindArgs fd ⟨us, []⟩ = pure ([x, y, z].zip us) :=
  lenS fun a => lenS fun b => lenS fun c => len0 (P := fun us => bindArgs fd ⟨a :: b :: c :: us, []⟩ = pure ([x, y, z].zip (a :: b :: c :: us))) (h a b c)
theorem bind4 {fd : FuncData} {x y z w : Str} (h : ∀ a b c d, bindArgs fd ⟨[a, b, c, d], []⟩ = pure [(x, a), (y, b), (z, c), (w, d)]) : ∀ us : List Value, us.length = [x, y, z, w].length → bindArgs fd ⟨us, []⟩ = pure ([x, y, z, w].zip us) :=
  lenS fun a => lenS fun b => lenS fun c => lenS fun d => len0 (P := fun us => bindArgs fd ⟨a :: b :: c :: d :: us, []⟩ = pure ([x, y, z, w].zip (a :: b :: c :: d :: us))) (h a b c d)

theorem Fn.body {W : Wd} {A : Around} {n : Nat} {f : Addr} {vs : List V} {σ : Sto} {Q : V → Sto → Prop} (names : List Str) {fd : FuncData} {body : List Stmt} {oc : Value} {od : Option Addr} {osl : Array (Option Value)}
    (R : Room A (n + 1)) (ho : W.K.lookup f = some ⟨oc, od, .func fd, osl⟩) (hcd : codeIn W.K fd.code fd.qualname = true)
    (hbody : fd.body = .stmts body) (hgl : fd.globals = mainGlobals) (hcl : fd.closure = []) (hbu : fd.builtins = builtinsNs)
    (hbind : ∀ us : List Value, us.length = names.length → bindArgs fd ⟨us, []⟩ = pure (names.zip us))
    (hlen : vs.length = names.length) (hnd : names.Nodup)
    (hkinds : ∀ n, (names.all fun x => (fd.scope.names.lookup x == some .local) || ((fd.scope.names.lookup x == some .cell) && ((cellsFrom n fd.scope.names []).lookup x).isSome)) = true)
    (hco : fd.scope.isCoroutine = false) (hgen : fd.scope.isGenerator = false) (hk : fd.scope.kind = .function)
    (h : ∀ L A', Room A' n → Exs W ⟨fnEnv fd f L, true⟩ A' body ⟨names.zip vs, σ⟩ (fun fl st' => Q fl.val st'.σ)) : Fn W A (.ref f) vs σ Q :=
  Fn.of_body fd names ho hcd R.depth' hbody hgl hcl hbu hbind hlen hnd hkinds (fun L => h L _ R.deeper) hco hgen hk
end Mine

open PySem PySem.W PyProof.Rows PySem.SeqAt PySem.Calls
set_option Elab.async false
set_option maxRecDepth 100000
set_option linter.unusedVariables false
namespace Mine

section
variable {W : Wd} {F : Fx} {A : Around} {st : St}

theorem Reps.ints {h σ ι} {is : List Int} {us : List Value} (r : Reps h σ ι (is.map V.int) us) : PyProof.Rows.IntsAre us is := by
  induction is generalizing us with
  | nil => cases r; exact .nil
  | cons i is ih => cases r with | cons a r => cases a using Rep.intE; exact .cons i _ (ih r)
theorem Reps.pairs {h σ ι} {is : List Int} {us : List Value} (r : Reps h σ ι (is.map V.int) us) : ∃ xs : List (Int × Tok), us = xs.map (fun p => .int p.1 p.2) ∧ xs.map (·.1) = is := by
  induction is generalizing us with
  | nil => cases r; exact ⟨[], rfl, rfl⟩
  | cons i is ih => cases r with | cons a r =>
    cases a using Rep.intE
    rename_i t
    obtain ⟨xs, e1, e2⟩ := ih r
    exact ⟨(i, t) :: xs, congrArg (List.cons _) e1, congrArg (List.cons _) e2⟩

theorem Bi.range {n : Int} {Q} (q : Q (.rng n) st) : Bi W F A (.type "range") [.int n] st Q := fun G ι s us X r => by
  refine r.on1 fun x1 r1 => ?_
  cases r1 using Rep.intE
  obtain ⟨Γ, σ⟩ := st
  rename_i t
  obtain ⟨X2, e2⟩ := X.grow (h' := s.heap.push { cls := .type "range", data := .fields #[.int 0 s.toks, .int n t, .int 1 (s.toks + 1)] }) fun b o e => Heap.get?_push_of_some _ e
  exact call_range_1 ⟨_, _, X2, e2, _, .rng (Heap.get?_push_size _ rfl), q⟩
theorem Bi.intI {n : Int} {Q} (q : Q (.int n) st) : Bi W F A (.type "int") [.int n] st Q := fun G ι s us X r => by
  refine r.on1 fun x1 r1 => ?_
  cases r1 using Rep.intE
  exact call_int_int ⟨_, _, X, .rfl', _, .int _ _, q⟩
theorem Bi.strI {n : Int} {Q} (hn : n.natAbs.log2 < 1920) (q : ∀ x : Str, Q (.str x) st) : Bi W F A (.type "str") [.int n] st Q := fun G ι s us X r => by
  refine r.on1 fun x1 r1 => ?_
  cases r1 using Rep.intE
  exact P.str_of_int hn ⟨_, _, X, .rfl', _, .str _ _, q _⟩
theorem Gop.str {k : Int} {x : Str} {c : Nat} {Q} (h0 : 0 ≤ k) (hk : k < 1000) (hc : x.cps[k.toNat]? = some c) (q : Q (.str ⟨#[c]⟩) st) : Gop W F A (.str x) (.int k) st Q := fun G ι s uo ui X ro ri => by
  cases ro using Rep.strE; cases ri using Rep.intE
  have hlt : k.toNat < x.cps.size := by
    rcases Nat.lt_or_ge k.toNat x.cps.size with z | z
    · exact z
    · rw [Array.getElem?_eq_none z] at hc; cases hc
  have hl : x.length = x.cps.size := rfl
  refine ⟨"str", _, rfl, PySem.F.slot_str_getitem.lookup, PyProof.Rows.getItem_str (c := c) (by simp; exact o41 h0 hk) ?_ ⟨_, _, X, .rfl', _, .str _ _, q⟩⟩
  unfold seqIndex?
  have h1 : ¬ (k < 0) := by exact o42 h0
  have h2 : k < (x.length : Int) := by exact o43 hlt hl
  simp only [if_neg h1]
  simp [h0, h2, hc]
theorem Bi.isspace {x : Str} {Q} (q : Q (.bool (x.length > 0 && x.cps.all Unicode.isSpace)) st) : Bi W F A (.builtin "str.isspace") [.str x] st Q := fun G ι s us X r => by
  refine r.on1 fun x1 r1 => ?_
  cases r1 using Rep.strE
  exact call_meets (self := .str x _) PySem.F.slot_str_isspace rfl PySem.F.entry_str_isspace (PySem.F.args_str_isspace_1 _) (gives_str_isspace x _).meets ⟨_, _, X, .rfl', _, .bool _, q⟩

theorem Bi.sumL {i : Nat} {is : List Int} {Q} (hh : A.handled = none) (hi : st.σ i = some (.list (is.map .int))) (hz : is.length ≤ 1000) (hb : ∀ x ∈ is, 0 ≤ x ∧ x ≤ 1000000) (q : Q (.int is.sum) st) : Bi W F A (.builtin "sum") [.ref i] st Q := fun G ι s us X r => by
  refine r.on1 fun x1 r1 => ?_
  cases r1 using Rep.refE
  obtain ⟨Γ, σ⟩ := st
  obtain ⟨us, n, hl, rs⟩ := listAt X.hp hi
  obtain ⟨xs, rfl, rfl⟩ := rs.pairs
  have hz' : xs.length ≤ 1000 := by simpa using hz
  have hnum : ∀ j, j < xs.length → 0 ≤ numAt xs.toArray j ∧ numAt xs.toArray j ≤ 1000000 := fun j hj => by
    have : numAt xs.toArray j = xs[j].1 := by simp [numAt, hj]
    rw [this]
    exact hb _ (List.mem_map_of_mem (List.getElem_mem hj))
  have hpre : ∀ j, j ≤ xs.length → 0 ≤ preSum (numAt xs.toArray) j ∧ preSum (numAt xs.toArray) j ≤ 1000000 * j := fun j => by
    induction j with
    | zero => intro _; simp [preSum]
    | succ j ih =>
      intro hj
      have a := ih (by exact o44 hj)
      have b := hnum j (by exact o45 hj)
      simp only [preSum]
      exact o46 a b
  have hsum : preSum (numAt xs.toArray) xs.length = (xs.map (·.1)).sum := by
    have gen : ∀ j, j ≤ xs.length → preSum (numAt xs.toArray) j = ((xs.take j).map (·.1)).sum := fun j => by
      induction j with
      | zero => intro _; simp [preSum]
      | succ j ih =>
        intro hj
        have hj' : j < xs.length := by exact o45 hj
        rw [preSum, ih (by exact o47 hj'), List.take_succ]
        have : numAt xs.toArray j = xs[j].1 := by simp [numAt, hj']
        rw [this]
        simp only [List.map_append, List.sum_append, List.getElem?_eq_getElem hj', Option.toList_some, List.map_cons, List.map_nil, List.sum_cons, List.sum_nil, Int.add_zero]
    rw [gen _ (Nat.le_refl _), List.take_length]
  have hl' : s.heap.IsList (ι i) (intItems xs.toArray) := by
    have := hl.isList
    simpa [intItems] using this
  refine sum_intList hh hl' (fun j hj => ?_) fun h' tk t' hk => ?_
  · have hj' : j < xs.length := by simpa using hj
    have a := hnum j hj'
    have b := hpre (j + 1) (by exact o48 hj')
    exact ⟨⟨by exact o49 a, by exact o50 a⟩, ⟨by exact o51 b, by exact o52 hz' hj' b⟩⟩
  · obtain ⟨X2, e2⟩ := X.grow hk
    refine ⟨_, _, X2, e2, _, .int _ _, ?_⟩
    have : xs.toArray.size = xs.length := by simp
    rw [this, hsum]; exact q
theorem argBest_lt (bt : Nat → Nat → Bool) : ∀ k, argBest bt k ≤ k
  | 0 => Nat.le_refl _
  | k + 1 => by
    unfold argBest
    split
    · exact Nat.le_refl _
    · exact Nat.le_succ_of_le (argBest_lt bt k)
theorem Bi.maxL {i : Nat} {is : List Int} {Q} (hh : A.handled = none) (hi : st.σ i = some (.list (is.map .int))) (hne : is ≠ []) (q : ∀ x ∈ is, Q (.int x) st) : Bi W F A (.builtin "max") [.ref i] st Q := fun G ι s us X r => by
  refine r.on1 fun x1 r1 => ?_
  cases r1 using Rep.refE
  obtain ⟨Γ, σ⟩ := st
  obtain ⟨us, n, hl, rs⟩ := listAt X.hp hi
  obtain ⟨xs, rfl, rfl⟩ := rs.pairs
  have hl' : s.heap.IsList (ι i) (intItems xs.toArray) := by
    have := hl.isList
    simpa [intItems] using this
  have hpos : 0 < xs.length := by
    rcases xs with _ | ⟨a, b⟩
    · simp at hne
    · simp
  refine max_intList hh hl' (by simpa using hpos) fun v h' tk hv hk => ?_
  obtain ⟨X2, e2⟩ := X.grow hk
  generalize hb : argBest _ (xs.toArray.size - 1) = b at hv
  have hlt : b < xs.length := by
    have := argBest_lt (fun i j => decide (numAt xs.toArray i > numAt xs.toArray j)) (xs.toArray.size - 1)
    rw [hb] at this
    simp at this
    exact o53 hpos this
  have : v = .int xs[b].1 xs[b].2 := by
    simp [intItems, hlt] at hv
    exact hv.symm
  subst this
  exact ⟨_, _, X2, e2, _, .int _ _, q _ (List.mem_map_of_mem (List.getElem_mem hlt))⟩

/-- `+` of tuples -/
theorem Bop.addT {vs ws : List V} {Q} (hz : vs.length ≤ 1000) (hy : ws.length ≤ 1000) (q : Q (.tup (vs ++ ws)) st) : Bop W F A .Add (.tup vs) (.tup ws) st Q := Vt.two fun G ι s ua ub X ra rb => by
  obtain ⟨Γ, σ⟩ := st
  have ra' := ra
  have rb' := rb
  obtain ⟨a, us, n, rfl, ha, rs⟩ := ra.tupI
  obtain ⟨b, xs, m, rfl, hb, rx⟩ := rb.tupI
  have h1 := rs.length
  have h2 := rx.length
  rcases us with _ | ⟨u, us⟩
  · have : vs = [] := List.length_eq_zero_iff.mp h1
    subst this
    exact concat_meets ⟨_, ha, rfl⟩ ⟨_, hb, rfl⟩ noFill_tuple_add seq_tuple_add PySem.F.slot_tuple_add PySem.F.entry_tuple_add (PySem.F.args_tuple_add_2 _ _) (AutoSeq1.tuple___add___tuple_tuple_0 a _ n b _ m rfl) ⟨ha, hb, ⟨_, _, X, .rfl', _, rb', q⟩⟩
  rcases xs with _ | ⟨x, xs⟩
  · have : ws = [] := List.length_eq_zero_iff.mp h2
    subst this
    exact concat_meets ⟨_, ha, rfl⟩ ⟨_, hb, rfl⟩ noFill_tuple_add seq_tuple_add PySem.F.slot_tuple_add PySem.F.entry_tuple_add (PySem.F.args_tuple_add_2 _ _) (AutoSeq1.tuple___add___tuple_tuple_1 a _ n b _ m (by simp) rfl) ⟨ha, hb, ⟨_, _, X, .rfl', _, ra', by simpa using q⟩⟩
  refine P.add_tuple (hsz := by simp only [List.size_toArray, sizeLine_eq]; exact o21 hz hy h1 h2) ha hb (by simp) (by simp) ?_
  obtain ⟨X2, e2⟩ := X.grow (h' := s.heap.push { cls := .type "tuple", data := .seq ((u :: us).toArray ++ (x :: xs).toArray) }) fun b o e => Heap.get?_push_of_some _ e
  refine ⟨_, _, X2, e2, _, .tup (us := (u :: us) ++ (x :: xs)) (n := 0) ?_ ((rs.append rx).ext e2), q⟩
  rw [Heap.get?_push_size _ rfl]
  simp

/- comparisons -/
theorem Cop.neB {a b : Bool} {Q} (q : Q (a != b) st) : Cop W F A .NotEq (.bool a) (.bool b) st Q := Vt.two fun G ι s ua ub X ra rb => by
  cases ra using Rep.boolE; cases rb using Rep.boolE
  exact EqBoolInt.of_rcne (RcNeAt.bool_bool a b) ⟨_, _, X, .rfl', _, .bool _, _, rfl, q⟩
theorem Cop.neS {a b : Str} {Q} (q : Q (a != b) st) : Cop W F A .NotEq (.str a) (.str b) st Q := Vt.two fun G ι s ua ub X ra rb => by
  cases ra using Rep.strE; cases rb using Rep.strE
  exact EqBoolInt.of_rcne (RcNeAt.str_str a _ b _) ⟨_, _, X, .rfl', _, .bool _, _, rfl, q⟩
theorem Cop.eqS {a b : Str} {Q} (q : Q (a == b) st) : Cop W F A .Eq (.str a) (.str b) st Q := Vt.two fun G ι s ua ub X ra rb => by
  cases ra using Rep.strE; cases rb using Rep.strE
  exact EqBoolInt.of_rc (RcAt.str_str a _ b _) ⟨_, _, X, .rfl', _, .bool _, _, rfl, q⟩
theorem Cop.inS {a b : Str} {Q} (q : ∀ c, Q c st) : Cop W F A .In (.str a) (.str b) st Q := Vt.two fun G ι s ua ub X ra rb => by
  cases ra using Rep.strE; cases rb using Rep.strE
  exact P.in_str ⟨_, _, X, .rfl', _, .bool _, _, rfl, q _⟩
theorem Cop.inS' {a b : Str} {Q} (q : Q (!(Builtin.Str.occurrences b a 0 b.length 1).isEmpty) st) : Cop W F A .In (.str a) (.str b) st Q := Vt.two fun G ι s ua ub X ra rb => by
  cases ra using Rep.strE; cases rb using Rep.strE
  exact P.in_str ⟨_, _, X, .rfl', _, .bool _, _, rfl, q⟩
theorem Cop.isNone {Q} (q : Q true st) : Cop W F A .Is .none .none st Q := Vt.two fun G ι s ua ub X ra rb => by
  cases ra using Rep.noneE; cases rb using Rep.noneE
  exact wpAny_is_self rfl ⟨_, _, X, .rfl', _, .bool _, _, rfl, q⟩
theorem Cop.isNoneT {l : List V} {Q} (q : Q false st) : Cop W F A .Is (.tup l) .none st Q := Vt.two fun G ι s ua ub X ra rb => by
  cases rb using Rep.noneE
  obtain ⟨a, us, n, rfl, ha, rs⟩ := ra.tupI
  exact wpAny_is_other rfl (by intro h; cases h) ⟨_, _, X, .rfl', _, .bool _, _, rfl, q⟩
theorem Cop.inL {i : Nat} {k : Int} {is : List Int} {Q} (hi : st.σ i = some (.list (is.map .int))) (q : Q (is.contains k) st) : Cop W F A .In (.int k) (.ref i) st Q := Vt.two fun G ι s ua ub X ra rb => by
  cases ra using Rep.intE; cases rb using Rep.refE
  obtain ⟨us, n, hl, rs⟩ := listAt X.hp hi
  refine in_list_ints hl.isList rs.ints ⟨_, _, X, .rfl', _, .bool _, _, rfl, ?_⟩
  have : is.any (· == k) = is.contains k := by
    rw [Bool.eq_iff_iff]; simp [List.contains_eq_mem]
  rw [this]; exact q
/-- a list against the empty list -/
theorem Cop.eqNil {i j : Nat} {vs : List V} {Q} (hu : A.units < cLine) (hi : st.σ i = some (.list vs)) (hj : st.σ j = some (.list [])) (q : Q vs.isEmpty st) : Cop W F A .Eq (.ref i) (.ref j) st Q := Vt.two fun G ι s ua ub X ra rb => by
  cases ra using Rep.refE; cases rb using Rep.refE
  obtain ⟨us, n, hl, rs⟩ := listAt X.hp hi
  obtain ⟨xs, m, hm, rx⟩ := listAt X.hp hj
  cases rx
  have hlen := rs.length
  rcases us with _ | ⟨u, us⟩
  · have : vs = [] := List.length_eq_zero_iff.mp hlen
    subst this
    exact EqBoolInt.of_rc (RcAt.lists (e := fun _ => true) hl.isList hm.isList rfl hu (fun j h1 _ => absurd h1 (by simp))) ⟨_, _, X, .rfl', _, .bool _, _, rfl, q⟩
  · have : vs.isEmpty = false := by cases vs; simp at hlen; rfl
    rw [this] at q
    exact EqBoolInt.of_rc (RcAt.lists_lengths hl.isList hm.isList (by simp) hu) ⟨_, _, X, .rfl', _, .bool _, _, rfl, q⟩
theorem Cop.neNil {i j : Nat} {vs : List V} {Q} (hu : A.units < cLine) (hi : st.σ i = some (.list vs)) (hj : st.σ j = some (.list [])) (q : Q (!vs.isEmpty) st) : Cop W F A .NotEq (.ref i) (.ref j) st Q := Vt.two fun G ι s ua ub X ra rb => by
  cases ra using Rep.refE; cases rb using Rep.refE
  obtain ⟨us, n, hl, rs⟩ := listAt X.hp hi
  obtain ⟨xs, m, hm, rx⟩ := listAt X.hp hj
  cases rx
  have hlen := rs.length
  rcases us with _ | ⟨u, us⟩
  · have : vs = [] := List.length_eq_zero_iff.mp hlen
    subst this
    exact EqBoolInt.of_rcne (RcNeAt.lists (e := fun _ => true) hl.isList hm.isList rfl hu (fun j h1 _ => absurd h1 (by simp))) ⟨_, _, X, .rfl', _, .bool _, _, rfl, q⟩
  · have : vs.isEmpty = false := by cases vs; simp at hlen; rfl
    rw [this] at q
    exact EqBoolInt.of_rcne (RcNeAt.lists_lengths hl.isList hm.isList (by simp) hu) ⟨_, _, X, .rfl', _, .bool _, _, rfl, q⟩
/-- a tuple against the empty tuple -/
theorem Cop.neNilT {vs : List V} {Q} (hu : A.units < cLine) (q : Q (!vs.isEmpty) st) : Cop W F A .NotEq (.tup vs) (.tup []) st Q := Vt.two fun G ι s ua ub X ra rb => by
  obtain ⟨a, us, n, rfl, ha, rs⟩ := ra.tupI
  obtain ⟨b, xs, m, rfl, hb, rx⟩ := rb.tupI
  cases rx
  have hlen := rs.length
  refine EqBoolInt.of_rcne (RcNeAt.tuples (e := fun _ => true) ⟨_, ha, rfl, n, rfl⟩ ⟨_, hb, rfl, m, rfl⟩ hu (fun j _ h2 => absurd h2 (by simp))) ⟨_, _, X, .rfl', _, .bool _, _, rfl, ?_⟩
  rcases us with _ | ⟨u, us⟩
  · have : vs = [] := List.length_eq_zero_iff.mp hlen
    subst this
    exact q
  · have : vs.isEmpty = false := by cases vs; simp at hlen; rfl
    rw [this] at q
    exact q
/-- two lists of the same numbers -/
theorem Cop.neSameL {i j : Nat} {is : List Int} {Q} (hu : A.units < cLine) (hi : st.σ i = some (.list (is.map .int))) (hj : st.σ j = some (.list (is.map .int))) (q : Q false st) : Cop W F A .NotEq (.ref i) (.ref j) st Q := Vt.two fun G ι s ua ub X ra rb => by
  cases ra using Rep.refE; cases rb using Rep.refE
  obtain ⟨us, n, hl, rs⟩ := listAt X.hp hi
  obtain ⟨xs, m, hm, rx⟩ := listAt X.hp hj
  have h1 := rs.length
  have h2 := rx.length
  obtain ⟨p1, rfl, e1⟩ := rs.pairs
  obtain ⟨p2, rfl, e2⟩ := rx.pairs
  refine EqBoolInt.of_rcne (RcNeAt.lists (e := fun _ => true) hl.isList hm.isList (by simp at h1 h2 ⊢; exact o54 h1 h2) hu (fun j g1 g2 => ?_)) ⟨_, _, X, .rfl', _, .bool _, _, rfl, ?_⟩
  · have g1' : j < p1.length := by simpa using g1
    have g2' : j < p2.length := by simpa using g2
    have e3 : p1[j].1 = p2[j].1 := by
      have a : (p1.map (·.1))[j]? = (p2.map (·.1))[j]? := by rw [e1, e2]
      simpa [g1', g2'] using a
    simp only [List.getElem_toArray, List.getElem_map]
    rw [e3]
    have := EqAt.int_int (A := A.in1) (s := s) p2[j].1 p1[j].2 p2[j].1 p2[j].2
    simpa using this
  · have e : ((List.range (List.map (fun p : Int × Tok => Value.int p.1 p.2) p1).toArray.size).all fun _ => true) = true := List.all_eq_true.mpr fun _ _ => rfl
    rw [e]; exact q
end
end Mine

open PySem PySem.W PyProof.Rows PySem.SeqAt PySem.Calls
set_option Elab.async false
set_option maxRecDepth 100000
set_option linter.unusedVariables false
namespace Mine

section
variable {W : Wd} {F : Fx} {A : Around} {st : St}

/-- `d.setdefault(k, v)`, tuple keys -/
theorem Bi.setdefaultT {i : Nat} {k : List Atom} {kvs : List (List Atom × V)} {v : V} {Q} (hu : A.units + 1 < cLine) (hi : st.σ i = some (.tdict kvs)) (hz : kvs.length ≤ 1000)
    (q : match atV kvs k with | some w => Q w st | none => Q v ⟨st.Γ, setS st.σ i (.tdict (kvs ++ [(k, v)]))⟩) : Bi W F A (.builtin "dict.setdefault") [.ref i, .tup (k.map Atom.V), v] st Q := fun G ι s us X r => by
  refine r.on3 fun x1 x2 x3 r1 r2 r3 => ?_
  cases r1 using Rep.refE
  obtain ⟨Γ, σ⟩ := st
  obtain ⟨a, rfl, ka⟩ := tupIs (prog := W.prog) (w := W.w) r2
  obtain ⟨us, D, rh, n⟩ := tdictAt X.hp hi
  have hl := rh.length
  have D' := D
  obtain ⟨o, es, ep, ho, hc, hd, he, his, hn⟩ := D
  refine wpAny_call_entry PySem.F.slot_dict_setdefault D'.typeIs PySem.F.entry_dict_setdefault ?_ (PySem.F.args_dict_setdefault_3 _ _ _)
  unfold Builtin.«dict.setdefault»
  refine wpAny_bind ?_
  unfold Builtin.Dict.keyAndDefault
  refine wpAny_bind (wpAny_notOrdered_dict D'.typeIs ?_)
  show wpAny _ _ (pure (ι i, Value.ref a, some x3)) _ _ s
  refine wpAny_pure ?_
  show wpAny _ _ (if (ι i == sysModules) = true then _ else (dictSetDefault (ι i) (.ref a) x3 >>= _)) _ _ s
  rw [if_neg (by rw [ne_modules n]; exact Bool.false_ne_true)]
  refine wpAny_bind ?_
  unfold dictSetDefault
  try with_reducible refine wpAny_holding ?_
  refine wpAny_bind ((tupK W.prog W.w).pyHash hu ka (wpAny_bind (wpAny_dictFind_heap (s := { s with toks := s.toks + (tupK W.prog W.w).draws k }) hu ka ho hd he his hn ?_ ?_)))
  · intro hno
    have e0 : atV kvs k = none := by
      cases e : atV kvs k with
      | none => rfl
      | some w =>
        obtain ⟨p, hp, _⟩ := rh.at e
        rw [atKey_none_of_get hno] at hp; cases hp
    rw [e0] at q
    have hnot : k ∉ us.map (·.1) := not_mem_keys_of_get hno
    have hs := Heap.SameBut.update s.heap (ι i) (Obj.mapDictKeys (·.push ⟨(tupK W.prog W.w).hash k, .ref a, x3⟩))
    have D2 : (s.heap.update (ι i) (Obj.mapDictKeys (·.push ⟨(tupK W.prog W.w).hash k, .ref a, x3⟩))).DictOfH (tupK W.prog W.w) (ι i) (us ++ [(k, a, x3)]) := by
      refine ⟨_, _, ep + 1, Heap.get?_update_self _ ho (Obj.isFreed_of_dict (Obj.data_mapDictKeys hd _)), hc.mapDictKeys _, Obj.data_mapDictKeys hd _, ?_, ?_, ?_⟩
      · simp [he, entryOfKey]
      · intro x hx
        rcases List.mem_append.mp hx with hx | hx
        · exact (tupK W.prog W.w).keeps (his x hx) ho hd hs
        · simp only [List.mem_singleton] at hx
          subst hx
          exact (tupK W.prog W.w).keeps ka ho hd hs
      · rw [List.map_append, List.nodup_append]
        refine ⟨hn, by simp, ?_⟩
        intro x hx y hy
        simp only [List.map_cons, List.map_nil, List.mem_singleton] at hy
        subst hy
        exact fun e => hnot (e ▸ hx)
    obtain ⟨X2, e2⟩ := X.set hi hs.extBut (o' := .tdict (kvs ++ [(k, v)])) fun E => ⟨_, D2, (rh.ext E).append (.cons (r3.ext E) .nil), n⟩
    refine wpAny_bind (wpAny_rule ?_)
    refine wpAny_bind (wpAny_updateDictKeys (hz := by have e := size_of_entries he; rw [sizeLine_eq]; exact o55 hz hl e) (s := { s with toks := s.toks + (tupK W.prog W.w).draws k }) ho hd ?_)
    exact wpAny_pure (wpAny_pure ⟨_, rfl, _, _, X2, e2, v, r3.ext e2, q⟩)
  · intro j p hj
    have hp := atKey_of_get hn hj
    have : ∃ w, atV kvs k = some w := by
      cases e : atV kvs k with
      | none => rw [rh.none e] at hp; cases hp
      | some w => exact ⟨w, rfl⟩
    obtain ⟨w, hw⟩ := this
    rw [hw] at q
    obtain ⟨p', hp', rp⟩ := rh.at hw
    rw [hp] at hp'; cases hp'
    dsimp only
    refine wpAny_bind (wpAny_dictEntries (s := { s with toks := s.toks + (tupK W.prog W.w).draws k }) ho hd ?_)
    rw [entry_at he j, hj]
    refine wpAny_bind (wpAny_rule (wpAny_pure (wpAny_pure ⟨_, rfl, _, _, X, .rfl', w, rp, q⟩)))

/-- `sorted(..)` of a list of numbers -/
theorem Bi.sortedL {i j : Nat} {is : List Int} {Q} (hi : st.σ i = some (.list (is.map .int))) (hz : is.length < 64) (hj : st.σ j = none)
    (q : ∀ rs : List Int, rs.Perm is → rs.Pairwise (· ≤ ·) → Q (.ref j) ⟨st.Γ, setS st.σ j (.list (rs.map .int))⟩) : Bi W F A (.builtin "sorted") [.ref i] st Q := fun G ι s us X r => by
  refine r.on1 fun x1 r1 => ?_
  cases r1 using Rep.refE
  obtain ⟨Γ, σ⟩ := st
  obtain ⟨us, n, hl, rs⟩ := listAt X.hp hi
  have hlen := rs.length
  refine sorted_ints hl.isList rs.ints (by simp at hlen; exact o56 hz hlen) fun out ns' a1 a2 a3 => ?_
  obtain ⟨e, he⟩ := sortedAll_at s.heap us out
  have kk : ∀ b o, s.heap.get? b = some o → (sortedAll s.heap us out).get? b = some o := fun b o q => sortedAll_old q
  have fr : s.heap.get? (s.heap.objs.size + 1) = none := by
    cases q : s.heap.get? (s.heap.objs.size + 1) with
    | none => rfl
    | some o => have := Heap.lt_size q; exact absurd (Nat.lt_of_succ_lt this) (Nat.lt_irrefl _)
  have back : ∀ (h : Heap) {us : List Value} {ns : List Int}, PyProof.Rows.IntsAre us ns → ∀ {σ ι}, Reps h σ ι (ns.map .int) us := fun h us ns z => by
    induction z with
    | nil => intro _ _; exact .nil
    | cons n t _ ih => intro _ _; exact .cons (.int n t) ih
  obtain ⟨X2, e2⟩ := X.new (i := j) (a := s.heap.objs.size + 1) (o' := .list (ns'.map .int)) hj fr kk fun E => ⟨out.toList, ⟨e, he⟩, back _ a1⟩
  exact ⟨_, _, X2, e2, _, .newRef, q ns' a2 a3⟩
end
end Mine

open PySem PySem.W PyProof.Rows PySem.SeqAt PySem.Calls
set_option Elab.async false
set_option maxRecDepth 100000
set_option linter.unusedVariables false
namespace Mine

def Γeq (xs : List Str) (Γ1 Γ : List (Str × V)) : Prop := ∀ y, xs.contains y = false → Γ.lookup y = Γ1.lookup y
theorem Γeq.refl {xs Γ} : Γeq xs Γ Γ := fun _ _ => rfl
theorem Γeq.set {xs Γ1 Γ x v} (h : Γeq xs Γ1 Γ) (hx : xs.contains x = true) : Γeq xs Γ1 (setG Γ x v) := fun y hy => by
  have : y ≠ x := fun q => by rw [q, hx] at hy; cases hy
  rw [lookup_setG_ne this]; exact h y hy
theorem Γeq.at {xs Γ1 Γ y v} (h : Γeq xs Γ1 Γ) (e : Γ1.lookup y = some v) (hy : xs.contains y = false := by rfl) : Γ.lookup y = some v := (h y hy).trans e
theorem lkS {Γ : List (Str × V)} {x y : Str} {v w : V} (e : Γ.lookup y = some w) (n : (y == x) = false := by rfl) : (setG Γ x v).lookup y = some w := by
  rw [lookup_setG_ne (by simpa using n)]; exact e

abbrev Node := Str × List Int
abbrev Cho := List (Int × Node)
def nodeV (n : Node) : V := .tup (.str n.1 :: n.2.map .int)
def choV (ch : Cho) : List (Int × V) := ch.map fun p => (p.1, nodeV p.2)
def nodeAt (ch : Cho) (c : Int) : Option Node := (ch.find? fun p => decide (p.1 = c)).map (·.2)
def kidsOf (ch : Cho) (c : Int) : List Int := match nodeAt ch c with | some n => n.2 | none => []
theorem atV_cho (ch : Cho) (c : Int) : atV (choV ch) c = (nodeAt ch c).map nodeV := by
  unfold atV choV nodeAt
  induction ch with
  | nil => rfl
  | cons p r ih =>
    simp only [List.map_cons, List.find?_cons]
    by_cases q : p.1 = c
    · simp [q]
    · simp only [q, decide_false]; exact ih
inductive Rch (ch : Cho) (bs : List Int) : Int → Prop
  | base {x} : x ∈ bs → Rch ch bs x
  | step {c x} : Rch ch bs c → x ∈ kidsOf ch c → Rch ch bs x

/-- what the loop of is_reached still owes -/
def owes (ch : Cho) (S : List Int) : Nat := ((ch.filter fun p => !S.contains p.1).map fun p => p.2.2.length).sum
structure ReachInv (ch : Cho) (bs : List Int) (goal : Int) (S ws : List Int) : Prop where
  sound : ∀ x, x ∈ S ∨ x ∈ ws → Rch ch bs x
  base : ∀ x ∈ bs, x ∈ S ∨ x ∈ ws
  step : ∀ c ∈ S, ∀ x ∈ kidsOf ch c, x ∈ S ∨ x ∈ ws
  goal : goal ∉ S
theorem ReachInv.start {ch bs goal} : ReachInv ch bs goal [] bs :=
  ⟨fun x h => by rcases h with h | h; cases h; exact .base h, fun x h => .inr h, fun c h => by (cases h), by simp⟩
theorem ReachInv.done {ch bs goal S} (I : ReachInv ch bs goal S []) : ¬ Rch ch bs goal := by
  have : ∀ x, Rch ch bs x → x ∈ S := fun x r => by
    induction r with
    | base h => rcases I.base _ h with h | h; exact h; cases h
    | step _ h ih => rcases I.step _ ih _ h with h | h; exact h; cases h
  exact fun r => I.goal (this _ r)
theorem ReachInv.old {ch bs goal S ws c} (I : ReachInv ch bs goal S (ws ++ [c])) (h : c ∈ S) : ReachInv ch bs goal S ws := by
  have m : ∀ x, (x ∈ S ∨ x ∈ ws ++ [c]) → x ∈ S ∨ x ∈ ws := fun x q => by
    rcases q with q | q
    · exact .inl q
    · rcases List.mem_append.mp q with q | q
      · exact .inr q
      · simp at q; subst q; exact .inl h
  exact ⟨fun x q => I.sound x (q.imp id fun z => List.mem_append_left _ z), fun x q => m x (I.base x q), fun d hd x hx => m x (I.step d hd x hx), I.goal⟩
theorem ReachInv.new {ch bs goal S ws c} (I : ReachInv ch bs goal S (ws ++ [c])) (h : c ≠ goal) : ReachInv ch bs goal (S ++ [c]) (ws ++ kidsOf ch c) := by
  have rc := I.sound c (.inr (by simp))
  refine ⟨fun x q => ?_, fun x q => ?_, fun d hd x hx => ?_, by simp [I.goal]; exact fun e => h e.symm⟩
  · simp only [List.mem_append, List.mem_singleton] at q
    rcases q with (q | q) | (q | q)
    · exact I.sound x (.inl q)
    · exact q ▸ rc
    · exact I.sound x (.inr (by simp [q]))
    · exact .step rc q
  · have := I.base x q
    simp only [List.mem_append, List.mem_singleton] at this ⊢
    rcases this with q | q | q <;> simp [q]
  · simp only [List.mem_append, List.mem_singleton] at hd ⊢
    rcases hd with hd | rfl
    · have := I.step d hd x hx
      simp only [List.mem_append, List.mem_singleton] at this
      rcases this with q | q | q <;> simp [q]
    · simp [hx]
theorem owes_le (ch : Cho) (S : List Int) (c : Int) (h : S.contains c = false) : owes ch (S ++ [c]) + (kidsOf ch c).length ≤ owes ch S := by
  unfold owes kidsOf nodeAt
  induction ch with
  | nil => simp
  | cons p r ih =>
    simp only [List.filter_cons, List.find?_cons]
    have hc : (S ++ [c]).contains p.1 = (S.contains p.1 || (p.1 == c)) := by by_cases e : p.1 = c <;> simp [List.contains_eq_mem, List.mem_append, e]
    by_cases q : p.1 = c
    · subst q
      rw [hc]
      simp only [h, beq_self_eq_true, Bool.or_true, Bool.not_true, Bool.false_eq_true, if_false, Bool.not_false, if_true, decide_true, Option.map_some, List.map_cons, List.sum_cons]
      have mono : ∀ r : Cho, ((r.filter fun p_1 => !(S ++ [p.1]).contains p_1.1).map fun p => p.2.2.length).sum ≤ ((r.filter fun p_1 => !S.contains p_1.1).map fun p => p.2.2.length).sum := fun r => by
        induction r with
        | nil => simp
        | cons a b ih2 =>
          simp only [List.filter_cons]
          by_cases z : S.contains a.1 = true
          · have : (S ++ [p.1]).contains a.1 = true := by simp [List.contains_eq_mem] at z ⊢; exact .inl z
            simp only [z, this, Bool.not_true, Bool.false_eq_true, if_false]; exact ih2
          · have z' : S.contains a.1 = false := by simpa using z
            simp only [z', Bool.not_false, if_true, List.map_cons, List.sum_cons]
            split
            · simp only [List.map_cons, List.sum_cons]; exact o57 ih2
            · exact o58 ih2
      have := mono r
      exact o59 this
    · have hb : (p.1 == c) = false := by simpa using q
      rw [hc, hb, Bool.or_false]
      simp only [q, decide_false]
      split
      · simp only [List.map_cons, List.sum_cons]; exact o60 ih
      · exact ih


theorem nodeAt_mem {ch : Cho} (hn : (ch.map (·.1)).Nodup) {p : Int × Node} (hp : p ∈ ch) : nodeAt ch p.1 = some p.2 := by
  unfold nodeAt
  induction ch with
  | nil => cases hp
  | cons a r ih =>
    rw [List.map_cons, List.nodup_cons] at hn
    rw [List.find?_cons]
    rcases List.mem_cons.mp hp with rfl | hp
    · simp
    · have : a.1 ≠ p.1 := fun e => hn.1 (e ▸ List.mem_map_of_mem hp)
      simp only [this, decide_false]
      exact ih hn.2 hp
theorem nodeV_eq (n : Node) : nodeV n = .tup ((Atom.s n.1 :: n.2.map Atom.i).map Atom.V) := by
  simp [nodeV, Atom.V, Function.comp_def]

theorem eqAt_node {A : Around} {s : Shared} {σ ι} {n : Node} {u v : Value} (hu : A.units < cLine) (ru : Rep s.heap σ ι (nodeV n) u) (rv : Rep s.heap σ ι (nodeV n) v) : EqAt A s u v true := fun prog w E Q hQ => by
  rw [nodeV_eq] at ru rv
  obtain ⟨a, rfl, ka⟩ := tupIs (prog := prog) (w := w) ru
  obtain ⟨b, rfl, kb⟩ := tupIs (prog := prog) (w := w) rv
  exact wpAny_eqBool_tuple hu ka kb (by simpa using hQ)
theorem hits_same {A : Around} {s : Shared} {σ ι} {ch : Cho} {kb : List (Int × Value)} (hu : A.units < cLine) (rb : RepK s.heap σ ι (choV ch) kb) (hn : (ch.map (·.1)).Nodup) : ∀ {ch' : Cho} {ka : List (Int × Value)}, (∀ p ∈ ch', p ∈ ch) → RepK s.heap σ ι (choV ch') ka → KeqHits A s kb ka true
  | [], _, _, .nil => .nil
  | p :: ch', _, sub, .cons (u := u) ru r => by
    have e : atV (choV ch) p.1 = some (nodeV p.2) := by rw [atV_cho, nodeAt_mem hn (sub p (by simp))]; rfl
    obtain ⟨y, hy, ry⟩ := rb.at e
    exact .hit hy (eqAt_node hu ru ry) (hits_same hu rb hn (fun q hq => sub q (by simp [hq])) r)

section
variable {W : Wd} {F : Fx} {A : Around} {st : St}
/-- two equal choices -/
theorem Cop.neCho {i j : Nat} {pin pin' : Option Obj} {ch : Cho} {Q} (hu : A.units + 1 < cLine) (hi : st.σ i = some (.idict (choV ch) pin)) (hj : st.σ j = some (.idict (choV ch) pin')) (q : Q false st) : Cop W F A .NotEq (.ref i) (.ref j) st Q := Vt.two fun G ι s ua ub X ra rb => by
  cases ra using Rep.refE; cases rb using Rep.refE
  obtain ⟨ka, Da, r1, n1⟩ := idictAt X.hp hi
  obtain ⟨kb, Db, r2, n2⟩ := idictAt X.hp hj
  have hn : (ch.map (·.1)).Nodup := by
    obtain ⟨_, _, _, _, _, _, _, _, nd⟩ := Da
    rw [r1.keys] at nd
    simpa [choV, Function.comp_def] using nd
  have hl : ka.length = kb.length := r1.length.symm.trans r2.length
  refine keq_ne (ne_modules n1) (ne_modules n2) Da Db (by exact o61 hu) (fun _ => hits_same (A := A.in1) hu r2 hn (fun p h => h) r1) ⟨_, _, X, .rfl', _, .bool _, _, rfl, ?_⟩
  simpa [hl] using q
end
end Mine

open PySem PySem.W PyProof.Rows PySem.SeqAt PySem.Calls
set_option Elab.async false
set_option maxRecDepth 100000
set_option linter.unusedVariables false
namespace Mine

section
variable {W : Wd} {F : Fx} {A : Around} {st : St}

theorem codeAny_compStart_1 {elt target iter t0 i0 : Expr} {ifs ifs0 : List Expr} {scope : Scope} {pos : Pos} {it acc : Value} {env : Env} {prog : Program} {w : World} {R : Result → Shared → Prop} {s : Shared}
    (h0 : codeAny (model prog w) A (.compLoop (.ListComp elt [⟨t0, i0, ifs0, 0⟩, ⟨target, iter, ifs, 0⟩] scope pos) 1 it acc env) R s)
    (h : wpAny (model prog w) A (pyIter it) (fun it' s' => codeAny (model prog w) A (.compLoop (.ListComp elt [⟨t0, i0, ifs0, 0⟩, ⟨target, iter, ifs, 0⟩] scope pos) 1 it' acc env) R s') (fun _ _ => False) s) :
    codeAny (model prog w) A (.compStart (.ListComp elt [⟨t0, i0, ifs0, 0⟩, ⟨target, iter, ifs, 0⟩] scope pos) 1 it acc env) R s := by
  refine codeAny_of_tree ?_
  show wpAny _ _ ((compStart (.ListComp elt [⟨t0, i0, ifs0, 0⟩, ⟨target, iter, ifs, 0⟩] scope pos) 1 it acc env).onRaise _) _ _ s
  refine wpAny_onRaise (wpAny_mono (E := fun _ _ => False) ?_ (fun _ _ z => z) fun _ _ z => z.elim)
  unfold compStart
  show wpAny _ _ (ask >>= _) _ _ s
  refine wpAny_bind (wpAny_askSetting (wpAny_ite ?_))
  split
  · first
      | exact wpAny_bind (wpAny_pure (wpAny_pure (And.intro rfl h0)))
      | exact wpAny_pure (And.intro rfl h0)
  · refine wpAny_bind (wpAny_rule ?_)
    show wpAny _ _ (standAt iter.pos >>= _) _ _ s
    exact wpAny_bind (wpAny_standAt (wpAny_bind (wpAny_mono h (fun it' s' h' => wpAny_pure (And.intro rfl h')) fun _ _ x => x)))

/-- `[x1 for x0 in .. if c0 for x1 in i1]`, i1 a tuple -/
theorem Lp.nested {i0 i1 c0 : Expr} {x0 x1 : Str} {px0 px1 pe pos : Pos} {scope : Scope} {C : Addr} {acc : Nat} {v : V} {vs : List V} {Q : Sto → Prop} (hh : A.handled = none) (hv : IterOf v st vs) (hacc : st.σ acc = some (.list []))
    (J : Nat → List V → Sto → Prop) (h0 : J 0 [] st.σ) (hst : ∀ n out σ, J n out σ → ∀ i, v = .ref i → σ i = st.σ i) (hlen : ∀ n out σ, J n out σ → out.length ≤ 500)
    (turn : ∀ n y out σ Γ, vs[n]? = some y → J n out σ → σ acc = some (.list out) → Γeq [x0, x1] st.Γ Γ → Γ.lookup x0 = some y → Is W (compFx F scope C) A c0 ⟨Γ, σ⟩ fun b st2 => st2 = ⟨Γ, σ⟩ ∧ if b = true then Ev W (compFx F scope C) A i1 ⟨Γ, σ⟩ fun w st' => st' = ⟨Γ, σ⟩ ∧ ∃ ks, An3 (w = .tup ks) (ks.length ≤ 500) (∀ σ', σ' acc = some (.list (out ++ ks)) → (∀ i, i ≠ acc → σ' i = σ i) → J (n + 1) (out ++ ks) σ')
      else J (n + 1) out σ)
    (fini : ∀ out σ, J vs.length out σ → σ acc = some (.list out) → Q σ)
    (hx0 : scope.names.lookup x0 = some .local := by rfl) (hx1 : scope.names.lookup x1 = some .local := by rfl) (hne : (x0 == x1) = false := by rfl) (hk : scope.kind = .function := by rfl)
    (hs : ∀ x, foldedSetIterable i1 (compFx F scope C).env x = pure x := by intro _; rfl) (hd : (x1 == ("__debug__" : Str)) = false := by decide) :
    Lp W F A scope C (.ListComp (.Name x1 pe) [⟨.Name x0 px0, i0, [c0], 0⟩, ⟨.Name x1 px1, i1, [], 0⟩] scope pos) acc v st Q := fun G ι s it X g y => by
  have k0 : (compFx F scope C).env.kindOf x0 = some .local := by
    show (relabel scope F.env).names.lookup x0 = _
    rw [relabel_lookup, hx0]; rfl
  have k1 : (compFx F scope C).env.kindOf x1 = some .local := by
    show (relabel scope F.env).names.lookup x1 = _
    rw [relabel_lookup, hx1]; rfl
  have in0 : [x0, x1].contains x0 = true := by simp
  have in1 : [x0, x1].contains x1 = true := by simp
  refine codeAny_mono (comp_core (acc := acc) (v := v) (vs := vs) hh (compTurn_outer (.Name x1 pe) (.Name x1 px1) i1 (.Name x0 px0) i0 [] [c0] scope pos (.ref it) (.ref (ι acc)) (compFx F scope C).env) (fun _ _ => rfl)
    (fun n st' => Γeq [x0, x1] st.Γ st'.Γ ∧ ∃ out, st'.σ acc = some (.list out) ∧ J n out st'.σ) hv ⟨.refl, [], hacc, h0⟩ (fun n st' ⟨_, out, _, j⟩ => hst n out _ j) (fun n y' st' hy ⟨hΓ, out, ho, j⟩ => ?_) X (by rw [hacc]; exact fun z => by cases z) rfl g y) fun r s' ⟨st', ι', e, X', e', _, out, ho, j⟩ => ⟨st', ι', e, X', e', fini out _ j ho⟩
  obtain ⟨Γ', σ'⟩ := st'
  dsimp only at hΓ ho j
  refine As.local (hk := k0) (hf := hk) ?_
  dsimp only
  have hΓ2 := hΓ.set (x := x0) (v := y') in0
  refine tests_one (Q := fun ok st3 => if ok = true then _ else _) ((turn n y' out σ' (setG Γ' x0 y') hy j ho hΓ2 lookup_setG_self).mono fun b st2 ⟨e2, q⟩ => ?_)
  subst e2
  cases b with
  | false => exact ⟨hΓ2, out, ho, by simpa using q⟩
  | true =>
    rw [if_pos rfl] at q ⊢
    intro G1 ι1 s1 X1 hA
    refine wpAny_bind (q.use X1 fun u s2 st3 ι2 X2 e2 ⟨w, r, est, ks, hw, hkl, hJ⟩ => ?_)
    subst est hw
    refine wpAny_bind (wpAny_standAt ?_)
    rw [hs]
    refine wpAny_bind (wpAny_pure ?_)
    have hvk : IterOf (.tup ks) ⟨setG Γ' x0 y', σ'⟩ ks := rfl
    refine wpAny_bind (wpAny_holding (iter_start X2 hvk r fun it2 s3 k3 n3 X3 e3 g3 y3 => ?_))
    have acl : σ' acc ≠ none := by rw [ho]; exact fun z => by cases z
    have hA3 : ι2 acc = ι acc := (e2.ids acc acl).2.trans hA
    refine wpAny_bind (wpAny_runOwn ?_)
    have core : codeAny (model W.prog W.w) A (.compLoop (.ListComp (.Name x1 pe) [⟨.Name x0 px0, i0, [c0], 0⟩, ⟨.Name x1 px1, i1, [], 0⟩] scope pos) 1 (.ref it2) (.ref (ι acc)) (compFx F scope C).env)
        (fun r s' => Lo W (compFx F scope C) G1 s3.heap σ' ι2 r s' fun st' => (fun n st' => An3 (Γeq [x0, x1] st.Γ st'.Γ) (st'.σ acc = some (.list (out ++ ks.take n))) (∀ i, i ≠ acc → st'.σ i = σ' i)) ks.length st') s3 := by
      refine comp_core (acc := acc) (v := .tup ks) (vs := ks) (st := ⟨setG Γ' x0 y', σ'⟩) hh (compTurn_leaf1 (.Name x1 pe) (.Name x1 px1) i1 (.Name x0 px0) i0 [] [c0] scope pos (.ref it2) (.ref (ι acc)) (compFx F scope C).env) (fun _ _ => rfl)
        (fun n st' => An3 (Γeq [x0, x1] st.Γ st'.Γ) (st'.σ acc = some (.list (out ++ ks.take n))) (∀ i, i ≠ acc → st'.σ i = σ' i)) hvk ⟨hΓ2, by simpa using ho, fun _ _ => rfl⟩ (fun _ _ _ i e => by cases e) (fun m z st' hz ⟨gΓ, go, gi⟩ => ?_) X3 acl hA3 g3 y3
      refine As.local (hk := k1) (hf := hk) ?_
      refine tests_none (Q := fun ok st3 => if ok = true then _ else _) ?_
      rw [if_pos rfl]
      have hm : m < ks.length := by
        rcases Nat.lt_or_ge m ks.length with z | z
        · exact z
        · rw [List.getElem?_eq_none z] at hz; cases hz
      have lo := hlen n out σ' j
      refine ActF.of_act (Act.leaf (Ev.local (lookup_setG_self) ⟨out ++ ks.take m, go, by simp; exact o62 hkl lo, gΓ.set in1, ?_, fun i hi => by simp [setS, hi, gi i hi]⟩ k1 hk hd) (by dsimp only; rw [go]; exact fun z => by cases z))
      simp only [setS, if_true]
      rw [List.append_assoc, List.take_add_one, hz]
      rfl
    have conv : ∀ (rr : Result) (s' : Shared), (Lo W (compFx F scope C) G1 s3.heap σ' ι2 rr s' fun st' => (fun n st' => An3 (Γeq [x0, x1] st.Γ st'.Γ) (st'.σ acc = some (.list (out ++ ks.take n))) (∀ i, i ≠ acc → st'.σ i = σ' i)) ks.length st') →
        (match rr with
          | .ok f => wpAny (model W.prog W.w) A (again (.compLoop (.ListComp (.Name x1 pe) [⟨.Name x0 px0, i0, [c0], 0⟩, ⟨.Name x1 px1, i1, [], 0⟩] scope pos) 0 (.ref it) (.ref (ι acc)) (compFx F scope C).env)) (fun fin s' => fin = .again (.compLoop (.ListComp (.Name x1 pe) [⟨.Name x0 px0, i0, [c0], 0⟩, ⟨.Name x1 px1, i1, [], 0⟩] scope pos) 0 (.ref it) (.ref (ι acc)) (compFx F scope C).env) ∧ Po W (compFx F scope C) G1 s1.heap σ' ι1 s' fun _ st' _ => Γeq [x0, x1] st.Γ st'.Γ ∧ ∃ out, st'.σ acc = some (.list out) ∧ J (n + 1) out st'.σ) (fun _ _ => False) s'
          | .error e => cameBackBy (model W.prog W.w) A (compFx F scope C).env (fun _ _ => False) e s') := fun rr s' ⟨st', ι', e, X4, e4, gΓ, go, gi⟩ => by
      subst e
      refine wpAny_pure ⟨rfl, st', ι', X4, (e2.trans e3).trans e4, gΓ, out ++ ks, by simpa using go, hJ _ (by simpa using go) gi⟩
    refine codeAny_compStart_1 (codeAny_mono core conv) (iter_again hh y3 (codeAny_mono core conv))
end
end Mine

open PySem PySem.W PyProof.Rows PySem.SeqAt PySem.Calls
set_option Elab.async false
set_option maxRecDepth 100000
set_option linter.unusedVariables false
namespace Mine

section
variable {W : Wd} {F : Fx} {A : Around} {st : St}

/-- `{'x': .., 'y': ..}` -/
theorem Ev.dict2 {x y : Str} {c1 c2 : Nat} {p1 p2 p : Pos} {e1 e2 : Expr} {Q} (i : Nat) (hi : st.σ i = none) (hxy : x ≠ y)
    (T : Ev W F A e1 ⟨st.Γ, setS st.σ i (.sdict [])⟩ fun v1 st1 => Ev W F A e2 st1 fun v2 st2 => st2.σ i = some (.sdict []) ∧ Q (.ref i) ⟨st2.Γ, setS st2.σ i (.sdict [(x, v1), (y, v2)])⟩) :
    Ev W F A (.Dict [some (.Constant (.str x) c1 p1), some (.Constant (.str y) c2 p2)] [e1, e2] p) st Q := fun G ι s X => by
  obtain ⟨Γ, σ⟩ := st
  obtain ⟨X1, ex1⟩ := X.new (i := i) (a := s.heap.objs.size) (o' := .sdict []) (h' := s.heap.push { cls := .type "dict", data := .dict #[] }) hi X.hp.fresh (fun b o e => Heap.get?_push_of_some _ e) fun E => ⟨[], Heap.DictOf.new _, .nil, X.hp.size_ne⟩
  refine wpAny_Dict_walk (knd := PySem.strKind W.prog W.w) rfl rfl (by simp) (by simp) ?_
  refine pairTrees_cons_walk ?_
  refine wpAny_mkText ?_
  refine Tr.use T (s := { heap := s.heap.push { cls := .type "dict", data := .dict #[] }, gens := s.gens, drawn := s.drawn, toks := s.toks + 1, os := s.os }) X1 fun u1 s1 st1 ι1 X2 ex2 ⟨v1, r1, q⟩ => ?_
  refine pairTrees_cons_walk ?_
  refine wpAny_mkText ?_
  refine Tr.use q (s := { s1 with toks := s1.toks + 1 }) X2 fun u2 s2 st2 ι2 X3 ex3 ⟨v2, r2, h2, q2⟩ => ?_
  refine pairTrees_nil_walk ?_
  have ha : ι2 i = s.heap.objs.size := by
    have a1 : setL ι i s.heap.objs.size i = s.heap.objs.size := by simp [setL]
    have a2 := ex2.ids i (by simp [setS])
    rw [a1] at a2
    have a3 := ex3.ids i a2.1
    rw [a3.2, a2.2]
  obtain ⟨us, D, rk, nm⟩ := sdictAt X3.hp h2
  cases rk
  rw [ha] at D
  refine display_done_str (by rfl) ?_ D fun h' D' hs => ?_
  · simp [strPairs, hxy]
  · obtain ⟨Γ2, σ2⟩ := st2
    rw [← ha] at hs D'
    obtain ⟨X4, ex4⟩ := X3.set (h' := h') (o' := .sdict [(x, v1), (y, v2)]) h2 hs.extBut fun E => ⟨_, D', .cons ((r1.ext ex3).ext E) (.cons (r2.ext E) .nil), nm⟩
    refine ⟨_, _, X4, ((ex1.trans ex2).trans ex3).trans ex4, .ref i, ?_, q2⟩
    rw [← ha]
    exact .ref i (by simp [setS])

/-- the numbers that a value hands out -/
def NumsOf (v : V) (st : St) (is : List Int) : Prop := (∃ i, v = .ref i ∧ st.σ i = some (.list (is.map .int))) ∨ v = .tup (is.map .int)

end
end Mine

open PySem PySem.W PyProof.Rows
set_option Elab.async false
set_option maxRecDepth 100000
set_option linter.unusedVariables false
namespace Mine

/- a set's table -/
theorem rise_get {xs : Array Nat} (h : xs.toList.Pairwise (· < ·)) {i k u v : Nat} (hik : i < k) (hu : xs[i]? = some u) (hv : xs[k]? = some v) : u < v := by
  rw [List.pairwise_iff_getElem] at h
  rw [← Array.getElem?_toList] at hu hv
  obtain ⟨hi, rfl⟩ := List.getElem?_eq_some_iff.mp hu
  obtain ⟨hk, rfl⟩ := List.getElem?_eq_some_iff.mp hv
  exact h i k hi hk hik

def Cut (xs : Array Nat) (j p : Nat) : Prop := (∀ i v, i < p → xs[i]? = some v → v < j) ∧ (∀ i v, p ≤ i → xs[i]? = some v → j ≤ v) ∧ p ≤ xs.size

theorem below_go {xs : Array Nat} (h : xs.toList.Pairwise (· < ·)) (j : Nat) : ∀ (f lo hi : Nat), hi - lo ≤ f → lo ≤ hi → hi ≤ xs.size → (∀ i v, i < lo → xs[i]? = some v → v < j) → (∀ i v, hi ≤ i → xs[i]? = some v → j ≤ v) →
    Cut xs j (SetTable.below.go xs j f lo hi)
  | 0, lo, hi, hf, hl, hs, a, b => by
    have : lo = hi := by exact o585 hf hl
    subst this
    rw [SetTable.below.go]
    exact ⟨a, b, hs⟩
  | f + 1, lo, hi, hf, hl, hs, a, b => by
    rw [SetTable.below.go]
    split
    · rename_i hlt
      dsimp only
      have hm : (lo + hi) / 2 < xs.size := by exact o586 hs hlt
      have e : xs[(lo + hi) / 2]? = some xs[(lo + hi) / 2] := Array.getElem?_eq_getElem hm
      have e' : xs.getD ((lo + hi) / 2) j = xs[(lo + hi) / 2] := by simp [Array.getD, hm]
      rw [e']
      split
      · rename_i hj
        refine below_go h j f _ _ (by exact o587 hf) (by exact o588 hlt) hs (fun i v hi' e2 => ?_) b
        rcases Nat.lt_or_ge i ((lo + hi) / 2) with q | q
        · exact Nat.lt_trans (rise_get h q e2 e) hj
        · have : i = (lo + hi) / 2 := by exact o589 hi' q
          subst this
          rw [e] at e2; cases e2; exact hj
      · rename_i hj
        refine below_go h j f _ _ (by exact o590 hf) (by exact o591 hlt) (by exact o592 hm) a (fun i v hi' e2 => ?_)
        rcases Nat.lt_or_ge ((lo + hi) / 2) i with q | q
        · exact Nat.le_of_lt (Nat.lt_of_le_of_lt (Nat.not_lt.mp hj) (rise_get h q e e2))
        · have : i = (lo + hi) / 2 := by exact o593 hi' q
          subst this
          rw [e] at e2; cases e2; exact Nat.not_lt.mp hj
    · have : lo = hi := by (first | exact o594 hl (by assumption) | omega)
      subst this
      exact ⟨a, b, hs⟩

theorem below_cut {xs : Array Nat} (h : xs.toList.Pairwise (· < ·)) (j : Nat) : Cut xs j (SetTable.below xs j) :=
  below_go h j _ _ _ (by exact o595) (Nat.zero_le _) (Nat.le_refl _) (fun _ _ z => absurd z (Nat.not_lt_zero _)) fun i v z e => by
    rw [Array.getElem?_eq_none z] at e; cases e

theorem below_at {xs : Array Nat} (h : xs.toList.Pairwise (· < ·)) {i j : Nat} (e : xs[i]? = some j) : SetTable.below xs j = i := by
  obtain ⟨a, b, c⟩ := below_cut h j
  rcases Nat.lt_trichotomy (SetTable.below xs j) i with q | q | q
  · obtain ⟨v, hv⟩ : ∃ v, xs[SetTable.below xs j]? = some v := ⟨_, Array.getElem?_eq_getElem (Nat.lt_trans q (Array.getElem?_eq_some_iff.mp e).1)⟩
    have := rise_get h q hv e
    have := b _ v (Nat.le_refl _) hv
    (first | exact o596 (by assumption) this | omega)
  · exact q
  · have := a _ _ q e
    exact o597 this
theorem below_next {xs : Array Nat} (h : xs.toList.Pairwise (· < ·)) {i j : Nat} (e : xs[i]? = some j) : SetTable.below xs (j + 1) = i + 1 := by
  obtain ⟨a, b, c⟩ := below_cut h (j + 1)
  rcases Nat.lt_trichotomy (SetTable.below xs (j + 1)) (i + 1) with q | q | q
  · have := b i j (by exact o598 q) e
    exact o599 this
  · exact q
  · have hi : i + 1 < xs.size := by exact o600 c q
    have e2 : xs[i + 1]? = some xs[i + 1] := Array.getElem?_eq_getElem hi
    have := rise_get h (Nat.lt_succ_self i) e e2
    have := a _ _ q e2
    (first | exact o601 (by assumption) this | omega)
theorem below_zero (xs : Array Nat) (h : xs.toList.Pairwise (· < ·)) : SetTable.below xs 0 = 0 := by
  obtain ⟨a, b, c⟩ := below_cut h 0
  rcases Nat.lt_or_ge 0 (SetTable.below xs 0) with q | q
  · have e2 : xs[0]? = some xs[0] := Array.getElem?_eq_getElem (by exact o602 c q)
    have := a _ _ q e2
    exact o603 this
  · exact o604 q

section
variable {t : SetTable}
theorem has_none {j : Nat} : SetTable.has #[] j = false := by
  unfold SetTable.has
  simp
theorem slot_live {j i : Nat} (e : t.slot j = .live i) : t.place[i]? = some j := by
  unfold SetTable.slot at e
  dsimp only at e
  split at e
  · rename_i q
    cases e
    exact beq_iff_eq.mp q
  · split at e <;> cases e
theorem slot_dummy {j : Nat} (hd : t.dummies = #[]) : t.slot j ≠ .dummy := by
  unfold SetTable.slot
  dsimp only
  split
  · exact fun z => nomatch z
  · rw [hd, has_none]; simp
theorem slot_empty {j : Nat} (hr : t.place.toList.Pairwise (· < ·)) (e : t.slot j = .empty) : j ∉ t.place.toList := by
  intro hm
  obtain ⟨i, hi⟩ := List.mem_iff_getElem?.mp hm
  rw [Array.getElem?_toList] at hi
  unfold SetTable.slot at e
  dsimp only at e
  rw [below_at hr hi, hi] at e
  simp at e
theorem slot_free {j : Nat} (hd : t.dummies = #[]) (e : j ∉ t.place.toList) : t.slot j = .empty := by
  cases q : t.slot j with
  | empty => rfl
  | dummy => exact absurd q (slot_dummy hd)
  | live i =>
    have := slot_live q
    exact absurd (List.mem_iff_getElem?.mpr ⟨i, by rw [Array.getElem?_toList]; exact this⟩) e

theorem rise_ins {xs : Array Nat} (h : xs.toList.Pairwise (· < ·)) {j : Nat} (n : j ∉ xs.toList) : (SetTable.insertAt xs (SetTable.below xs j) j).toList.Pairwise (· < ·) := by
  obtain ⟨a, b, c⟩ := below_cut h j
  rw [SetTable.toList_insertAt]
  refine List.pairwise_append.mpr ⟨h.sublist (List.take_sublist _ _), List.pairwise_cons.mpr ⟨fun y hy => ?_, h.sublist (List.drop_sublist _ _)⟩, fun x hx y hy => ?_⟩
  · obtain ⟨k, hk⟩ := List.mem_iff_getElem?.mp hy
    rw [List.getElem?_drop, Array.getElem?_toList] at hk
    have := b _ _ (Nat.le_add_right _ _) hk
    have ne : y ≠ j := fun q => n (q ▸ List.mem_of_mem_drop hy)
    exact o605 this ne
  · have hxj : x < j := by
      obtain ⟨k, hk⟩ := List.mem_iff_getElem?.mp hx
      rw [List.getElem?_take] at hk
      split at hk
      · rename_i q
        rw [Array.getElem?_toList] at hk
        exact a _ _ q hk
      · cases hk
    rcases List.mem_cons.mp hy with rfl | hy
    · exact hxj
    · have : y ∈ xs.toList := List.mem_of_mem_drop hy
      obtain ⟨k, hk⟩ := List.mem_iff_getElem?.mp hy
      rw [List.getElem?_drop, Array.getElem?_toList] at hk
      have := b _ _ (Nat.le_add_right _ _) hk
      exact o606 hxj this

/- the probe -/
theorem adv_dummy (p : SetTable.Probe) : (t.advance p).dummy = p.dummy := by
  unfold SetTable.advance
  split <;> rfl
def adv (t : SetTable) : Nat → SetTable.Probe → SetTable.Probe
  | 0, p => p
  | n + 1, p => adv t n (t.advance p)
theorem adv_add : ∀ (a b : Nat) (p : SetTable.Probe), adv t (a + b) p = adv t b (adv t a p)
  | 0, b, p => by simp [adv]
  | a + 1, b, p => by rw [Nat.succ_add]; exact adv_add a b _
def Far (t : SetTable) (p : SetTable.Probe) (n : Nat) : Prop := t.slot (adv t n p).j = .empty

theorem go_empty {ha : Nat → Int} {h : Int} (hd : t.dummies = #[]) : ∀ (f : Nat) (p : SetTable.Probe) {j d}, p.dummy = none → SetTable.probe.go t ha h f p = some (.empty j d) → d = none ∧ t.slot j = .empty
  | 0, p, j, d, hp, e => by rw [SetTable.probe.go] at e; cases e
  | f + 1, p, j, d, hp, e => by
    rw [SetTable.probe.go] at e
    split at e
    · rename_i q
      cases e
      exact ⟨hp, q⟩
    · rename_i q; exact absurd q (slot_dummy hd)
    · split at e
      · cases e
      · exact go_empty hd f _ ((adv_dummy p).trans hp) e

theorem go_far {ha : Nat → Int} {h : Int} (hd : t.dummies = #[]) : ∀ (f n : Nat) (p : SetTable.Probe), n < f → p.dummy = none → Far t p n →
    (∃ j, SetTable.probe.go t ha h f p = some (.empty j none) ∧ t.slot j = .empty) ∨
    ∃ j i next n', SetTable.probe.go t ha h f p = some (.candidate j i next) ∧ t.slot j = .live i ∧ next.dummy = none ∧ n' < n ∧ Far t next n'
  | 0, n, p, hn, _, _ => absurd hn (Nat.not_lt_zero _)
  | f + 1, n, p, hn, hp, hf => by
    rw [SetTable.probe.go]
    cases q : t.slot p.j with
    | empty => exact .inl ⟨p.j, by rw [hp], q⟩
    | dummy => exact absurd q (slot_dummy hd)
    | live i =>
      cases n with
      | zero =>
        have : t.slot p.j = .empty := hf
        rw [q] at this; cases this
      | succ n =>
        have hf' : Far t (t.advance p) n := hf
        dsimp only
        split
        · exact .inr ⟨p.j, i, _, n, rfl, q, (adv_dummy p).trans hp, Nat.lt_succ_self _, hf'⟩
        · rcases go_far hd f n _ (by exact o607 hn) ((adv_dummy p).trans hp) hf' with z | ⟨j, i', next, n', z1, z2, z3, z4, z5⟩
          · exact .inl z
          · exact .inr ⟨j, i', next, n', z1, z2, z3, Nat.lt_trans z4 (Nat.lt_succ_self _), z5⟩

/- the leaps go round -/
def leapN (M : Nat) : Nat → Nat × Nat → Nat × Nat
  | 0, x => x
  | n + 1, x => leapN M n (SetTable.leap M x.1 x.2)
theorem leapN_add (M : Nat) : ∀ (a b : Nat) (x : Nat × Nat), leapN M (a + b) x = leapN M b (leapN M a x)
  | 0, b, x => by simp [leapN]
  | a + 1, b, x => by rw [Nat.succ_add]; exact leapN_add M a b _
theorem leapN_snd (M : Nat) : ∀ (n : Nat) (x : Nat × Nat), (leapN M n x).2 = x.2 / 32 ^ n
  | 0, x => by simp [leapN]
  | n + 1, x => by
    rw [leapN, leapN_snd M n]
    show x.2 / 32 / 32 ^ n = _
    rw [Nat.div_div_eq_div_mul, Nat.pow_succ, Nat.mul_comm]
theorem leapN_le (M : Nat) : ∀ (n : Nat) (x : Nat × Nat), x.1 ≤ M → (leapN M n x).1 ≤ M
  | 0, x, h => h
  | n + 1, x, h => leapN_le M n _ (Nat.le_of_lt_succ (Nat.mod_lt _ (Nat.succ_pos _)))
def orb (M : Nat) : Nat → Nat → List Nat
  | 0, _ => []
  | n + 1, i => i :: orb M n ((i * 5 + 1) % (M + 1))
def orbOk (M : Nat) : Bool := (List.range (M + 1)).all fun i => (List.range (M + 1)).all fun e => (orb M (M + 1) i).contains e
theorem orb7 : orbOk 7 = true := by decide +kernel
theorem orb31 : orbOk 31 = true := by decide +kernel
theorem orb_mem (M : Nat) : ∀ (n i e : Nat), e ∈ orb M n i → ∃ k, k < n ∧ (leapN M k (i, 0)).1 = e
  | 0, i, e, h => by cases h
  | n + 1, i, e, h => by
    rcases List.mem_cons.mp h with rfl | h
    · exact ⟨0, Nat.succ_pos _, rfl⟩
    · obtain ⟨k, hk, he⟩ := orb_mem M n _ e h
      exact ⟨k + 1, Nat.succ_lt_succ hk, by rw [leapN]; simpa [SetTable.leap] using he⟩
theorem leap_all {M : Nat} (hM : orbOk M = true) {i p e : Nat} (hi : i ≤ M) (hp : p < 2 ^ 64) (he : e ≤ M) : ∃ k, k < M + 14 ∧ (leapN M k (i, p)).1 = e := by
  have h0 : (leapN M 13 (i, p)).2 = 0 := by
    rw [leapN_snd]
    exact Nat.div_eq_of_lt (Nat.lt_trans hp (by decide))
  have hi' := leapN_le M 13 (i, p) hi
  have : e ∈ orb M (M + 1) (leapN M 13 (i, p)).1 := by
    unfold orbOk at hM
    rw [List.all_eq_true] at hM
    have h1 := hM (leapN M 13 (i, p)).1 (List.mem_range.mpr (Nat.lt_succ_of_le hi'))
    rw [List.all_eq_true] at h1
    have h2 := h1 e (List.mem_range.mpr (Nat.lt_succ_of_le he))
    simpa using h2
  obtain ⟨k, hk, hke⟩ := orb_mem M _ _ _ this
  refine ⟨13 + k, by exact o608 hk, ?_⟩
  rw [leapN_add]
  have e2 : leapN M 13 (i, p) = ((leapN M 13 (i, p)).1, 0) := by rw [← h0]
  rw [e2]; exact hke

theorem runEnd_le (M i : Nat) : SetTable.runEnd M i - i ≤ 9 := by
  unfold SetTable.runEnd
  split <;> (first | exact o609 | exact o610 | omega)
theorem runEnd_ge (M i : Nat) : i ≤ SetTable.runEnd M i := by
  unfold SetTable.runEnd
  split <;> (first | exact o611 | exact o279 | omega)
def stand (M : Nat) (x : Nat × Nat) : SetTable.Probe := { j := x.1, more := SetTable.runEnd M x.1 - x.1, i := x.1, perturb := x.2, dummy := none }
theorem adv_run : ∀ (k : Nat) (p : SetTable.Probe), p.more = k → p.dummy = none → adv t (k + 1) p = stand t.mask (SetTable.leap t.mask p.i p.perturb)
  | 0, p, hk, hd => by
    show t.advance p = _
    unfold SetTable.advance
    rw [if_neg (by exact o612 hk)]
    show ({ p with j := _, more := _, i := _, perturb := _ } : SetTable.Probe) = _
    unfold stand
    rw [hd]
    rfl
  | k + 1, p, hk, hd => by
    show adv t (k + 1) (t.advance p) = _
    have e : t.advance p = { p with j := p.j + 1, more := p.more - 1 } := by
      unfold SetTable.advance
      rw [if_pos (by exact o613 hk)]
    rw [e]
    exact adv_run k _ (by show p.more - 1 = k; exact o614 hk) hd
theorem adv_leaps : ∀ (k : Nat) (x : Nat × Nat), ∃ n, n ≤ 10 * k ∧ adv t n (stand t.mask x) = stand t.mask (leapN t.mask k x)
  | 0, x => ⟨0, by decide, rfl⟩
  | k + 1, x => by
    obtain ⟨n, hn, e⟩ := adv_leaps k (SetTable.leap t.mask x.1 x.2)
    have h9 := runEnd_le t.mask x.1
    refine ⟨(SetTable.runEnd t.mask x.1 - x.1 + 1) + n, by exact o615 hn h9, ?_⟩
    rw [adv_add, adv_run (t := t) (SetTable.runEnd t.mask x.1 - x.1) (stand t.mask x) rfl rfl]
    exact e

theorem range_in : ∀ (n : Nat) (l : List Nat), (∀ e, e < n → e ∈ l) → n ≤ l.length
  | 0, _, _ => Nat.zero_le _
  | n + 1, l, h => by
    have h1 := h n (Nat.lt_succ_self n)
    have := range_in n (l.erase n) fun e he => (List.mem_erase_of_ne (by exact o296 he)).mpr (h e (by exact o66 he))
    rw [List.length_erase_of_mem h1] at this
    have : 0 < l.length := List.length_pos_of_mem h1
    (first | exact o616 (by assumption) this | omega)
theorem room_ex {l : List Nat} {M : Nat} (h : l.length ≤ M) : ∃ e, e ≤ M ∧ e ∉ l := by
  refine Classical.byContradiction fun n => ?_
  have := range_in (M + 1) l fun e he => Classical.byContradiction fun q => n ⟨e, by exact o598 he, q⟩
  exact o617 h this

theorem bits_lt (h : Int) : SetTable.bits h < 2 ^ 64 := by
  unfold SetTable.bits
  have h1 := Int.emod_nonneg h (b := (2 ^ 64 : Int)) (by decide)
  have h2 := Int.emod_lt_of_pos h (b := (2 ^ 64 : Int)) (by decide)
  exact o618 h2
theorem far_start (hM : orbOk t.mask = true) (hd : t.dummies = #[]) (hs : t.place.size ≤ t.mask) (h : Int) : ∃ n, n < 10 * SetTable.turns t.mask ∧ Far t (t.probeStart h) n := by
  obtain ⟨e, he, hn⟩ := room_ex (l := t.place.toList) (M := t.mask) (by simpa using hs)
  obtain ⟨k, hk, hke⟩ := leap_all hM (i := SetTable.bits h % (t.mask + 1)) (Nat.le_of_lt_succ (Nat.mod_lt _ (Nat.succ_pos _))) (bits_lt h) he
  obtain ⟨n, hn', hadv⟩ := adv_leaps (t := t) k (SetTable.bits h % (t.mask + 1), SetTable.bits h)
  refine ⟨n, by unfold SetTable.turns; exact o619 hk hn', ?_⟩
  unfold Far
  have : t.probeStart h = stand t.mask (SetTable.bits h % (t.mask + 1), SetTable.bits h) := rfl
  rw [this, hadv]
  show t.slot (leapN t.mask k (SetTable.bits h % (t.mask + 1), SetTable.bits h)).1 = .empty
  rw [hke]
  exact slot_free hd hn
end

/- laying anew -/
theorem free_some {M : Nat} {ow : Array (Option Nat)} : ∀ (f i p : Nat) {j}, SetTable.layClean.free M ow f i p = some j → ow.getD j (some 0) = none
  | 0, i, p, j, e => by rw [SetTable.layClean.free] at e; cases e
  | f + 1, i, p, j, e => by
    rw [SetTable.layClean.free] at e
    split at e
    · rename_i k q
      cases e
      have := List.find?_some q
      simpa using this
    · exact free_some f _ _ e
theorem free_ex {M : Nat} {ow : Array (Option Nat)} : ∀ (f k i p : Nat), k < f → ow.getD (leapN M k (i, p)).1 (some 0) = none → ∃ j, SetTable.layClean.free M ow f i p = some j
  | 0, k, i, p, h, _ => absurd h (Nat.not_lt_zero _)
  | f + 1, k, i, p, h, e => by
    rw [SetTable.layClean.free]
    split
    · exact ⟨_, rfl⟩
    · rename_i q
      cases k with
      | zero =>
        have := List.find?_eq_none.mp q 0 (List.mem_range.mpr (by have := runEnd_ge M i; exact o620 this))
        have e' : ow.getD i (some 0) = none := e
        rw [Nat.add_zero, e'] at this
        simp at this
      | succ k => exact free_ex f k _ _ (by exact o607 h) e

theorem filterMap_eq {β : Type} {f g : Nat → Option β} : ∀ {l : List Nat}, (∀ i ∈ l, g i = f i) → l.filterMap g = l.filterMap f
  | [], _ => rfl
  | x :: l, h => by
    simp only [List.filterMap_cons, h x (.head _), filterMap_eq fun i hi => h i (.tail _ hi)]
theorem filterMap_set {β : Type} {f g : Nat → Option β} {j : Nat} {b : β} (hf : f j = none) (hg : g j = some b) (ho : ∀ i, i ≠ j → g i = f i) : ∀ (n : Nat), j < n → ((List.range n).filterMap g).Perm (b :: (List.range n).filterMap f)
  | 0, h => absurd h (Nat.not_lt_zero _)
  | n + 1, h => by
    rw [List.range_succ, List.filterMap_append, List.filterMap_append]
    by_cases q : j = n
    · subst q
      have e : (List.range j).filterMap g = (List.range j).filterMap f := by
        refine filterMap_eq fun i hi => ho i ?_
        have := List.mem_range.mp hi; exact o296 this
      rw [e]
      simp only [List.filterMap_cons, hf, hg, List.filterMap_nil, List.append_nil]
      exact List.perm_append_singleton _ _
    · have e : [n].filterMap g = [n].filterMap f := filterMap_eq fun i hi => ho i (by rw [List.mem_singleton.mp hi]; exact Ne.symm q)
      rw [e]
      exact (filterMap_set hf hg ho n (by exact o70 h q)).append_right _

def OwnOk (M : Nat) (ow : Array (Option Nat)) (k : Nat) : Prop := ow.size = M + 1 ∧ ((List.range (M + 1)).filterMap fun j => ow.getD j none).Perm (List.range k)
theorem getD_lt {ow : Array (Option Nat)} {j : Nat} (h : ow.getD j (some 0) = none) : j < ow.size ∧ ow.getD j none = none := by
  by_cases q : j < ow.size
  · refine ⟨q, ?_⟩
    simp only [Array.getD, q, dif_pos] at h ⊢
    exact h
  · simp [Array.getD, q] at h
theorem OwnOk.put {M k j : Nat} {ow : Array (Option Nat)} (h : OwnOk M ow k) (hj : ow.getD j (some 0) = none) : OwnOk M (ow.setIfInBounds j (some k)) (k + 1) := by
  obtain ⟨h1, h2⟩ := getD_lt hj
  refine ⟨by rw [Array.size_setIfInBounds]; exact h.1, ?_⟩
  refine (filterMap_set (f := fun j => ow.getD j none) (g := fun i => (ow.setIfInBounds j (some k)).getD i none) (j := j) (b := k) h2 ?_ (fun i hi => ?_) (M + 1) (by rw [← h.1]; exact h1)).trans ?_
  · simp [Array.getD, h1]
  · simp only [Array.getD, Array.size_setIfInBounds]
    split
    · rename_i hlt
      show (ow.setIfInBounds j (some k))[i]'(by rw [Array.size_setIfInBounds]; exact hlt) = ow[i]
      rw [Array.getElem_setIfInBounds]
      rw [if_neg (Ne.symm hi)]
    · rfl
  · refine (h.2.cons k).trans ?_
    rw [List.range_succ]
    exact (List.perm_append_singleton _ _).symm
theorem filterMap_full {f : Nat → Option Nat} : ∀ (n : Nat), (∀ i, i < n → f i ≠ none) → ((List.range n).filterMap f).length = n
  | 0, _ => rfl
  | n + 1, h => by
    rw [List.range_succ, List.filterMap_append, List.length_append, filterMap_full n fun i hi => h i (by exact o66 hi)]
    obtain ⟨b, hb⟩ := Option.ne_none_iff_exists'.mp (h n (Nat.lt_succ_self n))
    simp [hb]
theorem OwnOk.free {M k : Nat} {ow : Array (Option Nat)} (h : OwnOk M ow k) (hM : orbOk M = true) (hk : k ≤ M) (x : Int) : ∃ j, SetTable.layClean.free M ow (SetTable.turns M) (SetTable.bits x % (M + 1)) (SetTable.bits x) = some j := by
  have : ∃ e, e ≤ M ∧ ow.getD e (some 0) = none := by
    refine Classical.byContradiction fun n => ?_
    have := filterMap_full (f := fun j => ow.getD j none) (M + 1) fun i hi q => n ⟨i, by exact o598 hi, by
      have hi' : i < ow.size := by rw [h.1]; exact hi
      simp only [Array.getD, hi', dif_pos] at q ⊢
      exact q⟩
    have e := h.2.length_eq
    rw [this, List.length_range] at e
    exact o621 hk e
  obtain ⟨e, he, hn⟩ := this
  obtain ⟨k', hk', hke⟩ := leap_all hM (i := SetTable.bits x % (M + 1)) (Nat.le_of_lt_succ (Nat.mod_lt _ (Nat.succ_pos _))) (bits_lt x) he
  exact free_ex _ k' _ _ (by unfold SetTable.turns; exact o622 hk') (by rw [hke]; exact hn)

theorem lay_fold {M : Nat} (hM : orbOk M = true) : ∀ (hs : List Int) (k : Nat) (ow : Array (Option Nat)), OwnOk M ow k → k + hs.length ≤ M →
    ∃ ow', OwnOk M ow' (k + hs.length) ∧ hs.foldl (fun (acc : Option (Array (Option Nat) × Nat)) h => do
      let (owner, k) ← acc
      let j ← SetTable.layClean.free M owner (SetTable.turns M) (SetTable.bits h % (M + 1)) (SetTable.bits h)
      pure (owner.setIfInBounds j (some k), k + 1)) (some (ow, k)) = some (ow', k + hs.length)
  | [], k, ow, h, _ => ⟨ow, h, rfl⟩
  | x :: hs, k, ow, h, hk => by
    rw [List.length_cons] at hk
    obtain ⟨j, hj⟩ := h.free hM (by exact o623 hk) x
    obtain ⟨ow', h', e⟩ := lay_fold hM hs (k + 1) _ (h.put (free_some _ _ _ hj)) (by exact o624 hk)
    have el : k + (x :: hs).length = k + 1 + hs.length := by rw [List.length_cons]; exact o625
    rw [el]
    refine ⟨ow', h', ?_⟩
    rw [List.foldl_cons, ← e]
    congr 1
    show (do let j ← SetTable.layClean.free M ow (SetTable.turns M) (SetTable.bits x % (M + 1)) (SetTable.bits x); pure (ow.setIfInBounds j (some k), k + 1)) = _
    rw [hj]
    rfl

theorem live_rise {M : Nat} {ow : Array (Option Nat)} : (((List.range (M + 1)).filterMap fun j => (ow.getD j none).map (j, ·)).map (·.1)).Pairwise (· < ·) := by
  rw [List.pairwise_map]
  refine List.Pairwise.filterMap (S := fun a b : Nat × Nat => a.1 < b.1) (R := fun a b : Nat => a < b) _ (fun a a' haa b hb b' hb' => ?_) List.pairwise_lt_range
  obtain ⟨x, _, rfl⟩ := Option.map_eq_some_iff.mp hb
  obtain ⟨y, _, rfl⟩ := Option.map_eq_some_iff.mp hb'
  exact haa
theorem live_snd {ow : Array (Option Nat)} : ∀ (l : List Nat), (l.filterMap fun j => (ow.getD j none).map (j, ·)).map (·.2) = l.filterMap fun j => ow.getD j none
  | [] => rfl
  | j :: l => by
    have ih := live_snd (ow := ow) l
    cases q : ow.getD j none with
    | none => simp only [List.filterMap_cons, q, Option.map_none]; exact ih
    | some b => simp only [List.filterMap_cons, q, Option.map_some, List.map_cons, ih]
theorem laid_shape {M fi mo : Nat} {led pl : Bool} {hs : Array Int} {t' : SetTable} {order : Array Nat} (e : SetTable.laid M fi mo led pl hs = some (t', order)) :
    t'.place.toList.Pairwise (· < ·) ∧ t'.dummies = #[] ∧ t'.led = led ∧ t'.mask = M := by
  unfold SetTable.laid at e
  cases q : SetTable.layClean M hs with
  | none => rw [q] at e; cases e
  | some ow =>
    rw [q] at e
    cases e
    exact ⟨live_rise, rfl, rfl, rfl⟩
theorem laid_ok {M fi mo : Nat} {led pl : Bool} {hs : Array Int} (hM : orbOk M = true) (hn : hs.size ≤ M) : Sm2 fun t' order => An3 (SetTable.laid M fi mo led pl hs = some (t', order)) (t'.place.size = hs.size) (order.toList.Perm (List.range hs.size)) := by
  have h0 : OwnOk M (Array.replicate (M + 1) none) 0 := by
    refine ⟨by simp, ?_⟩
    rw [List.range_zero, show ((List.range (M + 1)).filterMap fun j => (Array.replicate (M + 1) (none : Option Nat)).getD j none) = [] from ?_]
    rw [List.filterMap_eq_nil_iff]
    intro j _
    simp only [Array.getD]
    split
    · simp
    · rfl
  obtain ⟨ow, ho, e⟩ := lay_fold hM hs.toList 0 _ h0 (by simpa using hn)
  have e2 : SetTable.layClean M hs = some ow := by
    unfold SetTable.layClean
    rw [← Array.foldl_toList, e]
    rfl
  unfold SetTable.laid
  rw [e2]
  have e3 := live_snd (ow := ow) (List.range (M + 1))
  have hp := ho.2
  rw [Nat.zero_add, Array.length_toList] at hp
  refine ⟨_, _, rfl, ?_, ?_⟩
  · have := congrArg List.length e3
    rw [List.length_map] at this
    simp only [List.size_toArray, List.length_map]
    rw [this, hp.length_eq, List.length_range]
  · show (List.map (fun x : Nat × Nat => x.2) ((List.range (M + 1)).filterMap fun j => (ow.getD j none).map (j, ·))).Perm _
    rw [e3]; exact hp
end Mine

open PySem PySem.W PyProof.Rows PySem.SeqAt PySem.Calls
set_option Elab.async false
set_option maxRecDepth 100000
set_option linter.unusedVariables false
namespace Mine

theorem slot_setit_next : Slot "set_iterator" "__next__" "set_iterator.__next__" :=
  .of (owner := "set_iterator") (n := "__next__") (by rw [typeLookup_type, builtinLookup_eq_fast]; kernel_rfl) (by decide +kernel) (by decide +kernel) (by decide +kernel)
    (by first | exact .inl (by decide +kernel) | exact .inr (by decide +kernel)) (by rw [isSubtype_type]; kernel_rfl)
theorem entry_setit_next : entryFor table "set_iterator.__next__" = some Builtin.«set_iterator.__next__» := entryFor_of_tree (by kernel_rfl)
theorem args_setit_next (a : Value) : argsOk "set_iterator.__next__" ⟨[a], []⟩ := by unfold argsOk; kernel_rfl
theorem entry_set_iter : entryFor table "set.__iter__" = some Builtin.«frozenset.__iter__» :=
  entryFor_alias (id' := "frozenset.__iter__") (by kernel_rfl) rfl (by decide +kernel) (by kernel_rfl)

/- orders -/
theorem cons_erase_perm {α : Type} : ∀ (l : List α) (i : Nat) (x : α), l[i]? = some x → (x :: l.eraseIdx i).Perm l
  | [], i, x, h => by simp at h
  | y :: l, 0, x, h => by simp at h; subst h; simp
  | y :: l, i + 1, x, h => by
    have := cons_erase_perm l i x (by simpa using h)
    rw [List.eraseIdx_cons_succ]
    exact (List.Perm.swap _ _ _).trans (this.cons y)
theorem pick_perm {α : Type} (next : Nat → Nat) : ∀ (f k : Nat) (left : List α) (out : Array α), left.length = f → (pickOrder.go next f k left out).toList.Perm (out.toList ++ left)
  | 0, k, left, out, h => by
    have : left = [] := List.eq_nil_of_length_eq_zero h
    subst this
    rw [pickOrder.go]; simp
  | f + 1, k, left, out, h => by
    have hi : next k % left.length < left.length := Nat.mod_lt _ (by exact o626 h)
    have e : left[next k % left.length]? = some left[next k % left.length] := List.getElem?_eq_getElem hi
    rw [pickOrder.go, e]
    dsimp only
    refine (pick_perm next f (k + 1) _ _ (by rw [List.length_eraseIdx, if_pos hi]; exact o614 h)).trans ?_
    rw [Array.toList_push, List.append_assoc]
    exact (cons_erase_perm left _ _ e).append_left _
theorem pickOrder_perm {α : Type} (next : Nat → Nat) (xs : Array α) : (pickOrder next xs).toList.Perm xs.toList := by
  unfold pickOrder
  simpa using pick_perm next xs.size 0 xs.toList #[] (by simp)

abbrev byText (w : World) : Bool := w.params.followText "set-order"
structure Tab (b : Bool) (t : SetTable) (n : Nat) : Prop where
  size : t.place.size = n
  fill : n ≤ t.mask
  rise : t.place.toList.Pairwise (· < ·)
  dum : t.dummies = #[]
  led : b = false → t.led = true
theorem Tab.fits {b t n} (T : Tab b t n) : t.fits n = true := by
  unfold SetTable.fits SetTable.fill
  rw [T.dum, T.size]
  simp [T.fill]
abbrev setObj (es : Array (Int × Value)) (ep : Nat) (t : SetTable) : Obj := { cls := .type "set", dict := none, data := .set es ep t, slots := #[] }
abbrev sitObj (first : Value) (i : Nat) (a : Addr) (n ep : Nat) : Obj := { cls := .type "set_iterator", dict := none, data := .fields #[first, .int i 0, .ref a, .int n 0, .int ep 0], slots := #[] }

section
variable {α : Type} {M : Model} {A : Around} {E : Value → Shared → Prop} {s : Shared}
theorem wpAny_choose {src : Source} {n : Nat} {Q : Nat → Shared → Prop} (hn : n ≠ 0) (h : ∀ i d, i < n → Q i { s with drawn := d }) : wpAny M A (choose src n) Q E s := fun Γ p _ => by
  show n ≠ 0 ∧ _
  exact ⟨hn, h _ _ (Nat.mod_lt _ (Nat.pos_of_ne_zero hn))⟩
theorem wpAny_drawOrder : ∀ (n : Nat) (xs : List α) (s : Shared) (Q : List α → Shared → Prop), n = xs.length → (∀ ys d, ys.Perm xs → Q ys { s with drawn := d }) → wpAny M A (drawOrder n xs) Q E s
  | 0, xs, s, Q, hn, h => by
    have : xs = [] := List.eq_nil_of_length_eq_zero hn.symm
    subst this
    unfold drawOrder
    exact wpAny_pure (h [] s.drawn (.refl _))
  | n + 1, [], s, Q, hn, h => by cases hn
  | n + 1, x :: xs, s, Q, hn, h => by
    unfold drawOrder
    refine wpAny_bind (wpAny_choose (by rw [List.length_cons]; exact o627) fun i d hi => ?_)
    have e : (x :: xs)[i]? = some (x :: xs)[i] := List.getElem?_eq_getElem hi
    rw [e]
    dsimp only
    refine wpAny_bind (wpAny_drawOrder n _ _ _ (by rw [List.length_eraseIdx, if_pos hi]; simp at hn ⊢; omega) fun ys d' hp => ?_)
    exact wpAny_pure (h _ d' ((hp.cons _).trans (cons_erase_perm _ i _ e)))
end

section
variable {prog : Program} {w : World} {A : Around} {E : Value → Shared → Prop} {s : Shared} {a it : Addr} {es : Array (Int × Value)} {ep : Nat} {t : SetTable}

/-- where a set's iterator stands -/
inductive SIt (w : World) (h : Heap) (a : Addr) (es : Array (Int × Value)) (ep : Nat) (t : SetTable) (it : Addr) (i : Nat) (us : List Value) : Prop
  | text (hb : byText w = true) (slot : Nat) (ho : h.get? it = some (sitObj (.int slot 0) i a es.size ep)) (hu : us = (pickOrder (w.params.setOrder a ep) es).toList.map (·.2)) : SIt w h a es ep t it i us
  | led (hb : byText w = false) (hd : (!t.plain && decide (es.size > 1)) = false) (slot : Nat) (ho : h.get? it = some (sitObj (.int slot 0) i a es.size ep)) (hi : SetTable.below t.place slot = i) (hu : us = es.toList.map (·.2)) : SIt w h a es ep t it i us
  | drawn (hb : byText w = false) (pl : Addr) (is : List Nat) (op : Obj) (hp : h.get? pl = some op) (hpc : op.cls = .type "tuple") (m : Nat) (hpd : op.data = .seq (is.map fun (i : Nat) => Value.int i 0).toArray m) (ho : h.get? it = some (sitObj (.ref pl) i a es.size ep)) (hne : pl ≠ it) (hl : is.length = es.size)
      (hu : ∀ j : Nat, us[j]? = (is[j]?).bind fun k => (es[k]?).map (·.2)) (hin : ∀ k ∈ is, k < es.size) : SIt w h a es ep t it i us

theorem SIt.len {h i us} (T : Tab (byText w) t es.size) (x : SIt w h a es ep t it i us) : us.length = es.size := by
  cases x with
  | text hb slot ho hu => rw [hu, List.length_map, (pickOrder_perm _ _).length_eq, Array.length_toList]
  | led hb hd slot ho hi hu => rw [hu, List.length_map, Array.length_toList]
  | drawn hb pl is op hp hpc m hpd ho hne hl hu hin =>
    have h1 : us[es.size]? = none := by rw [hu, List.getElem?_eq_none (by exact o628 hl)]; rfl
    have h2 : ∀ j, j < es.size → us[j]? ≠ none := fun j hj => by
      have e : is[j]? = some is[j] := List.getElem?_eq_getElem (by exact o144 hl hj)
      have := hin _ (List.getElem_mem (l := is) (by exact o144 hl hj : j < is.length))
      rw [hu, e, Option.bind_some, Array.getElem?_eq_getElem this]
      exact fun z => nomatch z
    rw [List.getElem?_eq_none_iff] at h1
    rcases Nat.lt_or_ge us.length es.size with q | q
    · exact absurd (List.getElem?_eq_none (Nat.le_refl us.length)) (h2 us.length q)
    · exact o629 h1 q
theorem SIt.keeps {h h' i us} (x : SIt w h a es ep t it i us) (k : ∀ b o, h.get? b = some o → h'.get? b = some o) : SIt w h' a es ep t it i us := by
  cases x with
  | text hb slot ho hu => exact .text hb slot (k _ _ ho) hu
  | led hb hd slot ho hi hu => exact .led hb hd slot (k _ _ ho) hi hu
  | drawn hb pl is op hp hpc m hpd ho hne hl hu hin => exact .drawn hb pl is op (k _ _ hp) hpc m hpd (k _ _ ho) hne hl hu hin
/-- a list turns -/
theorem SIt.turn {h h' i us} {S : Addr} {oS : Obj} (x : SIt w h a es ep t it i us) (hS : h.get? S = some oS) (hc : oS.cls = .type "list") (k : ∀ b o, b ≠ S → h.get? b = some o → h'.get? b = some o) : SIt w h' a es ep t it i us := by
  have ne : ∀ (b : Addr) (ob : Obj) (T : String), h.get? b = some ob → ob.cls = .type T → T ≠ "list" → b ≠ S := fun b ob T e ec n q => by
    rw [q, hS] at e; cases e; rw [hc] at ec; cases ec; exact n rfl
  cases x with
  | text hb slot ho hu => exact .text hb slot (k _ _ (ne _ _ "set_iterator" ho rfl (by decide)) ho) hu
  | led hb hd slot ho hi hu => exact .led hb hd slot (k _ _ (ne _ _ "set_iterator" ho rfl (by decide)) ho) hi hu
  | drawn hb pl is op hp hpc m hpd ho hne hl hu hin => exact .drawn hb pl is op (k _ _ (ne _ _ "tuple" hp hpc (by decide)) hp) hpc m hpd (k _ _ (ne _ _ "set_iterator" ho rfl (by decide)) ho) hne hl hu hin

theorem wpAny_pyIter_set {Q : Value → Shared → Prop} (ho : s.heap.get? a = some (setObj es ep t)) (T : Tab (byText w) t es.size) (hn : es.size ≤ 1000)
    (h : ∀ it h' d us, SIt w h' a es ep t it 0 us → us.Perm (es.toList.map (·.2)) → (∀ b o, s.heap.get? b = some o → h'.get? b = some o) → s.heap.get? it = none → Q (.ref it) { s with heap := h', drawn := d }) : wpAny (model prog w) A (pyIter (.ref a)) Q E s := by
  have hT : s.TypeIs (.ref a) "set" := ⟨_, ho, rfl⟩
  have hf := T.fits
  refine wpAny_pyIter_slot hT PySem.F.slot_set_iter (wpAny_call_entry PySem.F.slot_set_iter hT entry_set_iter ?_ (PySem.F.args_set_iter_1 _))
  unfold Builtin.«frozenset.__iter__» Builtin.Frozenset.slot0 slotArgs
  simp only [List.isEmpty_nil, Bool.not_true, Bool.false_eq_true, ↓reduceIte, bind_assoc, List.length_nil, bne_self_eq_false]
  unfold Builtin.Frozenset.addrOf Builtin.Frozenset.sizeOf
  refine wpAny_bind (wpAny_pure ?_)
  dsimp only
  refine wpAny_bind (wpAny_pure ?_)
  refine wpAny_bind (wpAny_bind (wpAny_setEntries_of ho rfl hf (wpAny_pure ?_)))
  unfold setDrawn setsByText
  refine wpAny_bind (wpAny_bind (wpAny_setState_of ho rfl hf ?_))
  dsimp only
  refine wpAny_bind (wpAny_bind (wpAny_askSetting (wpAny_pure (wpAny_pure ?_))))
  have fin : ∀ (first : Value) (h1 : Heap) (d1 : Drawn) (k : ∀ b o, s.heap.get? b = some o → h1.get? b = some o) (kn : ∀ b, h1.get? b = none → s.heap.get? b = none) (us : List Value), us.Perm (es.toList.map (·.2)) →
      (∀ h', (∀ b o, h1.get? b = some o → h'.get? b = some o) → h'.get? h1.objs.size = some (sitObj first 0 a es.size ep) → SIt w h' a es ep t h1.objs.size 0 us) →
      wpAny (model prog w) A.in1 (do let e ← setEpoch a; let x ← newFields "set_iterator" [first, rawInt 0, .ref a, rawInt es.size, rawInt e]; ret x) (fun fin s'' => ∃ v, fin = .done (.ret v) ∧ ∃ T' r, s''.TypeIs v T' ∧ typeLookup (.type T') (Str.ofString "__next__") = pure (some r) ∧ Q v s'') E { s with heap := h1, drawn := d1 } := by
    intro first h1 d1 k kn us hp hs
    refine wpAny_bind (wpAny_setEpoch_of (k _ _ ho) rfl hf ?_)
    have k2 : ∀ b o, h1.get? b = some o → (h1.push (sitObj first 0 a es.size ep)).get? b = some o := fun b o e => Heap.get?_push_of_some _ e
    refine wpAny_bind (wpAny_newObj_type (wpAny_pure ⟨_, rfl, "set_iterator", _, ⟨_, Heap.get?_push_size _ rfl, rfl⟩, slot_setit_next.lookup, ?_⟩))
    refine h h1.objs.size (h1.push (sitObj first 0 a es.size ep)) d1 us (hs _ k2 (Heap.get?_push_size _ rfl)) hp (fun b o e => k2 b o (k b o e)) (kn _ ?_)
    cases q : h1.get? h1.objs.size with
    | none => rfl
    | some o => exact absurd (Heap.lt_size q) (Nat.lt_irrefl _)
  have base : ∀ (us : List Value), us.Perm (es.toList.map (·.2)) → (∀ h', h'.get? s.heap.objs.size = some (sitObj (.int (0 : Nat) 0) 0 a es.size ep) → SIt w h' a es ep t s.heap.objs.size 0 us) → _ := fun us hp hs =>
    fin (.int (0 : Nat) 0) s.heap s.drawn (fun _ _ e => e) (fun _ e => e) us hp fun h' _ e => hs h' e
  cases hb : byText w with
  | true =>
    rw [if_neg (by show ¬ ((!w.params.followText "set-order" && _) = true); rw [show w.params.followText "set-order" = true from hb]; simp)]
    refine wpAny_bind (wpAny_pure ?_)
    exact base _ ((pickOrder_perm (w.params.setOrder a ep) es).map _) fun h' e => .text hb 0 e rfl
  | false =>
    cases hd : (!t.plain && decide (es.size > 1)) with
    | false =>
      rw [if_neg (by show ¬ ((!w.params.followText "set-order" && (!t.plain && decide (es.size > 1))) = true); rw [hd]; simp)]
      refine wpAny_bind (wpAny_pure ?_)
      exact base _ (.refl _) fun h' e => .led hb hd 0 e (below_zero _ T.rise) rfl
    | true =>
      rw [if_pos (by show (!w.params.followText "set-order" && (!t.plain && decide (es.size > 1))) = true; rw [hd, show w.params.followText "set-order" = false from hb]; rfl)]
      refine wpAny_bind (wpAny_drawOrder _ _ _ _ (by simp) fun is d hp => ?_)
      have hil : is.length = es.size := by rw [hp.length_eq, List.length_range]
      refine wpAny_bind (wpAny_newTuple ?_ (by rw [List.length_map, hil, sizeLine_eq]; exact o3 hn))
      have hin : ∀ k ∈ is, k < es.size := fun k hk => List.mem_range.mp (hp.mem_iff.mp hk)
      have k1 : ∀ b o, s.heap.get? b = some o → (s.heap.push { cls := .type "tuple", data := .seq (is.map fun (i : Nat) => rawInt i).toArray }).get? b = some o := fun b o e => Heap.get?_push_of_some _ e
      refine fin (.ref s.heap.objs.size) _ d k1 (fun b e => ?_) (is.filterMap fun k => (es[k]?).map (·.2)) ?_ fun h' k2 e => .drawn hb s.heap.objs.size is _ (k2 _ _ (Heap.get?_push_size _ rfl)) rfl 0 rfl e ?_ hil (fun j => ?_) hin
      · cases q : s.heap.get? b with
        | none => rfl
        | some o => rw [k1 b o q] at e; cases e
      · refine (hp.filterMap _).trans (List.Perm.of_eq ?_)
        have : ∀ (l : List (Int × Value)), ((List.range l.length).filterMap fun k => (l[k]?).map (·.2)) = l.map (·.2) := fun l => by
          induction l with
          | nil => rfl
          | cons x l ih =>
            rw [List.length_cons, List.range_succ_eq_map, List.filterMap_cons]
            simp only [List.getElem?_cons_zero, Option.map_some, List.filterMap_map, List.map_cons]
            congr 1
        have e := this es.toList
        rw [Array.length_toList] at e
        simpa using e
      · rw [Heap.size_push]; exact Nat.ne_of_lt (Nat.lt_succ_self _)
      · clear hp hil
        have : ∀ (is : List Nat), (∀ k ∈ is, k < es.size) → ∀ j : Nat, (is.filterMap fun k => (es[k]?).map (·.2))[j]? = (is[j]?).bind fun k => (es[k]?).map (·.2) := fun is => by
          induction is with
          | nil => intro _ j; rfl
          | cons x r ih =>
            intro hr j
            have hx := hr x (.head _)
            rw [List.filterMap_cons, Array.getElem?_eq_getElem hx]
            cases j with
            | zero => simp [Array.getElem?_eq_getElem hx]
            | succ j => simpa using ih (fun k hk => hr k (.tail _ hk)) j
        exact this is hin j

theorem stop_raise {β : Type} {Q : β → Shared → Prop} (hh : A.handled = none) (h : ∀ e h', (∀ b o, s.heap.get? b = some o → h'.get? b = some o) → Shared.TypeIs { s with heap := h' } e "StopIteration" → E e { s with heap := h' }) :
    wpAny (model prog w) A (newExc (.type "StopIteration") [] >>= fun e => raiseNew e) Q E s := by
  refine wpAny_bind ?_
  simp only [newExc, newTuple]
  refine wpAny_bind (wpAny_newObj_type ?_ (by size_fits))
  refine wpAny_bind (m := firstArgMember _ _) (wpAny_of_eq (a := Value.none) (by first | rfl | (simp only [firstArgMember]; rfl)) ?_)
  refine wpAny_newObj_type ?_ (by size_fits)
  simp only [raiseNew]
  refine wpAny_bind (wpAny_handled ?_)
  rw [hh]
  refine wpAny_bind (wpAny_pure (wpAny_throw ?_))
  exact h _ _ (fun b o e => Heap.get?_push_of_some _ (Heap.get?_push_of_some _ e)) ⟨_, Heap.get?_push_size _ rfl, rfl⟩

theorem setNext_text {slot given : Nat} {Q : Option (Value × Nat) → Shared → Prop} (ho : s.heap.get? a = some (setObj es ep t)) (T : Tab (byText w) t es.size) (hb : byText w = true)
    (h : Q (((pickOrder (w.params.setOrder a ep) es)[given]?).map fun e => (e.2, slot)) s) : wpAny (model prog w) A (setNext a slot given ep) Q E s := by
  unfold setNext setsByText
  refine wpAny_bind (wpAny_setState_of ho rfl T.fits ?_)
  dsimp only
  refine wpAny_bind (wpAny_bind (wpAny_askSetting (wpAny_pure ?_)))
  refine wpAny_ite_split (fun _ => ?_) (fun n => absurd hb n)
  rw [if_neg (by simp)]
  refine wpAny_bind ?_
  unfold setWalk setsByText
  refine wpAny_bind (wpAny_setState_of ho rfl T.fits ?_)
  dsimp only
  refine wpAny_bind (wpAny_bind (wpAny_askSetting (wpAny_pure ?_)))
  refine wpAny_ite_split (fun _ => ?_) (fun n => absurd hb n)
  exact wpAny_bind (wpAny_askSetting (wpAny_pure (wpAny_pure h)))

theorem setNext_led {slot given : Nat} {Q : Option (Value × Nat) → Shared → Prop} (ho : s.heap.get? a = some (setObj es ep t)) (T : Tab (byText w) t es.size) (hb : byText w = false) (hd : (!t.plain && decide (es.size > 1)) = false)
    (h : Q (match es[SetTable.below t.place slot]?, t.place[SetTable.below t.place slot]? with | some (_, x), some j => some (x, j + 1) | _, _ => none) s) : wpAny (model prog w) A (setNext a slot given ep) Q E s := by
  unfold setNext setsByText
  refine wpAny_bind (wpAny_setState_of ho rfl T.fits ?_)
  dsimp only
  refine wpAny_bind (wpAny_bind (wpAny_askSetting (wpAny_pure ?_)))
  rw [if_neg (by rw [show (model prog w).w.params.followText "set-order" = false from hb]; simp)]
  rw [if_neg (by show ¬ ((!t.plain && decide (es.size > 1)) = true); rw [hd]; simp)]
  refine wpAny_bind (Q := fun _ => _) (show wpAny _ _ (if (!t.led && !es.isEmpty) = true then _ else pure ()) _ _ _ from ?_)
  rw [if_neg (by rw [T.led hb]; simp)]
  exact wpAny_pure (wpAny_pure h)

theorem setNextDrawn_ {k : Nat} {u : Value} {Q : Value → Shared → Prop} (ho : s.heap.get? a = some (setObj es ep t)) (T : Tab (byText w) t es.size) (hk : (es[k]?).map (·.2) = some u) (h : Q u s) : wpAny (model prog w) A (setNextDrawn a k ep) Q E s := by
  unfold setNextDrawn
  refine wpAny_bind (wpAny_setState_of ho rfl T.fits ?_)
  dsimp only
  rw [if_neg (by simp)]
  obtain ⟨⟨x, y⟩, e, rfl⟩ := Option.map_eq_some_iff.mp hk
  rw [e]
  exact wpAny_pure h

theorem isSub_stop : isSubtype (.type "StopIteration") (.type "StopIteration") = pure true := isSubtype_stop

theorem wpAny_pyNext_set {i : Nat} {us : List Value} {Q : Option Value → Shared → Prop} (hh : A.handled = none) (ho : s.heap.get? a = some (setObj es ep t)) (T : Tab (byText w) t es.size) (hia : it ≠ a) (x : SIt w s.heap a es ep t it i us) (hi : i ≤ us.length)
    (hQ : ∀ h', Heap.ExtBut it s.heap h' → (∀ u, us[i]? = some u → SIt w h' a es ep t it (i + 1) us) → Q us[i]? { s with heap := h' }) : wpAny (model prog w) A (pyNext (.ref it)) Q E s := by
  have hT : s.TypeIs (.ref it) "set_iterator" := by
    cases x with
    | text hb slot h hu => exact ⟨_, h, rfl⟩
    | led hb hd slot h hi hu => exact ⟨_, h, rfl⟩
    | drawn hb pl is op hp hpc m hpd h hne hl hu hin => exact ⟨_, h, rfl⟩
  have hlen := x.len T
  unfold pyNext
  refine wpAny_bind (wpAny_attempt (wpAny_callSpecial?_slot (name := Str.ofString "__next__") hT slot_setit_next
    (wpAny_call_entry slot_setit_next hT entry_setit_next ?_ (args_setit_next _))))
  refine wpAny_bind (wpAny_pure ?_)
  have stop : ∀ (h1 : Heap), Heap.ExtBut it s.heap h1 → us[i]? = none → wpAny (model prog w) A.in1 (newExc (.type "StopIteration") [] >>= fun e => raiseNew e)
      (fun (fin : PySem.Fin) s' => ∃ v, fin = .done (.ret v) ∧ wpAny (model prog w) A (match (Except.ok (some v) : Except Value (Option Value)) with
        | .ok (some v) => pure (some v)
        | .ok none => unsupported "iter:the-iterator's-class-has-lost-its-__next__-amid-the-walk"
        | .error e => do if ← isInstance e (.type "StopIteration") then pure none else throw e) Q E s')
      (fun e s' => wpAny (model prog w) A (do if ← isInstance e (.type "StopIteration") then pure none else throw e) Q E s') { s with heap := h1 } := fun h1 hx hn => by
    refine stop_raise (A := A.in1) hh fun e h2 k ht => ?_
    refine wpAny_bind (wpAny_isInstance ht isSubtype_stop ?_)
    rw [if_pos rfl]
    have := hQ h2 (fun b o nb eb => k b o (hx b o nb eb)) (fun u hu => by rw [hn] at hu; cases hu)
    rw [hn] at this
    exact wpAny_pure this
  have none_at : us[i]? = none → i = es.size := fun q => by
    have := List.getElem?_eq_none_iff.mp q
    exact o630 hi hlen this
  cases x with
  | text hb slot h hu =>
    refine wpAny_bind (wpAny_fieldsOf h rfl ?_)
    refine wpAny_bind (wpAny_setEntries_of ho rfl T.fits ?_)
    rw [if_neg (by simp)]
    refine wpAny_bind (setNext_text ho T hb ?_)
    simp only [Int.toNat_natCast]
    have e : us[i]? = ((pickOrder (w.params.setOrder a ep) es)[i]?).map (·.2) := by rw [hu, List.getElem?_map, Array.getElem?_toList]
    cases q : (pickOrder (w.params.setOrder a ep) es)[i]? with
    | none =>
      rw [q] at e
      dsimp only [Option.map_none]
      refine wpAny_bind (wpAny_setField_rec (k := 2) h (by simp) fun h1 he1 hs1 => ?_)
      exact stop h1 hs1.extBut e
    | some p =>
      rw [q] at e
      dsimp only [Option.map_some]
      refine wpAny_bind (wpAny_setField_rec (k := 0) h (by simp) fun h1 he1 hs1 => ?_)
      refine wpAny_bind (wpAny_setField_rec (k := 1) (s := { s with heap := h1 }) he1 (by simp) fun h2 he2 hs2 => ?_)
      refine wpAny_pure ⟨_, rfl, wpAny_pure ?_⟩
      have z := hQ h2 (hs1.extBut.trans hs2.extBut) fun u hu' => .text hb slot (by rw [he2]; simp [rawInt]) hu
      rw [e] at z
      exact z
  | led hb hd slot h hi' hu =>
    refine wpAny_bind (wpAny_fieldsOf h rfl ?_)
    refine wpAny_bind (wpAny_setEntries_of ho rfl T.fits ?_)
    rw [if_neg (by simp)]
    refine wpAny_bind (setNext_led ho T hb hd ?_)
    simp only [Int.toNat_natCast]
    have e : us[i]? = (es[i]?).map (·.2) := by rw [hu, List.getElem?_map, Array.getElem?_toList]
    rw [hi']
    cases q : es[i]? with
    | none =>
      rw [q] at e
      dsimp only
      refine wpAny_bind (wpAny_setField_rec (k := 2) h (by simp) fun h1 he1 hs1 => ?_)
      exact stop h1 hs1.extBut e
    | some p =>
      rw [q] at e
      obtain ⟨ph, px⟩ := p
      have hlt : i < t.place.size := by rw [T.size]; exact (Array.getElem?_eq_some_iff.mp q).1
      have q2 : t.place[i]? = some t.place[i] := Array.getElem?_eq_getElem hlt
      rw [q2]
      dsimp only
      refine wpAny_bind (wpAny_setField_rec (k := 0) h (by simp) fun h1 he1 hs1 => ?_)
      refine wpAny_bind (wpAny_setField_rec (k := 1) (s := { s with heap := h1 }) he1 (by simp) fun h2 he2 hs2 => ?_)
      refine wpAny_pure ⟨_, rfl, wpAny_pure ?_⟩
      have z := hQ h2 (hs1.extBut.trans hs2.extBut) fun u hu' => .led hb hd (t.place[i] + 1) (by rw [he2]; simp [rawInt]) (below_next T.rise q2) hu
      rw [e] at z
      exact z
  | drawn hb pl is op hp hpc m hpd h hne hl hu hin =>
    refine wpAny_bind (wpAny_fieldsOf h rfl ?_)
    refine wpAny_bind (wpAny_setEntries_of ho rfl T.fits ?_)
    rw [if_neg (by simp)]
    refine wpAny_bind (wpAny_seqItems hp hpd ?_)
    have e := hu i
    cases q : is[i]? with
    | none =>
      rw [q] at e
      have e2 : (is.map fun (i : Nat) => Value.int i 0).toArray[(i : Int).toNat]? = none := by simp [q]
      dsimp only
      rw [e2]
      dsimp only
      refine wpAny_bind (wpAny_setField_rec (k := 0) h (by simp) fun h1 he1 hs1 => ?_)
      refine wpAny_bind (wpAny_setField_rec (k := 2) (s := { s with heap := h1 }) he1 (by simp) fun h2 he2 hs2 => ?_)
      exact stop h2 (hs1.extBut.trans hs2.extBut) e
    | some k =>
      rw [q] at e
      have e2 : (is.map fun (i : Nat) => Value.int i 0).toArray[(i : Int).toNat]? = some (.int k 0) := by simp [q]
      dsimp only
      rw [e2]
      dsimp only
      simp only [Int.toNat_natCast]
      have hk := hin k (List.mem_of_getElem? q)
      have e3 : (es[k]?).map (·.2) = some es[k].2 := by rw [Array.getElem?_eq_getElem hk]; rfl
      rw [Option.bind_some, e3] at e
      refine wpAny_bind (setNextDrawn_ ho T e3 ?_)
      refine wpAny_bind (wpAny_setField_rec (k := 1) h (by simp) fun h1 he1 hs1 => ?_)
      refine wpAny_pure ⟨_, rfl, wpAny_pure ?_⟩
      have z := hQ h1 hs1.extBut fun u hu' => .drawn hb pl is op ((hs1.2 pl hne).trans hp) hpc m hpd (by rw [he1]; simp [rawInt]) hne hl hu hin
      rw [e] at z
      exact z
end
end Mine

open PySem PySem.W PyProof.Rows PySem.SeqAt PySem.Calls
set_option Elab.async false
set_option maxRecDepth 100000
set_option linter.unusedVariables false
namespace Mine

abbrev lstObj (vs : List Value) (c : Nat) : Obj := { cls := .type "list", dict := none, data := .seq vs.toArray c, slots := #[] }

section
variable {prog : Program} {w : World} {A : Around} {E : Value → Shared → Prop} {s : Shared} {a : Addr} {es : Array (Int × Value)} {ep : Nat} {t : SetTable}

theorem set_hint (hT : s.TypeIs (.ref a) "set") {Q : Bool → Shared → Prop} (h : Q false s) : wpAny (model prog w) A (Builtin.List.listLengthHint (.ref a)) Q E s := by
  unfold Builtin.List.listLengthHint
  refine wpAny_bind (wpAny_specialOf hT PySem.F.slot_set_len.lookup ?_)
  generalize hid : ("set.__len__" : String) = id0
  wp_delta
  rw [show splitId id0 = some ("set", "__len__") from by subst hid; decide +kernel]
  subst hid
  refine wpAny_bind (wpAny_isInstance (T := "set") (b := true) hT (by rw [isSubtype_type]; kernel_rfl) ?_)
  refine wpAny_ite_split (fun hab => absurd hab (by decide)) (fun _ => ?_)
  refine wpAny_ite_split (fun _ => ?_) (fun hab => absurd (by decide +kernel) hab)
  refine wpAny_bind (wpAny_typeOf hT ?_)
  exact wpAny_pure h

theorem set_loop {R : Result → Shared → Prop} {S I : Addr} {us : List Value} (hh : A.handled = none) (T : Tab (byText w) t es.size) (hSI : S ≠ I) (haS : a ≠ S) (haI : I ≠ a) (hn : us.length ≤ 1000) (res : Value) {h₁ : Heap}
    (hR : ∀ h' c, (∀ b o, b ≠ S → b ≠ I → h₁.get? b = some o → h'.get? b = some o) → h'.get? S = some (lstObj us c) → R (.ok (.ret res)) { s with heap := h' }) :
    ∀ (k i : Nat) (h : Heap) (c : Nat), us.length - i = k → i ≤ us.length → SIt w h a es ep t I i us → h.get? a = some (setObj es ep t) → (∀ b o, b ≠ S → b ≠ I → h₁.get? b = some o → h.get? b = some o) → h.get? S = some (lstObj (us.take i) c) →
      codeAny (model prog w) A (.builtin "list.extend.loop" ⟨[.ref S, .ref I, res], []⟩) R { s with heap := h } := by
  intro k
  induction k with
  | zero =>
    intro i h c hk hi hst ho hkeep hS
    have hin : i = us.length := by exact o631 hk hi
    subst hin
    refine codeAny_builtin PySem.F.entry_extend_loop ?_
    rw [Around.under_plainId PySem.F.plain_extend_loop _]
    show wpAny _ A.in1 (pyNext (.ref I) >>= _) _ _ _
    refine wpAny_bind (wpAny_pyNext_set (s := { s with heap := h }) (A := A.in1) hh ho T haI hst (Nat.le_refl _) fun h' hx _ => ?_)
    rw [List.getElem?_eq_none (Nat.le_refl _)]
    exact wpAny_pure (hR h' c (fun b o h1 h2 e => hx b o h2 (hkeep b o h1 h2 e)) (by rw [hx S _ hSI hS, List.take_length]))
  | succ k ih =>
    intro i h c hk hi hst ho hkeep hS
    have hlt : i < us.length := by exact o632 hk
    have hx : us[i]? = some us[i] := List.getElem?_eq_getElem hlt
    refine codeAny_builtin PySem.F.entry_extend_loop ?_
    rw [Around.under_plainId PySem.F.plain_extend_loop _]
    show wpAny _ A.in1 (pyNext (.ref I) >>= _) _ _ _
    refine wpAny_bind (wpAny_pyNext_set (s := { s with heap := h }) (A := A.in1) hh ho T haI hst hi fun h' hxt hst' => ?_)
    have hst2 := hst' _ hx
    rw [hx]
    have hS' := hxt S _ hSI hS
    have hzl : (us.take i).length ≤ 1000 := by rw [List.length_take]; exact o633 hn
    show wpAny _ A.in1 (updateSeq S (·.push us[i]) >>= _) _ _ _
    refine wpAny_bind (wpAny_updateSeq hS' rfl (wpAny_pure ⟨plainId_quiet PySem.F.plain_extend_loop _, ?_⟩) (by rw [List.size_toArray, sizeLine_eq]; exact o3 hzl) (by show ((us.take i).toArray.push us[i]).size ≤ sizeLine + 1; rw [Array.size_push, List.size_toArray, sizeLine_eq]; exact o634 hzl))
    have up : ∀ b o, b ≠ S → h'.get? b = some o → (h'.update S (Obj.mapSeq (·.push us[i]))).get? b = some o := fun b o hb e => (Heap.get?_update_other _ _ (Ne.symm hb)).trans e
    refine ih (i + 1) _ (if ((us.take i).toArray.push us[i]).size == (us.take i).toArray.size then c else c + 1) (by exact o635 hk) hlt (hst2.turn hS' rfl up) (up a _ haS (hxt a _ haI.symm ho)) (fun b o h1 h2 e => up b o h1 (hxt b o h2 (hkeep b o h1 h2 e))) ?_
    rw [Heap.get?_update_self (Obj.mapSeq (·.push us[i])) hS' rfl]
    show some (lstObj _ _) = _
    rw [List.take_add_one, hx]
    simp [Obj.mapSeq]

theorem set_extend {R : Result → Shared → Prop} (hh : A.handled = none) (ho : s.heap.get? a = some (setObj es ep t)) (T : Tab (byText w) t es.size) (hn : es.size ≤ 1000) (S : Addr) (haS : a ≠ S) (res : Value) (c₀ : Nat) (hS : s.heap.get? S = some (lstObj [] c₀))
    (hR : ∀ h' d c us, us.Perm (es.toList.map (·.2)) → (∀ b o, b ≠ S → s.heap.get? b = some o → h'.get? b = some o) → h'.get? S = some (lstObj us c) → R (.ok (.ret res)) { s with heap := h', drawn := d }) :
    wpAny (model prog w) A.in1 (Builtin.List.listExtendWith (.ref S) (.ref a) res)
      (fun fin s' => match fin with | .done f => R (.ok f) s' | .again c' => c'.quiet = true ∧ codeAny (model prog w) A c' R s') (fun e s' => R (.error e) s') s := by
  have hT : s.TypeIs (.ref a) "set" := ⟨_, ho, rfl⟩
  unfold Builtin.List.listExtendWith
  refine wpAny_bind (wpAny_typeOf (T := "set") hT ?_)
  have h1 : Builtin.List.listSameRef (.ref S) (.ref a) = false := by simp [Builtin.List.listSameRef, Ne.symm haS]
  have h2 : (Value.type "set" == Value.type "list") = false := by decide
  have h3 : (Value.type "set" == Value.type "tuple") = false := by decide
  simp only [h1, h2, h3, Bool.or_false, Bool.false_eq_true, if_false]
  refine wpAny_bind (wpAny_pyIter_set ho T hn fun it h2 d us hst hp kk hit => ?_)
  have ul : us.length = es.size := by rw [hp.length_eq, List.length_map, Array.length_toList]
  have nS : S ≠ it := fun q => by rw [← q, hS] at hit; cases hit
  have na : it ≠ a := fun q => by rw [q, ho] at hit; cases hit
  have key : ∀ (h : Heap) (c₁ : Nat), (∀ b o, b ≠ S → h2.get? b = some o → h.get? b = some o) → h.get? S = some (lstObj [] c₁) →
      codeAny (model prog w) A (.builtin "list.extend.loop" ⟨[.ref S, .ref it, res], []⟩) R { s with heap := h, drawn := d } := by
    intro h c₁ hk hS₁
    refine set_loop (s := { s with heap := h, drawn := d }) (us := us) (h₁ := h2) hh T nS haS na (by exact o7 hn ul) res (fun h' c k hS' => ?_) us.length 0 h c₁ (Nat.sub_zero _) (Nat.zero_le _) (hst.turn (kk S _ hS) rfl hk) (hk a _ haS (kk a _ ho)) (fun b o hb _ e => hk b o hb e) hS₁
    exact hR h' d c us hp (fun b o hb e => k b o hb (fun q => by rw [q, hit] at e; cases e) (kk b o e)) hS'
  have hS₁ := kk S _ hS
  refine wpAny_bind (wpAny_holding (set_hint (s := { s with heap := h2, drawn := d }) ⟨_, kk a _ ho, rfl⟩ ?_))
  refine wpAny_ite_split (fun _ => ?_) (fun _ => wpAny_pure ⟨plainId_quiet PySem.F.plain_extend_loop _, key _ c₀ (fun b o _ e => e) hS₁⟩)
  refine wpAny_bind (wpAny_rule ?_)
  refine wpAny_bind ?_
  show wpAny _ _ (updateSeq S (·.push .none) >>= fun _ => updateSeq S (·.pop)) _ _ _
  refine wpAny_bind (wpAny_updateSeq hS₁ rfl ?_ (by simp) (by simp [sizeLine_eq]))
  have hS₂ := Heap.get?_update_self (Obj.mapSeq (·.push Value.none)) hS₁ rfl
  refine wpAny_updateSeq (hz := by seq_fits) hS₂ rfl ?_
  have hS₃ := Heap.get?_update_self (Obj.mapSeq (·.pop)) hS₂ rfl
  refine wpAny_pure ⟨plainId_quiet PySem.F.plain_extend_loop _, key _ _ (fun b o hb e => ?_) hS₃⟩
  exact (Heap.get?_update_other _ _ (Ne.symm hb)).trans ((Heap.get?_update_other _ _ (Ne.symm hb)).trans e)

theorem collect_set {R : List Value → Shared → Prop} (hh : A.handled = none) (ho : s.heap.get? a = some (setObj es ep t)) (T : Tab (byText w) t es.size) (hn : es.size ≤ 1000)
    (h : ∀ h' d us, us.Perm (es.toList.map (·.2)) → (∀ b o, s.heap.get? b = some o → h'.get? b = some o) → R us { s with heap := h', drawn := d }) :
    wpAny (model prog w) A (collect (.ref a)) R E s := by
  have ha : a < s.heap.objs.size := Heap.lt_size ho
  unfold collect
  refine wpAny_bind (wpAny_runValue (codeAny_builtin entry_proto_collect' ?_))
  rw [Around.under_plainId PySem.F.plain_proto_collect _]
  show wpAny _ A.in1 (newList [] >>= fun l => again (.builtin "list.__iadd__" ⟨[l, .ref a], []⟩)) _ _ s
  refine wpAny_bind (wpAny_newObj_type ?_)
  refine wpAny_pure ⟨plainId_quiet PySem.F.plain_list_iadd _, codeAny_builtin entry_list_iadd' ?_⟩
  rw [Around.under_plainId PySem.F.plain_list_iadd _]
  have hS₁ : (s.heap.push { cls := .type "list", data := .seq ([] : List Value).toArray }).get? s.heap.objs.size = some (lstObj [] 0) := Heap.get?_push_size _ rfl
  show wpAny _ A.in1 (Builtin.List.listExtendWith (.ref s.heap.objs.size) (.ref a) (.ref s.heap.objs.size)) _ _ _
  have key := set_extend (prog := prog) (A := A) (s := { s with heap := s.heap.push { cls := .type "list", data := .seq ([] : List Value).toArray } })
    (R := fun (q : Result) (s' : Shared) => Sm4 fun h' d c us => An5 (q = .ok (.ret (.ref s.heap.objs.size))) (s' = { s with heap := h', drawn := d }) (us.Perm (es.toList.map (·.2))) (∀ b o, s.heap.get? b = some o → h'.get? b = some o) (h'.get? s.heap.objs.size = some (lstObj us c)))
    hh (Heap.get?_push_of_some _ ho) T hn s.heap.objs.size (Nat.ne_of_lt ha) (.ref s.heap.objs.size) 0 hS₁
    fun h' d c us hp k hS' => ⟨h', d, c, us, rfl, rfl, hp, fun b o e => k b o (Nat.ne_of_lt (Heap.lt_size e)) (Heap.get?_push_of_some _ e), hS'⟩
  refine wpAny_mono key (fun fin s' x => ?_) fun e s' x => ?_
  · cases fin with
    | done f =>
      obtain ⟨h', d, c, us, e, rfl, hp, k, hS'⟩ := x
      cases e
      show wpAny _ A (load s.heap.objs.size >>= _) _ _ _
      refine wpAny_bind (wpAny_load hS' ?_)
      refine wpAny_pure ?_
      exact h h' d us hp k
    | again c₁ =>
      refine ⟨x.1, codeAny_mono x.2 fun q s₂ y => ?_⟩
      obtain ⟨h', d, c, us, rfl, rfl, hp, k, hS'⟩ := y
      show wpAny _ A (load s.heap.objs.size >>= _) _ _ _
      refine wpAny_bind (wpAny_load hS' ?_)
      refine wpAny_pure ?_
      exact h h' d us hp k
  · obtain ⟨_, _, _, _, e', _⟩ := x
    cases e'
end
end Mine

open PySem PySem.W PyProof.Rows PySem.SeqAt PySem.Calls
set_option Elab.async false
set_option maxRecDepth 100000
set_option linter.unusedVariables false
namespace Mine

theorem Tab.fresh (b : Bool) : Tab b (.fresh 0 0 (!b)) 0 := ⟨rfl, Nat.zero_le _, by simp [SetTable.fresh], rfl, fun h => by subst h; rfl⟩

/-- what an item's joining does -/
structure Adds (prog : Program) (w : World) (A : Around) (S : Addr) (us : List Value) (Inv : Nat → Heap → Array (Int × Value) → SetTable → Prop) : Prop where
  keep : ∀ i h h' es t, Inv i h es t → (∀ b o, h.get? b = some o → (o.cls = .type "tuple" → h'.get? b = some o)) → Inv i h' es t
  add : ∀ (i : Nat) (s : Shared) (es : Array (Int × Value)) (ep : Nat) (t : SetTable) (v : Value) (E : Value → Shared → Prop) (Q : Bool → Shared → Prop), us[i]? = some v → s.heap.get? S = some (setObj es ep t) → Tab (byText w) t es.size → Inv i s.heap es t →
    (∀ r h' es' ep' t' tk, Heap.SameBut S s.heap h' → h'.get? S = some (setObj es' ep' t') → Tab (byText w) t' es'.size → Inv (i + 1) h' es' t' → Q r { s with heap := h', toks := tk }) → wpAny (model prog w) A (setAdd S v) Q E s

section
variable {prog : Program} {w : World} {A : Around} {R : Result → Shared → Prop} {E : Value → Shared → Prop}

theorem set_fill {I S ax : Addr} {us : List Value} {n : Nat} {P : Nat → Value → Prop} {St : Nat → Heap → Prop} {Inv : Nat → Heap → Array (Int × Value) → SetTable → Prop} (Wk : Walks prog w A.in1 I [I, ax] [I] n P St) (hn : n = us.length) (hP : ∀ i v, P i v → us[i]? = some v)
    (hSI : S ≠ I) (hSx : S ≠ ax) (Ad : Adds prog w A.in1 S us Inv)
    (nI : ∀ (h : Heap) i o, St i h → h.get? I = some o → o.cls ≠ .type "tuple") :
    ∀ (k i : Nat) (s : Shared) (es : Array (Int × Value)) (ep : Nat) (t : SetTable), n - i = k → i ≤ n → St i s.heap → s.heap.get? S = some (setObj es ep t) → Tab (byText w) t es.size → Inv i s.heap es t →
      (∀ h' tk es' ep' t', (∀ b o, b ≠ S → b ≠ I → s.heap.get? b = some o → h'.get? b = some o) → h'.get? S = some (setObj es' ep' t') → Tab (byText w) t' es'.size → Inv n h' es' t' → R (.ok (.ret .none)) { s with heap := h', toks := tk }) →
      codeAny (model prog w) A (.builtin "set.update.loop" ⟨[.ref S, .ref I], []⟩) R s := by
  have notI : ∀ (h h' : Heap) i, St i h → (∀ b o, b ∉ [I] → h.get? b = some o → h'.get? b = some o) → ∀ b o, h.get? b = some o → (o.cls = .type "tuple" → h'.get? b = some o) := fun h h' i st k b o e c =>
    k b o (fun m => by rw [List.mem_singleton] at m; exact nI h i o st (m ▸ e) c) e
  intro k
  induction k with
  | zero =>
    intro i s es ep t hk hi hst hS T inv hR
    have hin : i = n := by exact o631 hk hi
    subst hin
    refine codeAny_builtin F.entry_set_update_loop ?_
    rw [Around.under_plainId F.plain_set_update_loop _]
    show wpAny _ A.in1 (pyNext (.ref I) >>= _) _ _ s
    refine wpAny_bind (Wk.done s _ _ hst fun h' tk hk' => ?_)
    show wpAny _ A.in1 (ret Value.none) _ _ _
    exact wpAny_pure (hR h' tk es ep t (fun b o _ h2 e => hk' b o (by simpa using h2) e) (hk' S _ (by simpa using hSI) hS) T (Ad.keep _ _ _ _ _ inv (notI _ _ _ hst hk')))
  | succ k ih =>
    intro i s es ep t hk hi hst hS T inv hR
    have hlt : i < n := by exact o632 hk
    refine codeAny_builtin F.entry_set_update_loop ?_
    rw [Around.under_plainId F.plain_set_update_loop _]
    show wpAny _ A.in1 (pyNext (.ref I) >>= _) _ _ s
    refine wpAny_bind (Wk.item i s _ _ hlt hst fun v h1 tk hv hst1 hk1 => ?_)
    show wpAny _ A.in1 (holding [v] (setAdd S v) >>= _) _ _ _
    refine wpAny_bind (wpAny_holding ?_)
    refine Ad.add i { s with heap := h1, toks := tk } es ep t v _ _ (hP i v hv) (hk1 S _ (by simpa using hSI) hS) T (Ad.keep _ _ _ _ _ inv (notI _ _ _ hst hk1)) fun r h2 es2 ep2 t2 tk2 hs2 hS2 T2 inv2 => ?_
    refine wpAny_pure ⟨plainId_quiet F.plain_set_update_loop _, ih (i + 1) _ es2 ep2 t2 (by exact o635 hk) hlt (Wk.frame _ _ _ hst1 fun b hb o e => ?_) hS2 T2 inv2 fun h' tk' es' ep' t' hk' a1 a2 a3 => ?_⟩
    · have : b ≠ S := fun q => by
        subst q
        rcases List.mem_cons.mp hb with q | q
        · exact hSI q
        · exact hSx (by simpa using q)
      exact (hs2.2 b this).trans e
    · exact hR h' tk' es' ep' t' (fun b o h1' h2' e => hk' b o h1' h2' ((hs2.2 b h1').trans (hk1 b o (by simpa using h2') e))) a1 a2 a3

theorem code_set_new' (a : Value) {s : Shared} {Q₁ : Value → Shared → Prop}
    (h : Q₁ (.ref s.heap.objs.size) { s with heap := s.heap.push (setObj #[] 0 (.fresh 0 0 (!byText w))) }) :
    codeAny (model prog w) A (.call (.builtin "set.__new__") ⟨[.type "set", a], []⟩) (wants Q₁ E) s := by
  refine codeAny_of_tree ?_
  show wpAny _ A.in1 (do checkBuiltinCall "set.__new__" ⟨[.type "set", a], []⟩; again (.builtin "set.__new__" ⟨[.type "set", a], []⟩)) _ _ s
  refine wpAny_bind (wpAny_of_eq (PySem.F.newCall_set_1 a) (wpAny_pure ⟨plainId_quiet PySem.F.plain_set_new _, codeAny_builtin PySem.F.entry_set_new ?_⟩))
  rw [Around.under_plainId PySem.F.plain_set_new _]
  unfold Builtin.«set.__new__» Builtin.Frozenset.newClass
  have hsub := sub_set_self
  obtain ⟨hp, g, d, tk, os⟩ := s
  dsimp only
  wp_walk
  refine wpAny_askSetting (wpAny_pure ?_)
  dsimp only
  simp only [newObj]
  refine wpAny_bind (wpAny_alloc (wpAny_pure ?_))
  exact wpAny_pure h

set_option maxHeartbeats 3200000 in
theorem call_set {l : Addr} {TN : String} {us : List Value} {n : Nat} {P : Nat → Value → Prop} {St : Addr → Nat → Heap → Prop} {itob : Obj} {Inv : Nat → Heap → Array (Int × Value) → SetTable → Prop} {s : Shared} {Q : Value → Shared → Prop} (hh : A.handled = none)
    (hT : s.TypeIs (.ref l) TN) (h1 : isSubtype (.type TN) (.type "set") = pure false) (h2 : isSubtype (.type TN) (.type "frozenset") = pure false) (h3 : (Value.type TN == Value.type "dict") = false)
    (hit : ∀ (A' : Around) (s' : Shared) (E : Value → Shared → Prop) (Z : Value → Shared → Prop), (∀ b o, s.heap.get? b = some o → s'.heap.get? b = some o) → Z (.ref s'.heap.objs.size) { s' with heap := s'.heap.push itob } → wpAny (model prog w) A' (pyIter (.ref l)) Z E s')
    (hic : ∀ T, itob.cls = .type T → T ≠ "tuple") (hf : itob.isFreed = false)
    (hst : ∀ (h' : Heap) I, (∀ b o, s.heap.get? b = some o → h'.get? b = some o) → h'.get? I = some itob → St I 0 h')
    (Wk : ∀ (A' : Around) I, A'.handled = none → l ≠ I → Walks prog w A' I [I, l] [I] n P (St I)) (hn : n = us.length) (hP : ∀ i v, P i v → us[i]? = some v)
    (nI : ∀ I (h : Heap) i o, St I i h → h.get? I = some o → o.cls ≠ .type "tuple")
    (zero : ∀ h', (∀ b o, s.heap.get? b = some o → h'.get? b = some o) → Inv 0 h' #[] (.fresh 0 0 (!byText w)))
    (Ad : ∀ A' S, A'.units ≤ A.units + 4 → s.heap.get? S = none → Adds prog w A' S us Inv)
    (h : ∀ h' tk es ep t, (∀ b o, s.heap.get? b = some o → h'.get? b = some o) → h'.get? s.heap.objs.size = some (setObj es ep t) → Tab (byText w) t es.size → Inv n h' es t → Q (.ref s.heap.objs.size) { s with heap := h', toks := tk }) :
    wpAny (model prog w) A (call (.type "set") [.ref l]) Q E s := by
  obtain ⟨c, tl, hmro⟩ := PySem.F.called_set.mro
  have hmade := PySem.F.called_set.made
  have hsub := PySem.F.called_set.sub
  refine wpAny_call (codeAny_of_tree ?_)
  show wpAny _ _ (callAny (.type "set") _) _ _ _
  refine wpAny_pure ⟨Code.quiet_builtin _ (by decide +kernel), codeAny_builtin PySem.F.entry_type_call ?_⟩
  rw [Around.under_plain (weight_type_call_type "set" [.ref l] []) rfl]
  have k1 := PySem.F.called_set.notType
  have k2 := PySem.F.called_set.canCreate
  have hct := PySem.F.typeCall_set_1 (.ref l)
  repeat (any_goals (first | assumption | wp_step))
  refine codeAny_mono (code_set_new' (.ref l) (E := E) (Q₁ := fun obj s₁ => obj = .ref s.heap.objs.size ∧ s₁ = { s with heap := s.heap.push (setObj #[] 0 (.fresh 0 0 (!byText w))) }) ⟨rfl, rfl⟩) fun r s₁ hr => ?_
  cases r with
  | error e => exact hr
  | ok fl =>
    cases fl with
    | ret obj =>
      obtain ⟨rfl, rfl⟩ := hr
      have hS : (s.heap.push (setObj #[] 0 (.fresh 0 0 (!byText w)))).get? s.heap.objs.size = some (setObj #[] 0 (.fresh 0 0 (!byText w))) := Heap.get?_push_size _ rfl
      have hTS : Shared.TypeIs { s with heap := s.heap.push (setObj #[] 0 (.fresh 0 0 (!byText w))) } (.ref s.heap.objs.size) "set" := ⟨_, hS, rfl⟩
      have hli := PySem.F.called_set.init.lookup
      have hbi := PySem.F.called_set.init.bind (.ref s.heap.objs.size)
      repeat (any_goals (first | assumption | wp_step))
      have kk : ∀ b o, s.heap.get? b = some o → (s.heap.push (setObj #[] 0 (.fresh 0 0 (!byText w)))).get? b = some o := fun b o e => Heap.get?_push_of_some _ e
      have hn0 : s.heap.get? s.heap.objs.size = none := by
        cases q : s.heap.get? s.heap.objs.size with
        | none => rfl
        | some o => exact absurd (Heap.lt_size q) (Nat.lt_irrefl _)
      refine codeAny_mono (codeAny_call_builtin (R := wants (fun r s₂ => r = .none ∧ (Sm5 fun h' tk es ep t => An5 (s₂ = { s with heap := h', toks := tk }) (∀ b o, s.heap.get? b = some o → h'.get? b = some o) (h'.get? s.heap.objs.size = some (setObj es ep t)) (Tab (byText w) t es.size) (Inv n h' es t))) E)
        PySem.F.called_set.init.plain PySem.F.entry_set_init (PySem.check_set_init_1 hTS ?_)) fun r₂ s₂ hr₂ => ?_
      · have hTl : Shared.TypeIs { s with heap := s.heap.push (setObj #[] 0 (.fresh 0 0 (!byText w))) } (.ref l) TN := by
          obtain ⟨o, ho, hc⟩ := hT
          exact ⟨o, kk _ _ ho, hc⟩
        have hll : l < s.heap.objs.size := by
          obtain ⟨o, ho, hc⟩ := hT
          exact Heap.lt_size ho
        unfold Builtin.«set.__init__» noKeywords Builtin.Frozenset.updateFrom
        generalize hPI : pyIter = PI
        wp_walk
        subst hPI
        refine hit _ { s with heap := s.heap.push (setObj #[] 0 (.fresh 0 0 (!byText w))) } _ _ kk ?_
        refine wpAny_bind (wpAny_runValue ?_)
        have hsz : (s.heap.push (setObj #[] 0 (.fresh 0 0 (!byText w)))).objs.size = s.heap.objs.size + 1 := Heap.size_push ..
        have hI : ((s.heap.push (setObj #[] 0 (.fresh 0 0 (!byText w)))).push itob).get? (s.heap.objs.size + 1) = some itob := by rw [← hsz]; exact Heap.get?_push_size _ hf
        have kk2 : ∀ b o, s.heap.get? b = some o → ((s.heap.push (setObj #[] 0 (.fresh 0 0 (!byText w)))).push itob).get? b = some o := fun b o e => Heap.get?_push_of_some _ (kk b o e)
        dsimp only
        rw [hsz]
        have ad := Ad A.in1.in1.in1 s.heap.objs.size (by show A.units + 1 + 1 + 1 ≤ _; exact o636) hn0
        refine set_fill (A := A.in1.in1) (Wk A.in1.in1.in1 (s.heap.objs.size + 1) hh (Nat.ne_of_lt (Nat.lt_succ_of_lt hll))) hn hP (Nat.ne_of_lt (Nat.lt_succ_self _)) (Nat.ne_of_gt hll) ad (nI _) (n - 0) 0 _ #[] 0 (.fresh 0 0 (!byText w)) rfl (Nat.zero_le _) (hst _ _ kk2 hI) (Heap.get?_push_of_some _ hS) (.fresh _) (zero _ kk2) fun h' tk es ep t hk' a1 a2 a3 => ?_
        refine wpAny_pure (wpAny_pure ⟨rfl, h', tk, es, ep, t, rfl, fun b o e => ?_, a1, a2, a3⟩)
        have := Heap.lt_size e
        exact hk' b o (Nat.ne_of_lt this) (Nat.ne_of_lt (Nat.lt_succ_of_lt this)) (kk2 b o e)
      · cases r₂ with
        | error e => exact hr₂
        | ok fl₂ =>
          cases fl₂ with
          | ret r =>
            obtain ⟨rfl, h', tk, es, ep, t, rfl, k', hS', T', inv'⟩ := hr₂
            repeat (any_goals (first | assumption | wp_step))
            exact h _ _ _ _ _ k' hS' T' inv'
          | _ => exact hr₂.elim
    | _ => exact hr.elim
end
end Mine

open PySem PySem.W PyProof.Rows PySem.SeqAt PySem.Calls
set_option Elab.async false
set_option maxRecDepth 100000
set_option linter.unusedVariables false
namespace Mine

theorem Tab.standIn {b t n m} (T : Tab b t n) : Tab b (t.standIn m) m where
  size := by simp [SetTable.standIn]
  fill := by show m ≤ 4 * m + 4; exact o637
  rise := by show (Array.range m).toList.Pairwise _; rw [Array.toList_range]; exact List.pairwise_lt_range
  dum := rfl
  led := T.led
theorem Tab.of_fits {b : Bool} {t : SetTable} {n : Nat} (hf : t.fits n = true) (rise : t.place.toList.Pairwise (· < ·)) (dum : t.dummies = #[]) (led : b = false → t.led = true) : Tab b t n := by
  simp only [SetTable.fits, Bool.and_eq_true, beq_iff_eq, decide_eq_true_eq] at hf
  refine ⟨hf.1, ?_, rise, dum, led⟩
  have := hf.2
  rw [SetTable.fill, dum, hf.1] at this
  simpa using this
theorem Tab.noPlain {b t n} (T : Tab b t n) : Tab b { t with plain := false } n := ⟨T.size, T.fill, T.rise, T.dum, T.led⟩
theorem insertAt_size {α : Type} (xs : Array α) (p : Nat) (x : α) : (SetTable.insertAt xs p x).size = xs.size + 1 := by
  have := (SetTable.insertAt_perm xs p x).length_eq
  simpa using this
theorem put_tab {b t n j} (T : Tab b t n) (he : t.slot j = .empty) : An8 ((t.put j).1.place = SetTable.insertAt t.place (SetTable.below t.place j) j) ((t.put j).1.place.size = n + 1) ((t.put j).1.place.toList.Pairwise (· < ·)) ((t.put j).1.dummies = #[]) ((t.put j).1.led = t.led) ((t.put j).1.mask = t.mask) ((t.put j).1.plain = t.plain) ((t.put j).2 = SetTable.below t.place j) := by
  refine ⟨rfl, ?_, rise_ins T.rise (slot_empty T.rise he), ?_, rfl, rfl, rfl, rfl⟩
  · show (SetTable.insertAt _ _ _).size = _
    rw [insertAt_size, T.size]
  · show (if SetTable.has t.dummies j = true then _ else t.dummies) = _
    rw [T.dum, has_none]; simp
theorem lay_tab {b : Bool} {t : SetTable} {es : Array (Int × Value)} (h : Int) (x : Value) (T : Tab b t es.size) : Tab b (layNew t es h x).2.1 (layNew t es h x).1.size := by
  have hs := layNew_fits t es h x
  unfold layNew at hs ⊢
  cases q : t.freeSlot h with
  | none =>
    dsimp only
    rw [Array.size_push]
    exact T.standIn
  | some p =>
    obtain ⟨j, d⟩ := p
    rw [q] at hs
    dsimp only at hs ⊢
    have he : t.slot j = .empty := by
      unfold SetTable.freeSlot SetTable.probe at q
      split at q
      · rename_i jj dd e
        obtain ⟨rfl, e2⟩ := go_empty T.dum _ _ rfl e
        cases q
        exact e2
      · cases q
    obtain ⟨p1, p2, p3, p4, p5, p6, p7, p8⟩ := put_tab T he
    unfold SetTable.orStandIn at hs ⊢
    split
    · rename_i hf
      exact .of_fits hf p3 p4 (by rw [p5]; exact T.led)
    · exact T.standIn
theorem relay_tab {b : Bool} {t : SetTable} {es : Array (Int × Value)} (wanted : Nat) (T : Tab b t es.size) : Tab b (relayAll t es wanted).2.1 (relayAll t es wanted).1.size := by
  unfold relayAll
  cases q : t.relaid (es.map (·.1)) wanted with
  | none => exact T.standIn
  | some p =>
    obtain ⟨t', order⟩ := p
    obtain ⟨h1, h2, h3, _⟩ := laid_shape q
    dsimp only
    split
    · rename_i hf
      rw [Bool.and_eq_true] at hf
      exact .of_fits hf.2 h1 h2 (by rw [h3]; exact T.led)
    · exact T.standIn

section
variable {prog : Program} {w : World} {A : Around} {E : Value → Shared → Prop} {s : Shared}
theorem wpAny_store {S : Addr} {es : Array (Int × Value)} {ep : Nat} {t : SetTable} {es' : Array (Int × Value)} {t' : SetTable} {Q : Unit → Shared → Prop} (ho : s.heap.get? S = some (setObj es ep t)) (hz : es'.size ≤ 1000)
    (h : ∀ h', Heap.SameBut S s.heap h' → h'.get? S = some (setObj es' (ep + 1) t') → Q () { s with heap := h' }) : wpAny (model prog w) A (storeSet S es' t') Q E s := by
  refine wpAny_storeSet_of ho rfl (h _ (Heap.SameBut.update ..) ?_) (by rw [sizeLine_eq]; exact o3 hz)
  have := Heap.get?_update_self (Obj.putSet es' t') ho (by rw [putSet_of es' t' rfl]; rfl)
  rw [putSet_of es' t' rfl] at this
  exact this

def vInt : Value → Int
  | .int k _ => k
  | _ => 0
def InvI (w : World) (is : List Int) (i : Nat) (es : Array (Int × Value)) : Prop :=
  (∀ e ∈ es.toList, (∃ tk, e.2 = .int (vInt e.2) tk) ∧ e.1 = hashInt (vInt e.2)) ∧ (es.toList.map fun e => vInt e.2).Nodup ∧ (∀ x, x ∈ (es.toList.map fun e => vInt e.2) ↔ x ∈ is.take i) ∧ es.size ≤ i
theorem InvI.elems {is i es} (v : InvI w is i es) : ElemsOf (intKind prog w) es.toList := fun e he => by
  obtain ⟨⟨tk, h1⟩, h2⟩ := v.1 e he
  refine ⟨⟨vInt e.2, ?_, h2⟩, ?_⟩
  · rw [h1]; exact intIs ..
  · rw [h1]; rfl
theorem InvI.perm {is : List Int} {i : Nat} {es es' : Array (Int × Value)} (v : InvI w is i es) (p : es'.toList.Perm es.toList) : InvI w is i es' := by
  obtain ⟨a, b, c, d⟩ := v
  have pm := p.map fun e => vInt e.2
  refine ⟨fun e he => a e (p.mem_iff.mp he), pm.nodup_iff.mpr b, fun x => (pm.mem_iff).trans (c x), ?_⟩
  have := p.length_eq
  simp only [Array.length_toList] at this
  exact o638 d this

theorem invI_zero {is : List Int} : InvI w is 0 #[] := ⟨fun _ h => by simp at h, by simp, fun x => by simp, Nat.le_refl _⟩
theorem adds_int {S : Addr} {us : List Value} {is : List Int} (hI : PyProof.Rows.IntsAre us is) (hl : is.length ≤ 60) : Adds prog w A S us fun i _ es _ => InvI w is i es where
  keep := fun _ _ _ _ _ v _ => v
  add := fun i s es ep t v E Q hv ho T inv hQ => by
    have hlt : i < us.length := (List.getElem?_eq_some_iff.mp hv).1
    have hul := PyProof.Rows.IntsAre.length hI
    obtain ⟨tk, rfl⟩ := PyProof.Rows.IntsAre.int_at hI i v hv
    have hx : is[i]? = some (is.getD i 0) := by
      have : i < is.length := by exact o639 hlt hul
      simp [this]
    generalize is.getD i 0 = k at hx
    have hin : ∀ x, x ∈ is.take (i + 1) ↔ x ∈ is.take i ∨ x = k := fun x => by
      rw [List.take_add_one, hx]; simp
    have hf := T.fits
    have hel := inv.elems (prog := prog)
    have hsz := inv.2.2.2
    have hk := intIs prog w k tk
    unfold setAdd
    refine wpAny_holding (wpAny_bind ((intKind prog w).pyHash (k := k) hk ?_))
    unfold setAddHashed setAddHashedIn
    refine wpAny_holding (wpAny_bind (wpAny_setState_of (s := { s with toks := s.toks + 1 }) ho rfl hf ?_))
    dsimp only
    rw [byScan_of (knd := intKind prog w) rfl (by unfold scanBound; exact o640 hl hlt hul hsz) hel]
    simp only [↓reduceIte]
    unfold setAddByScan
    refine wpAny_bind ?_
    refine wpAny_bind (wpAny_rule ?_)
    refine wpAny_bind (wpAny_setScan_of (knd := intKind prog w) hk ho rfl hf hel ?_)
    cases hr : List.findIdx? (fun e : Int × Value => (intKind prog w).is k e.2) es.toList with
    | some j =>
      dsimp only
      obtain ⟨hj, hpj, _⟩ := List.findIdx?_eq_some_iff_getElem.mp hr
      refine wpAny_pure (wpAny_pure (hQ _ s.heap es ep t _ (Heap.SameBut.refl ..) ho T ⟨inv.1, inv.2.1, fun x => ?_, by exact o468 hsz⟩))
      rw [inv.2.2.1, hin]
      refine ⟨.inl, fun z => z.elim id fun q => ?_⟩
      subst q
      rw [← inv.2.2.1]
      refine List.mem_map.mpr ⟨es.toList[j], List.getElem_mem hj, ?_⟩
      obtain ⟨tk', h1⟩ := (inv.1 _ (List.getElem_mem hj)).1
      rw [h1] at hpj
      have : x = vInt es.toList[j].2 := by
        have hpj' : Value.isInt x (.int (vInt es.toList[j].2) tk') = true := hpj
        obtain ⟨t2, e2⟩ := Value.isInt_shape hpj'
        cases e2; rfl
      exact this.symm
    | none =>
      dsimp only
      have hnew : k ∉ (es.toList.map fun e => vInt e.2) := fun hm => by
        obtain ⟨e, he, hke⟩ := List.mem_map.mp hm
        have := List.findIdx?_eq_none_iff.mp hr e he
        obtain ⟨tk', h1⟩ := (inv.1 _ he).1
        rw [hke] at h1
        rw [h1, intIs] at this
        cases this
      have hgw : ∀ (b : Bool) {s₁ : Shared} {Q' : Unit → Shared → Prop}, Q' () s₁ → wpAny (model prog w) A (match b with | true => rule "set.scan.the-table-gave-way" | false => pure ()) Q' E s₁ :=
        fun b s₁ Q' hq => by cases b <;> first | exact wpAny_pure hq | exact wpAny_rule hq
      have hperm := layNew_perm t es ((intKind prog w).hash k) (.int k tk)
      have htab := lay_tab ((intKind prog w).hash k) (.int k tk) T
      generalize hL : layNew t es ((intKind prog w).hash k) (.int k tk) = L at hperm htab ⊢
      obtain ⟨es1, t1, wasDummy, gave⟩ := L
      dsimp only at hperm htab ⊢
      rw [Array.toList_push] at hperm
      have inv1 : InvI w is (i + 1) es1 := by
        have pm := hperm.map fun e => vInt e.2
        rw [List.map_append] at pm
        refine ⟨fun e he => ?_, pm.nodup_iff.mpr ?_, fun x => ?_, ?_⟩
        · rcases List.mem_append.mp (hperm.mem_iff.mp he) with q | q
          · exact inv.1 e q
          · rw [List.mem_singleton] at q; subst q; exact ⟨⟨tk, rfl⟩, rfl⟩
        · refine List.nodup_append.mpr ⟨inv.2.1, by simp, fun a ha b hb q => ?_⟩
          simp only [List.map_cons, List.map_nil, List.mem_singleton] at hb
          subst q hb
          exact hnew ha
        · rw [pm.mem_iff, List.mem_append, inv.2.2.1, hin]
          simp [vInt]
        · have := hperm.length_eq
          simp only [Array.length_toList, List.length_append, List.length_singleton] at this
          exact o641 hsz this
      have hes1 := inv1.2.2.2
      refine wpAny_bind (hgw _ ?_)
      have tail : ∀ (g : Bool → Sem Unit), (∀ (b : Bool) (s₁ : Shared) (Q' : Unit → Shared → Prop), Q' () s₁ → wpAny (model prog w) A (g b) Q' E s₁) → ∀ (t2 : SetTable) (Z : Option Bool → Shared → Prop), Tab (byText w) t2 es1.size →
          (∀ h' es' ep' t', Heap.SameBut S s.heap h' → h'.get? S = some (setObj es' ep' t') → Tab (byText w) t' es'.size → InvI w is (i + 1) es' → Z (some true) { s with heap := h', toks := s.toks + 1 }) → wpAny (model prog w) A (do
          storeSet S es1 t2
          if (!wasDummy && t2.tooFull) = true then do
              g (relayAll t2 es1 (SetTable.grown es1.size)).2.2
              storeSet S (relayAll t2 es1 (SetTable.grown es1.size)).1 (relayAll t2 es1 (SetTable.grown es1.size)).2.1
              pure (some true)
            else pure (some true)) Z E { s with toks := s.toks + 1 } := fun g hg t2 Z T2 hZ => by
        refine wpAny_bind (wpAny_store (s := { s with toks := s.toks + 1 }) ho (by exact o642 hl hlt hul hes1) fun h1 hs1 ho1 => ?_)
        split
        · have hp2 := relayAll_perm t2 es1 (SetTable.grown es1.size)
          have ht2 := relay_tab (SetTable.grown es1.size) T2
          generalize relayAll t2 es1 (SetTable.grown es1.size) = Rl at hp2 ht2 ⊢
          obtain ⟨es2, t3, gave2⟩ := Rl
          dsimp only at hp2 ht2 ⊢
          have inv2 := inv1.perm hp2
          have := inv2.2.2.2
          refine wpAny_bind (hg _ _ _ ?_)
          refine wpAny_bind (wpAny_store (s := { s with heap := h1, toks := s.toks + 1 }) ho1 (by exact o642 hl hlt hul this) fun h2 hs2 ho2 => ?_)
          exact wpAny_pure (hZ h2 es2 _ t3 (hs1.trans hs2) ho2 ht2 inv2)
        · exact wpAny_pure (hZ h1 es1 _ t2 hs1 ho1 T2 inv1)
      split
      · refine wpAny_bind ?_
        rw [hashByValue_scannable 8 rfl]
        refine wpAny_pure ?_
        refine tail _ ?_ _ _ ?_ ?_
        · intro b s₁ Q' hq; exact hgw b hq
        · split
          · exact htab
          · exact htab.noPlain
        · intro h' es' ep' t' a1 a2 a3 a4; dsimp only; exact wpAny_pure (hQ _ h' es' ep' t' _ a1 a2 a3 a4)
      · refine wpAny_bind (wpAny_pure ?_)
        simp only [↓reduceIte]
        refine tail _ ?_ _ _ htab ?_
        · intro b s₁ Q' hq; exact hgw b hq
        · intro h' es' ep' t' a1 a2 a3 a4; dsimp only; exact wpAny_pure (hQ _ h' es' ep' t' _ a1 a2 a3 a4)
end
end Mine

open PySem PySem.W PyProof.Rows PySem.SeqAt PySem.Calls
set_option Elab.async false
set_option maxRecDepth 100000
set_option linter.unusedVariables false
namespace Mine

theorem probe_some {t : SetTable} {ha : Nat → Int} {h : Int} {p : SetTable.Probe} {n : Nat} {m : SetTable.Met} (hd : t.dummies = #[]) (hn : n < 10 * SetTable.turns t.mask) (hp : p.dummy = none) (hf : Far t p n) (e : t.probe ha h p = some m) :
    (∃ j, m = .empty j none ∧ t.slot j = .empty) ∨ ∃ j i next n', m = .candidate j i next ∧ t.slot j = .live i ∧ next.dummy = none ∧ n' < n ∧ Far t next n' := by
  unfold SetTable.probe at e
  rcases go_far (ha := ha) (h := h) hd _ n p hn hp hf with ⟨j, e2, h2⟩ | ⟨j, i, next, n', e2, h2⟩
  · rw [e2] at e; cases e; exact .inl ⟨j, rfl, h2⟩
  · rw [e2] at e; cases e; exact .inr ⟨j, i, next, n', rfl, h2⟩
theorem probe_none {t : SetTable} {ha : Nat → Int} {h : Int} {p : SetTable.Probe} {n : Nat} (hd : t.dummies = #[]) (hn : n < 10 * SetTable.turns t.mask) (hp : p.dummy = none) (hf : Far t p n) (e : t.probe ha h p = none) : False := by
  unfold SetTable.probe at e
  rcases go_far (ha := ha) (h := h) hd _ n p hn hp hf with ⟨j, e2, h2⟩ | ⟨j, i, next, n', e2, h2⟩ <;> · rw [e2] at e; cases e

def Small (m n : Nat) : Prop := (m = 7 ∧ n ≤ 4) ∨ (m = 31 ∧ n ≤ 7)
theorem Small.orb {m n} (s : Small m n) : orbOk m = true := by
  rcases s with ⟨rfl, _⟩ | ⟨rfl, _⟩
  · exact orb7
  · exact orb31
theorem Small.odd {m n} (s : Small m n) : (m % 2 == 0) = false := by
  rcases s with ⟨rfl, _⟩ | ⟨rfl, _⟩ <;> rfl

abbrev KeyIs (prog : Program) (w : World) (h : Heap) (ks : List Atom) (v : Value) : Prop := ∃ a, v = .ref a ∧ IsTupleKey (atomKind prog w) h ks a
theorem KeyIs.keep {prog w h h' ks v} (x : KeyIs prog w h ks v) (k : ∀ b o, h.get? b = some o → (o.cls = .type "tuple" → h'.get? b = some o)) : KeyIs prog w h' ks v := by
  obtain ⟨a, rfl, o, items, n, ho, hc, hd, hi⟩ := x
  exact ⟨a, rfl, o, items, n, k _ _ ho hc, hc, hd, hi⟩

section
variable {prog : Program} {w : World} {A : Around} {E : Value → Shared → Prop} {s : Shared}

theorem atoms_plain {ks : List Atom} {vs : List Value} (x : ItemsAre (atomKind prog w) ks vs) : ∀ v ∈ vs, (Sm2 fun y t => v = .str y t) ∨ ∃ i t, v = .int i t := by
  induction x with
  | nil => intro v hv; cases hv
  | cons h1 _ ih =>
    intro v hv
    rcases List.mem_cons.mp hv with rfl | hv
    · rcases Atom.isV_shape h1 with ⟨y, t, _, e⟩ | ⟨i, t, _, e⟩
      · exact .inl ⟨y, t, e⟩
      · exact .inr ⟨i, t, e⟩
    · exact ih v hv

theorem ofAClass_atom (n : Nat) {v : Value} (hv : (Sm2 fun y t => v = .str y t) ∨ ∃ i t, v = .int i t) : ofAClassStatement n v = pure false := by
  rcases hv with ⟨y, t, rfl⟩ | ⟨i, t, rfl⟩ <;> cases n <;> rfl
theorem hashBy_atom (n : Nat) {v : Value} (hv : (Sm2 fun y t => v = .str y t) ∨ ∃ i t, v = .int i t) : ∃ b, hashByValue n v = pure b := by
  rcases hv with ⟨y, t, rfl⟩ | ⟨i, t, rfl⟩ <;> cases n <;> exact ⟨_, rfl⟩

theorem wpAny_ofAClass {n : Nat} {ks : List Atom} {v : Value} {Q : Bool → Shared → Prop} (hk : KeyIs prog w s.heap ks v) (h : Q false s) : wpAny (model prog w) A (ofAClassStatement (n + 1) v) Q E s := by
  obtain ⟨a, rfl, o, items, m, ho, hc, hd, hi⟩ := hk
  unfold ofAClassStatement
  refine wpAny_bind (wpAny_typeOf (T := "tuple") ⟨o, ho, hc⟩ ?_)
  dsimp only
  rw [if_pos (by decide)]
  refine wpAny_bind (wpAny_pure ?_)
  rw [if_neg (by simp)]
  refine wpAny_bind (wpAny_seqItems ho hd ?_)
  dsimp only
  refine wpAny_bind ?_
  rw [← Array.forIn_toList]
  refine wpAny_forIn_list _ (fun rest r s' => An3 (r.1 = none) (s' = s) (∀ v ∈ rest, (Sm2 fun y t => v = .str y t) ∨ ∃ i t, v = .int i t)) _ ?_ ?_ _ _ ⟨rfl, rfl, atoms_plain hi⟩
  · rintro v rest r s' ⟨hr, rfl, hall⟩
    rw [ofAClass_atom n (hall v (.head _))]
    refine wpAny_bind (wpAny_pure ?_)
    simp only [Bool.false_eq_true, if_false]
    exact wpAny_pure ⟨rfl, rfl, fun u hu => hall u (.tail _ hu)⟩
  · rintro ⟨r1, r2⟩ s' ⟨hr, rfl, _⟩
    simp only at hr
    subst hr
    exact wpAny_pure h

theorem wpAny_hashBy {n : Nat} {ks : List Atom} {v : Value} {Q : Bool → Shared → Prop} (hk : KeyIs prog w s.heap ks v) (h : ∀ b, Q b s) : wpAny (model prog w) A (hashByValue (n + 1) v) Q E s := by
  obtain ⟨a, rfl, o, items, m, ho, hc, hd, hi⟩ := hk
  unfold hashByValue
  refine wpAny_bind (wpAny_specialOf (T := "tuple") ⟨o, ho, hc⟩ PySem.F.slot_tuple_hash.lookup ?_)
  dsimp only
  refine wpAny_bind (wpAny_seqItems ho hd ?_)
  refine wpAny_bind ?_
  show wpAny _ _ (forIn items _ _) _ _ s
  rw [← Array.forIn_toList]
  refine wpAny_forIn_list _ (fun rest r s' => An3 (r.1 = none) (s' = s) (∀ v ∈ rest, (Sm2 fun y t => v = .str y t) ∨ ∃ i t, v = .int i t)) _ ?_ ?_ _ _ ⟨rfl, rfl, atoms_plain hi⟩
  · rintro v rest r s' ⟨hr, rfl, hall⟩
    obtain ⟨b, hb⟩ := hashBy_atom n (hall v (.head _))
    rw [hb]
    refine wpAny_bind (wpAny_pure ?_)
    cases b with
    | false =>
      simp only [Bool.not_false, if_true]
      first
        | exact wpAny_pure (wpAny_pure (h false))
        | exact wpAny_bind (wpAny_pure (wpAny_pure (wpAny_pure (h false))))
    | true =>
      simp only [Bool.not_true, Bool.false_eq_true, if_false]
      exact wpAny_pure ⟨rfl, rfl, fun u hu => hall u (.tail _ hu)⟩
  · rintro ⟨r1, r2⟩ s' ⟨hr, rfl, _⟩
    simp only at hr
    subst hr
    exact wpAny_pure (h true)

theorem wpAny_couldBeSeen {ks : List Atom} {x : Value} {stored : List Value} {Q : Bool → Shared → Prop} (hk : KeyIs prog w s.heap ks x) (hs : ∀ v ∈ stored, ∃ ks', KeyIs prog w s.heap ks' v) (h : Q false s) : wpAny (model prog w) A (searchCouldBeSeen x stored) Q E s := by
  unfold searchCouldBeSeen
  refine wpAny_bind ?_
  refine wpAny_forIn_list _ (fun rest r s' => An3 (r.1 = none) (s' = s) (∀ v ∈ rest, ∃ ks', KeyIs prog w s.heap ks' v)) _ ?_ ?_ _ _ ⟨rfl, rfl, hs⟩
  · rintro v rest r s' ⟨hr, rfl, hall⟩
    obtain ⟨ks', hv⟩ := hall v (.head _)
    have hr' : ∀ u ∈ rest, ∃ ks', KeyIs prog w s'.heap ks' u := fun u hu => hall u (.tail _ hu)
    obtain ⟨a, rfl, ka⟩ := id hk
    obtain ⟨b, rfl, kb⟩ := id hv
    dsimp only
    refine wpAny_ite_split (fun _ => wpAny_pure ⟨rfl, rfl, hr'⟩) fun _ => ?_
    refine wpAny_bind (wpAny_eqIsQuiet_tuple ka ?_)
    simp only [Bool.not_true, Bool.false_eq_true, if_false]
    refine wpAny_bind (wpAny_eqIsQuiet_tuple kb ?_)
    simp only [Bool.not_true, Bool.false_eq_true, if_false]
    refine wpAny_bind (wpAny_ofAClass hk ?_)
    simp only [Bool.false_eq_true, if_false]
    refine wpAny_bind (wpAny_ofAClass hv ?_)
    simp only [Bool.false_eq_true, if_false]
    exact wpAny_pure ⟨rfl, rfl, hr'⟩
  · rintro ⟨r1, r2⟩ s' ⟨hr, rfl, _⟩
    simp only at hr
    subst hr
    exact wpAny_pure h

theorem wpAny_search {S a : Addr} {es : Array (Int × Value)} {ep : Nat} {t : SetTable} {ks : List Atom} {h : Int} {Q : SetFound → Shared → Prop} (hu : A.units < cLine) (ho : s.heap.get? S = some (setObj es ep t)) (T : Tab (byText w) t es.size) (sm : Small t.mask es.size)
    (hk : IsTupleKey (atomKind prog w) s.heap ks a) (hes : ∀ e ∈ es.toList, ∃ ks', KeyIs prog w s.heap ks' e.2)
    (h1 : (∃ e ∈ es.toList, KeyIs prog w s.heap ks e.2) → Q (.there none) s) (h2 : ∀ j, t.slot j = .empty → Q (.free j false) s) :
    ∀ (fuel n : Nat) (stand : Option SetTable.Probe), n < fuel → n < 10 * SetTable.turns t.mask → (stand.getD (t.probeStart h)).dummy = none → Far t (stand.getD (t.probeStart h)) n → wpAny (model prog w) A (setSearchFrom S (.ref a) h true fuel stand) Q E s := by
  intro fuel
  induction fuel with
  | zero => intro n stand hn _ _ _; exact absurd hn (Nat.not_lt_zero _)
  | succ fuel ih =>
    intro n stand hn hn2 hp hf
    unfold setSearchFrom
    refine wpAny_bind (wpAny_setState_of ho rfl T.fits ?_)
    dsimp only
    rw [if_neg (by show ¬ ((t.mask % 2 == 0) = true); rw [sm.odd]; simp)]
    split
    · rename_i met e
      rcases probe_some T.dum hn2 hp hf e with ⟨j, rfl, hj⟩ | ⟨j, i, next, n', rfl, hj, hd', hn', hf'⟩
      · exact wpAny_pure (h2 j hj)
      · dsimp only
        have hlt : i < es.size := by
          have := (Array.getElem?_eq_some_iff.mp (slot_live hj)).1
          rw [T.size] at this; exact this
        have hei : es[i]? = some es[i] := Array.getElem?_eq_getElem hlt
        have hmem : es[i] ∈ es.toList := by simp
        obtain ⟨ks', b, hb, kb⟩ := hes _ hmem
        generalize hg : es[i] = ei at hei hmem hb
        obtain ⟨hy, y⟩ := ei
        dsimp only at hb
        subst hb
        have go : wpAny (model prog w) A (do
            let equal ← holding [.ref b] (eqBool (.ref b) (.ref a))
            let (es', _, t') ← setState S
            if (true && equal) = true then return .there none
            let some same := t'.sameMemory t.moves t.mask | unsupported "set.changed-during-lookup:is-the-new-block-at-the-old-address"
            let still ← match (if same then t'.slot j else .empty) with
              | .live i' => match es'[i']? with
                | some (_, y') => do pure (if ← isSame y' (.ref b) then some i' else none)
                | none => pure none
              | _ => pure none
            match still with
            | none => rule "set.search.anew"; setSearchFrom S (.ref a) h true fuel none
            | some i' => if equal then return .there (some i') else setSearchFrom S (.ref a) h true fuel (some next)) Q E s := by
          refine wpAny_bind (wpAny_holding (wpAny_eqBool_tuple hu kb hk ?_))
          refine wpAny_bind (wpAny_setState_of ho rfl T.fits ?_)
          dsimp only
          by_cases q : ks' = ks
          · subst q
            rw [if_pos (by simp)]
            exact wpAny_pure (h1 ⟨_, hmem, b, rfl, kb⟩)
          · rw [if_neg (by simp [q])]
            have sm' : t.sameMemory t.moves t.mask = some true := by unfold SetTable.sameMemory; simp
            rw [sm']
            dsimp only
            rw [if_pos rfl, hj]
            dsimp only
            rw [hei]
            dsimp only
            refine wpAny_bind ?_
            unfold isSame
            dsimp only
            rw [if_pos (by simp)]
            refine wpAny_pure (wpAny_bind (wpAny_pure ?_))
            rw [if_pos rfl]
            dsimp only
            rw [if_neg (by simp [q])]
            exact ih n' (some next) (by exact o643 hn hn') (by exact o644 hn2 hn') hd' hf'
        rw [hei]
        dsimp only
        refine wpAny_ite_split (fun _ => ?_) fun _ => go
        refine wpAny_bind (wpAny_couldBeSeen ⟨a, rfl, hk⟩ (fun v hv => ?_) ?_)
        · obtain ⟨e', he', rfl⟩ := List.mem_map.mp hv
          exact hes e' (by simpa using (Array.mem_filter.mp (Array.mem_toList_iff.mp he')).1)
        · rw [if_neg (by simp)]
          exact go
    · rename_i e
      exact (probe_none (h := h) T.dum hn2 hp hf (Option.eq_none_iff_forall_ne_some.mpr fun m hm => e m hm)).elim

def nkey (nd : Node) : List Atom := .s nd.1 :: nd.2.map .i
theorem nkey_v (nd : Node) : (nkey nd).map Atom.V = .str nd.1 :: nd.2.map .int := by
  show V.str nd.1 :: (nd.2.map Atom.i).map Atom.V = _
  rw [List.map_map]; rfl
structure InvN (prog : Program) (w : World) (us : List Value) (ns : List Node) (i : Nat) (h : Heap) (es : Array (Int × Value)) (t : SetTable) : Prop where
  src : ∀ (j : Nat) v, us[j]? = some v → ∃ nd, ns[j]? = some nd ∧ KeyIs prog w h (nkey nd) v
  of : ∀ e ∈ es.toList, ∃ nd ∈ ns.take i, KeyIs prog w h (nkey nd) e.2 ∧ ∃ j : Nat, us[j]? = some e.2 ∧ ns[j]? = some nd
  all : ∀ nd ∈ ns.take i, ∃ e ∈ es.toList, KeyIs prog w h (nkey nd) e.2
  le : es.size ≤ i
  small : Small t.mask es.size

theorem nkey_inj {a b : Node} (h : nkey a = nkey b) : a = b := by
  obtain ⟨x, l⟩ := a
  obtain ⟨y, m⟩ := b
  unfold nkey at h
  simp only [List.cons.injEq, Atom.s.injEq] at h
  obtain ⟨rfl, h2⟩ := h
  have : l = m := (List.map_inj_right (f := Atom.i) (fun _ _ e => by injection e)).mp h2
  subst this; rfl

theorem adds_node {S : Addr} {us : List Value} {ns : List Node} (hu : A.units < cLine) (hl : ns.length ≤ 7) : Adds prog w A S us (InvN prog w us ns) where
  keep := fun i h h' es t v k => ⟨fun j u hj => by
      obtain ⟨nd, h1, h2⟩ := v.src j u hj
      exact ⟨nd, h1, h2.keep k⟩, fun e he => by
      obtain ⟨nd, h1, h2, h3⟩ := v.of e he
      exact ⟨nd, h1, h2.keep k, h3⟩, fun nd hn => by
      obtain ⟨e, h1, h2⟩ := v.all nd hn
      exact ⟨e, h1, h2.keep k⟩, v.le, v.small⟩
  add := fun i s es ep t v E Q hv ho T inv hQ => by
    obtain ⟨nd, hx, a, rfl, hk⟩ := inv.src i v hv
    have hin : ∀ x, x ∈ ns.take (i + 1) ↔ x ∈ ns.take i ∨ x = nd := fun x => by
      rw [List.take_add_one, hx]; simp
    have hi7 : i < 7 := by have := (List.getElem?_eq_some_iff.mp hx).1; exact o645 hl this
    have hf := T.fits
    have hsz := inv.le
    have sm := inv.small
    have hes : ∀ e ∈ es.toList, ∃ ks', KeyIs prog w s.heap ks' e.2 := fun e he => let ⟨nd', _, h2, _⟩ := inv.of e he; ⟨_, h2⟩
    unfold setAdd
    refine wpAny_holding (wpAny_bind ((tupK prog w).pyHash (k := nkey nd) hu hk ?_))
    generalize hT : s.toks + (tupK prog w).draws (nkey nd) = tk
    generalize (tupK prog w).hash (nkey nd) = hh
    have keepS : ∀ h', Heap.SameBut S s.heap h' → ∀ b o, s.heap.get? b = some o → (o.cls = .type "tuple" → h'.get? b = some o) := fun h' hs b o e c => (hs.2 b fun q => by
      subst q; rw [ho] at e; cases e; exact absurd (show Value.type "set" = Value.type "tuple" from c) (by decide)).trans e
    unfold setAddHashed setAddHashedIn
    refine wpAny_holding (wpAny_bind (wpAny_setState_of (s := { s with toks := tk }) ho rfl hf ?_))
    dsimp only
    rw [if_neg (by show ¬ ((Value.scannable (.ref a) && _ && _) = true); simp [Value.scannable])]
    refine wpAny_bind ?_
    unfold setSearch
    obtain ⟨n, hn, hfar⟩ := far_start sm.orb T.dum (by rw [T.size]; exact T.fill) hh
    have h460 : 10 * SetTable.turns t.mask ≤ 460 := by
      unfold SetTable.turns
      rcases sm with ⟨e, _⟩ | ⟨e, _⟩ <;> rw [e] <;> decide
    refine wpAny_search (s := { s with toks := tk }) hu ho T sm hk hes (fun z => ?there) (fun j hj => ?free) 100000 n none (by exact o646 hn h460) hn rfl hfar
    case there =>
      obtain ⟨e, he, ke⟩ := z
      dsimp only
      refine wpAny_pure (hQ _ s.heap es ep t _ (Heap.SameBut.refl ..) ho T ⟨inv.src, fun e he => ?_, fun x hx' => ?_, by exact o468 hsz, sm⟩)
      · obtain ⟨nd', h1, h2, h3⟩ := inv.of e he
        exact ⟨nd', (hin _).mpr (.inl h1), h2, h3⟩
      · rcases (hin _).mp hx' with q | rfl
        · exact inv.all x q
        · exact ⟨e, he, ke⟩
    case free =>
      dsimp only
      refine wpAny_bind (wpAny_setState_of (s := { s with toks := tk }) ho rfl hf ?_)
      dsimp only
      obtain ⟨p1, p2, p3, p4, p5, p6, p7, p8⟩ := put_tab T hj
      have hperm := SetTable.insertAt_perm es (t.put j).2 (hh, Value.ref a)
      have hsz1 := insertAt_size es (t.put j).2 (hh, Value.ref a)
      generalize SetTable.insertAt es (t.put j).2 (hh, Value.ref a) = es1 at hperm hsz1 ⊢
      rw [Array.toList_push] at hperm
      generalize hput : t.put j = P at p1 p2 p3 p4 p5 p6 p7 p8 ⊢
      obtain ⟨t1, pp⟩ := P
      dsimp only at p1 p2 p3 p4 p5 p6 p7 p8 ⊢
      have invAt : ∀ (h' : Heap) (es' : Array (Int × Value)) (t' : SetTable), Heap.SameBut S s.heap h' → es'.toList.Perm es1.toList → Small t'.mask es'.size → InvN prog w us ns (i + 1) h' es' t' := fun h' es' t' hs pm smm => by
        have k := keepS h' hs
        have pm2 := pm.trans hperm
        refine ⟨fun j u hj => ?_, fun e he => ?_, fun x hx' => ?_, ?_, smm⟩
        · obtain ⟨nd', h1, h2⟩ := inv.src j u hj
          exact ⟨nd', h1, h2.keep k⟩
        · rcases List.mem_append.mp (pm2.mem_iff.mp he) with q | q
          · obtain ⟨nd', h1, h2, h3⟩ := inv.of e q
            exact ⟨nd', (hin _).mpr (.inl h1), h2.keep k, h3⟩
          · rw [List.mem_singleton] at q; subst q
            exact ⟨nd, (hin _).mpr (.inr rfl), KeyIs.keep ⟨a, rfl, hk⟩ k, i, hv, hx⟩
        · rcases (hin _).mp hx' with q | rfl
          · obtain ⟨e, h1, h2⟩ := inv.all x q
            exact ⟨e, pm2.mem_iff.mpr (List.mem_append_left _ h1), h2.keep k⟩
          · exact ⟨_, pm2.mem_iff.mpr (List.mem_append_right _ (.head _)), KeyIs.keep ⟨a, rfl, hk⟩ k⟩
        · have := pm2.length_eq
          simp only [Array.length_toList, List.length_append, List.length_singleton] at this
          exact o641 hsz this
      have tail : ∀ (t2 : SetTable), t2.place.size = es.size + 1 → t2.place.toList.Pairwise (· < ·) → t2.dummies = #[] → (byText w = false → t2.led = true) → t2.mask = t.mask → wpAny (model prog w) A (do
          storeSet S es1 t2
          if (!false && t2.tooFull) = true then do
              setRelay S (SetTable.grown (es.size + 1))
              pure true
            else pure true) Q E { s with toks := tk } := fun t2 q1 q2 q3 q4 q5 => by
        have le1 : es.size + 1 ≤ t2.mask := by
          rw [q5]; rcases sm with ⟨e, h⟩ | ⟨e, h⟩ <;> (first | exact o647 e h | exact o648 e h | omega)
        have T2 : Tab (byText w) t2 es1.size := ⟨by rw [q1, hsz1], by rw [hsz1]; exact le1, q2, q3, q4⟩
        have hfill : t2.fill = es.size + 1 := by unfold SetTable.fill; rw [q1, q3]; simp
        refine wpAny_bind (wpAny_store (s := { s with toks := tk }) ho (by exact o649 hi7 hsz hsz1) fun h1 hs1 ho1 => ?_)
        refine wpAny_ite_split (fun hfull => ?_) fun hnot => ?_
        · have hf2 : t2.fill * 5 ≥ t2.mask * 3 := by
            simpa [SetTable.tooFull] using hfull
          rw [hfill, q5] at hf2
          have n4 : es.size = 4 ∧ t.mask = 7 := by
            rcases sm with ⟨e, h⟩ | ⟨e, h⟩ <;> (first | exact o650 hf2 e h | exact o651 hf2 e h | omega)
          have e20 : SetTable.grown (es.size + 1) = 20 := by rw [n4.1]; rfl
          have e32 : SetTable.sizeAbove 20 = 32 := by decide
          rw [e20]
          obtain ⟨t3, order, e3, sz3, pm3⟩ := laid_ok (M := 31) (fi := t2.finger) (mo := t2.movedTo 31) (led := t2.led) (pl := t2.plain) (hs := es1.map (·.1)) orb31 (by rw [Array.size_map]; exact o652 hsz1 n4)
          obtain ⟨c1, c2, c3, c4⟩ := laid_shape e3
          rw [Array.size_map] at sz3 pm3
          have hrel : t2.relaid (es1.map (·.1)) 20 = some (t3, order) := by
            unfold SetTable.relaid; rw [e32]; exact e3
          have pes : (order.filterMap (es1[·]?)).toList.Perm es1.toList := by
            rw [Array.toList_filterMap]
            refine (pm3.filterMap _).trans (List.Perm.of_eq ?_)
            have : ∀ (l : List (Int × Value)), ((List.range l.length).filterMap fun k => l[k]?) = l := fun l => by
              induction l with
              | nil => rfl
              | cons x l ih =>
                rw [List.length_cons, List.range_succ_eq_map, List.filterMap_cons]
                simp only [List.getElem?_cons_zero, List.filterMap_map]
                congr 1
            have e := this es1.toList
            rw [Array.length_toList] at e
            simpa using e
          have pesz : (order.filterMap (es1[·]?)).size = es1.size := by
            have := pes.length_eq
            rw [Array.length_toList, Array.length_toList] at this
            exact this
          refine wpAny_bind ?_
          unfold setRelay
          refine wpAny_bind (wpAny_setState_of (s := { s with heap := h1, toks := tk }) ho1 rfl T2.fits ?_)
          dsimp only
          rw [if_neg (by rw [e32, sizeLine_eq]; decide), hrel]
          refine wpAny_bind (Q := fun x s' => _) ?_
          show wpAny _ _ (if ((order.filterMap (es1[·]?)).size != es1.size) = true then _ else pure (order.filterMap (es1[·]?), t3)) _ _ _
          rw [if_neg (by rw [pesz]; simp)]
          refine wpAny_pure ?_
          dsimp only
          refine wpAny_store (s := { s with heap := h1, toks := tk }) ho1 (by rw [pesz]; exact o653 hsz1 n4) fun h2 hs2 ho2 => ?_
          refine wpAny_pure (hQ _ h2 _ _ t3 _ (hs1.trans hs2) ho2 ⟨by rw [sz3, pesz], by rw [pesz, c4]; exact o652 hsz1 n4, c1, c2, by rw [c3]; exact q4⟩ (invAt _ _ _ (hs1.trans hs2) pes (.inr ⟨c4, by rw [pesz]; exact o654 hsz1 n4⟩)))
        · refine wpAny_pure (hQ _ h1 es1 _ t2 _ hs1 ho1 T2 (invAt _ _ _ hs1 (.refl _) ?_))
          have hf2 : ¬ t2.fill * 5 ≥ t2.mask * 3 := by
            simpa [SetTable.tooFull] using hnot
          rw [hfill, q5] at hf2
          rw [q5, hsz1]
          rcases sm with ⟨e, h⟩ | ⟨e, h⟩
          · exact .inl ⟨e, by exact o655 hf2 e⟩
          · exact .inr ⟨e, by exact o656 hi7 hsz⟩
      refine wpAny_ite_split (fun _ => ?_) fun _ => ?_
      · refine wpAny_bind (wpAny_hashBy (s := { s with toks := tk }) ⟨a, rfl, hk⟩ fun b => ?_)
        cases b with
        | true => exact tail _ p2 p3 p4 (by show _ → t1.led = true; rw [p5]; exact T.led) p6
        | false => exact tail _ p2 p3 p4 (by show _ → t1.led = true; rw [p5]; exact T.led) p6
      · refine wpAny_bind (wpAny_pure ?_)
        exact tail _ p2 p3 p4 (by show _ → t1.led = true; rw [p5]; exact T.led) p6
end
end Mine

open PySem PySem.W PyProof.Rows PySem.SeqAt PySem.Calls
set_option Elab.async false
set_option maxRecDepth 100000
set_option linter.unusedVariables false
namespace Mine

/- a sort's questions -/
def Qs {α : Type} (n : Nat) (P : α → Prop) : KasT α → Prop
  | .ret a => P a
  | .ask i j k => An3 (i < n) (j < n) (∀ b, Qs n P (k b))
theorem Qs.bind {α β : Type} {n : Nat} {P : α → Prop} {R : β → Prop} {f : α → KasT β} : ∀ {t : KasT α}, Qs n P t → (∀ a, P a → Qs n R (f a)) → Qs n R (t.bind f)
  | .ret a, h, k => k a h
  | .ask i j g, h, k => ⟨h.1, h.2, fun b => Qs.bind (h.3 b) k⟩
theorem Qs.wp {α : Type} {n : Nat} {P : α → Prop} {s : Shared} {cmp : Nat → Nat → (Bool → Shared → Prop) → Shared → Prop} (hc : ∀ i j C, i < n → j < n → (∀ b, C b s) → cmp i j C s) {G : α → Shared → Prop} (hG : ∀ a, P a → G a s) :
    ∀ {t : KasT α}, Qs n P t → t.kasWp cmp G s
  | .ret a, h => hG a h
  | .ask i j g, h => hc i j _ h.1 h.2 fun b => Qs.wp hc hG (h.3 b)
theorem Qs.mono {α : Type} {n : Nat} {P R : α → Prop} (h : ∀ a, P a → R a) : ∀ {t : KasT α}, Qs n P t → Qs n R t
  | .ret a, x => h a x
  | .ask i j g, x => ⟨x.1, x.2, fun b => Qs.mono h (x.3 b)⟩

theorem Qs.ite {α : Type} {n : Nat} {P : α → Prop} {t1 t2 : KasT α} (h1 : Qs n P t1) (h2 : Qs n P t2) : ∀ b : Bool, Qs n P (if b = true then t1 else t2)
  | true => by rw [if_pos rfl]; exact h1
  | false => by rw [if_neg (by simp)]; exact h2
def Pm (n : Nat) (p : Array Nat) : Prop := p.toList.Perm (List.range n)
theorem Pm.at {n : Nat} {p : Array Nat} (h : Pm n p) (hn : 0 < n) (i : Nat) : p.getD i 0 < n := by
  by_cases q : i < p.size
  · have e : p.getD i 0 = p[i] := by simp [Array.getD, q]
    rw [e]
    exact List.mem_range.mp (h.mem_iff.mp (by simp))
  · have e : p.getD i 0 = 0 := by simp [Array.getD, q]
    rw [e]; exact hn
theorem Pm.rev {n i j : Nat} {p : Array Nat} (h : Pm n p) : Pm n (kas_rev p i j) := (Array.perm_iff_toList_perm.mp (mirror_perm p i j _)).trans h
theorem Pm.bub {n i j : Nat} {p : Array Nat} (h : Pm n p) : Pm n (bubble p i j) := (Array.perm_iff_toList_perm.mp (bubble_perm p i j)).trans h

section
variable {n : Nat} (hn : 0 < n)
include hn
theorem qs_asc {p : Array Nat} (h : Pm n p) : ∀ (f m : Nat), Qs n (fun _ => True) (kas_asc p f m)
  | 0, m => trivial
  | f + 1, m => ⟨h.at hn _, h.at hn _, Qs.ite trivial (qs_asc h f (m + 1))⟩
theorem qs_desc : ∀ (f : Nat) (p : Array Nat) (m q : Nat), Pm n p → Qs n (fun r => Pm n r.1) (kas_desc f p m q)
  | 0, p, m, q, h => h
  | f + 1, p, m, q, h => ⟨h.at hn _, h.at hn _, Qs.ite (by split; exact qs_desc f _ _ _ h.rev; exact qs_desc f _ _ _ h)
      (show Qs n _ (KasT.ask _ _ _) from ⟨h.at hn _, h.at hn _, Qs.ite h (qs_desc f _ _ _ h)⟩)⟩
theorem qs_tail3 {p : Array Nat} (h : Pm n p) (a b : Nat) : Qs n (fun r => Pm n r.2) (kas_tail3 a b p) := by
  unfold kas_tail3
  exact Qs.bind (qs_asc hn h.rev _ _) fun m _ => h.rev
theorem qs_descPart {p : Array Nat} (h : Pm n p) (a b : Nat) : Qs n (fun r => Pm n r.2) (kas_descPart a b p) := by
  unfold kas_descPart
  refine Qs.bind (qs_desc hn _ _ _ _ h) fun r hr => ?_
  split
  · exact qs_tail3 hn hr.rev _ _
  · exact qs_tail3 hn hr _ _
theorem qs_count {p : Array Nat} (h : Pm n p) (b : Nat) : Qs n (fun r => Pm n r.2) (kas_count b p) := by
  unfold kas_count
  refine Qs.bind (qs_asc hn h _ _) fun m _ => ?_
  split
  · exact h
  · split
    · exact ⟨h.at hn _, h.at hn _, Qs.ite h (qs_descPart hn h.rev _ _)⟩
    · exact qs_descPart hn h _ _
theorem qs_place {p : Array Nat} (h : Pm n p) (k : Nat) : ∀ (f l r : Nat), Qs n (fun _ => True) (kas_place p k f l r)
  | 0, l, r => trivial
  | f + 1, l, r => by
    unfold kas_place
    split
    · trivial
    · exact ⟨h.at hn _, h.at hn _, Qs.ite (qs_place h k f _ _) (qs_place h k f _ _)⟩
theorem qs_bin : ∀ (f : Nat) (p : Array Nat) (k : Nat), Pm n p → Qs n (Pm n) (kas_bin f p k)
  | 0, p, k, h => h
  | f + 1, p, k, h => Qs.bind (qs_place hn h k _ _ _) fun l _ => qs_bin f _ _ h.bub
theorem qs_sort : Qs n (Pm n) (kas_sort n) := by
  unfold kas_sort
  refine Qs.bind (qs_count hn (p := List.toArray (List.range n)) (by show (List.toArray (List.range n)).toList.Perm _; simp) n) fun r hr => ?_
  split
  · exact qs_bin hn _ _ _ hr
  · exact hr
end

section
variable {prog : Program} {w : World} {A : Around} {E : Value → Shared → Prop} {s : Shared}

theorem is_s {x : Str} {v : Value} (h : (atomKind prog w).is (.s x) v = true) : Sm2 fun y t => v = .str y t := by
  rcases Atom.isV_shape h with ⟨y, t, _, e⟩ | ⟨_, _, q, _⟩
  · exact ⟨y, t, e⟩
  · cases q
theorem lex_ints {fin : Bool} {Q : Bool → Shared → Prop} (hQ : ∀ c, Q c s) : ∀ (l m : List Int) (us vs : List Value) (i : Nat), ItemsAre (atomKind prog w) (l.map Atom.i) us → ItemsAre (atomKind prog w) (m.map Atom.i) vs → KatLex prog w A true fin Q (us.zip vs) (i + 1) s
  | [], _, _, _, i, .nil, _ => by exact kat_nil (hQ _)
  | _ :: _, [], _, _, i, .cons _ _, .nil => by exact kat_nil (hQ _)
  | x :: l, y :: m, _, _, i, .cons (v := u) h1 t1, .cons (v := v) h2 t2 => by
    rcases Atom.isV_shape h1 with ⟨_, _, q, _⟩ | ⟨x', tx, q, rfl⟩
    · cases q
    rcases Atom.isV_shape h2 with ⟨_, _, q2, _⟩ | ⟨y', ty, q2, rfl⟩
    · cases q2
    rw [List.zip_cons_cons]
    refine kat_cons (wpAny_eqBool_int ?_)
    refine kat_go (fun _ => kat_yes (lex_ints hQ l m _ _ (i + 1) t1 t2)) fun _ => kat_no ?_
    have : (true && (i + 1 == 0)) = false := rfl
    rw [this]
    exact kat_one _ _ (lt_int (hQ _))

theorem node_lt {a b : Node} {x y : Value} {Q : Bool → Shared → Prop} (hx : KeyIs prog w s.heap (nkey a) x) (hy : KeyIs prog w s.heap (nkey b) y) (hQ : ∀ c, Q c s) : wpAny (model prog w) A (keyLt' (tuples' true) x y) Q E s := by
  obtain ⟨ax, rfl, ox, ix, nx, hox, hcx, hdx, hix⟩ := hx
  obtain ⟨ay, rfl, oy, iy, ny, hoy, hcy, hdy, hiy⟩ := hy
  refine kat_lt hox hdx hoy hdy ?_
  generalize ix.toList = us at hix
  generalize iy.toList = vs at hiy
  cases hix with
  | cons h1 t1 =>
    cases hiy with
    | cons h2 t2 =>
      obtain ⟨x', tx, rfl⟩ := is_s h1
      obtain ⟨y', ty, rfl⟩ := is_s h2
      rw [List.zip_cons_cons]
      refine kat_cons (wpAny_eqBool_str ?_)
      refine kat_go (fun _ => kat_yes (lex_ints hQ _ _ _ _ 0 t1 t2)) fun _ => kat_no ?_
      have : (true && (0 == 0)) = true := rfl
      rw [this]
      exact oneLt_str (hQ _)

theorem node_kind {vs : List Value} {Q : SortKind → Shared → Prop} (h2 : 0 < vs.length) (hv : ∀ v ∈ vs, ∃ nd, KeyIs prog w s.heap (nkey nd) v) (h : Q (tuples' true) s) : wpAny (model prog w) A (keyKind' vs.toArray) Q E s := by
  have : ∃ fs, An3 (KatTups s.heap vs fs) (fs.length = vs.length) (∀ f ∈ fs, ∃ x t, f = Value.str x t) := by
    clear h h2
    induction vs with
    | nil => exact ⟨[], .nil, rfl, fun _ h => nomatch h⟩
    | cons v vs ih =>
      obtain ⟨fs, a, b, c⟩ := ih fun u hu => hv u (.tail _ hu)
      obtain ⟨nd, h1⟩ := hv v (.head _)
      obtain ⟨ax, rfl, ox, ix, nx, hox, hcx, hdx, hix⟩ := h1
      obtain ⟨l⟩ := ix
      cases hix with
      | cons g1 t1 =>
        obtain ⟨x', tx, rfl⟩ := is_s g1
        exact ⟨_ :: fs, .cons hox hcx hdx rfl a, by simp [b], fun f hf => by
          rcases List.mem_cons.mp hf with rfl | hf
          · exact ⟨_, _, rfl⟩
          · exact c f hf⟩
  obtain ⟨fs, a, b, c⟩ := this
  exact kat_kind (T := .type "str") a (by exact o267 h2 b) (fun f hf => by obtain ⟨x, t, rfl⟩ := c f hf; exact Looks.of_pure rfl) (by decide) h

theorem nodes_sort {a : Addr} {vs : List Value} {n : Nat} {P : PySem.Fin → Shared → Prop} (ho : s.heap.get? a = some (seqObj "list" vs.toArray n)) (h64 : vs.length < 64) (hv : ∀ v ∈ vs, ∃ nd, KeyIs prog w s.heap (nkey nd) v)
    (h : ∀ (out : List Value), out.Perm vs → P (.done (.ret .none)) { s with heap := sortedHeap s.heap a vs out.toArray }) :
    wpAny (model prog w) A (Builtin.«list.sort» ⟨[.ref a], []⟩) P E s := by
  rw [list_sort_plain]
  have ha : a < s.heap.objs.size := Heap.lt_size ho
  refine wpAny_bind (listItems_at ho rfl ?_)
  refine wpAny_bind (listUpdate_at ho rfl ?_ (by rw [List.size_toArray, sizeLine_eq]; exact o657 h64) (Nat.zero_le _))
  obtain ⟨e1, ho1⟩ : ∃ e1, (s.heap.update a (Obj.mapSeq fun _ => #[])).get? a = some (seqObj "list" #[] e1) := ⟨_, get?_update_seq ho (fun _ => #[])⟩
  refine wpAny_bind (seqEpoch_at ho1 rfl ?_)
  refine wpAny_bind (wpAny_newTuple ?_ (by show vs.length ≤ _; rw [sizeLine_eq]; exact o657 h64))
  refine wpAny_bind (wpAny_newList ?_ (Nat.zero_le _))
  refine wpAny_holding ?_
  have ho6 : (((s.heap.update a (Obj.mapSeq fun _ => #[])).push (seqObj "tuple" vs.toArray 0)).push (seqObj "list" #[] 0)).get? a = some (seqObj "list" #[] e1) := by
    rw [Heap.get?_push_ne _ _ _ (by rw [size_push', Heap.size_update]; exact Nat.ne_of_lt (Nat.lt_succ_of_lt ha)), Heap.get?_push_ne _ _ _ (by rw [Heap.size_update]; exact Nat.ne_of_lt ha)]
    exact ho1
  show wpAny (model prog w) A _ P E { s with heap := ((s.heap.update a (Obj.mapSeq fun _ => #[])).push (seqObj "tuple" vs.toArray 0)).push (seqObj "list" #[] 0) }
  dsimp only
  have hsz : vs.toArray.size = vs.length := by simp
  have kt : ∀ b o, s.heap.get? b = some o → (o.cls = .type "tuple" → (((s.heap.update a (Obj.mapSeq fun _ => #[])).push (seqObj "tuple" vs.toArray 0)).push (seqObj "list" #[] 0)).get? b = some o) := fun b o e c => by
    have hb : b ≠ a := fun q => by subst q; rw [ho] at e; cases e; exact absurd (show Value.type "list" = Value.type "tuple" from c) (by decide)
    exact Heap.get?_push_of_some _ (Heap.get?_push_of_some _ ((Heap.get?_update_ne _ _ _ _ hb).trans e))
  have hv6 : ∀ v ∈ vs, ∃ nd, KeyIs prog w (((s.heap.update a (Obj.mapSeq fun _ => #[])).push (seqObj "tuple" vs.toArray 0)).push (seqObj "list" #[] 0)) (nkey nd) v := fun v hm => by
    obtain ⟨nd, h1⟩ := hv v hm
    exact ⟨nd, h1.keep kt⟩
  have fin : ∀ out : List Value, out.Perm vs → wpAny (model prog w) A (do
      let touched := (← seqEpoch a) != e1
      Builtin.List.listUpdate (.ref a) fun _ => out.toArray
      if touched then rule "list.sort.modified"; raiseError "ValueError" "list modified during sort"
      ret .none) P E { s with heap := ((s.heap.update a (Obj.mapSeq fun _ => #[])).push (seqObj "tuple" vs.toArray 0)).push (seqObj "list" #[] 0) } := fun out hp => by
    have := hp.length_eq
    refine wpAny_bind (seqEpoch_at ho6 rfl ?_)
    dsimp only
    refine wpAny_bind (listUpdate_at ho6 rfl ?_ (Nat.zero_le _) (by rw [List.size_toArray, sizeLine_eq]; exact o658 h64 this))
    simp only [bne_self_eq_false, Bool.false_eq_true, if_false]
    exact wpAny_pure (h out hp)
  by_cases h2 : vs.toArray.size < 2
  · rw [if_pos h2, if_pos h2]
    refine wpAny_bind (wpAny_pure ?_)
    rw [StateT.run_pure]
    refine wpAny_bind (wpAny_pure ?_)
    dsimp only
    have e : (arrOf (SortSt.mk' general' (vs.toArray.zip vs.toArray) #[] 7 none)).map (·.2) = vs.toArray := by
      show (vs.toArray.zip vs.toArray).map (·.2) = vs.toArray
      have : ∀ l : List Value, (l.zip l).map (fun x => x.2) = l := fun l => by
        induction l with
        | nil => rfl
        | cons x l ih => simp [ih]
      simp [this]
    rw [e]
    exact fin vs (.refl _)
  · rw [if_neg h2, if_neg h2]
    rw [hsz] at h2
    refine wpAny_bind (node_kind (s := { s with heap := _ }) (by exact o659 h2) hv6 ?_)
    have lv := qs_sort (n := vs.length) (by exact o659 h2)
    refine wpAny_bind (wpAny_mono (kat_run (prog := prog) (w := w) (A := A) (E := E) (κ := tuples' true) (ks := vs) (vs := vs) (s := { s with heap := ((s.heap.update a (Obj.mapSeq fun _ => #[])).push (seqObj "tuple" vs.toArray 0)).push (seqObj "list" #[] 0) })
      (Q := fun st' s' => An3 (s' = { s with heap := ((s.heap.update a (Obj.mapSeq fun _ => #[])).push (seqObj "tuple" vs.toArray 0)).push (seqObj "list" #[] 0) }) (failedOf st' = none) (∃ p, Pm vs.length p ∧ arrOf st' = p.map (kas_item (vs.toArray.zip vs.toArray))))
      (G := fun p s' => s' = { s with heap := ((s.heap.update a (Obj.mapSeq fun _ => #[])).push (seqObj "tuple" vs.toArray 0)).push (seqObj "list" #[] 0) } ∧ Pm vs.length p) rfl (by exact o660 h2) h64 (fun p st' s' a1 a2 a3 a4 => ⟨a4.1, a3, p, a4.2, a2⟩)
      (lv.wp (fun i j C hi hj hC => ?_) fun p hp => ⟨rfl, hp⟩)) ?_ fun _ _ e => e)
    · have ei : vs.getD i Value.none = vs[i] := by simp [hi]
      have ej : vs.getD j Value.none = vs[j] := by simp [hj]
      obtain ⟨na, ka⟩ := hv6 vs[i] (List.getElem_mem hi)
      obtain ⟨nb, kb⟩ := hv6 vs[j] (List.getElem_mem hj)
      unfold kas_ask
      rw [ei, ej]
      exact node_lt ka kb hC
    · rintro ⟨⟨⟩, st'⟩ s' ⟨rfl, hf, p, hp, har⟩
      dsimp only
      have e := kat_snds (vs := vs) (ks := vs) rfl har
      rw [e, hf]
      dsimp only
      refine fin _ ?_
      refine (hp.map fun i => vs.getD i Value.none).trans (List.Perm.of_eq ?_)
      refine List.ext_getElem (by simp) fun i h1 h2 => ?_
      simp at h1
      simp [h1]
end
end Mine

open PySem PySem.W PyProof.Rows PySem.SeqAt PySem.Calls
set_option Elab.async false
set_option maxRecDepth 100000
set_option linter.unusedVariables false
namespace Mine

section
variable {prog : Program} {w : World} {A : Around} {E : Value → Shared → Prop} {s : Shared}

theorem call_set_seq {l : Addr} {us : List Value} {Inv : Nat → Heap → Array (Int × Value) → SetTable → Prop} {Q : Value → Shared → Prop} (hh : A.handled = none) (hl : s.heap.IsList l us.toArray ∨ s.heap.IsTuple l us.toArray)
    (zero : ∀ h', (∀ b o, s.heap.get? b = some o → h'.get? b = some o) → Inv 0 h' #[] (.fresh 0 0 (!byText w)))
    (Ad : ∀ A' S, A'.units ≤ A.units + 4 → s.heap.get? S = none → Adds prog w A' S us Inv)
    (h : ∀ h' tk es ep t, (∀ b o, s.heap.get? b = some o → h'.get? b = some o) → h'.get? s.heap.objs.size = some (setObj es ep t) → Tab (byText w) t es.size → Inv us.length h' es t → Q (.ref s.heap.objs.size) { s with heap := h', toks := tk }) :
    wpAny (model prog w) A (call (.type "set") [.ref l]) Q E s := by
  have hsz : us.toArray.size = us.length := by simp
  have hP : ∀ (i : Nat) (v : Value), us.toArray[i]? = some v → us[i]? = some v := fun i v e => by simpa using e
  rcases hl with hl | hl
  · refine call_set (l := l) (TN := "list") (us := us) (n := us.toArray.size) (P := fun i v => us.toArray[i]? = some v) (St := fun I i h => h.IsListIter I l i ∧ h.IsList l us.toArray) (itob := { cls := .type "list_iterator", data := .fields #[.ref l, .int 0 0] }) hh
      hl.typeIs PySem.F.sub_list_set PySem.F.sub_list_frozenset (by decide) (fun A' s' E Z k z => wpAny_pyIter_list (let ⟨o, ho, r⟩ := hl; ⟨o, k _ _ ho, r⟩) z) (fun T e => by cases e; decide) rfl
      (fun h' I k e => ⟨⟨_, e, rfl, rfl⟩, let ⟨o, ho, r⟩ := hl; ⟨o, k _ _ ho, r⟩⟩) (fun A' I hA ne => Walks.list hA I l ne us.toArray) hsz hP (fun I h i o st e => ?_) zero Ad (by rw [hsz]; exact h)
    obtain ⟨⟨o', ho', hc, _⟩, _⟩ := st
    rw [e] at ho'; cases ho'; rw [hc]; decide
  · refine call_set (l := l) (TN := "tuple") (us := us) (n := us.toArray.size) (P := fun i v => us.toArray[i]? = some v) (St := fun I i h => h.IsTupleIter I l i ∧ h.IsTuple l us.toArray) (itob := { cls := .type "tuple_iterator", data := .fields #[.ref l, .int 0 0] }) hh
      hl.typeIs PySem.F.sub_tuple_set (by rw [isSubtype_type]; kernel_rfl) (by decide) (fun A' s' E Z k z => wpAny_pyIter_tuple (let ⟨o, ho, r⟩ := hl; ⟨o, k _ _ ho, r⟩) z) (fun T e => by cases e; decide) rfl
      (fun h' I k e => ⟨⟨_, e, rfl, rfl⟩, let ⟨o, ho, r⟩ := hl; ⟨o, k _ _ ho, r⟩⟩) (fun A' I hA ne => Walks.tuple hA I l ne us.toArray) hsz hP (fun I h i o st e => ?_) zero Ad (by rw [hsz]; exact h)
    obtain ⟨⟨o', ho', hc, _⟩, _⟩ := st
    rw [e] at ho'; cases ho'; rw [hc]; decide

theorem call_sorted_set {a : Addr} {es : Array (Int × Value)} {ep : Nat} {t : SetTable} {Q : Value → Shared → Prop} (Res : List Value → List Value → Prop) (hh : A.handled = none) (ho : s.heap.get? a = some (setObj es ep t)) (T : Tab (byText w) t es.size) (hn : es.size ≤ 60)
    (hr : ∀ us out, Res us out → out.length = us.length)
    (srt : ∀ (us : List Value) (s' : Shared) (L : Addr) (P : PySem.Fin → Shared → Prop), us.Perm (es.toList.map (·.2)) → (∀ b o, s.heap.get? b = some o → s'.heap.get? b = some o) → s'.heap.get? L = some (seqObj "list" us.toArray 0) →
      (∀ out : List Value, Res us out → P (.done (.ret .none)) { s' with heap := sortedHeap s'.heap L us out.toArray }) → wpAny (model prog w) A.in1.in1 (Builtin.«list.sort» ⟨[.ref L], []⟩) P E s')
    (h : ∀ us out h' d L c, us.Perm (es.toList.map (·.2)) → Res us out → (∀ b o, s.heap.get? b = some o → h'.get? b = some o) → s.heap.get? L = none → h'.get? L = some (lstObj out c) → Q (.ref L) { s with heap := h', drawn := d }) :
    wpAny (model prog w) A (call (.builtin "sorted") [.ref a]) Q E s := by
  refine Calls.call_function_entry kind_sorted plain_sorted entry_sorted (args_sorted1 _) ?_
  unfold Builtin.«sorted»
  refine wpAny_bind (m := checkCount "sorted" 1 1 _) (wpAny_pure ?_)
  refine wpAny_bind (collect_set (A := A.in1) hh ho T (by exact o661 hn) fun h1 d us hp k1 => ?_)
  have ul : us.length = es.size := by rw [hp.length_eq, List.length_map, Array.length_toList]
  refine wpAny_bind (wpAny_newList ?_ (by rw [sizeLine_eq]; exact o662 hn ul))
  have hoL : (h1.push (seqObj "list" us.toArray 0)).get? h1.objs.size = some (seqObj "list" us.toArray 0) := Heap.get?_push_size _ rfl
  have k2 : ∀ b o, h1.get? b = some o → (h1.push (seqObj "list" us.toArray 0)).get? b = some o := fun b o e => Heap.get?_push_of_some _ e
  refine wpAny_bind (wpAny_holding (wpAny_call_entry slot_list_sort ⟨_, hoL, rfl⟩ entry_list_sort (srt us { s with heap := h1.push (seqObj "list" us.toArray 0), drawn := d } h1.objs.size _ hp (fun b o e => k2 b o (k1 b o e)) hoL fun out hres => ⟨_, rfl, ?_⟩) (args_list_sort _)))
  obtain ⟨c, hc⟩ := sortedHeap_at (out := out.toArray) hoL
  refine wpAny_pure ⟨_, rfl, h us out _ d h1.objs.size c hp hres (fun b o e => ?_) ?_ hc⟩
  · have hb := Heap.lt_size (k1 b o e)
    rw [sortedHeap_old (Nat.ne_of_lt hb) (by rw [Heap.size_push]; exact Nat.lt_succ_of_lt hb)]
    exact k2 b o (k1 b o e)
  · cases q : s.heap.get? h1.objs.size with
    | none => rfl
    | some o => exact absurd (Heap.lt_size (k1 _ _ q)) (Nat.lt_irrefl _)
end
end Mine

open PySem PySem.W PyProof.Rows PySem.SeqAt PySem.Calls
set_option Elab.async false
set_option maxRecDepth 100000
set_option linter.unusedVariables false
namespace Mine

theorem reps_ints {h σ ι} {us : List Value} {ns : List Int} (z : PyProof.Rows.IntsAre us ns) : Reps h σ ι (ns.map .int) us := by
  induction z with
  | nil => exact .nil
  | cons n t _ ih => exact .cons (.int n t) ih
theorem ints_vInt : ∀ {us : List Value}, (∀ v ∈ us, ∃ tk, v = .int (vInt v) tk) → PyProof.Rows.IntsAre us (us.map vInt)
  | [], _ => .nil
  | v :: us, h => by
    obtain ⟨tk, e⟩ := h v (.head _)
    rw [List.map_cons]
    have r := ints_vInt fun u hu => h u (.tail _ hu)
    rw [e]
    exact .cons _ _ r

section
variable {W : Wd} {F : Fx} {A : Around} {st : St}

/-- `sorted(set(e))` -/
theorem sortedSet_core {e : Expr} {p1 p2 pa pb : Pos} {Q : V → St → Prop} (hs : nsIn W.K mainGlobals "sorted" = some none) (ht : nsIn W.K mainGlobals "set" = some none) (hn : notStar e = true)
    (hk1 : F.env.kindOf "sorted" = some .globalImplicit) (hk2 : F.env.kindOf "set" = some .globalImplicit) (hc : F.env.scope.kind = .function) (hg : F.env.globals = mainGlobals) (hb : F.env.builtins = builtinsNs)
    {G : Frz} {ι : Loc} {s : Shared} (X : Ok W F G st ι s.heap s.os s.gens) {P : V → St → Prop} (T : Ev W F A e st P)
    (k : ∀ u s1 st1 ι1 v, Ok W F G st1 ι1 s1.heap s1.os s1.gens → Ext s.heap st.σ ι s1.heap st1.σ ι1 → Rep s1.heap st1.σ ι1 v u → P v st1 →
      wpAny (model W.prog W.w) A (call (.type "set") [u]) (fun c s2 => wpAny (model W.prog W.w) A (call (.builtin "sorted") [c]) (fun a s' => Po W F G s.heap st.σ ι s' (Vo Q a)) (fun _ _ => False) s2) (fun _ _ => False) s1) :
    wpAny (model W.prog W.w) A (eval (.Call (.Name "sorted" p1) [.Call (.Name "set" p2) [e] [] pa] [] pb) F.env) (fun a s' => Po W F G s.heap st.σ ι s' (Vo Q a)) (fun _ _ => False) s := by
  refine wpAny_Call_Name_kw (nameBuiltin X.hp hs (v := .builtin "sorted") (by rfl) (by decide) ?_ hk1 hc hg hb)
  refine callWith_val (by intro _ h; cases h) rfl ?_
  rw [starEach_cons rfl]
  refine spliced_cons ?_
  refine wpAny_Call_Name_kw (nameBuiltin X.hp ht (v := .type "set") (by rfl) (by decide) ?_ hk2 hc hg hb)
  refine callWith_val (by intro _ h; cases h) (by rw [List.all_cons, hn]; rfl) ?_
  rw [starEach_cons hn]
  refine spliced_cons (T.use X fun u s1 st1 ι1 X1 e1 ⟨v, r, q⟩ => spliced_nil ?_)
  exact wpAny_mono (k u s1 st1 ι1 v X1 e1 r q) (fun c s2 h2 => spliced_nil h2) fun _ _ z => z

/-- `sorted(set(..))` of numbers -/
theorem Ev.sortedSetI {e : Expr} {p1 p2 pa pb : Pos} {Q} (hh : A.handled = none) (j : Nat) (hs : nsIn W.K mainGlobals "sorted" = some none) (ht : nsIn W.K mainGlobals "set" = some none) (hn : notStar e = true)
    (hk1 : F.env.kindOf "sorted" = some .globalImplicit := by rfl) (hk2 : F.env.kindOf "set" = some .globalImplicit := by rfl) (hc : F.env.scope.kind = .function := by rfl) (hg : F.env.globals = mainGlobals := by rfl) (hb : F.env.builtins = builtinsNs := by rfl)
    (T : Ev W F A e st fun v st1 => ∃ is, An4 (NumsOf v st1 is) (is.length ≤ 60) (st1.σ j = none) (∀ rs : List Int, (∀ x, x ∈ rs ↔ x ∈ is) → rs.length ≤ is.length → rs.Nodup → Q (.ref j) ⟨st1.Γ, setS st1.σ j (.list (rs.map .int))⟩)) :
    Ev W F A (.Call (.Name "sorted" p1) [.Call (.Name "set" p2) [e] [] pa] [] pb) st Q := fun G ι s X => by
  refine sortedSet_core hs ht hn hk1 hk2 hc hg hb X T fun u s1 st1 ι1 v X1 e1 r ⟨is, hv, hl, hj, q⟩ => ?_
  have : Sm2 fun l us => An3 (u = .ref l) (s1.heap.IsList l us.toArray ∨ s1.heap.IsTuple l us.toArray) (PyProof.Rows.IntsAre us is) := by
    rcases hv with ⟨i, rfl, hi⟩ | rfl
    · cases r using Rep.refE
      obtain ⟨us, n, hL, rs⟩ := listAt X1.hp hi
      exact ⟨_, us, rfl, .inl hL.isList, rs.ints⟩
    · obtain ⟨a, us, n, rfl, ho, rs⟩ := r.tupI
      exact ⟨a, us, rfl, .inr ⟨_, ho, rfl, n, rfl⟩, rs.ints⟩
  obtain ⟨l, us, rfl, hL, hI⟩ := this
  have hul := PyProof.Rows.IntsAre.length hI
  refine call_set_seq (us := us) (Inv := fun i _ es _ => InvI W.w is i es) hh hL (fun _ _ => invI_zero) (fun _ _ _ _ => adds_int hI hl) fun h2 tk es ep t k2 ho T2 inv => ?_
  obtain ⟨i1, i2, i3, i4⟩ := inv
  have hpes : ∀ us' : List Value, us'.Perm (es.toList.map (·.2)) → PyProof.Rows.IntsAre us' (us'.map vInt) ∧ (us'.map vInt).Perm (es.toList.map fun e => vInt e.2) := fun us' hp => by
    refine ⟨ints_vInt fun v hv => ?_, ?_⟩
    · obtain ⟨e', he, rfl⟩ := List.mem_map.mp (hp.mem_iff.mp hv)
      exact (i1 e' he).1
    · have := hp.map vInt
      rw [List.map_map] at this
      exact this
  refine call_sorted_set (Res := fun us' out => ∃ ns', PyProof.Rows.IntsAre out ns' ∧ ns'.Perm (us'.map vInt)) hh ho T2 (by exact o663 hl hul i4) (fun us' out ⟨ns', a, b⟩ => ?_) (fun us' s' L P hp _ hoL hP => ?_) fun us' out h3 d L c hp ⟨ns', a, b⟩ k3 hL3 hc3 => ?_
  · rw [PyProof.Rows.IntsAre.length a, b.length_eq, List.length_map]
  · have hul' : us'.length = es.size := by rw [hp.length_eq, List.length_map, Array.length_toList]
    refine list_sort_tree hoL (hpes us' hp).1 (by exact o664 hl hul i4 hul') fun out ns' a1 a2 a3 => ?_
    exact hP out.toList ⟨ns', a1, a2⟩
  · have pm := b.trans (hpes us' hp).2
    have memi : ∀ x, x ∈ ns' ↔ x ∈ is := fun x => by
      rw [pm.mem_iff, i3, hul, List.take_length]
    have len : ns'.length ≤ is.length := by
      have e1 : ns'.length = es.size := by rw [pm.length_eq, List.length_map, Array.length_toList]
      rw [e1, ← hul]; exact i4
    obtain ⟨Γ1, σ1⟩ := st1
    dsimp only at hj q
    have kk : ∀ b o, s1.heap.get? b = some o → h3.get? b = some o := fun b o e => k3 b o (k2 b o e)
    have hLn : s1.heap.get? L = none := by
      cases z : s1.heap.get? L with
      | none => rfl
      | some o => have := k2 L o z; rw [hL3] at this; cases this
    obtain ⟨X3, e3⟩ := X1.new (i := j) (a := L) (o' := .list (ns'.map .int)) (h' := h3) hj hLn kk fun E => ⟨out, ⟨c, hc3⟩, reps_ints a⟩
    refine ⟨_, _, X3, e1.trans e3, .ref j, ?_, q ns' memi len (pm.nodup_iff.mpr i2)⟩
    have : setL ι1 j L j = L := by simp [setL]
    have r0 := Rep.ref (h := h3) (σ := setS σ1 j (.list (ns'.map .int))) (ι := setL ι1 j L) j (by simp [setS])
    rwa [this] at r0

/-- `sorted(set(..))` of a list of nodes -/
theorem Ev.sortedSetN {e : Expr} {p1 p2 pa pb : Pos} {Q} (hh : A.handled = none) (hu : A.units + 5 < cLine) (j : Nat) (hs : nsIn W.K mainGlobals "sorted" = some none) (ht : nsIn W.K mainGlobals "set" = some none) (hn : notStar e = true)
    (hk1 : F.env.kindOf "sorted" = some .globalImplicit := by rfl) (hk2 : F.env.kindOf "set" = some .globalImplicit := by rfl) (hc : F.env.scope.kind = .function := by rfl) (hg : F.env.globals = mainGlobals := by rfl) (hb : F.env.builtins = builtinsNs := by rfl)
    (T : Ev W F A e st fun v st1 => Sm2 fun (i : Nat) (ns : List Node) => An5 (v = .ref i) (st1.σ i = some (.list (ns.map nodeV))) (ns.length ≤ 7) (st1.σ j = none) (∀ rs : List Node, (∀ x, x ∈ rs ↔ x ∈ ns) → rs.length ≤ ns.length → Q (.ref j) ⟨st1.Γ, setS st1.σ j (.list (rs.map nodeV))⟩)) :
    Ev W F A (.Call (.Name "sorted" p1) [.Call (.Name "set" p2) [e] [] pa] [] pb) st Q := fun G ι s X => by
  refine sortedSet_core hs ht hn hk1 hk2 hc hg hb X T fun u s1 st1 ι1 v X1 e1 r ⟨i, ns, hv, hi, hl, hj, q⟩ => ?_
  subst hv
  cases r using Rep.refE
  obtain ⟨us, n, hL, rs⟩ := listAt X1.hp hi
  have hul := rs.length
  rw [List.length_map] at hul
  have src : ∀ (j : Nat) (v : Value), us[j]? = some v → ∃ nd, ns[j]? = some nd ∧ KeyIs W.prog W.w s1.heap (nkey nd) v ∧ Rep s1.heap st1.σ ι1 (nodeV nd) v := fun j v hv => by
    have hlt : j < ns.length := by have := (List.getElem?_eq_some_iff.mp hv).1; exact o144 hul this
    have e1 : ns[j]? = some ns[j] := List.getElem?_eq_getElem hlt
    obtain ⟨u', hu', ru⟩ := rs.get (i := j) (v := nodeV ns[j]) (by rw [List.getElem?_map, e1]; rfl)
    rw [hv] at hu'; cases hu'
    have ru' : Rep s1.heap st1.σ ι1 (.tup ((nkey ns[j]).map Atom.V)) v := by rw [nkey_v]; exact ru
    obtain ⟨a, ha, ka⟩ := tupIs (prog := W.prog) (w := W.w) ru'
    exact ⟨_, e1, ⟨a, ha, ka⟩, ru⟩
  have tk : ∀ {h' : Heap}, (∀ b o, s1.heap.get? b = some o → h'.get? b = some o) → ∀ b o, s1.heap.get? b = some o → (o.cls = .type "tuple" → h'.get? b = some o) := fun k b o e _ => k b o e
  refine call_set_seq (us := us) (Inv := InvN W.prog W.w us ns) hh (.inl hL.isList) (fun h' k => ⟨fun j v hv => ?_, fun _ h => by simp at h, fun _ h => by simp at h, Nat.le_refl _, .inl ⟨rfl, Nat.zero_le _⟩⟩) (fun A' S hA _ => adds_node (by exact o665 hu hA) hl) fun h2 tk' es ep t k2 ho T2 inv => ?_
  · obtain ⟨nd, h1, h2, _⟩ := src j v hv
    exact ⟨nd, h1, h2.keep (tk k)⟩
  have hes := inv.le
  refine call_sorted_set (Res := fun us' out => out.Perm us') hh ho T2 (by exact o666 hl hul hes) (fun us' out p => p.length_eq) (fun us' s' L P hp k' hoL hP => ?_) fun us' out h3 d L c hp po k3 hL3 hc3 => ?_
  · have hul' : us'.length = es.size := by rw [hp.length_eq, List.length_map, Array.length_toList]
    refine nodes_sort hoL (by exact o667 hl hul hes hul') (fun v hv => ?_) hP
    obtain ⟨e', he, rfl⟩ := List.mem_map.mp (hp.mem_iff.mp hv)
    obtain ⟨nd, _, h1, _⟩ := inv.of e' he
    exact ⟨nd, h1.keep fun b o e _ => k' b o e⟩
  · have pm := po.trans hp
    obtain ⟨Γ1, σ1⟩ := st1
    dsimp only at hj q hi
    have kk : ∀ b o, s1.heap.get? b = some o → h3.get? b = some o := fun b o e => k3 b o (k2 b o e)
    have hLn : s1.heap.get? L = none := by
      cases z : s1.heap.get? L with
      | none => rfl
      | some o => have := k2 L o z; rw [hL3] at this; cases this
    have back : ∀ l : List Value, (∀ v ∈ l, ∃ nd ∈ ns, Rep s1.heap σ1 ι1 (nodeV nd) v) → ∃ ms : List Node, Reps s1.heap σ1 ι1 (ms.map nodeV) l ∧ ∀ m ∈ ms, m ∈ ns := fun l hl => by
      induction l with
      | nil => exact ⟨[], .nil, fun _ h => nomatch h⟩
      | cons v l ih =>
        obtain ⟨ms, a, b⟩ := ih fun u hu => hl u (.tail _ hu)
        obtain ⟨nd, h1, h2⟩ := hl v (.head _)
        exact ⟨nd :: ms, .cons h2 a, fun m hm => by
          rcases List.mem_cons.mp hm with rfl | hm
          · exact h1
          · exact b m hm⟩
    obtain ⟨ms, hms, hsub⟩ := back out fun v hv => by
      obtain ⟨e', he, rfl⟩ := List.mem_map.mp (pm.mem_iff.mp hv)
      obtain ⟨nd, _, _, j', h1, h2⟩ := inv.of e' he
      obtain ⟨nd', h3, _, h4⟩ := src j' _ h1
      rw [h2] at h3; cases h3
      exact ⟨nd, List.mem_of_getElem? h2, h4⟩
    have mlen : ms.length = out.length := by have := hms.length; simpa using this
    obtain ⟨X3, e3⟩ := X1.new (i := j) (a := L) (o' := .list (ms.map nodeV)) (h' := h3) hj hLn kk fun E => ⟨out, ⟨c, hc3⟩, hms.ext E⟩
    refine ⟨_, _, X3, e1.trans e3, .ref j, ?_, q ms (fun x => ⟨hsub x, fun hx => ?_⟩) ?_⟩
    · have : setL ι1 j L j = L := by simp [setL]
      have r0 := Rep.ref (h := h3) (σ := setS σ1 j (.list (ms.map nodeV))) (ι := setL ι1 j L) j (by simp [setS])
      rwa [this] at r0
    · obtain ⟨e', he, k1⟩ := inv.all x (by rw [← hul, List.take_length]; exact hx)
      have hmo : e'.2 ∈ out := pm.mem_iff.mpr (List.mem_map.mpr ⟨e', he, rfl⟩)
      obtain ⟨j', hj'⟩ := List.mem_iff_getElem?.mp hmo
      have hlt : j' < ms.length := by have := (List.getElem?_eq_some_iff.mp hj').1; exact o144 mlen this
      have em : ms[j']? = some ms[j'] := List.getElem?_eq_getElem hlt
      obtain ⟨u', hu', ru⟩ := hms.get (i := j') (v := nodeV ms[j']) (by rw [List.getElem?_map, em]; rfl)
      rw [hj'] at hu'; cases hu'
      have ru' : Rep s1.heap σ1 ι1 (.tup ((nkey ms[j']).map Atom.V)) e'.2 := by rw [nkey_v]; exact ru
      obtain ⟨a, ha, ka⟩ := tupIs (prog := W.prog) (w := W.w) ru'
      have ka2 := KeyIs.keep ⟨a, ha, ka⟩ (tk k2)
      obtain ⟨b1, hb1, kb1⟩ := ka2
      obtain ⟨b2, hb2, kb2⟩ := k1
      rw [hb1] at hb2; cases hb2
      have := nkey_inj (kb1.inj kb2)
      rw [← this]
      exact List.getElem_mem hlt
    · have e1 : out.length = es.size := by rw [pm.length_eq, List.length_map, Array.length_toList]
      rw [mlen, e1, hul]; exact hes
end
end Mine

open PySem PySem.W PyProof.Rows PySem.SeqAt PySem.Calls
set_option Elab.async false
set_option maxRecDepth 100000
set_option linter.unusedVariables false
set_option pp.maxSteps 600
set_option pp.deepTerms false
namespace Mine

structure WK (W : Wd) : Prop where
  k : W.K = Mine.hd.heap_1 W.w.params

theorem nm_is_reached (p : Params) : nsIn (Mine.hd.heap_1 p) mainGlobals "is_reached" = some (some (.ref 74)) := by rfl
theorem nb_len (p : Params) : nsIn (Mine.hd.heap_1 p) mainGlobals "len" = some none := by rfl
theorem lk74 {W : Wd} (hK : WK W) : Sm4 fun oc od osl fd => W.K.lookup 74 = some ⟨oc, od, .func fd, osl⟩ := by
  rw [hK.k]; exact ⟨_, _, _, _, rfl⟩



theorem nb_list (p : Params) : nsIn (Mine.hd.heap_1 p) mainGlobals "list" = some none := by rfl

theorem atV_seen {S : List Int} {x : Int} : (atV (S.map fun x => (x, V.bool true)) x).isSome = S.contains x := by
  unfold atV
  induction S with
  | nil => rfl
  | cons y r ih =>
    simp only [List.map_cons, List.find?_cons, List.contains_cons]
    by_cases q : y = x
    · simp [q]
    · have : (x == y) = false := by simpa using fun e => q e.symm
      simp only [q, decide_false, this, Bool.false_or]
      exact ih
theorem storedV_seen {S : List Int} {x : Int} (h : S.contains x = false) : storedV (S.map fun x => (x, V.bool true)) x (.bool true) = (S ++ [x]).map fun x => (x, V.bool true) := by
  unfold storedV
  rw [if_neg]
  · simp
  · simp only [List.any_map, List.any_eq_true, Function.comp, decide_eq_true_eq, not_exists, not_and]
    intro y hy e
    subst e
    simp [List.contains_eq_mem] at h
    exact h hy

theorem Bi.listAny {W F A st} {bv : V} {vs : List V} {j : Nat} {Q} (hb : (∃ b, bv = .ref b ∧ st.σ b = some (.list vs)) ∨ bv = .tup vs) (hz : vs.length ≤ 1000) (hj : st.σ j = none) (q : Q (.ref j) ⟨st.Γ, setS st.σ j (.list vs)⟩) : Bi W F A (.type "list") [bv] st Q := by
  rcases hb with ⟨b, rfl, hb⟩ | rfl
  · exact Bi.listL hb hz hj q
  · exact Bi.listT hz hj q

theorem is_reached_spec {W : Wd} (hK : WK W) {A : Around} (R : Room A 2) {σ : Sto} {c : Nat} {goal : Int} {pin} {ch : Cho} (hc : σ c = some (.idict (choV ch) pin)) {bv : V} {bs : List Int}
    (hb : (∃ b, bv = .ref b ∧ σ b = some (.list (bs.map .int))) ∨ bv = .tup (bs.map .int)) (h0 : σ 300 = none) (h1 : σ 301 = none) (hz : bs.length + owes ch [] ≤ 500) :
   Fn W A (.ref 74) [.ref c, bv, .int goal] σ fun v σ' => σ' = σ ∧ ∃ r : Bool, v = .bool r ∧ (r = true ↔ Rch ch bs goal) := by
  refine Fn.same (Fn.body (n := 1) ["chosen", "begin", "goal"] R (by rw [hK.k]; rfl) (by rw [hK.k]; rfl) rfl rfl rfl rfl (bind3 fun _ _ _ => rfl) rfl (by decide) (by intro n; rfl) rfl rfl rfl fun L A' R' => ?_)
  refine Exs.cons (Ex.swap2 R'.handled ?_)
  refine Ev.tuple (Evs.cons (Ev.dict0I 300 h0 (Evs.cons ?_)))
  refine Ev.callB (f := .type "list") (by rw [hK.k]; rfl) rfl (by decide) (by intro a; exact fun h => nomatch h) ?_
  refine Evs.cons (Ev.local rfl (Evs.nil ?_))
  have c300 : c ≠ 300 := fun q => by rw [q, h0] at hc; cases hc
  have c301 : c ≠ 301 := fun q => by rw [q, h1] at hc; cases hc
  refine Bi.listAny (vs := bs.map .int) (j := 301) ?_ (by simp; exact o572 hz) (by simp [setS, h1]) ?_
  · rcases hb with ⟨b, rfl, hb⟩ | rfl
    · have b300 : b ≠ 300 := fun z => by rw [z, h0] at hb; cases hb
      exact .inl ⟨b, rfl, by simp [setS, b300, hb]⟩
    · exact .inr rfl
  refine Evs.nil ⟨by decide, _, _, rfl, ?_⟩
  dsimp only
  generalize hΓ1 : setG (setG ((["chosen", "begin", "goal"] : List Str).zip [V.ref c, bv, .int goal]) "waiting" (.ref 301)) "seen" (.ref 300) = Γ1
  refine Exs.cons (Ex.while (fun n st => Γeq ["c"] Γ1 st.Γ ∧ (Sm2 fun S ws => An7 (ReachInv ch bs goal S ws) (n = ws.length + owes ch S) (n ≤ 500) (S.length ≤ 500 - n) (∀ i, i ≠ 300 → i ≠ 301 → st.σ i = σ i) (st.σ 300 = some (.idict (S.map fun x => (x, .bool true)))) (st.σ 301 = some (.list (ws.map .int)))))
    (bs.length + owes ch []) ⟨.refl, [], bs, .start, rfl, hz, by simp, fun i n1 n2 => by simp [setS, n1, n2], by simp [setS], by simp [setS]⟩ ?_) 
  intro n st ⟨hΓ, S, ws, inv, hn, hn5, hS, hσ, h300, h301⟩
  obtain ⟨Γ, σ'⟩ := st
  dsimp only at hΓ hσ h300 h301
  have lw : Γ.lookup ("waiting" : Str) = some (.ref 301) := hΓ.at (by rw [← hΓ1]; rfl)
  have ls : Γ.lookup ("seen" : Str) = some (.ref 300) := hΓ.at (by rw [← hΓ1]; rfl)
  have lc : Γ.lookup ("chosen" : Str) = some (.ref c) := hΓ.at (by rw [← hΓ1]; rfl)
  have lg : Γ.lookup ("goal" : Str) = some (.int goal) := hΓ.at (by rw [← hΓ1]; rfl)
  refine Is.cmp rfl (Ev.callB (f := .builtin "len") (by rw [hK.k]; rfl) rfl (by decide) (by intro a; exact fun h => nomatch h) (Evs.cons (Ev.local lw (Evs.nil (Bi.lenL h301 (by simp; exact o573 hn hn5) (Ev.intC (Cop.gtI ?_)))))))
  rcases List.eq_nil_or_concat ws with rfl | ⟨ws', x, rfl⟩
  · refine Exs.cons (Ex.ret (Ev.boolC ⟨fun i hi => hσ i (fun q => hi (q ▸ h0)) (fun q => hi (q ▸ h1)), rfl, false, rfl, ?_⟩))
    exact ⟨(fun q => by cases q), fun q => absurd q inv.done⟩
  rw [if_pos (by simp)]
  have hl : (ws' ++ [x]).length = ws'.length + 1 := by simp
  rw [List.concat_eq_append] at inv hn h301
  rw [hl] at hn
  refine Exs.cons (Ex.assign (Ev.callM (T := Ev.local lw ⟨.builtin "list.pop", fun G ι s u pl E Z X r k => getM_list h301 PySem.F.slot_list_pop PySem.F.type_list_pop X r k, .inl (fun a h => nomatch h), Evs.nil ?_⟩)))
  refine Bi.pop (vs := ws'.map .int) (v := .int x) (by show σ' 301 = _; rw [h301]; simp) (by simp; exact o574 hn5 hn) ?_
  refine As.local ?_
  have hΓ' := hΓ.set (x := "c") (v := .int x) rfl
  refine Exs.cons (Ex.iff (Is.cmp rfl (Ev.local lookup_setG_self (Ev.local (lkS lg) (Cop.eqI ?_)))))
  by_cases e : x = goal
  · rw [if_pos (by simpa using e)]
    refine Exs.cons (Ex.ret (Ev.boolC ⟨fun i hi => ?_, rfl, true, rfl, ?_⟩))
    · have n0 : i ≠ 300 := fun q => hi (q ▸ h0)
      have n1 : i ≠ 301 := fun q => hi (q ▸ h1)
      simp [setS, n1, hσ i n0 n1]
    · exact ⟨fun _ => e ▸ inv.sound x (.inr (by simp)), fun _ => rfl⟩
  rw [if_neg (by simpa using e)]
  refine Exs.nil (Exs.cons (Ex.iff (Is.cmp rfl (Ev.local lookup_setG_self (Ev.local (lkS ls) (Cop.notInI (by simp only [setS]; exact h300) ?_))))))
  rw [atV_seen]
  cases hs : S.contains x with
  | true =>
    rw [if_neg (by simp)]
    refine Exs.nil (Exs.nil ⟨n - 1, by exact o575 hn, hΓ', S, ws', inv.old (by simpa [List.contains_eq_mem] using hs), by exact o576 hn, by exact o577 hn5, by exact o578 hS, fun i n0 n1 => by simp [setS, n1, hσ i n0 n1], ?_, by simp [setS]⟩)
    simpa [setS] using h300
  | false =>
    rw [if_pos (by simp)]
    have ow := owes_le ch S x hs
    refine Exs.cons (Ex.assign (Ev.boolC (As.sub (Ev.local (lkS ls) (Ev.local lookup_setG_self (Sop.idict (kvs := S.map fun x => (x, .bool true)) (by simpa [setS] using h300) (by simp; exact o579 hS) ?_))))))
    rw [storedV_seen hs]
    refine Exs.cons (Ex.drop (Ev.callM (T := Ev.local (lkS lw) ⟨.builtin "list.extend", fun G ι s u pl E Z X r k => getM_list (vs := ws'.map .int) (by simp [setS]) PySem.F.slot_list_extend PySem.F.type_list_extend X r k, .inl (fun a h => nomatch h), Evs.cons (Ev.ifExp (Is.cmp rfl (Ev.local lookup_setG_self (Ev.local (lkS lc) (Cop.inI (kvs := choV ch) (pin := pin) ?_ ?_)))))⟩)))
    · have := hσ c c300 c301
      simp [setS, c300, c301, this, hc]
    have inv' := inv.new e
    have fin : ∀ Γ2, Γeq ["c"] Γ1 Γ2 → ∃ m, m < n ∧ Γeq ["c"] Γ1 Γ2 ∧ (Sm2 fun S_1 ws => An7 (ReachInv ch bs goal S_1 ws) (m = ws.length + owes ch S_1) (m ≤ 500) (S_1.length ≤ 500 - m) (∀ i, i ≠ 300 → i ≠ 301 → (setS (setS (setS σ' 301 (.list (ws'.map .int))) 300 (.idict ((S ++ [x]).map fun x => (x, .bool true)))) 301 (.list (ws'.map .int ++ (kidsOf ch x).map .int))) i = σ i) ((setS (setS (setS σ' 301 (.list (ws'.map .int))) 300 (.idict ((S ++ [x]).map fun x => (x, .bool true)))) 301 (.list (ws'.map .int ++ (kidsOf ch x).map .int))) 300 = some (.idict (S_1.map fun x => (x, .bool true)))) ((setS (setS (setS σ' 301 (.list (ws'.map .int))) 300 (.idict ((S ++ [x]).map fun x => (x, .bool true)))) 301 (.list (ws'.map .int ++ (kidsOf ch x).map .int))) 301 = some (.list (ws.map .int)))) := fun Γ2 h2 =>
      ⟨ws'.length + (kidsOf ch x).length + owes ch (S ++ [x]), by exact o580 hn ow, h2, S ++ [x], ws' ++ kidsOf ch x, inv', by simp, by exact o581 hn5 hn ow, by simp; exact o582 hn5 hS hn ow, fun i n0 n1 => by simp [setS, n0, n1, hσ i n0 n1], by simp [setS], by simp [setS]⟩
    have klen : (kidsOf ch x).length ≤ 500 := by exact o583 hn5 hn ow
    rw [atV_cho]
    rcases hnd : nodeAt ch x with _ | nd
    · have kk : kidsOf ch x = [] := by simp [kidsOf, hnd]
      rw [if_neg (by simp)]
      refine Ev.tuple (Evs.nil ⟨by simp, Evs.nil (Bi.extendT (vs := ws'.map .int) (by simp [setS]) (by simp; exact o574 hn5 hn) (by simp) ⟨.inl rfl, Exs.nil (Exs.nil ?_)⟩)⟩)
      have := fin _ hΓ'
      rw [kk] at this
      exact this
    · have kk : kidsOf ch x = nd.2 := by simp [kidsOf, hnd]
      have klen' : nd.2.length ≤ 500 := kk ▸ klen
      rw [if_pos (by simp)]
      have hcc : (setS (setS σ' 301 (.list (ws'.map .int))) 300 (.idict ((S ++ [x]).map fun x => (x, .bool true)))) c = some (.idict (choV ch) pin) := by
        have := hσ c c300 c301
        simp [setS, c300, c301, this, hc]
      refine Ev.tail (Ev.sub (Ev.local (lkS lc) (Ev.local lookup_setG_self (Gop.idict (v := nodeV nd) hcc (by rw [atV_cho, hnd]; rfl) ⟨_, _, rfl, by simp; exact o584 klen', ?_⟩))))
      refine Evs.nil (Bi.extendT (vs := ws'.map .int) (by simp [setS]) (by simp; exact o574 hn5 hn) (by simp; exact o584 klen') ⟨.inl rfl, Exs.nil (Exs.nil ?_)⟩)
      have := fin _ hΓ'
      rw [kk] at this
      exact this
end Mine

open PySem PySem.W PyProof.Rows PySem.SeqAt PySem.Calls
set_option Elab.async false
set_option maxRecDepth 100000
set_option linter.unusedVariables false
namespace Mine

theorem pa452_bank {W : Wd} (hK : WK W) : plainAttr W.K 452 "bank" = true := by rw [hK.k]; rfl
theorem pa452_unions {W : Wd} (hK : WK W) : plainAttr W.K 452 "unions" = true := by rw [hK.k]; rfl
theorem pa452_edges {W : Wd} (hK : WK W) : plainAttr W.K 452 "edges" = true := by rw [hK.k]; rfl
theorem pa452_forest {W : Wd} (hK : WK W) : plainAttr W.K 452 "forest" = true := by rw [hK.k]; rfl
theorem pa452_known {W : Wd} (hK : WK W) : plainAttr W.K 452 "known" = true := by rw [hK.k]; rfl
theorem pa452_above {W : Wd} (hK : WK W) : plainAttr W.K 452 "above" = true := by rw [hK.k]; rfl
theorem pa452_waiting {W : Wd} (hK : WK W) : plainAttr W.K 452 "waiting" = true := by rw [hK.k]; rfl
theorem pa452_backs {W : Wd} (hK : WK W) : plainAttr W.K 452 "backs" = true := by rw [hK.k]; rfl
theorem pa322_above {W : Wd} (hK : WK W) : plainAttr W.K 322 "above" = true := by rw [hK.k]; rfl
theorem pa322_lots {W : Wd} (hK : WK W) : plainAttr W.K 322 "lots" = true := by rw [hK.k]; rfl
theorem pa322_merged {W : Wd} (hK : WK W) : plainAttr W.K 322 "merged" = true := by rw [hK.k]; rfl
theorem pa240_nodes {W : Wd} (hK : WK W) : plainAttr W.K 240 "nodes" = true := by rw [hK.k]; rfl
theorem pa240_numbers {W : Wd} (hK : WK W) : plainAttr W.K 240 "numbers" = true := by rw [hK.k]; rfl
theorem pa240_weights {W : Wd} (hK : WK W) : plainAttr W.K 240 "weights" = true := by rw [hK.k]; rfl
theorem pa240_depths {W : Wd} (hK : WK W) : plainAttr W.K 240 "depths" = true := by rw [hK.k]; rfl
theorem pa124_heap {W : Wd} (hK : WK W) : plainAttr W.K 124 "heap" = true := by rw [hK.k]; rfl
theorem pa124_costs {W : Wd} (hK : WK W) : plainAttr W.K 124 "costs" = true := by rw [hK.k]; rfl
theorem pa124_most {W : Wd} (hK : WK W) : plainAttr W.K 124 "most" = true := by rw [hK.k]; rfl
theorem pa124_least {W : Wd} (hK : WK W) : plainAttr W.K 124 "least" = true := by rw [hK.k]; rfl
theorem pm452_size {W : Wd} (hK : WK W) : plainMeth W.K 452 "size" 347 = true := by rw [hK.k]; rfl
theorem pm452_node {W : Wd} (hK : WK W) : plainMeth W.K 452 "node" 352 = true := by rw [hK.k]; rfl
theorem pm452_add {W : Wd} (hK : WK W) : plainMeth W.K 452 "add" 357 = true := by rw [hK.k]; rfl
theorem pm452_put {W : Wd} (hK : WK W) : plainMeth W.K 452 "put" 362 = true := by rw [hK.k]; rfl
theorem pm452_look_at {W : Wd} (hK : WK W) : plainMeth W.K 452 "look_at" 369 = true := by rw [hK.k]; rfl
theorem pm452_find {W : Wd} (hK : WK W) : plainMeth W.K 452 "find" 376 = true := by rw [hK.k]; rfl
theorem pm452_merge {W : Wd} (hK : WK W) : plainMeth W.K 452 "merge" 390 = true := by rw [hK.k]; rfl
theorem pm452_join {W : Wd} (hK : WK W) : plainMeth W.K 452 "join" 397 = true := by rw [hK.k]; rfl
theorem pm452_settle {W : Wd} (hK : WK W) : plainMeth W.K 452 "settle" 404 = true := by rw [hK.k]; rfl
theorem pm452_classes {W : Wd} (hK : WK W) : plainMeth W.K 452 "classes" 418 = true := by rw [hK.k]; rfl
theorem pm452_members {W : Wd} (hK : WK W) : plainMeth W.K 452 "members" 425 = true := by rw [hK.k]; rfl
theorem pm452_nodes_of {W : Wd} (hK : WK W) : plainMeth W.K 452 "nodes_of" 430 = true := by rw [hK.k]; rfl
theorem pm322_make {W : Wd} (hK : WK W) : plainMeth W.K 322 "make" 265 = true := by rw [hK.k]; rfl
theorem pm322_size {W : Wd} (hK : WK W) : plainMeth W.K 322 "size" 272 = true := by rw [hK.k]; rfl
theorem pm322_find {W : Wd} (hK : WK W) : plainMeth W.K 322 "find" 279 = true := by rw [hK.k]; rfl
theorem pm322_merge {W : Wd} (hK : WK W) : plainMeth W.K 322 "merge" 286 = true := by rw [hK.k]; rfl
theorem pm322_members {W : Wd} (hK : WK W) : plainMeth W.K 322 "members" 293 = true := by rw [hK.k]; rfl
theorem pm322_classes {W : Wd} (hK : WK W) : plainMeth W.K 322 "classes" 298 = true := by rw [hK.k]; rfl
theorem pm240_size {W : Wd} (hK : WK W) : plainMeth W.K 240 "size" 159 = true := by rw [hK.k]; rfl
theorem pm240_take {W : Wd} (hK : WK W) : plainMeth W.K 240 "take" 164 = true := by rw [hK.k]; rfl
theorem pm240_require {W : Wd} (hK : WK W) : plainMeth W.K 240 "require" 171 = true := by rw [hK.k]; rfl
theorem pm240_op {W : Wd} (hK : WK W) : plainMeth W.K 240 "op" 197 = true := by rw [hK.k]; rfl
theorem pm240_kids {W : Wd} (hK : WK W) : plainMeth W.K 240 "kids" 204 = true := by rw [hK.k]; rfl
theorem pm124_price {W : Wd} (hK : WK W) : plainMeth W.K 124 "price" 95 = true := by rw [hK.k]; rfl
theorem pm124_choices {W : Wd} (hK : WK W) : plainMeth W.K 124 "choices" 114 = true := by rw [hK.k]; rfl
theorem fk67 {W : Wd} (hK : WK W) : isFnK W.K 67 = true := by rw [hK.k]; rfl
theorem fk74 {W : Wd} (hK : WK W) : isFnK W.K 74 = true := by rw [hK.k]; rfl
theorem fk88 {W : Wd} (hK : WK W) : isFnK W.K 88 = true := by rw [hK.k]; rfl
theorem fk95 {W : Wd} (hK : WK W) : isFnK W.K 95 = true := by rw [hK.k]; rfl
theorem fk114 {W : Wd} (hK : WK W) : isFnK W.K 114 = true := by rw [hK.k]; rfl
theorem fk133 {W : Wd} (hK : WK W) : isFnK W.K 133 = true := by rw [hK.k]; rfl
theorem fk152 {W : Wd} (hK : WK W) : isFnK W.K 152 = true := by rw [hK.k]; rfl
theorem fk159 {W : Wd} (hK : WK W) : isFnK W.K 159 = true := by rw [hK.k]; rfl
theorem fk164 {W : Wd} (hK : WK W) : isFnK W.K 164 = true := by rw [hK.k]; rfl
theorem fk171 {W : Wd} (hK : WK W) : isFnK W.K 171 = true := by rw [hK.k]; rfl
theorem fk197 {W : Wd} (hK : WK W) : isFnK W.K 197 = true := by rw [hK.k]; rfl
theorem fk204 {W : Wd} (hK : WK W) : isFnK W.K 204 = true := by rw [hK.k]; rfl
theorem fk258 {W : Wd} (hK : WK W) : isFnK W.K 258 = true := by rw [hK.k]; rfl
theorem fk265 {W : Wd} (hK : WK W) : isFnK W.K 265 = true := by rw [hK.k]; rfl
theorem fk272 {W : Wd} (hK : WK W) : isFnK W.K 272 = true := by rw [hK.k]; rfl
theorem fk279 {W : Wd} (hK : WK W) : isFnK W.K 279 = true := by rw [hK.k]; rfl
theorem fk286 {W : Wd} (hK : WK W) : isFnK W.K 286 = true := by rw [hK.k]; rfl
theorem fk293 {W : Wd} (hK : WK W) : isFnK W.K 293 = true := by rw [hK.k]; rfl
theorem fk298 {W : Wd} (hK : WK W) : isFnK W.K 298 = true := by rw [hK.k]; rfl
theorem fk340 {W : Wd} (hK : WK W) : isFnK W.K 340 = true := by rw [hK.k]; rfl
theorem fk347 {W : Wd} (hK : WK W) : isFnK W.K 347 = true := by rw [hK.k]; rfl
theorem fk352 {W : Wd} (hK : WK W) : isFnK W.K 352 = true := by rw [hK.k]; rfl
theorem fk357 {W : Wd} (hK : WK W) : isFnK W.K 357 = true := by rw [hK.k]; rfl
theorem fk362 {W : Wd} (hK : WK W) : isFnK W.K 362 = true := by rw [hK.k]; rfl
theorem fk369 {W : Wd} (hK : WK W) : isFnK W.K 369 = true := by rw [hK.k]; rfl
theorem fk376 {W : Wd} (hK : WK W) : isFnK W.K 376 = true := by rw [hK.k]; rfl
theorem fk390 {W : Wd} (hK : WK W) : isFnK W.K 390 = true := by rw [hK.k]; rfl
theorem fk397 {W : Wd} (hK : WK W) : isFnK W.K 397 = true := by rw [hK.k]; rfl
theorem fk404 {W : Wd} (hK : WK W) : isFnK W.K 404 = true := by rw [hK.k]; rfl
theorem fk418 {W : Wd} (hK : WK W) : isFnK W.K 418 = true := by rw [hK.k]; rfl
theorem fk425 {W : Wd} (hK : WK W) : isFnK W.K 425 = true := by rw [hK.k]; rfl
theorem fk430 {W : Wd} (hK : WK W) : isFnK W.K 430 = true := by rw [hK.k]; rfl
theorem fk463 {W : Wd} (hK : WK W) : isFnK W.K 463 = true := by rw [hK.k]; rfl
theorem fk468 {W : Wd} (hK : WK W) : isFnK W.K 468 = true := by rw [hK.k]; rfl
theorem fk473 {W : Wd} (hK : WK W) : isFnK W.K 473 = true := by rw [hK.k]; rfl
theorem fk480 {W : Wd} (hK : WK W) : isFnK W.K 480 = true := by rw [hK.k]; rfl
theorem fk485 {W : Wd} (hK : WK W) : isFnK W.K 485 = true := by rw [hK.k]; rfl
theorem mk452 {W : Wd} (hK : WK W) : makesIn W.K 452 = true := by rw [hK.k]; rfl
theorem in452 {W : Wd} (hK : WK W) : findIn W.K (.ref 452) "__init__" = some (some (.ref 340)) := by rw [hK.k]; rfl
theorem ty452 {W : Wd} (hK : WK W) : typeIn W.K (.ref 340) = some (.type "function") := by rw [hK.k]; rfl
theorem mk322 {W : Wd} (hK : WK W) : makesIn W.K 322 = true := by rw [hK.k]; rfl
theorem in322 {W : Wd} (hK : WK W) : findIn W.K (.ref 322) "__init__" = some (some (.ref 258)) := by rw [hK.k]; rfl
theorem ty322 {W : Wd} (hK : WK W) : typeIn W.K (.ref 258) = some (.type "function") := by rw [hK.k]; rfl
theorem mk240 {W : Wd} (hK : WK W) : makesIn W.K 240 = true := by rw [hK.k]; rfl
theorem in240 {W : Wd} (hK : WK W) : findIn W.K (.ref 240) "__init__" = some (some (.ref 152)) := by rw [hK.k]; rfl
theorem ty240 {W : Wd} (hK : WK W) : typeIn W.K (.ref 152) = some (.type "function") := by rw [hK.k]; rfl
theorem mk124 {W : Wd} (hK : WK W) : makesIn W.K 124 = true := by rw [hK.k]; rfl
theorem in124 {W : Wd} (hK : WK W) : findIn W.K (.ref 124) "__init__" = some (some (.ref 88)) := by rw [hK.k]; rfl
theorem ty124 {W : Wd} (hK : WK W) : typeIn W.K (.ref 88) = some (.type "function") := by rw [hK.k]; rfl
theorem nmis_reached {W : Wd} (hK : WK W) : nsIn W.K mainGlobals "is_reached" = some (some (.ref 74)) := by rw [hK.k]; rfl
theorem nmwant_costs {W : Wd} (hK : WK W) : nsIn W.K mainGlobals "want_costs" = some (some (.ref 67)) := by rw [hK.k]; rfl
theorem nmCheapestDag {W : Wd} (hK : WK W) : nsIn W.K mainGlobals "CheapestDag" = some (some (.ref 124)) := by rw [hK.k]; rfl
theorem nmis_op {W : Wd} (hK : WK W) : nsIn W.K mainGlobals "is_op" = some (some (.ref 133)) := by rw [hK.k]; rfl
theorem nmBank {W : Wd} (hK : WK W) : nsIn W.K mainGlobals "Bank" = some (some (.ref 240)) := by rw [hK.k]; rfl
theorem nmUnions {W : Wd} (hK : WK W) : nsIn W.K mainGlobals "Unions" = some (some (.ref 322)) := by rw [hK.k]; rfl
theorem nmHeap {W : Wd} (hK : WK W) : nsIn W.K mainGlobals "Heap" = some (some (.ref 452)) := by rw [hK.k]; rfl
theorem nm_law_dip {W : Wd} (hK : WK W) : nsIn W.K mainGlobals "_law_dip" = some (some (.ref 463)) := by rw [hK.k]; rfl
theorem nm_law_heap {W : Wd} (hK : WK W) : nsIn W.K mainGlobals "_law_heap" = some (some (.ref 468)) := by rw [hK.k]; rfl
theorem nm_law_below {W : Wd} (hK : WK W) : nsIn W.K mainGlobals "_law_below" = some (some (.ref 473)) := by rw [hK.k]; rfl
theorem nm_law_walk {W : Wd} (hK : WK W) : nsIn W.K mainGlobals "_law_walk" = some (some (.ref 480)) := by rw [hK.k]; rfl
theorem nmlaw {W : Wd} (hK : WK W) : nsIn W.K mainGlobals "law" = some (some (.ref 485)) := by rw [hK.k]; rfl
theorem nblen {W : Wd} (hK : WK W) : nsIn W.K mainGlobals "len" = some none := by rw [hK.k]; rfl
theorem nblist {W : Wd} (hK : WK W) : nsIn W.K mainGlobals "list" = some none := by rw [hK.k]; rfl
theorem nbtuple {W : Wd} (hK : WK W) : nsIn W.K mainGlobals "tuple" = some none := by rw [hK.k]; rfl
theorem nbdict {W : Wd} (hK : WK W) : nsIn W.K mainGlobals "dict" = some none := by rw [hK.k]; rfl
theorem nbset {W : Wd} (hK : WK W) : nsIn W.K mainGlobals "set" = some none := by rw [hK.k]; rfl
theorem nbsorted {W : Wd} (hK : WK W) : nsIn W.K mainGlobals "sorted" = some none := by rw [hK.k]; rfl
theorem nbrange {W : Wd} (hK : WK W) : nsIn W.K mainGlobals "range" = some none := by rw [hK.k]; rfl
theorem nbint {W : Wd} (hK : WK W) : nsIn W.K mainGlobals "int" = some none := by rw [hK.k]; rfl
theorem nbstr {W : Wd} (hK : WK W) : nsIn W.K mainGlobals "str" = some none := by rw [hK.k]; rfl
theorem nbsum {W : Wd} (hK : WK W) : nsIn W.K mainGlobals "sum" = some none := by rw [hK.k]; rfl
theorem nbmax {W : Wd} (hK : WK W) : nsIn W.K mainGlobals "max" = some none := by rw [hK.k]; rfl
end Mine

open PySem PySem.W PyProof.Rows PySem.SeqAt PySem.Calls
set_option Elab.async false
set_option maxRecDepth 100000
set_option linter.unusedVariables false
set_option pp.maxSteps 600
set_option pp.deepTerms false
namespace Mine


section
variable {W : Wd} {F : Fx} {A : Around} {st : St}
theorem Ev.name {x v p Q} (q : st.Γ.lookup x = some v) (z : Q v st) (hk : F.env.kindOf x = some .local ∨ F.env.kindOf x = some .cell ∨ F.env.kindOf x = some .free := by first | exact .inl rfl | exact .inr (.inl rfl) | exact .inr (.inr rfl))
    (hf : F.env.scope.kind = .function := by rfl) (hd : (x == ("__debug__" : Str)) = false := by decide) (hn : (x == ("__classdict__" : Str)) = false := by decide) : Ev W F A (.Name x p) st Q := by
  rcases hk with hk | hk | hk
  · exact Ev.local q z hk hf hd
  · exact Ev.cell q z hk hf hd
  · exact Ev.free q z hk hf hd hn
/-- `x.name` of an own object -/
theorem Ev.at {x p name pos Q} {i C d : Nat} {kvs : List (Str × V)} {w : V} (q : st.Γ.lookup x = some (.ref i)) (hi : st.σ i = some (.inst C (some d))) (hd : st.σ d = some (.sdict kvs)) (pa : plainAttr W.K C name = true) (hw : atV kvs name = some w) (z : Q w st)
    (hne : w ≠ .opq := by intro h; cases h) (hk : F.env.kindOf x = some .local ∨ F.env.kindOf x = some .cell ∨ F.env.kindOf x = some .free := by first | exact .inl rfl | exact .inr (.inl rfl) | exact .inr (.inr rfl))
    (hf : F.env.scope.kind = .function := by rfl) (hdb : (x == ("__debug__" : Str)) = false := by decide) (hn : (x == ("__classdict__" : Str)) = false := by decide) : Ev W F A (.Attribute (.Name x p) name pos) st Q :=
  Ev.attr (T := Ev.name q ⟨i, C, d, kvs, w, rfl, hi, hd, hw, hne, pa, z⟩ hk hf hdb hn)
/-- a call of a builtin by name -/
theorem Ev.b {x p es pos Q} {f : Value} (e : nsIn W.K mainGlobals x = some none) (T : Evs W F A es st fun vs st' => Bi W F A f vs st' Q) (hv : bootBuiltins x = some f := by rfl) (hx : x ≠ "__name__" := by decide) (hf : ∀ a, f ≠ .ref a := by intro _ h; cases h)
    (hp : es.all notStar = true := by rfl) (hk : F.env.kindOf x = some .globalImplicit := by rfl) (hc : F.env.scope.kind = .function := by rfl) (hg : F.env.globals = mainGlobals := by rfl) (hb : F.env.builtins = builtinsNs := by rfl) (hd : (x == ("__debug__" : Str)) = false := by decide) :
    Ev W F A (.Call (.Name x p) es [] pos) st Q := Ev.callB e hv hx hf T hp hk hc hg hb hd
theorem Evs.one {e Q} (T : Ev W F A e st fun v st' => Q [v] st') (h : notStar e = true := by rfl) : Evs W F A [e] st Q := Evs.cons (T.mono fun v st' q => Evs.nil q) h
theorem Evs.two {e1 e2 Q} (T : Ev W F A e1 st fun v st' => Ev W F A e2 st' fun w st'' => Q [v, w] st'') (h1 : notStar e1 = true := by rfl) (h2 : notStar e2 = true := by rfl) : Evs W F A [e1, e2] st Q :=
  Evs.cons (T.mono fun v st' q => Evs.cons (q.mono fun w st'' q2 => Evs.nil q2) h2) h1
theorem Evs.three {e1 e2 e3 Q} (T : Ev W F A e1 st fun v st' => Ev W F A e2 st' fun w st'' => Ev W F A e3 st'' fun z st3 => Q [v, w, z] st3) (h1 : notStar e1 = true := by rfl) (h2 : notStar e2 = true := by rfl) (h3 : notStar e3 = true := by rfl) : Evs W F A [e1, e2, e3] st Q :=
  Evs.cons (T.mono fun v st' q => Evs.cons (q.mono fun w st'' q2 => Evs.cons (q2.mono fun z st3 q3 => Evs.nil q3) h3) h2) h1
end


section
variable {W : Wd} {F : Fx} {A : Around} {st : St}
/-- `x.name(..)` of an own object -/
theorem Ev.mth {x p name apos es pos Q} {i C d : Nat} {f : Addr} {kvs : List (Str × V)} (q : st.Γ.lookup x = some (.ref i)) (hi : st.σ i = some (.inst C (some d))) (hd : st.σ d = some (.sdict kvs)) (pm : plainMeth W.K C name f = true) (fk : isFnK W.K f = true)
    (T : Evs W F A es st fun vs st' => Bi W F A (.ref f) (.ref i :: vs) st' Q) (hno : atV kvs name = none := by rfl)
    (hk : F.env.kindOf x = some .local ∨ F.env.kindOf x = some .cell ∨ F.env.kindOf x = some .free := by first | exact .inl rfl | exact .inr (.inl rfl) | exact .inr (.inr rfl))
    (hf : F.env.scope.kind = .function := by rfl) (hdb : (x == ("__debug__" : Str)) = false := by decide) (hcd : (x == ("__classdict__" : Str)) = false := by decide)
    (hp : es.all notStar = true := by rfl) (hn : es.length < 30 := by decide) (hl : (apos.endLine == pos.line) = true := by rfl)
    (hb : ∀ w, attributeBase (.Name x p) name F.env w = w := by intro; rfl) : Ev W F A (.Call (.Attribute (.Name x p) name apos) es [] pos) st Q :=
  Ev.callMO (T := Ev.name q ⟨i, d, kvs, rfl, hi, hd, hno, T⟩ hk hf hdb hcd) pm fk hp hn hl hb
/-- `x.a.name(..)` of instances -/
theorem Ev.mth2 {x p an ap name apos es pos Q} {i C d i2 C2 d2 : Nat} {f : Addr} {kvs kvs2 : List (Str × V)} (q : st.Γ.lookup x = some (.ref i)) (hi : st.σ i = some (.inst C (some d))) (hd : st.σ d = some (.sdict kvs)) (pa : plainAttr W.K C an = true) (hw : atV kvs an = some (.ref i2))
    (hi2 : st.σ i2 = some (.inst C2 (some d2))) (hd2 : st.σ d2 = some (.sdict kvs2)) (pm : plainMeth W.K C2 name f = true) (fk : isFnK W.K f = true)
    (T : Evs W F A es st fun vs st' => Bi W F A (.ref f) (.ref i2 :: vs) st' Q) (hno : atV kvs2 name = none := by rfl)
    (hk : F.env.kindOf x = some .local ∨ F.env.kindOf x = some .cell ∨ F.env.kindOf x = some .free := by first | exact .inl rfl | exact .inr (.inl rfl) | exact .inr (.inr rfl))
    (hf : F.env.scope.kind = .function := by rfl) (hdb : (x == ("__debug__" : Str)) = false := by decide) (hcd : (x == ("__classdict__" : Str)) = false := by decide)
    (hp : es.all notStar = true := by rfl) (hn : es.length < 30 := by decide) (hl : (apos.endLine == pos.line) = true := by rfl)
    (hb : ∀ w, attributeBase (.Attribute (.Name x p) an ap) name F.env w = w := by intro; rfl) : Ev W F A (.Call (.Attribute (.Attribute (.Name x p) an ap) name apos) es [] pos) st Q :=
  Ev.callMO (T := Ev.at q hi hd pa hw ⟨i2, d2, kvs2, rfl, hi2, hd2, hno, T⟩ (by intro h; cases h) hk hf hdb hcd) pm fk hp hn hl hb
/-- a method of a list -/
theorem Ev.lm {o : Expr} {name apos es pos Q} {id : String} (slot : Slot "list" name id) (hty : typeOf (.builtin id) = pure (.type "method_descriptor"))
    (T : Ev W F A o st fun ov st' => Sm2 fun i vs => An3 (ov = .ref i) (st'.σ i = some (.list vs)) (Evs W F A es st' fun ws st'' => Bi W F A (.builtin id) (.ref i :: ws) st'' Q))
    (hp : es.all notStar = true := by rfl) (hn : es.length < 30 := by decide) (hl : (apos.endLine == pos.line) = true := by rfl)
    (hb : ∀ w, attributeBase o name F.env w = w := by intro; rfl) : Ev W F A (.Call (.Attribute o name apos) es [] pos) st Q :=
  Ev.callM hp hn hl hb (T.mono fun ov st' ⟨i, vs, hv, hi, ev⟩ => ⟨.builtin id, fun G ι s u pl E Z X r k => by subst hv; exact getM_list hi slot hty X r k, .inl (fun a h => nomatch h), by subst hv; exact ev⟩)
theorem getM_dict {G ι s u} {pl : Sem Bool} {E : Value → Shared → Prop} {Z : Value × List Value → Shared → Prop} {i : Nat} {name : Str} {id : String} (hi : (Sm2 fun kvs pin => st.σ i = some (.idict kvs pin)) ∨ (∃ kvs, st.σ i = some (.sdict kvs)) ∨ ∃ kvs, st.σ i = some (.tdict kvs)) (slot : Slot "dict" name id) (hty : typeOf (.builtin id) = pure (.type "method_descriptor"))
    (X : Ok W F G st ι s.heap s.os s.gens) (r : Rep s.heap st.σ ι (.ref i) u) (k : ∀ tk, Z (.builtin id, [u]) { s with toks := tk }) : wpAny (model W.prog W.w) A (getMethod u name pl) Z E s := by
  cases r using Rep.refE
  rcases hi with ⟨kvs, pin, hi⟩ | ⟨kvs, hi⟩ | ⟨kvs, hi⟩
  · obtain ⟨us, D, r, n⟩ := idictAt X.hp hi
    exact getMethod_builtin D.typeIs PySem.F.plainAttrs_dict slot hty D.mapOf.noDict (k s.toks)
  · obtain ⟨us, D, r, n⟩ := sdictAt X.hp hi
    exact getMethod_builtin D.typeIs PySem.F.plainAttrs_dict slot hty D.mapOf.noDict (k s.toks)
  · obtain ⟨us, D, r, n⟩ := tdictAt X.hp hi
    obtain ⟨o, es, ep, ho, hc, _⟩ := D
    exact getMethod_builtin ⟨o, ho, hc.1⟩ PySem.F.plainAttrs_dict slot hty (fun b e => by injection e with e; subst e; exact ⟨o, ho, hc.2.1⟩) (k s.toks)
/-- a method of a dict -/
theorem Ev.dm {o : Expr} {name apos es pos Q} {id : String} (slot : Slot "dict" name id) (hty : typeOf (.builtin id) = pure (.type "method_descriptor"))
    (T : Ev W F A o st fun ov st' => ∃ i, An3 (ov = .ref i) ((Sm2 fun kvs pin => st'.σ i = some (.idict kvs pin)) ∨ (∃ kvs, st'.σ i = some (.sdict kvs)) ∨ ∃ kvs, st'.σ i = some (.tdict kvs)) (Evs W F A es st' fun ws st'' => Bi W F A (.builtin id) (.ref i :: ws) st'' Q))
    (hp : es.all notStar = true := by rfl) (hn : es.length < 30 := by decide) (hl : (apos.endLine == pos.line) = true := by rfl)
    (hb : ∀ w, attributeBase o name F.env w = w := by intro; rfl) : Ev W F A (.Call (.Attribute o name apos) es [] pos) st Q :=
  Ev.callM hp hn hl hb (T.mono fun ov st' ⟨i, hv, hi, ev⟩ => ⟨.builtin id, fun G ι s u pl E Z X r k => by subst hv; exact getM_dict hi slot hty X r k, .inl (fun a h => nomatch h), by subst hv; exact ev⟩)
end

/-- all stands but what X names; what is new lies high -/
def Keep (X : Nat → Prop) (σ σ' : Sto) : Prop := ∀ i, (i < 1000 ∨ σ i ≠ none) → ¬ X i → σ' i = σ i
theorem Keep.refl {X σ} : Keep X σ σ := fun _ _ _ => rfl
theorem Keep.trans {X σ σ' σ''} (a : Keep X σ σ') (b : Keep X σ' σ'') : Keep X σ σ'' := fun i h n => by
  rw [b i (h.imp id fun z => by rw [a i (.inr z) n]; exact z) n, a i h n]
theorem Keep.mono {X Y σ σ'} (a : Keep X σ σ') (h : ∀ i, X i → Y i) : Keep Y σ σ' := fun i z n => a i z fun q => n (h i q)
theorem Keep.set {X σ σ' i o} (a : Keep X σ σ') (h : X i ∨ (1000 ≤ i ∧ σ i = none)) : Keep X σ (setS σ' i o) := fun j z n => by
  have : j ≠ i := fun q => by
    subst q
    rcases h with h | ⟨h1, h2⟩
    · exact n h
    · rcases z with z | z
      · exact o63 h1 z
      · exact z h2
  simp [setS, this, a j z n]
theorem setS_ne {σ : Sto} {i j : Nat} {o : AObj} (h : j ≠ i) : setS σ i o j = σ j := by simp [setS, h]
theorem setS_eq {σ : Sto} {i : Nat} {o : AObj} : setS σ i o i = some o := by simp [setS]

section
variable {W : Wd} {F : Fx} {A : Around} {st : St} {σ : Sto}
theorem Fn.fin {f vs Q} (T : ∀ N, 1000 ≤ N → (∀ i, N ≤ i → σ i = none) → Fn W A f vs σ Q) : Fn W A f vs σ Q := fun G ι s us X r => by
  obtain ⟨N, hN⟩ := X.fin
  exact T (max N 1000) (by exact o64) (fun i hi => hN i (by exact o65 hi)) G ι s us X r
theorem Exs.fin {x Q} (T : ∀ N, 1000 ≤ N → (∀ i, N ≤ i → st.σ i = none) → Exs W F A x st Q) : Exs W F A x st Q := fun G ι s X => by
  obtain ⟨N, hN⟩ := X.hp.fin
  exact T (max N 1000) (by exact o64) (fun i hi => hN i (by exact o65 hi)) G ι s X
theorem Ev.fin {x Q} (T : ∀ N, 1000 ≤ N → (∀ i, N ≤ i → st.σ i = none) → Ev W F A x st Q) : Ev W F A x st Q := fun G ι s X => by
  obtain ⟨N, hN⟩ := X.hp.fin
  exact T (max N 1000) (by exact o64) (fun i hi => hN i (by exact o65 hi)) G ι s X
theorem Fn.new {f vs} {P : AObj → Prop} (j : Nat) (T : Fn W A f vs σ fun v σ' => An4 (∀ i, σ i ≠ Option.none → σ' i = σ i) (v = .ref j) (σ j = none) (∃ o, An3 (σ' j = some o) (o.refs = []) (P o))) : Fn W A f vs σ fun v σ' => v = .ref j ∧ ∃ o, σ' = setS σ j o ∧ P o :=
  fun G ι s us X r => codeAny_mono (T G ι s us X r) fun rr s' ⟨u, v, σ', ι', e, Y, ext, rv, h1, h2, hj, o, ho, hr, p⟩ => by
    have sub : ∀ i ob, setS σ j o i = some ob → σ' i = some ob := fun i ob e => by
      by_cases q : i = j
      · subst q; rw [setS_eq] at e; cases e; exact ho
      · rw [setS_ne q] at e; rw [h1 i (by rw [e]; exact fun z => by cases z)]; exact e
    have cl : Closed (setS σ j o) := fun i ob e k hk => by
      by_cases q : i = j
      · subst q; rw [setS_eq] at e; cases e; rw [hr] at hk; cases hk
      · rw [setS_ne q] at e
        have := X.closed i ob e k hk
        have kj : k ≠ j := fun z => this (z ▸ hj)
        rwa [setS_ne kj]
    refine ⟨u, v, setS σ j o, ι', e, Y.restrict sub cl, ⟨ext.tup, fun i z => ⟨?_, (ext.ids i z).2⟩⟩, rv.restrict ?_, h2, o, rfl, p⟩
    · by_cases q : i = j
      · subst q; exact absurd hj z
      · rwa [setS_ne q]
    · subst h2
      intro k hk
      simp [V.refs] at hk
      subst hk
      rw [setS_eq]; exact fun z => by cases z
end
end Mine

open PySem PySem.W PyProof.Rows PySem.SeqAt PySem.Calls
set_option Elab.async false
set_option maxRecDepth 100000
set_option linter.unusedVariables false
set_option pp.maxSteps 600
set_option pp.deepTerms false
namespace Mine



/- sums over the first numbers -/
def sumTo (f : Nat → Nat) : Nat → Nat
  | 0 => 0
  | n + 1 => sumTo f n + f n
theorem sumTo_congr {f g : Nat → Nat} {n : Nat} (h : ∀ i, i < n → f i = g i) : sumTo f n = sumTo g n := by
  induction n with
  | zero => rfl
  | succ n ih => simp only [sumTo]; rw [ih fun i hi => h i (by exact o66 hi), h n (by exact o67)]
theorem sumTo_upd {f : Nat → Nat} {k v n : Nat} (h : k < n) : sumTo (fun i => if i = k then v else f i) n + f k = sumTo f n + v := by
  induction n with
  | zero => exact o68 h
  | succ n ih =>
    simp only [sumTo]
    by_cases q : k = n
    · subst q
      have : sumTo (fun i => if i = k then v else f i) k = sumTo f k := sumTo_congr fun i hi => by simp [Nat.ne_of_lt hi]
      rw [this]; simp; exact o69
    · have := ih (by exact o70 h q)
      have : ¬ n = k := fun e => q e.symm
      simp only [this, if_false]; (first | exact o71 (by assumption) | omega)
theorem sumTo_le {f : Nat → Nat} {k n : Nat} (h : k < n) : f k ≤ sumTo f n := by
  induction n with
  | zero => exact o72 h
  | succ n ih =>
    simp only [sumTo]
    by_cases q : k = n
    · subst q; exact o73
    · have := ih (by exact o70 h q); exact o74 this

def IsRoot (above : List Int) (r : Int) : Prop := 0 ≤ r ∧ above[r.toNat]? = some r
inductive Fd (above : List Int) : Int → Int → Prop
  | root {a} : above[a.toNat]? = some a → Fd above a a
  | step {a x r} : above[a.toNat]? = some x → x ≠ a → Fd above x r → Fd above a r
theorem Fd.one {above a r s} (h : Fd above a r) : Fd above a s → r = s := by
  induction h with
  | root h => intro g; cases g with
    | root _ => rfl
    | step e n _ => rw [h] at e; cases e; exact absurd rfl n
  | step h n _ ih => intro g; cases g with
    | root e => rw [h] at e; cases e; exact absurd rfl n
    | step e _ g => rw [h] at e; cases e; exact ih g
def rootsN (above : List Int) : Nat := sumTo (fun i => if above[i]? = some (i : Int) then 1 else 0) above.length
def lotsN (above : List Int) (L : Nat → List Int) : Nat := sumTo (fun i => if above[i]? = some (i : Int) then (L i).length else 0) above.length

structure UA (above : List Int) (σ : Sto) : Prop where
  i : σ 14 = some (.inst 322 (some 15))
  d : σ 15 = some (.sdict [("above", .ref 24), ("lots", .ref 25), ("merged", .ref 26)])
  l : σ 24 = some (.list (above.map .int))
  ok : ∀ (i : Nat) (x : Int), above[i]? = some x → 0 ≤ x ∧ x ≤ i
  len : above.length ≤ 8
structure Un (above : List Int) (M : Nat) (L : Nat → List Int) (σ : Sto) : Prop extends UA above σ where
  lots : σ 25 = some (.list ((List.range above.length).map fun k => V.ref (100 + k)))
  lot : ∀ k, k < above.length → σ (100 + k) = some (.list ((L k).map .int))
  lotEl : ∀ k, k < above.length → ∀ x ∈ L k, 0 ≤ x ∧ x < above.length
  lotNe : ∀ k, k < above.length → L k ≠ []
  lotSum : lotsN above L = above.length
  merged : ∃ ms : List V, σ 26 = some (.list ms) ∧ ms.length = M
  cnt : M + rootsN above = above.length
  fresh : ∀ k, above.length ≤ k → k < 50 → σ (100 + k) = none

theorem Un.lotLe {above M L σ} (U : Un above M L σ) {r : Int} (h : IsRoot above r) : (L r.toNat).length ≤ above.length := by
  have hr : r.toNat < above.length := by
    rcases Nat.lt_or_ge r.toNat above.length with z | z
    · exact z
    · have := h.2; rw [List.getElem?_eq_none z] at this; cases this
  have := sumTo_le (f := fun i => if above[i]? = some (i : Int) then (L i).length else 0) hr
  have e := U.lotSum
  unfold lotsN at e
  rw [e] at this
  have h2 := h.2
  have : (r.toNat : Int) = r := Int.toNat_of_nonneg h.1
  simp_all
theorem IsRoot.lt {above r} (h : IsRoot above r) : r < above.length := by
  rcases Nat.lt_or_ge r.toNat above.length with z | z
  · have := h.1; exact o75 z
  · have := h.2; rw [List.getElem?_eq_none z] at this; cases this
theorem Un.mLt {above M L σ} (U : Un above M L σ) (h : 0 < above.length) : M < above.length := by
  have h0 : above[0]? = some 0 := by
    have e : above[0]? = some above[0] := by simp [h]
    have := U.ok 0 _ e
    have : above[0] = 0 := by exact o76 this
    rw [e, this]
  have := sumTo_le (f := fun i => if above[i]? = some (i : Int) then 1 else 0) h
  have c := U.cnt
  unfold rootsN at c
  simp only [h0] at this
  simp at this
  exact o77 c this

theorem u_find {W : Wd} (hK : WK W) {A : Around} {n : Nat} (R : Room A (n + 1)) {σ : Sto} {above : List Int} (U : UA above σ) {a : Int} (h0 : 0 ≤ a) (ha : a < above.length) :
    Fn W A (.ref 279) [.ref 14, .int a] σ fun v σ' => σ' = σ ∧ ∃ r : Int, An3 (v = .int r) (IsRoot above r) (Fd above a r) := by
  refine Fn.same (Fn.body ["self", "a"] R (by rw [hK.k]; rfl) (by rw [hK.k]; rfl) rfl rfl rfl rfl (bind2 fun _ _ => rfl) rfl (by decide) (by intro n; rfl) rfl rfl rfl fun L A' R' => ?_)
  generalize hΓ1 : (["self", "a"] : List Str).zip [V.ref 14, .int a] = Γ1
  refine Exs.cons (Ex.while (fun k st => An5 (Γeq ["a"] Γ1 st.Γ) (st.σ = σ) (st.Γ.lookup ("a" : Str) = some (.int k)) (k < above.length) (∀ r, Fd above k r → Fd above a r)) a.toNat ⟨.refl, rfl, by rw [← hΓ1]; show some (V.int a) = _; rw [Int.toNat_of_nonneg h0], by exact o78 h0 ha, by rw [Int.toNat_of_nonneg h0]; exact fun _ z => z⟩ ?_)
  rintro k ⟨Γ, σ'⟩ ⟨hΓ, rfl, la, hk, hfd⟩
  dsimp only at hΓ la
  have lself : Γ.lookup ("self" : Str) = some (.ref 14) := hΓ.at (by rw [← hΓ1]; rfl)
  have hx : above[k]? = some above[k] := by simp [hk]
  have hz := U.len
  have hok := U.ok k _ hx
  refine Is.cmp rfl (Ev.sub (Ev.at lself U.i U.d (pa322_above hK) rfl (Ev.name la (Gop.list U.l (Int.natCast_nonneg k) (v := .int above[k]) (by simp [hk]) (by simp; exact o79 hz) (Ev.name la (Cop.neI ?_))))))
  by_cases e : above[k] = (k : Int)
  · rw [if_neg (by simp [e])]
    refine Exs.cons (Ex.ret (Ev.name la ⟨fun _ _ => rfl, rfl, k, rfl, ⟨Int.natCast_nonneg k, ?_⟩, hfd k (.root ?_)⟩))
    · simp [hk, e]
    · simp [hk, e]
  · rw [if_pos (by simp [e])]
    refine Exs.cons (Ex.assign (Ev.sub (Ev.at lself U.i U.d (pa322_above hK) rfl (Ev.name la (Gop.list U.l (Int.natCast_nonneg k) (v := .int above[k]) (by simp [hk]) (by simp; exact o79 hz) (As.local (Exs.nil ?_)))))))
    refine ⟨above[k].toNat, by exact o80 hok e, hΓ.set rfl, rfl, ?_, by exact o81 hk hok, fun r hr => hfd r (.step (x := above[k]) (by simp [hk]) e ?_)⟩
    · show (setG Γ "a" _).lookup _ = _
      rw [lookup_setG_self, Int.toNat_of_nonneg hok.1]
    · rwa [Int.toNat_of_nonneg hok.1] at hr

theorem u_size {W : Wd} (hK : WK W) {A : Around} {n : Nat} (R : Room A (n + 1)) {σ : Sto} {above : List Int} (U : UA above σ) :
    Fn W A (.ref 272) [.ref 14] σ fun v σ' => σ' = σ ∧ v = .int above.length := by
  refine Fn.same (Fn.body ["self"] R (by rw [hK.k]; rfl) (by rw [hK.k]; rfl) rfl rfl rfl rfl (bind1 fun _ => rfl) rfl (by decide) (by intro n; rfl) rfl rfl rfl fun L A' R' => ?_)
  have hz := U.len
  exact Exs.cons (Ex.ret (Ev.b (nblen hK) (Evs.one (Ev.at rfl U.i U.d (pa322_above hK) rfl (Bi.lenL U.l (by simp; exact o79 hz) ⟨fun _ _ => rfl, rfl, by rw [List.length_map]; rfl⟩)))))

theorem u_init {W : Wd} (hK : WK W) {A : Around} {n : Nat} (R : Room A (n + 1)) {σ : Sto} (hi : σ 14 = some (.inst 322 (some 15))) (hd : σ 15 = some (.sdict [])) (h24 : σ 24 = none) (h25 : σ 25 = none) (h26 : σ 26 = none) (hf : ∀ k, k < 50 → σ (100 + k) = none) :
    Fn W A (.ref 258) [.ref 14] σ fun v σ' => An3 (v = .none) (Un [] 0 (fun _ => []) σ') (Keep (fun i => i = 15 ∨ i = 24 ∨ i = 25 ∨ i = 26) σ σ') := by
  refine Fn.body ["self"] R (by rw [hK.k]; rfl) (by rw [hK.k]; rfl) rfl rfl rfl rfl (bind1 fun _ => rfl) rfl (by decide) (by intro n; rfl) rfl rfl rfl fun L A' R' => ?_
  refine Exs.cons (Ex.assign (Ev.list 24 (Evs.nil ⟨by simp, h24, As.attr (Ev.name rfl ⟨14, 322, 15, [], rfl, ?_, ?_, by simp, pa322_above hK, ?_⟩)⟩)))
  · simpa [setS] using hi
  · simpa [setS] using hd
  refine Exs.cons (Ex.assign (Ev.list 25 (Evs.nil ⟨by simp, ?_, As.attr (Ev.name rfl ⟨14, 322, 15, storedV [] "above" (.ref 24), rfl, ?_, ?_, by decide, pa322_lots hK, ?_⟩)⟩)))
  · simpa [setS] using h25
  · simpa [setS] using hi
  · simp [setS]
  refine Exs.cons (Ex.assign (Ev.list 26 (Evs.nil ⟨by simp, ?_, As.attr (Ev.name rfl ⟨14, 322, 15, storedV (storedV [] "above" (.ref 24)) "lots" (.ref 25), rfl, ?_, ?_, by decide, pa322_merged hK, ?_⟩)⟩)))
  · simpa [setS] using h26
  · simpa [setS] using hi
  · simp [setS]
  refine Exs.nil ⟨rfl, ?_, ?_⟩
  · refine ⟨⟨?_, ?_, ?_, by simp, by simp⟩, ?_, by simp, by simp, by simp, rfl, ⟨[], ?_, rfl⟩, rfl, fun k _ hk => ?_⟩
    · simpa [setS] using hi
    · dsimp only; rw [setS_eq]; rfl
    · simp [setS]
    · simp [setS]
    · simp [setS]
    · have a1 : 100 + k ≠ 15 := by exact o82
      have a2 : 100 + k ≠ 24 := by exact o83
      have a3 : 100 + k ≠ 25 := by exact o84
      have a4 : 100 + k ≠ 26 := by exact o85
      simpa [setS, a1, a2, a3, a4] using hf k hk
  · exact (((((Keep.refl.set (.inl (by simp))).set (.inl (by simp))).set (.inl (by simp))).set (.inl (by simp))).set (.inl (by simp))).set (.inl (by simp))
end Mine

open PySem PySem.W PyProof.Rows PySem.SeqAt PySem.Calls
set_option Elab.async false
set_option maxRecDepth 100000
set_option linter.unusedVariables false
set_option pp.maxSteps 600
set_option pp.deepTerms false
namespace Mine



theorem Exs.hide {W : Wd} {F : Fx} {A : Around} {Γ : List (Str × V)} {σ : Sto} {x Q} (T : ∀ σ', (∀ i, σ' i = σ i) → Exs W F A x ⟨Γ, σ'⟩ Q) : Exs W F A x ⟨Γ, σ⟩ Q := T σ fun _ => rfl
def XUn (i : Nat) : Prop := (24 ≤ i ∧ i ≤ 26) ∨ (100 ≤ i ∧ i < 150)

theorem Fd.ex {above : List Int} (ok : ∀ (i : Nat) (x : Int), above[i]? = some x → 0 ≤ x ∧ x ≤ i) {a : Int} (h0 : 0 ≤ a) (ha : a < above.length) : ∃ r, Fd above a r ∧ IsRoot above r := by
  obtain ⟨k, rfl⟩ := Int.eq_ofNat_of_zero_le h0
  induction k using Nat.strongRecOn with
  | _ k ih =>
    have hk : k < above.length := by exact o86 ha
    have hx : above[k]? = some above[k] := by simp [hk]
    have o := ok k _ hx
    by_cases e : above[k] = (k : Int)
    · exact ⟨k, .root (by simp [hk, e]), Int.natCast_nonneg k, by simp [hk, e]⟩
    · obtain ⟨m, hm⟩ := Int.eq_ofNat_of_zero_le o.1
      obtain ⟨r, h1, h2⟩ := ih m (by exact o87 o e hm) (Int.natCast_nonneg m) (by exact o88 hk o hm)
      exact ⟨r, .step (x := m) (by simp [hk, hm]) (by exact o89 e hm) h1, h2⟩

theorem Un.makes {above M L σ σ'} (U : Un above M L σ) (hl : above.length < 8) (k14 : σ' 14 = σ 14) (k15 : σ' 15 = σ 15) (k26 : σ' 26 = σ 26)
    (h24 : σ' 24 = some (.list ((above ++ [(above.length : Int)]).map .int))) (h25 : σ' 25 = some (.list ((List.range (above.length + 1)).map fun k => V.ref (100 + k))))
    (hn : σ' (100 + above.length) = some (.list [.int above.length])) (ho : ∀ k, k < 50 → k ≠ above.length → σ' (100 + k) = σ (100 + k)) : Un (above ++ [(above.length : Int)]) M (fun k => if k = above.length then [(above.length : Int)] else L k) σ' := by
  have len' : (above ++ [(above.length : Int)]).length = above.length + 1 := by simp
  have old : ∀ i, i < above.length → (above ++ [(above.length : Int)])[i]? = above[i]? := fun i hi => List.getElem?_append_left hi
  have new : (above ++ [(above.length : Int)])[above.length]? = some (above.length : Int) := by simp
  refine ⟨⟨k14.trans U.i, k15.trans U.d, h24, fun i x e => ?_, by exact o90 hl len'⟩, by rw [len']; exact h25, fun k hk => ?_, fun k hk x hx => ?_, fun k hk => ?_, ?_, ?_, ?_, fun k h1 h2 => ?_⟩
  · rcases Nat.lt_trichotomy i above.length with h | h | h
    · rw [old i h] at e; exact U.ok i x e
    · subst h; rw [new] at e; cases e; exact o91
    · rw [List.getElem?_eq_none (by exact o92 len' h)] at e; cases e
  · by_cases q : k = above.length
    · subst q; simp [hn]
    · rw [ho k (by exact o93 hl len' hk) q, U.lot k (by exact o94 len' hk q)]; simp [q]
  · by_cases q : k = above.length
    · subst q; simp at hx; subst hx; exact o95 hk
    · simp only [q, if_false] at hx
      have := U.lotEl k (by exact o94 len' hk q) x hx
      exact o96 len' this
  · by_cases q : k = above.length
    · subst q; simp
    · simp only [q, if_false]; exact U.lotNe k (by exact o94 len' hk q)
  · have s := U.lotSum
    unfold lotsN at s ⊢
    rw [len']
    simp only [sumTo]
    rw [new]
    simp only [if_true, List.length_singleton]
    rw [sumTo_congr (g := fun i => if above[i]? = some (i : Int) then (L i).length else 0) (fun i hi => by rw [old i hi]; simp [Nat.ne_of_lt hi])]
    exact o97 s
  · rw [k26]; exact U.merged
  · have s := U.cnt
    unfold rootsN at s ⊢
    rw [len']
    simp only [sumTo]
    rw [new]
    simp only [if_true]
    rw [sumTo_congr (g := fun i => if above[i]? = some (i : Int) then 1 else 0) (fun i hi => by rw [old i hi])]
    exact o98 s
  · rw [ho k h2 (by exact o99 len' h1)]; exact U.fresh k (by exact o100 len' h1) h2

theorem u_make {W : Wd} (hK : WK W) {A : Around} {n : Nat} (R : Room A (n + 1)) {σ : Sto} {above : List Int} {M L} (U : Un above M L σ) (hl : above.length < 8) :
    Fn W A (.ref 265) [.ref 14] σ fun v σ' => An3 (v = .int above.length) (∃ L', Un (above ++ [(above.length : Int)]) M L' σ') (Keep XUn σ σ') := by
  refine Fn.body ["self"] R (by rw [hK.k]; rfl) (by rw [hK.k]; rfl) rfl rfl rfl rfl (bind1 fun _ => rfl) rfl (by decide) (by intro n; rfl) rfl rfl rfl fun L A' R' => ?_
  have fr := U.fresh above.length (Nat.le_refl _) (by exact o101 hl)
  refine Exs.cons (Ex.drop (Ev.lm PySem.F.slot_list_append PySem.F.type_list_append (Ev.at rfl U.i U.d (pa322_above hK) rfl ⟨24, _, rfl, U.l, Evs.one (Ev.b (nblen hK) (Evs.one (Ev.at rfl U.i U.d (pa322_above hK) rfl (Bi.lenL U.l (by simp; exact o102 hl) (Bi.append U.l (by simp; exact o102 hl) ⟨.inl rfl, ?_⟩)))))⟩)))
  have i1 : setS σ 24 (.list (above.map V.int ++ [.int (above.map V.int).length])) 14 = _ := (setS_ne (by decide)).trans U.i
  have d1 : setS σ 24 (.list (above.map V.int ++ [.int (above.map V.int).length])) 15 = _ := (setS_ne (by decide)).trans U.d
  have l1 : setS σ 24 (.list (above.map V.int ++ [.int (above.map V.int).length])) 25 = _ := (setS_ne (by decide)).trans U.lots
  have n24 : 100 + above.length ≠ 24 := by exact o83
  have n25 : 100 + above.length ≠ 25 := by exact o84
  refine Exs.cons (Ex.drop (Ev.lm PySem.F.slot_list_append PySem.F.type_list_append (Ev.at rfl i1 d1 (pa322_lots hK) rfl ⟨25, _, rfl, l1, Evs.one (Ev.list (100 + above.length) (Evs.one (Ev.b (nblen hK) (Evs.one (Ev.at rfl i1 d1 (pa322_lots hK) rfl (Bi.lenL l1 (by simp; exact o102 hl) ⟨by simp, (setS_ne n24).trans fr, Bi.append ((setS_ne (Ne.symm n25)).trans l1) (by simp; exact o102 hl) ⟨.inl rfl, ?_⟩⟩))))))⟩)))
  refine Exs.hide fun σ2 h2 => ?_
  have h2' : ∀ i, i ≠ 24 → i ≠ 25 → i ≠ 100 + above.length → σ2 i = σ i := fun i a b c => by rw [h2]; dsimp only; rw [setS_ne b, setS_ne c, setS_ne a]
  have h24 : σ2 24 = some (.list ((above ++ [(above.length : Int)]).map .int)) := by rw [h2]; dsimp only; rw [setS_ne (by decide), setS_ne (by exact o103), setS_eq]; simp
  refine Exs.cons (Ex.ret (Ev.bin (Ev.b (nblen hK) (Evs.one (Ev.at rfl ((h2' 14 (by decide) (by decide) (by exact o104)).trans U.i) ((h2' 15 (by decide) (by decide) (by exact o105)).trans U.d) (pa322_above hK) rfl (Bi.lenL h24 (by simp; exact o106 hl) (Ev.intC (Bop.subI ?_))))))))
  refine ⟨by simp [Fl.val], ⟨_, U.makes hl (h2' 14 (by decide) (by decide) (by exact o104)) (h2' 15 (by decide) (by decide) (by exact o105)) (h2' 26 (by decide) (by decide) (by exact o107)) h24 ?_ ?_ ?_⟩, ?_⟩
  · show σ2 _ = _; rw [h2]; dsimp only; rw [setS_eq, List.range_succ]; simp
  · show σ2 _ = _; rw [h2]; dsimp only; rw [setS_ne (by omega), setS_eq]; simp
  · intro k hk hne; exact h2' _ (by exact o83) (by exact o84) (by exact o108 hne)
  · intro i h n
    unfold XUn at n
    exact h2' i (by exact o109 n) (by exact o110 n) (by exact o111 hl n)

theorem u_members {W : Wd} (hK : WK W) {A : Around} {n : Nat} (R : Room A (n + 2)) {σ : Sto} {above : List Int} {M L} (U : Un above M L σ) {a : Int} (h0 : 0 ≤ a) (ha : a < above.length) (j : Nat) (hj : σ j = none) :
    Fn W A (.ref 293) [.ref 14, .int a] σ fun v σ' => v = .ref j ∧ ∃ ms : List Int, An4 (σ' = setS σ j (.list (ms.map .int))) (ms ≠ []) (ms.length ≤ above.length) (∀ x ∈ ms, 0 ≤ x ∧ x < above.length) := by
  refine (Fn.new (P := fun o => ∃ ms : List Int, An4 (o = .list (ms.map .int)) (ms ≠ []) (ms.length ≤ above.length) (∀ x ∈ ms, 0 ≤ x ∧ x < above.length)) j ?_).mono fun v σ' ⟨e, o, e2, ms, e3, r, r2, r3⟩ => ⟨e, ms, e3 ▸ e2, r, r2, r3⟩
  refine Fn.body ["self", "a"] R (by rw [hK.k]; rfl) (by rw [hK.k]; rfl) rfl rfl rfl rfl (bind2 fun _ _ => rfl) rfl (by decide) (by intro n; rfl) rfl rfl rfl fun Lc A' R' => ?_
  have hz := U.len
  refine Exs.cons (Ex.ret (Ev.b (nbsorted hK) (Evs.one (Ev.sub (Ev.at rfl U.i U.d (pa322_lots hK) rfl (Ev.mth rfl U.i U.d (pm322_find hK) (fk279 hK) (Evs.one (Ev.name rfl (Bi.of_fn ((u_find hK R' U.toUA h0 ha).mD3 fun r hr hf => ?_))))))))))
  have hlt := hr.lt
  have h0r := hr.1
  refine Gop.list (v := .ref (100 + r.toNat)) U.lots h0r (by rw [List.getElem?_map, List.getElem?_range (by exact o112 hlt h0r)]; rfl) (by simp; exact o79 hz) ?_
  have hle := U.lotLe hr
  refine Bi.sortedL (U.lot r.toNat (by exact o112 hlt h0r)) (by exact o113 hz hle) hj fun rs hp hs => ?_
  refine ⟨fun i hi => setS_ne (fun q => hi (q ▸ hj)), rfl, hj, _, setS_eq, ?_, rs, rfl, fun q => ?_, by rw [hp.length_eq]; exact hle, fun x hx => U.lotEl r.toNat (by exact o112 hlt h0r) x (hp.mem_iff.mp hx)⟩
  · show V.refsL (rs.map V.int) = []
    have : ∀ l : List Int, V.refsL (l.map V.int) = [] := fun l => by
      induction l with
      | nil => rfl
      | cons a b ih => simp [V.refsL, V.refs, ih]
    exact this rs
  · subst q
    exact U.lotNe r.toNat (by exact o112 hlt h0r) (List.Perm.nil_eq hp).symm
end Mine

open PySem PySem.W PyProof.Rows PySem.SeqAt PySem.Calls
set_option Elab.async false
set_option maxRecDepth 100000
set_option linter.unusedVariables false
set_option pp.maxSteps 600
set_option pp.deepTerms false
namespace Mine



theorem Un.merges {above M L σ σ'} (U : Un above M L σ) {k g : Nat} (hkg : k < g) (rk : above[k]? = some (k : Int)) (rg : above[g]? = some (g : Int)) (k14 : σ' 14 = σ 14) (k15 : σ' 15 = σ 15) (k25 : σ' 25 = σ 25)
    (h24 : σ' 24 = some (.list ((above.set g (k : Int)).map .int))) (h26 : ∃ ms : List V, σ' 26 = some (.list ms) ∧ ms.length = M + 1)
    (hk : σ' (100 + k) = some (.list ((L k ++ L g).map .int))) (ho : ∀ i, i < 50 → i ≠ k → σ' (100 + i) = σ (100 + i)) : Un (above.set g (k : Int)) (M + 1) (fun i => if i = k then L k ++ L g else L i) σ' := by
  have hg : g < above.length := by
    rcases Nat.lt_or_ge g above.length with z | z
    · exact z
    · rw [List.getElem?_eq_none z] at rg; cases rg
  have hl := U.len
  have at' : ∀ i, (above.set g (k : Int))[i]? = if i = g then some (k : Int) else above[i]? := fun i => by
    rw [List.getElem?_set]
    by_cases q : g = i
    · subst q; simp [hg]
    · have : ¬ i = g := fun e => q e.symm
      simp [q, this]
  have len' : (above.set g (k : Int)).length = above.length := by simp
  refine ⟨⟨k14.trans U.i, k15.trans U.d, h24, fun i x e => ?_, by rw [len']; exact U.len⟩, by rw [len', k25]; exact U.lots, fun i hi => ?_, fun i hi x hx => ?_, fun i hi => ?_, ?_, h26, ?_, fun i h1 h2 => ?_⟩
  · rw [at'] at e
    split at e
    · cases e; (first | exact o114 hkg (by assumption) | omega)
    · exact U.ok i x e
  · rw [len'] at hi
    by_cases q : i = k
    · subst q; simp [hk]
    · rw [ho i (by exact o115 hl hi) q, U.lot i hi]; simp [q]
  · rw [len'] at hi ⊢
    by_cases q : i = k
    · subst q
      simp only [if_true, List.mem_append] at hx
      rcases hx with hx | hx
      · exact U.lotEl i hi x hx
      · exact U.lotEl g hg x hx
    · simp only [q, if_false] at hx; exact U.lotEl i hi x hx
  · rw [len'] at hi
    by_cases q : i = k
    · subst q; simp [U.lotNe i hi]
    · simp only [q, if_false]; exact U.lotNe i hi
  · have s := U.lotSum
    unfold lotsN at s ⊢
    rw [len']
    have e1 : sumTo (fun i => if (above.set g (k : Int))[i]? = some (i : Int) then (if i = k then L k ++ L g else L i).length else 0) above.length
        = sumTo (fun i => if i = k then (L k).length + (L g).length else (fun j => if j = g then 0 else (fun i : Nat => if above[i]? = some (i : Int) then (L i).length else 0) j) i) above.length := sumTo_congr fun i hi => by
      rw [at']
      by_cases q : i = g
      · subst q
        have : ¬ i = k := by exact o116 hkg
        have n2 : ¬ (k : Int) = (i : Int) := by exact o117 this
        simp [this, n2]
      · simp only [q, if_false]
        by_cases z : i = k
        · subst z; simp [rk]
        · simp [z]
    rw [e1]
    have a1 := sumTo_upd (f := fun j => if j = g then 0 else (fun i : Nat => if above[i]? = some (i : Int) then (L i).length else 0) j) (k := k) (v := (L k).length + (L g).length) (n := above.length) (by exact o118 hkg hg)
    have a2 := sumTo_upd (f := fun i => if above[i]? = some (i : Int) then (L i).length else 0) (k := g) (v := 0) hg
    have n2 : ¬ k = g := by exact o119 hkg
    simp only [n2, if_false, rk, rg, if_true] at a1 a2 ⊢
    exact o120 s a1 a2
  · have s := U.cnt
    unfold rootsN at s ⊢
    rw [len']
    have e1 : sumTo (fun i => if (above.set g (k : Int))[i]? = some (i : Int) then 1 else 0) above.length
        = sumTo (fun j => if j = g then 0 else (fun i : Nat => if above[i]? = some (i : Int) then 1 else 0) j) above.length := sumTo_congr fun i hi => by
      rw [at']
      by_cases q : i = g
      · subst q
        have n2 : ¬ (k : Int) = (i : Int) := by exact o121 hkg
        simp [n2]
      · simp [q]
    rw [e1]
    have a2 := sumTo_upd (f := fun i => if above[i]? = some (i : Int) then 1 else 0) (k := g) (v := 0) hg
    simp only [rg, if_true] at a2 ⊢
    exact o122 s a2
  · rw [len'] at h1
    rw [ho i h2 (by exact o123 hkg hg h1)]; exact U.fresh i h1 h2

theorem two_sorted {x y : Int} {rs : List Int} (hp : rs.Perm [x, y]) (hs : rs.Pairwise (· ≤ ·)) : Sm2 fun a b => An3 (rs = [a, b]) (a ≤ b) ((a = x ∧ b = y) ∨ (a = y ∧ b = x)) := by
  have hl := hp.length_eq
  rcases rs with _ | ⟨a, _ | ⟨b, _ | ⟨c, r⟩⟩⟩ <;> simp at hl
  refine ⟨a, b, rfl, by simpa using hs, ?_⟩
  have ha : a ∈ [x, y] := hp.mem_iff.mp (by simp)
  rw [List.cons_perm_iff_perm_erase] at hp
  obtain ⟨_, hp⟩ := hp
  simp at ha
  rcases ha with rfl | rfl
  · simp at hp; exact .inl ⟨rfl, hp⟩
  · by_cases q : x = a
    · subst q
      simp at hp; exact .inl ⟨rfl, hp⟩
    · simp [List.erase_cons, q] at hp; exact .inr ⟨rfl, hp⟩

theorem u_merge {W : Wd} (hK : WK W) {A : Around} {n : Nat} (R : Room A (n + 2)) {σ : Sto} {above : List Int} {M L} (U : Un above M L σ) {a b ra rb : Int} (ha0 : 0 ≤ a) (ha : a < above.length) (hb0 : 0 ≤ b) (hb : b < above.length) (fa : Fd above a ra) (fb : Fd above b rb) :
    Fn W A (.ref 286) [.ref 14, .int a, .int b] σ fun v σ' => (v = .none ∧ ra = rb ∧ Keep (fun _ => False) σ σ') ∨
      ∃ k g : Int, v = .tup [.int k, .int g] ∧ ra ≠ rb ∧ k ≠ g ∧ IsRoot above k ∧ IsRoot above g ∧ (∃ L', Un (above.set g.toNat k) (M + 1) L' σ') ∧ Keep XUn σ σ' := by
  refine Fn.fin fun N hN hfr => ?_
  refine Fn.body ["self", "a", "b"] R (by rw [hK.k]; rfl) (by rw [hK.k]; rfl) rfl rfl rfl rfl (bind3 fun _ _ _ => rfl) rfl (by decide) (by intro n; rfl) rfl rfl rfl fun Lc A' R' => ?_
  have hz := U.len
  refine Exs.cons (Ex.assign (Ev.b (nbsorted hK) (Evs.one (Ev.list N (Evs.two (Ev.mth rfl U.i U.d (pm322_find hK) (fk279 hK) (Evs.one (Ev.name rfl (Bi.of_fn ((u_find hK R' U.toUA ha0 ha).mD3 fun r hr hf => ?_)))))))))) 
  have := hf.one fa
  subst this
  refine Ev.mth rfl U.i U.d (pm322_find hK) (fk279 hK) (Evs.one (Ev.name rfl (Bi.of_fn ((u_find hK R' U.toUA hb0 hb).mD3 fun r2 hr2 hf2 => ?_))))
  have := hf2.one fb
  subst this
  refine ⟨by simp, hfr N (Nat.le_refl _), Bi.sortedL (is := [r, r2]) (j := N + 1) setS_eq (by simp) (by show setS _ _ _ _ = _; rw [setS_ne (by exact o124)]; exact hfr _ (by exact o125)) fun rs hp hs => ?_⟩
  obtain ⟨k, g, rfl, hle, hor⟩ := two_sorted hp hs
  refine As.tuple R'.handled (.inl (setS_eq)) (.inr ⟨_, rfl, setS_eq⟩) rfl (As.local (As.local ?_))
  refine Exs.hide fun σ1 h1 => ?_
  have K1 : Keep (fun _ => False) σ σ1 := fun i h _ => by
    rw [h1]; dsimp only
    have n1 : i ≠ N := by rcases h with h | h; exact o126 hN h; exact fun q => h (hfr i (by exact o31 q))
    have n2 : i ≠ N + 1 := by rcases h with h | h; exact o127 hN h; exact fun q => h (hfr i (by exact o128 q))
    rw [setS_ne n2, setS_ne n1]
  have lo : ∀ i, i < 1000 → σ1 i = σ i := fun i hi => K1 i (.inl hi) id
  refine Exs.cons (Ex.iff (Is.cmp rfl (Ev.name (lkS lookup_setG_self) (Ev.name lookup_setG_self (Cop.eqI ?_)))))
  by_cases e : k = g
  · rw [if_pos (by simpa using e)]
    refine Exs.cons (Ex.ret (Ev.noneC (.inl ⟨rfl, ?_, K1⟩)))
    rcases hor with ⟨q1, q2⟩ | ⟨q1, q2⟩ <;> (first | exact o129 e q1 q2 | exact o130 e q1 q2 | omega)
  rw [if_neg (by simpa using e)]
  have i1 := (lo 14 (by decide)).trans U.i
  have d1 := (lo 15 (by decide)).trans U.d
  have rk : IsRoot above k := by rcases hor with ⟨q1, q2⟩ | ⟨q1, q2⟩ <;> subst q1 <;> assumption
  have rg : IsRoot above g := by rcases hor with ⟨q1, q2⟩ | ⟨q1, q2⟩ <;> subst q2 <;> assumption
  have hk := rk.lt
  have hg := rg.lt
  obtain ⟨k, rfl⟩ := Int.eq_ofNat_of_zero_le rk.1
  obtain ⟨g, rfl⟩ := Int.eq_ofNat_of_zero_le rg.1
  refine Exs.nil (Exs.cons (Ex.assign (Ev.name (lkS lookup_setG_self) (As.sub (Ev.at rfl i1 d1 (pa322_above hK) rfl (Ev.name lookup_setG_self (Sop.list ((lo 24 (by decide)).trans U.l) (Int.natCast_nonneg g) (by simp; exact o86 hg) (by simp; exact o79 hz) ?_)))))))
  refine Exs.hide fun σ2 h2 => ?_
  have lo2 : ∀ i, i < 1000 → i ≠ 24 → σ2 i = σ i := fun i hi n => by rw [h2]; dsimp only; rw [setS_ne n]; exact lo i hi
  have i2 := (lo2 14 (by decide) (by decide)).trans U.i
  have d2 := (lo2 15 (by decide) (by decide)).trans U.d
  have l2 := (lo2 25 (by decide) (by decide)).trans U.lots
  have lk2 := (lo2 (100 + k) (by exact o131 hz hg hle) (by exact o83)).trans (U.lot k (by exact o86 hk))
  have lg2 := (lo2 (100 + g) (by exact o132 hz hg) (by exact o83)).trans (U.lot g (by exact o86 hg))
  have kle := U.lotLe rk
  have gle := U.lotLe rg
  simp only [Int.toNat_natCast] at kle gle
  refine Exs.cons (Ex.drop (Ev.lm PySem.F.slot_list_extend PySem.F.type_list_extend (Ev.sub (Ev.at rfl i2 d2 (pa322_lots hK) rfl (Ev.name (lkS lookup_setG_self) (Gop.list (v := .ref (100 + k)) l2 (Int.natCast_nonneg k) (by rw [List.getElem?_map, Int.toNat_natCast, List.getElem?_range (by exact o86 hk)]; rfl) (by simp; exact o79 hz) ⟨_, _, rfl, lk2,
    Evs.one (Ev.sub (Ev.at rfl i2 d2 (pa322_lots hK) rfl (Ev.name lookup_setG_self (Gop.list (v := .ref (100 + g)) l2 (Int.natCast_nonneg g) (by rw [List.getElem?_map, Int.toNat_natCast, List.getElem?_range (by exact o86 hg)]; rfl) (by simp; exact o79 hz) (Bi.extendL lk2 lg2 (by exact o133 e) (by simp; exact o134 hz kle) (by simp; exact o134 hz gle) ⟨.inl rfl, ?_⟩)))))⟩))))))
  obtain ⟨ms, hms, hml⟩ := U.merged
  refine Exs.hide fun σ3 h3 => ?_
  have lo3 : ∀ i, i < 1000 → i ≠ 24 → i ≠ 100 + k → σ3 i = σ i := fun i hi n n2 => by rw [h3]; dsimp only; rw [setS_ne n2]; exact lo2 i hi n
  have hM := U.mLt (by exact o135 hg)
  refine Exs.cons (Ex.drop (Ev.lm PySem.F.slot_list_append PySem.F.type_list_append (Ev.at rfl ((lo3 14 (by decide) (by decide) (by exact o104)).trans U.i) ((lo3 15 (by decide) (by decide) (by exact o105)).trans U.d) (pa322_merged hK) rfl ⟨26, _, rfl, (lo3 26 (by decide) (by decide) (by exact o107)).trans hms,
    Evs.one (Ev.tuple (Evs.two (Ev.name (lkS lookup_setG_self) (Ev.name lookup_setG_self ⟨by simp, Bi.append ((lo3 26 (by decide) (by decide) (by exact o107)).trans hms) (by exact o136 hz hml hM) ⟨.inl rfl, ?_⟩⟩))))⟩)))
  refine Exs.cons (Ex.ret (Ev.tuple (Evs.two (Ev.name (lkS lookup_setG_self) (Ev.name lookup_setG_self ⟨by simp, .inr ⟨k, g, rfl, ?_, e, rk, rg, ⟨_, U.merges (k := k) (g := g) ?_ (by simpa using rk.2) (by simpa using rg.2) ?_ ?_ ?_ ?_ ⟨ms ++ [.tup [.int k, .int g]], ?_, ?_⟩ ?_ ?_⟩, ?_⟩⟩)))))
  · rcases hor with ⟨q1, q2⟩ | ⟨q1, q2⟩ <;> (first | exact o137 e q1 q2 | exact o138 e q1 q2 | omega)
  · exact o139 hle e
  · dsimp only; rw [setS_ne (by decide)]; exact lo3 14 (by decide) (by decide) (by exact o104)
  · dsimp only; rw [setS_ne (by decide)]; exact lo3 15 (by decide) (by decide) (by exact o105)
  · dsimp only; rw [setS_ne (by decide)]; exact lo3 25 (by decide) (by decide) (by exact o140)
  · dsimp only; rw [setS_ne (by decide), h3]; dsimp only; rw [setS_ne (by exact o103), h2]; dsimp only; rw [setS_eq]; simp
  · dsimp only; rw [setS_eq]
  · simp [hml]
  · dsimp only; rw [setS_ne (by exact o85), h3]; dsimp only; rw [setS_eq]; simp
  · intro i hi n; dsimp only; rw [setS_ne (by exact o85)]; exact lo3 _ (by exact o141 hi) (by exact o83) (by exact o108 n)
  · intro i hi n
    unfold XUn at n
    dsimp only
    rw [setS_ne (by exact o142 n), h3]; dsimp only; rw [setS_ne (by exact o143 hz hg hle n), h2]; dsimp only; rw [setS_ne (by exact o109 n)]
    exact K1 i hi id
end Mine

open PySem PySem.W PyProof.Rows PySem.SeqAt PySem.Calls
set_option Elab.async false
set_option maxRecDepth 100000
set_option linter.unusedVariables false
set_option pp.maxSteps 600
set_option pp.deepTerms false
namespace Mine



section
variable {W : Wd} {F : Fx} {A : Around} {st : St}
theorem eq_setS {σ σ' : Sto} {i : Nat} {o : AObj} (h : ∀ j, j ≠ i → σ' j = σ j) (e : σ' i = some o) : σ' = setS σ i o := funext fun j => by
  by_cases q : j = i
  · subst q; rw [setS_eq, e]
  · rw [setS_ne q, h j q]

theorem IterOf.ne {v st vs acc} (h : IterOf v st vs) (ha : st.σ acc = none) : ∀ i, v = .ref i → i ≠ acc := fun i e q => by
  subst e q
  rcases h with h | ⟨kvs, ob, h, _⟩ <;> · rw [ha] at h; cases h
theorem IterOf.setS {v Γ Γ' σ vs acc o} (h : IterOf v ⟨Γ, σ⟩ vs) (ha : σ acc = none) : IterOf v ⟨Γ', Mine.setS σ acc o⟩ vs := by
  have := h.ne (acc := acc) ha
  cases v with
  | ref i => simp only [IterOf] at h ⊢; rw [setS_ne (this i rfl)]; exact h
  | _ => exact h

/-- `[elt for x in iter]`, nothing else turning -/
theorem Ev.cmap {elt iter : Expr} {x : Str} {px pos : Pos} {scope : Scope} {Q : V → St → Prop} (hh : A.handled = none) (acc : Nat) (P : Nat → V → Prop)
    (T : Ev W F A iter st fun v st1 => st1.σ acc = none ∧ ∃ vs, An4 (IterOf v st1 vs) (vs.length ≤ 1000) (∀ n y out C, vs[n]? = some y → Ev W (compFx F scope C) A elt ⟨setG (compΓ scope st1.Γ) x y, setS st1.σ acc (.list out)⟩ fun w st' => st' = ⟨setG (compΓ scope st1.Γ) x y, setS st1.σ acc (.list out)⟩ ∧ P n w) (∀ out, out.length = vs.length → (∀ n w, out[n]? = some w → P n w) → Q (.ref acc) ⟨st1.Γ, setS st1.σ acc (.list out)⟩))
    (hf : okFree F.env scope.names = true := by rfl) (hc : okComp scope.names = true := by rfl) (hkind : scope.kind = .function := by rfl)
    (hs : ∀ x, foldedSetIterable iter F.env x = pure x := by intro _; rfl) (hx : scope.names.lookup x = some .local := by rfl) : Ev W F A (.ListComp elt [⟨.Name x px, iter, [], 0⟩] scope pos) st Q :=
  Ev.comp hh acc (T.mono fun v st1 ⟨ha, vs, hv, hz, turn, fini⟩ => ⟨ha, vs, hv, fun C => by
    obtain ⟨Γ1, σ1⟩ := st1
    dsimp only at ha hv turn fini ⊢
    refine Lp.items (vs := vs) hh (hv.setS ha) setS_eq hz (fun n out σ' => (∀ j, j ≠ acc → σ' j = σ1 j) ∧ ∀ m w, out[m]? = some w → P m w) ⟨fun j hj => setS_ne hj, by simp⟩ (fun n out σ' ⟨h, _⟩ i e => ?_) (fun n y out σ' hy ⟨h, hP⟩ hl ho => ?_) (fun out σ' ⟨h, hP⟩ hl ho => ⟨(by rw [ho]; exact fun z => nomatch z), ?_⟩) hx hkind
    · have := hv.ne ha i e
      dsimp only
      rw [setS_ne this, h i this]
    · have es := eq_setS h ho
      subst es
      refine (turn n y out C hy).mono fun w st' ⟨e, p⟩ => ?_
      subst e
      refine ⟨rfl, setS_eq, fun j hj => by dsimp only; rw [setS_ne hj, setS_ne hj], fun m w' hm => ?_⟩
      rcases Nat.lt_trichotomy m n with q | q | q
      · rw [List.getElem?_append_left (by exact o144 hl q)] at hm; exact hP m w' hm
      · subst q; rw [← hl] at hm; simp at hm; subst hm; rw [← hl] at p ⊢; exact p
      · rw [List.getElem?_eq_none (by simp; exact o145 hl q)] at hm; cases hm
    · rw [eq_setS h ho]; exact fini out hl hP⟩) hf hc hkind hs

/-- `[x for x in iter if c]`, nothing else turning -/
theorem Ev.cfilter {c iter : Expr} {x : Str} {px pe pos : Pos} {scope : Scope} {Q : V → St → Prop} (hh : A.handled = none) (acc : Nat) (P : V → Bool → Prop)
    (T : Ev W F A iter st fun v st1 => st1.σ acc = none ∧ ∃ vs, An4 (IterOf v st1 vs) (vs.length ≤ 1000) (∀ y out C, y ∈ vs → Is W (compFx F scope C) A c ⟨setG (compΓ scope st1.Γ) x y, setS st1.σ acc (.list out)⟩ fun b st' => st' = ⟨setG (compΓ scope st1.Γ) x y, setS st1.σ acc (.list out)⟩ ∧ P y b) (∀ out, out.length ≤ vs.length → (∀ w ∈ out, w ∈ vs ∧ P w true) → (∀ w ∈ vs, w ∈ out ∨ P w false) → Q (.ref acc) ⟨st1.Γ, setS st1.σ acc (.list out)⟩))
    (hf : okFree F.env scope.names = true := by rfl) (hc : okComp scope.names = true := by rfl) (hkind : scope.kind = .function := by rfl)
    (hs : ∀ x, foldedSetIterable iter F.env x = pure x := by intro _; rfl) (hx : scope.names.lookup x = some .local := by rfl) (hd : (x == ("__debug__" : Str)) = false := by decide) : Ev W F A (.ListComp (.Name x pe) [⟨.Name x px, iter, [c], 0⟩] scope pos) st Q :=
  Ev.comp hh acc (T.mono fun v st1 ⟨ha, vs, hv, hz, turn, fini⟩ => ⟨ha, vs, hv, fun C => by
    obtain ⟨Γ1, σ1⟩ := st1
    dsimp only at ha hv turn fini ⊢
    have kx : (compFx F scope C).env.kindOf x = some .local := by
      show (relabel scope F.env).names.lookup x = _
      rw [relabel_lookup, hx]; rfl
    refine Lp.filter (vs := vs) hh (hv.setS ha) setS_eq hz (fun n out σ' => An3 (∀ j, j ≠ acc → σ' j = σ1 j) (∀ w ∈ out, w ∈ vs ∧ P w true) (∀ w ∈ vs.take n, w ∈ out ∨ P w false)) ⟨fun j hj => setS_ne hj, by simp, by simp⟩ (fun n out σ' ⟨h, _, _⟩ i e => ?_) (fun n y out σ' hy ⟨h, hP, hR⟩ hl ho => ?_) (fun out σ' ⟨h, hP, hR⟩ hl ho => ⟨(by rw [ho]; exact fun z => nomatch z), ?_⟩) hx hkind
    · have := hv.ne ha i e
      dsimp only
      rw [setS_ne this, h i this]
    · have es := eq_setS h ho
      subst es
      have hm : y ∈ vs := List.mem_of_getElem? hy
      refine (turn y out C hm).mono fun b st' ⟨e, p⟩ => ?_
      subst e
      have tk : vs.take (n + 1) = vs.take n ++ [y] := by rw [List.take_add_one, hy]; rfl
      refine ⟨rfl, setS_eq, ?_⟩
      cases b with
      | true =>
        rw [if_pos rfl]
        refine Ev.local lookup_setG_self ⟨rfl, setS_eq, fun j hj => by dsimp only; rw [setS_ne hj, setS_ne hj], fun w hw => ?_, fun w hw => ?_⟩ kx hkind hd
        · rcases List.mem_append.mp hw with hw | hw
          · exact hP w hw
          · simp at hw; subst hw; exact ⟨hm, p⟩
        · rw [tk] at hw
          rcases List.mem_append.mp hw with hw | hw
          · exact (hR w hw).imp (fun z => List.mem_append_left _ z) id
          · simp at hw; subst hw; exact .inl (by simp)
      | false =>
        rw [if_neg (by simp)]
        refine ⟨h, hP, fun w hw => ?_⟩
        rw [tk] at hw
        rcases List.mem_append.mp hw with hw | hw
        · exact hR w hw
        · simp at hw; subst hw; exact .inr p
    · rw [eq_setS h ho]; rw [List.take_length] at hR; exact fini out hl hP hR⟩) hf hc hkind hs

theorem getM_str {G ι s u} {pl : Sem Bool} {E : Value → Shared → Prop} {Z : Value × List Value → Shared → Prop} {x : Str} {name : Str} {id : String} (slot : Slot "str" name id) (hty : typeOf (.builtin id) = pure (.type "method_descriptor"))
    (X : Ok W F G st ι s.heap s.os s.gens) (r : Rep s.heap st.σ ι (.str x) u) (k : ∀ tk, Z (.builtin id, [u]) { s with toks := tk }) : wpAny (model W.prog W.w) A (getMethod u name pl) Z E s := by
  cases r using Rep.strE
  exact getMethod_builtin (typeIs_str _ _ _) PySem.F.plainAttrs_str slot hty (fun a e => by cases e) (k s.toks)
end

theorem refsInts (l : List Int) : V.refsL (l.map V.int) = [] := by
  induction l with
  | nil => rfl
  | cons a b ih => simp [V.refsL, V.refs, ih]

/-- what a list of numbers is -/
theorem intsOf {vs : List V} (h : ∀ w ∈ vs, ∃ i, w = .int i) : ∃ is : List Int, vs = is.map .int := by
  induction vs with
  | nil => exact ⟨[], rfl⟩
  | cons a b ih =>
    obtain ⟨i, rfl⟩ := h a (by simp)
    obtain ⟨is, rfl⟩ := ih fun w hw => h w (by simp [hw])
    exact ⟨i :: is, rfl⟩

theorem u_classes {W : Wd} (hK : WK W) {A : Around} {n : Nat} (R : Room A (n + 1)) {σ : Sto} {above : List Int} (U : UA above σ) (hpos : 0 < above.length) (j : Nat) (hj : σ j = none) :
    Fn W A (.ref 298) [.ref 14] σ fun v σ' => v = .ref j ∧ ∃ cs : List Int, An4 (σ' = setS σ j (.list (cs.map .int))) (cs ≠ []) (cs.length ≤ above.length) (∀ x ∈ cs, IsRoot above x) := by
  refine (Fn.new (P := fun o => ∃ cs : List Int, An4 (o = .list (cs.map .int)) (cs ≠ []) (cs.length ≤ above.length) (∀ x ∈ cs, IsRoot above x)) j ?_).mono fun v σ' ⟨e, o, e2, ms, e3, r, r2, r3⟩ => ⟨e, ms, e3 ▸ e2, r, r2, r3⟩
  refine Fn.body ["self"] R (by rw [hK.k]; rfl) (by rw [hK.k]; rfl) rfl rfl rfl rfl (bind1 fun _ => rfl) rfl (by decide) (by intro n; rfl) rfl rfl rfl fun Lc A' R' => ?_
  have hz := U.len
  have hl : (above.map V.int).length = above.length := by simp
  refine Exs.cons (Ex.ret (Ev.cfilter R'.handled j (fun y b => ∀ i, y = .int i → (b = true ↔ above[i.toNat]? = some i)) (Ev.b (nbrange hK) (Evs.one (Ev.b (nblen hK) (Evs.one (Ev.at rfl U.i U.d (pa322_above hK) rfl (Bi.lenL U.l (by simp; exact o79 hz) (Bi.range ⟨hj, _, ⟨rfl, Int.natCast_nonneg _, by rw [hl]; exact o146 hz⟩, ?_, fun y out C hy => ?_, fun out ol h1 h2 => ?_⟩)))))))))
  · simp; exact o79 hz
  · rw [List.mem_map] at hy
    obtain ⟨m, hm, rfl⟩ := hy
    rw [List.mem_range, hl, Int.toNat_natCast] at hm
    have n14 : (14 : Nat) ≠ j := fun q => by rw [← q, U.i] at hj; cases hj
    have n15 : (15 : Nat) ≠ j := fun q => by rw [← q, U.d] at hj; cases hj
    have n24 : (24 : Nat) ≠ j := fun q => by rw [← q, U.l] at hj; cases hj
    refine Is.cmp rfl (Ev.sub (Ev.at (lkS rfl) ((setS_ne n14).trans U.i) ((setS_ne n15).trans U.d) (pa322_above hK) rfl (Ev.name lookup_setG_self (Gop.list ((setS_ne n24).trans U.l) (Int.natCast_nonneg m) (v := .int above[m]) (by simp [hm]) (by simp; exact o79 hz) (Ev.name lookup_setG_self (Cop.eqI ⟨rfl, fun i hi => ?_⟩))))))
    cases hi
    simp [hm]
  · have hin : ∀ w ∈ out, ∃ i, w = .int i := fun w hw => by
      have := (h1 w hw).1
      rw [List.mem_map] at this
      obtain ⟨m, _, rfl⟩ := this
      exact ⟨_, rfl⟩
    obtain ⟨is, rfl⟩ := intsOf hin
    refine ⟨fun i hi => setS_ne (fun q => hi (q ▸ hj)), rfl, hj, _, setS_eq, refsInts is, is, rfl, fun q => ?_, ?_, fun x hx => ?_⟩
    · subst q
      have := h2 (.int 0) (List.mem_map.mpr ⟨0, by rw [List.mem_range, hl]; simpa using hpos, rfl⟩)
      rcases this with h | h
      · simp at h
      · have := (h 0 rfl)
        have e0 : above[0]? = some above[0] := by simp [hpos]
        have o := U.ok 0 _ e0
        have : above[0] = 0 := by exact o76 o
        simp_all
    · simpa using ol
    · have a := (h1 (.int x) (List.mem_map_of_mem hx))
      have b := (a.2 x rfl).mp rfl
      have c := a.1
      rw [List.mem_map] at c
      obtain ⟨m, _, e⟩ := c
      cases e
      exact ⟨Int.natCast_nonneg m, b⟩
end Mine

open PySem PySem.W PyProof.Rows PySem.SeqAt PySem.Calls
set_option Elab.async false
set_option maxRecDepth 100000
set_option linter.unusedVariables false
set_option pp.maxSteps 600
set_option pp.deepTerms false
namespace Mine



structure OpOk (x : Str) (c : Nat) : Prop where
  e : x = ⟨#[c]⟩
  a : c < 128
  s : Unicode.isSpace c = false
  o : (Builtin.Str.occurrences "()[]{},:" ⟨#[c]⟩ 0 8 1).isEmpty = true
  q : c ≠ 63
theorem opA : OpOk "a" 97 := ⟨by decide, by decide, by decide, by decide +kernel, by decide⟩
theorem opB : OpOk "b" 98 := ⟨by decide, by decide, by decide, by decide +kernel, by decide⟩
theorem opF : OpOk "f" 102 := ⟨by decide, by decide, by decide, by decide +kernel, by decide⟩
theorem opG : OpOk "g" 103 := ⟨by decide, by decide, by decide, by decide +kernel, by decide⟩

theorem is_op_spec {W : Wd} (hK : WK W) {A : Around} {n : Nat} (R : Room A (n + 1)) {σ : Sto} {x : Str} {c : Nat} (hx : OpOk x c) :
    Fn W A (.ref 133) [.str x] σ fun v σ' => σ' = σ ∧ v = .bool true := by
  refine Fn.fin fun N hN hfr => ?_
  refine Fn.same (Fn.body ["text"] R (by rw [hK.k]; rfl) (by rw [hK.k]; rfl) rfl rfl rfl rfl (bind1 fun _ => rfl) rfl (by decide) (by intro n; rfl) rfl rfl rfl fun Lc A' R' => ?_)
  obtain ⟨rfl, ha, hs, ho, hq⟩ := hx
  refine Exs.cons (Ex.ret (Ev.bool (Bools.and (Ev.cmp rfl (Ev.name rfl (Ev.strC (Cop.neS ⟨true, ?_, ?_⟩)))))))
  · rfl
  rw [if_pos rfl]
  refine Bools.one (Ev.cmp rfl (Ev.cfilter R'.handled N (fun y b => b = false) (Ev.name rfl ⟨hfr N (Nat.le_refl _), _, ⟨?_, rfl⟩, by simp, fun y out C hy => ?_, fun out ol h1 h2 => ?_⟩)))
  · simp [ha]
  · simp at hy
    subst hy
    refine Is.bool (Alls.or (Is.plain (Ev.callM (T := Ev.name lookup_setG_self ⟨.builtin "str.isspace", fun G ι s u pl E Z X r k => getM_str PySem.F.slot_str_isspace PySem.F.type_str_isspace X r k, .inl (fun a h => nomatch h), Evs.nil (Bi.isspace ⟨false, ?_, ?_⟩)⟩))))
    · simp [hs]
    rw [if_neg (by simp)]
    refine Alls.or (Is.cmp rfl (Ev.name lookup_setG_self (Ev.strC (Cop.inS' ?_))))
    have e : (!(Builtin.Str.occurrences "()[]{},:" ⟨#[c]⟩ 0 (Str.length "()[]{},:") 1).isEmpty) = false := by
      rw [show Str.length "()[]{},:" = 8 from rfl, ho]; rfl
    rw [e, if_neg (by simp)]
    exact Alls.nil ⟨rfl, rfl⟩
  · have : out = [] := by
      rcases out with _ | ⟨a, b⟩
      · rfl
      · have := (h1 a (by simp)).2; cases this
    subst this
    refine Ev.list (N + 1) (Evs.nil ⟨by simp, (setS_ne (by exact o124)).trans (hfr _ (by exact o125)), Cop.eqNil (by have := R'.units'; exact o147 this) ((setS_ne (by exact o148)).trans setS_eq) setS_eq ⟨fun i hi => ?_, rfl, rfl⟩⟩)
    have n1 : i ≠ N := fun q => hi (hfr i (by exact o31 q))
    have n2 : i ≠ N + 1 := fun q => hi (hfr i (by exact o128 q))
    dsimp only
    rw [setS_ne n2, setS_ne n1]

/- the bank -/
abbrev key (n : Node) : List Atom := Atom.s n.1 :: n.2.map Atom.i
theorem nodeV_key (n : Node) : nodeV n = .tup ((key n).map Atom.V) := nodeV_eq n
structure Bk (ns : List Node) (σ : Sto) : Prop where
  i : σ 12 = some (.inst 240 (some 13))
  d : σ 13 = some (.sdict [("nodes", .ref 20), ("numbers", .ref 21), ("weights", .ref 22), ("depths", .ref 23)])
  nodes : σ 20 = some (.list (ns.map nodeV))
  num : ∃ kvs : List (List Atom × Int), σ 21 = some (.tdict (kvs.map fun p => (p.1, V.int p.2))) ∧ kvs.length ≤ ns.length ∧ ∀ p ∈ kvs, 0 ≤ p.2 ∧ p.2 < ns.length
  w : ∃ ws : List Int, σ 22 = some (.list (ws.map .int)) ∧ ws.length = ns.length ∧ ∀ (i : Nat) (x : Int), ws[i]? = some x → 0 ≤ x ∧ x ≤ 3 ^ i
  dp : ∃ ds : List Int, σ 23 = some (.list (ds.map .int)) ∧ ds.length = ns.length
  kids : ∀ n ∈ ns, n.2.length ≤ 2 ∧ ∀ x ∈ n.2, 0 ≤ x ∧ x < ns.length
  len : ns.length ≤ 7
def XBk (i : Nat) : Prop := 20 ≤ i ∧ i ≤ 23

theorem b_require {W : Wd} (hK : WK W) {A : Around} {n : Nat} (R : Room A (n + 2)) {σ : Sto} {x : Str} {c : Nat} (hx : OpOk x c) :
    Fn W A (.ref 171) [.ref 12, .str x] σ fun v σ' => σ' = σ ∧ v = .none := by
  refine Fn.same (Fn.body ["self", "op"] R (by rw [hK.k]; rfl) (by rw [hK.k]; rfl) rfl rfl rfl rfl (bind2 fun _ _ => rfl) rfl (by decide) (by intro n; rfl) rfl rfl rfl fun Lc A' R' => ?_)
  refine Exs.cons (Ex.iff (Is.bool (Alls.or (Is.not (Is.plain (Ev.callOwn (nmis_op hK) (fk133 hK) (Evs.one (Ev.name rfl (Bi.of_fn ((is_op_spec hK R' hx).mB ?_))))))))))
  refine ⟨true, rfl, ?_⟩
  rw [if_neg (by simp)]
  obtain ⟨rfl, ha, hs, ho, hq⟩ := hx
  refine Alls.or (Is.cmp rfl (Ev.sub (Ev.name rfl (Ev.intC (Gop.str (c := c) (by decide) (by decide) rfl (Ev.strC (Cop.eqS ?_)))))))
  have e : ((⟨#[c]⟩ : Str) == ("?" : Str)) = false := by
    have : (⟨#[c]⟩ : Str) ≠ ("?" : Str) := fun h => by
      have := congrArg (fun s : Str => s.cps[0]?) h
      have h2 : (Str.ofString "?").cps[0]? = some 63 := by rfl
      simp [h2] at this
      exact hq this
    simpa using this
  rw [e, if_neg (by simp)]
  refine Alls.nil ?_
  rw [if_neg (by decide)]
  exact Exs.nil (Exs.nil ⟨fun _ _ => rfl, rfl, rfl⟩)

theorem b_init {W : Wd} (hK : WK W) {A : Around} {n : Nat} (R : Room A (n + 1)) {σ : Sto} (hi : σ 12 = some (.inst 240 (some 13))) (hd : σ 13 = some (.sdict [])) (h20 : σ 20 = none) (h21 : σ 21 = none) (h22 : σ 22 = none) (h23 : σ 23 = none) :
    Fn W A (.ref 152) [.ref 12] σ fun v σ' => An3 (v = .none) (Bk [] σ') (Keep (fun i => i = 13 ∨ XBk i) σ σ') := by
  refine Fn.body ["self"] R (by rw [hK.k]; rfl) (by rw [hK.k]; rfl) rfl rfl rfl rfl (bind1 fun _ => rfl) rfl (by decide) (by intro n; rfl) rfl rfl rfl fun L A' R' => ?_
  refine Exs.cons (Ex.assign (Ev.list 20 (Evs.nil ⟨by simp, h20, As.attr (Ev.name rfl ⟨12, 240, 13, [], rfl, ?_, ?_, by simp, pa240_nodes hK, ?_⟩)⟩)))
  · simpa [setS] using hi
  · simpa [setS] using hd
  refine Exs.cons (Ex.assign (Ev.dict0T 21 ?_ (As.attr (Ev.name rfl ⟨12, 240, 13, storedV [] "nodes" (.ref 20), rfl, ?_, ?_, by decide, pa240_numbers hK, ?_⟩))))
  · simpa [setS] using h21
  · simpa [setS] using hi
  · simp [setS]
  refine Exs.cons (Ex.assign (Ev.list 22 (Evs.nil ⟨by simp, ?_, As.attr (Ev.name rfl ⟨12, 240, 13, storedV (storedV [] "nodes" (.ref 20)) "numbers" (.ref 21), rfl, ?_, ?_, by decide, pa240_weights hK, ?_⟩)⟩)))
  · simpa [setS] using h22
  · simpa [setS] using hi
  · simp [setS]
  refine Exs.cons (Ex.assign (Ev.list 23 (Evs.nil ⟨by simp, ?_, As.attr (Ev.name rfl ⟨12, 240, 13, storedV (storedV (storedV [] "nodes" (.ref 20)) "numbers" (.ref 21)) "weights" (.ref 22), rfl, ?_, ?_, by decide, pa240_depths hK, ?_⟩)⟩)))
  · simpa [setS] using h23
  · simpa [setS] using hi
  · simp [setS]
  refine Exs.nil ⟨rfl, ?_, ?_⟩
  · refine ⟨?_, ?_, ?_, ⟨[], ?_, by simp, by simp⟩, ⟨[], ?_, rfl, by simp⟩, ⟨[], ?_, rfl⟩, by simp, by simp⟩
    · simpa [setS] using hi
    · dsimp only; rw [setS_eq]; rfl
    · simp [setS]
    · simp [setS]
    · simp [setS]
    · simp [setS]
  · unfold XBk
    exact ((((((((Keep.refl.set (.inl (by simp))).set (.inl (by simp))).set (.inl (by simp))).set (.inl (by simp))).set (.inl (by simp))).set (.inl (by simp))).set (.inl (by simp))).set (.inl (by simp)))

theorem b_size {W : Wd} (hK : WK W) {A : Around} {n : Nat} (R : Room A (n + 1)) {σ : Sto} {ns : List Node} (B : Bk ns σ) :
    Fn W A (.ref 159) [.ref 12] σ fun v σ' => σ' = σ ∧ v = .int ns.length := by
  refine Fn.same (Fn.body ["self"] R (by rw [hK.k]; rfl) (by rw [hK.k]; rfl) rfl rfl rfl rfl (bind1 fun _ => rfl) rfl (by decide) (by intro n; rfl) rfl rfl rfl fun L A' R' => ?_)
  have hz := B.len
  exact Exs.cons (Ex.ret (Ev.b (nblen hK) (Evs.one (Ev.at rfl B.i B.d (pa240_nodes hK) rfl (Bi.lenL B.nodes (by simp; exact o149 hz) ⟨fun _ _ => rfl, rfl, by rw [List.length_map]; rfl⟩)))))
theorem b_op {W : Wd} (hK : WK W) {A : Around} {n : Nat} (R : Room A (n + 1)) {σ : Sto} {ns : List Node} (B : Bk ns σ) {k : Nat} {nd : Node} (hk : ns[k]? = some nd) :
    Fn W A (.ref 197) [.ref 12, .int k] σ fun v σ' => σ' = σ ∧ v = .str nd.1 := by
  refine Fn.same (Fn.body ["self", "n"] R (by rw [hK.k]; rfl) (by rw [hK.k]; rfl) rfl rfl rfl rfl (bind2 fun _ _ => rfl) rfl (by decide) (by intro n; rfl) rfl rfl rfl fun L A' R' => ?_)
  have hz := B.len
  have hm := (B.kids nd (List.mem_of_getElem? hk)).1
  exact Exs.cons (Ex.ret (Ev.sub (Ev.sub (Ev.at rfl B.i B.d (pa240_nodes hK) rfl (Ev.name rfl (Gop.list (v := nodeV nd) B.nodes (Int.natCast_nonneg k) (by simp [hk]) (by simp; exact o149 hz) (Ev.intC (Gop.tup (v := .str nd.1) (by decide) rfl (by simp; exact o150 hm) ⟨fun _ _ => rfl, rfl, rfl⟩))))))))
theorem b_kids {W : Wd} (hK : WK W) {A : Around} {n : Nat} (R : Room A (n + 1)) {σ : Sto} {ns : List Node} (B : Bk ns σ) {k : Nat} {nd : Node} (hk : ns[k]? = some nd) :
    Fn W A (.ref 204) [.ref 12, .int k] σ fun v σ' => σ' = σ ∧ v = .tup (nd.2.map .int) := by
  have rf : (V.tup (nd.2.map .int)).refs = [] := by rw [V.refs, refsInts]
  refine Fn.same ((Fn.body (Q := fun v σ' => σ' = σ ∧ v = .tup (nd.2.map .int)) ["self", "n"] R (by rw [hK.k]; rfl) (by rw [hK.k]; rfl) rfl rfl rfl rfl (bind2 fun _ _ => rfl) rfl (by decide) (by intro n; rfl) rfl rfl rfl fun L A' R' => ?_).mono fun v σ' ⟨a, b⟩ => ⟨fun _ _ => by rw [a], by rw [b]; exact rf, b⟩)
  have hz := B.len
  have hm := (B.kids nd (List.mem_of_getElem? hk)).1
  exact Exs.cons (Ex.ret (Ev.tail (Ev.sub (Ev.at rfl B.i B.d (pa240_nodes hK) rfl (Ev.name rfl (Gop.list (v := nodeV nd) B.nodes (Int.natCast_nonneg k) (by simp [hk]) (by simp; exact o149 hz) ⟨_, _, rfl, by simp; exact o151 hm, rfl, rfl⟩))))))
end Mine

open PySem PySem.W PyProof.Rows PySem.SeqAt PySem.Calls
set_option Elab.async false
set_option maxRecDepth 100000
set_option linter.unusedVariables false
set_option pp.maxSteps 600
set_option pp.deepTerms false
namespace Mine



theorem atV_ints {kvs : List (List Atom × Int)} {k : List Atom} {v : V} (h : atV (kvs.map fun p => (p.1, V.int p.2)) k = some v) : ∃ p ∈ kvs, v = .int p.2 := by
  induction kvs with
  | nil => cases h
  | cons a b ih =>
    simp only [atV, List.map_cons, List.find?_cons] at h ih
    by_cases q : a.1 = k
    · simp only [q, decide_true, Option.map_some, Option.some.injEq] at h
      exact ⟨a, by simp, h.symm⟩
    · simp only [q, decide_false] at h
      obtain ⟨p, hp, e⟩ := ih h
      exact ⟨p, by simp [hp], e⟩

/-- `node[1:]` -/
theorem Ev.tailN {W : Wd} {F : Fx} {A : Around} {st : St} {value p1 k p2 pos Q} (T : Ev W F A value st fun o st1 => ∃ nd : Node, An3 (o = nodeV nd ∨ o = .tup ((key nd).map Atom.V)) (nd.2.length ≤ 1000) (Q (.tup (nd.2.map .int)) st1)) : Ev W F A (.Subscript value (.Slice (some (.Constant (.int 1) k p1)) none none p2) pos) st Q :=
  Ev.tail (T.mono fun o st1 ⟨nd, h, hl, q⟩ => ⟨.str nd.1, nd.2.map .int, by rcases h with h | h; exact h; rw [h, ← nodeV_key]; rfl, by simpa using hl, q⟩)
theorem Bk.keep {ns σ σ'} (B : Bk ns σ) (h : ∀ i, i < 1000 → σ' i = σ i) : Bk ns σ' := by
  obtain ⟨a, b, c, ⟨kvs, d1, d2⟩, ⟨ws, e1, e2⟩, ⟨ds, f1, f2⟩, g, k⟩ := B
  exact ⟨by rw [h _ (by decide), a], by rw [h _ (by decide), b], by rw [h _ (by decide), c], ⟨kvs, by rw [h _ (by decide), d1], d2⟩, ⟨ws, by rw [h _ (by decide), e1], e2⟩, ⟨ds, by rw [h _ (by decide), f1], f2⟩, g, k⟩

theorem b_take {W : Wd} (hK : WK W) {A : Around} {n : Nat} (R : Room A (n + 3)) {σ : Sto} {ns : List Node} (B : Bk ns σ) {op : Str} {c : Nat} (hx : OpOk op c) {ks : List Int} (hk : ∀ x ∈ ks, 0 ≤ x ∧ x < ns.length) (hk2 : ks.length ≤ 2) (hl : ns.length < 7) :
    Fn W A (.ref 164) [.ref 12, .str op, .tup (ks.map .int)] σ fun v σ' => (∃ r : Int, An4 (v = .int r) (0 ≤ r) (r < ns.length) (Keep (fun _ => False) σ σ')) ∨ (v = .int ns.length ∧ Bk (ns ++ [(op, ks)]) σ' ∧ Keep XBk σ σ') := by
  refine Fn.fin fun N hN hfr => ?_
  obtain ⟨kvs, hnum, hnl, hnv⟩ := B.num
  obtain ⟨ws, hw, hwl, hwb⟩ := B.w
  obtain ⟨ds, hd, hdl⟩ := B.dp
  refine Fn.body ["self", "op", "kids"] R (by rw [hK.k]; rfl) (by rw [hK.k]; rfl) rfl rfl rfl rfl (bind3 fun _ _ _ => rfl) rfl (by decide) (by intro n; rfl) rfl rfl rfl fun Lc A' R' => ?_
  refine Exs.cons (Ex.assign (Ev.bin (Ev.tuple (Evs.one (Ev.name rfl ⟨by simp, Ev.b (nbtuple hK) (Evs.one (Ev.name rfl (Bi.tupleT (Bop.addT (by simp) (by simp; exact o151 hk2) (As.local ?_)))))⟩)))))
  have u1 : A'.units + 1 < cLine := by have := R'.units'; exact o152 this
  have ek : V.tup ([V.str op] ++ ks.map V.int) = .tup ((key (op, ks)).map Atom.V) := nodeV_key (op, ks)
  rw [ek]
  refine Exs.cons (Ex.iff (Is.cmp rfl (Ev.name lookup_setG_self (Ev.at rfl B.i B.d (pa240_numbers hK) rfl (Cop.inT u1 hnum ?_)))))
  rcases hat : atV (kvs.map fun p => (p.1, V.int p.2)) (key (op, ks)) with _ | w
  rotate_left
  · rw [if_pos (by rw [hat]; rfl)]
    obtain ⟨p, hp, rfl⟩ := atV_ints hat
    have := hnv p hp
    exact Exs.cons (Ex.ret (Ev.sub (Ev.at rfl B.i B.d (pa240_numbers hK) rfl (Ev.name lookup_setG_self (Gop.tdict u1 hnum hat (.inl ⟨p.2, rfl, this.1, this.2, Keep.refl⟩))))))
  rw [if_neg (by rw [hat]; simp)]
  refine Exs.nil (Exs.cons (Ex.drop (Ev.mth rfl B.i B.d (pm240_require hK) (fk171 hK) (Evs.one (Ev.name rfl (Bi.of_fn ((b_require hK R' hx).mB ?_)))))))
  refine ⟨.inl rfl, ?_⟩
  have hz : ((ns.map nodeV)).length = ns.length := by simp
  generalize hΓ1 : setG ((["self", "op", "kids"] : List Str).zip [V.ref 12, .str op, .tup (ks.map .int)]) "node" (.tup ((key (op, ks)).map Atom.V)) = Γ1
  have gs : ∀ {Γ}, Γeq ["kid"] Γ1 Γ → Γ.lookup ("self" : Str) = some (.ref 12) := fun h => h.at (by rw [← hΓ1]; rfl)
  have gn : ∀ {Γ}, Γeq ["kid"] Γ1 Γ → Γ.lookup ("node" : Str) = some (.tup ((key (op, ks)).map Atom.V)) := fun h => h.at (by rw [← hΓ1]; rfl)
  refine Exs.cons (Ex.for R'.handled (Ev.tailN (Ev.name (gn .refl) ⟨(op, ks), .inr rfl, by dsimp only; exact o151 hk2, ks.map .int, fun n st => Γeq ["kid"] Γ1 st.Γ ∧ st.σ = σ, rfl, ⟨.refl, rfl⟩, (fun n st' h i e => nomatch e), fun n y st' hy ⟨hΓ, hσ⟩ => ?_, fun st' ⟨hΓ, hσ⟩ => ?_⟩)))
  · obtain ⟨Γ, σ2⟩ := st'
    dsimp only at hΓ hσ
    subst hσ
    rw [List.getElem?_map, Option.map_eq_some_iff] at hy
    obtain ⟨kd, hkd, rfl⟩ := hy
    have hr := hk kd (List.mem_of_getElem? hkd)
    refine As.local (Exs.cons (Ex.iff (Is.not (Is.cmp2 rfl (Ev.intC (Ev.name lookup_setG_self (Cop.leI ?_)))))))
    rw [if_pos (by simpa using hr.1)]
    refine Ev.b (nblen hK) (Evs.one (Ev.at (lkS (gs hΓ)) B.i B.d (pa240_nodes hK) rfl (Bi.lenL B.nodes (by simp; exact o153 hl) (Cop.ltI ?_))))
    rw [if_neg (by rw [hz]; simpa using hr.2)]
    exact Exs.nil (Exs.nil ⟨hΓ.set rfl, rfl⟩)
  obtain ⟨Γ, σ2⟩ := st'
  dsimp only at hΓ hσ
  subst hσ
  have lself := gs hΓ
  have lnode := gn hΓ
  refine Exs.cons (Ex.assign (Ev.b (nblen hK) (Evs.one (Ev.at lself B.i B.d (pa240_nodes hK) rfl (Bi.lenL B.nodes (by simp; exact o153 hl) (As.sub (Ev.at lself B.i B.d (pa240_numbers hK) rfl (Ev.name lnode (Sop.tdict u1 hnum hat (by simp; exact o154 hl hnl) ?_)))))))))
  refine Exs.hide fun σ1 h1 => ?_
  have lo1 : ∀ i, i ≠ 21 → σ1 i = σ2 i := fun i n1 => by rw [h1]; dsimp only; rw [setS_ne n1]
  have s21 : σ1 21 = some (.tdict ((kvs ++ [(key (op, ks), (ns.length : Int))]).map fun p => (p.1, V.int p.2))) := by rw [h1]; dsimp only; rw [setS_eq]; simp
  refine Exs.cons (Ex.drop (Ev.lm PySem.F.slot_list_append PySem.F.type_list_append (Ev.at lself ((lo1 12 (by decide)).trans B.i) ((lo1 13 (by decide)).trans B.d) (pa240_nodes hK) rfl ⟨20, _, rfl, (lo1 20 (by decide)).trans B.nodes, Evs.one (Ev.name lnode (Bi.append ((lo1 20 (by decide)).trans B.nodes) (by simp; exact o153 hl) ⟨.inl rfl, ?_⟩))⟩)))
  clear h1
  refine Exs.hide fun σ3 h3 => ?_
  have lo3 : ∀ i, i ≠ 21 → i ≠ 20 → σ3 i = σ2 i := fun i n1 n2 => by rw [h3]; dsimp only; rw [setS_ne n2, lo1 i n1]
  have s21' : σ3 21 = some (.tdict ((kvs ++ [(key (op, ks), (ns.length : Int))]).map fun p => (p.1, V.int p.2))) := by rw [h3]; dsimp only; rw [setS_ne (by decide)]; exact s21
  have s20 : σ3 20 = some (.list ((ns ++ [(op, ks)]).map nodeV)) := by
    rw [h3]; dsimp only; rw [setS_eq, List.map_append]; rw [← ek]; rfl
  clear h3 s21 lo1
  have kidAt : ∀ n y, (ks.map V.int)[n]? = some y → ∃ k : Nat, y = V.int k ∧ k < ns.length := fun n y hy => by
    rw [List.getElem?_map, Option.map_eq_some_iff] at hy
    obtain ⟨kd, hkd, rfl⟩ := hy
    have hr := hk kd (List.mem_of_getElem? hkd)
    exact ⟨kd.toNat, by rw [Int.toNat_of_nonneg hr.1], by exact o155 hr⟩
  refine Exs.cons (Ex.drop (Ev.lm PySem.F.slot_list_append PySem.F.type_list_append (Ev.at lself ((lo3 12 (by decide) (by decide)).trans B.i) ((lo3 13 (by decide) (by decide)).trans B.d) (pa240_weights hK) rfl ⟨22, _, rfl, (lo3 22 (by decide) (by decide)).trans hw, Evs.one (Ev.bin (Ev.intC (Ev.b (nbsum hK) (Evs.one (Ev.cmap R'.handled N (fun m w => ∃ x : Int, An3 (w = .int x) (0 ≤ x) (x ≤ 3 ^ (ns.length - 1)))
    (Ev.tailN (Ev.name lnode ⟨(op, ks), .inr rfl, by dsimp only; exact o151 hk2, (lo3 N (by exact o156 hN) (by exact o157 hN)).trans (hfr N (Nat.le_refl _)), ks.map .int, rfl, by simp; exact o151 hk2, fun m y out C hy => ?_, fun out hol hP => ?_⟩)))))))⟩)))
  · obtain ⟨k, rfl, hkl⟩ := kidAt m y hy
    have hwk : ws[k]? = some ws[k] := by simp [hwl, hkl]
    have b := hwb k _ hwk
    refine Ev.sub (Ev.at (lkS (by rw [compΓ_lookup]; exact lself)) ((setS_ne (by exact o158 hN)).trans ((lo3 12 (by decide) (by decide)).trans B.i)) ((setS_ne (by exact o159 hN)).trans ((lo3 13 (by decide) (by decide)).trans B.d)) (pa240_weights hK) rfl (Ev.name lookup_setG_self (Gop.list (v := .int ws[k]) ((setS_ne (by exact o160 hN)).trans ((lo3 22 (by decide) (by decide)).trans hw)) (Int.natCast_nonneg k) (by simp [hwl, hkl]) (by simp; exact o161 hl hwl) ⟨rfl, ws[k], rfl, b.1, ?_⟩)))
    have : (3 : Nat) ^ k ≤ 3 ^ (ns.length - 1) := Nat.pow_le_pow_right (by decide) (by exact o162 hkl)
    have : ((3 : Int)) ^ k ≤ 3 ^ (ns.length - 1) := by exact_mod_cast this
    exact o163 b this
  obtain ⟨is, rfl⟩ := intsOf fun w hw => by
    obtain ⟨m, hm⟩ := List.getElem?_of_mem hw
    obtain ⟨x, e, _⟩ := hP m w hm
    exact ⟨x, e⟩
  have hib : ∀ x ∈ is, 0 ≤ x ∧ x ≤ 3 ^ (ns.length - 1) := fun x hx => by
    obtain ⟨m, hm⟩ := List.getElem?_of_mem hx
    obtain ⟨y, e, h, h'⟩ := hP m (.int x) (by simp [hm])
    cases e; exact ⟨h, h'⟩
  have hp729 : (3 : Int) ^ (ns.length - 1) ≤ 729 := by
    have : (3 : Nat) ^ (ns.length - 1) ≤ 3 ^ 6 := Nat.pow_le_pow_right (by decide) (by exact o164 hl)
    exact_mod_cast this
  have hil : is.length ≤ 2 := by simp at hol; exact o165 hk2 hol
  have hsum : 0 ≤ 1 + is.sum ∧ 1 + is.sum ≤ 3 ^ ns.length := by
    rcases is with _ | ⟨x, _ | ⟨y, _ | ⟨z, r⟩⟩⟩
    · refine ⟨by simp, ?_⟩
      have : (1 : Nat) ≤ 3 ^ ns.length := Nat.one_le_pow _ _ (by decide)
      simp; exact_mod_cast this
    · have h1 := hib x (by simp)
      have hpos : 0 < ns.length := by
        rcases ks with _ | ⟨a, b⟩
        · simp at hol
        · have := hk a (by simp); exact o166 this
      obtain ⟨m, hm⟩ : ∃ m, ns.length = m + 1 := ⟨ns.length - 1, by exact o167 hpos⟩
      rw [hm] at h1 ⊢
      simp only [Nat.add_sub_cancel] at h1
      have : (1 : Int) ≤ 3 ^ m := by have : (1 : Nat) ≤ 3 ^ m := Nat.one_le_pow _ _ (by decide); exact_mod_cast this
      simp only [List.sum_cons, List.sum_nil, Int.pow_succ]
      exact o168 h1 this
    · have h1 := hib x (by simp)
      have h2 := hib y (by simp)
      have hpos : 0 < ns.length := by
        rcases ks with _ | ⟨a, b⟩
        · simp at hol
        · have := hk a (by simp); exact o166 this
      obtain ⟨m, hm⟩ : ∃ m, ns.length = m + 1 := ⟨ns.length - 1, by exact o167 hpos⟩
      rw [hm] at h1 h2 ⊢
      simp only [Nat.add_sub_cancel] at h1 h2
      have : (1 : Int) ≤ 3 ^ m := by have : (1 : Nat) ≤ 3 ^ m := Nat.one_le_pow _ _ (by decide); exact_mod_cast this
      simp only [List.sum_cons, List.sum_nil, Int.pow_succ]
      exact o169 h1 h2 this
    · simp at hil
  refine Bi.sumL R'.handled setS_eq (by exact o151 hil) (fun x hx => ⟨(hib x hx).1, by have := (hib x hx).2; exact o170 hp729 this⟩) (Bop.addI (Bi.append ((setS_ne (by exact o160 hN)).trans ((lo3 22 (by decide) (by decide)).trans hw)) (by simp; exact o161 hl hwl) ⟨.inl rfl, ?_⟩))
  refine Exs.hide fun σ4 h4 => ?_
  have lo4 : ∀ i, i < 1000 → i ≠ 21 → i ≠ 20 → i ≠ 22 → σ4 i = σ2 i := fun i hi n1 n2 n3 => by rw [h4]; dsimp only; rw [setS_ne n3, setS_ne (by exact o126 hN hi), lo3 i n1 n2]
  have t21 : σ4 21 = some (.tdict ((kvs ++ [(key (op, ks), (ns.length : Int))]).map fun p => (p.1, V.int p.2))) := by rw [h4]; dsimp only; rw [setS_ne (by decide), setS_ne (by exact o171 hN)]; exact s21'
  have t20 : σ4 20 = some (.list ((ns ++ [(op, ks)]).map nodeV)) := by rw [h4]; dsimp only; rw [setS_ne (by decide), setS_ne (by exact o172 hN)]; exact s20
  have t22 : σ4 22 = some (.list ((ws ++ [1 + is.sum]).map .int)) := by rw [h4]; dsimp only; rw [setS_eq]; simp
  have K4 : ∀ i, σ2 i ≠ none → ¬ XBk i → σ4 i = σ2 i := fun i hi hx => by
    unfold XBk at hx
    have : i ≠ N := fun q => hi (hfr i (by exact o31 q))
    rw [h4]; dsimp only; rw [setS_ne (by exact o173 hx), setS_ne this, lo3 i (by exact o174 hx) (by exact o175 hx)]
  have f4 : ∀ i, N < i → σ4 i = none := fun i hi => by
    rw [h4]; dsimp only; rw [setS_ne (by exact o176 hN hi), setS_ne (by exact o177 hi), lo3 i (by exact o178 hN hi) (by exact o179 hN hi)]; exact hfr i (by exact o47 hi)
  clear h4 s21' s20 lo3
  refine Exs.cons (Ex.drop (Ev.lm PySem.F.slot_list_append PySem.F.type_list_append (Ev.at lself ((lo4 12 (by decide) (by decide) (by decide) (by decide)).trans B.i) ((lo4 13 (by decide) (by decide) (by decide) (by decide)).trans B.d) (pa240_depths hK) rfl ⟨23, _, rfl, (lo4 23 (by decide) (by decide) (by decide) (by decide)).trans hd, Evs.one (Ev.bin (Ev.intC (Ev.b (nbmax hK) (Evs.one (Ev.bin (Ev.cmap R'.handled (N + 1) (fun m w => ∃ x : Int, w = .int x)
    (Ev.tailN (Ev.name lnode ⟨(op, ks), .inr rfl, by dsimp only; exact o151 hk2, f4 (N + 1) (by exact o67), ks.map .int, rfl, by simp; exact o151 hk2, fun m y out C hy => ?_, fun out hol2 hP2 => ?_⟩))))))))⟩)))
  · obtain ⟨k, rfl, hkl⟩ := kidAt m y hy
    exact Ev.sub (Ev.at (lkS (by rw [compΓ_lookup]; exact lself)) ((setS_ne (by exact o180 hN)).trans ((lo4 12 (by decide) (by decide) (by decide) (by decide)).trans B.i)) ((setS_ne (by exact o181 hN)).trans ((lo4 13 (by decide) (by decide) (by decide) (by decide)).trans B.d)) (pa240_depths hK) rfl (Ev.name lookup_setG_self (Gop.list (v := .int (ds[k]'(by exact o144 hdl hkl))) ((setS_ne (by exact o182 hN)).trans ((lo4 23 (by decide) (by decide) (by decide) (by decide)).trans hd)) (Int.natCast_nonneg k) (by simp [hdl, hkl]) (by simp; exact o161 hl hdl) ⟨rfl, _, rfl⟩)))
  obtain ⟨js, rfl⟩ := intsOf fun w hw => by
    obtain ⟨m, hm⟩ := List.getElem?_of_mem hw
    exact hP2 m w hm
  have hjl : js.length ≤ 2 := by simp at hol2; exact o165 hk2 hol2
  refine Ev.list (N + 2) (Evs.one (Ev.intC ⟨by simp, (setS_ne (by exact o183)).trans (f4 _ (by exact o184)), Bop.addL (k := N + 3) ((setS_ne (by exact o185)).trans setS_eq) setS_eq (by simp; exact o151 hjl) (by simp) ((setS_ne (by exact o186)).trans ((setS_ne (by exact o187)).trans (f4 _ (by exact o188)))) ?_⟩))
  refine Bi.maxL (is := js ++ [0]) R'.handled (by dsimp only; rw [setS_eq]; simp) (by simp) fun x hx => Bop.addI (Bi.append (i := 23) (vs := ds.map .int) ?_ (by simp; exact o161 hl hdl) ⟨.inl rfl, ?_⟩)
  · dsimp only; rw [setS_ne (by exact o189 hN), setS_ne (by exact o190 hN), setS_ne (by exact o182 hN)]; exact (lo4 23 (by decide) (by decide) (by decide) (by decide)).trans hd
  refine Exs.hide fun σ5 h5 => ?_
  have lo5 : ∀ i, i < 1000 → i ≠ 23 → σ5 i = σ4 i := fun i hi n1 => by rw [h5]; dsimp only; rw [setS_ne n1, setS_ne (by exact o191 hN hi), setS_ne (by exact o192 hN hi), setS_ne (by exact o127 hN hi)]
  refine Exs.cons (Ex.ret (Ev.bin (Ev.b (nblen hK) (Evs.one (Ev.at lself ((lo5 12 (by decide) (by decide)).trans ((lo4 12 (by decide) (by decide) (by decide) (by decide)).trans B.i)) ((lo5 13 (by decide) (by decide)).trans ((lo4 13 (by decide) (by decide) (by decide) (by decide)).trans B.d)) (pa240_nodes hK) rfl (Bi.lenL ((lo5 20 (by decide) (by decide)).trans t20) (by simp; exact o193 hl) (Ev.intC (Bop.subI (.inr ⟨?_, ?_, ?_⟩)))))))))
  · simp [Fl.val]
  · refine ⟨(lo5 12 (by decide) (by decide)).trans ((lo4 12 (by decide) (by decide) (by decide) (by decide)).trans B.i), (lo5 13 (by decide) (by decide)).trans ((lo4 13 (by decide) (by decide) (by decide) (by decide)).trans B.d), (lo5 20 (by decide) (by decide)).trans t20, ⟨kvs ++ [(key (op, ks), (ns.length : Int))], (lo5 21 (by decide) (by decide)).trans t21, by simp; omega, fun p hp => ?_⟩, ⟨ws ++ [1 + is.sum], (lo5 22 (by decide) (by decide)).trans t22, by simp [hwl], fun i x e => ?_⟩, ⟨ds ++ [1 + x], ?_, by simp [hdl]⟩, fun nd hnd => ?_, by simp; exact o194 hl⟩
    · rw [List.length_append, List.length_singleton]
      rcases List.mem_append.mp hp with hp | hp
      · have := hnv p hp; exact o195 this
      · simp at hp; subst hp; omega
    · rcases Nat.lt_trichotomy i ws.length with q | q | q
      · rw [List.getElem?_append_left q] at e; exact hwb i x e
      · subst q; simp at e; subst e; rw [hwl]; exact hsum
      · rw [List.getElem?_eq_none (by simp; exact o48 q)] at e; cases e
    · show σ5 23 = _
      rw [h5]; dsimp only; rw [setS_eq]; simp
    · rw [List.length_append, List.length_singleton]
      rcases List.mem_append.mp hnd with hnd | hnd
      · have := B.kids nd hnd
        exact ⟨this.1, fun x hx => by have := this.2 x hx; exact o195 this⟩
      · simp at hnd; subst hnd
        exact ⟨hk2, fun x hx => by have := hk x hx; exact o195 this⟩
  · intro i hi hx
    show σ5 i = σ2 i
    have hx' := hx
    unfold XBk at hx
    rcases hi with hi | hi
    · rw [lo5 i hi (by exact o196 hx), lo4 i hi (by exact o174 hx) (by exact o175 hx) (by exact o173 hx)]
    · have hlt : i < N := Nat.lt_of_not_le fun q => hi (hfr i q)
      rw [h5]; dsimp only; rw [setS_ne (by exact o196 hx), setS_ne (by exact o197 hlt), setS_ne (by exact o198 hlt), setS_ne (by exact o199 hlt)]
      exact K4 i hi hx'
end Mine

open PySem PySem.W PyProof.Rows PySem.SeqAt PySem.Calls
set_option Elab.async false
set_option maxRecDepth 100000
set_option linter.unusedVariables false
set_option pp.maxSteps 600
set_option pp.deepTerms false
namespace Mine



structure Hs (ns : List Node) (above : List Int) (M t wl s : Nat) (σ : Sto) : Prop where
  i : σ 10 = some (.inst 452 (some 11))
  d : σ 11 = some (.sdict [("bank", .ref 12), ("unions", .ref 14), ("edges", .ref 27), ("forest", .ref 28), ("known", .ref 29), ("above", .ref 30), ("waiting", .ref 31), ("backs", .int 0)])
  B : Bk ns σ
  U : ∃ L, Un above M L σ
  eq : ns.length = above.length
  edges : ∃ es : List V, σ 27 = some (.list es) ∧ es.length ≤ M + t
  forest : ∃ fs : List V, σ 28 = some (.list fs) ∧ fs.length ≤ M
  kn : ∃ kn : List (List Atom × Int), σ 29 = some (.tdict (kn.map fun p => (p.1, V.int p.2))) ∧ (∀ p ∈ kn, 0 ≤ p.2 ∧ p.2 < above.length) ∧ kn.length + wl + s ≤ 2 * above.length * 2 ^ M
  wt : ∃ ws : List Int, σ 31 = some (.list (ws.map .int)) ∧ ws.length = wl ∧ ∀ x ∈ ws, 0 ≤ x ∧ x < above.length
  ab : ∃ kvs : List (Int × V), σ 30 = some (.idict kvs) ∧ kvs.length ≤ above.length + M ∧ ∀ r, IsRoot above r → ∃ (j : Nat) (l : List Int), atV kvs r = some (.ref j) ∧ 1000 ≤ j ∧ σ j = some (.list (l.map .int)) ∧ (∀ x ∈ l, 0 ≤ x ∧ x < above.length) ∧ l.length ≤ 2 * above.length * 2 ^ M
def XHs (i : Nat) : Prop := (20 ≤ i ∧ i ≤ 31) ∨ (100 ≤ i ∧ i < 150) ∨ 1000 ≤ i

theorem UA.keep {above σ σ'} (U : UA above σ) (h : ∀ i, i < 1000 → σ' i = σ i) : UA above σ' := ⟨(h _ (by decide)).trans U.i, (h _ (by decide)).trans U.d, (h _ (by decide)).trans U.l, U.ok, U.len⟩
theorem Un.keep' {above M L σ σ'} (U : Un above M L σ) (h14 : σ' 14 = σ 14) (h15 : σ' 15 = σ 15) (h : ∀ i, (24 ≤ i ∧ i ≤ 26) ∨ (100 ≤ i ∧ i < 150) → σ' i = σ i) : Un above M L σ' := by
  have hl := U.len
  obtain ⟨ms, hm, hml⟩ := U.merged
  exact ⟨⟨h14.trans U.i, h15.trans U.d, (h _ (.inl (by decide))).trans U.l, U.ok, U.len⟩, (h _ (.inl (by decide))).trans U.lots, fun k hk => (h _ (.inr (by exact o200 hl hk))).trans (U.lot k hk), U.lotEl, U.lotNe, U.lotSum, ⟨ms, (h _ (.inl (by decide))).trans hm, hml⟩, U.cnt, fun k a b => (h _ (.inr (by exact o201 b))).trans (U.fresh k a b)⟩
theorem Un.keep {above M L σ σ'} (U : Un above M L σ) (h : ∀ i, i < 1000 → σ' i = σ i) : Un above M L σ' :=
  U.keep' (h _ (by decide)) (h _ (by decide)) fun i hi => h i (by exact o202 hi)
theorem Bk.keep' {ns σ σ'} (B : Bk ns σ) (h12 : σ' 12 = σ 12) (h13 : σ' 13 = σ 13) (h : ∀ i, 20 ≤ i → i ≤ 23 → σ' i = σ i) : Bk ns σ' := by
  obtain ⟨a, b, c, ⟨kvs, d1, d2⟩, ⟨ws, e1, e2⟩, ⟨ds, f1, f2⟩, g, k⟩ := B
  exact ⟨h12.trans a, h13.trans b, (h _ (by decide) (by decide)).trans c, ⟨kvs, (h _ (by decide) (by decide)).trans d1, d2⟩, ⟨ws, (h _ (by decide) (by decide)).trans e1, e2⟩, ⟨ds, (h _ (by decide) (by decide)).trans f1, f2⟩, g, k⟩
theorem Hs.keep {ns above M t wl s σ σ'} (H : Hs ns above M t wl s σ) (K : Keep (fun _ => False) σ σ') : Hs ns above M t wl s σ' := by
  have h : ∀ i, i < 1000 → σ' i = σ i := fun i hi => K i (.inl hi) id
  obtain ⟨a, b, B, ⟨L, U⟩, e, ⟨es, f1, f2⟩, ⟨fs, g1, g2⟩, ⟨kn, k1, k2⟩, ⟨ws, w1, w2⟩, ⟨kvs, v1, v2, v3⟩⟩ := H
  refine ⟨(h _ (by decide)).trans a, (h _ (by decide)).trans b, B.keep h, ⟨L, U.keep h⟩, e, ⟨es, (h _ (by decide)).trans f1, f2⟩, ⟨fs, (h _ (by decide)).trans g1, g2⟩, ⟨kn, (h _ (by decide)).trans k1, k2⟩, ⟨ws, (h _ (by decide)).trans w1, w2⟩, ⟨kvs, (h _ (by decide)).trans v1, v2, fun r hr => ?_⟩⟩
  obtain ⟨j, l, c1, c2, c3, c4⟩ := v3 r hr
  exact ⟨j, l, c1, c2, (K j (.inr (by rw [c3]; exact fun z => nomatch z)) id).trans c3, c4⟩
theorem Hs.len {ns above M t wl s σ} (H : Hs ns above M t wl s σ) : above.length ≤ 7 := by have := H.B.len; have := H.eq; (first | exact o203 (by assumption) this | omega)
theorem Hs.bnd {ns above M t wl s σ} (H : Hs ns above M t wl s σ) (h : 0 < above.length) : M < above.length ∧ 2 * above.length * 2 ^ M ≤ 896 := by
  obtain ⟨L, U⟩ := H.U
  have hm := U.mLt h
  have hl := H.len
  refine ⟨hm, ?_⟩
  have h1 : 2 ^ M ≤ 2 ^ 6 := Nat.pow_le_pow_right (by decide) (by exact o204 hm hl)
  have h2 : 2 * above.length ≤ 14 := by exact o205 hl
  have := Nat.mul_le_mul h2 h1
  omega

theorem h_find {W : Wd} (hK : WK W) {A : Around} {n : Nat} (R : Room A (n + 2)) {σ : Sto} {ns above M t wl s} (H : Hs ns above M t wl s σ) {a : Int} (h0 : 0 ≤ a) (ha : a < above.length) :
    Fn W A (.ref 376) [.ref 10, .int a] σ fun v σ' => σ' = σ ∧ ∃ r : Int, An3 (v = .int r) (IsRoot above r) (Fd above a r) := by
  refine Fn.body ["self", "n"] R (by rw [hK.k]; rfl) (by rw [hK.k]; rfl) rfl rfl rfl rfl (bind2 fun _ _ => rfl) rfl (by decide) (by intro n; rfl) rfl rfl rfl fun Lc A' R' => ?_
  obtain ⟨L, U⟩ := H.U
  refine Exs.cons (Ex.ret (Ev.mth2 rfl H.i H.d (pa452_unions hK) rfl U.i U.d (pm322_find hK) (fk279 hK) (Evs.one (Ev.name rfl (Bi.of_fn ((u_find hK R' U.toUA h0 ha).mono fun v σ' ⟨e, h⟩ => ?_))))))
  exact ⟨e, h⟩
theorem h_size {W : Wd} (hK : WK W) {A : Around} {n : Nat} (R : Room A (n + 2)) {σ : Sto} {ns above M t wl s} (H : Hs ns above M t wl s σ) :
    Fn W A (.ref 347) [.ref 10] σ fun v σ' => σ' = σ ∧ v = .int ns.length := by
  refine Fn.body ["self"] R (by rw [hK.k]; rfl) (by rw [hK.k]; rfl) rfl rfl rfl rfl (bind1 fun _ => rfl) rfl (by decide) (by intro n; rfl) rfl rfl rfl fun Lc A' R' => ?_
  refine Exs.cons (Ex.ret (Ev.mth2 rfl H.i H.d (pa452_bank hK) rfl H.B.i H.B.d (pm240_size hK) (fk159 hK) (Evs.nil (Bi.of_fn ((b_size hK R' H.B).mono fun v σ' ⟨e, h⟩ => ?_)))))
  exact ⟨e, h⟩
theorem h_classes {W : Wd} (hK : WK W) {A : Around} {n : Nat} (R : Room A (n + 2)) {σ : Sto} {ns above M t wl s} (H : Hs ns above M t wl s σ) (hpos : 0 < above.length) (j : Nat) (hj : σ j = none) :
    Fn W A (.ref 418) [.ref 10] σ fun v σ' => v = .ref j ∧ ∃ cs : List Int, An4 (σ' = setS σ j (.list (cs.map .int))) (cs ≠ []) (cs.length ≤ above.length) (∀ x ∈ cs, IsRoot above x) := by
  refine Fn.body ["self"] R (by rw [hK.k]; rfl) (by rw [hK.k]; rfl) rfl rfl rfl rfl (bind1 fun _ => rfl) rfl (by decide) (by intro n; rfl) rfl rfl rfl fun Lc A' R' => ?_
  obtain ⟨L, U⟩ := H.U
  refine Exs.cons (Ex.ret (Ev.mth2 rfl H.i H.d (pa452_unions hK) rfl U.i U.d (pm322_classes hK) (fk298 hK) (Evs.nil (Bi.of_fn ((u_classes hK R' U.toUA hpos j hj).mono fun v σ' h => ?_)))))
  exact h
theorem h_members {W : Wd} (hK : WK W) {A : Around} {n : Nat} (R : Room A (n + 3)) {σ : Sto} {ns above M t wl s} (H : Hs ns above M t wl s σ) {a : Int} (h0 : 0 ≤ a) (ha : a < above.length) (j : Nat) (hj : σ j = none) :
    Fn W A (.ref 425) [.ref 10, .int a] σ fun v σ' => v = .ref j ∧ ∃ ms : List Int, An4 (σ' = setS σ j (.list (ms.map .int))) (ms ≠ []) (ms.length ≤ above.length) (∀ x ∈ ms, 0 ≤ x ∧ x < above.length) := by
  refine Fn.body ["self", "c"] R (by rw [hK.k]; rfl) (by rw [hK.k]; rfl) rfl rfl rfl rfl (bind2 fun _ _ => rfl) rfl (by decide) (by intro n; rfl) rfl rfl rfl fun Lc A' R' => ?_
  obtain ⟨L, U⟩ := H.U
  refine Exs.cons (Ex.ret (Ev.mth2 rfl H.i H.d (pa452_unions hK) rfl U.i U.d (pm322_members hK) (fk293 hK) (Evs.one (Ev.name rfl (Bi.of_fn ((u_members hK R' U h0 ha j hj).mono fun v σ' h => ?_))))))
  exact h

theorem h_node {W : Wd} (hK : WK W) {A : Around} {n : Nat} (R : Room A (n + 3)) {σ : Sto} {ns above M t wl s} (H : Hs ns above M t wl s σ) {k : Nat} (hk : k < above.length) :
    Fn W A (.ref 352) [.ref 10, .int k] σ fun v σ' => σ' = σ ∧ ∃ nd : Node, An3 (v = nodeV nd) (nd.2.length ≤ 2) (∀ x ∈ nd.2, 0 ≤ x ∧ x < above.length) := by
  refine Fn.fin fun N hN hfr => ?_
  have rf : ∀ nd : Node, (nodeV nd).refs = [] := fun nd => by rw [nodeV, V.refs, V.refsL, refsInts]; rfl
  refine Fn.same ((Fn.body (Q := fun v σ' => (∀ i, σ i ≠ Option.none → σ' i = σ i) ∧ ∃ nd : Node, An3 (v = nodeV nd) (nd.2.length ≤ 2) (∀ x ∈ nd.2, 0 ≤ x ∧ x < above.length)) ["self", "n"] R (by rw [hK.k]; rfl) (by rw [hK.k]; rfl) rfl rfl rfl rfl (bind2 fun _ _ => rfl) rfl (by decide) (by intro n; rfl) rfl rfl rfl fun L A' R' => ?_).mono fun v σ' ⟨a, nd, b, c, c'⟩ => ⟨a, by rw [b]; exact rf nd, nd, b, c, c'⟩)
  have hkn : k < ns.length := by rw [H.eq]; exact hk
  have hnd : ns[k]? = some ns[k] := by simp [hkn]
  generalize ns[k] = nd at hnd
  have hki := H.B.kids nd (List.mem_of_getElem? hnd)
  refine Exs.cons (Ex.ret (Ev.bin (Ev.tuple (Evs.one (Ev.mth2 rfl H.i H.d (pa452_bank hK) rfl H.B.i H.B.d (pm240_op hK) (fk197 hK) (Evs.one (Ev.name rfl (Bi.of_fn ((b_op hK R' H.B hnd).mB ?_)))))))))
  have hl := H.len
  refine ⟨by simp, Ev.b (nbtuple hK) (Evs.one (Ev.cmap R'.handled N (fun m w => ∃ x : Int, An3 (w = .int x) (0 ≤ x) (x < above.length)) (Ev.mth2 rfl H.i H.d (pa452_bank hK) rfl H.B.i H.B.d (pm240_kids hK) (fk204 hK) (Evs.one (Ev.name rfl (Bi.of_fn ((b_kids hK R' H.B hnd).mB ?_)))))))⟩
  refine ⟨hfr N (Nat.le_refl _), nd.2.map .int, rfl, by simp; exact o206 hki, fun m y out C hy => ?_, fun out hol hP => ?_⟩
  · rw [List.getElem?_map, Option.map_eq_some_iff] at hy
    obtain ⟨kd, hkd, rfl⟩ := hy
    have hr := hki.2 kd (List.mem_of_getElem? hkd)
    have H2 : Hs ns above M t wl s (setS σ N (.list out)) := H.keep (Keep.refl.set (.inr ⟨hN, hfr N (Nat.le_refl _)⟩))
    refine Ev.mth (lkS rfl) H2.i H2.d (pm452_find hK) (fk376 hK) (Evs.one (Ev.name lookup_setG_self (Bi.of_fn ((h_find hK R' H2 hr.1 (by have := H.eq; exact o207 hr this)).mD3 fun r hr _ => ?_))))
    exact ⟨rfl, r, rfl, hr.1, hr.lt⟩
  · obtain ⟨is, rfl⟩ := intsOf fun w hw => by
      obtain ⟨m, hm⟩ := List.getElem?_of_mem hw
      obtain ⟨x, e, _⟩ := hP m w hm
      exact ⟨x, e⟩
    simp only [List.length_map] at hol
    refine Bi.tupleL setS_eq (by simp; exact o208 hki hol) (Bop.addT (by simp) (by simp; exact o208 hki hol) ⟨fun i hi => ?_, (nd.1, is), rfl, by dsimp only; exact o209 hki hol, fun x hx => ?_⟩)
    · exact setS_ne fun q => hi (q ▸ hfr N (Nat.le_refl _))
    · obtain ⟨m, hm⟩ := List.getElem?_of_mem hx
      obtain ⟨y, e, h, h'⟩ := hP m (.int x) (by simp [hm])
      cases e; exact ⟨h, h'⟩
end Mine

open PySem PySem.W PyProof.Rows PySem.SeqAt PySem.Calls
set_option Elab.async false
set_option maxRecDepth 100000
set_option linter.unusedVariables false
set_option pp.maxSteps 600
set_option pp.deepTerms false
namespace Mine



section
variable {κ : Type} [DecidableEq κ]
theorem atV_storedV {kvs : List (κ × V)} {k r : κ} {v : V} : atV (storedV kvs k v) r = if r = k then some v else atV kvs r := by
  have mp : ∀ l : List (κ × V), atV (l.map fun kv => if kv.1 = k then (kv.1, v) else kv) r = if r = k then (if l.any (fun kv => decide (kv.1 = k)) then some v else none) else atV l r := fun l => by
    induction l with
    | nil => simp [atV]
    | cons a b ih =>
      unfold atV at ih ⊢
      simp only [List.map_cons, List.find?_cons, List.any_cons]
      by_cases q : a.1 = k
      · by_cases z : r = k
        · subst z; simp [q]
        · have : ¬ a.1 = r := fun e => z (e ▸ q)
          have : ¬ k = r := fun e => z e.symm
          simp only [q, if_true, this, decide_false, z, if_false] at ih ⊢
          exact ih
      · simp only [q, if_false, decide_false, Bool.false_or]
        by_cases z : a.1 = r
        · have : ¬ r = k := fun e => q (z.trans e)
          simp [z, this]
        · simp only [z, decide_false]; exact ih
  unfold storedV
  split
  · rename_i h
    rw [mp, if_pos h]
  · rename_i h
    have hn : ∀ x ∈ kvs, x.1 ≠ k := fun x hx e => h (List.any_eq_true.mpr ⟨x, hx, by simpa using e⟩)
    unfold atV
    rw [List.find?_append]
    by_cases z : r = k
    · subst z
      have : kvs.find? (fun kv => decide (kv.1 = r)) = none := List.find?_eq_none.mpr fun x hx => by simpa using hn x hx
      simp [this]
    · have : ¬ k = r := fun e => z e.symm
      cases q : kvs.find? (fun kv => decide (kv.1 = r)) <;> simp [z, this]
theorem atV_without {kvs : List (κ × V)} {k r : κ} (h : r ≠ k) : atV (kvs.filter fun kv => decide (kv.1 ≠ k)) r = atV kvs r := by
  unfold atV
  induction kvs with
  | nil => rfl
  | cons a b ih =>
    simp only [List.filter_cons, List.find?_cons]
    by_cases q : a.1 = k
    · have : ¬ a.1 = r := fun e => h (e.symm.trans q)
      simp only [q, ne_eq, not_true_eq_false, decide_false, Bool.false_eq_true, if_false]
      have : ¬ k = r := fun e => h e.symm
      simp only [this, decide_false]; exact ih
    · simp only [q, ne_eq, not_false_eq_true, decide_true, if_true, List.find?_cons]
      by_cases z : a.1 = r
      · simp [z]
      · simp only [z, decide_false]; exact ih
end

theorem root_set {above : List Int} {k g : Nat} (hkg : k ≠ g) {r : Int} (h : IsRoot (above.set g (k : Int)) r) : IsRoot above r ∧ r ≠ g := by
  obtain ⟨h0, h1⟩ := h
  rw [List.getElem?_set] at h1
  by_cases q : g = r.toNat
  · rw [if_pos q] at h1
    split at h1
    · cases h1; simp at q; exact o210 hkg q
    · cases h1
  · rw [if_neg q] at h1
    exact ⟨⟨h0, h1⟩, by exact o211 q⟩

theorem h_join {W : Wd} (hK : WK W) {A : Around} {n : Nat} (R : Room A (n + 3)) {σ : Sto} {ns above M t wl s} (H : Hs ns above M t wl s σ) (ht : t ≤ 90) {a b ra rb : Int} (ha0 : 0 ≤ a) (ha : a < above.length) (hb0 : 0 ≤ b) (hb : b < above.length) (fa : Fd above a ra) (fb : Fd above b rb) (rv : V) :
    Fn W A (.ref 397) [.ref 10, .int a, .int b, rv] σ fun v σ' => An3 (∃ c, v = .bool c) (Keep XHs σ σ') ((ra = rb ∧ Hs ns above M (t + 1) wl s σ') ∨ (ra ≠ rb ∧ ∃ above' wl', above'.length = above.length ∧ wl' ≤ wl + 896 ∧ Hs ns above' (M + 1) t wl' s σ')) := by
  refine Fn.fin fun N hN hfr => ?_
  have hpos : 0 < above.length := by exact o212 hb0 hb
  obtain ⟨hM, hb896⟩ := H.bnd hpos
  have hlen := H.len
  obtain ⟨L, U⟩ := H.U
  obtain ⟨es, hes, hel⟩ := H.edges
  obtain ⟨fs, hfs, hfl⟩ := H.forest
  obtain ⟨kn, hkn, hkr, hkb⟩ := H.kn
  obtain ⟨ws, hws, hwl, hwr⟩ := H.wt
  obtain ⟨kvs, hab, habl, habr⟩ := H.ab
  refine Fn.body ["self", "a", "b", "reason"] R (by rw [hK.k]; rfl) (by rw [hK.k]; rfl) rfl rfl rfl rfl (bind4 fun _ _ _ _ => rfl) rfl (by decide) (by intro n; rfl) rfl rfl rfl fun Lc A' R' => ?_
  refine Exs.cons (Ex.drop (Ev.lm PySem.F.slot_list_append PySem.F.type_list_append (Ev.at rfl H.i H.d (pa452_edges hK) rfl ⟨27, _, rfl, hes, Evs.one (Ev.tuple (Evs.three (Ev.name rfl (Ev.name rfl (Ev.name rfl ⟨by simp, Bi.append hes (by exact o213 ht hM hlen hel) ⟨.inl rfl, ?_⟩⟩)))))⟩)))
  refine Exs.hide fun σ1 h1 => ?_
  have k1 : ∀ i, i ≠ 27 → σ1 i = σ i := fun i hi => by rw [h1]; dsimp only; rw [setS_ne hi]
  have e1 : σ1 27 = some (.list (es ++ [.tup [.int a, .int b, rv]])) := by rw [h1]; dsimp only; rw [setS_eq]
  clear h1
  have U1 : Un above M L σ1 := U.keep' (k1 _ (by decide)) (k1 _ (by decide)) fun i hi => k1 i (by exact o214 hi)
  refine Exs.cons (Ex.assign (Ev.mth2 rfl ((k1 _ (by decide)).trans H.i) ((k1 _ (by decide)).trans H.d) (pa452_unions hK) rfl U1.i U1.d (pm322_merge hK) (fk286 hK) (Evs.two (Ev.name rfl (Ev.name rfl (Bi.of_fn ((u_merge hK R' U1 ha0 ha hb0 hb fa fb).mono fun v σ2 h2 => As.local ?_)))))))
  rcases h2 with ⟨rfl, hrr, K2⟩ | ⟨k, g, rfl, hrr, hkg, rk, rg, ⟨L', U2⟩, K2⟩
  · refine Exs.cons (Ex.iff (Is.cmp rfl (Ev.name lookup_setG_self (Ev.noneC (Cop.isNone ?_)))))
    rw [if_pos rfl]
    have lo : ∀ i, i < 1000 → i ≠ 27 → σ2 i = σ i := fun i hi n => (K2 i (.inl hi) id).trans (k1 i n)
    have KK : ∀ i, (i < 1000 ∨ σ i ≠ none) → i ≠ 27 → σ2 i = σ i := fun i hi n => by
      rw [K2 i (hi.imp id fun z => by rw [k1 i n]; exact z) id, k1 i n]
    refine Exs.cons (Ex.ret (Ev.boolC ⟨⟨false, rfl⟩, fun i hi n => KK i hi fun q => n (by subst q; exact .inl (by decide)), .inl ⟨hrr, ?_⟩⟩))
    refine ⟨(lo _ (by decide) (by decide)).trans H.i, (lo _ (by decide) (by decide)).trans H.d, H.B.keep' (lo _ (by decide) (by decide)) (lo _ (by decide) (by decide)) (fun i a b => lo i (by exact o215 b) (by exact o216 b)), ⟨L, U1.keep fun i hi => K2 i (.inl hi) id⟩, H.eq,
      ⟨_, (K2 27 (.inl (by decide)) id).trans e1, by simp; exact o217 hel⟩, ⟨fs, (lo _ (by decide) (by decide)).trans hfs, hfl⟩, ⟨kn, (lo _ (by decide) (by decide)).trans hkn, hkr, hkb⟩, ⟨ws, (lo _ (by decide) (by decide)).trans hws, hwl, hwr⟩, ⟨kvs, (lo _ (by decide) (by decide)).trans hab, habl, fun r hr => ?_⟩⟩
    obtain ⟨j, l, c1, c2, c3, c4⟩ := habr r hr
    exact ⟨j, l, c1, c2, (KK j (.inr (by rw [c3]; exact fun z => nomatch z)) (by exact o218 c2)).trans c3, c4⟩
  refine Exs.cons (Ex.iff (Is.cmp rfl (Ev.name lookup_setG_self (Ev.noneC (Cop.isNoneT ?_)))))
  rw [if_neg (by decide)]
  have hkl := rk.lt
  have hgl := rg.lt
  obtain ⟨k, rfl⟩ := Int.eq_ofNat_of_zero_le rk.1
  obtain ⟨g, rfl⟩ := Int.eq_ofNat_of_zero_le rg.1
  have hkg' : k ≠ g := fun e => hkg (by rw [e])
  have NX : ∀ i, ¬ ((24 ≤ i ∧ i ≤ 26) ∨ (100 ≤ i ∧ i < 150)) → ¬ XUn i := fun i h => h
  have lo2 : ∀ i, i < 1000 → i ≠ 27 → ¬ ((24 ≤ i ∧ i ≤ 26) ∨ (100 ≤ i ∧ i < 150)) → σ2 i = σ i := fun i hi n m => (K2 i (.inl hi) m).trans (k1 i n)
  have hi2 : ∀ j, 1000 ≤ j → σ j ≠ none → σ2 j = σ j := fun j hj hn => by
    rw [K2 j (.inr (by rw [k1 j (by exact o218 hj)]; exact hn)) (by unfold XUn; exact o219 hj), k1 j (by exact o218 hj)]
  have e2 : σ2 27 = _ := (K2 27 (.inl (by decide)) (by unfold XUn; decide)).trans e1
  obtain ⟨jk, lk, ak1, ak2, ak3, ak4, ak5⟩ := habr k rk
  obtain ⟨jg, lg, ag1, ag2, ag3, ag4, ag5⟩ := habr g rg
  have ak3' := (hi2 jk ak2 (by rw [ak3]; exact fun z => nomatch z)).trans ak3
  have ag3' := (hi2 jg ag2 (by rw [ag3]; exact fun z => nomatch z)).trans ag3
  refine Exs.nil (Exs.cons (Ex.assign (Ev.name lookup_setG_self (As.tuple R'.handled (vs := [.int k, .int g]) (show IterOf (.tup [.int k, .int g]) _ _ from rfl) (.inl ⟨_, rfl⟩) rfl (As.local (As.local ?_))))))
  have i2 := (lo2 10 (by decide) (by decide) (by decide)).trans H.i
  have d2 := (lo2 11 (by decide) (by decide) (by decide)).trans H.d
  have f2 := (lo2 28 (by decide) (by decide) (by decide)).trans hfs
  refine Exs.cons (Ex.drop (Ev.lm PySem.F.slot_list_append PySem.F.type_list_append (Ev.at rfl i2 d2 (pa452_forest hK) rfl ⟨28, _, rfl, f2, Evs.one (Ev.bin (Ev.b (nblen hK) (Evs.one (Ev.at rfl i2 d2 (pa452_edges hK) rfl (Bi.lenL e2 (by simp; exact o220 ht hM hlen hel) (Ev.intC (Bop.subI (Bi.append f2 (by exact o221 hM hlen hfl) ⟨.inl rfl, ?_⟩))))))))⟩)))
  refine Exs.hide fun σ3 h3 => ?_
  have k3 : ∀ i, i ≠ 28 → σ3 i = σ2 i := fun i hi => by rw [h3]; dsimp only; rw [setS_ne hi]
  obtain ⟨fv, f3⟩ : ∃ fv : V, σ3 28 = some (.list (fs ++ [fv])) := ⟨_, by rw [h3]; dsimp only; rw [setS_eq]⟩
  clear h3
  have i3 := (k3 10 (by decide)).trans i2
  have d3 := (k3 11 (by decide)).trans d2
  have w3 := ((k3 31 (by decide)).trans (lo2 31 (by decide) (by decide) (by decide))).trans hws
  have a3 := ((k3 30 (by decide)).trans (lo2 30 (by decide) (by decide) (by decide))).trans hab
  have wk3 := (k3 jk (by exact o222 ak2)).trans ak3'
  have wg3 := (k3 jg (by exact o222 ag2)).trans ag3'
  refine Exs.cons (Ex.drop (Ev.lm PySem.F.slot_list_extend PySem.F.type_list_extend (Ev.at rfl i3 d3 (pa452_waiting hK) rfl ⟨31, _, rfl, w3, Evs.one (Ev.sub (Ev.at rfl i3 d3 (pa452_above hK) rfl (Ev.name lookup_setG_self (Gop.idict a3 ag1 (Bi.extendL w3 wg3 (by exact o223 ag2) (by simp; exact o224 hb896 hkb hwl) (by simp; exact o225 hb896 ag5) ⟨.inl rfl, ?_⟩)))))⟩)))
  refine Exs.hide fun σ4 h4 => ?_
  have k4 : ∀ i, i ≠ 31 → σ4 i = σ3 i := fun i hi => by rw [h4]; dsimp only; rw [setS_ne hi]
  have w4 : σ4 31 = some (.list ((ws ++ lg).map .int)) := by rw [h4]; dsimp only; rw [setS_eq]; simp
  clear h4
  have i4 := (k4 10 (by decide)).trans i3
  have d4 := (k4 11 (by decide)).trans d3
  have a4 := (k4 30 (by decide)).trans a3
  have wk4 := (k4 jk (by exact o226 ak2)).trans wk3
  have wg4 := (k4 jg (by exact o226 ag2)).trans wg3
  have hf4 : ∀ i, N ≤ i → σ3 i = σ2 i ∧ σ4 i = σ3 i := fun i hi => ⟨k3 i (by exact o227 hN hi), k4 i (by exact o228 hN hi)⟩
  refine Exs.fin fun N2 hN2 hfr2 => ?_
  refine Exs.cons (Ex.assign (Ev.bin (Ev.sub (Ev.at rfl i4 d4 (pa452_above hK) rfl (Ev.name (lkS lookup_setG_self) (Gop.idict a4 ak1 (Ev.dm PySem.F.slot_dict_pop PySem.F.type_dict_pop (Ev.at rfl i4 d4 (pa452_above hK) rfl ⟨30, rfl, .inl ⟨_, _, a4⟩, Evs.one (Ev.name lookup_setG_self (Bi.popI a4 ag1 (by exact o229 hM hlen habl) (Bop.addL (k := N2) ((setS_ne (by exact o230 ak2)).trans wk4) ((setS_ne (by exact o230 ag2)).trans wg4) (by simp; exact o225 hb896 ak5) (by simp; exact o225 hb896 ag5) ((setS_ne (by exact o230 hN2)).trans (hfr2 N2 (Nat.le_refl _))) ?_)))⟩))))))))
  have hz5 : (kvs.filter fun kv => decide (kv.1 ≠ (g : Int))).length ≤ 1000 := by
    have := List.length_filter_le (fun kv : Int × V => decide (kv.1 ≠ (g : Int))) kvs; exact o231 hM hlen habl this
  have st5 : ∀ i, i ≠ 30 → i ≠ N2 → setS (setS σ4 30 (.idict (kvs.filter fun kv => decide (kv.1 ≠ (g : Int))))) N2 (.list (lk.map .int ++ lg.map .int)) i = σ4 i := fun i x y => by rw [setS_ne y, setS_ne x]
  have sa5 : setS (setS σ4 30 (.idict (kvs.filter fun kv => decide (kv.1 ≠ (g : Int))))) N2 (.list (lk.map .int ++ lg.map .int)) 30 = some (.idict (kvs.filter fun kv => decide (kv.1 ≠ (g : Int)))) := by rw [setS_ne (by exact o232 hN2), setS_eq]
  refine As.sub (Ev.at rfl ((st5 10 (by decide) (by exact o233 hN2)).trans i4) ((st5 11 (by decide) (by exact o234 hN2)).trans d4) (pa452_above hK) rfl (Ev.name (lkS lookup_setG_self) (Sop.idict sa5 hz5 ?_)))
  refine Exs.hide fun σ5 h5 => ?_
  have k5 : ∀ i, i ≠ 30 → i ≠ N2 → σ5 i = σ4 i := fun i a b => by rw [h5]; dsimp only; rw [setS_ne a, setS_ne b, setS_ne a]
  have a5 : σ5 30 = some (.idict (storedV (kvs.filter fun kv => decide (kv.1 ≠ (g : Int))) (k : Int) (.ref N2))) := by rw [h5]; dsimp only; rw [setS_eq]
  have n5 : σ5 N2 = some (.list ((lk ++ lg).map .int)) := by rw [h5]; dsimp only; rw [setS_ne (by exact o230 hN2), setS_eq]; simp
  clear h5
  have K5 : Keep XHs σ σ5 := fun i hi hx => by
    unfold XHs at hx
    have hi' : i < 1000 := by exact o235 hx
    rw [k5 i (by exact o236 hx) (by exact o126 hN2 hi'), k4 i (by exact o237 hx), k3 i (by exact o238 hx), lo2 i hi' (by exact o239 hx) (by exact o240 hx)]
  refine Exs.cons (Ex.ret (Ev.boolC ⟨⟨true, rfl⟩, K5, .inr ⟨hrr, above.set g (k : Int), wl + lg.length, by simp, by exact o241 hb896 ag5, ?_⟩⟩))
  have lo5 : ∀ i, i < 1000 → ¬ ((24 ≤ i ∧ i ≤ 31) ∨ (100 ≤ i ∧ i < 150)) → σ5 i = σ i := fun i hi n => by
    rw [k5 i (by exact o242 n) (by exact o126 hN2 hi), k4 i (by exact o243 n), k3 i (by exact o244 n), lo2 i hi (by exact o245 n) (by exact o246 n)]
  have s5 : ∀ i, i < 1000 → i ≠ 30 → i ≠ 31 → i ≠ 28 → σ5 i = σ2 i := fun i hi a b c => by
    rw [k5 i a (by exact o126 hN2 hi), k4 i b, k3 i c]
  have pw : 2 * above.length * 2 ^ (M + 1) = 2 * (2 * above.length * 2 ^ M) := by rw [Nat.pow_succ]; rw [Nat.mul_comm (2 ^ M) 2, Nat.mul_left_comm]
  simp only [Int.toNat_natCast] at U2
  have sl : (above.set g (k : Int)).length = above.length := by simp
  refine ⟨(lo5 _ (by decide) (by decide)).trans H.i, (lo5 _ (by decide) (by decide)).trans H.d, H.B.keep' (lo5 _ (by decide) (by decide)) (lo5 _ (by decide) (by decide)) (fun i a b => lo5 i (by exact o215 b) (by exact o247 b)), ⟨L', U2.keep' (s5 _ (by decide) (by decide) (by decide) (by decide)) (s5 _ (by decide) (by decide) (by decide) (by decide)) fun i hi => s5 i (by exact o202 hi) (by exact o248 hi) (by exact o249 hi) (by exact o250 hi)⟩, by rw [sl]; exact H.eq,
    ⟨_, (s5 27 (by decide) (by decide) (by decide) (by decide)).trans e2, by simp; exact o251 hel⟩, ⟨fs ++ [fv], ?_, by simp; omega⟩, ⟨kn, ?_, by rw [sl]; exact hkr, by rw [sl, pw]; exact o252 hkb ag5⟩, ⟨ws ++ lg, ?_, by simp; omega, fun x hx => ?_⟩, ⟨_, a5, ?_, fun r hr => ?_⟩⟩
  · show σ5 28 = _
    rw [k5 28 (by decide) (by exact o253 hN2), k4 28 (by decide)]; exact f3
  · show σ5 29 = _
    rw [s5 29 (by decide) (by decide) (by decide) (by decide), lo2 29 (by decide) (by decide) (by decide)]; exact hkn
  · show σ5 31 = _
    rw [k5 31 (by decide) (by exact o223 hN2)]; exact w4
  · rw [sl]
    rcases List.mem_append.mp hx with hx | hx
    · exact hwr x hx
    · exact ag4 x hx
  · have h1 := storedV_length (kvs.filter fun kv => decide (kv.1 ≠ (g : Int))) (k : Int) (.ref N2)
    have h2 := List.length_filter_le (fun kv : Int × V => decide (kv.1 ≠ (g : Int))) kvs
    rw [sl]; exact o254 habl h1 h2
  · obtain ⟨hr1, hr2⟩ := root_set hkg' hr
    rw [sl, pw, atV_storedV]
    by_cases q : r = (k : Int)
    · rw [if_pos q]
      exact ⟨N2, lk ++ lg, rfl, hN2, n5, fun x hx => (List.mem_append.mp hx).elim (ak4 x) (ag4 x), by simp; exact o255 ak5 ag5⟩
    · rw [if_neg q, atV_without hr2]
      obtain ⟨j, l, c1, c2, c3, c4, c5⟩ := habr r hr1
      have cn : σ j ≠ none := by rw [c3]; exact fun z => nomatch z
      have jN : j ≠ N2 := fun e => by
        have := hfr2 N2 (Nat.le_refl _)
        dsimp only at this
        rw [← e, k4 j (by exact o226 c2), k3 j (by exact o222 c2), hi2 j c2 cn] at this
        exact cn this
      exact ⟨j, l, c1, c2, by show σ5 j = _; rw [k5 j (by exact o230 c2) jN, k4 j (by exact o226 c2), k3 j (by exact o222 c2), hi2 j c2 cn]; exact c3, c4, by exact o256 c5⟩
end Mine

open PySem PySem.W PyProof.Rows PySem.SeqAt PySem.Calls
set_option Elab.async false
set_option maxRecDepth 100000
set_option linter.unusedVariables false
set_option pp.maxSteps 600
set_option pp.deepTerms false
namespace Mine



theorem Hs.less {ns above M t wl s s' σ} (H : Hs ns above M t wl s σ) (h : s' ≤ s) : Hs ns above M t wl s' σ := by
  obtain ⟨a, b, B, U, e, es, fs, ⟨kn, k1, k2, k3⟩, ws, ab⟩ := H
  exact ⟨a, b, B, U, e, es, fs, ⟨kn, k1, k2, by exact o257 h k3⟩, ws, ab⟩
theorem Hs.setKn {ns above M t wl s σ} (H : Hs ns above M t wl s σ) {kn : List (List Atom × Int)} (h1 : ∀ p ∈ kn, 0 ≤ p.2 ∧ p.2 < above.length) {s' : Nat} (h2 : kn.length + wl + s' ≤ 2 * above.length * 2 ^ M) : Hs ns above M t wl s' (setS σ 29 (.tdict (kn.map fun p => (p.1, V.int p.2)))) := by
  obtain ⟨a, b, B, ⟨L, U⟩, e, ⟨es, f1, f2⟩, ⟨fs, g1, g2⟩, ⟨kn', k1, k2⟩, ⟨ws, w1, w2⟩, ⟨kvs, v1, v2, v3⟩⟩ := H
  have h : ∀ i, i ≠ 29 → setS σ 29 (.tdict (kn.map fun p => (p.1, V.int p.2))) i = σ i := fun i hi => setS_ne hi
  refine ⟨(h _ (by decide)).trans a, (h _ (by decide)).trans b, B.keep' (h _ (by decide)) (h _ (by decide)) (fun i _ _ => h i (by (first | exact o258 (by assumption) | omega))), ⟨L, U.keep' (h _ (by decide)) (h _ (by decide)) fun i _ => h i (by (first | exact o259 (by assumption) | omega))⟩, e, ⟨es, (h _ (by decide)).trans f1, f2⟩, ⟨fs, (h _ (by decide)).trans g1, g2⟩, ⟨kn, setS_eq, h1, h2⟩, ⟨ws, (h _ (by decide)).trans w1, w2⟩, ⟨kvs, (h _ (by decide)).trans v1, v2, fun r hr => ?_⟩⟩
  obtain ⟨j, l, c1, c2, c3, c4⟩ := v3 r hr
  exact ⟨j, l, c1, c2, (h j (by exact o260 c2)).trans c3, c4⟩
theorem Hs.setWt {ns above M t wl s σ} (H : Hs ns above M t wl s σ) {ws : List Int} (h1 : ∀ x ∈ ws, 0 ≤ x ∧ x < above.length) {s' : Nat} (h2 : ws.length + s' = wl + s) : Hs ns above M t ws.length s' (setS σ 31 (.list (ws.map .int))) := by
  obtain ⟨a, b, B, ⟨L, U⟩, e, ⟨es, f1, f2⟩, ⟨fs, g1, g2⟩, ⟨kn', k1, k2, k3⟩, ⟨ws', w1, w2⟩, ⟨kvs, v1, v2, v3⟩⟩ := H
  have h : ∀ i, i ≠ 31 → setS σ 31 (.list (ws.map V.int)) i = σ i := fun i hi => setS_ne hi
  refine ⟨(h _ (by decide)).trans a, (h _ (by decide)).trans b, B.keep' (h _ (by decide)) (h _ (by decide)) (fun i _ _ => h i (by (first | exact o261 (by assumption) | omega))), ⟨L, U.keep' (h _ (by decide)) (h _ (by decide)) fun i _ => h i (by (first | exact o249 (by assumption) | omega))⟩, e, ⟨es, (h _ (by decide)).trans f1, f2⟩, ⟨fs, (h _ (by decide)).trans g1, g2⟩, ⟨kn', (h _ (by decide)).trans k1, k2, by exact o262 h2 k3⟩, ⟨ws, setS_eq, rfl, h1⟩, ⟨kvs, (h _ (by decide)).trans v1, v2, fun r hr => ?_⟩⟩
  obtain ⟨j, l, c1, c2, c3, c4⟩ := v3 r hr
  exact ⟨j, l, c1, c2, (h j (by exact o226 c2)).trans c3, c4⟩

theorem h_look_at {W : Wd} (hK : WK W) {A : Around} {n : Nat} (R : Room A (n + 4)) {σ : Sto} {ns above M t wl} (H : Hs ns above M t wl 1 σ) (ht : t ≤ 90) {k : Nat} (hk : k < above.length) :
    Fn W A (.ref 369) [.ref 10, .int k] σ fun v σ' => An3 (v = .none) (Keep XHs σ σ') (Sm3 fun above' M' wl' => An3 (above'.length = above.length) ((M' = M ∧ wl' = wl) ∨ (M' = M + 1 ∧ wl' ≤ wl + 896)) (Hs ns above' M' t wl' 0 σ')) := by
  have hpos : 0 < above.length := by exact o263 hk
  obtain ⟨hM, hb896⟩ := H.bnd hpos
  obtain ⟨kn, hkn, hkr, hkb⟩ := H.kn
  refine Fn.body ["self", "n"] R (by rw [hK.k]; rfl) (by rw [hK.k]; rfl) rfl rfl rfl rfl (bind2 fun _ _ => rfl) rfl (by decide) (by intro n; rfl) rfl rfl rfl fun Lc A' R' => ?_
  have u1 : A'.units + 1 < cLine := by have := R'.units'; exact o152 this
  refine Exs.cons (Ex.assign (Ev.mono (Q := fun v st' => ∃ o : Int, An6 (v = .int o) (0 ≤ o) (o < above.length) (st'.Γ = (["self", "n"] : List Str).zip [V.ref 10, .int k]) (Hs ns above M t wl 0 st'.σ) (Keep XHs σ st'.σ))
    (Ev.dm PySem.F.slot_dict_setdefault PySem.F.type_dict_setdefault (Ev.at rfl H.i H.d (pa452_known hK) rfl ⟨29, rfl, .inr (.inr ⟨_, hkn⟩), Evs.two (Ev.mth rfl H.i H.d (pm452_node hK) (fk352 hK) (Evs.one (Ev.name rfl (Bi.of_fn ((h_node hK R' H hk).mD3 fun nd _ _ => ?_)))))⟩)) fun v st' ⟨o, hv, o0, o1, hΓ, H1, K1⟩ => As.local ?_))
  · skip
    refine Ev.name rfl ?_
    rw [nodeV_key]
    refine Bi.setdefaultT u1 hkn (by simp; exact o264 hb896 hkb) ?_
    rcases hat : atV (kn.map fun p => (p.1, V.int p.2)) (key nd) with _ | w
    · rw [hat]; dsimp only
      refine ⟨k, rfl, Int.natCast_nonneg k, by exact o19 hk, rfl, ?_, (Keep.refl.set (.inl (.inl (by decide))))⟩
      have := H.setKn (kn := kn ++ [(key nd, (k : Int))]) (s' := 0) (fun p hp => ?_) (by simp; exact o265 hkb)
      · simpa using this
      · rcases List.mem_append.mp hp with hp | hp
        · exact hkr p hp
        · simp at hp; subst hp; dsimp only; exact o95 hk
    · obtain ⟨p, hp, rfl⟩ := atV_ints hat
      have := hkr p hp
      rw [hat]
      exact ⟨p.2, rfl, this.1, this.2, rfl, H.less (by decide), Keep.refl⟩
  obtain ⟨Γ1, σ1⟩ := st'
  dsimp only at hΓ H1 K1
  subst hΓ hv
  refine Exs.cons (Ex.iff (Is.cmp rfl (Ev.mth rfl H1.i H1.d (pm452_find hK) (fk376 hK) (Evs.one (Ev.name lookup_setG_self (Bi.of_fn ((h_find hK (R'.less (by exact o266 : n + 2 ≤ n + 3)) H1 o0 o1).mD3 fun r1 hr1 hf1 => ?_)))))))
  refine Ev.mth rfl H1.i H1.d (pm452_find hK) (fk376 hK) (Evs.one (Ev.name (lkS rfl) (Bi.of_fn ((h_find hK (R'.less (by exact o266 : n + 2 ≤ n + 3)) H1 (Int.natCast_nonneg k) (by exact o19 hk)).mD3 fun r2 hr2 hf2 => ?_))))
  refine Cop.neI ?_
  by_cases q : r1 = r2
  · rw [if_neg (by simpa using q)]
    exact Exs.nil (Exs.nil ⟨rfl, K1, above, M, wl, rfl, .inl ⟨rfl, rfl⟩, H1⟩)
  · rw [if_pos (by simpa using q)]
    refine Exs.cons (Ex.drop (Ev.mth rfl H1.i H1.d (pm452_join hK) (fk397 hK) (Evs.three (Ev.name lookup_setG_self (Ev.name (lkS rfl) (Ev.tuple (Evs.one (Ev.strC ⟨by simp, Bi.of_fn ((h_join hK R' H1 ht o0 o1 (Int.natCast_nonneg k) (by exact o19 hk) hf1 hf2 _).mC1 fun c σ4 K4 h4 => ?_)⟩))))))))
    refine ⟨.inr (.inl ⟨c, rfl⟩), Exs.nil (Exs.nil ⟨rfl, K1.trans K4, ?_⟩)⟩
    rcases h4 with ⟨e, _⟩ | ⟨_, above', wl', e1, e2, H4⟩
    · exact absurd e q
    · exact ⟨above', M + 1, wl', e1, .inr ⟨rfl, e2⟩, H4⟩

theorem h_settle {W : Wd} (hK : WK W) {A : Around} {n : Nat} (R : Room A (n + 5)) {σ : Sto} {ns above M t wl} (H : Hs ns above M t wl 0 σ) (ht : t ≤ 90) (hpos : 0 < above.length) :
    Fn W A (.ref 404) [.ref 10] σ fun v σ' => An3 (v = .none) (Keep XHs σ σ') (Sm3 fun above' M' wl' => above'.length = above.length ∧ Hs ns above' M' t wl' 0 σ') := by
  refine Fn.body ["self"] R (by rw [hK.k]; rfl) (by rw [hK.k]; rfl) rfl rfl rfl rfl (bind1 fun _ => rfl) rfl (by decide) (by intro n; rfl) rfl rfl rfl fun Lc A' R' => ?_
  generalize hΓ1 : (["self"] : List Str).zip [V.ref 10] = Γ1
  have lself : Γ1.lookup ("self" : Str) = some (.ref 10) := by rw [← hΓ1]; rfl
  refine Exs.cons (Ex.while (fun m st => An3 (st.Γ = Γ1) (Keep XHs σ st.σ) (Sm3 fun above' M' wl' => An3 (above'.length = above.length) (m = wl' + 897 * (8 - M')) (Hs ns above' M' t wl' 0 st.σ))) _ ⟨rfl, .refl, above, M, wl, rfl, rfl, H⟩ ?_)
  rintro m ⟨Γ, σ'⟩ ⟨hΓ, K', above', M', wl', hl', rfl, H'⟩
  dsimp only at hΓ K' H'
  subst hΓ
  obtain ⟨hM, hb896⟩ := H'.bnd (by exact o267 hpos hl')
  have hl7 := H'.len
  obtain ⟨ws, hws, hwl, hwr⟩ := H'.wt
  obtain ⟨kn, hkn, hkr, hkb⟩ := H'.kn
  refine Is.cmp rfl (Ev.b (nblen hK) (Evs.one (Ev.at lself H'.i H'.d (pa452_waiting hK) rfl (Bi.lenL hws (by simp; exact o268 hb896 hwl hkb) (Ev.intC (Cop.gtI ?_))))))
  rcases List.eq_nil_or_concat ws with rfl | ⟨ws', x, rfl⟩
  · rw [if_neg (by simp)]
    exact Exs.nil ⟨rfl, K', above', M', wl', hl', H'⟩
  rw [if_pos (by simp)]
  rw [List.concat_eq_append] at hws hwl hwr
  have hx := hwr x (by simp)
  obtain ⟨k, rfl⟩ := Int.eq_ofNat_of_zero_le hx.1
  simp only [List.length_append, List.length_singleton] at hwl
  have H1 := H'.setWt (ws := ws') (s' := 1) (fun x hx => hwr x (by simp [hx])) (by omega)
  refine Exs.cons (Ex.drop (Ev.mth lself H'.i H'.d (pm452_look_at hK) (fk369 hK) (Evs.one (Ev.lm PySem.F.slot_list_pop PySem.F.type_list_pop (Ev.at lself H'.i H'.d (pa452_waiting hK) rfl ⟨31, _, rfl, hws, Evs.nil (Bi.pop (vs := ws'.map .int) (v := .int k) (by dsimp only; rw [hws]; simp) (by simp; exact o269 hb896 hkb hwl) (Bi.of_fn ((h_look_at hK R' H1 ht (by exact o270 hx)).mA3 fun σ4 K4 ⟨a4, M4, wl4, e4, e5, H4⟩ => ?_)))⟩)))))
  have K5 : Keep XHs σ σ4 := K'.trans ((Keep.refl.set (.inl (.inl (by decide)))).trans K4)
  refine ⟨.inl rfl, Exs.nil ⟨wl4 + 897 * (8 - M4), ?_, rfl, K5, a4, M4, wl4, e4.trans hl', rfl, H4⟩⟩
  have b4 := (H4.bnd (by exact o271 hx e4)).1
  rcases e5 with ⟨q1, q2⟩ | ⟨q1, q2⟩ <;> (first | exact o272 hwl q1 q2 | exact o273 hl7 hwl e4 b4 q1 q2 | omega)

theorem h_merge {W : Wd} (hK : WK W) {A : Around} {n : Nat} (R : Room A (n + 4)) {σ : Sto} {ns above M t wl} (H : Hs ns above M t wl 0 σ) (ht : t ≤ 90) {a b : Int} (ha0 : 0 ≤ a) (ha : a < above.length) (hb0 : 0 ≤ b) (hb : b < above.length) (rv : V) :
    Fn W A (.ref 390) [.ref 10, .int a, .int b, rv] σ fun v σ' => An3 (∃ c, v = .bool c) (Keep XHs σ σ') (Sm3 fun above' M' wl' => above'.length = above.length ∧ Hs ns above' M' (t + 1) wl' 0 σ') := by
  refine Fn.body ["self", "a", "b", "reason"] R (by rw [hK.k]; rfl) (by rw [hK.k]; rfl) rfl rfl rfl rfl (bind4 fun _ _ _ _ => rfl) rfl (by decide) (by intro n; rfl) rfl rfl rfl fun Lc A' R' => ?_
  obtain ⟨L, U⟩ := H.U
  obtain ⟨ra, fa, _⟩ := Fd.ex U.ok ha0 ha
  obtain ⟨rb, fb, _⟩ := Fd.ex U.ok hb0 hb
  refine Exs.cons (Ex.ret (Ev.mth rfl H.i H.d (pm452_join hK) (fk397 hK) (Evs.three (Ev.name rfl (Ev.name rfl (Ev.name rfl (Bi.of_fn ((h_join hK R' H ht ha0 ha hb0 hb fa fb rv).mono fun v σ' ⟨c, K, h⟩ => ?_))))))))
  refine ⟨c, K, ?_⟩
  rcases h with ⟨_, H2⟩ | ⟨_, a2, w2, e, _, H2⟩
  · exact ⟨above, M, wl, rfl, H2⟩
  · refine ⟨a2, M + 1, w2, e, ?_⟩
    obtain ⟨a, b, B, U, e, ⟨es, f1, f2⟩, fs, kn, ws, ab⟩ := H2
    exact ⟨a, b, B, U, e, ⟨es, f1, by exact o274 f2⟩, fs, kn, ws, ab⟩
end Mine

open PySem PySem.W PyProof.Rows PySem.SeqAt PySem.Calls
set_option Elab.async false
set_option maxRecDepth 100000
set_option linter.unusedVariables false
set_option pp.maxSteps 600
set_option pp.deepTerms false
namespace Mine



theorem root_app {above : List Int} (ok : ∀ (i : Nat) (x : Int), above[i]? = some x → 0 ≤ x ∧ x ≤ i) {r : Int} (h : IsRoot (above ++ [(above.length : Int)]) r) : r = above.length ∨ IsRoot above r := by
  obtain ⟨h0, h1⟩ := h
  rcases Nat.lt_trichotomy r.toNat above.length with q | q | q
  · rw [List.getElem?_append_left q] at h1; exact .inr ⟨h0, h1⟩
  · left; exact o275 h0 q
  · rw [List.getElem?_eq_none (by simp; exact o276 q)] at h1; cases h1

theorem h_add {W : Wd} (hK : WK W) {A : Around} {n : Nat} (R : Room A (n + 5)) {σ : Sto} {ns above M t wl} (H : Hs ns above M t wl 0 σ) (ht : t ≤ 90) (hl : ns.length < 7) {op : Str} {c : Nat} (hx : OpOk op c) {ks : List Int} (hk : ∀ x ∈ ks, 0 ≤ x ∧ x < ns.length) (hk2 : ks.length ≤ 2) :
    Fn W A (.ref 357) [.ref 10, .str op, .tup (ks.map .int)] σ fun v σ' => An3 (∃ r : Int, v = .int r) (Keep XHs σ σ') (Sm4 fun ns' above' M' wl' => An4 (0 < ns'.length) (ns.length ≤ ns'.length) (ns'.length ≤ ns.length + 1) (Hs ns' above' M' t wl' 0 σ')) := by
  refine Fn.body ["self", "op", "numbers"] R (by rw [hK.k]; rfl) (by rw [hK.k]; rfl) rfl rfl rfl rfl (bind3 fun _ _ _ => rfl) rfl (by decide) (by intro n; rfl) rfl rfl rfl fun Lc A' R' => ?_
  obtain ⟨L, U⟩ := H.U
  have heq := H.eq
  refine Exs.cons (Ex.assign (Ev.mth2 rfl H.i H.d (pa452_bank hK) rfl H.B.i H.B.d (pm240_take hK) (fk164 hK) (Evs.two (Ev.name rfl (Ev.name rfl (Bi.of_fn ((b_take hK (R'.less (by exact o277 : n + 3 ≤ n + 4)) H.B hx hk hk2 hl).mono fun v σ1 h1 => As.local ?_)))))))
  rcases h1 with ⟨r, rfl, r0, r1, K1⟩ | ⟨rfl, B1, K1⟩
  · have H1 := H.keep K1
    obtain ⟨L1, U1⟩ := H1.U
    refine Exs.cons (Ex.iff (Is.cmp rfl (Ev.name lookup_setG_self (Ev.mth2 (lkS rfl) H1.i H1.d (pa452_unions hK) rfl U1.i U1.d (pm322_size hK) (fk272 hK) (Evs.nil (Bi.of_fn ((u_size hK R' U1.toUA).mB ?_)))))))
    refine Cop.ltI ?_
    rw [if_pos (by simp; exact o278 heq r1)]
    exact Exs.cons (Ex.ret (Ev.name lookup_setG_self ⟨⟨r, rfl⟩, K1.mono fun i h => h.elim, ns, above, M, wl, by exact o212 r0 r1, by exact o279, by exact o125, H1⟩))
  have lo1 : ∀ i, i < 1000 → ¬ (20 ≤ i ∧ i ≤ 23) → σ1 i = σ i := fun i hi n => K1 i (.inl hi) n
  have U1 : Un above M L σ1 := U.keep' (lo1 _ (by decide) (by decide)) (lo1 _ (by decide) (by decide)) fun i hi => lo1 i (by exact o202 hi) (by exact o280 hi)
  have i1 := (lo1 10 (by decide) (by decide)).trans H.i
  have d1 := (lo1 11 (by decide) (by decide)).trans H.d
  refine Exs.cons (Ex.iff (Is.cmp rfl (Ev.name lookup_setG_self (Ev.mth2 (lkS rfl) i1 d1 (pa452_unions hK) rfl U1.i U1.d (pm322_size hK) (fk272 hK) (Evs.nil (Bi.of_fn ((u_size hK R' U1.toUA).mB ?_)))))))
  refine Cop.ltI ?_
  rw [if_neg (by simp; exact o31 heq)]
  refine Exs.nil (Exs.cons (Ex.drop (Ev.mth2 (lkS rfl) i1 d1 (pa452_unions hK) rfl U1.i U1.d (pm322_make hK) (fk265 hK) (Evs.nil (Bi.of_fn ((u_make hK R' U1 (by exact o281 hl heq)).mA3 fun σ3 ⟨L3, U3⟩ K3 => ?_))))))
  refine ⟨.inr (.inr ⟨_, rfl⟩), ?_⟩
  have lo3 : ∀ i, i < 1000 → ¬ (20 ≤ i ∧ i ≤ 26) → ¬ (100 ≤ i ∧ i < 150) → σ3 i = σ i := fun i hi n m => by
    rw [K3 i (.inl hi) (by unfold XUn; exact o282 n m), lo1 i hi (by exact o283 n)]
  have hi3 : ∀ j, 1000 ≤ j → σ j ≠ none → σ3 j = σ j := fun j hj hn => by
    have e1 := K1 j (.inr hn) (by unfold XBk; exact o284 hj)
    rw [K3 j (.inr (by rw [e1]; exact hn)) (by unfold XUn; exact o219 hj), e1]
  have B3 : Bk (ns ++ [(op, ks)]) σ3 := B1.keep' (K3 _ (.inl (by decide)) (by unfold XUn; decide)) (K3 _ (.inl (by decide)) (by unfold XUn; decide)) fun i a b => K3 i (.inl (by exact o215 b)) (by unfold XUn; exact o285 b)
  obtain ⟨kvs, hab, habl, habr⟩ := H.ab
  have i3 := (lo3 10 (by decide) (by decide) (by decide)).trans H.i
  have d3 := (lo3 11 (by decide) (by decide) (by decide)).trans H.d
  have ab3 := (lo3 30 (by decide) (by decide) (by decide)).trans hab
  have hM8 : M ≤ 8 := by
    rcases Nat.eq_zero_or_pos above.length with q | q
    · have := U.cnt; exact o286 q this
    · have := U.mLt q; exact o287 hl heq this
  refine Exs.fin fun N hN hfr => ?_
  refine Exs.cons (Ex.assign (Ev.list N (Evs.nil ⟨by simp, hfr N (Nat.le_refl _), As.sub (Ev.at (lkS rfl) ((setS_ne (by exact o233 hN)).trans i3) ((setS_ne (by exact o234 hN)).trans d3) (pa452_above hK) rfl (Ev.name lookup_setG_self (Sop.idict ((setS_ne (by exact o232 hN)).trans ab3) (by exact o288 hl heq habl hM8) ?_)))⟩)))
  refine Exs.hide fun σ4 h4 => ?_
  have k4 : ∀ i, i ≠ 30 → i ≠ N → σ4 i = σ3 i := fun i a b => by rw [h4]; dsimp only; rw [setS_ne a, setS_ne b]
  have a4 : σ4 30 = some (.idict (storedV kvs (ns.length : Int) (.ref N))) := by rw [h4]; dsimp only; rw [setS_eq]
  have n4 : σ4 N = some (.list []) := by rw [h4]; dsimp only; rw [setS_ne (by exact o230 hN), setS_eq]
  clear h4
  have len1 : (above ++ [(above.length : Int)]).length = above.length + 1 := by simp
  have U4 : Un (above ++ [(above.length : Int)]) M L3 σ4 := U3.keep' (k4 _ (by decide) (by exact o289 hN)) (k4 _ (by decide) (by exact o290 hN)) fun i hi => k4 i (by exact o248 hi) (by exact o291 hN hi)
  have B4 : Bk (ns ++ [(op, ks)]) σ4 := B3.keep' (k4 _ (by decide) (by exact o158 hN)) (k4 _ (by decide) (by exact o159 hN)) fun i a b => k4 i (by exact o292 b) (by exact o293 hN b)
  have i4 := (k4 10 (by decide) (by exact o233 hN)).trans i3
  have d4 := (k4 11 (by decide) (by exact o234 hN)).trans d3
  have f4 : ∀ i, N < i → σ4 i = none := fun i hi => by rw [k4 i (by exact o294 hN hi) (by exact o177 hi)]; exact hfr i (by exact o47 hi)
  have bgrow : 2 * (above.length + 1) * 2 ^ M ≥ 2 * above.length * 2 ^ M + 2 := by
    have : 1 ≤ 2 ^ M := Nat.one_le_pow _ _ (by decide)
    have e : 2 * (above.length + 1) * 2 ^ M = 2 * above.length * 2 ^ M + 2 * 2 ^ M := by rw [Nat.mul_add, Nat.add_mul]
    exact o295 this e
  have b896 : 2 * above.length * 2 ^ M ≤ 896 := by
    rcases Nat.eq_zero_or_pos above.length with q | q
    · simp [q]
    · exact (H.bnd q).2
  /- the state of the lists behind m turns -/
  let AB : Nat → Sto → Prop := fun m τ => ∀ r, IsRoot (above ++ [(above.length : Int)]) r → ∃ (j : Nat) (l : List Int), atV (storedV kvs (ns.length : Int) (.ref N)) r = some (.ref j) ∧ 1000 ≤ j ∧ j ≤ N ∧ τ j = some (.list (l.map .int)) ∧ (∀ x ∈ l, 0 ≤ x ∧ x < above.length + 1) ∧ l.length ≤ 2 * above.length * 2 ^ M + m
  have AB0 : AB 0 σ4 := fun r hr => by
    rw [atV_storedV]
    by_cases q : r = (ns.length : Int)
    · rw [if_pos q]
      exact ⟨N, [], rfl, hN, Nat.le_refl _, n4, by simp, by simp⟩
    · rw [if_neg q]
      rcases root_app U.ok hr with h | h
      · exact absurd (h.trans (by rw [heq])) q
      · obtain ⟨j, l, c1, c2, c3, c4, c5⟩ := habr r h
        have cn : σ j ≠ none := by rw [c3]; exact fun z => nomatch z
        have e3 := hi3 j c2 cn
        have jN : j < N := Nat.lt_of_not_le fun q => cn (by rw [← e3]; exact hfr j q)
        exact ⟨j, l, c1, c2, by exact o47 jN, by rw [k4 j (by exact o230 c2) (by exact o296 jN), e3]; exact c3, fun x hx => by have := c4 x hx; exact o297 this, by omega⟩
  have lself : ∀ {Γ : List (Str × V)} , Γ.lookup ("self" : Str) = Γ.lookup ("self" : Str) := fun {Γ} => rfl
  have hzu := U4.len
  generalize hΓ1 : setG ((["self", "op", "numbers"] : List Str).zip [V.ref 10, V.str op, .tup (ks.map .int)]) "n" (.int ns.length) = Γ1
  have gs : ∀ {Γ}, Γeq ["c"] Γ1 Γ → Γ.lookup ("self" : Str) = some (.ref 10) := fun h => h.at (by rw [← hΓ1]; rfl)
  have gn : ∀ {Γ}, Γeq ["c"] Γ1 Γ → Γ.lookup ("n" : Str) = some (.int ns.length) := fun h => h.at (by rw [← hΓ1]; rfl)
  have gm : Γ1.lookup ("numbers" : Str) = some (.tup (ks.map .int)) := by rw [← hΓ1]; rfl
  show Exs W _ A' _ ⟨Γ1, σ4⟩ _
  refine Exs.cons (Ex.for R'.handled (Ev.sortedSetI R'.handled (N + 2) (nbsorted hK) (nbset hK) rfl (T := Ev.cmap R'.handled (N + 1) (fun m w => ∃ x : Int, w = .int x ∧ IsRoot (above ++ [(above.length : Int)]) x) (Ev.name gm ⟨f4 _ (by exact o67), ks.map .int, rfl, by simp; exact o151 hk2, fun m y out C hy => ?_, fun out hol hP => ?_⟩))))
  · rw [List.getElem?_map, Option.map_eq_some_iff] at hy
    obtain ⟨kd, hkd, rfl⟩ := hy
    have hr := hk kd (List.mem_of_getElem? hkd)
    have st4 : ∀ i, i ≠ N + 1 → setS σ4 (N + 1) (.list out) i = σ4 i := fun i hi => setS_ne hi
    have U5 : Un (above ++ [(above.length : Int)]) M L3 (setS σ4 (N + 1) (.list out)) := U4.keep fun i hi => st4 i (by exact o127 hN hi)
    refine Ev.mth (f := 376) (lkS (by rw [compΓ_lookup]; exact gs .refl)) ((st4 10 (by exact o298 hN)).trans i4) ((st4 11 (by exact o299 hN)).trans d4) (pm452_find hK) (fk376 hK) (Evs.one (Ev.name lookup_setG_self (Bi.of_fn (Fn.body (n := n + 3) ["self", "n"] R' (by rw [hK.k]; rfl) (by rw [hK.k]; rfl) rfl rfl rfl rfl (bind2 fun _ _ => rfl) rfl (by decide) (by intro n; rfl) rfl rfl rfl fun Lc2 A2 R2 => ?_))))
    refine Exs.cons (Ex.ret (Ev.mth2 rfl ((st4 10 (by exact o298 hN)).trans i4) ((st4 11 (by exact o299 hN)).trans d4) (pa452_unions hK) rfl U5.i U5.d (pm322_find hK) (fk279 hK) (Evs.one (Ev.name rfl (Bi.of_fn ((u_find hK R2 U5.toUA hr.1 (by exact o300 heq len1 hr)).mD3 fun r hr hf => ?_))))))
    exact ⟨rfl, r, rfl, hr⟩
  obtain ⟨is, rfl⟩ := intsOf fun w hw => by
    obtain ⟨m, hm⟩ := List.getElem?_of_mem hw
    obtain ⟨x, e, _⟩ := hP m w hm
    exact ⟨x, e⟩
  simp only [List.length_map] at hol
  have hroot : ∀ x ∈ is, IsRoot (above ++ [(above.length : Int)]) x := fun x hx => by
    obtain ⟨m, hm⟩ := List.getElem?_of_mem hx
    obtain ⟨y, e, h⟩ := hP m (.int x) (by simp [hm])
    cases e; exact h
  refine ⟨is, .inl ⟨N + 1, rfl, setS_eq⟩, by exact o301 hk2 hol, (setS_ne (by exact o183)).trans (f4 _ (by exact o184)), fun rs hmem hrl _ => ?_⟩
  refine ⟨rs.map .int, fun m st => An4 (Γeq ["c"] Γ1 st.Γ) (∀ i, i < 1000 → st.σ i = σ4 i) (st.σ (N + 2) = some (.list (rs.map .int))) (AB m st.σ), .inl setS_eq, ⟨.refl, fun i hi => ?_, setS_eq, fun r hr => ?_⟩, fun m st' ⟨_, _, h, _⟩ i e => ?_, fun m y st' hy ⟨hΓ, lo5, s5, ab5⟩ => ?_, fun st' ⟨hΓ, lo5, s5, ab5⟩ => ?_⟩
  · dsimp only; rw [setS_ne (by exact o192 hN hi), setS_ne (by exact o127 hN hi)]
  · obtain ⟨j, l, c1, c2, c3, c4, c5⟩ := AB0 r hr
    exact ⟨j, l, c1, c2, c3, by dsimp only; rw [setS_ne (by exact o302 c3), setS_ne (by exact o303 c3)]; exact c4, c5⟩
  · cases e
    rw [h]; exact setS_eq.symm
  · obtain ⟨Γ, τ⟩ := st'
    dsimp only at hΓ lo5 s5 ab5
    rw [List.getElem?_map, Option.map_eq_some_iff] at hy
    obtain ⟨r, hr, rfl⟩ := hy
    have hm : m < rs.length := by
      rcases Nat.lt_or_ge m rs.length with z | z
      · exact z
      · rw [List.getElem?_eq_none z] at hr; cases hr
    have hrr := hroot r ((hmem r).mp (List.mem_of_getElem? hr))
    obtain ⟨j, l, c1, c2, c3, c4, c5, c6⟩ := ab5 r hrr
    refine As.local (Exs.cons (Ex.drop (Ev.lm PySem.F.slot_list_append PySem.F.type_list_append (Ev.sub (Ev.at (lkS (gs hΓ)) ((lo5 10 (by decide)).trans i4) ((lo5 11 (by decide)).trans d4) (pa452_above hK) rfl (Ev.name lookup_setG_self (Gop.idict ((lo5 30 (by decide)).trans a4) c1 ⟨j, _, rfl, c4, Evs.one (Ev.name (lkS (gn hΓ)) (Bi.append c4 (by simp; exact o304 hk2 b896 hol hrl hm c6) ⟨.inl rfl, Exs.nil ⟨hΓ.set rfl, fun i hi => ?_, ?_, fun r' hr' => ?_⟩⟩))⟩)))))))
    · dsimp only; rw [setS_ne (by exact o126 c2 hi)]; exact lo5 i hi
    · dsimp only; rw [setS_ne (by exact o305 c3)]; exact s5
    · obtain ⟨j', l', e1, e2, e3, e4, e5, e6⟩ := ab5 r' hr'
      by_cases q : j' = j
      · subst q
        rw [c4] at e4
        refine ⟨j', l ++ [(ns.length : Int)], e1, e2, e3, by dsimp only; rw [setS_eq]; simp, fun x hx => ?_, by simp; exact o217 c6⟩
        rcases List.mem_append.mp hx with hx | hx
        · exact c5 x hx
        · simp at hx; subst hx; exact o306 heq
      · exact ⟨j', l', e1, e2, e3, by dsimp only; rw [setS_ne q]; exact e4, e5, by exact o307 e6⟩
  obtain ⟨Γ, τ⟩ := st'
  dsimp only at hΓ lo5 s5 ab5
  obtain ⟨es, hes, hel⟩ := H.edges
  obtain ⟨fs, hfs, hfl⟩ := H.forest
  obtain ⟨kn, hkn, hkr, hkb⟩ := H.kn
  obtain ⟨ws, hws, hwl, hwr⟩ := H.wt
  have lo6 : ∀ i, i < 1000 → ¬ (20 ≤ i ∧ i ≤ 26) → ¬ (100 ≤ i ∧ i < 150) → i ≠ 30 → τ i = σ i := fun i hi n m q => by rw [lo5 i hi, k4 i q (by exact o126 hN hi), lo3 i hi n m]
  have H6 : Hs (ns ++ [(op, ks)]) (above ++ [(above.length : Int)]) M t wl 1 τ := by
    refine ⟨(lo6 _ (by decide) (by decide) (by decide) (by decide)).trans H.i, (lo6 _ (by decide) (by decide) (by decide) (by decide)).trans H.d, B4.keep lo5, ⟨L3, U4.keep lo5⟩, by simp [heq],
      ⟨es, (lo6 _ (by decide) (by decide) (by decide) (by decide)).trans hes, hel⟩, ⟨fs, (lo6 _ (by decide) (by decide) (by decide) (by decide)).trans hfs, hfl⟩,
      ⟨kn, (lo6 _ (by decide) (by decide) (by decide) (by decide)).trans hkn, fun p hp => by have := hkr p hp; rw [len1]; exact o195 this, by rw [len1]; exact o308 bgrow hkb⟩, ⟨ws, (lo6 _ (by decide) (by decide) (by decide) (by decide)).trans hws, hwl, fun x hx => by have := hwr x hx; rw [len1]; exact o195 this⟩,
      ⟨_, (lo5 30 (by decide)).trans a4, ?_, fun r hr => ?_⟩⟩
    · have := storedV_length kvs (ns.length : Int) (.ref N)
      rw [len1]; exact o309 habl this
    · obtain ⟨j, l, c1, c2, c3, c4, c5, c6⟩ := ab5 r hr
      simp only [List.length_map] at c6
      exact ⟨j, l, c1, c2, c4, fun x hx => by have := c5 x hx; rw [len1]; exact o310 this, by rw [len1]; exact o311 hk2 bgrow hol hrl c6⟩
  refine Exs.cons (Ex.drop (Ev.mth (gs hΓ) H6.i H6.d (pm452_look_at hK) (fk369 hK) (Evs.one (Ev.name (gn hΓ) (Bi.of_fn ((h_look_at hK R' H6 ht (by rw [len1]; exact o312 heq)).mA3 fun σ7 K7 ⟨a7, M7, wl7, e7, _, H7⟩ => ?_))))))
  refine ⟨.inl rfl, Exs.cons (Ex.ret (Ev.name (gn hΓ) ⟨⟨_, rfl⟩, fun i hi n => ?_, ns ++ [(op, ks)], a7, M7, wl7, by simp, by simp, by simp, H7⟩))⟩
  have n' := n
  unfold XHs at n
  show σ7 i = σ i
  rw [K7 i (.inl (by exact o235 n)) n', lo6 i (by exact o235 n) (by exact o313 n) (by exact o314 n) (by exact o236 n)]
end Mine

open PySem PySem.W PyProof.Rows PySem.SeqAt PySem.Calls
set_option Elab.async false
set_option maxRecDepth 100000
set_option linter.unusedVariables false
set_option pp.maxSteps 600
set_option pp.deepTerms false
namespace Mine



theorem sn (σ : Sto) (i : Nat) (o : AObj) {j : Nat} {x : Option AObj} (h : σ j = x) (n : j ≠ i := by omega) : setS σ i o j = x := (setS_ne n).trans h
theorem h_put {W : Wd} (hK : WK W) {A : Around} {n : Nat} (R : Room A (n + 6)) {σ : Sto} {ns above M t wl} (H : Hs ns above M t wl 0 σ) (ht : t ≤ 90) (hl : ns.length < 7) {op : Str} {c : Nat} (hx : OpOk op c) :
    Fn W A (.ref 362) [.ref 10, .tup [.str op]] σ fun v σ' => An3 (∃ r : Int, v = .int r) (Keep XHs σ σ') (Sm4 fun ns' above' M' wl' => An4 (0 < ns'.length) (ns.length ≤ ns'.length) (ns'.length ≤ ns.length + 1) (Hs ns' above' M' t wl' 0 σ')) := by
  refine Fn.fin fun N hN hfr => ?_
  refine Fn.body ["self", "term"] R (by rw [hK.k]; rfl) (by rw [hK.k]; rfl) rfl rfl rfl rfl (bind2 fun _ _ => rfl) rfl (by decide) (by intro n; rfl) rfl rfl rfl fun Lc A' R' => ?_
  have K1 : ∀ o, Keep XHs σ (setS σ N o) := fun o => Keep.refl.set (.inr ⟨hN, hfr N (Nat.le_refl _)⟩)
  have K0 : ∀ o, Keep (fun _ => False) σ (setS σ N o) := fun o => Keep.refl.set (.inr ⟨hN, hfr N (Nat.le_refl _)⟩)
  refine Exs.cons (Ex.ret (Ev.mth rfl H.i H.d (pm452_add hK) (fk357 hK) (Evs.two (Ev.sub (Ev.name rfl (Ev.intC (Gop.tup (v := .str op) (by decide) rfl (by simp) (Ev.b (nbtuple hK) (Evs.one (Ev.cmap R'.handled N (fun m w => False) (Ev.tail (Ev.name rfl ⟨.str op, [], rfl, by simp, hfr N (Nat.le_refl _), [], rfl, by simp, fun m y out C hy => ?_, fun out hol hP => ?_⟩))))))))))))
  · simp at hy
  · have : out = [] := by simpa using hol
    subst this
    refine Bi.tupleL setS_eq (by simp) (Bi.of_fn ((h_add hK R' (H.keep (K0 _)) ht hl hx (ks := []) (by simp) (by simp)).mono fun v σ' ⟨hv, K, r⟩ => ⟨hv, (K1 _).trans K, r⟩))

theorem h_nodes_of {W : Wd} (hK : WK W) {A : Around} {n : Nat} (R : Room A (n + 4)) {σ : Sto} {ns above M t wl s} (H : Hs ns above M t wl s σ) {a : Int} (h0 : 0 ≤ a) (ha : a < above.length) (j : Nat) (hj : σ j = none) :
    Fn W A (.ref 430) [.ref 10, .int a] σ fun v σ' => v = .ref j ∧ ∃ nds : List Node, An4 (σ' = setS σ j (.list (nds.map nodeV))) (nds ≠ []) (nds.length ≤ 7) (∀ nd ∈ nds, nd.2.length ≤ 2 ∧ ∀ x ∈ nd.2, 0 ≤ x ∧ x < above.length) := by
  have rfn : ∀ l : List Node, V.refsL (l.map nodeV) = [] := fun l => by
    induction l with
    | nil => rfl
    | cons a b ih =>
      have : (nodeV a).refs = [] := by rw [nodeV, V.refs, V.refsL, refsInts]; rfl
      simp only [List.map_cons, V.refsL, this, ih]; rfl
  refine (Fn.new (P := fun o => ∃ nds : List Node, An4 (o = .list (nds.map nodeV)) (nds ≠ []) (nds.length ≤ 7) (∀ nd ∈ nds, nd.2.length ≤ 2 ∧ ∀ x ∈ nd.2, 0 ≤ x ∧ x < above.length)) j ?_).mono fun v σ' ⟨e, o, e2, ms, e3, r, r2, r3⟩ => ⟨e, ms, e3 ▸ e2, r, r2, r3⟩
  refine Fn.fin fun N0 hN0 hfr0 => ?_
  obtain ⟨N, hN, hfr, hjN⟩ : ∃ N, An3 (1000 ≤ N) (∀ i, N ≤ i → σ i = none) (j < N) := ⟨max N0 (j + 1), by exact o315 hN0, fun i hi => hfr0 i (by exact o2 hi), by exact o316⟩
  refine Fn.body ["self", "c"] R (by rw [hK.k]; rfl) (by rw [hK.k]; rfl) rfl rfl rfl rfl (bind2 fun _ _ => rfl) rfl (by decide) (by intro n; rfl) rfl rfl rfl fun Lc A' R' => ?_
  have hl := H.len
  refine Exs.cons (Ex.ret (Ev.sortedSetN R'.handled R'.units' j (nbsorted hK) (nbset hK) rfl (T := Ev.cmap R'.handled (N + 1) (fun m w => ∃ nd : Node, An3 (w = nodeV nd) (nd.2.length ≤ 2) (∀ x ∈ nd.2, 0 ≤ x ∧ x < above.length)) (Ev.mth rfl H.i H.d (pm452_members hK) (fk425 hK) (Evs.one (Ev.name rfl (Bi.of_fn ((h_members hK R' H h0 ha N (hfr N (Nat.le_refl _))).mA2 fun σ1 ⟨ms, e1, hne, hml, hmr⟩ => ?_))))))))
  subst e1
  refine ⟨(setS_ne (by exact o124)).trans (hfr _ (by exact o125)), ms.map .int, .inl setS_eq, by simp; exact o317 hl hml, fun m y out C hy => ?_, fun out hol hP => ?_⟩
  · rw [List.getElem?_map, Option.map_eq_some_iff] at hy
    obtain ⟨kd, hkd, rfl⟩ := hy
    have hr := hmr kd (List.mem_of_getElem? hkd)
    obtain ⟨k, rfl⟩ := Int.eq_ofNat_of_zero_le hr.1
    have H2 : Hs ns above M t wl s (setS (setS σ N (.list (ms.map .int))) (N + 1) (.list out)) := H.keep ((Keep.refl.set (.inr ⟨hN, hfr N (Nat.le_refl _)⟩)).set (.inr ⟨by exact o318 hN, hfr _ (by exact o125)⟩))
    refine Ev.mth (lkS rfl) H2.i H2.d (pm452_node hK) (fk352 hK) (Evs.one (Ev.name lookup_setG_self (Bi.of_fn ((h_node hK R' H2 (by exact o270 hr)).mD3 fun nd h1 h2 => ?_))))
    exact ⟨rfl, nd, rfl, h1, h2⟩
  · obtain ⟨nds, rfl⟩ : ∃ nds : List Node, out = nds.map nodeV := by
      have : ∀ w ∈ out, ∃ nd : Node, w = nodeV nd := fun w hw => by
        obtain ⟨m, hm⟩ := List.getElem?_of_mem hw
        obtain ⟨x, e, _⟩ := hP m w hm
        exact ⟨x, e⟩
      clear hol hP
      induction out with
      | nil => exact ⟨[], rfl⟩
      | cons a b ih =>
        obtain ⟨nd, rfl⟩ := this a (by simp)
        obtain ⟨is, rfl⟩ := ih fun w hw => this w (by simp [hw])
        exact ⟨nd :: is, rfl⟩
    simp only [List.length_map] at hol
    have hP' : ∀ nd ∈ nds, nd.2.length ≤ 2 ∧ ∀ x ∈ nd.2, 0 ≤ x ∧ x < above.length := fun nd hnd => by
      obtain ⟨m, hm⟩ := List.getElem?_of_mem hnd
      obtain ⟨x, e, h, h'⟩ := hP m (nodeV nd) (by simp [hm])
      have : nd.2 = x.2 := by
        have e' : V.str nd.1 :: nd.2.map V.int = V.str x.1 :: x.2.map V.int := V.tup.inj e
        have e2 : nd.2.map V.int = x.2.map V.int := (List.cons.inj e').2
        exact List.map_inj_right (f := V.int) (fun a b h => by cases h; rfl) |>.mp e2
      rw [this]; exact ⟨h, h'⟩
    refine ⟨N + 1, nds, rfl, setS_eq, by exact o319 hl hml hol, by dsimp only; rw [setS_ne (by exact o199 hjN), setS_ne (by exact o296 hjN)]; exact hj, fun rs hmem hrl => ⟨fun i hi => ?_, rfl, hj, _, setS_eq, rfn rs, rs, rfl, fun q => ?_, by exact o320 hl hml hol hrl, fun nd hnd => hP' nd ((hmem nd).mp hnd)⟩⟩
    · have n1 : i ≠ j := fun q => hi (q ▸ hj)
      have n2 : i ≠ N := fun q => hi (hfr i (by exact o31 q))
      have n3 : i ≠ N + 1 := fun q => hi (hfr i (by exact o128 q))
      dsimp only; rw [setS_ne n1, setS_ne n3, setS_ne n2]
    · subst q
      rcases nds with _ | ⟨a, b⟩
      · simp at hol; exact hne (List.length_eq_zero_iff.mp hol.symm)
      · have := (hmem a).mpr (by simp); simp at this

theorem h_init {W : Wd} (hK : WK W) {A : Around} {n : Nat} (R : Room A (n + 3)) {σ : Sto} (hi : σ 10 = some (.inst 452 (some 11))) (hd : σ 11 = some (.sdict [])) (hf : ∀ i, 12 ≤ i → i < 150 → σ i = none) :
    Fn W A (.ref 340) [.ref 10] σ fun v σ' => An3 (v = .none) (Hs [] [] 0 0 0 0 σ') (Keep (fun i => 11 ≤ i ∧ i < 150) σ σ') := by
  refine Fn.body ["self"] R (by rw [hK.k]; rfl) (by rw [hK.k]; rfl) rfl rfl rfl rfl (bind1 fun _ => rfl) rfl (by decide) (by intro n; rfl) rfl rfl rfl fun L A' R' => ?_
  refine Exs.cons (Ex.assign (Ev.callCls (nmBank hK) (mk240 hK) (Evs.nil (Bi.make 12 13 (mk240 hK) (in240 hK) (ty240 hK) (hf _ (by decide) (by decide)) (hf _ (by decide) (by decide)) (by decide) fun us => (b_init hK R'.make setS_eq ((setS_ne (by decide)).trans setS_eq) ?_ ?_ ?_ ?_).mono fun v σ1 ⟨hv, B1, K1⟩ => ⟨hv, ?_⟩))))
  · rw [setS_ne (by decide), setS_ne (by decide)]; exact hf _ (by decide) (by decide)
  · rw [setS_ne (by decide), setS_ne (by decide)]; exact hf _ (by decide) (by decide)
  · rw [setS_ne (by decide), setS_ne (by decide)]; exact hf _ (by decide) (by decide)
  · rw [setS_ne (by decide), setS_ne (by decide)]; exact hf _ (by decide) (by decide)
  have lo1 : ∀ i, i < 1000 → ¬ (12 ≤ i ∧ i ≤ 13) → ¬ (20 ≤ i ∧ i ≤ 23) → σ1 i = σ i := fun i a b c => by
    rw [K1 i (.inl a) (by unfold XBk; exact o321 b c), setS_ne (by exact o322 b), setS_ne (by exact o323 b)]
  have hk1 : ∀ i, 1000 ≤ i → σ i ≠ none → σ1 i = σ i := fun i a b => by
    have e : setS (setS σ 13 (.sdict [])) 12 (.inst 240 (some 13)) i = σ i := by rw [setS_ne (by exact o324 a), setS_ne (by exact o325 a)]
    rw [K1 i (.inr (by rw [e]; exact b)) (by unfold XBk; exact o326 a), e]
  clear K1
  refine As.attr (Ev.name rfl ⟨10, 452, 11, [], rfl, (lo1 10 (by decide) (by decide) (by decide)).trans hi, (lo1 11 (by decide) (by decide) (by decide)).trans hd, by simp, pa452_bank hK, ?_⟩)
  refine Exs.hide fun σ2 h2 => ?_
  have lo2 : ∀ i, i ≠ 11 → σ2 i = σ1 i := fun i a => by rw [h2]; dsimp only; rw [setS_ne a]
  have d2 : σ2 11 = some (.sdict (storedV [] "bank" (.ref 12))) := by rw [h2]; dsimp only; rw [setS_eq]
  clear h2
  have em2 : ∀ i, 14 ≤ i → i < 150 → ¬ (20 ≤ i ∧ i ≤ 23) → σ2 i = none := fun i a b c => by rw [lo2 i (by exact o327 a), lo1 i (by exact o328 b) (by exact o329 a) c]; exact hf i (by exact o330 a) b
  refine Exs.cons (Ex.assign (Ev.callCls (nmUnions hK) (mk322 hK) (Evs.nil (Bi.make 14 15 (mk322 hK) (in322 hK) (ty322 hK) (em2 _ (by decide) (by decide) (by decide)) (em2 _ (by decide) (by decide) (by decide)) (by decide) fun us => (u_init hK R'.make setS_eq ((setS_ne (by decide)).trans setS_eq) ?_ ?_ ?_ ?_).mono fun v σ3 ⟨hv, U3, K3⟩ => ⟨hv, ?_⟩))))
  · rw [setS_ne (by decide), setS_ne (by decide)]; exact em2 _ (by decide) (by decide) (by decide)
  · rw [setS_ne (by decide), setS_ne (by decide)]; exact em2 _ (by decide) (by decide) (by decide)
  · rw [setS_ne (by decide), setS_ne (by decide)]; exact em2 _ (by decide) (by decide) (by decide)
  · intro k hk; rw [setS_ne (by exact o331), setS_ne (by exact o82)]; exact em2 _ (by exact o332) (by exact o333 hk) (by exact o334)
  have lo3 : ∀ i, i < 1000 → ¬ (14 ≤ i ∧ i ≤ 15) → ¬ (24 ≤ i ∧ i ≤ 26) → σ3 i = σ2 i := fun i a b c => by
    rw [K3 i (.inl a) (by exact o335 b c), setS_ne (by exact o336 b), setS_ne (by exact o337 b)]
  have hk3 : ∀ i, 1000 ≤ i → σ i ≠ none → σ3 i = σ i := fun i a b => by
    have e : setS (setS σ2 15 (.sdict [])) 14 (.inst 322 (some 15)) i = σ i := by rw [setS_ne (by exact o338 a), setS_ne (by exact o339 a), lo2 i (by exact o340 a), hk1 i a b]
    rw [K3 i (.inr (by rw [e]; exact b)) (by exact o341 a), e]
  clear K3
  have B2 : Bk [] σ2 := B1.keep' (lo2 _ (by decide)) (lo2 _ (by decide)) fun i a b => lo2 i (by exact o342 a)
  have B3 : Bk [] σ3 := B2.keep' (lo3 _ (by decide) (by decide) (by decide)) (lo3 _ (by decide) (by decide) (by decide)) fun i a b => lo3 i (by exact o215 b) (by exact o343 a) (by exact o344 b)
  have i2 : σ2 10 = some (.inst 452 (some 11)) := (lo2 10 (by decide)).trans ((lo1 10 (by decide) (by decide) (by decide)).trans hi)
  have i3 : σ3 10 = some (.inst 452 (some 11)) := (lo3 10 (by decide) (by decide) (by decide)).trans i2
  have em3 : ∀ i, 27 ≤ i → i < 100 → σ3 i = none := fun i a b => by rw [lo3 i (by exact o345 b) (by exact o346 a) (by exact o347 a)]; exact em2 i (by exact o348 a) (by exact o349 b) (by exact o350 a)
  refine As.attr (Ev.name rfl ⟨10, 452, 11, _, rfl, i3, (lo3 11 (by decide) (by decide) (by decide)).trans d2, by decide, pa452_unions hK, ?_⟩)
  refine Exs.hide fun σ4 h4 => ?_
  have lo4 : ∀ i, i ≠ 11 → σ4 i = σ3 i := fun i a => by rw [h4]; dsimp only; rw [setS_ne a]
  have d4 : σ4 11 = some (.sdict [("bank", .ref 12), ("unions", .ref 14)]) := by rw [h4]; dsimp only; rw [setS_eq]; rfl
  clear h4
  refine Exs.cons (Ex.assign (Ev.list 27 (Evs.nil ⟨by simp, (lo4 27 (by decide)).trans (em3 _ (by decide) (by decide)), As.attr (Ev.name rfl ⟨10, 452, 11, _, rfl, sn σ4 27 (.list []) ((lo4 10 (by decide)).trans i3), sn σ4 27 (.list []) d4, by decide, pa452_edges hK, ?_⟩)⟩)))
  refine Exs.hide fun σ5 h5 => ?_
  have lo5 : ∀ i, i ≠ 11 → i ≠ 27 → σ5 i = σ3 i := fun i a b => by rw [h5]; dsimp only; rw [setS_ne a, setS_ne b, lo4 i a]
  have d5 : σ5 11 = some (.sdict [("bank", .ref 12), ("unions", .ref 14), ("edges", .ref 27)]) := by rw [h5]; dsimp only; rw [setS_eq]; rfl
  have e5 : σ5 27 = some (.list []) := by rw [h5]; dsimp only; rw [setS_ne (by decide), setS_eq]
  clear h5
  refine Exs.cons (Ex.assign (Ev.list 28 (Evs.nil ⟨by simp, (lo5 28 (by decide) (by decide)).trans (em3 _ (by decide) (by decide)), As.attr (Ev.name rfl ⟨10, 452, 11, _, rfl, sn σ5 28 (.list []) ((lo5 10 (by decide) (by decide)).trans i3), sn σ5 28 (.list []) d5, by decide, pa452_forest hK, ?_⟩)⟩)))
  refine Exs.hide fun σ6 h6 => ?_
  have lo6 : ∀ i, i ≠ 11 → i ≠ 28 → σ6 i = σ5 i := fun i a b => by rw [h6]; dsimp only; rw [setS_ne a, setS_ne b]
  have d6 : σ6 11 = some (.sdict [("bank", .ref 12), ("unions", .ref 14), ("edges", .ref 27), ("forest", .ref 28)]) := by rw [h6]; dsimp only; rw [setS_eq]; rfl
  have e6 : σ6 28 = some (.list []) := by rw [h6]; dsimp only; rw [setS_ne (by decide), setS_eq]
  clear h6
  have em6 : ∀ i, 29 ≤ i → i < 100 → σ6 i = none := fun i a b => by rw [lo6 i (by exact o351 a) (by exact o352 a), lo5 i (by exact o351 a) (by exact o353 a)]; exact em3 i (by exact o354 a) b
  have i6 : σ6 10 = some (.inst 452 (some 11)) := by rw [lo6 _ (by decide) (by decide), lo5 _ (by decide) (by decide)]; exact i3
  refine Exs.cons (Ex.assign (Ev.dict0T 29 (em6 _ (by decide) (by decide)) (As.attr (Ev.name rfl ⟨10, 452, 11, _, rfl, sn σ6 29 (.tdict []) i6, sn σ6 29 (.tdict []) d6, by decide, pa452_known hK, ?_⟩))))
  refine Exs.hide fun σ7 h7 => ?_
  have lo7 : ∀ i, i ≠ 11 → i ≠ 29 → σ7 i = σ6 i := fun i a b => by rw [h7]; dsimp only; rw [setS_ne a, setS_ne b]
  have d7 : σ7 11 = some (.sdict [("bank", .ref 12), ("unions", .ref 14), ("edges", .ref 27), ("forest", .ref 28), ("known", .ref 29)]) := by rw [h7]; dsimp only; rw [setS_eq]; rfl
  have e7 : σ7 29 = some (.tdict []) := by rw [h7]; dsimp only; rw [setS_ne (by decide), setS_eq]
  clear h7
  refine Exs.cons (Ex.assign (Ev.dict0I 30 ((lo7 30 (by decide) (by decide)).trans (em6 _ (by decide) (by decide))) (As.attr (Ev.name rfl ⟨10, 452, 11, _, rfl, sn σ7 30 (.idict []) ((lo7 10 (by decide) (by decide)).trans i6), sn σ7 30 (.idict []) d7, by decide, pa452_above hK, ?_⟩))))
  refine Exs.hide fun σ8 h8 => ?_
  have lo8 : ∀ i, i ≠ 11 → i ≠ 30 → σ8 i = σ7 i := fun i a b => by rw [h8]; dsimp only; rw [setS_ne a, setS_ne b]
  have d8 : σ8 11 = some (.sdict [("bank", .ref 12), ("unions", .ref 14), ("edges", .ref 27), ("forest", .ref 28), ("known", .ref 29), ("above", .ref 30)]) := by rw [h8]; dsimp only; rw [setS_eq]; rfl
  have e8 : σ8 30 = some (.idict []) := by rw [h8]; dsimp only; rw [setS_ne (by decide), setS_eq]
  clear h8
  have i8 : σ8 10 = some (.inst 452 (some 11)) := by rw [lo8 _ (by decide) (by decide), lo7 _ (by decide) (by decide)]; exact i6
  refine Exs.cons (Ex.assign (Ev.list 31 (Evs.nil ⟨by simp, by dsimp only; rw [lo8 31 (by decide) (by decide), lo7 31 (by decide) (by decide)]; exact em6 _ (by decide) (by decide), As.attr (Ev.name rfl ⟨10, 452, 11, _, rfl, sn σ8 31 (.list []) i8, sn σ8 31 (.list []) d8, by decide, pa452_waiting hK, ?_⟩)⟩)))
  refine Exs.hide fun σ9 h9 => ?_
  have lo9 : ∀ i, i ≠ 11 → i ≠ 31 → σ9 i = σ8 i := fun i a b => by rw [h9]; dsimp only; rw [setS_ne a, setS_ne b]
  have d9 : σ9 11 = some (.sdict [("bank", .ref 12), ("unions", .ref 14), ("edges", .ref 27), ("forest", .ref 28), ("known", .ref 29), ("above", .ref 30), ("waiting", .ref 31)]) := by rw [h9]; dsimp only; rw [setS_eq]; rfl
  have e9 : σ9 31 = some (.list []) := by rw [h9]; dsimp only; rw [setS_ne (by decide), setS_eq]
  clear h9
  refine Exs.cons (Ex.assign (Ev.intC (As.attr (Ev.name rfl ⟨10, 452, 11, _, rfl, (lo9 10 (by decide) (by decide)).trans i8, d9, by decide, pa452_backs hK, ?_⟩))))
  refine Exs.hide fun σA hA => ?_
  have loA : ∀ i, i ≠ 11 → σA i = σ9 i := fun i a => by rw [hA]; dsimp only; rw [setS_ne a]
  have dA : σA 11 = some (.sdict [("bank", .ref 12), ("unions", .ref 14), ("edges", .ref 27), ("forest", .ref 28), ("known", .ref 29), ("above", .ref 30), ("waiting", .ref 31), ("backs", .int 0)]) := by rw [hA]; dsimp only; rw [setS_eq]; rfl
  clear hA
  have all3 : ∀ i, i ≠ 11 → ¬ (27 ≤ i ∧ i ≤ 31) → σA i = σ3 i := fun i a b => by
    rw [loA i a, lo9 i a (by exact o355 b), lo8 i a (by exact o356 b), lo7 i a (by exact o357 b), lo6 i a (by exact o358 b), lo5 i a (by exact o359 b)]
  refine Exs.nil ⟨rfl, ?_, fun i hi n => ?_⟩
  · refine ⟨(all3 10 (by decide) (by decide)).trans i3, dA, B3.keep' (all3 _ (by decide) (by decide)) (all3 _ (by decide) (by decide)) (fun i a b => all3 i (by exact o342 a) (by exact o360 b)), ⟨_, U3.keep' (all3 _ (by decide) (by decide)) (all3 _ (by decide) (by decide)) fun i a => all3 i (by exact o361 a) (by exact o362 a)⟩, rfl, ⟨[], ?_, by simp⟩, ⟨[], ?_, by simp⟩, ⟨[], ?_, by simp, by simp⟩, ⟨[], ?_, rfl, by simp⟩, ⟨[], ?_, by simp, fun r hr => ?_⟩⟩
    · show σA 27 = _
      rw [loA _ (by decide), lo9 _ (by decide) (by decide), lo8 _ (by decide) (by decide), lo7 _ (by decide) (by decide), lo6 _ (by decide) (by decide)]; exact e5
    · show σA 28 = _
      rw [loA _ (by decide), lo9 _ (by decide) (by decide), lo8 _ (by decide) (by decide), lo7 _ (by decide) (by decide)]; exact e6
    · show σA 29 = _
      rw [loA _ (by decide), lo9 _ (by decide) (by decide), lo8 _ (by decide) (by decide)]; exact e7
    · show σA 31 = _
      rw [loA _ (by decide)]; exact e9
    · show σA 30 = _
      rw [loA _ (by decide), lo9 _ (by decide) (by decide)]; exact e8
    · have := hr.lt; have := hr.1; simp at *; (first | exact o363 (by assumption) this | omega)
  · show σA i = σ i
    rcases Nat.lt_or_ge i 1000 with q | q
    · rw [all3 i (by exact o364 n) (by exact o365 n), lo3 i q (by exact o366 n) (by exact o367 n), lo2 i (by exact o364 n), lo1 i q (by exact o368 n) (by exact o369 n)]
    · rw [all3 i (by exact o370 q) (by exact o371 q)]
      exact hk3 i q (hi.resolve_left (by exact o372 q))
end Mine

open PySem PySem.W PyProof.Rows PySem.SeqAt PySem.Calls
set_option Elab.async false
set_option maxRecDepth 100000
set_option linter.unusedVariables false
set_option pp.maxSteps 600
set_option pp.deepTerms false
namespace Mine



def XOut (i : Nat) : Prop := i < 10 ∨ (32 ≤ i ∧ i < 100) ∨ (150 ≤ i ∧ i < 1000)
theorem Hs.keepO {ns above M t wl s σ σ'} (H : Hs ns above M t wl s σ) (K : Keep XOut σ σ') : Hs ns above M t wl s σ' := by
  have h : ∀ i, i < 1000 → ¬ XOut i → σ' i = σ i := fun i hi n => K i (.inl hi) n
  have e : ∀ {i}, ((10 ≤ i ∧ i < 32) ∨ (100 ≤ i ∧ i < 150)) → σ' i = σ i := fun {i} hi => h i (by exact o373 hi) (by unfold XOut; exact o374 hi)
  obtain ⟨a, b, B, ⟨L, U⟩, eq, ⟨es, f1, f2⟩, ⟨fs, g1, g2⟩, ⟨kn, k1, k2⟩, ⟨ws, w1, w2⟩, ⟨kvs, v1, v2, v3⟩⟩ := H
  refine ⟨(e (by decide)).trans a, (e (by decide)).trans b, B.keep' (e (by decide)) (e (by decide)) (fun i a b => e (by exact o375 a b)), ⟨L, U.keep' (e (by decide)) (e (by decide)) fun i hi => e (by exact o376 hi)⟩, eq, ⟨es, (e (by decide)).trans f1, f2⟩, ⟨fs, (e (by decide)).trans g1, g2⟩, ⟨kn, (e (by decide)).trans k1, k2⟩, ⟨ws, (e (by decide)).trans w1, w2⟩, ⟨kvs, (e (by decide)).trans v1, v2, fun r hr => ?_⟩⟩
  obtain ⟨j, l, c1, c2, c3, c4⟩ := v3 r hr
  exact ⟨j, l, c1, c2, (K j (.inr (by rw [c3]; exact fun z => nomatch z)) (by unfold XOut; exact o377 c2)).trans c3, c4⟩

/-- the script's pail -/
def Dp (k : Nat) (σ : Sto) : Prop := ∃ (row : List Int) (at' : Nat), σ 1 = some (.sdict [("row", .ref 2), ("at", .int at')]) ∧ σ 2 = some (.list (row.map .int)) ∧ row.length ≤ 50 ∧ at' ≤ k
theorem Dp.keep {k σ σ'} (D : Dp k σ) (h1 : σ' 1 = σ 1) (h2 : σ' 2 = σ 2) : Dp k σ' := by
  obtain ⟨row, a, e1, e2, r⟩ := D
  exact ⟨row, a, h1.trans e1, h2.trans e2, r⟩
theorem Dp.le {k k' σ} (D : Dp k σ) (h : k ≤ k') : Dp k' σ := by
  obtain ⟨row, a, e1, e2, r1, r2⟩ := D
  exact ⟨row, a, e1, e2, r1, by exact o378 h r2⟩

section
variable {W : Wd} {F : Fx} {A : Around} {st : St}
theorem Bop.fdivI {a b : Int} {Q} (hb : b ≠ 0) (hp : Builtin.divisionGoesByPylong a b = false) (q : Q (.int (a.fdiv b)) st) : Bop W F A .FloorDiv (.int a) (.int b) st Q := Vt.two fun G ι s ua ub X ra rb => by
  cases ra using Rep.intE; cases rb using Rep.intE
  exact floordiv_int hb ⟨_, _, X, .rfl', _, .int _ _, q⟩ (.inl hp)

/-- `[elt for x in iter]`, the store turning -/
theorem Ev.cmapS {elt iter : Expr} {x : Str} {px pos : Pos} {scope : Scope} {Q : V → St → Prop} (hh : A.handled = none) (acc : Nat) (J : Nat → List V → Sto → Prop)
    (T : Ev W F A iter st fun v st1 => st1.σ acc = none ∧ ∃ vs, An6 (IterOf v st1 vs) (vs.length ≤ 1000) (∀ i, v ≠ .ref i) (J 0 [] (setS st1.σ acc (.list []))) (∀ n y out σ' C, vs[n]? = some y → n < vs.length → J n out σ' → σ' acc = some (.list out) → Ev W (compFx F scope C) A elt ⟨setG (compΓ scope st1.Γ) x y, σ'⟩ fun w st' => An3 (st'.Γ = setG (compΓ scope st1.Γ) x y) (st'.σ acc = some (.list out)) (J (n + 1) (out ++ [w]) (setS st'.σ acc (.list (out ++ [w]))))) (∀ out σ', J vs.length out σ' → out.length = vs.length → σ' acc = some (.list out) → Q (.ref acc) ⟨st1.Γ, σ'⟩))
    (hf : okFree F.env scope.names = true := by rfl) (hc : okComp scope.names = true := by rfl) (hkind : scope.kind = .function := by rfl)
    (hs : ∀ x, foldedSetIterable iter F.env x = pure x := by intro _; rfl) (hx : scope.names.lookup x = some .local := by rfl) : Ev W F A (.ListComp elt [⟨.Name x px, iter, [], 0⟩] scope pos) st Q :=
  Ev.comp hh acc (T.mono fun v st1 ⟨ha, vs, hv, hz, hnr, j0, turn, fini⟩ => ⟨ha, vs, hv, fun C => by
    obtain ⟨Γ1, σ1⟩ := st1
    dsimp only at ha hv turn fini j0 ⊢
    exact Lp.items (vs := vs) hh (hv.setS ha) setS_eq hz J j0 (fun n out σ' _ i e => absurd e (hnr i)) (fun n y out σ' hy j hl ho => turn n y out σ' C hy (by
      rcases Nat.lt_or_ge n vs.length with z | z
      · exact z
      · rw [List.getElem?_eq_none z] at hy; cases hy) j ho) (fun out σ' j hl ho => ⟨(by rw [ho]; exact fun z => nomatch z), fini out σ' j hl ho⟩) hx hkind⟩) hf hc hkind hs
end

theorem dip_spec {W : Wd} (hK : WK W) {A : Around} {n : Nat} (R : Room A (n + 1)) {σ : Sto} {k : Nat} (D : Dp k σ) (hk : k ≤ 9000) {many : Int} (hm : 0 < many) :
    Fn W A (.ref 463) [.ref 1, .int many] σ fun v σ' => An3 (∃ r : Int, An3 (v = .int r) (0 ≤ r) (r < many)) (Dp (k + 1) σ') (Keep (fun i => i = 1) σ σ') := by
  obtain ⟨row, at', e1, e2, hrow, hat⟩ := D
  refine Fn.body ["pail", "many"] R (by rw [hK.k]; rfl) (by rw [hK.k]; rfl) rfl rfl rfl rfl (bind2 fun _ _ => rfl) rfl (by decide) (by intro n; rfl) rfl rfl rfl fun Lc A' R' => ?_
  refine Exs.cons (Ex.assign (Ev.sub (Ev.name rfl (Ev.strC (Gop.sdict (v := .int at') e1 rfl (As.local ?_))))))
  refine Exs.cons (Ex.assign (Ev.bin (Ev.name lookup_setG_self (Ev.intC (Bop.addI (As.sub (Ev.name (lkS rfl) (Ev.strC (Sop.sdict e1 (by simp) ?_)))))))))
  refine Exs.hide fun σ1 h1 => ?_
  have s1 : σ1 1 = some (.sdict [("row", .ref 2), ("at", .int ((at' : Int) + 1))]) := by rw [h1]; dsimp only; rw [setS_eq]; rfl
  have s2 : σ1 2 = some (.list (row.map .int)) := by rw [h1]; dsimp only; rw [setS_ne (by decide)]; exact e2
  have K1 : Keep (fun i => i = 1) σ σ1 := fun i _ n => by rw [h1]; dsimp only; rw [setS_ne n]
  clear h1
  have D1 : Dp (k + 1) σ1 := ⟨row, at' + 1, by rw [s1]; rfl, s2, hrow, by exact o379 hat⟩
  have fini : ∀ a : Int, An3 (∃ r : Int, An3 (V.int (a.fmod many) = .int r) (0 ≤ r) (r < many)) (Dp (k + 1) σ1) (Keep (fun i => i = 1) σ σ1) := fun a =>
    ⟨⟨_, rfl, by rw [Int.fmod_eq_emod_of_nonneg _ (by exact o380 hm)]; exact Int.emod_nonneg _ (by exact o381 hm), by rw [Int.fmod_eq_emod_of_nonneg _ (by exact o380 hm)]; exact Int.emod_lt_of_pos _ hm⟩, D1, K1⟩
  refine Exs.cons (Ex.ret (Ev.bin (Ev.ifExp (Is.cmp rfl (Ev.name lookup_setG_self (Ev.b (nblen hK) (Evs.one (Ev.sub (Ev.name (lkS rfl) (Ev.strC (Gop.sdict (v := .ref 2) s1 rfl (Bi.lenL s2 (by simp; exact o382 hrow) (Cop.ltI ?_)))))))))))))
  by_cases q : (at' : Int) < ((row.map V.int).length : Nat)
  · rw [if_pos (by simpa using q)]
    have q' : at' < row.length := by simpa using q
    exact Ev.sub (Ev.sub (Ev.name (lkS rfl) (Ev.strC (Gop.sdict (v := .ref 2) s1 rfl (Ev.name lookup_setG_self (Gop.list (v := .int row[at']) s2 (Int.natCast_nonneg _) (by simp [q']) (by simp; exact o382 hrow) (Ev.name (lkS rfl) (Bop.modI (by exact o381 hm) (fini _)))))))))
  · rw [if_neg (by simpa using q)]
    have m1 : IntMulOk 7 (at' : Int) := mulOk_of_bits (m := 64) (n := 64) (intBits_le_64 (by decide) (by decide)) (intBits_le_64 (by exact o383) (by exact o384 hk hat)) (by decide)
    have m2 : IntMulOk (7 * (at' : Int)) (at' : Int) := mulOk_of_bits (m := 64) (n := 64) (intBits_le_64 (by exact o385) (by exact o386 hk hat)) (intBits_le_64 (by exact o383) (by exact o384 hk hat)) (by decide)
    have m3 : IntMulOk 5 (at' : Int) := mulOk_of_bits (m := 64) (n := 64) (intBits_le_64 (by decide) (by decide)) (intBits_le_64 (by exact o383) (by exact o384 hk hat)) (by decide)
    exact Ev.bin (Ev.bin (Ev.bin (Ev.bin (Ev.bin (Ev.intC (Ev.name lookup_setG_self (Bop.mulI m1 (Ev.name lookup_setG_self (Bop.mulI m2 (Ev.bin (Ev.intC (Ev.name lookup_setG_self (Bop.mulI m3 (Bop.addI (Ev.intC (Bop.fdivI (by decide) (PyProof.noPylong_small (by decide)) (Ev.intC (Bop.addI (Ev.name (lkS rfl) (Bop.modI (by exact o381 hm) (fini _)))))))))))))))))))))
end Mine

open PySem PySem.W PyProof.Rows PySem.SeqAt PySem.Calls
set_option Elab.async false
set_option maxRecDepth 100000
set_option linter.unusedVariables false
set_option pp.maxSteps 600
set_option pp.deepTerms false
namespace Mine



section
variable {W : Wd} {F : Fx} {A : Around} {st : St}
theorem Bi.strI' {n : Int} {Q} (hn : n.natAbs.log2 < 1920) (h2 : n.natAbs ≤ 1000000) (q : ∀ x : Str, x.length ≤ 1000002 → Q (.str x) st) : Bi W F A (.type "str") [.int n] st Q := fun G ι s us X r => by
  refine r.on1 fun x1 r1 => ?_
  cases r1 using Rep.intE
  exact P.str_of_int hn ⟨_, _, X, .rfl', _, .str _ _, q _ (by have := len_str_of_int n; exact o387 h2 this)⟩
theorem Bop.addS {x y : Str} {Q} (h : x.length + y.length ≤ 16777216) (q : ∀ z, Q (.str z) st) : Bop W F A .Add (.str x) (.str y) st Q := Vt.two fun G ι s ua ub X ra rb => by
  cases ra using Rep.strE; cases rb using Rep.strE
  exact SB.add (fun t' k => ⟨_, _, X, .rfl', _, .str _ _, q _⟩) (by rw [sizeLine_eq]; exact h)
end

def XL (i : Nat) : Prop := i = 1 ∨ (10 ≤ i ∧ i < 150) ∨ 1000 ≤ i

theorem law_heap_spec {W : Wd} (hK : WK W) {A : Around} {n : Nat} (R : Room A (n + 8)) {σ : Sto} {k : Nat} (D : Dp k σ) (hk : k ≤ 8000) (hf : ∀ i, 10 ≤ i → i < 150 → σ i = none) :
    Fn W A (.ref 468) [.ref 1] σ fun v σ' => An4 (v = .ref 10) (Dp (k + 100) σ') (Keep XL σ σ') (Sm5 fun ns above M t wl => 0 < ns.length ∧ Hs ns above M t wl 0 σ') := by
  refine Fn.body ["pail"] R (by rw [hK.k]; rfl) (by rw [hK.k]; rfl) rfl rfl rfl rfl (bind1 fun _ => rfl) rfl (by decide) (by intro n; rfl) rfl rfl rfl fun Lc A' R' => ?_
  refine Exs.cons (Ex.assign (Ev.callCls (nmHeap hK) (mk452 hK) (Evs.nil (Bi.make 10 11 (mk452 hK) (in452 hK) (ty452 hK) (hf _ (by decide) (by decide)) (hf _ (by decide) (by decide)) (by decide) fun us => (h_init hK (Room.make (R'.less (by exact o388 : n + 3 + 1 ≤ n + 7))) setS_eq ((setS_ne (by decide)).trans setS_eq) ?_).mono fun v σ1 ⟨hv, H1, K1⟩ => ⟨hv, As.cell ?_⟩))))
  · intro i a b; rw [setS_ne (by exact o389 a), setS_ne (by exact o390 a)]; exact hf _ (by exact o391 a) (by omega)
  have K0 : Keep XL σ σ1 := fun i hi nx => by
    unfold XL at nx
    have e : setS (setS σ 11 (.sdict [])) 10 (.inst 452 (some 11)) i = σ i := by rw [setS_ne (by exact o392 nx), setS_ne (by exact o393 nx)]
    rw [K1 i (by rw [e]; exact hi) (by exact o394 nx), e]
  have D1 : Dp k σ1 := D.keep (K1 1 (.inl (by decide)) (by decide) |>.trans (by rw [setS_ne (by decide), setS_ne (by decide)])) (K0 2 (.inl (by decide)) (by unfold XL; decide))
  clear K1
  generalize hΓ1 : setG ((["pail"] : List Str).zip [V.ref 1]) "heap" (.ref 10) = Γ1
  have XH : ∀ i, XHs i → XL i := fun i h => by unfold XHs at h; unfold XL; exact o395 h
  have X1 : ∀ i, i = 1 → XL i := fun i h => .inl h
  have X1o : ∀ i, i = 1 → XOut i := fun i h => by unfold XOut; exact o396 h
  have DH : ∀ {k σ σ'}, Dp k σ → Keep XHs σ σ' → Dp k σ' := fun D K => D.keep (K 1 (.inl (by decide)) (by unfold XHs; decide)) (K 2 (.inl (by decide)) (by unfold XHs; decide))
  let XS : List Str := ["op", "lap", "many", "one"]
  have gp : ∀ {Γ}, Γeq XS Γ1 Γ → Γ.lookup ("pail" : Str) = some (.ref 1) := fun h => h.at (by rw [← hΓ1]; rfl)
  have gh : ∀ {Γ}, Γeq XS Γ1 Γ → Γ.lookup ("heap" : Str) = some (.ref 10) := fun h => h.at (by rw [← hΓ1]; rfl)
  /- the letters -/
  refine Exs.cons (Ex.for R'.handled (Ev.strC ⟨[.str "a", .str "b"], fun m st => An4 (Γeq XS Γ1 st.Γ) (Dp k st.σ) (Keep XL σ st.σ) (Sm4 fun ns above M wl => An3 (ns.length ≤ m) (0 < m → 0 < ns.length) (Hs ns above M 0 wl 0 st.σ)), ⟨by decide +kernel, rfl⟩, ⟨.refl, D1, K0, [], [], 0, 0, by simp, by simp, H1⟩, (fun m st' h i e => nomatch e), fun m y st' hy ⟨hΓ, D2, K2, ns, above, M, wl, hns, hns0, H2⟩ => ?_, fun st' ⟨hΓ, D2, K2, ns, above, M, wl, hns, hns0, H2⟩ => ?_⟩))
  · obtain ⟨Γ, σ2⟩ := st'
    dsimp only at hΓ D2 K2 H2
    have hm : m < 2 := by
      rcases Nat.lt_or_ge m 2 with z | z
      · exact z
      · rw [List.getElem?_eq_none (by simpa using z)] at hy; cases hy
    obtain ⟨x, c, hx, rfl⟩ : Sm2 fun x c => OpOk x c ∧ y = .str x := by
      have : m = 0 ∨ m = 1 := by exact o397 hm
      rcases this with rfl | rfl <;> simp at hy <;> subst hy
      · exact ⟨_, _, opA, rfl⟩
      · exact ⟨_, _, opB, rfl⟩
    refine As.local (Exs.cons (Ex.drop (Ev.mth (lkS (gh hΓ)) H2.i H2.d (pm452_put hK) (fk362 hK) (Evs.one (Ev.tuple (Evs.one (Ev.name lookup_setG_self ⟨by simp, Bi.of_fn ((h_put hK (R'.less (by exact o398 : n + 6 ≤ n + 7)) H2 (by decide) (by exact o399 hns hm) hx).mC1 fun r σ3 K3 ⟨ns', above', M', wl', p1, p2, p3, H3⟩ => ?_)⟩)))))))
    exact ⟨.inr (.inr ⟨_, rfl⟩), Exs.nil ⟨hΓ.set rfl, DH D2 K3, K2.trans (K3.mono XH), ns', above', M', wl', by exact o400 hns p3, fun _ => p1, H3⟩⟩
  obtain ⟨Γ, σ2⟩ := st'
  dsimp only at hΓ D2 K2 H2
  simp only [List.length_cons, List.length_nil] at hns hns0
  /- the nodes -/
  refine Exs.cons (Ex.for R'.handled (Ev.b (nbrange hK) (Evs.one (Ev.bin (Ev.intC (Ev.callOwn (nm_law_dip hK) (fk463 hK) (Evs.two (Ev.name (gp hΓ) (Ev.intC (Bi.of_fn ((dip_spec hK R' D2 (by exact o401 hk) (by decide)).mC fun d σ3 d0 d1 D3 K3 => ?_)))))))))))
  refine Bop.addI (Bi.range ⟨_, fun m st => An4 (Γeq XS Γ1 st.Γ) (Dp (k + 1 + 5 * m) st.σ) (Keep XL σ st.σ) (Sm4 fun ns above M wl => An3 (ns.length ≤ 2 + m) (0 < ns.length) (Hs ns above M 0 wl 0 st.σ)), ⟨rfl, by exact o402 d0, by exact o403 d1⟩, ⟨hΓ, D3, K2.trans (K3.mono X1), ns, above, M, wl, by omega, hns0 (by decide), H2.keepO (K3.mono X1o)⟩, (fun m st' h i e => nomatch e), fun m y st' hy ⟨hΓ, D4, K4, ns, above, M, wl, hns, hns0, H4⟩ => ?_, fun st' ⟨hΓ, D4, K4, ns, above, M, wl, hns, hns0, H4⟩ => ?_⟩)
  · obtain ⟨Γ, σ4⟩ := st'
    dsimp only at hΓ D4 K4 H4
    have hm : m < 5 := by
      rcases Nat.lt_or_ge m 5 with z | z
      · exact z
      · rw [List.getElem?_eq_none (by simp; exact o404 d1 z)] at hy; cases hy
    refine As.local (Exs.cons (Ex.assign (Ev.bin (Ev.intC (Ev.callOwn (nm_law_dip hK) (fk463 hK) (Evs.two (Ev.name (lkS (gp hΓ)) (Ev.intC (Bi.of_fn ((dip_spec hK R' D4 (by exact o405 hk hm) (by decide)).mC fun d σ5 d0' d1' D5 K5 => ?_))))))))))
    refine Bop.addI (As.local ?_)
    have hΓ5 := (hΓ.set (x := "lap") (v := y) rfl).set (x := "many") (v := .int (1 + d)) rfl
    generalize hΓ6 : setG (setG Γ "lap" y) "many" (.int (1 + d)) = Γ6 at hΓ5
    have lm : Γ6.lookup ("many" : Str) = some (.int (1 + d)) := by rw [← hΓ6]; exact lookup_setG_self
    have H5 := H4.keepO (K5.mono X1o)
    have K6 := K4.trans (K5.mono X1)
    show Exs W _ A' _ ⟨Γ6, σ5⟩ _
    refine Exs.fin fun N hN hfr => ?_
    have hfrN : σ5 N = none := hfr N (Nat.le_refl _)
    obtain ⟨fx, fc, hfx, hfi, rfl⟩ : Sm2 fun x c => An3 (OpOk x c) ((Str.ofString "fg").cps[(1 + d - 1).toNat]? = some c) (x = ⟨#[c]⟩) := by
      have : d = 0 ∨ d = 1 := by exact o406 d0' d1'
      rcases this with rfl | rfl
      · exact ⟨_, _, opF, rfl, rfl⟩
      · exact ⟨_, _, opG, rfl, rfl⟩
    refine Exs.cons (Ex.drop (Ev.mth (gh hΓ5) H5.i H5.d (pm452_add hK) (fk357 hK) (Evs.two (Ev.sub (Ev.strC (Ev.bin (Ev.name lm (Ev.intC (Bop.subI (Gop.str (by exact o407 d0') (by exact o408 d1') hfi ?_))))))))))
    refine Ev.b (nbtuple hK) (Evs.one (Ev.cmapS R'.handled N (fun m' out τ => An3 (Dp (k + 1 + 5 * m + 1 + m') τ) (Keep (fun i => i = 1) σ5 τ) (∀ w ∈ out, ∃ r : Int, w = .int r ∧ 0 ≤ r ∧ r < ns.length))
      (Ev.b (nbrange hK) (Evs.one (Ev.name lm (Bi.range ⟨hfrN, _, ⟨rfl, by exact o409 d0', by exact o410 d1'⟩, by simp; exact o411 d1', (fun i e => nomatch e), ⟨D5.keep (setS_ne (by exact o412 hN)) (setS_ne (by exact o413 hN)), Keep.refl.set (.inr ⟨hN, hfrN⟩), by simp⟩, fun m' y' out τ C hy' hm' ⟨DJ, KJ, hJ⟩ ho => ?_, fun out τ ⟨DJ, KJ, hJ⟩ hol ho => ?_⟩))))))
    · have HJ : Hs ns above M 0 wl 0 τ := H5.keepO (KJ.mono X1o)
      have hm2 : m' < 2 := by simp at hm'; exact o414 d1' hm'
      refine Ev.callOwn (nm_law_dip hK) (fk463 hK) (Evs.two (Ev.name (lkS (by rw [compΓ_lookup]; exact gp hΓ5)) (Ev.mth (lkS (by rw [compΓ_lookup]; exact gh hΓ5)) HJ.i HJ.d (pm452_size hK) (fk347 hK) (Evs.nil (Bi.of_fn ((h_size hK (R'.less (by exact o415 : n + 5 + 2 ≤ n + 7)) HJ).mB ?_))))))
      refine Bi.of_fn ((dip_spec hK R' DJ (by exact o416 hk hm hm2) (by exact o417 hns0)).mC fun r σ7 r0 r1 D7 K7 => ?_)
      have e7 : σ7 N = τ N := K7 N (.inr (by rw [ho]; exact fun z => nomatch z)) (by exact o418 hN)
      refine ⟨rfl, e7.trans ho, ?_, ?_, fun w hw => ?_⟩
      · exact (D7.keep (setS_ne (by exact o412 hN)) (setS_ne (by exact o413 hN))).le (by exact o419)
      · exact (KJ.trans K7).set (.inr ⟨hN, hfrN⟩)
      · rcases List.mem_append.mp hw with hw | hw
        · exact hJ w hw
        · simp at hw; subst hw; exact ⟨r, rfl, r0, r1⟩
    obtain ⟨is, rfl⟩ := intsOf fun w hw => let ⟨r, e, _⟩ := hJ w hw; ⟨r, e⟩
    have HJ : Hs ns above M 0 wl 0 τ := H5.keepO (KJ.mono X1o)
    have hil : is.length ≤ 2 := by simp at hol; exact o420 d1' hol
    have hR : (List.map (fun k : Nat => V.int k) (List.range (1 + d).toNat)).length ≤ 2 := by simp; exact o421 d1'
    refine Bi.tupleL ho (by simp; exact o151 hil) (Bi.of_fn ((h_add hK (R'.less (by exact o422 : n + 5 ≤ n + 7)) HJ (by decide) (by exact o423 hns hm) hfx (ks := is) (fun x hx => ?_) hil).mC1 fun r σ8 K8 ⟨ns', above', M', wl', p1, p2, p3, H8⟩ => ?_))
    · obtain ⟨r, e, h⟩ := hJ (.int x) (List.mem_map_of_mem hx)
      cases e; exact h
    exact ⟨.inr (.inr ⟨_, rfl⟩), Exs.nil ⟨hΓ5, (DH DJ K8).le (by exact o424 hR), (K6.trans (KJ.mono X1)).trans (K8.mono XH), ns', above', M', wl', by exact o425 hns p3, p1, H8⟩⟩
  obtain ⟨Γ, σ4⟩ := st'
  dsimp only at hΓ D4 K4 H4
  have hl5 : (List.map (fun k : Nat => V.int k) (List.range (2 + d).toNat)).length ≤ 5 := by simp; exact o426 d1
  have D4' : Dp (k + 50) σ4 := D4.le (by exact o427 hl5)
  /- the mergings -/
  refine Exs.cons (Ex.for R'.handled (Ev.b (nbrange hK) (Evs.one (Ev.bin (Ev.intC (Ev.callOwn (nm_law_dip hK) (fk463 hK) (Evs.two (Ev.name (gp hΓ) (Ev.intC (Bi.of_fn ((dip_spec hK R' D4' (by exact o428 hk) (by decide)).mC fun e σ5 e0 e1 D5 K5 => ?_)))))))))))
  refine Bop.addI (Bi.range ⟨_, fun m st => An4 (Γeq XS Γ1 st.Γ) (Dp (k + 51 + 5 * m) st.σ) (Keep XL σ st.σ) (Sm3 fun above M wl => Hs ns above M m wl 0 st.σ), ⟨rfl, by exact o409 e0, by exact o429 e1⟩, ⟨hΓ, D5, K4.trans (K5.mono X1), above, M, wl, H4.keepO (K5.mono X1o)⟩, (fun m st' h i e => nomatch e), fun m y st' hy ⟨hΓ, D6, K6, above, M, wl, H6⟩ => ?_, fun st' ⟨hΓ, D6, K6, above, M, wl, H6⟩ => ?_⟩)
  · obtain ⟨Γ, σ6⟩ := st'
    dsimp only at hΓ D6 K6 H6
    have hm : m < 3 := by
      rcases Nat.lt_or_ge m 3 with z | z
      · exact z
      · rw [List.getElem?_eq_none (by simp; exact o430 e1 z)] at hy; cases hy
    have hy' : y = .int (m : Int) := by
      rw [List.getElem?_map, Option.map_eq_some_iff] at hy
      obtain ⟨q, hq, rfl⟩ := hy
      rw [List.getElem?_eq_some_iff] at hq
      obtain ⟨_, hq⟩ := hq
      simp at hq
      rw [hq]
    subst hy'
    refine As.local (Exs.cons (Ex.assign (Ev.callOwn (nm_law_dip hK) (fk463 hK) (Evs.two (Ev.name (lkS (gp hΓ)) (Ev.mth (lkS (gh hΓ)) H6.i H6.d (pm452_size hK) (fk347 hK) (Evs.nil (Bi.of_fn ((h_size hK (R'.less (by exact o415 : n + 5 + 2 ≤ n + 7)) H6).mB ?_)))))))))
    refine Bi.of_fn ((dip_spec hK R' D6 (by exact o431 hk hm) (by exact o417 hns0)).mC fun a σ7 a0 a1 D7 K7 => As.local ?_)
    have H7 := H6.keepO (K7.mono X1o)
    have hΓ7 := (hΓ.set (x := "lap") (v := .int m) rfl).set (x := "one") (v := .int a) rfl
    have ll : (setG (setG Γ "lap" (.int m)) "one" (.int a)).lookup ("lap" : Str) = some (.int m) := lkS lookup_setG_self
    have lo : (setG (setG Γ "lap" (.int m)) "one" (.int a)).lookup ("one" : Str) = some (.int a) := lookup_setG_self
    generalize setG (setG Γ "lap" (.int m)) "one" (.int a) = Γ7 at hΓ7 ll lo
    show Exs W _ A' _ ⟨Γ7, σ7⟩ _
    refine Exs.cons (Ex.drop (Ev.mth (gh hΓ7) H7.i H7.d (pm452_merge hK) (fk390 hK) (Evs.three (Ev.name lo (Ev.callOwn (nm_law_dip hK) (fk463 hK) (Evs.two (Ev.name (gp hΓ7) (Ev.mth (gh hΓ7) H7.i H7.d (pm452_size hK) (fk347 hK) (Evs.nil (Bi.of_fn ((h_size hK (R'.less (by exact o415 : n + 5 + 2 ≤ n + 7)) H7).mB ?_)))))))))))
    refine Bi.of_fn ((dip_spec hK R' D7 (by exact o432 hk hm) (by exact o417 hns0)).mC fun b σ8 b0 b1 D8 K8 => ?_)
    have H8 := H7.keepO (K8.mono X1o)
    have heq := H8.eq
    refine Ev.tuple (Evs.two (Ev.strC (Ev.bin (Ev.strC (Ev.b (nbstr hK) (Evs.one (Ev.name ll (Bi.strI' ?_ (by exact o433 hm) fun x hx => Bop.addS ?_ fun z => ⟨by simp, Bi.of_fn ((h_merge hK (R'.less (by exact o434 : n + 4 ≤ n + 7)) H8 (by exact o435 hm) a0 (by exact o436 a1 heq) b0 (by exact o436 b1 heq) _).mC1 fun c σ9 K9 ⟨above', M', wl', q1, H9⟩ => ?_)⟩))))))))
    · have : m = 0 ∨ m = 1 ∨ m = 2 := by exact o437 hm
      rcases this with rfl | rfl | rfl <;> decide
    · have : Str.length (Str.ofString "t") = 1 := by rfl
      exact o438 hx this
    exact ⟨.inr (.inl ⟨_, rfl⟩), Exs.nil ⟨hΓ7, (DH D8 K9).le (by exact o439), ((K6.trans (K7.mono X1)).trans (K8.mono X1)).trans (K9.mono XH), above', M', wl', H9⟩⟩
  obtain ⟨Γ, σ6⟩ := st'
  dsimp only at hΓ D6 K6 H6
  have hl3 : (List.map (fun k : Nat => V.int k) (List.range (1 + e).toNat)).length ≤ 3 := by simp; exact o440 e1
  generalize (List.map (fun k : Nat => V.int k) (List.range (1 + e).toNat)).length = t at hl3 D6 H6
  have heq := H6.eq
  refine Exs.cons (Ex.drop (Ev.mth (gh hΓ) H6.i H6.d (pm452_settle hK) (fk404 hK) (Evs.nil (Bi.of_fn ((h_settle hK (R'.less (by exact o422 : n + 5 ≤ n + 7)) H6 (by exact o441 hl3) (by exact o442 hns0 heq)).mA3 fun σ7 K7 ⟨above', M', wl', q1, H7⟩ => ?_)))))
  exact ⟨.inl rfl, Exs.cons (Ex.ret (Ev.name (gh hΓ) ⟨rfl, (DH D6 K7).le (by exact o443 hl3), K6.trans (K7.mono XH), ns, above', M', t, wl', hns0, H7⟩))⟩
end Mine

open PySem PySem.W PyProof.Rows
set_option Elab.async false
set_option linter.unusedVariables false
namespace Mine

theorem Rch.trans {ch : Cho} {bs : List Int} {k x : Int} (h : Rch ch bs k) (g : Rch ch (kidsOf ch k) x) : Rch ch bs x := by
  induction g with
  | base m => exact .step h m
  | step _ m ih => exact .step ih m

theorem kidsOf_app {ch : Cho} {c : Int} {nd : Node} (hc : nodeAt ch c = none) (k : Int) : kidsOf (ch ++ [(c, nd)]) k = if k = c then nd.2 else kidsOf ch k := by
  unfold kidsOf nodeAt at *
  rw [List.find?_append]
  by_cases q : k = c
  · subst q
    have : ch.find? (fun p => decide (p.1 = k)) = none := by simpa using hc
    rw [this]; simp
  · rw [if_neg q]
    cases e : ch.find? (fun p => decide (p.1 = k)) with
    | some p => rfl
    | none =>
      have : ¬ c = k := fun z => q z.symm
      simp [this]

theorem Rch.split {ch : Cho} {c : Int} {nd : Node} (hc : nodeAt ch c = none) {bs : List Int} {x : Int} (h : Rch (ch ++ [(c, nd)]) bs x) : Rch ch bs x ∨ (Rch ch bs c ∧ Rch ch nd.2 x) := by
  induction h with
  | base m => exact .inl (.base m)
  | @step d x _ m ih =>
    rw [kidsOf_app hc] at m
    by_cases q : d = c
    · subst q
      rw [if_pos rfl] at m
      exact .inr ⟨ih.elim id fun z => z.1, .base m⟩
    · rw [if_neg q] at m
      exact ih.imp (fun z => .step z m) fun z => ⟨z.1, .step z.2 m⟩
theorem Rch.grow {ch : Cho} {c : Int} {nd : Node} (hc : nodeAt ch c = none) {bs : List Int} {x : Int} (h : Rch ch bs x) : Rch (ch ++ [(c, nd)]) bs x := by
  induction h with
  | base m => exact .base m
  | @step d x _ m ih =>
    refine .step ih ?_
    rw [kidsOf_app hc]
    by_cases q : d = c
    · subst q
      have : kidsOf ch d = [] := by unfold kidsOf; rw [hc]
      rw [this] at m; cases m
    · rw [if_neg q]; exact m

/-- no class comes back to itself -/
def NoRing (ch : Cho) : Prop := ∀ k nd, nodeAt ch k = some nd → ¬ Rch ch nd.2 k
theorem kidsOf_at {ch : Cho} {k : Int} {nd : Node} (h : nodeAt ch k = some nd) : kidsOf ch k = nd.2 := by unfold kidsOf; rw [h]
theorem nodeAt_app {ch : Cho} {c : Int} {nd : Node} (hc : nodeAt ch c = none) (k : Int) : nodeAt (ch ++ [(c, nd)]) k = if k = c then some nd else nodeAt ch k := by
  unfold nodeAt at *
  rw [List.find?_append]
  by_cases q : k = c
  · subst q
    have : ch.find? (fun p => decide (p.1 = k)) = none := by simpa using hc
    rw [this]; simp
  · rw [if_neg q]
    cases e : ch.find? (fun p => decide (p.1 = k)) with
    | some p => rfl
    | none =>
      have : ¬ c = k := fun z => q z.symm
      simp [this]
theorem NoRing.app {ch : Cho} {c : Int} {nd : Node} (N : NoRing ch) (hc : nodeAt ch c = none) (h : ¬ Rch ch nd.2 c) : NoRing (ch ++ [(c, nd)]) := fun k nd' hk r => by
  rw [nodeAt_app hc] at hk
  by_cases q : k = c
  · rw [if_pos q] at hk; cases hk; subst q
    exact h ((Rch.split hc r).elim id fun z => z.2)
  · rw [if_neg q] at hk
    rcases Rch.split hc r with z | ⟨z1, z2⟩
    · exact N k nd' hk z
    · refine h (z2.trans ?_)
      rw [kidsOf_at hk]; exact z1

/- steps -/
def Stp (ch : Cho) (S : Int → Prop) (x : Int) : Prop := S x ∨ ∃ c, S c ∧ x ∈ kidsOf ch c
def Lv (ch : Cho) : Nat → (Int → Prop) → Int → Prop
  | 0, S => S
  | n + 1, S => Lv ch n (Stp ch S)
theorem Lv.sound {ch : Cho} {bs : List Int} : ∀ {n : Nat} {S : Int → Prop} {x : Int}, (∀ y, S y → Rch ch bs y) → Lv ch n S x → Rch ch bs x
  | 0, _, _, h, l => h _ l
  | n + 1, S, x, h, l => Lv.sound (n := n) (S := Stp ch S) (fun y z => z.elim (h y) fun ⟨c, hc, m⟩ => .step (h c hc) m) l
theorem Lv.mono {ch : Cho} : ∀ {n : Nat} {S S' : Int → Prop} {x : Int}, (∀ y, S y → S' y) → Lv ch n S x → Lv ch n S' x
  | 0, _, _, _, h, l => h _ l
  | n + 1, S, S', x, h, l => Lv.mono (n := n) (fun y z => z.imp (h y) fun ⟨c, hc, m⟩ => ⟨c, h c hc, m⟩) l
theorem Lv.keep {ch : Cho} : ∀ {n : Nat} {S : Int → Prop} {x : Int}, S x → Lv ch n S x
  | 0, _, _, h => h
  | n + 1, S, x, h => Lv.keep (n := n) (S := Stp ch S) (.inl h)
inductive RU (ch : Cho) (U : List Int) (bs : List Int) : Int → Prop
  | base {x} : x ∈ bs → RU ch U bs x
  | step {c x} : RU ch U bs c → c ∈ U → x ∈ kidsOf ch c → RU ch U bs x
theorem RU.first {ch U bs x} (h : RU ch U bs x) : x ∈ bs ∨ ∃ y ∈ bs, y ∈ U ∧ RU ch (U.filter (· ≠ y)) (kidsOf ch y) x := by
  induction h with
  | base m => exact .inl m
  | @step d x _ hu m ih =>
    right
    rcases ih with ih | ⟨y, hy, hyu, r⟩
    · exact ⟨d, ih, hu, .base m⟩
    · by_cases q : d = y
      · subst q; exact ⟨d, hy, hyu, .base m⟩
      · exact ⟨y, hy, hyu, .step r (List.mem_filter.mpr ⟨hu, by simpa using q⟩) m⟩
theorem RU.lv {ch : Cho} : ∀ (n : Nat) (U : List Int) (bs : List Int) (S : Int → Prop) (x : Int), U.length ≤ n → (∀ y ∈ bs, S y) → RU ch U bs x → Lv ch n S x
  | 0, U, bs, S, x, hl, hs, r => by
    rcases r.first with h | ⟨y, _, hu, _⟩
    · exact hs x h
    · have : U = [] := List.length_eq_zero_iff.mp (by exact o444 hl)
      subst this; cases hu
  | n + 1, U, bs, S, x, hl, hs, r => by
    rcases r.first with h | ⟨y, hy, hu, r'⟩
    · exact Lv.keep (hs x h)
    · refine RU.lv n (U.filter (· ≠ y)) (kidsOf ch y) (Stp ch S) x ?_ (fun z hz => .inr ⟨y, hs y hy, hz⟩) r'
      have : (U.filter (· ≠ y)).length < U.length := by
        apply List.length_filter_lt_length_iff_exists.mpr
        exact ⟨y, hu, by simp⟩
      exact o445 hl this
theorem kidsOf_mem {ch : Cho} {c x : Int} (h : x ∈ kidsOf ch c) : c ∈ ch.map (·.1) := by
  unfold kidsOf nodeAt at h
  cases e : ch.find? (fun p => decide (p.1 = c)) with
  | none => rw [e] at h; cases h
  | some p =>
    have h1 := List.find?_some e
    have h2 := List.mem_of_find?_eq_some e
    simp at h1
    exact h1 ▸ List.mem_map_of_mem h2
theorem lv_iff {ch : Cho} {bs : List Int} {x : Int} : Lv ch ch.length (· ∈ bs) x ↔ Rch ch bs x := by
  refine ⟨Lv.sound fun y h => .base h, fun r => ?_⟩
  have : RU ch (ch.map (·.1)) bs x := by
    induction r with
    | base m => exact .base m
    | step _ m ih => exact .step ih (kidsOf_mem m) m
  exact RU.lv ch.length (ch.map (·.1)) bs _ x (by simp) (fun y h => h) this

/- numbers in a range -/
theorem nodup_len : ∀ (n : Nat) (l : List Int), l.Nodup → (∀ x ∈ l, 0 ≤ x ∧ x < n) → l.length ≤ n
  | 0, l, _, h => by
    rcases l with _ | ⟨a, b⟩
    · simp
    · have := h a (by simp); exact o446 this
  | n + 1, l, nd, h => by
    have ih := nodup_len n (l.filter (· ≠ (n : Int))) (nd.sublist List.filter_sublist) fun x hx => by
      have h1 := List.mem_filter.mp hx
      have := h x h1.1
      have h2 : x ≠ n := by simpa using h1.2
      exact o447 this h2
    have key : l.length ≤ (l.filter (· ≠ (n : Int))).length + 1 := by
      clear ih h
      induction l with
      | nil => simp
      | cons a b ih =>
        rw [List.nodup_cons] at nd
        by_cases q : a = (n : Int)
        · subst q
          have : b.filter (· ≠ (n : Int)) = b := List.filter_eq_self.mpr fun x hx => by simp; exact fun e => nd.1 (e ▸ hx)
          have e : ((n : Int) :: b).filter (· ≠ (n : Int)) = b.filter (· ≠ (n : Int)) := by rw [List.filter_cons]; simp
          rw [e, this]; simp
        · have := ih nd.2
          simp [List.filter_cons, q] at this ⊢
          exact this
    exact o400 ih key

/- a choice more -/
def choSet (ch : Cho) (c : Int) (nd : Node) : Cho := if ch.any (fun p => decide (p.1 = c)) then ch.map (fun p => if p.1 = c then (p.1, nd) else p) else ch ++ [(c, nd)]
theorem storedV_cho {ch : Cho} {c : Int} {nd : Node} : storedV (choV ch) c (nodeV nd) = choV (choSet ch c nd) := by
  unfold storedV choSet choV
  rw [List.any_map]
  have : ((fun kv : Int × V => decide (kv.1 = c)) ∘ fun p : Int × Node => (p.1, nodeV p.2)) = fun p => decide (p.1 = c) := rfl
  rw [this]
  split
  · rw [List.map_map, List.map_map]
    congr 1
    funext p
    simp only [Function.comp]
    split <;> rfl
  · simp
theorem choSet_len {ch : Cho} {c : Int} {nd : Node} : (choSet ch c nd).length ≤ ch.length + 1 := by unfold choSet; split <;> simp
theorem choSet_mem {ch : Cho} {c : Int} {nd : Node} {p : Int × Node} (h : p ∈ choSet ch c nd) : p ∈ ch ∨ p = (c, nd) := by
  unfold choSet at h
  split at h
  · obtain ⟨q, hq, e⟩ := List.mem_map.mp h
    split at e
    · rename_i z; right; rw [← e, z]
    · left; rw [← e]; exact hq
  · rcases List.mem_append.mp h with h | h
    · exact .inl h
    · right; simpa using h
theorem choSet_new {ch : Cho} {c : Int} {nd : Node} (h : nodeAt ch c = none) : choSet ch c nd = ch ++ [(c, nd)] := by
  unfold choSet
  rw [if_neg]
  intro z
  obtain ⟨p, hp, e⟩ := List.any_eq_true.mp z
  unfold nodeAt at h
  rw [Option.map_eq_none_iff, List.find?_eq_none] at h
  exact h p hp e

theorem owes_le2 {ch : Cho} (h : ∀ p ∈ ch, p.2.2.length ≤ 2) : owes ch [] ≤ 2 * ch.length := by
  unfold owes
  induction ch with
  | nil => simp
  | cons a b ih =>
    have := ih fun p hp => h p (by simp [hp])
    have h1 := h a (by simp)
    simp only [List.filter_cons, List.contains_nil, Bool.not_false, if_true, List.map_cons, List.sum_cons, List.length_cons] at this ⊢
    exact o448 h1 this
end Mine

open PySem PySem.W PyProof.Rows PySem.SeqAt PySem.Calls
set_option Elab.async false
set_option maxRecDepth 100000
set_option linter.unusedVariables false
set_option pp.maxSteps 600
set_option pp.deepTerms false
namespace Mine



theorem flat_len {ch : Cho} (h : ∀ p ∈ ch, p.2.2.length ≤ 2) : ∀ fs : List Int, (fs.flatMap (kidsOf ch)).length ≤ 2 * fs.length
  | [] => by simp
  | c :: fs => by
    have := flat_len h fs
    have h1 : (kidsOf ch c).length ≤ 2 := by
      unfold kidsOf nodeAt
      cases e : ch.find? (fun p => decide (p.1 = c)) with
      | none => simp
      | some p => exact h p (List.mem_of_find?_eq_some e)
    simp only [List.flatMap_cons, List.length_append, List.length_cons]
    exact o449 this h1
theorem kids_range {ch : Cho} {n : Int} (h : ∀ p ∈ ch, ∀ x ∈ p.2.2, 0 ≤ x ∧ x < n) {c x : Int} (hx : x ∈ kidsOf ch c) : 0 ≤ x ∧ x < n := by
  unfold kidsOf nodeAt at hx
  cases e : ch.find? (fun p => decide (p.1 = c)) with
  | none => rw [e] at hx; cases hx
  | some p => rw [e] at hx; exact h p (List.mem_of_find?_eq_some e) x hx
theorem nodeAt_some {ch : Cho} {c : Int} {nd : Node} (h : nodeAt ch c = some nd) : ∃ p ∈ ch, p.1 = c ∧ p.2 = nd := by
  unfold nodeAt at h
  obtain ⟨p, hp, e⟩ := Option.map_eq_some_iff.mp h
  have := List.find?_some hp
  exact ⟨p, List.mem_of_find?_eq_some hp, by simpa using this, e⟩

structure ChOk (ch : Cho) : Prop where
  len : ch.length ≤ 8
  two : ∀ p ∈ ch, p.2.2.length ≤ 2
  rng : ∀ p ∈ ch, ∀ x ∈ p.2.2, 0 ≤ x ∧ x < 7

theorem law_below_spec {W : Wd} (hK : WK W) {A : Around} {n : Nat} (R : Room A (n + 1)) {σ : Sto} {c : Nat} {pin} {ch : Cho} (hc : σ c = some (.idict (choV ch) pin)) (C : ChOk ch) {bv : V} {bs : List Int}
    (hb : (∃ b, bv = .ref b ∧ σ b = some (.list (bs.map .int))) ∨ bv = .tup (bs.map .int)) (hbl : bs.length ≤ 60) (hbr : ∀ x ∈ bs, 0 ≤ x ∧ x < 7) :
    Fn W A (.ref 473) [.ref c, bv] σ fun v σ' => Sm2 fun (j : Nat) (fs : List Int) => An4 (v = .ref j) (σ' j = some (.list (fs.map .int))) (∀ x, x ∈ fs ↔ Rch ch bs x) (Keep (fun _ => False) σ σ') := by
  refine Fn.fin fun N hN hfr => ?_
  refine Fn.body ["chosen", "begin"] R (by rw [hK.k]; rfl) (by rw [hK.k]; rfl) rfl rfl rfl rfl (bind2 fun _ _ => rfl) rfl (by decide) (by intro n; rfl) rfl rfl rfl fun Lc A' R' => ?_
  refine Exs.cons (Ex.assign (Ev.sortedSetI R'.handled N (nbsorted hK) (nbset hK) rfl (T := Ev.name rfl ⟨bs, hb, hbl, hfr N (Nat.le_refl _), fun rs hmem hrl hnd => As.local ?_⟩)))
  have hCl := C.len
  have cN : ∀ i, σ i ≠ none → i ≠ N := fun i h q => h (q ▸ hfr N (Nat.le_refl _))
  have c0 : σ c ≠ none := by rw [hc]; exact fun z => nomatch z
  generalize hΓ1 : setG ((["chosen", "begin"] : List Str).zip [V.ref c, bv]) "found" (.ref N) = Γ1
  have gc : ∀ {Γ}, Γeq ["found", "lap"] Γ1 Γ → Γ.lookup ("chosen" : Str) = some (.ref c) := fun h => h.at (by rw [← hΓ1]; rfl)
  have hcl : (choV ch).length = ch.length := by simp [choV]
  refine Exs.cons (Ex.for R'.handled (Ev.b (nbrange hK) (Evs.one (Ev.b (nblen hK) (Evs.one (Ev.name (gc .refl) (Bi.lenI ((setS_ne (cN c c0)).trans hc) (by exact o450 hCl hcl) (Bi.range ⟨_, fun m st => An3 (Γeq ["found", "lap"] Γ1 st.Γ) (Keep (fun _ => False) σ st.σ) (Sm2 fun (j : Nat) (fs : List Int) => An5 (st.Γ.lookup ("found" : Str) = some (.ref j)) (st.σ j = some (.list (fs.map .int))) fs.Nodup (∀ x ∈ fs, 0 ≤ x ∧ x < 7) (∀ x, Lv ch (ch.length - m) (· ∈ fs) x ↔ Lv ch ch.length (· ∈ bs) x)),
    ⟨rfl, Int.natCast_nonneg _, by exact o451 hCl hcl⟩, ⟨.refl, Keep.refl.set (.inr ⟨hN, hfr N (Nat.le_refl _)⟩), N, rs, by rw [← hΓ1]; exact lookup_setG_self, setS_eq, hnd, fun x hx => hbr x ((hmem x).mp hx), fun x => ⟨Lv.mono fun y hy => (hmem y).mp hy, Lv.mono fun y hy => (hmem y).mpr hy⟩⟩, (fun m st' h i e => nomatch e), fun m y st' hy ⟨hΓ, K1, j, fs, lf, hj, hfn, hfr7, hlv⟩ => ?_, fun st' ⟨hΓ, K1, j, fs, lf, hj, hfn, hfr7, hlv⟩ => ?_⟩))))))))
  · obtain ⟨Γ, σ1⟩ := st'
    dsimp only at hΓ K1 lf hj
    have hm : m < ch.length := by
      rcases Nat.lt_or_ge m ch.length with z | z
      · exact z
      · rw [List.getElem?_eq_none (by simp [hcl]; omega)] at hy; cases hy
    have hfl : fs.length ≤ 7 := nodup_len 7 fs hfn hfr7
    have hc1 : σ1 c = some (.idict (choV ch) pin) := (K1 c (.inr c0) id).trans hc
    refine As.local (Exs.fin fun M hM hfrM => ?_)
    have hfrM' : ∀ i, M ≤ i → σ1 i = none := hfrM
    have jM : j < M := Nat.lt_of_not_le fun q => by have := hfrM' j q; rw [this] at hj; cases hj
    have cM : c < M := Nat.lt_of_not_le fun q => by have := hfrM' c q; rw [this] at hc1; cases hc1
    refine Exs.cons (Ex.assign (Ev.sortedSetI R'.handled (M + 2) (nbsorted hK) (nbset hK) rfl (T := Ev.bin (Ev.name (lkS lf) (Ev.comp R'.handled M (Ev.name (lkS lf) ⟨hfrM' M (Nat.le_refl _), fs.map .int, .inl hj, fun Cc => ?_⟩))))))
    refine Lp.nested (vs := fs.map .int) R'.handled (.inl ((setS_ne (by exact o296 jM)).trans hj)) setS_eq (fun n' out τ => out = ((fs.take n').flatMap (kidsOf ch)).map .int ∧ ∀ i, i ≠ M → τ i = σ1 i) ⟨by simp, fun i hi => setS_ne hi⟩ (fun n' out τ ⟨_, h⟩ i e => ?_) (fun n' out τ ⟨h, _⟩ => ?_) (fun n' y' out τ Γ' hy' ⟨hout, hτ⟩ hacc hΓ' lc' => ?_) (fun out τ ⟨hout, hτ⟩ hacc => ⟨(by rw [hacc]; exact fun z => nomatch z), ?_⟩)
    · cases e
      dsimp only
      rw [h j (by exact o296 jM), setS_ne (by exact o296 jM)]
    · subst h
      have h1 := flat_len C.two (fs.take n')
      have h2 := List.length_take_le n' fs
      have h3 : (fs.take n').length ≤ fs.length := by rw [List.length_take]; exact o452
      simp only [List.length_map]
      exact o453 hfl h1 h3
    · rw [List.getElem?_map, Option.map_eq_some_iff] at hy'
      obtain ⟨d, hd, rfl⟩ := hy'
      have lch : Γ'.lookup ("chosen" : Str) = some (.ref c) := hΓ'.at (by rw [compΓ_lookup]; exact lkS (x := "lap") (v := y) (gc hΓ))
      have hcτ : τ c = some (.idict (choV ch) pin) := (hτ c (by exact o296 cM)).trans hc1
      have tk : fs.take (n' + 1) = fs.take n' ++ [d] := by rw [List.take_add_one, hd]; rfl
      refine Is.cmp rfl (Ev.name lc' (Ev.name lch (Cop.inI hcτ ⟨rfl, ?_⟩)))
      rw [atV_cho]
      rcases hnd' : nodeAt ch d with _ | nd
      · rw [if_neg (by simp)]
        have kk : kidsOf ch d = [] := by simp [kidsOf, hnd']
        exact ⟨by rw [hout, tk]; simp [kk], hτ⟩
      · rw [if_pos (by simp)]
        have kk : kidsOf ch d = nd.2 := by simp [kidsOf, hnd']
        obtain ⟨p, hp, _, e⟩ := nodeAt_some hnd'
        have two := C.two p hp
        rw [e] at two
        refine Ev.tailN (Ev.sub (Ev.name lch (Ev.name lc' (Gop.idict (v := nodeV nd) hcτ (by rw [atV_cho, hnd']; rfl) ⟨nd, .inl rfl, by exact o151 two, rfl, nd.2.map .int, rfl, by simp; exact o454 two, fun τ' h1 h2 => ⟨by rw [hout, tk]; simp [kk], fun i hi => (h2 i hi).trans (hτ i hi)⟩⟩))))
    have hl : (fs.map V.int).length = fs.length := by simp
    rw [hl, List.take_length] at hout
    subst hout
    have hj' : τ j = some (.list (fs.map .int)) := (hτ j (by exact o296 jM)).trans hj
    have fl := flat_len C.two fs
    refine Bop.addL (k := M + 1) hj' hacc (by simp; exact o149 hfl) (by simp only [List.length_map]; exact o455 hfl fl) ((hτ _ (by exact o124)).trans (hfrM' _ (by exact o125))) ⟨fs ++ fs.flatMap (kidsOf ch), .inl ⟨M + 1, rfl, by dsimp only; rw [setS_eq]; simp⟩, by simp only [List.length_append]; exact o456 hfl fl, by dsimp only; rw [setS_ne (by exact o183), hτ _ (by exact o457)]; exact hfrM' _ (by exact o458), fun rs' hmem' hrl' hnd' => As.local (Exs.nil ?_)⟩
    refine ⟨(hΓ.set (x := "lap") rfl).set (x := "found") rfl, fun i hi h => ?_, M + 2, rs', lookup_setG_self, setS_eq, hnd', fun x hx => ?_, fun x => ?_⟩
    · have hi' : i < M ∨ σ1 i ≠ none := by
        rcases hi with hi | hi
        · exact .inl (by exact o459 hM hi)
        · exact .inr (by rw [K1 i (.inr hi) id]; exact hi)
      have hiM : i < M := hi'.elim id fun z => Nat.lt_of_not_le fun q => z (hfrM' i q)
      dsimp only
      rw [setS_ne (by exact o198 hiM), setS_ne (by exact o199 hiM), hτ i (by exact o296 hiM)]
      exact K1 i hi id
    · rw [hmem', List.mem_append, List.mem_flatMap] at hx
      rcases hx with hx | ⟨d, _, hx⟩
      · exact hfr7 x hx
      · exact kids_range C.rng hx
    · rw [← hlv x]
      have e : ch.length - m = (ch.length - (m + 1)) + 1 := by exact o460 hm
      rw [e]
      show Lv ch (ch.length - (m + 1)) (· ∈ rs') x ↔ Lv ch (ch.length - (m + 1)) (Stp ch (· ∈ fs)) x
      have st : ∀ y, y ∈ rs' ↔ Stp ch (· ∈ fs) y := fun y => by
        rw [hmem', List.mem_append, List.mem_flatMap]; rfl
      exact ⟨Lv.mono fun y => (st y).mp, Lv.mono fun y => (st y).mpr⟩
  · obtain ⟨Γ, σ1⟩ := st'
    dsimp only at hΓ K1 lf hj
    refine Exs.cons (Ex.ret (Ev.name lf ⟨j, fs, rfl, hj, fun x => ?_, K1⟩))
    have : (List.map (fun k : Nat => V.int k) (List.range ((choV ch).length : Int).toNat)).length = ch.length := by simp [hcl]
    rw [this] at hlv
    have := hlv x
    rw [lv_iff, Nat.sub_self] at this
    exact this
end Mine

open PySem PySem.W PyProof.Rows PySem.SeqAt PySem.Calls
set_option Elab.async false
set_option maxRecDepth 100000
set_option linter.unusedVariables false
set_option pp.maxSteps 600
set_option pp.deepTerms false
namespace Mine



section
variable {W : Wd} {F : Fx} {A : Around} {st : St} {G : Frz} {ι : Loc} {h : Heap}
theorem Ok.retag {i : Nat} {o o' : AObj} (X : Ok W F G st ι h ω γ) (hi : st.σ i = some o) (r : Ext h st.σ ι h (setS st.σ i o') ι → RepO W.prog W.w h st.σ ι (ι i) o → RepO W.prog W.w h (setS st.σ i o') ι (ι i) o') : Ok W F G ⟨st.Γ, setS st.σ i o'⟩ ι h ω γ ∧ Ext h st.σ ι h (setS st.σ i o') ι := by
  obtain ⟨Γ, σ⟩ := st
  exact X.set (o' := o') hi (fun b ob _ e => e) fun E => r E (X.hp.objs i o hi).2

/-- a dict is frozen for a walk over its keys -/
theorem Exs.pin {x Q} {i : Nat} {kvs pin} (hi : st.σ i = some (.idict kvs pin)) (T : ∀ ob, Exs W F A x ⟨st.Γ, setS st.σ i (.idict kvs (some ob))⟩ Q) : Exs W F A x st Q := fun G ι s X => by
  obtain ⟨ob, hob⟩ := (X.hp.objs i _ hi).2.some
  obtain ⟨X2, E2⟩ := X.retag (o' := .idict kvs (some ob)) hi fun E r => by
    obtain ⟨us, a, b, c, _⟩ := r
    exact ⟨us, a, b.ext E, c, fun ob' e => by cases e; exact hob⟩
  exact Tr.use (T ob) X2 fun u s' st' ι' X' e' z => ⟨st', ι', X', E2.trans e', z⟩
theorem emptyDict {prog : Program} {w : World} {κ κ' : Type} [DecidableEq κ] [DecidableEq κ'] {k1 : KeyKind prog w κ} {k2 : KeyKind prog w κ'} {a : Addr} (D : h.DictOf k1 a []) : h.DictOf k2 a [] := by
  obtain ⟨o, es, ep, ho, hx, hd, hk, hp, hn⟩ := D
  have : es = #[] := by
    cases es with | mk l =>
    simp at hp
    cases hp; rfl
  subst this
  exact ⟨o, _, ep, ho, hx, hd, fun e he => by simp at he, .nil, by simp⟩
theorem Exs.toI {x Q} {i : Nat} (hi : st.σ i = some (.sdict [])) (T : ∀ ob, Exs W F A x ⟨st.Γ, setS st.σ i (.idict [] (some ob))⟩ Q) : Exs W F A x st Q := fun G ι s X => by
  obtain ⟨ob, hob⟩ := (X.hp.objs i _ hi).2.some
  obtain ⟨X2, E2⟩ := X.retag (o' := .idict [] (some ob)) hi fun E r => by
    obtain ⟨us, a, b, c⟩ := r
    cases b
    exact ⟨[], emptyDict a, .nil, c, fun ob' e => by cases e; exact hob⟩
  exact Tr.use (T ob) X2 fun u s' st' ι' X' e' z => ⟨st', ι', X', E2.trans e', z⟩
theorem Exs.tagOut {x} {Q : Fl → St → Prop} (i : Nat) (T : Exs W F A x st fun fl st' => (∃ pin, st'.σ i = some (.idict [] pin)) ∧ Q fl ⟨st'.Γ, setS st'.σ i (.sdict [])⟩) : Exs W F A x st Q := fun G ι s X => by
  refine Tr.use T X fun u s' st' ι' X' e' ⟨v, r, ⟨pin, hp⟩, q⟩ => ?_
  obtain ⟨X2, E2⟩ := X'.retag (o' := .sdict []) hp fun E r => by
    obtain ⟨us, a, b, c, _⟩ := r
    cases b
    exact ⟨[], emptyDict a, .nil, c⟩
  exact ⟨_, _, X2, e'.trans E2, v, r.ext E2, q⟩
end

theorem want_costs_spec {W : Wd} (hK : WK W) {A : Around} {n : Nat} (R : Room A (n + 1)) {σ : Sto} {c : Nat} (hc : σ c = some (.sdict [])) :
    Fn W A (.ref 67) [.ref c] σ fun v σ' => σ' = σ ∧ v = .none := by
  refine Fn.fin fun N hN hfr => ?_
  refine Fn.same (Fn.body ["costs"] R (by rw [hK.k]; rfl) (by rw [hK.k]; rfl) rfl rfl rfl rfl (bind1 fun _ => rfl) rfl (by decide) (by intro n; rfl) rfl rfl rfl fun Lc A' R' => ?_)
  refine Exs.tagOut c (Exs.toI hc fun ob => ?_)
  have cN : c < N := Nat.lt_of_not_le fun q => by rw [hfr c q] at hc; cases hc
  refine Exs.cons (Ex.iff (Is.cmp rfl (Ev.cfilter R'.handled N (fun y b => False) (Ev.name rfl ⟨by dsimp only; rw [setS_ne (by exact o177 cN)]; exact hfr N (Nat.le_refl _), [], .inr ⟨[], ob, setS_eq, rfl⟩, by simp, fun y out C hy => absurd hy (by simp), fun out ol h1 h2 => ?_⟩))))
  have : out = [] := by simpa using ol
  subst this
  have e1 : ∀ i, i ≠ c → i ≠ N → i ≠ N + 1 → setS (setS (setS σ c (.idict [] (some ob))) N (.list [])) (N + 1) (.list []) i = σ i := fun i a b d => by rw [setS_ne d, setS_ne b, setS_ne a]
  have ec : setS (setS (setS σ c (.idict [] (some ob))) N (.list [])) (N + 1) (.list []) c = some (.idict [] (some ob)) := by rw [setS_ne (by exact o199 cN), setS_ne (by exact o296 cN), setS_eq]
  refine Ev.list (N + 1) (Evs.nil ⟨by simp, by dsimp only; rw [setS_ne (by exact o124), setS_ne (by exact o461 cN)]; exact hfr _ (by exact o125), Cop.neNil (by have := R'.units'; exact o147 this) ((setS_ne (by exact o148)).trans setS_eq) setS_eq ?_⟩)
  rw [if_neg (by simp)]
  refine Exs.nil (Exs.nil ⟨⟨_, ec⟩, fun i hi => ?_, rfl, rfl⟩)
  by_cases q : i = c
  · subst q; dsimp only; rw [setS_eq, hc]
  · have n1 : i ≠ N := fun q => hi (hfr i (by exact o31 q))
    have n2 : i ≠ N + 1 := fun q => hi (hfr i (by exact o128 q))
    dsimp only
    rw [setS_ne q]
    exact e1 i q n1 n2

structure Dg (σ : Sto) : Prop where
  i : σ 160 = some (.inst 124 (some 161))
  d : σ 161 = some (.sdict [("heap", .ref 10), ("costs", .ref 162), ("most", .int 100), ("least", .ref 163)])
  c : σ 162 = some (.sdict [])

theorem d_init {W : Wd} (hK : WK W) {A : Around} {n : Nat} (R : Room A (n + 2)) {σ : Sto} (hi : σ 160 = some (.inst 124 (some 161))) (hd : σ 161 = some (.sdict [])) (hc : σ 162 = some (.sdict [])) (hl : σ 163 = none) (hh : σ 10 ≠ none) :
    Fn W A (.ref 88) [.ref 160, .ref 10, .ref 162, .int 100] σ fun v σ' => An3 (v = .none) (Dg σ') (Keep (fun i => i = 161 ∨ i = 163) σ σ') := by
  refine Fn.body ["self", "heap", "costs", "most"] R (by rw [hK.k]; rfl) (by rw [hK.k]; rfl) rfl rfl rfl rfl (bind4 fun _ _ _ _ => rfl) rfl (by decide) (by intro n; rfl) rfl rfl rfl fun Lc A' R' => ?_
  refine Exs.cons (Ex.drop (Ev.callOwn (nmwant_costs hK) (fk67 hK) (Evs.one (Ev.name rfl (Bi.of_fn ((want_costs_spec hK R' hc).mB ?_))))))
  refine ⟨.inl rfl, ?_⟩
  refine Exs.cons (Ex.assign (Ev.name rfl (As.attr (Ev.name rfl ⟨160, 124, 161, [], rfl, hi, hd, by simp, pa124_heap hK, ?_⟩))))
  refine Exs.hide fun σ1 h1 => ?_
  have k1 : ∀ i, i ≠ 161 → σ1 i = σ i := fun i a => by rw [h1]; dsimp only; rw [setS_ne a]
  have d1 : σ1 161 = some (.sdict [("heap", .ref 10)]) := by rw [h1]; dsimp only; rw [setS_eq]; rfl
  clear h1
  refine Exs.cons (Ex.assign (Ev.name rfl (As.attr (Ev.name rfl ⟨160, 124, 161, _, rfl, (k1 160 (by decide)).trans hi, d1, by simp, pa124_costs hK, ?_⟩))))
  refine Exs.hide fun σ2 h2 => ?_
  have k2 : ∀ i, i ≠ 161 → σ2 i = σ i := fun i a => by rw [h2]; dsimp only; rw [setS_ne a]; exact k1 i a
  have d2 : σ2 161 = some (.sdict [("heap", .ref 10), ("costs", .ref 162)]) := by rw [h2]; dsimp only; rw [setS_eq]; rfl
  clear h2
  refine Exs.cons (Ex.assign (Ev.name rfl (As.attr (Ev.name rfl ⟨160, 124, 161, _, rfl, (k2 160 (by decide)).trans hi, d2, by simp, pa124_most hK, ?_⟩))))
  refine Exs.hide fun σ3 h3 => ?_
  have k3 : ∀ i, i ≠ 161 → σ3 i = σ i := fun i a => by rw [h3]; dsimp only; rw [setS_ne a]; exact k2 i a
  have d3 : σ3 161 = some (.sdict [("heap", .ref 10), ("costs", .ref 162), ("most", .int 100)]) := by rw [h3]; dsimp only; rw [setS_eq]; rfl
  clear h3
  refine Exs.cons (Ex.assign (Ev.dict0I 163 ((k3 163 (by decide)).trans hl) (As.attr (Ev.name rfl ⟨160, 124, 161, _, rfl, sn σ3 163 (.idict []) ((k3 160 (by decide)).trans hi), sn σ3 163 (.idict []) d3, by simp, pa124_least hK, ?_⟩))))
  refine Exs.hide fun σ4 h4 => ?_
  have k4 : ∀ i, i ≠ 161 → i ≠ 163 → σ4 i = σ i := fun i a b => by rw [h4]; dsimp only; rw [setS_ne a, setS_ne b]; exact k3 i a
  have d4 : σ4 161 = some (.sdict [("heap", .ref 10), ("costs", .ref 162), ("most", .int 100), ("least", .ref 163)]) := by rw [h4]; dsimp only; rw [setS_eq]; rfl
  exact Exs.nil ⟨rfl, ⟨(k4 160 (by decide) (by decide)).trans hi, d4, (k4 162 (by decide) (by decide)).trans hc⟩, fun i _ n => k4 i (by exact o462 n) (by exact o463 n)⟩

theorem d_price {W : Wd} (hK : WK W) {A : Around} {n : Nat} (R : Room A (n + 1)) {σ : Sto} (D : Dg σ) {nd : Node} (hl : nd.2.length ≤ 900) :
    Fn W A (.ref 95) [.ref 160, nodeV nd] σ fun v σ' => σ' = σ ∧ v = .int 1 := by
  refine Fn.body ["self", "node"] R (by rw [hK.k]; rfl) (by rw [hK.k]; rfl) rfl rfl rfl rfl (bind2 fun _ _ => rfl) rfl (by decide) (by intro n; rfl) rfl rfl rfl fun Lc A' R' => ?_
  exact Exs.cons (Ex.ret (Ev.dm PySem.F.slot_dict_get PySem.F.type_dict_get (Ev.at rfl D.i D.d (pa124_costs hK) rfl ⟨162, rfl, .inr (.inl ⟨_, D.c⟩), Evs.two (Ev.sub (Ev.name rfl (Ev.intC (Gop.tup (v := .str nd.1) (by decide) rfl (by simp; exact o464 hl) (Ev.intC (Bi.getS D.c rfl ⟨rfl, rfl⟩))))))⟩)))
end Mine

open PySem PySem.W PyProof.Rows PySem.SeqAt PySem.Calls
set_option Elab.async false
set_option maxRecDepth 100000
set_option linter.unusedVariables false
set_option pp.maxSteps 600
set_option pp.deepTerms false
namespace Mine



section
variable {W : Wd} {F : Fx} {A : Around} {st : St}
/-- `y = [x for x in iter if c]`, nothing else turning -/
theorem Ex.afilter {y0 : Str} {py : Pos} {pa : Pos} {c iter : Expr} {x : Str} {px pe pos : Pos} {scope : Scope} {Q : Fl → St → Prop} (hh : A.handled = none) (acc : Nat) (P : V → Bool → Prop)
    (T : Ev W F A iter st fun v st1 => st1.σ acc = none ∧ ∃ vs, An4 (IterOf v st1 vs) (vs.length ≤ 1000) (∀ y out C, y ∈ vs → Is W (compFx F scope C) A c ⟨setG (compΓ scope st1.Γ) x y, setS st1.σ acc (.list out)⟩ fun b st' => st' = ⟨setG (compΓ scope st1.Γ) x y, setS st1.σ acc (.list out)⟩ ∧ P y b) (∀ out, out.length ≤ vs.length → (∀ w ∈ out, w ∈ vs ∧ P w true) → (∀ w ∈ vs, w ∈ out ∨ P w false) → As W F A (.Name y0 py) (.ref acc) ⟨st1.Γ, setS st1.σ acc (.list out)⟩ (Q .next)))
    (hsw : swapsWith (.ListComp (.Name x pe) [⟨.Name x px, iter, [c], 0⟩] scope pos) (some (.Name y0 py)) pa.line F.env = pure true := by rfl)
    (hf : okFree F.env scope.names = true := by rfl) (hc : okComp scope.names = true := by rfl) (hkind : scope.kind = .function := by rfl)
    (hs : ∀ x, foldedSetIterable iter F.env x = pure x := by intro _; rfl) (hx : scope.names.lookup x = some .local := by rfl) (hd : (x == ("__debug__" : Str)) = false := by decide) : Ex W F A (.Assign [.Name y0 py] (.ListComp (.Name x pe) [⟨.Name x px, iter, [c], 0⟩] scope pos) pa) st Q :=
  Ex.assignComp hh acc (T.mono fun v st1 ⟨ha, vs, hv, hz, turn, fini⟩ => ⟨ha, vs, hv, fun C => by
    obtain ⟨Γ1, σ1⟩ := st1
    dsimp only at ha hv turn fini ⊢
    have kx : (compFx F scope C).env.kindOf x = some .local := by
      show (relabel scope F.env).names.lookup x = _
      rw [relabel_lookup, hx]; rfl
    refine Lp.filter (vs := vs) hh (hv.setS ha) setS_eq hz (fun n out σ' => An3 (∀ j, j ≠ acc → σ' j = σ1 j) (∀ w ∈ out, w ∈ vs ∧ P w true) (∀ w ∈ vs.take n, w ∈ out ∨ P w false)) ⟨fun j hj => setS_ne hj, by simp, by simp⟩ (fun n out σ' ⟨h, _, _⟩ i e => ?_) (fun n y out σ' hy ⟨h, hP, hR⟩ hl ho => ?_) (fun out σ' ⟨h, hP, hR⟩ hl ho => ⟨(by rw [ho]; exact fun z => nomatch z), ?_⟩) hx hkind
    · have := hv.ne ha i e
      dsimp only
      rw [setS_ne this, h i this]
    · have es := eq_setS h ho
      subst es
      have hm : y ∈ vs := List.mem_of_getElem? hy
      refine (turn y out C hm).mono fun b st' ⟨e, p⟩ => ?_
      subst e
      have tk : vs.take (n + 1) = vs.take n ++ [y] := by rw [List.take_add_one, hy]; rfl
      refine ⟨rfl, setS_eq, ?_⟩
      cases b with
      | true =>
        rw [if_pos rfl]
        refine Ev.local lookup_setG_self ⟨rfl, setS_eq, fun j hj => by dsimp only; rw [setS_ne hj, setS_ne hj], fun w hw => ?_, fun w hw => ?_⟩ kx hkind hd
        · rcases List.mem_append.mp hw with hw | hw
          · exact hP w hw
          · simp at hw; subst hw; exact ⟨hm, p⟩
        · rw [tk] at hw
          rcases List.mem_append.mp hw with hw | hw
          · exact (hR w hw).imp (fun z => List.mem_append_left _ z) id
          · simp at hw; subst hw; exact .inl (by simp)
      | false =>
        rw [if_neg (by simp)]
        refine ⟨h, hP, fun w hw => ?_⟩
        rw [tk] at hw
        rcases List.mem_append.mp hw with hw | hw
        · exact hR w hw
        · simp at hw; subst hw; exact .inr p
    · rw [eq_setS h ho]; rw [List.take_length] at hR; exact fini out hl hP hR⟩) hsw hf hc hkind hs

end

abbrev Row := Nat × Node × List Int
def rowV (cost : Int) (r : Row) : V := .tup [.ref r.1, .tup (r.2.2.map .int), .int (cost + 1)]
/-- one of the choices -/
structure Good (nA : Nat) (ch : Cho) (c0 : Int) (ws : List Int) (τ : Sto) (r : Row) : Prop where
  more : τ r.1 = some (.idict (choV (ch ++ [(c0, r.2.1)])))
  two : r.2.1.2.length ≤ 2
  rng : ∀ x ∈ r.2.1.2, 0 ≤ x ∧ x < nA
  ring : ¬ Rch ch r.2.1.2 c0
  from_ : ∀ x ∈ r.2.2, x ∈ ws ∨ x ∈ r.2.1.2
  new : ∀ x ∈ r.2.2, nodeAt (ch ++ [(c0, r.2.1)]) x = none
  nd : r.2.2.Nodup

theorem d_choices {W : Wd} (hK : WK W) {A : Around} {n : Nat} (R : Room A (n + 5)) {σ : Sto} {ns above M t wl s} (H : Hs ns above M t wl s σ) (D : Dg σ) (h300 : σ 300 = none) (h301 : σ 301 = none) {c : Nat} {ch : Cho} {pin} (hc : σ c = some (.idict (choV ch) pin)) (C : ChOk ch) (hcl : ch.length ≤ 7)
    {c0 : Int} {ws : List Int} {cost : Int} (hc0 : 0 ≤ c0 ∧ c0 < above.length) (hnew : nodeAt ch c0 = none) (hws : ws.length ≤ 20) :
    Fn W A (.ref 114) [.ref 160, .ref c, .tup ((c0 :: ws).map .int), .int cost] σ fun v σ' => Sm2 fun (f : Nat) (rows : List Row) => An5 (v = .ref f) (σ' f = some (.list (rows.map (rowV cost)))) (rows.length ≤ 7) (∀ r ∈ rows, Good above.length ch c0 ws σ' r) (Keep (fun _ => False) σ σ') := by
  refine Fn.fin fun N hN hfr => ?_
  refine Fn.body ["self", "chosen", "wanted", "cost"] R (by rw [hK.k]; rfl) (by rw [hK.k]; rfl) rfl rfl rfl rfl (bind4 fun _ _ _ _ => rfl) rfl (by decide) (by intro n; rfl) rfl rfl rfl fun Lc A' R' => ?_
  have hl7 := H.len
  have cN : c < N := Nat.lt_of_not_le fun q => by rw [hfr c q] at hc; cases hc
  refine Exs.cons (Ex.swap2 R'.handled (Ev.tuple (Evs.two (Ev.sub (Ev.name rfl (Ev.intC (Gop.tup (v := .int c0) (by decide) rfl (by simp; exact o465 hws) (Ev.list N (Evs.nil ⟨by simp, hfr N (Nat.le_refl _), by simp, _, _, rfl, ?_⟩)))))))))
  generalize hΓ1 : setG (setG ((["self", "chosen", "wanted", "cost"] : List Str).zip [V.ref 160, .ref c, .tup ((c0 :: ws).map .int), .int cost]) "found" (.ref N)) "c" (.int c0) = Γ1
  let XS : List Str := ["node", "more", "late"]
  have gself : ∀ {Γ}, Γeq XS Γ1 Γ → Γ.lookup ("self" : Str) = some (.ref 160) := fun h => h.at (by rw [← hΓ1]; rfl)
  have gch : ∀ {Γ}, Γeq XS Γ1 Γ → Γ.lookup ("chosen" : Str) = some (.ref c) := fun h => h.at (by rw [← hΓ1]; rfl)
  have gw : ∀ {Γ}, Γeq XS Γ1 Γ → Γ.lookup ("wanted" : Str) = some (.tup ((c0 :: ws).map .int)) := fun h => h.at (by rw [← hΓ1]; rfl)
  have gcost : ∀ {Γ}, Γeq XS Γ1 Γ → Γ.lookup ("cost" : Str) = some (.int cost) := fun h => h.at (by rw [← hΓ1]; rfl)
  have gf : ∀ {Γ}, Γeq XS Γ1 Γ → Γ.lookup ("found" : Str) = some (.ref N) := fun h => h.at (by rw [← hΓ1]; rfl)
  have gc : ∀ {Γ}, Γeq XS Γ1 Γ → Γ.lookup ("c" : Str) = some (.int c0) := fun h => h.at (by rw [← hΓ1]; rfl)
  have K1 : Keep (fun _ => False) σ (setS σ N (.list [])) := Keep.refl.set (.inr ⟨hN, hfr N (Nat.le_refl _)⟩)
  have kD : ∀ {τ}, Keep (fun _ => False) σ τ → Dg τ := fun K => ⟨(K _ (.inl (by decide)) id).trans D.i, (K _ (.inl (by decide)) id).trans D.d, (K _ (.inl (by decide)) id).trans D.c⟩
  have H1 := H.keep K1
  have D1 := kD K1
  show Exs W _ A' _ ⟨Γ1, setS σ N (.list [])⟩ _
  refine Exs.cons (Ex.for R'.handled (Ev.mth2 (gself .refl) D1.i D1.d (pa124_heap hK) rfl H1.i H1.d (pm452_nodes_of hK) (fk430 hK) (Evs.one (Ev.name (gc .refl) (Bi.of_fn ((h_nodes_of hK R' H1 hc0.1 hc0.2 (N + 1) ((setS_ne (by exact o124)).trans (hfr _ (by exact o125)))).mA2 fun σ2 ⟨nds, e2, hne, hnl, hnr⟩ => ?_))))))
  have K2 : Keep (fun _ => False) σ σ2 := by rw [e2]; exact K1.set (.inr ⟨by exact o318 hN, hfr _ (by exact o125)⟩)
  refine ⟨nds.map nodeV, fun m st => An4 (Γeq XS Γ1 st.Γ) (Keep (fun _ => False) σ st.σ) (st.σ (N + 1) = some (.list (nds.map nodeV))) (∃ rows : List Row, An3 (st.σ N = some (.list (rows.map (rowV cost)))) (rows.length ≤ m) (∀ r ∈ rows, Good above.length ch c0 ws st.σ r ∧ r.1 ≠ N)),
    .inl (by dsimp only; rw [e2, setS_eq]), ⟨.refl, K2, by dsimp only; rw [e2, setS_eq], [], by dsimp only; rw [e2, setS_ne (by exact o148), setS_eq]; rfl, by simp, by simp⟩, fun m st' ⟨_, _, h, _⟩ i e => ?_, fun m y st' hy ⟨hΓ, K3, hN1, rows, hrows, hrl, hrg⟩ => ?_, fun st' ⟨hΓ, K3, hN1, rows, hrows, hrl, hrg⟩ => ?_⟩
  · cases e; rw [h, e2]; exact setS_eq.symm
  · obtain ⟨Γ, τ⟩ := st'
    dsimp only at hΓ K3 hN1 hrows hrg
    have hm : m < nds.length := by
      rcases Nat.lt_or_ge m nds.length with z | z
      · exact z
      · rw [List.getElem?_eq_none (by simpa using z)] at hy; cases hy
    rw [List.getElem?_map, Option.map_eq_some_iff] at hy
    obtain ⟨nd, hnd, rfl⟩ := hy
    have hnr' := hnr nd (List.mem_of_getElem? hnd)
    have cτ : τ c = some (.idict (choV ch) pin) := (K3 c (.inr (by rw [hc]; exact fun z => nomatch z)) id).trans hc
    refine As.local ?_
    have hΓ' := hΓ.set (x := "node") (v := nodeV nd) rfl
    have ln : (setG Γ "node" (nodeV nd)).lookup ("node" : Str) = some (nodeV nd) := lookup_setG_self
    generalize setG Γ "node" (nodeV nd) = Γ2 at hΓ' ln
    have ow := owes_le2 C.two
    refine Exs.cons (Ex.iff (Is.not (Is.plain (Ev.callOwn (nmis_reached hK) (fk74 hK) (Evs.three (Ev.name (gch hΓ') (Ev.tailN (Ev.name ln ⟨nd, .inl rfl, by exact o206 hnr', Ev.name (gc hΓ') (Bi.of_fn ((is_reached_spec hK (R'.less (by exact o466 : 2 ≤ n + 4)) cτ (.inr rfl) ((K3 300 (.inl (by decide)) id).trans h300) ((K3 301 (.inl (by decide)) id).trans h301) (by exact o467 hcl hnr' ow)).mD2 fun b hb => ?_))⟩))))))))
    refine ⟨b, rfl, ?_⟩
    cases b with
    | true =>
      rw [if_neg (by simp)]
      exact Exs.nil (Exs.nil ⟨hΓ', K3, hN1, rows, hrows, by exact o468 hrl, hrg⟩)
    | false =>
    rw [if_pos (by simp)]
    have noR : ¬ Rch ch nd.2 c0 := fun z => by have := hb.mpr z; cases this
    refine Exs.fin fun P hP hfrP => ?_
    have hfrP' : ∀ i, P ≤ i → τ i = none := hfrP
    have NP : N + 1 < P := Nat.lt_of_not_le fun q => by rw [hfrP' (N + 1) q] at hN1; cases hN1
    have clen : (choV ch).length = ch.length := by simp [choV]
    refine Exs.cons (Ex.assign (Ev.b (nbdict hK) (Evs.one (Ev.name (gch hΓ') (Bi.dictI (j := P) cτ (hfrP' P (Nat.le_refl _)) (by exact o469 hcl clen) (As.cell ?_))))))
    have hΓ3 := hΓ'.set (x := "more") (v := .ref P) rfl
    have ln3 : (setG Γ2 "more" (.ref P)).lookup ("node" : Str) = some (nodeV nd) := lkS ln
    have lm3 : (setG Γ2 "more" (.ref P)).lookup ("more" : Str) = some (.ref P) := lookup_setG_self
    generalize setG Γ2 "more" (.ref P) = Γ3 at hΓ3 ln3 lm3
    show Exs W _ A' _ ⟨Γ3, setS τ P (.idict (choV ch))⟩ _
    refine Exs.cons (Ex.assign (Ev.name ln3 (As.sub (Ev.name lm3 (Ev.name (gc hΓ3) (Sop.idict setS_eq (by exact o469 hcl clen) ?_))))))
    rw [storedV_cho, choSet_new hnew]
    refine Exs.hide fun σ5 h5 => ?_
    have k5 : ∀ i, i ≠ P → σ5 i = τ i := fun i a => by rw [h5]; dsimp only; rw [setS_ne a, setS_ne a]
    have m5 : σ5 P = some (.idict (choV (ch ++ [(c0, nd)]))) := by rw [h5]; dsimp only; rw [setS_eq]
    clear h5
    have fr5 : ∀ i, P < i → σ5 i = none := fun i hi => by rw [k5 i (by exact o177 hi)]; exact hfrP' i (by exact o47 hi)
    have hlen9 : ws.length + nd.2.length ≤ 22 := by exact o470 hws hnr'
    refine Exs.cons (Ex.afilter R'.handled (P + 1) (fun y b => ∀ x, y = .int x → b = true → nodeAt (ch ++ [(c0, nd)]) x = none) (Ev.bin (Ev.tail (Ev.name (gw hΓ3) ⟨.int c0, ws.map .int, rfl, by simp; exact o471 hlen9, Ev.tailN (Ev.name ln3 ⟨nd, .inl rfl, by exact o472 hlen9, Bop.addT (by simp; exact o471 hlen9) (by simp; exact o472 hlen9) ⟨fr5 _ (by exact o67), ws.map V.int ++ nd.2.map V.int, rfl, by simp; exact o473 hlen9, fun y out Cc hy => ?_, fun out ol h1 h2 => As.local ?_⟩⟩)⟩))))
    · obtain ⟨x, rfl⟩ : ∃ x, y = .int x := by
        rcases List.mem_append.mp hy with hy | hy <;> obtain ⟨x, _, rfl⟩ := List.mem_map.mp hy <;> exact ⟨x, rfl⟩
      refine Is.cmp rfl (Ev.name lookup_setG_self (Ev.name (lkS (by rw [compΓ_lookup]; exact lm3)) (Cop.notInI ((setS_ne (by exact o148)).trans m5) ⟨rfl, fun x' e hb' => ?_⟩)))
      cases e
      rw [atV_cho] at hb'
      cases q : nodeAt (ch ++ [(c0, nd)]) x with
      | none => rfl
      | some z => rw [q] at hb'; simp at hb'
    obtain ⟨ls, rfl⟩ := intsOf (vs := out) fun w hw => by
      have := (h1 w hw).1
      rcases List.mem_append.mp this with hy | hy <;> obtain ⟨x, _, rfl⟩ := List.mem_map.mp hy <;> exact ⟨x, rfl⟩
    simp only [List.length_map, List.length_append] at ol
    have hls : ∀ x ∈ ls, (x ∈ ws ∨ x ∈ nd.2) ∧ nodeAt (ch ++ [(c0, nd)]) x = none := fun x hx => by
      obtain ⟨a, b⟩ := h1 (.int x) (List.mem_map_of_mem hx)
      refine ⟨?_, b x rfl rfl⟩
      rcases List.mem_append.mp a with hy | hy <;> obtain ⟨x', hx', e⟩ := List.mem_map.mp hy <;> cases e
      · exact .inl hx'
      · exact .inr hx'
    have hΓ4 := hΓ3.set (x := "late") (v := .ref (P + 1)) rfl
    have ln4 : (setG Γ3 "late" (.ref (P + 1))).lookup ("node" : Str) = some (nodeV nd) := lkS ln3
    have lm4 : (setG Γ3 "late" (.ref (P + 1))).lookup ("more" : Str) = some (.ref P) := lkS lm3
    have ll4 : (setG Γ3 "late" (.ref (P + 1))).lookup ("late" : Str) = some (.ref (P + 1)) := lookup_setG_self
    generalize setG Γ3 "late" (.ref (P + 1)) = Γ4 at hΓ4 ln4 lm4 ll4
    show Exs W _ A' _ ⟨Γ4, setS σ5 (P + 1) (.list (ls.map .int))⟩ _
    have r4 : τ N = some (.list (rows.map (rowV cost))) := hrows
    refine Exs.cons (Ex.drop (Ev.lm PySem.F.slot_list_append PySem.F.type_list_append (Ev.name (gf hΓ4) ⟨N, rows.map (rowV cost), rfl, by dsimp only; rw [setS_ne (by exact o474 NP), k5 N (by exact o475 NP)]; exact r4, Evs.one (Ev.tuple (Evs.three (Ev.name lm4 (Ev.b (nbtuple hK) (Evs.one (Ev.sortedSetI R'.handled (P + 2) (nbsorted hK) (nbset hK) rfl (T := Ev.name ll4 ⟨ls, .inl ⟨P + 1, rfl, setS_eq⟩, by exact o476 hlen9 ol, by dsimp only; rw [setS_ne (by exact o183)]; exact fr5 _ (by exact o184), fun rs hmem hrl2 hrn => Bi.tupleL setS_eq (by simp; exact o477 hlen9 ol hrl2) ?_⟩)))))))⟩)))
    have K6 : Keep (fun _ => False) σ (setS (setS σ5 (P + 1) (.list (ls.map .int))) (P + 2) (.list (rs.map .int))) := fun i hi h => by
      have hP' : i < P := by
        rcases hi with hi | hi
        · exact o459 hP hi
        · exact Nat.lt_of_not_le fun q => by
            have := K3 i (.inr hi) id
            rw [hfrP' i q] at this
            exact hi this.symm
      rw [setS_ne (by exact o198 hP'), setS_ne (by exact o199 hP'), k5 i (by exact o296 hP')]
      exact K3 i hi id
    have D6 := kD K6
    refine Ev.bin (Ev.name (gcost hΓ4) (Ev.mth (gself hΓ4) D6.i D6.d (pm124_price hK) (fk95 hK) (Evs.one (Ev.name ln4 (Bi.of_fn ((d_price hK R' D6 (by exact o478 hlen9)).mB ?_))))))
    refine Bop.addI ⟨by simp, Bi.append (vs := rows.map (rowV cost)) ?_ (by simp; exact o479 hnl hrl hm) ⟨.inl rfl, ?_⟩⟩
    · dsimp only; rw [setS_ne (by exact o480 NP), setS_ne (by exact o474 NP), k5 N (by exact o475 NP)]; exact r4
    refine Exs.nil (Exs.nil ⟨hΓ4, ?_, ?_, rows ++ [(P, nd, rs)], ?_, by simp; omega, fun r hr => ?_⟩)
    · exact fun i hi h => by
        have : i ≠ N := by
          rcases hi with hi | hi
          · exact o126 hN hi
          · exact fun q => hi (hfr i (by exact o31 q))
        dsimp only
        rw [setS_ne this]; exact K6 i hi h
    · dsimp only; rw [setS_ne (by exact o124), setS_ne (by exact o481 NP), setS_ne (by exact o482 NP), k5 _ (by exact o483 NP)]; exact hN1
    · dsimp only; rw [setS_eq, List.map_append]; rfl
    · have put : ∀ i, i ≠ N → i < P → (setS (setS (setS σ5 (P + 1) (.list (ls.map .int))) (P + 2) (.list (rs.map .int))) N (.list (rows.map (rowV cost) ++ [.tup [.ref P, .tup (rs.map .int), .int (cost + 1)]]))) i = τ i := fun i a b => by
        rw [setS_ne a, setS_ne (by exact o198 b), setS_ne (by exact o199 b), k5 i (by exact o296 b)]
      rcases List.mem_append.mp hr with hr | hr
      · obtain ⟨g, gN⟩ := hrg r hr
        have hlt : r.1 < P := Nat.lt_of_not_le fun q => by have := g.more; rw [show τ r.1 = none from hfrP' r.1 q] at this; cases this
        exact ⟨⟨(put r.1 gN hlt).trans g.more, g.two, g.rng, g.ring, g.from_, g.new, g.nd⟩, gN⟩
      · simp at hr
        subst hr
        refine ⟨⟨?_, hnr'.1, fun x hx => by have := hnr'.2 x hx; omega, noR, fun x hx => (hls x ((hmem x).mp hx)).1, fun x hx => (hls x ((hmem x).mp hx)).2, hrn⟩, by exact o484 NP⟩
        dsimp only
        rw [setS_ne (by exact o484 NP), setS_ne (by exact o485), setS_ne (by exact o148)]; exact m5
  · obtain ⟨Γ, τ⟩ := st'
    dsimp only at hΓ K3 hN1 hrows hrg
    exact Exs.cons (Ex.ret (Ev.name (gf hΓ) ⟨N, rows, rfl, hrows, by simp at hrl; exact o486 hnl hrl, fun r hr => (hrg r hr).1, K3⟩))
end Mine

open PySem PySem.W PyProof.Rows PySem.SeqAt PySem.Calls
set_option Elab.async false
set_option maxRecDepth 100000
set_option linter.unusedVariables false
set_option pp.maxSteps 600
set_option pp.deepTerms false
namespace Mine



structure Wk (nA : Nat) (b : Int) (ch : Cho) (ws : List Int) : Prop where
  nd : (ch.map (·.1)).Nodup
  keys : ∀ p ∈ ch, 0 ≤ p.1 ∧ p.1 < nA
  two : ∀ p ∈ ch, p.2.2.length ≤ 2
  rng : ∀ p ∈ ch, ∀ x ∈ p.2.2, 0 ≤ x ∧ x < nA
  ring : NoRing ch
  kr : ∀ p ∈ ch, Rch ch [b] p.1
  wr : ∀ x ∈ ws, Rch ch [b] x
  wrng : ∀ x ∈ ws, 0 ≤ x ∧ x < nA
  wnew : ∀ x ∈ ws, nodeAt ch x = none
  wnd : ws.Nodup
theorem Wk.len {nA b ch ws} (K : Wk nA b ch ws) : ch.length ≤ nA := by
  have := nodup_len nA (ch.map (·.1)) K.nd fun x hx => by
    obtain ⟨p, hp, rfl⟩ := List.mem_map.mp hx
    exact K.keys p hp
  simpa using this
theorem Wk.wlen {nA b ch ws} (K : Wk nA b ch ws) : ws.length ≤ nA := nodup_len nA ws K.wnd K.wrng
theorem nodeAt_none {ch : Cho} {c : Int} (h : nodeAt ch c = none) : c ∉ ch.map (·.1) := fun hm => by
  obtain ⟨p, hp, e⟩ := List.mem_map.mp hm
  unfold nodeAt at h
  rw [Option.map_eq_none_iff, List.find?_eq_none] at h
  exact h p hp (by simpa using e)
theorem Wk.step {nA b ch c0 ws τ} {r : Row} (K : Wk nA b ch (c0 :: ws)) (G : Good nA ch c0 ws τ r) : Wk nA b (ch ++ [(c0, r.2.1)]) r.2.2 := by
  have hc := K.wnew c0 (by simp)
  have hc0 := K.wrng c0 (by simp)
  have rc : Rch (ch ++ [(c0, r.2.1)]) [b] c0 := (K.wr c0 (by simp)).grow hc
  have rk : ∀ x ∈ r.2.1.2, Rch (ch ++ [(c0, r.2.1)]) [b] x := fun x hx => .step rc (by rw [kidsOf_app hc, if_pos rfl]; exact hx)
  have spl : ∀ {P : Int × Node → Prop}, (∀ p ∈ ch, P p) → P (c0, r.2.1) → ∀ p ∈ ch ++ [(c0, r.2.1)], P p := fun h1 h2 p hp => by
    rcases List.mem_append.mp hp with hp | hp
    · exact h1 p hp
    · simp at hp; subst hp; exact h2
  refine ⟨?_, spl K.keys hc0, spl K.two G.two, spl K.rng G.rng, K.ring.app hc G.ring, spl (fun p hp => (K.kr p hp).grow hc) rc, fun x hx => ?_, fun x hx => ?_, G.new, G.nd⟩
  · rw [List.map_append, List.nodup_append]
    refine ⟨K.nd, by simp, fun a ha b hb e => ?_⟩
    simp at hb
    subst hb
    exact nodeAt_none hc (e ▸ ha)
  · rcases G.from_ x hx with h | h
    · exact (K.wr x (by simp [h])).grow hc
    · exact rk x h
  · rcases G.from_ x hx with h | h
    · exact K.wrng x (by simp [h])
    · exact G.rng x h
theorem Wk.ok {nA b ch ws} (K : Wk nA b ch ws) (h : nA ≤ 7) : ChOk ch := ⟨by have := K.len; exact o487 h this, K.two, fun p hp x hx => by have := K.rng p hp x hx; exact o488 h this⟩

theorem law_walk_spec {W : Wd} (hK : WK W) {A : Around} {n : Nat} (R : Room A (n + 6)) {σ : Sto} {ns above M t wl s} (H : Hs ns above M t wl s σ) (D : Dg σ) (h300 : σ 300 = none) (h301 : σ 301 = none) {k : Nat} (P : Dp k σ) (hk : k ≤ 8900) {b : Int} (hb : 0 ≤ b ∧ b < above.length) :
    Fn W A (.ref 480) [.ref 1, .ref 160, .int b] σ fun v σ' => Sm3 fun (d : Nat) (ch : Cho) (ws : List Int) => An4 (v = .tup [.ref d, .tup (ws.map .int), .int ch.length]) (σ' d = some (.idict (choV ch))) (Wk above.length b ch ws) (Keep (fun i => i = 1) σ σ') := by
  have hl7 := H.len
  refine Fn.fin fun N hN hfr => ?_
  refine Fn.body ["pail", "dags", "begin"] R (by rw [hK.k]; rfl) (by rw [hK.k]; rfl) rfl rfl rfl rfl (bind3 fun _ _ _ => rfl) rfl (by decide) (by intro n; rfl) rfl rfl rfl fun Lc A' R' => ?_
  refine Exs.cons (Ex.assign (Ev.tuple (Evs.three (Ev.dict0I N (hfr N (Nat.le_refl _)) (Ev.tuple (Evs.one (Ev.name rfl ⟨by simp, Ev.intC ⟨by simp, As.local ?_⟩⟩)))))))
  generalize hΓ1 : setG ((["pail", "dags", "begin"] : List Str).zip [V.ref 1, .ref 160, .int b]) "here" (.tup [.ref N, .tup [.int b], .int 0]) = Γ1
  have gp : ∀ {Γ}, Γeq ["here", "rows"] Γ1 Γ → Γ.lookup ("pail" : Str) = some (.ref 1) := fun h => h.at (by rw [← hΓ1]; rfl)
  have gd : ∀ {Γ}, Γeq ["here", "rows"] Γ1 Γ → Γ.lookup ("dags" : Str) = some (.ref 160) := fun h => h.at (by rw [← hΓ1]; rfl)
  have K0 : Keep (fun i => i = 1) σ (setS σ N (.idict [])) := Keep.refl.set (.inr ⟨hN, hfr N (Nat.le_refl _)⟩)
  have W0 : Wk above.length b [] [b] := ⟨by simp, by simp, by simp, by simp, fun k nd h => by simp [nodeAt] at h, by simp, fun x hx => .base hx, fun x hx => by simp at hx; subst hx; exact hb, fun x hx => rfl, by simp⟩
  have fini : ∀ {Γ : List (Str × V)} {τ : Sto} {d : Nat} {ch : Cho} {ws : List Int}, Γ.lookup ("here" : Str) = some (V.tup [V.ref d, V.tup (ws.map V.int), V.int (ch.length : Nat)]) → τ d = some (.idict (choV ch)) → Wk above.length b ch ws → Keep (fun i => i = 1) σ τ →
      Γ.lookup ("here" : Str) = some (V.tup [V.ref d, V.tup (ws.map V.int), V.int (ch.length : Nat)]) ∧ Sm3 fun (d' : Nat) (ch' : Cho) (ws' : List Int) => An4 (V.tup [V.ref d, V.tup (ws.map V.int), V.int (ch.length : Nat)] = .tup [.ref d', .tup (ws'.map .int), .int ch'.length]) (τ d' = some (.idict (choV ch'))) (Wk above.length b ch' ws') (Keep (fun i => i = 1) σ τ) :=
    fun {Γ τ d ch ws} a b c e => ⟨a, d, ch, ws, rfl, b, c, e⟩
  show Exs W _ A' _ ⟨Γ1, setS σ N (.idict [])⟩ _
  refine Exs.cons (Ex.while (fun m st => An3 (Γeq ["here", "rows"] Γ1 st.Γ) (Keep (fun i => i = 1) σ st.σ) (Sm3 fun (d : Nat) (ch : Cho) (ws : List Int) => An5 (m = 8 - ch.length) (Dp (k + ch.length) st.σ) (st.Γ.lookup ("here" : Str) = some (.tup [.ref d, .tup (ws.map .int), .int ch.length])) (st.σ d = some (.idict (choV ch))) (Wk above.length b ch ws))) 8
    ⟨.refl, K0, N, [], [b], rfl, P.keep (setS_ne (by exact o412 hN)) (setS_ne (by exact o413 hN)), by rw [← hΓ1]; exact lookup_setG_self, setS_eq, W0⟩ ?_)
  rintro m ⟨Γ, τ⟩ ⟨hΓ, K1, d, ch, ws, hm, DP, lh, hd, WK1⟩
  dsimp only at hΓ K1 DP lh hd
  have hcl := WK1.len
  have hwl := WK1.wlen
  refine Is.cmp rfl (Ev.sub (Ev.name lh (Ev.intC (Gop.tup (v := .tup (ws.map .int)) (by decide) rfl (by simp) (Ev.tuple (Evs.nil ⟨by simp, Cop.neNilT (by have := R'.units'; exact o147 this) ?_⟩))))))
  rcases ws with _ | ⟨c0, ws⟩
  · rw [if_neg (by simp)]
    obtain ⟨e1, e2⟩ := fini lh hd WK1 K1
    exact Exs.cons (Ex.ret (Ev.name e1 e2))
  rw [if_pos (by simp)]
  have K1o : Keep XOut σ τ := K1.mono fun i h => by unfold XOut; exact o396 h
  have H1 := H.keepO K1o
  have lo1 : ∀ i, i < 1000 → i ≠ 1 → τ i = σ i := fun i a b => K1 i (.inl a) b
  have D1 : Dg τ := ⟨(lo1 160 (by decide) (by decide)).trans D.i, (lo1 161 (by decide) (by decide)).trans D.d, (lo1 162 (by decide) (by decide)).trans D.c⟩
  refine Exs.cons (Ex.assign (Ev.mth (gd hΓ) D1.i D1.d (pm124_choices hK) (fk114 hK) (Evs.three (Ev.sub (Ev.name lh (Ev.intC (Gop.tup (v := .ref d) (by decide) rfl (by simp) (Ev.sub (Ev.name lh (Ev.intC (Gop.tup (v := .tup ((c0 :: ws).map .int)) (by decide) rfl (by simp) (Ev.sub (Ev.name lh (Ev.intC (Gop.tup (v := .int ch.length) (by decide) rfl (by simp) (Bi.of_fn ((d_choices hK R' H1 D1 ((lo1 300 (by decide) (by decide)).trans h300) ((lo1 301 (by decide) (by decide)).trans h301) hd (WK1.ok hl7) (by exact o486 hl7 hcl) (WK1.wrng c0 (by simp)) (WK1.wnew c0 (by simp)) (by simp at hwl; exact o489 hl7 hwl)).mE5 fun f rows σ2 hf hrl hrg K2 => As.local ?_)))))))))))))))))
  refine Exs.fin fun P2 hP2 hfr2 => ?_
  have hfr2' : ∀ i, P2 ≤ i → σ2 i = none := hfr2
  have fP : f < P2 := Nat.lt_of_not_le fun q => by rw [hfr2' f q] at hf; cases hf
  have K12 : Keep (fun i => i = 1) σ σ2 := K1.trans (K2.mono fun i h => h.elim)
  have DP2 : Dp (k + ch.length) σ2 := DP.keep (K2 1 (.inl (by decide)) id) (K2 2 (.inl (by decide)) id)
  have K23 : Keep (fun i => i = 1) σ (setS σ2 P2 (.list [])) := K12.set (.inr ⟨hP2, by
    cases q : σ P2 with
    | none => rfl
    | some o =>
      have := K12 P2 (.inr (by rw [q]; exact fun z => nomatch z)) (by exact o418 hP2)
      rw [q, hfr2' P2 (Nat.le_refl _)] at this; cases this⟩)
  have DP3 : Dp (k + ch.length) (setS σ2 P2 (.list [])) := DP2.keep (setS_ne (by exact o412 hP2)) (setS_ne (by exact o413 hP2))
  have hf3 : setS σ2 P2 (.list []) f = some (.list (rows.map (rowV ch.length))) := (setS_ne (by exact o296 fP)).trans hf
  refine Exs.cons (Ex.iff (Is.cmp rfl (Ev.name lookup_setG_self (Ev.list P2 (Evs.nil ⟨by simp, hfr2' P2 (Nat.le_refl _), Cop.eqNil (by have := R'.units'; exact o147 this) hf3 setS_eq ?_⟩)))))
  have hΓ2 := hΓ.set (x := "rows") (v := .ref f) rfl
  have lh2 : (setG Γ "rows" (.ref f)).lookup ("here" : Str) = some (.tup [.ref d, .tup ((c0 :: ws).map .int), .int ch.length]) := lkS lh
  have lr2 : (setG Γ "rows" (.ref f)).lookup ("rows" : Str) = some (.ref f) := lookup_setG_self
  generalize setG Γ "rows" (.ref f) = Γ2 at hΓ2 lh2 lr2
  rcases rows with _ | ⟨r0, rows⟩
  · rw [if_pos (by simp)]
    have hdP : d ≠ P2 := fun q => by
      have := K2 d (.inr (by rw [hd]; exact fun z => nomatch z)) id
      rw [hd, q, hfr2' P2 (Nat.le_refl _)] at this; cases this
    have hd3 : setS σ2 P2 (.list []) d = some (.idict (choV ch)) := by rw [setS_ne hdP, K2 d (.inr (by rw [hd]; exact fun z => nomatch z)) id]; exact hd
    obtain ⟨e1, e2⟩ := fini lh2 hd3 WK1 K23
    exact Exs.cons (Ex.ret (Ev.name e1 e2))
  rw [if_neg (by simp)]
  generalize hrw : r0 :: rows = rs at *
  have hrs : 0 < rs.length := by rw [← hrw]; simp
  refine Exs.nil (Exs.cons (Ex.assign (Ev.sub (Ev.name lr2 (Ev.callOwn (nm_law_dip hK) (fk463 hK) (Evs.two (Ev.name (gp hΓ2) (Ev.b (nblen hK) (Evs.one (Ev.name lr2 (Bi.lenL hf3 (by simp; exact o149 hrl) (Bi.of_fn ((dip_spec hK (R'.less (by exact o490 : n + 1 ≤ n + 5)) DP3 (by exact o491 hk hl7 hcl) (by simp; omega)).mC fun q σ4 q0 q1 D4 K4 => ?_)))))))))))))
  rw [List.length_map] at q1
  have hq : q.toNat < rs.length := by exact o78 q0 q1
  have hf4 : σ4 f = some (.list (rs.map (rowV ch.length))) := (K4 f (.inr (by rw [hf3]; exact fun z => nomatch z)) (fun e => by rw [e] at hf3; obtain ⟨_, _, e1, _⟩ := DP3; rw [e1] at hf3; cases hf3)).trans hf3
  have hG := hrg rs[q.toNat] (List.getElem_mem hq)
  refine Gop.list (v := rowV ch.length rs[q.toNat]) hf4 q0 (by rw [List.getElem?_map]; simp [hq]) (by simp; exact o149 hrl) (As.local (Exs.nil ?_))
  have WK2 := WK1.step hG
  have cl2 := WK2.len
  simp only [List.length_append, List.length_singleton] at cl2
  refine ⟨8 - (ch.length + 1), by exact o492 hl7 hm cl2, hΓ2.set rfl, K23.trans K4, rs[q.toNat].1, ch ++ [(c0, rs[q.toNat].2.1)], rs[q.toNat].2.2, by simp, by simpa [Nat.add_assoc] using D4, ?_, ?_, WK2⟩
  · rw [show ((setG Γ2 "here" (rowV ch.length rs[q.toNat])).lookup ("here" : Str)) = _ from lookup_setG_self]
    simp [rowV]
  · have h1 := hG.more
    have nP : rs[q.toNat].1 ≠ P2 := fun e => by rw [e, hfr2' P2 (Nat.le_refl _)] at h1; cases h1
    have h2 : setS σ2 P2 (.list []) rs[q.toNat].1 = some (.idict (choV (ch ++ [(c0, rs[q.toNat].2.1)]))) := (setS_ne nP).trans h1
    exact (K4 _ (.inr (by rw [h2]; exact fun z => nomatch z)) (fun e => by rw [e] at h2; obtain ⟨_, _, e1, _⟩ := DP3; rw [e1] at h2; cases h2)).trans h2
end Mine

open PySem PySem.W PyProof.Rows PySem.SeqAt PySem.Calls
set_option Elab.async false
set_option maxRecDepth 100000
set_option linter.unusedVariables false
set_option pp.maxSteps 600
set_option pp.deepTerms false
namespace Mine



section
variable {W : Wd} {F : Fx} {A : Around} {st : St}
/-- `vs[:c]` of a list of numbers that stands still -/
theorem Ev.upto {value : Expr} {c : Int} {k : Nat} {p1 p2 pos : Pos} {Q} (j : Nat) (hc : 0 ≤ c) (T : Ev W F A value st fun o st1 => Sm3 fun (l : Addr) (us : List Value) (is : List Int) => An6 (o = .base l) (W.h₀.IsList l us.toArray) (PyProof.Rows.IntsAre us is) (is.length ≤ 1000) (st1.σ j = none) (Q (.ref j) ⟨st1.Γ, setS st1.σ j (.list ((is.take c.toNat).map .int))⟩)) (ht : ∀ o r, letTemporaryGo value o r = pure () := by intro _ _; rfl) : Ev W F A (.Subscript value (.Slice none (some (.Constant (.int c) k p1)) none p2) pos) st Q := fun G ι s X =>
  Subscript_ (T.use X fun uo s1 st1 ι1 X1 e1 ⟨o, ro, l, us, is, ho, hL, hI, hz, hj, q⟩ => by
    subst ho
    cases ro using Rep.baseE
    have hl : s1.heap.IsList l us.toArray := let ⟨ob, hob, r⟩ := hL; ⟨ob, X1.hp.all _ _ hob, r⟩
    have hz' := PyProof.Rows.IntsAre.length hI
    obtain ⟨Γ1, σ1⟩ := st1
    dsimp only at hj q
    rw [show eval (.Slice none (some (.Constant (.int c) k p1)) none p2) F.env = _ from arm_eval_Slice _ _ _ _ _]
    have tl : ∀ (lv : Value) (tk : Nat), (∃ t, lv = .int c t) → wpAny (model W.prog W.w) A (newFields "slice" [.none, lv, .none]) (fun i₂ s₂ => wpAny (model W.prog W.w) A (subscriptTail value (.Slice none (some (.Constant (.int c) k p1)) none p2) (.ref l) i₂)
        (fun a_1 s' => Po W F G s.heap st.σ ι s' (Vo Q a_1)) (fun _ _ => False) s₂) (fun _ _ => False) { s1 with toks := tk } := fun lv tk ⟨t, ht⟩ => by
      subst ht
      refine wpAny_newObj_type ?_ (by show (_ : Array Value).size ≤ sizeLine + 2; simp [sizeLine_eq])
      have kk : ∀ b o, s1.heap.get? b = some o → (s1.heap.push { cls := .type "slice", data := .fields #[.none, .int c t, .none] }).get? b = some o := fun b o e => Heap.get?_push_of_some _ e
      obtain ⟨X2, e2⟩ := X1.grow kk
      have pk := slice_ints_uptoW hI hc
      have back : ∀ (h : Heap) {us : List Value} {ns : List Int}, PyProof.Rows.IntsAre us ns → ∀ {σ ι}, Reps h σ ι (ns.map .int) us := fun h us ns z => by
        induction z with
        | nil => intro _ _; exact .nil
        | cons n t _ ih => intro _ _; exact .cons (.int n t) ih
      obtain ⟨X3, e3⟩ := X2.new (i := j) (a := (s1.heap.push { cls := .type "slice", data := .fields #[.none, .int c t, .none] }).objs.size) (o' := .list ((is.take c.toNat).map .int)) (h' := (s1.heap.push { cls := .type "slice", data := .fields #[.none, .int c t, .none] }).push { cls := .type "list", data := .seq (slicePick us.toArray none (some c) none) }) hj X2.hp.fresh (fun b o e => Heap.get?_push_of_some _ e) fun E =>
        ⟨(slicePick us.toArray none (some c) none).toList, ⟨0, by rw [Heap.get?_push_size _ rfl]⟩, back _ pk⟩
      refine subscriptTail_ops (Heap.IsList.typeIs (s := { heap := s1.heap.push { cls := .type "slice", data := .fields #[.none, .int c t, .none] }, gens := s1.gens, drawn := s1.drawn, toks := tk, os := s1.os }) (hl.push _)) list_getitem_lookup
        (wpAny_getItem_list_slice (hl.push _) (Heap.IsSliceOf.new ..) .none (.int c t) .none (by simp) ?_ (by rw [List.size_toArray, hz', sizeLine_eq]; exact o3 hz)) rfl (fun _ => ht _ _)
      exact ⟨_, _, X3, (e1.trans e2).trans e3, _, .newRef, q⟩
    refine wpAny_bind (wpAny_pure ?_)
    refine wpAny_bind (wpAny_holding (wpAny_bind (m := mkInt c) (wpAny_mkInt (wpAny_pure ?_))))
    refine wpAny_bind (wpAny_holding (wpAny_pure ?_))
    exact tl _ _ ⟨_, rfl⟩)
end
end Mine

open PySem PySem.W PyProof.Rows PySem.SeqAt PySem.Calls
set_option Elab.async false
set_option maxRecDepth 100000
set_option maxHeartbeats 4000000
set_option linter.unusedVariables false
set_option pp.maxSteps 600
set_option pp.deepTerms false
namespace Mine



/-- the state of the law behind the heap -/
structure Ls (cs : List Int) (ns : List Node) (above : List Int) (M t wl : Nat) (ch : Cho) (k lo : Nat) (σ : Sto) : Prop where
  H : Hs ns above M t wl 0 σ
  P : Dp k σ
  cho : σ 5 = some (.idict (choV ch))
  C : ChOk ch
  cl : σ 6 = some (.list (cs.map .int))
  h300 : σ 300 = none
  h301 : σ 301 = none
  free : ∀ i, 160 ≤ i → i < 170 → σ i = none
  low : ∀ i, lo ≤ i → i < 200 → σ i = none
  lo170 : 170 ≤ lo
theorem Ls.keepN {cs ns above M t wl ch k k' lo σ σ'} (L : Ls cs ns above M t wl ch k lo σ) (K : Keep (fun i => i = 1 ∨ i = lo) σ σ') (hlo : lo < 200) (P : Dp k' σ') : Ls cs ns above M t wl ch k' (lo + 1) σ' := by
  have h1 := L.lo170
  exact ⟨L.H.keepO (K.mono fun i h => by unfold XOut; exact o493 hlo h1 h), P, (K _ (.inl (by decide)) (by exact o494 h1)).trans L.cho, L.C, (K _ (.inl (by decide)) (by exact o495 h1)).trans L.cl, (K _ (.inl (by decide)) (by exact o496 hlo)).trans L.h300, (K _ (.inl (by decide)) (by exact o497 hlo)).trans L.h301, fun i a b => (K i (.inl (by exact o498 b)) (by exact o499 h1 a b)).trans (L.free i a b), fun i a b => (K i (.inl (by exact o500 b)) (by exact o501 h1 a)).trans (L.low i (by exact o44 a) b), by exact o502 h1⟩
theorem Ls.keep {cs ns above M t wl ch k k' lo σ σ'} (L : Ls cs ns above M t wl ch k lo σ) (K : Keep (fun i => i = 1) σ σ') (P : Dp k' σ') : Ls cs ns above M t wl ch k' lo σ' := by
  have h1 := L.lo170
  exact ⟨L.H.keepO (K.mono fun i h => by unfold XOut; exact o396 h), P, (K _ (.inl (by decide)) (by decide)).trans L.cho, L.C, (K _ (.inl (by decide)) (by decide)).trans L.cl, (K _ (.inl (by decide)) (by decide)).trans L.h300, (K _ (.inl (by decide)) (by decide)).trans L.h301, fun i a b => (K i (.inl (by exact o498 b)) (by exact o503 a)).trans (L.free i a b), fun i a b => (K i (.inl (by exact o500 b)) (by exact o504 h1 a)).trans (L.low i a b), h1⟩
theorem Ls.keep0 {cs ns above M t wl ch k lo σ σ'} (L : Ls cs ns above M t wl ch k lo σ) (K : Keep (fun _ => False) σ σ') : Ls cs ns above M t wl ch k lo σ' :=
  L.keep (K.mono fun _ h => h.elim) (L.P.keep (K 1 (.inl (by decide)) id) (K 2 (.inl (by decide)) id))
theorem Ls.setCh {cs ns above M t wl ch ch' k lo σ} (L : Ls cs ns above M t wl ch k lo σ) (C : ChOk ch') : Ls cs ns above M t wl ch' k lo (setS σ 5 (.idict (choV ch'))) := by
  have h1 := L.lo170
  exact ⟨L.H.keepO (Keep.refl.set (.inl (by unfold XOut; decide))), L.P.keep (setS_ne (by decide)) (setS_ne (by decide)), setS_eq, C, (setS_ne (by decide)).trans L.cl, (setS_ne (by decide)).trans L.h300, (setS_ne (by decide)).trans L.h301, fun i a b => (setS_ne (by exact o505 a)).trans (L.free i a b), fun i a b => (setS_ne (by exact o506 h1 a)).trans (L.low i a b), h1⟩

theorem kids_two {ch : Cho} (h : ∀ p ∈ ch, p.2.2.length ≤ 2) (c : Int) : (kidsOf ch c).length ≤ 2 := by
  unfold kidsOf nodeAt
  cases e : ch.find? (fun p => decide (p.1 = c)) with
  | none => simp
  | some p => exact h p (List.mem_of_find?_eq_some e)
theorem bne_of {r c : Bool} {p : Prop} (h1 : r = true ↔ p) (h2 : c = true ↔ p) : (r != c) = false := by
  have : r = c := by rw [Bool.eq_iff_iff, h1, h2]
  subst this; simp

theorem law_spec {W : Wd} (hK : WK W) {A : Around} {n : Nat} (R : Room A (n + 9)) {σ : Sto} {l : Addr} {us : List Value} {is : List Int} (hL : W.h₀.IsList l us.toArray) (hI : PyProof.Rows.IntsAre us is) (hl : is.length ≤ 63) (hf : ∀ i, i < 1000 → σ i = none) :
    Fn W A (.ref 485) [.base l] σ fun v σ' => v = .bool true := by
  refine Fn.body ["script"] R (by rw [hK.k]; rfl) (by rw [hK.k]; rfl) rfl rfl rfl rfl (bind1 fun _ => rfl) rfl (by decide) (by intro n; rfl) rfl rfl rfl fun Lc A' R' => ?_
  refine Exs.cons (Ex.assign (Ev.dict2 1 (hf _ (by decide)) (by decide) (Ev.cmap R'.handled 2 (fun m w => ∃ x : Int, w = .int x) (Ev.upto 4 (by decide) (Ev.name rfl ⟨l, us, is, rfl, hL, hI, by exact o507 hl, by dsimp only; rw [setS_ne (by decide)]; exact hf _ (by decide), ?_, (is.take 50).map .int, .inl (by dsimp only; rw [setS_eq]; rfl), by simp; exact o508, fun m y out C hy => ?_, fun out hol hP => ?_⟩)))))
  · dsimp only; rw [setS_ne (by decide), setS_ne (by decide)]; exact hf _ (by decide)
  · rw [List.getElem?_map, Option.map_eq_some_iff] at hy
    obtain ⟨x, _, rfl⟩ := hy
    exact Ev.bin (Ev.b (nbint hK) (Evs.one (Ev.name lookup_setG_self (Bi.intI (Ev.intC (Bop.modI (by decide) ⟨rfl, _, rfl⟩))))))
  obtain ⟨row, rfl⟩ := intsOf fun w hw => by
    obtain ⟨m, hm⟩ := List.getElem?_of_mem hw
    exact hP m w hm
  have hrow : row.length ≤ 50 := by simp at hol; exact o509 hol
  refine Ev.intC ⟨by dsimp only; rw [setS_ne (by decide), setS_ne (by decide), setS_eq], As.cell ?_⟩
  refine Exs.hide fun σ1 h1 => ?_
  have D1 : Dp 0 σ1 := ⟨row, 0, by rw [h1]; dsimp only; rw [setS_eq]; rfl, by rw [h1]; dsimp only; rw [setS_ne (by decide), setS_eq], hrow, by decide⟩
  have f1 : ∀ i, 5 ≤ i → i < 1000 → σ1 i = none := fun i a b => by rw [h1]; dsimp only; rw [setS_ne (by exact o510 a), setS_ne (by exact o511 a), setS_ne (by exact o512 a), setS_ne (by exact o510 a)]; exact hf i b
  clear h1
  generalize hΓ1 : setG ((["script"] : List Str).zip [V.base l]) "pail" (.ref 1) = Γ1
  have lp1 : Γ1.lookup ("pail" : Str) = some (.ref 1) := by rw [← hΓ1]; exact lookup_setG_self
  show Exs W _ A' _ ⟨Γ1, σ1⟩ _
  refine Exs.cons (Ex.swap2 R'.handled (Ev.tuple (Evs.two (Ev.callOwn (nm_law_heap hK) (fk468 hK) (Evs.one (Ev.name lp1 (Bi.of_fn ((law_heap_spec hK R' D1 (by decide) fun i a b => f1 i (by exact o513 a) (by exact o328 b)).mA4 fun σ2 D2 K2 ⟨ns, above, M, t, wl, hns, H2⟩ => ?_))))))))
  have hlen := H2.len
  have heq := H2.eq
  have lo2 : ∀ i, i < 1000 → i ≠ 1 → ¬ (10 ≤ i ∧ i < 150) → σ2 i = σ1 i := fun i a b c => K2 i (.inl a) (by unfold XL; exact o514 a b c)
  refine Ev.dict0I 5 ((lo2 5 (by decide) (by decide) (by decide)).trans (f1 _ (by decide) (by decide))) ⟨by simp, _, _, rfl, ?_⟩
  refine Exs.hide fun σ3 h3' => ?_
  have k3 : ∀ i, i ≠ 5 → σ3 i = σ2 i := fun i a => by rw [h3']; dsimp only; rw [setS_ne a]
  have c3 : σ3 5 = some (.idict []) := by rw [h3']; dsimp only; rw [setS_eq]
  clear h3'
  have K3 : Keep XOut σ2 σ3 := fun i _ n => k3 i (fun q => n (by subst q; exact .inl (by decide)))
  have H3 := H2.keepO K3
  have D3 : Dp 100 σ3 := (D2.keep (k3 1 (by decide)) (k3 2 (by decide))).le (by decide)
  have f3 : ∀ i, 6 ≤ i → i < 1000 → ¬ (10 ≤ i ∧ i < 150) → σ3 i = none := fun i a b c => by rw [k3 i (by exact o515 a), lo2 i b (by exact o516 a) c]; exact f1 i (by exact o517 a) b
  have lp2 : (setG (setG Γ1 "chosen" (.ref 5)) "heap" (.ref 10)).lookup ("pail" : Str) = some (.ref 1) := lkS (lkS lp1)
  have lh2 : (setG (setG Γ1 "chosen" (.ref 5)) "heap" (.ref 10)).lookup ("heap" : Str) = some (.ref 10) := lookup_setG_self
  have lc2 : (setG (setG Γ1 "chosen" (.ref 5)) "heap" (.ref 10)).lookup ("chosen" : Str) = some (.ref 5) := lkS lookup_setG_self
  generalize setG (setG Γ1 "chosen" (.ref 5)) "heap" (.ref 10) = Γ2 at lp2 lh2 lc2
  show Exs W _ A' _ ⟨Γ2, σ3⟩ _
  refine Exs.cons (Ex.assign (Ev.mth lh2 H3.i H3.d (pm452_classes hK) (fk418 hK) (Evs.nil (Bi.of_fn ((h_classes hK (R'.less (by exact o518 : n + 6 + 2 ≤ n + 8)) H3 (by exact o442 hns heq) 6 (f3 6 (by decide) (by decide) (by decide))).mA2 fun σ4 ⟨cs, e4, hne, hcl, hcr⟩ => As.cell ?_)))))
  have hcr' : ∀ x ∈ cs, 0 ≤ x ∧ x < above.length := fun x hx => ⟨(hcr x hx).1, (hcr x hx).lt⟩
  have k4 : ∀ i, i ≠ 6 → σ4 i = σ3 i := fun i a => by rw [e4, setS_ne a]
  have L4 : Ls cs ns above M t wl [] 100 170 σ4 := ⟨H3.keepO fun i _ n => k4 i (fun q => n (by subst q; exact .inl (by decide))), D3.keep (k4 1 (by decide)) (k4 2 (by decide)), (k4 5 (by decide)).trans c3, ⟨by simp, by simp, by simp⟩, by rw [e4, setS_eq], (k4 300 (by decide)).trans (f3 300 (by decide) (by decide) (by decide)), (k4 301 (by decide)).trans (f3 301 (by decide) (by decide) (by decide)), fun i a b => (k4 i (by exact o519 a)).trans (f3 i (by exact o520 a) (by exact o498 b) (by exact o521 a)), fun i a b => (k4 i (by exact o522 a)).trans (f3 i (by exact o523 a) (by exact o500 b) (by exact o524 a)), Nat.le_refl _⟩
  clear e4 k4 f3 D3 H3 K3 c3 k3 lo2 f1 D1 D2 H2 K2
  have lp4 : (setG Γ2 "classes" (.ref 6)).lookup ("pail" : Str) = some (.ref 1) := lkS lp2
  have lh4 : (setG Γ2 "classes" (.ref 6)).lookup ("heap" : Str) = some (.ref 10) := lkS lh2
  have lc4 : (setG Γ2 "classes" (.ref 6)).lookup ("chosen" : Str) = some (.ref 5) := lkS lc2
  have ll4 : (setG Γ2 "classes" (.ref 6)).lookup ("classes" : Str) = some (.ref 6) := lookup_setG_self
  generalize setG Γ2 "classes" (.ref 6) = Γ4 at lp4 lh4 lc4 ll4
  show Exs W _ A' _ ⟨Γ4, σ4⟩ _
  let XS : List Str := ["c", "nodes", "spot", "lap", "begin", "found", "before", "goal", "kids", "was", "picked", "wanted", "cost"]
  have gp : ∀ {Γ}, Γeq XS Γ4 Γ → Γ.lookup ("pail" : Str) = some (.ref 1) := fun h => h.at lp4
  have gh : ∀ {Γ}, Γeq XS Γ4 Γ → Γ.lookup ("heap" : Str) = some (.ref 10) := fun h => h.at lh4
  have gch : ∀ {Γ}, Γeq XS Γ4 Γ → Γ.lookup ("chosen" : Str) = some (.ref 5) := fun h => h.at lc4
  have gcl : ∀ {Γ}, Γeq XS Γ4 Γ → Γ.lookup ("classes" : Str) = some (.ref 6) := fun h => h.at ll4
  have csl : (cs.map V.int).length = cs.length := by simp
  have csp : 0 < cs.length := List.length_pos_iff.mpr hne
  /- the choices drawn -/
  refine Exs.cons (Ex.for R'.handled (Ev.name (gcl .refl) ⟨cs.map .int, fun m st => Γeq XS Γ4 st.Γ ∧ ∃ ch : Cho, ch.length ≤ m ∧ Ls cs ns above M t wl ch (100 + m) 170 st.σ, .inl L4.cl, ⟨.refl, [], by simp, L4⟩, fun m st' ⟨_, ch, _, L⟩ i e => ?_, fun m y st' hy ⟨hΓ, ch, hchl, L⟩ => ?_, fun st' ⟨hΓ, ch, hchl, L⟩ => ?_⟩))
  · cases e; exact L.cl.trans L4.cl.symm
  · obtain ⟨Γ, τ⟩ := st'
    dsimp only at hΓ L
    have hm : m < cs.length := by
      rcases Nat.lt_or_ge m cs.length with z | z
      · exact z
      · rw [List.getElem?_eq_none (by simpa using z)] at hy; cases hy
    rw [List.getElem?_map, Option.map_eq_some_iff] at hy
    obtain ⟨c, hc, rfl⟩ := hy
    have hcx := hcr' c (List.mem_of_getElem? hc)
    refine As.local (Exs.fin fun N hN hfr => ?_)
    have hfr' : ∀ i, N ≤ i → τ i = none := hfr
    refine Exs.cons (Ex.swap2 R'.handled (Ev.tuple (Evs.two (Ev.mth (lkS (gh hΓ)) L.H.i L.H.d (pm452_nodes_of hK) (fk430 hK) (Evs.one (Ev.name lookup_setG_self (Bi.of_fn ((h_nodes_of hK (R'.less (by exact o525 : n + 4 + 4 ≤ n + 8)) L.H hcx.1 hcx.2 N (hfr' N (Nat.le_refl _))).mA2 fun τ1 ⟨nds, e1, hnn, hnl, hnr⟩ => ?_))))))))
    have K1 : Keep (fun i => i = 1) τ τ1 := by rw [e1]; exact Keep.refl.set (.inr ⟨hN, hfr' N (Nat.le_refl _)⟩)
    have L1 := L.keep (k' := 100 + m) K1 (L.P.keep (by rw [e1, setS_ne (by exact o412 hN)]) (by rw [e1, setS_ne (by exact o413 hN)]))
    have n1 : τ1 N = some (.list (nds.map nodeV)) := by rw [e1, setS_eq]
    refine Ev.callOwn (nm_law_dip hK) (fk463 hK) (Evs.two (Ev.name (lkS (gp hΓ)) (Ev.intC (Bi.of_fn ((dip_spec hK (R'.less (by exact o526 : n + 7 + 1 ≤ n + 8)) L1.P (by exact o527 hlen hcl hm) (by decide)).mC fun q τ2 q0 q1 D2 K2 => ?_)))))
    refine ⟨by simp, _, _, rfl, ?_⟩
    have L2 := L1.keep K2 D2
    have n2 : τ2 N = some (.list (nds.map nodeV)) := (K2 N (.inr (by rw [n1]; exact fun z => nomatch z)) (by exact o418 hN)).trans n1
    have hΓ2 := ((hΓ.set (x := "c") (v := .int c) rfl).set (x := "spot") (v := .int q) rfl).set (x := "nodes") (v := .ref N) rfl
    have ln : (setG (setG (setG Γ "c" (.int c)) "spot" (.int q)) "nodes" (.ref N)).lookup ("nodes" : Str) = some (.ref N) := lookup_setG_self
    have ls : (setG (setG (setG Γ "c" (.int c)) "spot" (.int q)) "nodes" (.ref N)).lookup ("spot" : Str) = some (.int q) := lkS lookup_setG_self
    have lc : (setG (setG (setG Γ "c" (.int c)) "spot" (.int q)) "nodes" (.ref N)).lookup ("c" : Str) = some (.int c) := lkS (lkS lookup_setG_self)
    generalize setG (setG (setG Γ "c" (.int c)) "spot" (.int q)) "nodes" (.ref N) = Γ5 at hΓ2 ln ls lc
    show Exs W _ A' _ ⟨Γ5, τ2⟩ _
    refine Exs.cons (Ex.iff (Is.cmp rfl (Ev.name ls (Ev.intC (Cop.gtI ?_)))))
    by_cases hq : q > 0
    · rw [if_pos (by simpa using hq)]
      have nl : (nds.map nodeV).length = nds.length := by simp
      have np : 0 < nds.length := List.length_pos_iff.mpr hnn
      have r0 : 0 ≤ q.fmod ((nds.map nodeV).length : Nat) := by rw [Int.fmod_eq_emod_of_nonneg _ (by exact o528)]; exact Int.emod_nonneg _ (by exact o529 nl np)
      have r1 : q.fmod ((nds.map nodeV).length : Nat) < (nds.map nodeV).length := by rw [Int.fmod_eq_emod_of_nonneg _ (by exact o528)]; exact Int.emod_lt_of_pos _ (by exact o530 nl np)
      have hrr : (q.fmod ((nds.map nodeV).length : Nat)).toNat < nds.length := by exact o531 nl r0 r1
      have cvl : (choV ch).length = ch.length := by simp [choV]
      refine Exs.cons (Ex.assign (Ev.sub (Ev.name ln (Ev.bin (Ev.name ls (Ev.b (nblen hK) (Evs.one (Ev.name ln (Bi.lenL n2 (by exact o469 hnl nl) (Bop.modI (by exact o532 r0 r1) (Gop.list (v := nodeV nds[(q.fmod ((nds.map nodeV).length : Nat)).toNat]) n2 r0 (by rw [List.getElem?_map, List.getElem?_eq_getElem hrr]; rfl) (by exact o469 hnl nl) (As.sub (Ev.name (gch hΓ2) (Ev.name lc (Sop.idict L2.cho (by exact o533 hlen hcl hchl hm cvl) ?_)))))))))))))))
      rw [storedV_cho]
      have nr := hnr _ (List.getElem_mem hrr)
      refine Exs.nil (Exs.nil ⟨hΓ2, _, Nat.le_trans choSet_len (by exact o379 hchl), L2.setCh ⟨Nat.le_trans choSet_len (by exact o534 hlen hcl hchl hm), fun p hp => ?_, fun p hp x hx => ?_⟩⟩)
      · rcases choSet_mem hp with hp | rfl
        · exact L2.C.two p hp
        · exact nr.1
      · rcases choSet_mem hp with hp | rfl
        · exact L2.C.rng p hp x hx
        · have := nr.2 x hx; exact o488 hlen this
    · rw [if_neg (by simpa using hq)]
      exact Exs.nil (Exs.nil ⟨hΓ2, ch, by exact o468 hchl, L2⟩)
  obtain ⟨Γ, τ⟩ := st'
  dsimp only at hΓ L
  rw [csl] at hchl L
  have L110 : Ls cs ns above M t wl ch 110 170 τ := L.keep Keep.refl (L.P.le (by exact o535 hlen hcl))
  have cvl : (choV ch).length = ch.length := by simp [choV]
  have ow := owes_le2 L.C.two
  have chl8 := L.C.len
  clear L
  /- what was -/
  refine Exs.fin fun Nw hNw hfrw => ?_
  have hfrw' : ∀ i, Nw ≤ i → τ i = none := hfrw
  refine Exs.cons (Ex.assign (Ev.b (nbdict hK) (Evs.one (Ev.name (gch hΓ) (Bi.dictI (j := Nw) L110.cho (hfrw' Nw (Nat.le_refl _)) (by exact o536 cvl chl8) (As.local ?_))))))
  have Kw : Keep (fun _ => False) τ (setS τ Nw (.idict (choV ch))) := Keep.refl.set (.inr ⟨hNw, hfrw' Nw (Nat.le_refl _)⟩)
  have Lw := L110.keep0 Kw
  have hw : setS τ Nw (.idict (choV ch)) Nw = some (.idict (choV ch)) := setS_eq
  generalize setS τ Nw (.idict (choV ch)) = τw at Lw hw
  clear Kw L110 hfrw hfrw'
  let XT : List Str := ["c", "nodes", "spot", "lap", "begin", "found", "before", "goal", "kids", "picked", "wanted", "cost"]
  have hΓw := hΓ.set (x := "was") (v := .ref Nw) rfl
  have lw : (setG Γ "was" (.ref Nw)).lookup ("was" : Str) = some (.ref Nw) := lookup_setG_self
  have lp5 := gp hΓw
  have lh5 := gh hΓw
  have lc5 := gch hΓw
  have ll5 := gcl hΓw
  generalize setG Γ "was" (.ref Nw) = Γ5 at hΓw lw lp5 lh5 lc5 ll5
  clear gp gh gch gcl hΓw hΓ
  have gp : ∀ {Γ}, Γeq XT Γ5 Γ → Γ.lookup ("pail" : Str) = some (.ref 1) := fun h => h.at lp5
  have gh : ∀ {Γ}, Γeq XT Γ5 Γ → Γ.lookup ("heap" : Str) = some (.ref 10) := fun h => h.at lh5
  have gch : ∀ {Γ}, Γeq XT Γ5 Γ → Γ.lookup ("chosen" : Str) = some (.ref 5) := fun h => h.at lc5
  have gcl : ∀ {Γ}, Γeq XT Γ5 Γ → Γ.lookup ("classes" : Str) = some (.ref 6) := fun h => h.at ll5
  have gw : ∀ {Γ}, Γeq XT Γ5 Γ → Γ.lookup ("was" : Str) = some (.ref Nw) := fun h => h.at lw
  show Exs W _ A' _ ⟨Γ5, τw⟩ _
  /- some classes to begin from -/
  refine Exs.cons (Ex.for R'.handled (Ev.b (nbrange hK) (Evs.one (Ev.intC (Bi.range ⟨_, fun m st => An3 (Γeq XT Γ5 st.Γ) (Ls cs ns above M t wl ch (110 + 5 * m) (170 + m) st.σ) (st.σ Nw = some (.idict (choV ch))), ⟨rfl, by decide, by decide⟩, ⟨.refl, Lw, hw⟩, (fun m st' h i e => nomatch e), fun m y st' hy ⟨hΓ, L, hwas⟩ => ?_, fun st' ⟨hΓ, L, hwas⟩ => ?_⟩)))))
  · obtain ⟨Γ, τ1⟩ := st'
    dsimp only at hΓ L hwas
    have hm : m < 2 := by
      rcases Nat.lt_or_ge m 2 with z | z
      · exact z
      · rw [List.getElem?_eq_none (by simpa using z)] at hy; cases hy
    obtain ⟨N, hNe⟩ : ∃ N, N = 170 + m := ⟨_, rfl⟩
    have hNn : τ1 N = none := L.low N (by exact o537 hNe) (by exact o538 hm hNe)
    refine As.local ?_
    refine Exs.cons (Ex.assign (Ev.cmapS R'.handled N (fun m' out τ => An3 (Dp (110 + 5 * m + 1 + m') τ) (Keep (fun i => i = 1 ∨ i = 170 + m) τ1 τ) (∀ w ∈ out, ∃ r : Int, w = .int r ∧ r ∈ cs))
      (Ev.b (nbrange hK) (Evs.one (Ev.bin (Ev.intC (Ev.callOwn (nm_law_dip hK) (fk463 hK) (Evs.two (Ev.name (lkS (gp hΓ)) (Ev.intC (Bi.of_fn ((dip_spec hK (R'.less (by exact o526 : n + 7 + 1 ≤ n + 8)) L.P (by exact o539 hm) (by decide)).mC fun d τ2 d0 d1 D2 K2 => ?_))))))))))))
    have K2' : Keep (fun i => i = 1 ∨ i = 170 + m) τ1 τ2 := K2.mono fun i h => .inl h
    refine Bop.addI (Bi.range ⟨(K2 N (.inl (by exact o540 hm hNe)) (by exact o541 hNe)).trans hNn, _, ⟨rfl, by exact o409 d0, by exact o410 d1⟩, by simp; exact o411 d1, (fun i e => nomatch e), ⟨D2.keep (setS_ne (by exact o542 hNe)) (setS_ne (by exact o543 hNe)), K2'.set (.inl (.inr hNe)), by simp⟩, fun m' y' out τ3 C hy' hm' ⟨DJ, KJ, hJ⟩ ho => ?_, fun out τ3 ⟨DJ, KJ, hJ⟩ hol ho => As.cell ?_⟩)
    · have cl3 : τ3 6 = some (.list (cs.map .int)) := (KJ 6 (.inl (by decide)) (by exact o544)).trans L.cl
      have hm2 : m' < 2 := by simp at hm'; exact o414 d1 hm'
      refine Ev.sub (Ev.name (lkS (by rw [compΓ_lookup]; exact lkS (x := "lap") (v := y) (gcl hΓ))) (Ev.callOwn (nm_law_dip hK) (fk463 hK) (Evs.two (Ev.name (lkS (by rw [compΓ_lookup]; exact lkS (x := "lap") (v := y) (gp hΓ))) (Ev.b (nblen hK) (Evs.one (Ev.name (lkS (by rw [compΓ_lookup]; exact lkS (x := "lap") (v := y) (gcl hΓ))) (Bi.lenL cl3 (by exact o545 hlen hcl csl) (Bi.of_fn ((dip_spec hK (R'.less (by exact o526 : n + 7 + 1 ≤ n + 8)) DJ (by exact o546 hm hm2) (by exact o530 csl csp)).mC fun r τ4 r0 r1 D4 K4 => ?_))))))))))
      have hrr : r.toNat < cs.length := by exact o531 csl r0 r1
      have cl4 : τ4 6 = some (.list (cs.map .int)) := (K4 6 (.inl (by decide)) (by decide)).trans cl3
      have e4 : τ4 N = τ3 N := K4 N (.inr (by rw [ho]; exact fun z => nomatch z)) (by exact o541 hNe)
      refine Gop.list (v := .int cs[r.toNat]) cl4 r0 (by rw [List.getElem?_map, List.getElem?_eq_getElem hrr]; rfl) (by exact o545 hlen hcl csl) ⟨rfl, e4.trans ho, ?_, ?_, fun w hw => ?_⟩
      · exact (D4.keep (setS_ne (by exact o542 hNe)) (setS_ne (by exact o543 hNe))).le (by exact o547)
      · exact (KJ.trans (K4.mono fun i h => .inl h)).set (.inl (.inr hNe))
      · rcases List.mem_append.mp hw with hw | hw
        · exact hJ w hw
        · simp at hw; subst hw; exact ⟨_, rfl, List.getElem_mem hrr⟩
    obtain ⟨bs, rfl⟩ := intsOf fun w hw => let ⟨r, e, _⟩ := hJ w hw; ⟨r, e⟩
    have hbs : ∀ x ∈ bs, x ∈ cs := fun x hx => by
      obtain ⟨r, e, h⟩ := hJ (.int x) (List.mem_map_of_mem hx)
      cases e; exact h
    have hR : (List.map (fun k : Nat => V.int k) (List.range (1 + d).toNat)).length ≤ 2 := by simp; exact o421 d1
    have hbl : bs.length ≤ 2 := by simp only [List.length_map] at hol; simp at hR; simp at hol; exact o548 hR hol
    have L3 := L.keepN KJ (by exact o549 hm) DJ
    have w3 : τ3 Nw = some (.idict (choV ch)) := (KJ Nw (.inr (by rw [hwas]; exact fun z => nomatch z)) (by exact o550 hNw hm)).trans hwas
    have hΓ3 := (hΓ.set (x := "lap") (v := y) rfl).set (x := "begin") (v := .ref N) rfl
    have lb3 : (setG (setG Γ "lap" y) "begin" (.ref N)).lookup ("begin" : Str) = some (.ref N) := lookup_setG_self
    generalize setG (setG Γ "lap" y) "begin" (.ref N) = Γ6 at hΓ3 lb3
    show Exs W _ A' _ ⟨Γ6, τ3⟩ _
    have D3 : Dp (110 + 5 * m + 3) τ3 := DJ.le (by exact o551 hR)
    refine Exs.cons (Ex.swap2 R'.handled (Ev.tuple (Evs.two (Ev.callOwn (nm_law_below hK) (fk473 hK) (Evs.two (Ev.name (gch hΓ3) (Ev.name lb3 (Bi.of_fn ((law_below_spec hK (R'.less (by exact o526 : n + 7 + 1 ≤ n + 8)) L3.cho L3.C (.inl ⟨N, rfl, ho⟩) (by exact o552 hbl) (fun x hx => by have := hcr' x (hbs x hx); exact o488 hlen this)).mE4 fun j fs τ4 hj hfs K4 => ?_)))))))))
    have L4' := L3.keep0 K4
    have D4 : Dp (110 + 5 * m + 3) τ4 := D3.keep (K4 1 (.inl (by decide)) id) (K4 2 (.inl (by decide)) id)
    have w4 := (K4 Nw (.inr (by rw [w3]; exact fun z => nomatch z)) id).trans w3
    have b4 := (K4 N (.inr (by rw [ho]; exact fun z => nomatch z)) id).trans ho
    refine Ev.fin fun N2 hN2 hfr2 => ?_
    have hfr2' : ∀ i, N2 ≤ i → τ4 i = none := hfr2
    refine Ev.b (nblist hK) (Evs.one (Ev.name lb3 (Bi.listL (j := N2) b4 (by simp; exact o151 hbl) (hfr2' N2 (Nat.le_refl _)) ⟨by simp, _, _, rfl, ?_⟩)))
    have K5 : Keep (fun _ => False) τ4 (setS τ4 N2 (.list (bs.map .int))) := Keep.refl.set (.inr ⟨hN2, hfr2' N2 (Nat.le_refl _)⟩)
    have L5 := L4'.keep0 K5
    have D5 : Dp (110 + 5 * m + 3) (setS τ4 N2 (.list (bs.map .int))) := D4.keep (setS_ne (by exact o412 hN2)) (setS_ne (by exact o413 hN2))
    have w5 := (K5 Nw (.inr (by rw [w4]; exact fun z => nomatch z)) id).trans w4
    have b5 := (K5 N (.inr (by rw [b4]; exact fun z => nomatch z)) id).trans b4
    have j5 := (K5 j (.inr (by rw [hj]; exact fun z => nomatch z)) id).trans hj
    have q5 : setS τ4 N2 (.list (bs.map .int)) N2 = some (.list (bs.map .int)) := setS_eq
    generalize setS τ4 N2 (.list (bs.map .int)) = τ5 at K5 L5 D5 w5 b5 j5 q5
    have hΓ7 := (hΓ3.set (x := "before") (v := .ref N2) rfl).set (x := "found") (v := .ref j) rfl
    have lb7 : (setG (setG Γ6 "before" (.ref N2)) "found" (.ref j)).lookup ("begin" : Str) = some (.ref N) := lkS (lkS lb3)
    have lf7 : (setG (setG Γ6 "before" (.ref N2)) "found" (.ref j)).lookup ("found" : Str) = some (.ref j) := lookup_setG_self
    have le7 : (setG (setG Γ6 "before" (.ref N2)) "found" (.ref j)).lookup ("before" : Str) = some (.ref N2) := lkS lookup_setG_self
    generalize setG (setG Γ6 "before" (.ref N2)) "found" (.ref j) = Γ7 at hΓ7 lb7 lf7 le7
    show Exs W _ A' _ ⟨Γ7, τ5⟩ _
    refine Exs.fin fun N3 hN3 hfr3 => ?_
    have hfr3' : ∀ i, N3 ≤ i → τ5 i = none := hfr3
    refine Exs.cons (Ex.for R'.handled (Ev.bin (Ev.name (gcl hΓ7) (Ev.list N3 (Evs.one (Ev.mth (gh hΓ7) L5.H.i L5.H.d (pm452_size hK) (fk347 hK) (Evs.nil (Bi.of_fn ((h_size hK (R'.less (by exact o518 : n + 6 + 2 ≤ n + 8)) L5.H).mB ?_)))))))))
    refine ⟨by simp, hfr3' N3 (Nat.le_refl _), Bop.addL (k := N3 + 1) ((setS_ne (by exact o553 hN3)).trans L5.cl) setS_eq (by exact o545 hlen hcl csl) (by simp) ((setS_ne (by exact o124)).trans (hfr3' _ (by exact o125))) ?_⟩
    have K8 : Keep (fun _ => False) τ5 (setS (setS τ5 N3 (.list [.int ns.length])) (N3 + 1) (.list (cs.map .int ++ [.int ns.length]))) := (Keep.refl.set (.inr ⟨hN3, hfr3' N3 (Nat.le_refl _)⟩)).set (.inr ⟨by exact o318 hN3, hfr3' _ (by exact o125)⟩)
    have L8 := L5.keep0 K8
    have D8 := D5.keep (K8 1 (.inl (by decide)) id) (K8 2 (.inl (by decide)) id)
    have w8 := (K8 Nw (.inr (by rw [w5]; exact fun z => nomatch z)) id).trans w5
    have b8 := (K8 N (.inr (by rw [b5]; exact fun z => nomatch z)) id).trans b5
    have j8 := (K8 j (.inr (by rw [j5]; exact fun z => nomatch z)) id).trans j5
    have q8 := (K8 N2 (.inr (by rw [q5]; exact fun z => nomatch z)) id).trans q5
    have s8 : setS (setS τ5 N3 (.list [.int ns.length])) (N3 + 1) (.list (cs.map .int ++ [.int ns.length])) (N3 + 1) = some (.list ((cs ++ [(ns.length : Int)]).map .int)) := by rw [setS_eq]; simp
    generalize setS (setS τ5 N3 (.list [.int ns.length])) (N3 + 1) (.list (cs.map .int ++ [.int ns.length])) = τ8 at K8 L8 D8 w8 b8 j8 q8 s8
    refine ⟨(cs ++ [(ns.length : Int)]).map .int, fun m st => Γeq ["goal"] Γ7 st.Γ ∧ st.σ = τ8, .inl s8, ⟨.refl, rfl⟩, fun m st' ⟨_, h⟩ i e => by rw [h], fun m y st' hy ⟨hΓ8, h⟩ => ?_, fun st' ⟨hΓ8, h⟩ => ?_⟩
    · obtain ⟨Γ8, τ9⟩ := st'
      dsimp only at hΓ8 h
      subst h
      rw [List.getElem?_map, Option.map_eq_some_iff] at hy
      obtain ⟨g, _, rfl⟩ := hy
      refine As.local (Exs.cons (Ex.iff (Is.bool (Alls.or (Is.cmp rfl (Ev.callOwn (nmis_reached hK) (fk74 hK) (Evs.three (Ev.name (lkS (hΓ8.at (gch hΓ7))) (Ev.name (lkS (hΓ8.at lb7)) (Ev.name lookup_setG_self (Bi.of_fn ((is_reached_spec hK (R'.less (by exact o554 : 2 ≤ n + 8)) L8.cho (goal := g) (.inl ⟨N, rfl, b8⟩) L8.h300 L8.h301 (by exact o555 ow chl8 hbl)).mD2 fun r hr => ?_))))))))))))
      refine Ev.cmp rfl (Ev.name lookup_setG_self (Ev.name (lkS (hΓ8.at lf7)) (Cop.inL j8 (Cop.neB ?_))))
      have e1 : (r != fs.contains g) = false := bne_of hr (by rw [List.contains_iff_mem]; exact hfs g)
      rw [e1, if_neg (by simp)]
      refine Alls.or (Is.cmp rfl (Ev.name (lkS (hΓ8.at lb7)) (Ev.name (lkS (hΓ8.at le7)) (Cop.neSameL (by have := R'.units'; exact o147 this) b8 q8 ?_))))
      rw [if_neg (by simp)]
      refine Alls.nil ?_
      rw [if_neg (by decide)]
      exact Exs.nil (Exs.nil ⟨hΓ8.set rfl, rfl⟩)
    · obtain ⟨Γ8, τ9⟩ := st'
      dsimp only at hΓ8 h
      subst h
      refine Exs.nil ⟨fun y hy => ?_, L8.keep Keep.refl (D8.le (by exact o556)), w8⟩
      have : (["goal"] : List Str).contains y = false := by
        have ny : y ≠ ("goal" : Str) := fun e => by rw [e] at hy; exact absurd hy (by decide)
        simpa using ny
      rw [hΓ8 y this]; exact hΓ7 y hy
  obtain ⟨Γ, τ1⟩ := st'
  dsimp only at hΓ L hwas
  have L120 : Ls cs ns above M t wl ch 120 172 τ1 := by
    have e : (List.map (fun k : Nat => V.int k) (List.range (2 : Int).toNat)).length = 2 := by simp
    rw [e] at L
    exact L.keep Keep.refl (L.P.le (by decide))
  clear L
  /- each class and itself -/
  refine Exs.cons (Ex.for R'.handled (Ev.name (gcl hΓ) ⟨cs.map .int, fun m st => An3 (Γeq XT Γ5 st.Γ) (Ls cs ns above M t wl ch 120 172 st.σ) (st.σ Nw = some (.idict (choV ch))), .inl L120.cl, ⟨hΓ, L120, hwas⟩, fun m st' ⟨_, L, _⟩ i e => by cases e; exact L.cl.trans L120.cl.symm, fun m y st' hy ⟨hΓ, L, hwas⟩ => ?_, fun st' ⟨hΓ, L, hwas⟩ => ?_⟩))
  · obtain ⟨Γ, τ⟩ := st'
    dsimp only at hΓ L hwas
    rw [List.getElem?_map, Option.map_eq_some_iff] at hy
    obtain ⟨c, hc, rfl⟩ := hy
    have hcx := hcr' c (List.mem_of_getElem? hc)
    have k2 := kids_two L.C.two c
    refine As.local ?_
    have hΓ2 := hΓ.set (x := "c") (v := .int c) rfl
    have lcc : (setG Γ "c" (.int c)).lookup ("c" : Str) = some (.int c) := lookup_setG_self
    generalize setG Γ "c" (.int c) = Γ6 at hΓ2 lcc
    show Exs W _ A' _ ⟨Γ6, τ⟩ _
    refine Exs.cons (Ex.assign (Ev.mono (Q := fun v st' => v = .tup ((kidsOf ch c).map .int) ∧ st' = ⟨Γ6, τ⟩) (Ev.ifExp (Is.cmp rfl (Ev.name lcc (Ev.name (gch hΓ2) (Cop.inI L.cho ?_))))) fun v st' ⟨hv, e⟩ => ?_))
    · rw [atV_cho]
      rcases hnd : nodeAt ch c with _ | nd
      · rw [if_neg (by simp)]
        have kk : kidsOf ch c = [] := by simp [kidsOf, hnd]
        exact Ev.tuple (Evs.nil ⟨by simp, by rw [kk]; rfl, rfl⟩)
      · rw [if_pos (by simp)]
        have kk : kidsOf ch c = nd.2 := by simp [kidsOf, hnd]
        rw [kk] at k2
        exact Ev.tailN (Ev.sub (Ev.name (gch hΓ2) (Ev.name lcc (Gop.idict (v := nodeV nd) L.cho (by rw [atV_cho, hnd]; rfl) ⟨nd, .inl rfl, by exact o151 k2, by rw [kk], rfl⟩))))
    subst hv e
    refine As.local ?_
    have hΓ3 := hΓ2.set (x := "kids") (v := .tup ((kidsOf ch c).map .int)) rfl
    have lk : (setG Γ6 "kids" (.tup ((kidsOf ch c).map .int))).lookup ("kids" : Str) = some (.tup ((kidsOf ch c).map .int)) := lookup_setG_self
    have lcc3 : (setG Γ6 "kids" (.tup ((kidsOf ch c).map .int))).lookup ("c" : Str) = some (.int c) := lkS lcc
    generalize setG Γ6 "kids" (.tup ((kidsOf ch c).map .int)) = Γ7 at hΓ3 lk lcc3
    show Exs W _ A' _ ⟨Γ7, τ⟩ _
    refine Exs.cons (Ex.iff (Is.bool (Alls.or (Is.cmp rfl (Ev.callOwn (nmis_reached hK) (fk74 hK) (Evs.three (Ev.name (gch hΓ3) (Ev.name lk (Ev.name lcc3 (Bi.of_fn ((is_reached_spec hK (R'.less (by exact o554 : 2 ≤ n + 8)) L.cho (goal := c) (.inr rfl) L.h300 L.h301 (by exact o555 ow chl8 k2)).mD2 fun r hr => ?_)))))))))))
    refine Ev.cmp rfl (Ev.name lcc3 (Ev.callOwn (nm_law_below hK) (fk473 hK) (Evs.two (Ev.name (gch hΓ3) (Ev.name lk (Bi.of_fn ((law_below_spec hK (R'.less (by exact o526 : n + 7 + 1 ≤ n + 8)) L.cho L.C (.inr rfl) (by exact o552 k2) (fun x hx => kids_range L.C.rng hx)).mE4 fun j fs τ4 hj hfs K4 => ?_)))))))
    have L4' := L.keep0 K4
    have w4 := (K4 Nw (.inr (by rw [hwas]; exact fun z => nomatch z)) id).trans hwas
    refine Cop.inL hj (Cop.neB ?_)
    have e1 : (r != fs.contains c) = false := bne_of hr (by rw [List.contains_iff_mem]; exact hfs c)
    rw [e1, if_neg (by simp)]
    refine Alls.or (Is.cmp rfl (Ev.name (gch hΓ3) (Ev.name (gw hΓ3) (Cop.neCho (by have := R'.units'; exact o152 this) L4'.cho w4 ?_))))
    rw [if_neg (by simp)]
    refine Alls.nil ?_
    rw [if_neg (by decide)]
    exact Exs.nil (Exs.nil ⟨hΓ3, L4', w4⟩)
  obtain ⟨Γ, τ⟩ := st'
  dsimp only at hΓ L hwas
  /- the walk -/
  refine Exs.cons (Ex.assign (Ev.sub (Ev.name (gcl hΓ) (Ev.callOwn (nm_law_dip hK) (fk463 hK) (Evs.two (Ev.name (gp hΓ) (Ev.b (nblen hK) (Evs.one (Ev.name (gcl hΓ) (Bi.lenL L.cl (by exact o545 hlen hcl csl) (Bi.of_fn ((dip_spec hK (R'.less (by exact o526 : n + 7 + 1 ≤ n + 8)) L.P (by decide) (by exact o530 csl csp)).mC fun q τ2 q0 q1 D2 K2 => ?_))))))))))))
  have L2 := L.keep K2 D2
  have hqq : q.toNat < cs.length := by exact o531 csl q0 q1
  have hb := hcr' _ (List.getElem_mem hqq)
  refine Gop.list (v := .int cs[q.toNat]) L2.cl q0 (by rw [List.getElem?_map, List.getElem?_eq_getElem hqq]; rfl) (by exact o545 hlen hcl csl) (As.cell ?_)
  generalize cs[q.toNat] = b at hb
  have hΓ2 := hΓ.set (x := "begin") (v := .int b) rfl
  have lb : (setG Γ "begin" (.int b)).lookup ("begin" : Str) = some (.int b) := lookup_setG_self
  generalize setG Γ "begin" (.int b) = Γ6 at hΓ2 lb
  show Exs W _ A' _ ⟨Γ6, τ2⟩ _
  have fr := L2.free
  refine Exs.cons (Ex.assign (Ev.callOwn (nm_law_walk hK) (fk480 hK) (Evs.three (Ev.name (gp hΓ2) (Ev.callCls (nmCheapestDag hK) (mk124 hK) (Evs.three (Ev.name (gh hΓ2) (Ev.dict0S 162 (fr _ (by decide) (by decide)) (Ev.intC (Bi.make 160 161 (mk124 hK) (in124 hK) (ty124 hK) ?_ ?_ (by decide) fun us => (d_init hK (Room.make (R'.less (by exact o557 : n + 2 + 1 ≤ n + 8))) setS_eq ?_ ?_ ?_ ?_).mono fun v τ3 ⟨hv, Dg3, K3⟩ => ⟨hv, ?_⟩))))))))))
  · dsimp only; rw [setS_ne (by decide)]; exact fr _ (by decide) (by decide)
  · dsimp only; rw [setS_ne (by decide)]; exact fr _ (by decide) (by decide)
  · rw [setS_ne (by decide), setS_eq]
  · dsimp only; rw [setS_ne (by decide), setS_ne (by decide), setS_eq]
  · dsimp only; rw [setS_ne (by decide), setS_ne (by decide), setS_ne (by decide)]; exact fr _ (by decide) (by decide)
  · dsimp only; rw [setS_ne (by decide), setS_ne (by decide), setS_ne (by decide), L2.H.i]; exact fun z => nomatch z
  have K3' : Keep XOut τ2 τ3 := fun i hi nx => by
    unfold XOut at nx
    have e : setS (setS (setS τ2 162 (.sdict [])) 161 (.sdict [])) 160 (.inst 124 (some 161)) i = τ2 i := by rw [setS_ne (by exact o558 nx), setS_ne (by exact o559 nx), setS_ne (by exact o560 nx)]
    rw [K3 i (by dsimp only; rw [e]; exact hi) (by exact o561 nx)]; exact e
  have lo3 : ∀ i, i < 1000 → ¬ (160 ≤ i ∧ i < 170) → τ3 i = τ2 i := fun i hi nx => by
    have e : setS (setS (setS τ2 162 (.sdict [])) 161 (.sdict [])) 160 (.inst 124 (some 161)) i = τ2 i := by rw [setS_ne (by exact o562 nx), setS_ne (by exact o563 nx), setS_ne (by exact o564 nx)]
    rw [K3 i (.inl hi) (by exact o565 nx)]; exact e
  have H3 := L2.H.keepO K3'
  have D3 : Dp 121 τ3 := D2.keep (lo3 1 (by decide) (by decide)) (lo3 2 (by decide) (by decide))
  have g300 := (lo3 300 (by decide) (by decide)).trans L2.h300
  have g301 := (lo3 301 (by decide) (by decide)).trans L2.h301
  refine Ev.name lb (Bi.of_fn ((law_walk_spec hK (R'.less (by exact o566 : n + 2 + 6 ≤ n + 8)) H3 Dg3 g300 g301 D3 (by decide) hb).mF4 fun d pk ws τ4 hd WK K4 => ?_))
  refine As.tuple R'.handled (vs := [.ref d, .tup (ws.map .int), .int pk.length]) (show IterOf (.tup [.ref d, .tup (ws.map .int), .int pk.length]) _ _ from rfl) (.inl ⟨_, rfl⟩) rfl (As.cell (As.local (As.local ?_)))
  have f300 := (K4 300 (.inl (by decide)) (by decide)).trans g300
  have f301 := (K4 301 (.inl (by decide)) (by decide)).trans g301
  have lb7 : (setG (setG (setG Γ6 "picked" (.ref d)) "wanted" (.tup (ws.map .int))) "cost" (.int pk.length)).lookup ("begin" : Str) = some (.int b) := lkS (lkS (lkS lb))
  have lpk : (setG (setG (setG Γ6 "picked" (.ref d)) "wanted" (.tup (ws.map .int))) "cost" (.int pk.length)).lookup ("picked" : Str) = some (.ref d) := lkS (lkS lookup_setG_self)
  have lwt : (setG (setG (setG Γ6 "picked" (.ref d)) "wanted" (.tup (ws.map .int))) "cost" (.int pk.length)).lookup ("wanted" : Str) = some (.tup (ws.map .int)) := lkS lookup_setG_self
  have lco : (setG (setG (setG Γ6 "picked" (.ref d)) "wanted" (.tup (ws.map .int))) "cost" (.int pk.length)).lookup ("cost" : Str) = some (.int pk.length) := lookup_setG_self
  generalize setG (setG (setG Γ6 "picked" (.ref d)) "wanted" (.tup (ws.map .int))) "cost" (.int pk.length) = Γ7 at lb7 lpk lwt lco
  show Exs W _ A' _ ⟨Γ7, τ4⟩ _
  have pkl := WK.len
  have wsl := WK.wlen
  have CP := WK.ok hlen
  have owp := owes_le2 CP.two
  refine Exs.pin (i := d) (kvs := choV pk) (pin := none) hd fun ob => ?_
  have d4 : d ≠ 300 ∧ d ≠ 301 := ⟨fun q => (by rw [q, f300] at hd; cases hd), fun q => (by rw [q, f301] at hd; cases hd)⟩
  have hd5 : setS τ4 d (.idict (choV pk) (some ob)) d = some (.idict (choV pk) (some ob)) := setS_eq
  have e300 : setS τ4 d (.idict (choV pk) (some ob)) 300 = none := (setS_ne (Ne.symm d4.1)).trans f300
  have e301 : setS τ4 d (.idict (choV pk) (some ob)) 301 = none := (setS_ne (Ne.symm d4.2)).trans f301
  dsimp only
  generalize setS τ4 d (.idict (choV pk) (some ob)) = τ5 at hd5 e300 e301
  refine Exs.cons (Ex.for R'.handled (Ev.name lpk ⟨(choV pk).map (fun p => .int p.1), fun m st => Γeq ["c"] Γ7 st.Γ ∧ Keep (fun _ => False) τ5 st.σ, .inr ⟨choV pk, ob, hd5, rfl⟩, ⟨.refl, Keep.refl⟩, fun m st' ⟨_, K⟩ i e => ?_, fun m y st' hy ⟨hΓ8, K⟩ => ?_, fun st' ⟨hΓ8, K⟩ => ?_⟩))
  · cases e; exact K d (.inr (by rw [hd5]; exact fun z => nomatch z)) id
  · obtain ⟨Γ8, τ6⟩ := st'
    dsimp only at hΓ8 K
    have hd6 := (K d (.inr (by rw [hd5]; exact fun z => nomatch z)) id).trans hd5
    have g0 := (K 300 (.inl (by decide)) id).trans e300
    have g1 := (K 301 (.inl (by decide)) id).trans e301
    rw [List.getElem?_map, Option.map_eq_some_iff] at hy
    obtain ⟨p', hp', rfl⟩ := hy
    have hpm := List.mem_of_getElem? hp'
    unfold choV at hpm
    obtain ⟨p, hp, rfl⟩ := List.mem_map.mp hpm
    have hat := nodeAt_mem WK.nd hp
    have two := WK.two p hp
    refine As.local (Exs.cons (Ex.iff (Is.bool (Alls.or (Is.plain (Ev.callOwn (nmis_reached hK) (fk74 hK) (Evs.three (Ev.name (lkS (hΓ8.at lpk)) (Ev.tailN (Ev.sub (Ev.name (lkS (hΓ8.at lpk)) (Ev.name lookup_setG_self (Gop.idict (v := nodeV p.2) hd6 (by rw [atV_cho, hat]; rfl) ⟨p.2, .inl rfl, by exact o151 two, Ev.name lookup_setG_self (Bi.of_fn ((is_reached_spec hK (R'.less (by exact o554 : 2 ≤ n + 8)) hd6 (goal := p.1) (.inr rfl) g0 g1 (by exact o567 hlen pkl owp two)).mD2 fun r hr => ?_))⟩)))))))))))))
    refine ⟨r, rfl, ?_⟩
    have rf : r = false := by
      cases r with
      | false => rfl
      | true => exact absurd (hr.mp rfl) (WK.ring p.1 p.2 hat)
    subst rf
    rw [if_neg (by simp)]
    refine Alls.or (Is.not (Is.plain (Ev.fin fun N hN hfr => ?_)))
    have hfr' : ∀ i, N ≤ i → τ6 i = none := hfr
    have dN : d ≠ N := fun q => by rw [q, hfr' N (Nat.le_refl _)] at hd6; cases hd6
    refine Ev.callOwn (nmis_reached hK) (fk74 hK) (Evs.three (Ev.name (lkS (hΓ8.at lpk)) (Ev.list N (Evs.one (Ev.name (lkS (hΓ8.at lb7)) ⟨by simp, hfr' N (Nat.le_refl _), Ev.name lookup_setG_self (Bi.of_fn ((is_reached_spec hK (R'.less (by exact o554 : 2 ≤ n + 8)) (bs := [b]) ((setS_ne dN).trans hd6) (goal := p.1) (.inl ⟨N, rfl, setS_eq⟩) ((setS_ne (by exact o568 hN)).trans g0) ((setS_ne (by exact o569 hN)).trans g1) (by simp; exact o570 hlen pkl owp)).mD2 fun r2 hr2 => ?_))⟩)))))
    refine ⟨r2, rfl, ?_⟩
    have r2t : r2 = true := hr2.mpr (WK.kr p hp)
    subst r2t
    rw [if_neg (by decide)]
    refine Alls.nil ?_
    rw [if_neg (by decide)]
    exact Exs.nil (Exs.nil ⟨hΓ8.set rfl, K.set (.inr ⟨hN, by
      cases q : τ5 N with
      | none => rfl
      | some o =>
        have := K N (.inr (by rw [q]; exact fun z => nomatch z)) id
        rw [hfr' N (Nat.le_refl _), q] at this; cases this⟩)⟩)
  obtain ⟨Γ8, τ6⟩ := st'
  dsimp only at hΓ8 K
  have hd6 := (K d (.inr (by rw [hd5]; exact fun z => nomatch z)) id).trans hd5
  have g0 := (K 300 (.inl (by decide)) id).trans e300
  have g1 := (K 301 (.inl (by decide)) id).trans e301
  have lpk8 := hΓ8.at lpk
  have lb8 := hΓ8.at lb7
  refine Exs.fin fun N hN hfr => ?_
  have hfr' : ∀ i, N ≤ i → τ6 i = none := hfr
  have dN : d ≠ N := fun q => by rw [q, hfr' N (Nat.le_refl _)] at hd6; cases hd6
  have pvl : (choV pk).length = pk.length := by simp [choV]
  refine Exs.cons (Ex.ret (Ev.bool (Bools.and (Ev.cmp rfl (Ev.cfilter R'.handled N (fun y b' => b' = false) (Ev.name (hΓ8.at lwt) ⟨hfr' N (Nat.le_refl _), ws.map .int, rfl, by simp; exact o317 hlen wsl, fun y out C hy => ?_, fun out ol h1 h2 => ?_⟩))))))
  · obtain ⟨x, hx, rfl⟩ := List.mem_map.mp hy
    refine Is.not (Is.plain (Ev.callOwn (nmis_reached hK) (fk74 hK) (Evs.three (Ev.name (lkS (by rw [compΓ_lookup]; exact lpk8)) (Ev.tuple (Evs.one (Ev.name (lkS (by rw [compΓ_lookup]; exact lb8)) ⟨by simp, Ev.name lookup_setG_self (Bi.of_fn ((is_reached_spec hK (R'.less (by exact o554 : 2 ≤ n + 8)) (bs := [b]) ((setS_ne dN).trans hd6) (goal := x) (.inr rfl) ((setS_ne (by exact o568 hN)).trans g0) ((setS_ne (by exact o569 hN)).trans g1) (by simp; exact o570 hlen pkl owp)).mD2 fun r2 hr2 => ?_))⟩)))))))
    refine ⟨r2, rfl, rfl, ?_⟩
    have r2t : r2 = true := hr2.mpr (WK.wr x hx)
    subst r2t
    rfl
  have : out = [] := by
    rcases out with _ | ⟨a, bb⟩
    · rfl
    · have := (h1 a (by simp)).2; cases this
  subst this
  refine Ev.list (N + 1) (Evs.nil ⟨by simp, (setS_ne (by exact o124)).trans (hfr' _ (by exact o125)), Cop.eqNil (by have := R'.units'; exact o147 this) ((setS_ne (by exact o148)).trans setS_eq) setS_eq ⟨true, rfl, ?_⟩⟩)
  rw [if_pos rfl]
  have hd9 : setS (setS τ6 N (.list [])) (N + 1) (.list []) d = some (.idict (choV pk) (some ob)) := by
    rw [setS_ne (fun q => by rw [q, hfr' (N + 1) (by exact o125)] at hd6; cases hd6), setS_ne dN]; exact hd6
  refine Bools.one (Ev.cmp rfl (Ev.name (hΓ8.at lco) (Ev.b (nblen hK) (Evs.one (Ev.name lpk8 (Bi.lenI hd9 (by exact o545 hlen pkl pvl) (Cop.eqI ?_)))))))
  rw [pvl]
  simp [Fl.val]
end Mine

open PySem PySem.W PyProof.Rows PySem.SeqAt PySem.Calls
set_option Elab.async false
set_option maxRecDepth 100000
set_option linter.unusedVariables false
set_option pp.maxSteps 400
set_option pp.deepTerms false
namespace Mine

theorem nm_law (p : Params) : nsIn (Mine.hd.heap_1 p) mainGlobals "law" = some (some (.ref 485)) := by rfl
theorem roomC : Room callerA 9 := ⟨by decide, by decide, rfl⟩
end Mine

set_option maxHeartbeats 8000000 in
theorem PySem.Challenge.cw_rg0123_01_holds : PySem.Challenge.rw_rg0123_01.Holds := by
  refine Mine.hd ?_
  intro w s₀ s₁ mg mb G Y fa o pm cd doc dV kV ho hd hcd hD hmg hg args vals as hpre hlay hrd hwl hlo
  have KX := kIn_of Y
  have T := topRead_of G.T
  have e485 := mg_of KX T.g (Mine.nm_law w.params)
  have hfa : Value.ref fa = Value.ref 485 := Option.some.inj (hmg.symm.trans e485)
  rw [hfa]
  clear hd hcd hD Y hmg ho hfa e485
  wrow_args hpre hlay hrd hwl hlo
  rename_i is _ _ _ _ _ _ _ l us _ hL _ _ _ hI _ hlen _
  have X : Mine.Hp ⟨PySem.Challenge.rw_rg0123_01.row.prog, w, Mine.hd.heap_1 w.params, s₁.heap, _, _, mg, mb, KX, T, s₁.os, s₁.gens⟩ s₁.heap.get? (fun _ => none) (fun _ => 0) s₁.heap s₁.os s₁.gens :=
    ⟨fun _ _ e => e, fun _ _ e => e, fun _ _ e => (nomatch e), fun _ _ e => absurd rfl e, ⟨0, fun _ _ => rfl⟩, rfl, rfl⟩
  have F := Mine.law_spec (W := ⟨PySem.Challenge.rw_rg0123_01.row.prog, w, Mine.hd.heap_1 w.params, s₁.heap, _, _, mg, mb, KX, T, s₁.os, s₁.gens⟩) ⟨rfl⟩ (n := 0) Mine.roomC (σ := fun _ => none) hL hI (by exact Mine.o571 hlen) fun _ _ => rfl
  refine wpAny_call (codeAny_mono (F s₁.heap.get? (fun _ => 0) s₁ [.ref l] X (.cons (.base l) .nil)) fun r s' ⟨u, v, σ', ι', e, Y, ext, rv, q⟩ => ?_)
  subst e q
  cases rv using Mine.Rep.boolE
  refine GoodW.toG ⟨.inl ⟨_, .bool true, [], rfl, fun _ => rfl, .bool true, ?_, fun _ => ⟨.nil, fun _ h => nomatch h⟩⟩, fun b o e => Y.keep b o e, Y.same.1, Y.same.2.trans hg⟩
  wrow_post
