import PyProof.Rows.All
import Wide.All
import OpenK.AllK
import Wide.FinOn
import PyProof.AttrMissHeap
import PyProof.NeKinds
import PyProof.ListIndexNeg
import PyProof.Rows.SortWalk
import PyProof.Rows.SortStr
import KE.LcTurns
import KE.KDictSum
import KE.KDictOf
import KE.KLcPair
import KE.KTryDeepN
import KE.KTryMore
import KE.RegKTryMore
import PySem.Challenge.RW_nu0383_01
set_option Elab.async false
set_option linter.all false
set_option compiler.extract_closed false
set_option rowWalk.seconds 0
section
open PySem PySem.W PyProof.Rows
set_option maxRecDepth 100000
set_option maxHeartbeats 0
namespace Mine
section
variable (st : (Code → Sem Fin) → Program → World → SharedT → Thread → Option (SharedT × Thread)) (ok : Nat → Option Value → Thread → Bool) (den : Code → Sem Fin) (p : Program) (w : World) (n₀ : Nat) (ann : Option Value)
noncomputable def topT : Nat → SharedT → Thread → Option SharedT
  | 0, _, _ => none
  | n + 1, s, t => match through t with
    | true => some s
    | false => match ok n₀ ann t with
      | false => none
      | true => match st den p w s t with
        | some (s', t') => topT n s' t'
        | none => none
end
theorem topT_of {tb : String → Option Builtin} {p : Program} {w : World} {n₀ : Nat} {ann : Option Value} : ∀ {n : Nat} {s s' : SharedT} {t : Thread}, topT stepT stepOk (denote tb) p w n₀ ann n s t = some s' → topRun tb p w n₀ ann n s.abs t = some s'.abs
  | 0, _, _, _, h => by cases h
  | n + 1, s, s', t, h => by
    unfold topT at h
    unfold topRun
    cases he : through t with
    | true => rw [he] at h; cases h; rfl
    | false =>
      rw [he] at h
      cases hk : stepOk n₀ ann t with
      | false => rw [hk] at h; cases h
      | true =>
        rw [hk] at h
        cases hs : stepT (denote tb) p w s t with
        | none => rw [hs] at h; cases h
        | some r => obtain ⟨s₂, t₂⟩ := r; rw [hs] at h; rw [stepT_spec hs]; exact topT_of h
noncomputable def treeOf : List Obj → Nat → BT → BT
  | [], _, t => t
  | o :: l, n, t => treeOf l (n + 1) (t.ins n o)
noncomputable def T₀ (P : Params) : BT := treeOf (boot_heap P).objs.toList 0 .nil
theorem left_tree {p q : Program} {loose : List Str} {Xt : Shared → Bool} {α : Type} {Yf : Shared → α} {Ya : World → α} {N m₀ : Nat} {life : Life} {ann : Option Value}
    (e : opening p = plainProg p.main.scope.names) (hN : Nat.ble 600 N = true) (f : ∀ s, fenceModules? p s = some s)
    (hT : ∀ P, boot_heap P = absHeap (T₀ P) m₀ life)
    (size : ∀ P, ((boot_heap P).isNs mainGlobals, (boot_heap P).objs.size, (boot_heap P).nsMap mainGlobals "__annotations__") = (true, m₀, ann))
    (run : ∀ (w : World) (os : OsState), (topT Fast.tw10156331382660048174 Fast.tw6613529449190102663 (Fast.tw11892475500146522536 Fast.tw14364793385576792824) p w m₀ ann N ⟨T₀ w.params, m₀, life, Array.mk [], boot_drawn, boot_toks, os⟩ (topStub p)).map (fun s =>
      (staticsOk (importedModules p.main.body) (boot_heap w.params) s.abs.heap && namesBound p s.abs.heap && gensDone s.abs && laidKept (boot_heap w.params) s.abs.heap, Fast.tw4187177175401517315 q loose (importedModules p.main.body) Xt true s.abs, Yf s.abs)) = some (true, openGood q loose, Ya w)) : LeftO p q loose Xt Yf Ya N := fun w => by
  obtain ⟨⟨h, gs, d, k, os⟩, e1, e2⟩ := Option.map_eq_some_iff.mp (boot_open e hN f w)
  obtain ⟨rfl, rfl, rfl, rfl⟩ : h = boot_heap w.params ∧ gs = Array.mk [] ∧ d = boot_drawn ∧ k = boot_toks := by simpa using e2
  obtain ⟨z1, z2, z3⟩ : _ ∧ _ ∧ _ := by simpa only [Prod.mk.injEq] using size w.params
  have r := run w os
  rw [← Fast.te10156331382660048174, ← Fast.te6613529449190102663, ← Fast.te11892475500146522536, ← Fast.te14364793385576792824, ← Fast.te4187177175401517315] at r
  obtain ⟨s, r1, r2⟩ := Option.map_eq_some_iff.mp r
  obtain ⟨l1, l2, l3⟩ : _ ∧ _ ∧ _ := by simpa only [Prod.mk.injEq] using r2
  have r3 := topT_of r1
  have r4 : topRun treeTable p w m₀ ann N ⟨boot_heap w.params, Array.mk [], boot_drawn, boot_toks, os⟩ (topStub p) = some s.abs := by rw [hT]; exact r3
  have t : topFrom treeTable p w N ⟨boot_heap w.params, Array.mk [], boot_drawn, boot_toks, os⟩ = some s.abs := by
    unfold topFrom
    dsimp only
    rw [z1, z2, z3, r4]
    show (match staticsOk (importedModules p.main.body) (boot_heap w.params) s.abs.heap && namesBound p s.abs.heap && gensDone s.abs && laidKept (boot_heap w.params) s.abs.heap with | true => _ | false => _) = _
    rw [l1]
  unfold openEnds
  rw [e1]
  show (topFrom treeTable p w N _).map _ = _
  rw [t]
  exact congrArg some (Prod.ext l2 l3)
theorem boot_tree : ∀ P, boot_heap P = absHeap (T₀ P) 11 {} := by intro P; kernel_rfl
theorem boot_size : ∀ P, ((boot_heap P).isNs mainGlobals, (boot_heap P).objs.size, (boot_heap P).nsMap mainGlobals "__annotations__") = (true, 11, some (.ref 6)) := by intro P; kernel_rfl
noncomputable def vw : Program := view PySem.Challenge.rw_nu0383_01.row.prog [0, 2, 3, 4, 6, 7, 8, 9, 11, 12, 13, 14, 15, 16, 18, 19, 20, 21, 22, 24, 25, 26, 27, 29, 30, 31, 32, 33, 34, 35, 36, 37, 38, 39]
theorem said : PySem.Challenge.rw_nu0383_01.wellSaid = true := by
  rw [Fast.te9446332074065402090]
  unfold Fast.tw9446332074065402090 Fast.tw17960256430627541270 Fast.tw2436336058641802641 Fast.tw12908688711261696721
  repeat' with_reducible apply look_both
  all_goals decide +kernel
theorem boot_is : opening PySem.Challenge.rw_nu0383_01.row.prog = plainProg PySem.Challenge.rw_nu0383_01.row.prog.main.scope.names := by kernel_rfl
theorem boot_fence : ∀ s, fenceModules? PySem.Challenge.rw_nu0383_01.row.prog s = some s := by intro s; kernel_rfl
local macro_rules | `(tactic| o_law) => `(tactic| refine holds_law Mine.said (fun said => ?_))
theorem head_l (H : Hook) {d : DefRec} {kwd : List (Str × Expr)}
    (run : ∀ (w : World) (os : OsState), (topT Fast.tw10156331382660048174 Fast.tw6613529449190102663 (Fast.tw11892475500146522536 Fast.tw14364793385576792824) (OpenLaw.row PySem.Challenge.rw_nu0383_01).prog w 11 (some (.ref 6)) 6438 ⟨T₀ w.params, 11, {}, Array.mk [], boot_drawn, boot_toks, os⟩ (topStub (OpenLaw.row PySem.Challenge.rw_nu0383_01).prog)).map (fun s =>
      (staticsOk (importedModules (OpenLaw.row PySem.Challenge.rw_nu0383_01).prog.main.body) (boot_heap w.params) s.abs.heap && namesBound (OpenLaw.row PySem.Challenge.rw_nu0383_01).prog s.abs.heap && gensDone s.abs && laidKept (boot_heap w.params) s.abs.heap, Fast.tw4187177175401517315 Mine.vw [Str.ofString "LendError"] (importedModules (OpenLaw.row PySem.Challenge.rw_nu0383_01).prog.main.body) (fun s => xlAt Mine.vw [] s && recOk (RowW.records (OpenRow.toRowW (OpenLaw.row PySem.Challenge.rw_nu0383_01))) s) true s.abs, H.obs s.abs)) = some (true, openGood Mine.vw [Str.ofString "LendError"], H.val w))
    (hdef : defOf Mine.vw (OpenLaw.row PySem.Challenge.rw_nu0383_01).name = some (d, kwd)) (hp : (OpenLaw.row PySem.Challenge.rw_nu0383_01).prog.theDef (OpenLaw.row PySem.Challenge.rw_nu0383_01).name = some (d.params, d.body, d.scope)) (hk : kwWritten? d.params.kwonlyargs d.params.kw_defaults = some kwd)
    (k1 : (OpenLaw.row PySem.Challenge.rw_nu0383_01).wellSaid = true) (hw : (OpenLaw.row PySem.Challenge.rw_nu0383_01).toRowW.promised)
    (call : WalkO Mine.vw [Str.ofString "LendError"] (XL Mine.vw []) H.says (OpenLaw.row PySem.Challenge.rw_nu0383_01).toRowW d kwd fun f vs => PySem.call f vs) : (OpenLaw.row PySem.Challenge.rw_nu0383_01).Holds :=
  holds_open (left_tree boot_is rfl boot_fence boot_tree boot_size run) H.of H.keeps (fun s e => xl_of s (Bool.and_eq_true_iff.mp e).1) XL.keeps hdef hp hk (fun s e => recFacts_of (Bool.and_eq_true_iff.mp e).2) (by rfl) k1 (by decide +kernel) ⟨rfl, rfl, rfl, rfl, rfl, by decide +kernel⟩ hw call
local macro_rules | `(tactic| o_head $H) => `(tactic| refine head_l $H (by intro w os; kernel_rfl) (by rfl) (by rfl) (by rfl) (by assumption) ?hw ?hc)
local macro_rules | `(tactic| k_head) => `(tactic| x_head)
open_top hd for PySem.Challenge.rw_nu0383_01
end Mine
namespace Mine
theorem calm : True := by
  w_top off
  exact trivial
end Mine
end
section
open PySem PySem.W PyProof.Rows PySem.Calls
set_option maxRecDepth 100000
namespace Mine
theorem hide {P : Prop} (k : (P → False) → False) : P := Classical.byContradiction k
theorem om_lt {a r n : Nat} (h : a + (r + 1) = n) : a < n := h ▸ Nat.lt_add_of_pos_right (Nat.succ_pos r)
theorem om_eq {a r n : Nat} (h : a + (r + 1) = n) : a + 1 + r = n := (Nat.succ_add_eq_add_succ a r).trans h
theorem om_w {a n k : Nat} (h : a ≤ n) (hb : Nat.ble n k = true) : a ≤ k := Nat.le_trans h (Nat.le_of_ble_eq_true hb)
theorem om_p2 {a r k : Nat} (h : a + (r + 1) ≤ k) : a + r ≤ k := Nat.le_of_succ_le h
theorem om_p3r {a r : Nat} : a + (0 + 1) + r = a + (r + 1) := Nat.succ_add_eq_add_succ a r
theorem om_p3 {a r k : Nat} (h : a + (r + 1) ≤ k) : a + (0 + 1) + r ≤ k := Nat.le_trans (Nat.le_of_eq om_p3r) h
theorem om_p3e {a r k : Nat} (h : a + (r + 1) = k) : a + (0 + 1) + r = k := om_p3r.trans h
theorem om_p4 {a r n k : Nat} (h : a + r ≤ n) (hb : Nat.ble n k = true) : a ≤ k := Nat.le_trans (Nat.le_trans (Nat.le_add_right a r) h) (Nat.le_of_ble_eq_true hb)
theorem om_s {a n k : Nat} (h : a ≤ n) (hb : Nat.ble (n + (0 + 1)) k = true) : a + (0 + 1) ≤ k := Nat.le_trans (Nat.succ_le_succ h) (Nat.le_of_ble_eq_true hb)
theorem om_s1 {a n k : Nat} (h : a ≤ n) (hb : Nat.ble (n + 1) k = true) : a + 1 ≤ k := Nat.le_trans (Nat.succ_le_succ h) (Nat.le_of_ble_eq_true hb)
theorem om_s2 {a n k : Nat} (h : a ≤ n) (hb : Nat.ble (n + 2) k = true) : a + 1 + 1 ≤ k := Nat.le_trans (Nat.succ_le_succ (Nat.succ_le_succ h)) (Nat.le_of_ble_eq_true hb)
theorem om_i {a n : Nat} {i : Int} (h : a ≤ n) (hb : (n : Int) < i) : (a : Int) < i := Int.lt_of_le_of_lt (Int.ofNat_le.mpr h) hb
theorem om_i2 {a b n : Nat} {i : Int} (h : a < b) (k : b ≤ n) (hb : (n : Int) < i) : (a : Int) < i := om_i (Nat.le_trans (Nat.le_of_lt h) k) hb
theorem om_n {a : Nat} {i : Int} (hb : i < 0) : i < (a : Int) := Int.lt_of_lt_of_le hb (Int.natCast_nonneg a)
theorem om_k {k m : Nat} {i : Int} (h : (k : Int) < i) (hb : i ≤ ((m + 1 : Nat) : Int)) : k ≤ m := Nat.le_of_lt_succ (Int.ofNat_lt.mp (Int.lt_of_lt_of_le h hb))
theorem om_off {b i j : Nat} (h : i ≠ j) : b + i ≠ b + j := fun e => h (Nat.add_left_cancel e)
theorem om_b {b j : Nat} (h : 0 < j) : b ≠ b + j := Nat.ne_of_lt (Nat.lt_add_of_pos_right h)
noncomputable abbrev Led := List (Addr × Obj)
noncomputable abbrev tupOf (vs : List Value) (n : Nat) : Obj := { cls := .type "tuple", data := .seq vs.toArray n }
inductive Ty where
  | int | adt | par | bool | var
  | ref (m : Bool) (t : Ty)
  | box (t : Ty)
  deriving DecidableEq
inductive TyIn (news : Led) : Value → Ty → Prop
  | int {a n t1 t2} : (a, tupOf [.str "int" t1, .str "i32" t2] n) ∈ news → TyIn news (.ref a) .int
  | par {a n t1 t2} : (a, tupOf [.str "param" t1, .str "X" t2] n) ∈ news → TyIn news (.ref a) .par
  | var {a n t1 t2} : (a, tupOf [.str "var" t1, .int 0 t2] n) ∈ news → TyIn news (.ref a) .var
  | bool {a n t1} : (a, tupOf [.str "bool" t1] n) ∈ news → TyIn news (.ref a) .bool
  | adt {a b c n n1 n2 t1 t2} : (a, tupOf [.str "adt" t1, .str "S" t2, .ref b, .ref c] n) ∈ news → (b, tupOf [] n1) ∈ news → (c, tupOf [] n2) ∈ news → TyIn news (.ref a) .adt
  | ref {a n t1 m v t} : (a, tupOf [.str "ref" t1, .none, .bool m, v] n) ∈ news → TyIn news v t → TyIn news (.ref a) (.ref m t)
  | box {a n t1 v t} : (a, tupOf [.str "box" t1, v] n) ∈ news → TyIn news v t → TyIn news (.ref a) (.box t)
theorem TyIn.mono {news news' : Led} {v : Value} {t : Ty} (h : TyIn news v t) (hs : ∀ p ∈ news, p ∈ news') : TyIn news' v t := by
  induction h with
  | int h => exact .int (hs _ h)
  | par h => exact .par (hs _ h)
  | var h => exact .var (hs _ h)
  | bool h => exact .bool (hs _ h)
  | adt h h1 h2 => exact .adt (hs _ h) (hs _ h1) (hs _ h2)
  | ref h _ ih => exact .ref (hs _ h) ih
  | box h _ ih => exact .box (hs _ h) ih
noncomputable def Ty.clear : Ty → Bool
  | .var => false
  | .ref _ t => t.clear
  | .box t => t.clear
  | _ => true
noncomputable def Ty.kd : Ty → Str
  | .int => "int" | .adt => "adt" | .par => "param" | .bool => "bool" | .var => "var" | .ref .. => "ref" | .box .. => "box"
inductive HdSp (news : Led) (t : Ty) : Value → Prop
  | mk {a n t1 r} : (a, tupOf (.str t.kd t1 :: r) n) ∈ news → HdSp news t (.ref a)
theorem TyIn.head {news : Led} {v : Value} {t : Ty} (h : TyIn news v t) : HdSp news t v := by
  cases h <;> exact .mk (by assumption)

noncomputable def Calls (w : World) (loose : List Str) (mean : ExcName → Option Value) (mg mb : Str → Option Value) (ℓ : Nat) (f : Addr) (vs : List Value) (news : Led) (Out : Led → Value → Prop) : Prop :=
  ∀ (dp un : Nat) (gd : Option (List Code)) (cn : Str) (cs : Scope) (a : Addr) (ccd : Value) (cl : List (Str × Addr)) (outer : List Env) (A₀ : Around) (base h₀ : Heap) (L : Addr) (m : Str → Option Value) (s : Shared) (Q E : Value → Shared → Prop),
    Below A₀ base outer h₀ → Fr h₀ L s.heap m → (Mine.hd.heap_1 w.params).In h₀ → News h₀ L s.heap news → Top Mine.vw loose mean mg mb h₀ → cs.kind = .function → dp + 4 * ℓ < 400 → un + 20 * ℓ < 2000 →
    (∀ r news' h' tk', Fr h₀ L h' m → News h₀ L h' news' → Out news' r → Q r { s with heap := h', toks := tk' }) →
    wpAny (model Challenge.rw_nu0383_01.row.prog w) (ktrTop dp un gd cn cs L a ccd cl outer) (call (.ref f) vs) Q E s
theorem Calls.of {w : World} {loose : List Str} {mean : ExcName → Option Value} {mg mb : Str → Option Value} {ℓ : Nat} {f : Addr} {vs : List Value} {news : Led} {Out : Led → Value → Prop}
  (H : ∀ (dp un : Nat) (gd : Option (List Code)) (cn : Str) (cs : Scope) (a : Addr) (ccd : Value) (cl : List (Str × Addr)) (outer : List Env) (A₀ : Around) (base h₀ : Heap) (L : Addr) (m : Str → Option Value) (sh : Heap) (sg : Array GenState) (sd : Drawn) (sk : Nat) (so : OsState) (Q E : Value → Shared → Prop),
    Below A₀ base outer h₀ → Fr h₀ L sh m → (Mine.hd.heap_1 w.params).In h₀ → News h₀ L sh news → Top Mine.vw loose mean mg mb h₀ → cs.kind = .function → dp + 4 * ℓ < 400 → un + 20 * ℓ < 2000 →
    (∀ r news' h' tk', Fr h₀ L h' m → News h₀ L h' news' → Out news' r → Q r ⟨h', sg, sd, tk', so⟩) →
    wpAny (model Challenge.rw_nu0383_01.row.prog w) (ktrTop dp un gd cn cs L a ccd cl outer) (call (.ref f) vs) Q E ⟨sh, sg, sd, sk, so⟩) : Calls w loose mean mg mb ℓ f vs news Out := by
  intro dp un gd cn cs a ccd cl outer A₀ base h₀ L m s Q E
  cases s
  exact H dp un gd cn cs a ccd cl outer A₀ base h₀ L m _ _ _ _ _ Q E
theorem Calls.use {w : World} {loose : List Str} {mean : ExcName → Option Value} {mg mb : Str → Option Value} {ℓ : Nat} {f : Addr} {vs : List Value} {news : Led} {Out : Led → Value → Prop}
    {dp un : Nat} {gd : Option (List Code)} {cn : Str} {cs : Scope} {a : Addr} {ccd : Value} {cl : List (Str × Addr)} {outer : List Env} {A₀ : Around} {base h₀ : Heap} {L : Addr} {m : Str → Option Value} {s : Shared} {Q E : Value → Shared → Prop}
    (B : Below A₀ base outer h₀) (F : Fr h₀ L s.heap m) (X : (Mine.hd.heap_1 w.params).In h₀) (N : News h₀ L s.heap news) (T : Top Mine.vw loose mean mg mb h₀) (hk : cs.kind = .function) (C : Calls w loose mean mg mb ℓ f vs news Out) (hd : dp + 4 * ℓ < 400) (hu : un + 20 * ℓ < 2000)
    (k : ∀ r news' h' tk', Fr h₀ L h' m → News h₀ L h' news' → Out news' r → Q r { s with heap := h', toks := tk' }) :
    wpAny (model Challenge.rw_nu0383_01.row.prog w) (ktrTop dp un gd cn cs L a ccd cl outer) (call (.ref f) vs) Q E s := C _ _ _ _ _ _ _ _ _ _ _ _ _ _ _ _ _ B F X N T hk hd hu k
inductive Slf where | value | rm (b : Bool) | non
  deriving DecidableEq
inductive KdIs : Value → Slf → Prop
  | value {t} : KdIs (.str "value" t) .value
  | wr {t} : KdIs (.str "mut" t) (.rm true)
  | rd {t} : KdIs (.str "ref" t) (.rm false)
  | non : KdIs .none .non
noncomputable def selfOf (t : Ty) : Slf → Option Ty
  | .value => some t
  | .non => none
  | .rm b => match t with
    | .ref m u => if m = b then some u else none
    | _ => none
noncomputable def OptTy (news : Led) (r : Value) : Option Ty → Prop
  | none => r = .none
  | some t => TyIn news r t
theorem Ty.refOr (t : Ty) : (∃ m u, t = .ref m u) ∨ t.kd ≠ "ref" := by
  cases t
  case ref m u => exact .inl ⟨_, _, rfl⟩
  all_goals exact .inr (by simp only [Ty.kd]; decide)
theorem selfOf_nonref {t : Ty} (h : t.kd ≠ "ref") (b : Bool) : selfOf t (.rm b) = none := by
  cases t
  case ref => exact absurd rfl h
  all_goals rfl
theorem ite_t {b : Bool} {P Q : Prop} (h : b = true) (p : P) : if b = true then P else Q := by rw [if_pos h]; exact p
theorem ite_f {b : Bool} {P Q : Prop} (h : b = false) (q : Q) : if b = true then P else Q := by rw [if_neg (by rw [h]; decide)]; exact q
theorem mem_tl {α : Type} {q x : α} {l : List α} (h : q ∈ l) : q ∈ x :: l := List.mem_cons_of_mem _ h
theorem mem_via {fz l : Led} {q : Addr × Obj} (h : ∀ p ∈ fz, p ∈ l) (m : q ∈ fz) : q ∈ l := h q m
theorem sub_tl {fz l : Led} {x : Addr × Obj} (h : ∀ p ∈ fz, p ∈ l) : ∀ p ∈ fz, p ∈ x :: l := fun p hp => .tail _ (h p hp)
theorem newsSub {h₀ h : Heap} {L : Addr} {l l' : Led} (N : News h₀ L h l) (hs : ∀ p ∈ l', p ∈ l) : News h₀ L h l' := fun p hp => N p (hs p hp)
noncomputable def headPairs : Ty → Ty → Option (List (Ty × Ty))
  | .int, .int => some []
  | .adt, .adt => some []
  | .par, .par => some []
  | .bool, .bool => some []
  | .var, .var => some []
  | .ref m u, .ref n v => if m = n then some [(u, v)] else none
  | .box u, .box v => some [(u, v)]
  | _, _ => none
theorem headPairs_ne {a b : Ty} (h : a.kd ≠ b.kd) : headPairs a b = none := by
  cases a <;> cases b <;> first | rfl | exact absurd rfl h
noncomputable def PairsOut (fz news n' : Led) (r : Value) : Option (List (Ty × Ty)) → Prop
  | none => n' = news ∧ r = .none
  | some [] => ∃ l ep, r = .ref l ∧ n' = (l, listOf #[] ep) :: news ∧ AllLt l news
  | some [(u, v)] => ∃ l ep p n x y, r = .ref l ∧ n' = (l, listOf #[.ref p] ep) :: (p, tupOf [x, y] n) :: news ∧ TyIn fz x u ∧ TyIn fz y v ∧ AllLt p news ∧ @LT.lt Nat _ p l
  | _ => False
section
variable {prog : Program} {w : World} {A : Around} {E : Value → Shared → Prop} {s : Shared} {h₀ : Heap} {L a : Addr} {news : Led}
theorem tup_of (N : News h₀ L s.heap news) {l : List Value} {n : Nat} (hm : (a, tupOf l n) ∈ news) : IsTup s.heap a l.toArray := ⟨_, N.get hm, rfl, n, rfl⟩
theorem tup_item {value slice : PySem.Expr} {l : List Value} {k : Int} {u : Tok} {j n : Nat} {x : Value} {Q : Value → Shared → Prop} (N : News h₀ L s.heap news) (hm : (a, tupOf l n) ∈ news)
    (h0 : 0 ≤ k) (h1 : k < 2 ^ 63) (hj : k.toNat = j) (hx : l[j]? = some x) (h : Q x s)
    (hs : subscripted slice false (.ref a) (.int k u) = operate [.ref a, .int k u] (getItem (.ref a) (.int k u))) :
    wpAny (model prog w) A (subscriptTail value slice (.ref a) (.int k u)) Q E s := by
  refine item_tupleT (tup_of N hm) (Int.le_trans (by decide) h0) h1 (j := j) ?_ hx h hs
  have hl := (List.getElem?_eq_some_iff.mp hx).1
  unfold seqIndex?
  simp only [show ¬ k < 0 from Int.not_lt.mpr h0, if_false]
  rw [if_pos (by simp only [Bool.and_eq_true, decide_eq_true_eq]; exact ⟨h0, by rw [← Int.toNat_of_nonneg h0, hj]; exact Int.ofNat_lt.mpr hl⟩), hj]
end
section
variable {M : Model} {A : Around} {E : Value → Shared → Prop} {env : Env} {h : Heap} {g : Array GenState} {d : Drawn} {X : Nat} {os : OsState}
theorem exec_nil_g {Q : Flow → Shared → Prop} (k : ∀ tk, Q .next ⟨h, g, d, tk, os⟩) : wpAny M A (execs [] env) Q E ⟨h, g, d, X, os⟩ := wpAny_execs_nil (k X)
end
end Mine
end
section
open PySem PySem.W PyProof.Rows PySem.Calls
set_option maxRecDepth 100000
namespace Mine
open Builtin
structure TI (h : Heap) (it t : Addr) (xs : Array Value) (k : Nat) : Prop where
  i : h.IsTupleIter it t k
  t : h.IsTuple t xs
theorem TI.to {h h' : Heap} {it t : Addr} {xs : Array Value} {k : Nat} (x : TI h it t xs k) (f : ∀ b o, (b = it ∨ b = t) → h.get? b = some o → h'.get? b = some o) : TI h' it t xs k := by
  obtain ⟨⟨o, h1, r1⟩, ⟨o2, h2, r2⟩⟩ := x
  exact ⟨⟨o, f _ _ (.inl rfl) h1, r1⟩, ⟨o2, f _ _ (.inr rfl) h2, r2⟩⟩
section
variable {prog : Program} {w : World} {A : Around} {E : Value → Shared → Prop} {s : Shared}
theorem ti_next {it t : Addr} {k : Nat} {xs : Array Value} {x : Value} {Q : Value → Shared → Prop} (c : TI s.heap it t xs k) (ne : t ≠ it) (hx : xs[k]? = some x)
    (hQ : ∀ h', TI h' it t xs (k + 1) → Heap.SameBut it s.heap h' → Q x { s with heap := h' }) : wpAny (model prog w) A (SmallTypes.nextOf (.ref it)) Q E s := by
  obtain ⟨⟨o, ho, hc, hd⟩, ht⟩ := id c
  obtain ⟨ot, hot, hct, n, hdt⟩ := id ht
  unfold SmallTypes.nextOf
  refine wpAny_bind (wpAny_callSpecial?_slot (name := Str.ofString "__next__") c.i.typeIs PySem.F.slot_tuple_iterator_next (wpAny_call_entry PySem.F.slot_tuple_iterator_next c.i.typeIs PySem.F.entry_tuple_iterator_next ?_ (PySem.F.args_tuple_iterator_next_1 _)))
  show wpAny _ _ (field (.ref it) 0 >>= _) _ _ s
  refine wpAny_bind (wpAny_field ho hd (x := .ref t) rfl ?_)
  show wpAny _ _ (if (Value.ref t == Value.none) = true then _ else _) _ _ s
  rw [if_neg (show ¬ ((Value.ref t == Value.none) = true) from Bool.false_ne_true)]
  refine wpAny_bind (wpAny_field ho hd (x := .int k 0) rfl ?_)
  refine wpAny_bind (wpAny_seqItems hot hdt ?_)
  simp only [Int.toNat_natCast, hx]
  refine wpAny_bind (wpAny_setField ho hd (by simp) (wpAny_pure ⟨x, rfl, wpAny_pure (hQ _ ⟨?_, ?_⟩ (Heap.SameBut.update ..))⟩))
  · exact ⟨_, Heap.get?_update_self _ ho (Obj.isFreed_of_fields (Obj.data_mapFields hd _)), (Obj.cls_mapFields ..).trans hc, by rw [Obj.data_mapFields hd]; simp [rawInt]⟩
  · exact ⟨ot, (Heap.get?_update_other _ _ (Ne.symm ne)).trans hot, hct, n, hdt⟩
theorem ti_stop {it t : Addr} {k : Nat} {xs : Array Value} {Q : Value → Shared → Prop} (hh : A.handled = none) (c : TI s.heap it t xs k) (hx : xs[k]? = none)
    (hE : ∀ h' e, Heap.ExtBut it s.heap h' → (∃ o, h'.get? e = some o ∧ o.cls = .type "StopIteration") → E (.ref e) { s with heap := h' }) : wpAny (model prog w) A (SmallTypes.nextOf (.ref it)) Q E s := by
  obtain ⟨⟨o, ho, hc, hd⟩, ht⟩ := id c
  obtain ⟨ot, hot, hct, n, hdt⟩ := id ht
  unfold SmallTypes.nextOf
  refine wpAny_bind (wpAny_callSpecial?_slot (name := Str.ofString "__next__") c.i.typeIs PySem.F.slot_tuple_iterator_next (wpAny_call_entry PySem.F.slot_tuple_iterator_next c.i.typeIs PySem.F.entry_tuple_iterator_next ?_ (PySem.F.args_tuple_iterator_next_1 _)))
  show wpAny _ _ (field (.ref it) 0 >>= _) _ _ s
  refine wpAny_bind (wpAny_field ho hd (x := .ref t) rfl ?_)
  show wpAny _ _ (if (Value.ref t == Value.none) = true then _ else _) _ _ s
  rw [if_neg (show ¬ ((Value.ref t == Value.none) = true) from Bool.false_ne_true)]
  refine wpAny_bind (wpAny_field ho hd (x := .int k 0) rfl ?_)
  refine wpAny_bind (wpAny_seqItems hot hdt ?_)
  simp only [Int.toNat_natCast, hx]
  refine wpAny_bind (wpAny_rule (wpAny_bind (wpAny_setField ho hd (by simp) ?_)))
  show wpAny _ _ (newExc (.type "StopIteration") [] >>= _) _ _ _
  refine wpAny_bind ?_
  simp only [newExc, newTuple]
  refine wpAny_bind (wpAny_newObj_type ?_ (by size_fits))
  refine wpAny_bind (m := firstArgMember _ _) (wpAny_of_eq (a := Value.none) (by first | rfl | (simp only [firstArgMember]; rfl)) ?_)
  refine wpAny_newObj_type ?_ (by size_fits)
  simp only [raiseNew]
  refine wpAny_bind (wpAny_handled ?_)
  first | rw [show A.in1.handled = none from hh] | rw [hh]
  refine wpAny_bind (wpAny_pure (wpAny_throw ?_))
  exact hE _ _ (((Heap.SameBut.update ..).extBut.push _).push _) ⟨_, Heap.get?_push_size _ rfl, rfl⟩
end
structure ZS (h : Heap) (b p q : Addr) (xs ys : Array Value) (f : Value) (k : Nat) : Prop where
  z : IsZip h (b + 4) (b + 2) (b + 3) f
  ti : IsPair h (b + 2) (.ref b) (.ref (b + 1))
  to : ∃ u v, IsPair h (b + 3) u v
  one : TI h b p xs k
  two : TI h (b + 1) q ys k
  lp : p < b
  lq : q < b
theorem orE {α : Type} {P : α → Prop} {d a b : α} (h : d = a ∨ d = b) (A : P a) (B : P b) : P d := h.elim (fun q => q ▸ A) (fun q => q ▸ B)
theorem mem0 {α : Type} {x a : α} {l : List α} (e : x = a) : x ∈ a :: l := e ▸ .head _
theorem ZS.keep {h h' : Heap} {b p q : Addr} {xs ys : Array Value} {f : Value} {k : Nat} (x : ZS h b p q xs ys f k) (g : ∀ c o, c ∈ [b + 4, b + 2, b + 3, b, b + 1, p, q] → h.get? c = some o → h'.get? c = some o) : ZS h' b p q xs ys f k := by
  obtain ⟨z, ti, ⟨u, v, to⟩, one, two, lp, lq⟩ := x
  exact ⟨g _ _ (.head _) z, g _ _ (.tail _ (.head _)) ti, ⟨u, v, g _ _ (.tail _ (.tail _ (.head _))) to⟩, one.to fun c o hc e => g c o (orE (P := fun y => y ∈ _) hc (.tail _ (.tail _ (.tail _ (.head _)))) (.tail _ (.tail _ (.tail _ (.tail _ (.tail _ (.head _))))))) e, two.to fun c o hc e => g c o (orE (P := fun y => y ∈ _) hc (.tail _ (.tail _ (.tail _ (.tail _ (.head _))))) (.tail _ (.tail _ (.tail _ (.tail _ (.tail _ (.tail _ (.head _)))))))) e, lp, lq⟩
section
variable {prog : Program} {w : World} {A : Around} {E : Value → Shared → Prop} {s : Shared}
theorem na {a b : Nat} (h : a ≠ b) : (a : Addr) ≠ b := h
theorem zs_item {b p q : Addr} {xs ys : Array Value} {k : Nat} {x y : Value} {Q : Option Value → Shared → Prop} (c : ZS s.heap b p q xs ys .none k) (hx : xs[k]? = some x) (hy : ys[k]? = some y)
    (hQ : ∀ h', ZS h' b p q xs ys (rawInt s.heap.objs.size) (k + 1) → IsPair h' s.heap.objs.size x y → b + 4 < s.heap.objs.size → (∀ d o, d ≠ b + 4 → d ≠ b + 3 → d ≠ b → d ≠ b + 1 → s.heap.get? d = some o → h'.get? d = some o) →
      Q (some (.ref s.heap.objs.size)) { s with heap := h' }) : wpAny (model prog w) A (pyNext (.ref (b + 4))) Q E s := by
  obtain ⟨hz, hti, ⟨u, v, hto⟩, c1, c2, lp, lq⟩ := c
  have hT : s.TypeIs (.ref (b + 4)) "zip" := ⟨_, hz, rfl⟩
  have e43 : (b + 3 : Addr) ≠ b + 4 := na (by first | exact om_off (by decide) | exact om_b (by decide) | exact (om_b (by decide)).symm | omega)
  have e40 : b ≠ (b + 4 : Addr) := na (by first | exact om_off (by decide) | exact om_b (by decide) | exact (om_b (by decide)).symm | omega)
  have e41 : (b + 1 : Addr) ≠ b + 4 := na (by first | exact om_off (by decide) | exact om_b (by decide) | exact (om_b (by decide)).symm | omega)
  have e30 : (b + 3 : Addr) ≠ b := na (by first | exact om_off (by decide) | exact om_b (by decide) | exact (om_b (by decide)).symm | omega)
  have e31 : (b + 3 : Addr) ≠ b + 1 := na (by first | exact om_off (by decide) | exact om_b (by decide) | exact (om_b (by decide)).symm | omega)
  have e01 : b ≠ (b + 1 : Addr) := na (by first | exact om_off (by decide) | exact om_b (by decide) | exact (om_b (by decide)).symm | omega)
  have ep : ∀ d : Nat, p ≠ (b + d : Addr) := fun d => Nat.ne_of_lt (Nat.lt_of_lt_of_le lp (Nat.le_add_right b d))
  have eq' : ∀ d : Nat, q ≠ (b + d : Addr) := fun d => Nat.ne_of_lt (Nat.lt_of_lt_of_le lq (Nat.le_add_right b d))
  unfold pyNext
  refine wpAny_bind (wpAny_attempt (wpAny_callSpecial?_slot (name := Str.ofString "__next__") hT PySem.F.slot_zip_next (wpAny_call_entry PySem.F.slot_zip_next hT PySem.F.entry_zip_next ?_ (PySem.F.args_zip_next_1 _))))
  show wpAny _ _ (field (.ref (b + 4)) 2 >>= _) _ _ _
  refine wpAny_bind (wpAny_field hz rfl (x := .bool false) rfl ?_)
  show wpAny _ _ (field (.ref (b + 4)) 3 >>= _) _ _ _
  refine wpAny_bind (wpAny_field hz rfl (x := .ref (b + 2)) rfl ?_)
  refine wpAny_bind (wpAny_seqItems hti rfl ?_)
  show wpAny _ _ (SmallTypes.ownedTupleIsFree (.ref (b + 4)) >>= _) _ _ _
  refine wpAny_bind ?_
  unfold SmallTypes.ownedTupleIsFree
  refine wpAny_bind (wpAny_field hz rfl (x := .none) rfl (wpAny_pure ?_))
  simp only [if_true]
  refine wpAny_bind (wpAny_rule ?_)
  refine wpAny_bind (wpAny_field hz rfl (x := .ref (b + 3)) rfl ?_)
  refine wpAny_bind (wpAny_setField_rec hz (by simp) fun h1 z1 s1 => ?_)
  replace z1 : IsZip h1 (b + 4) (b + 2) (b + 3) .ellipsis := z1
  refine wpAny_bind ?_
  simp only [List.zipIdx_cons, List.zipIdx_nil, List.forIn_cons, List.forIn_nil]
  refine wpAny_bind (wpAny_bind (wpAny_onRaise ?_))
  show wpAny _ _ (SmallTypes.nextOf (.ref b) >>= _) _ _ _
  have c1' : TI h1 b p xs k := c1.to fun d o hd e => s1.extBut _ _ (orE (P := fun y => y ≠ _) hd (e40) (ep 4)) e
  refine wpAny_bind (ti_next c1' (ep 0) hx fun h2 c1n s2 => wpAny_pure ?_)
  have to2 : IsPair h2 (b + 3) u v := s2.extBut _ _ e30 (s1.extBut _ _ e43 hto)
  refine wpAny_bind (wpAny_seqItems to2 rfl ?_)
  refine wpAny_bind (wpAny_updateSeq_pair to2 fun h3 to3 s3 => ?_)
  replace to3 : IsPair h3 (b + 3) x v := to3
  refine wpAny_bind (wpAny_letGo (wpAny_pure ?_))
  refine wpAny_bind (wpAny_bind (wpAny_onRaise ?_))
  show wpAny _ _ (SmallTypes.nextOf (.ref (b + 1)) >>= _) _ _ _
  have c2' : TI h3 (b + 1) q ys k := c2.to fun d o hd e => s3.extBut _ _ (orE (P := fun y => y ≠ _) hd (e31.symm) (eq' 3)) (s2.extBut _ _ (orE (P := fun y => y ≠ _) hd (e01.symm) (eq' 0)) (s1.extBut _ _ (orE (P := fun y => y ≠ _) hd (e41) (eq' 4)) e))
  refine wpAny_bind (ti_next c2' (eq' 1) hy fun h4 c2n s4 => wpAny_pure ?_)
  have to4 : IsPair h4 (b + 3) x v := s4.extBut _ _ e31 to3
  refine wpAny_bind (wpAny_seqItems to4 rfl ?_)
  refine wpAny_bind (wpAny_updateSeq_pair to4 fun h5 to5 s5 => ?_)
  replace to5 : IsPair h5 (b + 3) x y := to5
  refine wpAny_bind (wpAny_letGo (wpAny_pure (wpAny_pure ?_)))
  refine wpAny_bind (wpAny_seqItems to5 rfl ?_)
  refine wpAny_bind (wpAny_newTuple ?_)
  have sz : h5.objs.size = s.heap.objs.size := by rw [s5.1, s4.1, s3.1, s2.1, s1.1]
  have z5 : IsZip h5 (b + 4) (b + 2) (b + 3) .ellipsis := s5.extBut _ _ e43.symm (s4.extBut _ _ e41.symm (s3.extBut _ _ e43.symm (s2.extBut _ _ e40.symm z1)))
  have zlt : b + 4 < h5.objs.size := Heap.lt_size z5
  show wpAny _ _ (SmallTypes.ownedTupleHandOut (.ref (b + 4)) (.ref h5.objs.size) >>= _) _ _ _
  refine wpAny_bind ?_
  unfold SmallTypes.ownedTupleHandOut
  have z6 : IsZip (h5.push { cls := .type "tuple", data := .seq #[x, y] }) (b + 4) (b + 2) (b + 3) .ellipsis := Heap.get?_push_of_some _ z5
  refine wpAny_bind (wpAny_setField_rec z6 (by simp) fun h7 z7 s7 => ?_)
  replace z7 : IsZip h7 (b + 4) (b + 2) (b + 3) (rawInt h5.objs.size) := z7
  refine wpAny_setField_rec z7 (by simp) fun h8 z8 s8 => ?_
  replace z8 : IsZip h8 (b + 4) (b + 2) (b + 3) (rawInt h5.objs.size) := z8
  have up : ∀ d o, d ≠ b + 4 → h5.get? d = some o → h8.get? d = some o := fun d o d1 e => s8.extBut _ _ d1 (s7.extBut _ _ d1 (Heap.get?_push_of_some _ e))
  have pr : IsPair h8 h5.objs.size x y := s8.extBut _ _ (Nat.ne_of_gt zlt) (s7.extBut _ _ (Nat.ne_of_gt zlt) (Heap.get?_push_size _ rfl))
  rw [sz] at z8 pr zlt
  refine wpAny_pure ⟨_, rfl, wpAny_pure ?_⟩
  show Q (some (.ref h5.objs.size)) _
  rw [sz]
  refine hQ h8 ⟨z8, ?_, ⟨x, y, up _ _ e43 to5⟩, ?_, ?_, lp, lq⟩ pr zlt fun d o d4 d3 d0 d1 e => up d o d4 (s5.extBut _ _ d3 (s4.extBut _ _ d1 (s3.extBut _ _ d3 (s2.extBut _ _ d0 (s1.extBut _ _ d4 e)))))
  · exact up _ _ (na (by first | exact om_off (by decide) | exact om_b (by decide) | exact (om_b (by decide)).symm | omega)) (s5.extBut _ _ (na (by first | exact om_off (by decide) | exact om_b (by decide) | exact (om_b (by decide)).symm | omega)) (s4.extBut _ _ (na (by first | exact om_off (by decide) | exact om_b (by decide) | exact (om_b (by decide)).symm | omega)) (s3.extBut _ _ (na (by first | exact om_off (by decide) | exact om_b (by decide) | exact (om_b (by decide)).symm | omega)) (s2.extBut _ _ (na (by first | exact om_off (by decide) | exact om_b (by decide) | exact (om_b (by decide)).symm | omega)) (s1.extBut _ _ (na (by first | exact om_off (by decide) | exact om_b (by decide) | exact (om_b (by decide)).symm | omega)) hti)))))
  · exact c1n.to fun d o hd e => up _ _ (orE (P := fun y => y ≠ _) hd (e40) (ep 4)) (s5.extBut _ _ (orE (P := fun y => y ≠ _) hd (e30.symm) (ep 3)) (s4.extBut _ _ (orE (P := fun y => y ≠ _) hd (e01) (ep 1)) (s3.extBut _ _ (orE (P := fun y => y ≠ _) hd (e30.symm) (ep 3)) e)))
  · exact c2n.to fun d o hd e => up _ _ (orE (P := fun y => y ≠ _) hd (e41) (eq' 4)) (s5.extBut _ _ (orE (P := fun y => y ≠ _) hd (e31.symm) (eq' 3)) e)
theorem zs_done {b p q : Addr} {xs ys : Array Value} {k : Nat} {Q : Option Value → Shared → Prop} (hh : A.handled = none) (c : ZS s.heap b p q xs ys .none k) (hx : xs[k]? = none)
    (hQ : ∀ h', (∀ d o, d ≠ b + 4 → d ≠ b → s.heap.get? d = some o → h'.get? d = some o) → Q none { s with heap := h' }) : wpAny (model prog w) A (pyNext (.ref (b + 4))) Q E s := by
  obtain ⟨hz, hti, ⟨u, v, hto⟩, c1, c2, lp, lq⟩ := c
  have hT : s.TypeIs (.ref (b + 4)) "zip" := ⟨_, hz, rfl⟩
  have e40 : b ≠ (b + 4 : Addr) := na (by first | exact om_off (by decide) | exact om_b (by decide) | exact (om_b (by decide)).symm | omega)
  have ep : ∀ d : Nat, p ≠ (b + d : Addr) := fun d => Nat.ne_of_lt (Nat.lt_of_lt_of_le lp (Nat.le_add_right b d))
  unfold pyNext
  refine wpAny_bind (wpAny_attempt (wpAny_callSpecial?_slot (name := Str.ofString "__next__") hT PySem.F.slot_zip_next (wpAny_call_entry PySem.F.slot_zip_next hT PySem.F.entry_zip_next ?_ (PySem.F.args_zip_next_1 _))))
  show wpAny _ _ (field (.ref (b + 4)) 2 >>= _) _ _ _
  refine wpAny_bind (wpAny_field hz rfl (x := .bool false) rfl ?_)
  show wpAny _ _ (field (.ref (b + 4)) 3 >>= _) _ _ _
  refine wpAny_bind (wpAny_field hz rfl (x := .ref (b + 2)) rfl ?_)
  refine wpAny_bind (wpAny_seqItems hti rfl ?_)
  show wpAny _ _ (SmallTypes.ownedTupleIsFree (.ref (b + 4)) >>= _) _ _ _
  refine wpAny_bind ?_
  unfold SmallTypes.ownedTupleIsFree
  refine wpAny_bind (wpAny_field hz rfl (x := .none) rfl (wpAny_pure ?_))
  simp only [if_true]
  refine wpAny_bind (wpAny_rule ?_)
  refine wpAny_bind (wpAny_field hz rfl (x := .ref (b + 3)) rfl ?_)
  refine wpAny_bind (wpAny_setField_rec hz (by simp) fun h1 z1 s1 => ?_)
  replace z1 : IsZip h1 (b + 4) (b + 2) (b + 3) .ellipsis := z1
  refine wpAny_bind ?_
  simp only [List.zipIdx_cons, List.zipIdx_nil, List.forIn_cons, List.forIn_nil]
  refine wpAny_bind (wpAny_bind (wpAny_onRaise ?_))
  show wpAny _ _ (SmallTypes.nextOf (.ref b) >>= _) _ _ _
  have c1' : TI h1 b p xs k := c1.to fun d o hd e => s1.extBut _ _ (orE (P := fun y => y ≠ _) hd (e40) (ep 4)) e
  refine wpAny_bind (ti_stop hh c1' hx fun h2 e s2 he => ?_)
  obtain ⟨oe, hoe, hce⟩ := he
  have z2 : IsZip h2 (b + 4) (b + 2) (b + 3) .ellipsis := s2 _ _ e40.symm z1
  have ez : e ≠ b + 4 := fun x => by subst x; rw [z2] at hoe; cases hoe; simp at hce
  refine wpAny_setField_rec z2 (by simp) fun h3 _ s3 => ?_
  refine wpAny_bind (wpAny_isInstance (T := "StopIteration") (b := true) ⟨oe, s3.extBut _ _ ez hoe, hce⟩ isSubtype_stop ?_)
  exact wpAny_pure (hQ _ fun d o d4 d0 x => s3.extBut _ _ d4 (s2 _ _ d0 (s1.extBut _ _ d4 x)))
end
end Mine
end
section
open PySem PySem.W PyProof.Rows PySem.Calls PyProof.V PySem.Spec
set_option maxRecDepth 100000
namespace Mine
open Builtin
theorem zip_nolen : typeLookup (.type "zip") "__len__" = pure none := by rw [typeLookup_type, builtinLookup_eq_fast]; kernel_rfl
theorem zip_nohint : typeLookup (.type "zip") "__length_hint__" = pure none := by rw [typeLookup_type, builtinLookup_eq_fast]; kernel_rfl
noncomputable abbrev lstO (xs : Array Value) (c : Nat) : Obj := { cls := .type "list", dict := none, data := .seq xs c, slots := #[] }
section
variable {prog : Program} {w : World} {A : Around} {E : Value → Shared → Prop} {s : Shared}
theorem zip_made (p q : Addr) (xs ys : Array Value) :
    Meets (Builtin.«zip.__new__» ⟨[.type "zip", .ref p, .ref q], []⟩) (fun _ R s => s.heap.IsTuple p xs ∧ s.heap.IsTuple q ys ∧
      ∀ h', ZS h' s.heap.objs.size p q xs ys .none 0 → (∀ d o, s.heap.get? d = some o → h'.get? d = some o) → R (.ok (.ret (.ref (s.heap.objs.size + 4)))) { s with heap := h' }) :=
  .of_wp fun prog w A R s h => by
    obtain ⟨hp, g, d, tk, os⟩ := s; obtain ⟨t1, t2, h⟩ := h
    have hsub := sub_zip
    have g1 : Heap.IsTuple (Shared.heap ⟨hp, g, d, tk, os⟩) p xs := t1
    have g2 : Heap.IsTuple (Shared.heap ⟨hp.push { cls := .type "tuple_iterator", data := .fields #[.ref p, .int 0 0] }, g, d, tk, os⟩) q ys := Heap.IsTuple.push t2 _
    wp_walk using wpAny_pyIter_tuple g1, wpAny_pyIter_tuple g2
    have lp : p < hp.objs.size := by obtain ⟨o, e, _⟩ := t1; exact Heap.lt_size e
    have lq : q < hp.objs.size := by obtain ⟨o, e, _⟩ := t2; exact Heap.lt_size e
    have up : ∀ (o1 o2 o3 o4 o5 : Obj) (d : Addr) (o : Obj), hp.get? d = some o → (((((hp.push o1).push o2).push o3).push o4).push o5).get? d = some o := fun o1 o2 o3 o4 o5 d o e =>
      Heap.get?_push_of_some _ (Heap.get?_push_of_some _ (Heap.get?_push_of_some _ (Heap.get?_push_of_some _ (Heap.get?_push_of_some _ e))))
    refine ⟨_, rfl, ?_⟩
    simp only [Heap.size_push]
    refine h _ ⟨Heap.get?_push_at (by simp only [Heap.size_push]) rfl, ?_, ⟨.none, .none, ?_⟩, ⟨?_, ?_⟩, ⟨?_, ?_⟩, lp, lq⟩ (fun d o e => up _ _ _ _ _ d o e)
    · exact Heap.get?_push_of_some _ (Heap.get?_push_of_some _ (Heap.get?_push_at (by simp only [Heap.size_push]) rfl))
    · exact Heap.get?_push_of_some _ (Heap.get?_push_at (by simp only [Heap.size_push]) rfl)
    · exact ⟨_, Heap.get?_push_of_some _ (Heap.get?_push_of_some _ (Heap.get?_push_of_some _ (Heap.get?_push_of_some _ (Heap.get?_push_size _ rfl)))), rfl, rfl⟩
    · obtain ⟨o, e, r⟩ := t1; exact ⟨o, up _ _ _ _ _ _ _ e, r⟩
    · exact ⟨_, Heap.get?_push_of_some _ (Heap.get?_push_of_some _ (Heap.get?_push_of_some _ (Heap.get?_push_at (by simp only [Heap.size_push]) rfl))), rfl, rfl⟩
    · obtain ⟨o, e, r⟩ := t2; exact ⟨o, up _ _ _ _ _ _ _ e, r⟩
theorem zip_call {p q : Addr} {xs ys : Array Value} {Q : Value → Shared → Prop} (t1 : s.heap.IsTuple p xs) (t2 : s.heap.IsTuple q ys)
    (h : ∀ h', ZS h' s.heap.objs.size p q xs ys .none 0 → (∀ d o, s.heap.get? d = some o → h'.get? d = some o) → Q (.ref (s.heap.objs.size + 4)) { s with heap := h' }) :
    wpAny (model prog w) A (call (.type "zip") [.ref p, .ref q]) Q E s := by
  refine callType_new PySem.F.called_zip (by decide) (PySem.F.typeCall_zip_2 _ _) (PySem.F.newCall_zip_2 _ _) (fun obj => PySem.F.args_object_init_3 obj _ _) PySem.F.entry_zip_new (zip_made p q xs ys) ⟨t1, t2, fun h' c k => ?_⟩
  exact ⟨⟨_, c.z, rfl⟩, h h' c k⟩
theorem zs_iter {b p q : Addr} {xs ys : Array Value} {f : Value} {k : Nat} {Q : Value → Shared → Prop} (c : ZS s.heap b p q xs ys f k) (h : Q (.ref (b + 4)) s) : wpAny (model prog w) A (pyIter (.ref (b + 4))) Q E s := wpAny_pyIter_zip c.z h
theorem zip_extend {R : Result → Shared → Prop} {b p q S : Addr} {res : Value} {c₀ : Nat} (hh : A.handled = none) (c : ZS s.heap b p q #[] #[] .none 0) (hne : S ∉ [b + 4, b + 2, b + 3, b, b + 1, p, q])
    (hS : s.heap.get? S = some (lstO #[] c₀))
    (hR : ∀ h' tk c', (∀ d o, d ≠ S → d ≠ b + 4 → d ≠ b → s.heap.get? d = some o → h'.get? d = some o) → h'.get? S = some (lstO #[] c') → R (.ok (.ret res)) { s with heap := h', toks := tk }) :
    wpAny (model prog w) A.in1 (List.listExtendWith (.ref S) (.ref (b + 4)) res)
      (fun fin s' => match fin with | .done f => R (.ok f) s' | .again c' => c'.quiet = true ∧ codeAny (model prog w) A c' R s') (fun e s' => R (.error e) s') s := by
  have hT : s.TypeIs (.ref (b + 4)) "zip" := ⟨_, c.z, rfl⟩
  have hSz : S ≠ (b + 4 : Addr) := fun e => hne (by simp [e])
  unfold List.listExtendWith
  refine wpAny_bind (wpAny_typeOf hT ?_)
  have h1 : List.listSameRef (.ref S) (.ref (b + 4)) = false := by simp [List.listSameRef, hSz]
  have h2 : (Value.type "zip" == Value.type "list") = false := by decide
  have h3 : (Value.type "zip" == Value.type "tuple") = false := by decide
  simp only [h1, h2, h3, Bool.or_false, Bool.false_eq_true, if_false]
  refine wpAny_bind (zs_iter c ?_)
  refine wpAny_bind (wpAny_holding ?_)
  unfold List.listLengthHint
  refine wpAny_bind (wpAny_specialOf hT zip_nolen ?_)
  show wpAny _ A.in1 (specialOf (Value.ref (b + 4)) (Str.ofString "__length_hint__") >>= _) _ _ _
  refine wpAny_bind (wpAny_specialOf hT zip_nohint ?_)
  refine wpAny_pure ?_
  show wpAny _ A.in1 (rule "list.extend.makes-room" >>= fun _ => List.listTouch (.ref S) >>= fun _ => again (.builtin "list.extend.loop" ⟨[.ref S, .ref (b + 4), res], []⟩)) _ _ _
  refine wpAny_bind (wpAny_rule ?_)
  refine wpAny_bind ?_
  show wpAny _ A.in1 (updateSeq S (·.push .none) >>= fun _ => updateSeq S (·.pop)) _ _ _
  refine wpAny_bind (wpAny_updateSeq hS rfl ?_)
  have hS2 := Heap.get?_update_self (Obj.mapSeq (·.push Value.none)) hS rfl
  refine wpAny_updateSeq (hz := by seq_fits) hS2 rfl ?_
  have hS3 := Heap.get?_update_self (Obj.mapSeq (·.pop)) hS2 rfl
  have oth : ∀ d o, d ≠ S → s.heap.get? d = some o → ((s.heap.update S (Obj.mapSeq (·.push Value.none))).update S (Obj.mapSeq (·.pop))).get? d = some o :=
    fun d o hd e => (Heap.get?_update_other _ _ (Ne.symm hd)).trans ((Heap.get?_update_other _ _ (Ne.symm hd)).trans e)
  refine wpAny_pure ⟨plainId_quiet PySem.F.plain_extend_loop _, codeAny_builtin PySem.F.entry_extend_loop ?_⟩
  rw [Around.under_plainId PySem.F.plain_extend_loop _]
  show wpAny _ A.in1 (pyNext (.ref (b + 4)) >>= _) _ _ _
  refine wpAny_bind (zs_done (A := A.in1) hh (c.keep fun d o hd e => oth d o (fun x => hne (x ▸ hd)) e) rfl fun h' hk => ?_)
  exact wpAny_pure (hR h' _ (c₀ + 1 + 1) (fun d o d1 d2 d3 e => hk d o d2 d3 (oth d o d1 e)) (hk S _ hSz (fun e => hne (by simp [e])) hS3))
theorem zip_list {b p q : Addr} {Q : Value → Shared → Prop} (hh : A.handled = none) (c : ZS s.heap b p q #[] #[] .none 0)
    (hQ : ∀ h' tk c', (∀ d o, d ≠ b + 4 → d ≠ b → s.heap.get? d = some o → h'.get? d = some o) → h'.get? s.heap.objs.size = some (lstO #[] c') → Q (.ref s.heap.objs.size) { s with heap := h', toks := tk }) :
    wpAny (model prog w) A (call (.type "list") [.ref (b + 4)]) Q E s := by
  refine callType_codes (Q₁ := fun obj s₁ => obj = .ref s.heap.objs.size ∧ s₁ = { s with heap := s.heap.push { cls := .type "list", data := .seq #[] } }) PySem.F.called_list (PySem.F.typeCall_list_1 _) PySem.F.entry_list_init (code_list_new _ ⟨rfl, rfl⟩) fun obj s₁ h₁ => ?_
  obtain ⟨rfl, rfl⟩ := h₁
  have hS : (s.heap.push { cls := .type "list", data := .seq #[] }).get? s.heap.objs.size = some (lstO #[] 0) := Heap.get?_push_size _ rfl
  have lz : b + 4 < s.heap.objs.size := Heap.lt_size c.z
  have lp : p < b := c.lp
  have lq : q < b := c.lq
  have hne : s.heap.objs.size ∉ [b + 4, b + 2, b + 3, b, b + 1, p, q] := by
    generalize s.heap.objs.size = S at lz
    intro h
    simp only [List.mem_cons, List.not_mem_nil, or_false] at h
    rcases h with h | h | h | h | h | h | h <;> (refine absurd h (neN ?_); first | exact Nat.ne_of_gt (ltN lz) | exact Nat.ne_of_gt (Nat.lt_of_le_of_lt (Nat.le_add_right _ _) (ltN lz)) | exact Nat.ne_of_gt (Nat.lt_of_le_of_lt (Nat.add_le_add_left (by decide) _) (ltN lz)) | exact Nat.ne_of_gt (Nat.lt_trans (ltN lp) (Nat.lt_of_le_of_lt (Nat.le_add_right _ _) (ltN lz))) | exact Nat.ne_of_gt (Nat.lt_trans (ltN lq) (Nat.lt_of_le_of_lt (Nat.le_add_right _ _) (ltN lz))) | (have := ltN lz; have := ltN lp; have := ltN lq; omega))
  refine ⟨⟨_, hS, rfl⟩, PySem.F.args_list_init_2 _ _, ?_⟩
  show wpAny _ A.in1.in1 (do let old ← List.listItems (.ref s.heap.objs.size); List.listUpdate (.ref s.heap.objs.size) (fun _ => #[]); letGo old.toList.reverse; List.listExtendWith (.ref s.heap.objs.size) (.ref (b + 4)) .none) _ _ _
  refine wpAny_bind ?_
  unfold List.listItems
  refine wpAny_bind (wpAny_seqItems hS rfl (wpAny_pure ?_))
  show wpAny _ A.in1.in1 (updateSeq s.heap.objs.size (fun _ => #[]) >>= fun _ => letGo (#[] : Array Value).toList.reverse >>= fun _ => List.listExtendWith (.ref s.heap.objs.size) (.ref (b + 4)) .none) _ _ _
  refine wpAny_bind (wpAny_updateSeq hS rfl ?_)
  have hS2 := Heap.get?_update_self (Obj.mapSeq (fun _ => (#[] : Array Value))) hS rfl
  have oth : ∀ d o, d ≠ s.heap.objs.size → s.heap.get? d = some o → ((s.heap.push { cls := .type "list", data := .seq #[] }).update s.heap.objs.size (Obj.mapSeq (fun _ => (#[] : Array Value)))).get? d = some o :=
    fun d o hd e => (Heap.get?_update_other _ _ (Ne.symm hd)).trans (Heap.get?_push_of_some _ e)
  refine wpAny_bind (wpAny_letGo ?_)
  refine zip_extend (A := A.in1) hh (c.keep fun d o hd e => oth d o (fun x => hne (x ▸ hd)) e) hne hS2 fun h' tk c' hk hl => ?_
  exact ⟨rfl, hQ h' tk c' (fun d o d1 d2 e => hk d o (Nat.ne_of_lt (Heap.lt_size e)) d1 d2 (oth d o (Nat.ne_of_lt (Heap.lt_size e)) e)) hl⟩
end
end Mine
end
section
open PySem PySem.W PyProof.Rows PySem.Calls PyProof.V PySem.Spec
set_option maxRecDepth 100000
namespace Mine
structure ZN (h₀ : Heap) (L : Addr) (news : Led) (h : Heap) (b p q : Addr) (xs ys : Array Value) : Prop where
  c : ZS h b p q xs ys .none 0
  n : ∀ d, b ≤ d → h₀.get? d = none
  l : L < b
  nw : ∀ p ∈ news, p.1 < b
section
variable {prog : Program} {w : World} {A : Around} {E : Value → Shared → Prop} {s : Shared} {h₀ : Heap} {L : Addr} {m : Str → Option Value} {news : Led}
theorem fr_but {h h' : Heap} (F : Fr h₀ L h m) {b : Addr} (hn : ∀ d, b ≤ d → h₀.get? d = none) (hl : L < b) (hk : ∀ d o, d < b → h.get? d = some o → h'.get? d = some o) : Fr h₀ L h' m :=
  ⟨F.ns.at' fun o e => hk L o hl e, fun d o e => hk d o (by
    rcases Nat.lt_or_ge d b with x | x
    · exact x
    · rw [hn d x] at e; cases e) (F.keep d o e), F.above⟩
theorem news_but {h h' : Heap} (N : News h₀ L h news) {b : Addr} (hw : ∀ p ∈ news, p.1 < b) (hk : ∀ d o, d < b → h.get? d = some o → h'.get? d = some o) : News h₀ L h' news :=
  fun p hp => ⟨hk _ _ (hw p hp) (N p hp).1, (N p hp).2⟩
theorem new_from {h : Heap} (F : Fr h₀ L h m) : ∀ d, h.objs.size ≤ d → h₀.get? d = none := fun d hd => by
  cases e : h₀.get? d with
  | none => rfl
  | some o => exact absurd (Heap.lt_size (F.keep d o e)) (Nat.not_lt.mpr hd)
theorem zip_N {p q : Addr} {xs ys : List Value} {n1 n2 : Nat} {Q : Value → Shared → Prop} (F : Fr h₀ L s.heap m) (N : News h₀ L s.heap news) (hp : (p, tupOf xs n1) ∈ news) (hq : (q, tupOf ys n2) ∈ news)
    (h : ∀ b h', Fr h₀ L h' m → News h₀ L h' news → ZN h₀ L news h' b p q xs.toArray ys.toArray → Q (.ref (b + 4)) { s with heap := h' }) :
    wpAny (model prog w) A (call (.type "zip") [.ref p, .ref q]) Q E s :=
  zip_call ⟨_, N.get hp, rfl, n1, rfl⟩ ⟨_, N.get hq, rfl, n2, rfl⟩ fun h' c k => h _ h' (F.keeps k) (N.grown k) ⟨c, new_from F, F.ns.lt, fun p hp => Heap.lt_size (N p hp).1⟩
theorem list_N {b p q : Addr} {Q : Value → Shared → Prop} (hh : A.handled = none) (F : Fr h₀ L s.heap m) (N : News h₀ L s.heap news) (Z : ZN h₀ L news s.heap b p q #[] #[])
    (h : ∀ l h' ep tk, Fr h₀ L h' m → News h₀ L h' ((l, listOf #[] ep) :: news) → (∀ p ∈ news, p.1 < l) → Q (.ref l) { s with heap := h', toks := tk }) :
    wpAny (model prog w) A (call (.type "list") [.ref (b + 4)]) Q E s := by
  refine zip_list hh Z.c fun h' tk c' hk hl => ?_
  have lz : b + 4 < s.heap.objs.size := Heap.lt_size Z.c.z
  have lb : b < s.heap.objs.size := Nat.lt_of_le_of_lt (Nat.le_add_right b 4) lz
  have g : ∀ d o, d < b → s.heap.get? d = some o → h'.get? d = some o := fun d o hd e => hk d o (Nat.ne_of_lt (Nat.lt_of_lt_of_le hd (Nat.le_add_right b 4))) (Nat.ne_of_lt hd) e
  refine h s.heap.objs.size h' c' tk (fr_but F Z.n Z.l g) ?_ fun p hp => Heap.lt_size (N p hp).1
  intro p hp
  rcases List.mem_cons.mp hp with rfl | hp
  · exact ⟨hl, Nat.ne_of_gt F.ns.lt, new_from F _ (Nat.le_refl _)⟩
  · exact news_but N Z.nw g p hp
end
section
variable {prog : Program} {w : World} {A : Around} {E : Value → Shared → Prop} {s : Shared} {env : Env} {h₀ : Heap} {body : List Stmt} {Q : Flow → Shared → Prop}
theorem zip_turns {elts : List PySem.Expr} {k : Nat} {pos : Pos} (hh : A.handled = none) (b p q : Addr) (xs ys : Array Value) (hl : xs.size = ys.size) :
    KTurns prog w A (.Tuple elts k pos) (b + 4) [b + 4, b + 2, b + 3, b, b + 1, p, q] [b + 4, b + 3, b, b + 1] xs.size
      (fun i v h => ∃ T x y, v = .ref T ∧ xs[i]? = some x ∧ ys[i]? = some y ∧ IsTup h T #[x, y])
      (fun i v h => ∃ T x y, v = .ref T ∧ xs[i]? = some x ∧ ys[i]? = some y ∧ IsTup h T #[x, y] ∧ ZS h b p q xs ys (rawInt T) (i + 1) ∧ b + 4 < T)
      (fun i h => ZS h b p q xs ys .none i) where
  sub := List.forall_mem_cons.mpr ⟨.head _, List.forall_mem_cons.mpr ⟨.tail _ (.tail _ (.head _)), List.forall_mem_cons.mpr ⟨.tail _ (.tail _ (.tail _ (.head _))), List.forall_mem_cons.mpr ⟨.tail _ (.tail _ (.tail _ (.tail _ (.head _)))), List.forall_mem_nil _⟩⟩⟩⟩
  frame := fun i h h' st hk => st.keep fun c o hc e => hk c hc o e
  item := fun i s Q E hi st hQ => by
    have hj : i < ys.size := hl ▸ hi
    refine zs_item st (Array.getElem?_eq_getElem hi) (Array.getElem?_eq_getElem hj) fun h' c pr lt hk => ?_
    exact hQ _ h' s.toks ⟨_, _, _, rfl, Array.getElem?_eq_getElem hi, Array.getElem?_eq_getElem hj, ⟨_, pr, rfl, 0, rfl⟩, c, lt⟩ fun d o hd e => hk d o (fun x => hd (by first | exact mem0 x | exact .tail _ (mem0 x) | exact .tail _ (.tail _ (mem0 x)) | exact .tail _ (.tail _ (.tail _ (mem0 x))))) (fun x => hd (by first | exact mem0 x | exact .tail _ (mem0 x) | exact .tail _ (.tail _ (mem0 x)) | exact .tail _ (.tail _ (.tail _ (mem0 x))))) (fun x => hd (by first | exact mem0 x | exact .tail _ (mem0 x) | exact .tail _ (.tail _ (mem0 x)) | exact .tail _ (.tail _ (.tail _ (mem0 x))))) (fun x => hd (by first | exact mem0 x | exact .tail _ (mem0 x) | exact .tail _ (.tail _ (mem0 x)) | exact .tail _ (.tail _ (.tail _ (mem0 x))))) e
  go := fun i v s Q E hm hQ => by
    obtain ⟨T, x, y, rfl, hx, hy, hT, c, lt⟩ := hm
    refine wpAny_letOwnedTupleGo_zip c.z fun h' z' s' => hQ h' ⟨T, x, y, rfl, hx, hy, ?_⟩ ⟨z', ?_, ?_, ?_, ?_, c.lp, c.lq⟩ fun d o hd e => s'.extBut _ _ (fun x => hd (by first | exact mem0 x | exact .tail _ (mem0 x) | exact .tail _ (.tail _ (mem0 x)) | exact .tail _ (.tail _ (.tail _ (mem0 x))))) e
    · obtain ⟨o, e, r⟩ := hT; exact ⟨o, s'.extBut _ _ (Nat.ne_of_gt lt) e, r⟩
    · exact s'.extBut _ _ (neN (by first | exact om_off (by decide) | exact om_b (by decide) | exact (om_b (by decide)).symm | omega)) c.ti
    · obtain ⟨u, v, e⟩ := c.to; exact ⟨u, v, s'.extBut _ _ (neN (by first | exact om_off (by decide) | exact om_b (by decide) | exact (om_b (by decide)).symm | omega)) e⟩
    · have lp := c.lp
      exact c.one.to fun d o hd e => s'.extBut _ _ (orE (P := fun y => y ≠ _) hd (neN (by first | exact om_off (by decide) | exact om_b (by decide) | exact (om_b (by decide)).symm | omega)) (Nat.ne_of_lt (Nat.lt_of_lt_of_le lp (Nat.le_add_right _ _)))) e
    · have lq := c.lq
      exact c.two.to fun d o hd e => s'.extBut _ _ (orE (P := fun y => y ≠ _) hd (neN (by first | exact om_off (by decide) | exact om_b (by decide) | exact (om_b (by decide)).symm | omega)) (Nat.ne_of_lt (Nat.lt_of_lt_of_le lq (Nat.le_add_right _ _)))) e
  done := fun s Q E st hQ => zs_done hh st (Array.getElem?_eq_none (Nat.le_refl _)) fun h' hk => hQ h' s.toks fun d o hd e => hk d o (fun x => hd (by first | exact mem0 x | exact .tail _ (mem0 x) | exact .tail _ (.tail _ (mem0 x)) | exact .tail _ (.tail _ (.tail _ (mem0 x))))) (fun x => hd (by first | exact mem0 x | exact .tail _ (mem0 x) | exact .tail _ (.tail _ (mem0 x)) | exact .tail _ (.tail _ (.tail _ (mem0 x))))) e
theorem zip_for {elts : List PySem.Expr} {k : Nat} {pos : Pos} {p q : Addr} {xs ys : List Value} {n1 n2 : Nat} {m₀ : Str → Option Value} {news : Led}
    (hh : A.handled = none) (F : Fr h₀ env.locals s.heap m₀) (N : News h₀ env.locals s.heap news) (hp : (p, tupOf xs n1) ∈ news) (hq : (q, tupOf ys n2) ∈ news) (hl : xs.length = ys.length)
    (rest : ∀ I : Addr, (∀ p ∈ news, p.1 < I) → ItemsRest prog w A E h₀ env (.Tuple elts k pos) body Q s [(I + 4, "zip"), (I + 2, "tuple"), (I + 3, "tuple"), (I, "tuple_iterator"), (I + 1, "tuple_iterator")] [(p, tupOf xs n1), (q, tupOf ys n2)] (zipItems xs ys) m₀ news) :
    wpAny (model prog w) A (call (.type "zip") [.ref p, .ref q]) (fun xv s₁ => wpAny (model prog w) A (pyIter xv) (fun it s₂ => TurnsAt prog w A h₀ env (.Tuple elts k pos) body Q E it s₂) E s₁) E s := by
  have hLs : env.locals < s.heap.objs.size := F.ns.lt
  have lp : p < s.heap.objs.size := Heap.lt_size (N.get hp)
  have lq : q < s.heap.objs.size := Heap.lt_size (N.get hq)
  refine zip_call ⟨_, N.get hp, rfl, n1, rfl⟩ ⟨_, N.get hq, rfl, n2, rfl⟩ fun h' c hk => ?_
  refine zs_iter c ?_
  refine ktu_core (tk0 := s.toks) (keep := [(p, tupOf xs n1), (q, tupOf ys n2)]) (zip_turns hh _ p q xs.toArray ys.toArray (by simpa using hl)) (by simp [zipItems_length, hl]) ?_ ?_ ?_ ?_ ?_ ?_ ?_ c (F.keeps hk) (N.grown hk) (And.intro hp (And.intro hq trivial)) (rest _ fun p hp => Heap.lt_size (N p hp).1)
  · rintro i v h ⟨T, x, y, rfl, hx, hy, hT⟩
    exact ⟨_, zipItems_get xs ys i (x := x) (y := y) (by simpa using hx) (by simpa using hy), T, 0, rfl, hT⟩
  · rintro i h ⟨hz, hti, ⟨u, v, hto⟩, ⟨⟨o1, e1, c1, _⟩, _⟩, ⟨⟨o2, e2, c2, _⟩, _⟩, _, _⟩
    obtain ⟨z1, hz, c3⟩ : ∃ o : Obj, h.get? (s.heap.objs.size + 4) = some o ∧ o.cls = .type "zip" := ⟨_, hz, rfl⟩
    obtain ⟨z2, hti, c4⟩ : ∃ o : Obj, h.get? (s.heap.objs.size + 2) = some o ∧ o.cls = .type "tuple" := ⟨_, hti, rfl⟩
    obtain ⟨z3, hto, c5⟩ : ∃ o : Obj, h.get? (s.heap.objs.size + 3) = some o ∧ o.cls = .type "tuple" := ⟨_, hto, rfl⟩
    refine ⟨[(_, z1), (_, z2), (_, z3), (_, o1), (_, o2)], ⟨⟨rfl, c3⟩, ⟨rfl, c4⟩, ⟨rfl, c5⟩, ⟨rfl, c1⟩, ⟨rfl, c2⟩, trivial⟩, ?_⟩
    exact List.forall_mem_cons.mpr ⟨hz, List.forall_mem_cons.mpr ⟨hti, List.forall_mem_cons.mpr ⟨hto, List.forall_mem_cons.mpr ⟨e1, List.forall_mem_cons.mpr ⟨e2, List.forall_mem_nil _⟩⟩⟩⟩⟩
  · exact List.forall_mem_cons.mpr ⟨⟨.head _, new_from F _ (Nat.le_add_right _ _)⟩, List.forall_mem_cons.mpr ⟨⟨.tail _ (.head _), new_from F _ (Nat.le_add_right _ _)⟩, List.forall_mem_cons.mpr ⟨⟨.tail _ (.tail _ (.head _)), new_from F _ (Nat.le_add_right _ _)⟩, List.forall_mem_cons.mpr ⟨⟨.tail _ (.tail _ (.tail _ (.head _))), new_from F _ (Nat.le_refl _)⟩, List.forall_mem_cons.mpr ⟨⟨.tail _ (.tail _ (.tail _ (.tail _ (.head _)))), new_from F _ (Nat.le_add_right _ _)⟩, List.forall_mem_nil _⟩⟩⟩⟩⟩
  · exact List.forall_mem_cons.mpr ⟨.head _, List.forall_mem_cons.mpr ⟨.tail _ (.tail _ (.head _)), List.forall_mem_cons.mpr ⟨.tail _ (.tail _ (.tail _ (.head _))), List.forall_mem_cons.mpr ⟨.tail _ (.tail _ (.tail _ (.tail _ (.head _)))), List.forall_mem_nil _⟩⟩⟩⟩
  · exact List.forall_mem_cons.mpr ⟨.inl (.head _), List.forall_mem_cons.mpr ⟨.inl (.tail _ (.head _)), List.forall_mem_cons.mpr ⟨.inl (.tail _ (.tail _ (.head _))), List.forall_mem_cons.mpr ⟨.inl (.tail _ (.tail _ (.tail _ (.head _)))), List.forall_mem_cons.mpr ⟨.inl (.tail _ (.tail _ (.tail _ (.tail _ (.head _))))), List.forall_mem_cons.mpr ⟨.inr ⟨_, .head _⟩, List.forall_mem_cons.mpr ⟨.inr ⟨_, .tail _ (.head _)⟩, List.forall_mem_nil _⟩⟩⟩⟩⟩⟩⟩
  · exact List.not_mem_cons_of_ne_of_not_mem (Nat.ne_of_lt (Nat.lt_of_lt_of_le hLs (Nat.le_add_right _ _))) (List.not_mem_cons_of_ne_of_not_mem (Nat.ne_of_lt (Nat.lt_of_lt_of_le hLs (Nat.le_add_right _ _))) (List.not_mem_cons_of_ne_of_not_mem (Nat.ne_of_lt (Nat.lt_of_lt_of_le hLs (Nat.le_add_right _ _))) (List.not_mem_cons_of_ne_of_not_mem (Nat.ne_of_lt hLs) (List.not_mem_cons_of_ne_of_not_mem (Nat.ne_of_lt (Nat.lt_of_lt_of_le hLs (Nat.le_add_right _ _))) (List.not_mem_cons_of_ne_of_not_mem (Ne.symm (N _ hp).2.1) (List.not_mem_cons_of_ne_of_not_mem (Ne.symm (N _ hq).2.1) (List.not_mem_nil)))))))
  · intro r hr
    have lt := Heap.lt_size (N r hr).1
    exact List.not_mem_cons_of_ne_of_not_mem (Nat.ne_of_lt (Nat.lt_of_lt_of_le lt (Nat.le_add_right _ _))) (List.not_mem_cons_of_ne_of_not_mem (Nat.ne_of_lt (Nat.lt_of_lt_of_le lt (Nat.le_add_right _ _))) (List.not_mem_cons_of_ne_of_not_mem (Nat.ne_of_lt lt) (List.not_mem_cons_of_ne_of_not_mem (Nat.ne_of_lt (Nat.lt_of_lt_of_le lt (Nat.le_add_right _ _))) (List.not_mem_nil))))
end
theorem allLt_tl {d : Addr} {q : Addr × Obj} {l : Led} (h : ∀ p ∈ q :: l, p.1 < d) : AllLt d l := allLt_of fun p hp => h p (.tail _ hp)
theorem allLt_tl2 {d : Addr} {q r : Addr × Obj} {l : Led} (h : ∀ p ∈ q :: r :: l, p.1 < d) : AllLt d l := allLt_of fun p hp => h p (.tail _ (.tail _ hp))
theorem fin0 {h₀ h : Heap} {L l : Addr} {n news fz : Led} {ep : Nat} {P : Prop} (N : News h₀ L h n) (hm : (l, listOf #[] ep) ∈ n) (hs : ∀ p ∈ news, p ∈ n) (hl : AllLt l news)
    (k : ∀ n', News h₀ L h n' → PairsOut fz news n' (.ref l) (some []) → P) : P :=
  k _ (newsSub N (List.forall_mem_cons.mpr ⟨hm, hs⟩)) ⟨l, ep, rfl, rfl, hl⟩
theorem fin1 {h₀ h : Heap} {L l p : Addr} {n news fz : Led} {ep np : Nat} {x y : Value} {u v : Ty} {P : Prop} (N : News h₀ L h n) (hm : (l, listOf #[.ref p] ep) ∈ n) (hp : (p, tupOf [x, y] np) ∈ n) (hs : ∀ p ∈ news, p ∈ n)
    (hx : TyIn fz x u) (hy : TyIn fz y v) (hl : AllLt p news) (hpl : @LT.lt Nat _ p l)
    (k : ∀ n', News h₀ L h n' → PairsOut fz news n' (.ref l) (some [(u, v)]) → P) : P :=
  k _ (newsSub N (List.forall_mem_cons.mpr ⟨hm, List.forall_mem_cons.mpr ⟨hp, hs⟩⟩)) ⟨l, ep, p, np, x, y, rfl, rfl, hx, hy, hl, hpl⟩
theorem ne_of_allLt {d : Addr} {l : Led} (h : AllLt d l) : ∀ p ∈ l, p.1 ≠ d := fun p hp => Nat.ne_of_lt (by
  induction l with
  | nil => cases hp
  | cons q r ih =>
    rcases List.mem_cons.mp hp with rfl | hp
    · exact h.1
    · exact ih h.2 hp)
section
variable {prog : Program} {w : World} {A : Around} {E : Value → Shared → Prop} {s : Shared} {h₀ : Heap} {L a b : Addr} {news : Led} {Q : Value → Shared → Prop}
theorem reads_nil (N : News h₀ L s.heap news) {n : Nat} (h : (a, listOf #[] n) ∈ news) : Reads s.heap (.ref a) (.list []) [a] :=
  reads_list_at (N.get h) rfl rfl (by simpa using ReadsAll.nil)
theorem nil_ne_nil (N : News h₀ L s.heap news) {n k : Nat} (ha : (a, listOf #[] n) ∈ news) (hb : (b, listOf #[] k) ∈ news) (hu : A.units + 64 < cLine) (h : Q (.bool false) s) :
    wpAny (model prog w) A (compareOp .NotEq (.ref a) (.ref b)) Q E s :=
  ne_dataH (reads_nil N ha) (reads_nil N hb) (by decide) (by decide) hu h
end
end Mine
end
section
open PySem PySem.W PyProof.Rows PySem.Calls PyProof.V PySem.Spec
set_option maxRecDepth 100000
namespace Mine
noncomputable def Ty.dep : Ty → Nat
  | .ref _ t => t.dep + 1
  | .box t => t.dep + 1
  | _ => 0
noncomputable def tyP : Ty → PyData
  | .int => .tuple [.str "int", .str "i32"]
  | .adt => .tuple [.str "adt", .str "S", .tuple [], .tuple []]
  | .par => .tuple [.str "param", .str "X"]
  | .bool => .tuple [.str "bool"]
  | .var => .tuple [.str "var", .int 0]
  | .ref m t => .tuple [.str "ref", .none, .bool m, tyP t]
  | .box t => .tuple [.str "box", tyP t]
theorem tyP_lay : ∀ t : Ty, (tyP t).canLay0 = true
  | .int => by decide +kernel
  | .adt => by decide +kernel
  | .par => by decide +kernel
  | .bool => by decide +kernel
  | .var => by decide +kernel
  | .ref m t => by
    have := tyP_lay t
    have h : PyData.strOk "ref" = true := by decide +kernel
    simp [tyP, PyData.canLay0, PyData.canLayAll0, this, h]
  | .box t => by
    have := tyP_lay t
    have h : PyData.strOk "box" = true := by decide +kernel
    simp [tyP, PyData.canLay0, PyData.canLayAll0, this, h]
theorem tyP_depth : ∀ t : Ty, (tyP t).depth ≤ t.dep + 2
  | .int => by simp [tyP, PyData.depth, PyData.depthAll]
  | .adt => by simp [tyP, PyData.depth, PyData.depthAll]
  | .par => by simp [tyP, PyData.depth, PyData.depthAll]
  | .bool => by simp [tyP, PyData.depth, PyData.depthAll]
  | .var => by simp [tyP, PyData.depth, PyData.depthAll]
  | .ref m t => by
    have := tyP_depth t
    simp [tyP, PyData.depth, PyData.depthAll, Ty.dep]; omega
  | .box t => by
    have := tyP_depth t
    simp [tyP, PyData.depth, PyData.depthAll, Ty.dep]; omega
theorem tyP_shaped {t : Ty} (h : t.dep ≤ 40) : SeqAt.shaped (tyP t) = true := by
  unfold SeqAt.shaped
  rw [tyP_lay, Bool.true_and]
  have := tyP_depth t
  exact decide_eq_true (Nat.le_trans this (Nat.le_trans (Nat.add_le_add_right h 2) (by decide)))
theorem tyP_eqv : ∀ a b : Ty, PyData.eqv (tyP a) (tyP b) = decide (a = b) := by
  have s : ∀ x y : String, ((x : Str) == (y : Str)) = decide ((x : Str) = (y : Str)) := fun x y => by
    by_cases h : (x : Str) = (y : Str)
    · rw [decide_eq_true h]; exact beq_iff_eq.mpr h
    · rw [decide_eq_false h]; exact beq_eq_false_iff_ne.mpr h
  intro a
  induction a with
  | ref m t ih =>
    intro b
    cases b with
    | ref n u => simp only [tyP, PyData.eqv, PyData.eqvAll, ih, Ty.ref.injEq]; cases m <;> cases n <;> by_cases h : t = u <;> simp [h]
    | _ => first | kernel_rfl | simp only [tyP, PyData.eqv, PyData.eqvAll, s]; first | (rw [decide_eq_false (by decide : ¬ (("ref" : Str) = _)), Bool.false_and]; symm; exact decide_eq_false (by intro h; cases h))
  | box t ih =>
    intro b
    cases b with
    | box u => simp only [tyP, PyData.eqv, PyData.eqvAll, ih, Ty.box.injEq]; by_cases h : t = u <;> simp [h]
    | _ => first | kernel_rfl | simp only [tyP, PyData.eqv, PyData.eqvAll, s]; first | (rw [decide_eq_false (by decide : ¬ (("box" : Str) = _)), Bool.false_and]; symm; exact decide_eq_false (by intro h; cases h))
  | _ =>
    intro b
    cases b <;> first | kernel_rfl | decide +kernel | (simp only [tyP, PyData.eqv, PyData.eqvAll, s]; rw [decide_eq_false (by decide), Bool.false_and]; symm; exact decide_eq_false (by intro h; cases h))
section
variable {h₀ h : Heap} {L : Addr} {news : Led}
theorem TyIn.reads (N : News h₀ L h news) {v : Value} {t : Ty} (x : TyIn news v t) : ∃ as, Reads h v (tyP t) as := by
  have e0 : ∀ {a : Addr} {n : Nat}, (a, tupOf [] n) ∈ news → Reads h (.ref a) (.tuple []) [] := fun hm => reads_tuple_at (N.get hm) rfl rfl ReadsAll.nil
  induction x with
  | int hm => exact ⟨_, reads_tuple_at (N.get hm) rfl rfl (.cons (.str _ _) (.cons (.str _ _) .nil))⟩
  | par hm => exact ⟨_, reads_tuple_at (N.get hm) rfl rfl (.cons (.str _ _) (.cons (.str _ _) .nil))⟩
  | var hm => exact ⟨_, reads_tuple_at (N.get hm) rfl rfl (.cons (.str _ _) (.cons (.int _ _) .nil))⟩
  | bool hm => exact ⟨_, reads_tuple_at (N.get hm) rfl rfl (.cons (.str _ _) .nil)⟩
  | adt hm h1 h2 => exact ⟨_, reads_tuple_at (N.get hm) rfl rfl (.cons (.str _ _) (.cons (.str _ _) (.cons (e0 h1) (.cons (e0 h2) .nil))))⟩
  | ref hm _ ih => obtain ⟨as, r⟩ := ih; exact ⟨_, reads_tuple_at (N.get hm) rfl rfl (.cons (.str _ _) (.cons .none (.cons (.bool _) (.cons r .nil))))⟩
  | box hm _ ih => obtain ⟨as, r⟩ := ih; exact ⟨_, reads_tuple_at (N.get hm) rfl rfl (.cons (.str _ _) (.cons r .nil))⟩
end
section
variable {prog : Program} {w : World} {A : Around} {E : Value → Shared → Prop} {s : Shared} {h₀ : Heap} {L a b : Addr} {news fz : Led} {Q : Value → Shared → Prop}
theorem ty_eq (N : News h₀ L s.heap news) (fs : ∀ p ∈ fz, p ∈ news) {v1 v2 : Value} {t u : Ty} (h1 : TyIn fz v1 t) (h2 : TyIn fz v2 u) (d1 : t.dep ≤ 40) (d2 : u.dep ≤ 40) (hu : A.units + 64 < cLine) (h : Q (.bool (decide (t = u))) s) :
    wpAny (model prog w) A (compareOp .Eq v1 v2) Q E s := by
  obtain ⟨as, r1⟩ := h1.reads (newsSub N fs)
  obtain ⟨bs, r2⟩ := h2.reads (newsSub N fs)
  exact eq_dataH r1 r2 (tyP_shaped d1) (tyP_shaped d2) hu (by rw [tyP_eqv]; exact h)
theorem one_ne_nil (N : News h₀ L s.heap news) {n k p : Nat} {c : Addr} {x y : Value} {t u : Ty} (ha : (a, listOf #[.ref c] n) ∈ news) (hc : (c, tupOf [x, y] p) ∈ news) (hb : (b, listOf #[] k) ∈ news) (h1 : TyIn fz x t) (h2 : TyIn fz y u) (fs : ∀ p ∈ fz, p ∈ news)
    (d1 : t.dep ≤ 40) (d2 : u.dep ≤ 40) (hu : A.units + 64 < cLine) (h : Q (.bool true) s) :
    wpAny (model prog w) A (compareOp .NotEq (.ref a) (.ref b)) Q E s := by
  obtain ⟨as, r1⟩ := h1.reads (newsSub N fs)
  obtain ⟨bs, r2⟩ := h2.reads (newsSub N fs)
  have r : Reads s.heap (.ref a) (.list [.tuple [tyP t, tyP u]]) _ := reads_list_at (N.get ha) rfl rfl (.cons (reads_tuple_at (N.get hc) rfl rfl (.cons r1 (.cons r2 .nil))) .nil)
  refine ne_dataH r (reads_nil N hb) ?_ (by decide) hu h
  unfold SeqAt.shaped
  have e1 := tyP_depth t
  have e2 := tyP_depth u
  simp only [PyData.canLay0, PyData.canLayAll0, tyP_lay, Bool.and_self, Bool.true_and, PyData.depth, PyData.depthAll]
  have f1 := Nat.le_trans e1 (Nat.add_le_add_right d1 2)
  have f2 := Nat.le_trans e2 (Nat.add_le_add_right d2 2)
  have z : ∀ {n : Nat}, n ≤ 42 → n ≤ 62 := fun h => Nat.le_trans h (by decide)
  first
  | exact decide_eq_true (Nat.succ_le_succ (Nat.max_le.mpr ⟨Nat.zero_le _, Nat.max_le.mpr ⟨Nat.succ_le_succ (Nat.max_le.mpr ⟨z f1, Nat.max_le.mpr ⟨z f2, Nat.zero_le _⟩⟩), Nat.zero_le _⟩⟩))
  | exact decide_eq_true (Nat.succ_le_succ (Nat.max_le.mpr ⟨Nat.succ_le_succ (Nat.max_le.mpr ⟨z f1, Nat.max_le.mpr ⟨z f2, Nat.zero_le _⟩⟩), Nat.zero_le _⟩))
  | exact decide_eq_true (Nat.succ_le_succ (Nat.max_le.mpr ⟨Nat.succ_le_succ (Nat.max_le.mpr ⟨Nat.max_le.mpr ⟨Nat.zero_le _, z f2⟩, z f1⟩), Nat.zero_le _⟩))
  | (trace_state; exact decide_eq_true (by omega))
end
end Mine
end
section
open PySem PySem.W PyProof.Rows PySem.Calls PyProof.V PySem.Spec
set_option maxRecDepth 100000
namespace Mine
section
variable {prog : Program} {w : World} {A : Around} {E : Value → Shared → Prop} {s : Shared} {h₀ : Heap} {L a b : Addr} {news : Led}
theorem truthy_lst {Q : Bool → Shared → Prop} {xs : Array Value} {ep : Nat} (N : News h₀ L s.heap news) (hm : (a, listOf xs ep) ∈ news) {b : Bool} (hb : (!xs.isEmpty) = b) (hz : xs.size < 1000) (h : Q b { s with toks := s.toks + 1 + 1 }) :
    wpAny (model prog w) A (truthy (.ref a)) Q E s := by
  subst hb
  exact wpAny_truthy_list ⟨_, N.get hm, rfl, ep, rfl⟩ (by omega) h
end
end Mine
end
section
open PySem PySem.W PyProof.Rows PySem.Calls PyProof.V PySem.Spec
set_option maxRecDepth 100000
namespace Mine
theorem lin0 {x N c c' : Nat} (h : x + N < c) (hb : Nat.ble c (N + c') = true) : x < c' := Nat.lt_of_add_lt_add_right (n := N) (Nat.lt_of_lt_of_le h (Nat.add_comm N c' ▸ Nat.le_of_ble_eq_true hb))
theorem lin1 {x a N c c' : Nat} (h : x + N < c) (hb : Nat.ble (a + c) (N + c') = true) : x + a < c' := by
  have h1 : a + (x + N) < N + c' := Nat.lt_of_lt_of_le (Nat.add_lt_add_left h a) (Nat.le_of_ble_eq_true hb)
  rw [← Nat.add_assoc, Nat.add_comm a x, Nat.add_comm N c'] at h1
  exact Nat.lt_of_add_lt_add_right h1
theorem lin2 {x a b N c c' : Nat} (h : x + N < c) (hb : Nat.ble (a + b + c) (N + c') = true) : x + a + b < c' := by rw [Nat.add_assoc]; exact lin1 h hb
theorem lin3 {x a b e N c c' : Nat} (h : x + N < c) (hb : Nat.ble (a + b + e + c) (N + c') = true) : x + a + b + e < c' := by
  have h1 := lin1 (a := a + b + e) h hb
  rw [← Nat.add_assoc, ← Nat.add_assoc] at h1
  exact h1
theorem lin1e {x a N c c' : Nat} (h : x + N < c) (hb : Nat.ble (a + c) (N + c' + 1) = true) : x + a ≤ c' := Nat.le_of_lt_succ (lin1 (c' := c' + 1) h hb)
theorem lin2e {x a b N c c' : Nat} (h : x + N < c) (hb : Nat.ble (a + b + c) (N + c' + 1) = true) : x + a + b ≤ c' := Nat.le_of_lt_succ (lin2 (c' := c' + 1) h hb)
theorem neL {a b : Nat} (h : a < b) : a ≠ b := Nat.ne_of_lt h
theorem neG {a b : Nat} (h : b < a) : a ≠ b := Nat.ne_of_gt h
theorem neS {a b : Nat} (h : b ≠ a) : a ≠ b := Ne.symm h
theorem Calls.imp {w : World} {loose : List Str} {mean : ExcName → Option Value} {mg mb : Str → Option Value} {ℓ : Nat} {f : Addr} {vs : List Value} {news : Led} {Out Out' : Led → Value → Prop}
    (C : Calls w loose mean mg mb ℓ f vs news Out) (h : ∀ n r, Out n r → Out' n r) : Calls w loose mean mg mb ℓ f vs news Out' := by
  intro dp un gd cn cs a ccd cl outer A₀ base h₀ L m s Q E B F X N T hk hd hu k
  exact C _ _ _ _ _ _ _ _ _ _ _ _ _ _ _ _ _ B F X N T hk hd hu fun r n h' t F' N' o => k r n h' t F' N' (h _ _ o)
theorem unrEnd {h₀ : Heap} {L : Addr} {s₁ : Shared} {its news all : Led} {rest : (Str → Option Value) → Led → Prop} {h' : Heap} {tk : Nat} {m' : Str → Option Value} {I : Addr}
    (F : Fr h₀ L h' m') (N : News h₀ L h' all) (l1 : ∀ p ∈ news, p.1 < I) (hi : ∀ q ∈ its, @LE.le Nat _ I q.1) (hs : ∀ q ∈ its ++ news, q ∈ all) (r : rest m' news) : UnrEndW h₀ L s₁ its rest { s₁ with heap := h', toks := tk } :=
  ⟨h', tk, m', news, rfl, F, newsSub N hs, fun p hp q hq e => absurd (Nat.lt_of_lt_of_le (l1 p hp) (hi q hq)) (by rw [e]; exact Nat.lt_irrefl _), r⟩
theorem unrEnd2 {h₀ : Heap} {L : Addr} {s₁ : Shared} {its news all : Led} {rest : (Str → Option Value) → Led → Prop} {h' : Heap} {tk : Nat} {m' : Str → Option Value} {I : Addr}
    (F : Fr h₀ L h' m') (N : News h₀ L h' all) (hs : ∀ q ∈ its ++ news, q ∈ all) (l1 : ∀ p ∈ news, p.1 < I) (hi : ∀ q ∈ its, @LE.le Nat _ I q.1) (r : rest m' news) : UnrEndW h₀ L s₁ its rest { s₁ with heap := h', toks := tk } := unrEnd F N l1 hi hs r
theorem zipLe {I : Addr} {a b c d e : Obj} : ∀ q ∈ [(I + 4, a), (I + 2, b), (I + 3, c), (I, d), (I + 1, e)], @LE.le Nat _ I q.1 := by
  exact List.forall_mem_cons.mpr ⟨Nat.le_add_right _ _, List.forall_mem_cons.mpr ⟨Nat.le_add_right _ _, List.forall_mem_cons.mpr ⟨Nat.le_add_right _ _, List.forall_mem_cons.mpr ⟨Nat.le_refl _, List.forall_mem_cons.mpr ⟨Nat.le_add_right _ _, List.forall_mem_nil _⟩⟩⟩⟩⟩
noncomputable def AllNe (d : Addr) : Led → Prop
  | [] => True
  | p :: r => @Ne Nat p.1 d ∧ AllNe d r
theorem allNe_of {d : Addr} : ∀ {l : Led}, (∀ p ∈ l, p.1 ≠ d) → AllNe d l
  | [], _ => trivial
  | p :: _, h => ⟨h p (.head _), allNe_of fun q hq => h q (.tail _ hq)⟩
theorem ne_of_allNe {d : Addr} : ∀ {l : Led}, AllNe d l → ∀ p ∈ l, p.1 ≠ d
  | [], _, _, h => nomatch h
  | _ :: _, x, p, h => by
    rcases List.mem_cons.mp h with rfl | h
    · exact x.1
    · exact ne_of_allNe x.2 p h
theorem allNe_off {d : Addr} : ∀ {l : Led}, LCg.Off1 d l → AllNe d l
  | [], _ => trivial
  | _ :: _, x => ⟨x.1, allNe_off x.2⟩
theorem allNe_lt {d : Addr} : ∀ {l : Led}, AllLt d l → AllNe d l
  | [], _ => trivial
  | _ :: _, x => ⟨Nat.ne_of_lt x.1, allNe_lt x.2⟩
theorem allNe_cons {d : Addr} {p : Addr × Obj} {l : Led} (h : @Ne Nat p.1 d) (t : AllNe d l) : AllNe d (p :: l) := ⟨h, t⟩
theorem allNe_nil {d : Addr} : AllNe d [] := trivial
theorem sub_refl {l : Led} : ∀ p ∈ l, p ∈ l := fun _ h => h
theorem subs_cons {q : Addr × Obj} {r l : Led} (h : q ∈ l) (t : ∀ p ∈ r, p ∈ l) : ∀ p ∈ q :: r, p ∈ l := List.forall_mem_cons.mpr ⟨h, t⟩
theorem mem_hd {q : Addr × Obj} {l : Led} : q ∈ q :: l := List.Mem.head _
theorem Calls.use' {w : World} {loose : List Str} {mean : ExcName → Option Value} {mg mb : Str → Option Value} {ℓ : Nat} {f : Addr} {vs : List Value} {news : Led} {Out : Led → Value → Prop}
    {dp un : Nat} {gd : Option (List Code)} {cn : Str} {cs : Scope} {a : Addr} {ccd : Value} {cl : List (Str × Addr)} {outer : List Env} {A₀ : Around} {base h₀ : Heap} {L : Addr} {m : Str → Option Value} {h : Heap} {g : Array GenState} {d : Drawn} {tk : Nat} {os : OsState} {Q E : Value → Shared → Prop}
    (B : Below A₀ base outer h₀) (F : Fr h₀ L h m) (X : (Mine.hd.heap_1 w.params).In h₀) (N : News h₀ L h news) (T : Top Mine.vw loose mean mg mb h₀) (hk : cs.kind = .function) (C : Calls w loose mean mg mb ℓ f vs news Out) (hd : dp + 4 * ℓ < 400) (hu : un + 20 * ℓ < 2000)
    (k : ∀ G : Led → Value → Prop, (∀ n r, (∀ h' tk', Fr h₀ L h' m → News h₀ L h' n → Q r ⟨h', g, d, tk', os⟩) → G n r) → ∀ n r, Out n r → G n r) :
    wpAny (model Challenge.rw_nu0383_01.row.prog w) (ktrTop dp un gd cn cs L a ccd cl outer) (call (.ref f) vs) Q E ⟨h, g, d, tk, os⟩ :=
  C.use B F X N T hk hd hu fun r n h' tk' F' N' o =>
    k (fun n r => ∀ h' tk', Fr h₀ L h' m → News h₀ L h' n → Q r ⟨h', g, d, tk', os⟩) (fun _ _ x => x) n r o h' tk' F' N'
inductive UpdD (d : Addr) (o o' : Obj) : Led → Led → Prop
  | head {r} : (∀ p ∈ r, p.1 ≠ d) → UpdD d o o' ((d, o) :: r) ((d, o') :: r)
  | tail {x y r r'} : AllLt x r → UpdD d o o' r r' → UpdD d o o' ((x, y) :: r) ((x, y) :: r')
  | tailN {p r r'} : p.1 ≠ d → UpdD d o o' r r' → UpdD d o o' (p :: r) (p :: r')
theorem lt_get {x : Addr} {l : Led} {q : Addr × Obj} (h : AllLt x l) (m : q ∈ l) : @LT.lt Nat _ q.1 x := by
  induction l with
  | nil => exact absurd m List.not_mem_nil
  | cons p r ih =>
    rcases List.mem_cons.mp m with e | m
    · rw [e]; exact h.1
    · exact ih h.2 m
theorem UpdD.mem {d : Addr} {o o' : Obj} {l l' : Led} (h : UpdD d o o' l l') : (d, o) ∈ l := by
  induction h with
  | head _ => exact .head _
  | tail _ _ ih => exact .tail _ ih
  | tailN _ _ ih => exact .tail _ ih
theorem UpdD.upd {d : Addr} {o o' : Obj} {l l' : Led} (h : UpdD d o o' l l') : Upd d o o' l l' := by
  induction h with
  | head h => exact .head h
  | tail h k ih => exact .tail (fun e => absurd (lt_get h k.mem) (fun q => absurd e (Nat.ne_of_gt q))) ih
  | tailN h _ ih => exact .tail h ih
inductive UpdG (d : Addr) (o : Obj) : Led → (Obj → Led) → Prop
  | head {r} : (∀ p ∈ r, p.1 ≠ d) → UpdG d o ((d, o) :: r) (fun o' => (d, o') :: r)
  | tail {x y r g} : AllLt x r → UpdG d o r g → UpdG d o ((x, y) :: r) (fun o' => (x, y) :: g o')
  | tailN {p r g} : p.1 ≠ d → UpdG d o r g → UpdG d o (p :: r) (fun o' => p :: g o')
theorem UpdG.mem {d : Addr} {o : Obj} {l : Led} {g : Obj → Led} (h : UpdG d o l g) : (d, o) ∈ l := by
  induction h with
  | head _ => exact .head _
  | tail _ _ ih => exact .tail _ ih
  | tailN _ _ ih => exact .tail _ ih
theorem UpdG.upd {d : Addr} {o : Obj} {l : Led} {g : Obj → Led} (h : UpdG d o l g) : UpdF d o l g := by
  induction h with
  | head h => exact .head h
  | tail h k ih => exact .tail (fun e => absurd (lt_get h k.mem) (fun q => absurd e (Nat.ne_of_gt q))) ih
  | tailN h _ ih => exact .tail h ih
noncomputable def OutF : Flow → Prop
  | .next => False
  | _ => True
section
variable {M : Model} {A : Around} {E : Value → Shared → Prop} {env : Env} {h : Heap} {g : Array GenState} {d : Drawn} {X : Nat} {os : OsState}
noncomputable def Into (Q G : Flow → Shared → Prop) : Prop := ∀ f s, Q f s → G f s
theorem qout {Q G : Flow → Shared → Prop} {f : Flow} {s : Shared} (h : Into Q G) (k : Q f s) : G f s := h f s k
noncomputable def Nx (M : Model) (A : Around) (E : Value → Shared → Prop) (env : Env) (rest : List Stmt) (Q G : Flow → Shared → Prop) : Prop :=
  (∀ s', wpAny M A (execs rest env) Q E s' → G .next s') ∧ ∀ f s', OutF f → Q f s' → G f s'
theorem exec_cons_h {st : Stmt} {rest : List Stmt} {Q : Flow → Shared → Prop}
    (k : ∀ (tk : Nat) (G : Flow → Shared → Prop), Nx M A E env rest Q G → wpAny M A (exec st env) G E ⟨h, g, d, tk, os⟩) :
    wpAny M A (execs (st :: rest) env) Q E ⟨h, g, d, X, os⟩ :=
  wpAny_execs_cons (k X _ ⟨fun _ x => x, fun f _ o x => by cases f <;> first | exact o.elim | exact x⟩)
theorem gnext {rest : List Stmt} {G Q : Flow → Shared → Prop} {s : Shared} (h : Nx M A E env rest Q G) (k : wpAny M A (execs rest env) Q E s) : G .next s := h.1 s k
theorem gnext_cons {st : Stmt} {rest : List Stmt} {G Q : Flow → Shared → Prop} (h9 : Nx M A E env (st :: rest) Q G)
    (k : ∀ (tk : Nat) (G' : Flow → Shared → Prop), Nx M A E env rest Q G' → wpAny M A (exec st env) G' E ⟨h, g, d, tk, os⟩) : G .next ⟨h, g, d, X, os⟩ := gnext h9 (exec_cons_h k)
theorem gout {rest : List Stmt} {G Q : Flow → Shared → Prop} {f : Flow} {s : Shared} (h : Nx M A E env rest Q G) (o : OutF f) (k : Q f s) : G f s := h.2 f s o k
theorem let_ae {s : Shared} {Q : Flow → Shared → Prop} {body : List Stmt} (h : let nk := env; let ak := A.deeper nk; ∀ G : Flow → Shared → Prop, Into Q G → wpAny M ak (execs body nk) G E s) : wpAny M (A.deeper env) (execs body env) Q E s := h Q fun _ _ x => x
theorem hideB {β : Type} {s : Shared} {Q : Flow → Shared → Prop} {body : List Stmt} {c : Sem β} (h : ∀ G : Flow → Shared → Prop, Into Q G → wpAny M A c (fun _ s₂ => wpAny M A (execs body env) G E s₂) E s) : wpAny M A c (fun _ s₂ => wpAny M A (execs body env) Q E s₂) E s := h Q fun _ _ x => x
end
section
variable {M : Model} {A : Around} {E : Value → Shared → Prop} {s : Shared} {h₀ : Heap} {L : Addr} {m : Str → Option Value} {cn : Str} {cs : Scope} {a : Addr} {ccd : Value} {cl : List (Str × Addr)} {x : Str} {xp pos : Pos} {v : Value} {env : Env}
theorem args_nm {rest : List PySem.Expr} {Q : List Value → Shared → Prop} (he : env = envX cn cs L a ccd cl) (F : Fr h₀ L s.heap m) (hv : m x = some v) (hk : cs.kind = .function) (hx : env.kindOf x = some .local) (hd : (x == ("__debug__" : Str)) = false)
    (h : wpAny M A (spliced (backTo pos (starEach rest env))) (fun vs s₂ => Q (v :: vs) s₂) E s) : wpAny M A (spliced (backTo pos (starEach (.Name x xp :: rest) env))) Q E s := by
  subst he
  exact args_cons (nameX_L F hv h hk hx hd)
theorem sub_nm {slice : PySem.Expr} {Q : Value → Shared → Prop} (he : env = envX cn cs L a ccd cl) (F : Fr h₀ L s.heap m) (hv : m x = some v) (hk : cs.kind = .function) (hx : env.kindOf x = some .local) (hd : (x == ("__debug__" : Str)) = false)
    (h : wpAny M A (eval slice env) (fun i s₂ => wpAny M A (subscriptTail (.Name x xp) slice v i) Q E s₂) E s) : wpAny M A (eval (.Subscript (.Name x xp) slice pos) env) Q E s := by
  subst he
  exact Subscript_ (nameX_L F hv h hk hx hd)
theorem cmp_nm {op : CmpOp} {r : PySem.Expr} {whole : Sem Value} {Q : Bool → Shared → Prop} (he : env = envX cn cs L a ccd cl) (F : Fr h₀ L s.heap m) (hv : m x = some v) (hk : cs.kind = .function) (hx : env.kindOf x = some .local) (hd : (x == ("__debug__" : Str)) = false) (hm : behindInMarks op r = false)
    (h : wpAny M A (eval r env) (fun b s₂ => wpAny M A (compareOp op v b) (fun c s₃ => wpAny M A (truthy c) Q E s₃) E s₂) E s) : wpAny M A (isTrue (.Compare (.Name x xp) [op] [r] pos) env whole) Q E s := by
  subst he
  exact wpAny_isTrue_Compare1 (nameX_L F hv h hk hx hd) hm
noncomputable def itemAt (l : List Value) : Int → Option Value
  | .ofNat j => match Nat.blt j 64 with
    | true => l[j]?
    | false => none
  | .negSucc _ => none
theorem if_nm {op : CmpOp} {r : PySem.Expr} {body orelse : List Stmt} {cpos : Pos} {Q : Flow → Shared → Prop} (he : env = envX cn cs L a ccd cl) (F : Fr h₀ L s.heap m) (hv : m x = some v) (hk : cs.kind = .function) (hx : env.kindOf x = some .local) (hd : (x == ("__debug__" : Str)) = false) (hm : behindInMarks op r = false)
    (h : wpAny M A (eval r env) (fun b s₂ => wpAny M A (compareOp op v b) (fun c s₃ => wpAny M A (truthy c) (fun b s₂ => if b then wpAny M A (execs body env) Q E s₂ else wpAny M A (execs orelse env) Q E s₂) E s₃) E s₂) E s) : wpAny M A (exec (.If (.Compare (.Name x xp) [op] [r] cpos) body orelse pos) env) Q E s :=
  wpAny_If (cmp_nm he F hv hk hx hd hm h)
theorem args_str {e : Str} {kk : Nat} {cpos : Pos} {rest : List PySem.Expr} {Q : List Value → Shared → Prop} {hh : Heap} {g : Array GenState} {d : Drawn} {X : Nat} {os : OsState}
    (h : wpAny M A (spliced (backTo pos (starEach rest env))) (fun vs s₂ => Q (.str e X :: vs) s₂) E ⟨hh, g, d, X + 1, os⟩) : wpAny M A (spliced (backTo pos (starEach (.Constant (.str e) kk cpos :: rest) env))) Q E ⟨hh, g, d, X, os⟩ := args_cons (PySem.Calls.Constant_str h)
theorem att_nm {attr : Str} {Q : Value → Shared → Prop} (he : env = envX cn cs L a ccd cl) (F : Fr h₀ L s.heap m) (hv : m x = some v) (hk : cs.kind = .function) (hx : env.kindOf x = some .local) (hd : (x == ("__debug__" : Str)) = false)
    (h : wpAny M A (getAttr v attr true) Q E s) : wpAny M A (eval (.Attribute (.Name x xp) attr pos) env) Q E s := by
  subst he
  exact Attribute_Name_ (nameX_L F hv h hk hx hd)
end
section
variable {prog : Program} {w : World} {A : Around} {E : Value → Shared → Prop} {h₀ h : Heap} {g : Array GenState} {d : Drawn} {X : Nat} {os : OsState} {L : Addr} {m : Str → Option Value} {cn : Str} {cs : Scope} {a b : Addr} {ccd : Value} {cl : List (Str × Addr)} {x : Str} {xp pos cp : Pos} {v : Value} {env : Env}
theorem sub_it {i : Int} {kk n : Nat} {l : List Value} {news : Led} {Q : Value → Shared → Prop} (he : env = envX cn cs L a ccd cl) (F : Fr h₀ L h m) (hv : m x = some (.ref b)) (hk : cs.kind = .function) (hx : env.kindOf x = some .local) (hd : (x == ("__debug__" : Str)) = false) (N : News h₀ L h news) (hm : (b, tupOf l n) ∈ news) (hi : itemAt l i = some v)
    (k : Q v ⟨h, g, d, X + 1, os⟩) : wpAny (model prog w) A (eval (.Subscript (.Name x xp) (.Constant (.int i) kk cp) pos) env) Q E ⟨h, g, d, X, os⟩ := by
  refine sub_nm he F hv hk hx hd (wpAny_Constant_int ?_)
  match i, hi with
  | .ofNat j, hi =>
    revert hi
    show (match Nat.blt j 64 with | true => l[j]? | false => none) = some v → _
    cases hb : Nat.blt j 64 with
    | false => exact fun hi => nomatch hi
    | true =>
      intro hi
      have h64 : j < 64 := Nat.le_of_ble_eq_true hb
      exact tup_item N hm (Int.natCast_nonneg j) (by show (Int.ofNat j : Int) < _; exact Int.lt_trans (Int.ofNat_lt.mpr h64) (by decide)) rfl hi k (by with_unfolding_all rfl)
  | .negSucc _, hi => exact nomatch hi
theorem eq_cst {y z : Str} {t : Tok} {kk : Nat} {Q : Bool → Shared → Prop} (k : Q (z == y) ⟨h, g, d, X + 1, os⟩) :
    wpAny (model prog w) A (eval (.Constant (.str y) kk cp) env) (fun b s₂ => wpAny (model prog w) A (compareOp .Eq (.str z t) b) (fun c s₃ => wpAny (model prog w) A (truthy c) Q E s₃) E s₂) E ⟨h, g, d, X, os⟩ :=
  PySem.Calls.Constant_str (PyProof.Rows.eq_str (wpAny_truthy_bool k))
end
end Mine
end
section
open PySem PySem.W PyProof.Rows PyProof.Rows.LCg PySem.Calls PyProof.V PySem.Spec
set_option maxRecDepth 100000
namespace Mine
noncomputable def Bnd : List (Str × Pos) → List Value → (Str → Option Value) → Prop
  | x :: xs, v :: vs, m => m x.1 = some v ∧ Bnd xs vs m
  | _, _, _ => True
noncomputable def nmE (x : Str × Pos) : PySem.Expr := .Name x.1 x.2
section
variable {prog : Program} {w : World} {A : Around} {E : Value → Shared → Prop} {s : Shared}
theorem loop_tt {elt target iter : PySem.Expr} {ifs : List PySem.Expr} {scope : Scope} {pos : Pos} {it acc : Value} {env : Env} {R : Result → Shared → Prop} (I : Nat → Shared → Prop)
    (turn : ∀ n s, I n s → wpAny (model prog w) A (pyNext it) (fun r s₁ => match r with
      | none => R (.ok .next) s₁
      | some v => wpAny (model prog w) A (letOwnedTupleGo target it v) (fun _ s₀ => wpAny (model prog w) A (assign target env v) (fun _ s₂ =>
          wpAny (model prog w) A (forIn ifs true fun c r => if r = true then do let ok ← isTrue c env (eval c env); pure (ForInStep.yield ok) else pure (ForInStep.yield r)) (fun ok s₃ =>
            if ok = true then wpAny (model prog w) A (eval elt env) (fun x s₄ =>
              wpAny (model prog w) A (call (.builtin "list.append") [acc, x]) (fun _ s₅ => ∃ m, m < n ∧ I m s₅) (notedBy (model prog w) A env fun e s' => R (.error e) s') s₄) (notedBy (model prog w) A env fun e s' => R (.error e) s') s₃
            else ∃ m, m < n ∧ I m s₃) (notedBy (model prog w) A env fun e s' => R (.error e) s') s₂) (notedBy (model prog w) A env fun e s' => R (.error e) s') s₀) (notedBy (model prog w) A env fun e s' => R (.error e) s') s₁) (notedBy (model prog w) A env fun e s' => R (.error e) s') s)
    (n : Nat) (h : I n s) : codeAny (model prog w) A (.compLoop (.ListComp elt [⟨target, iter, ifs, 0⟩] scope pos) 0 it acc env) R s := by
  refine codeAny_loop rfl I (fun n s hI => ?_) n h
  show wpAny _ A ((compTurn (.ListComp elt [⟨target, iter, ifs, 0⟩] scope pos) 0 it acc env).onRaise (fun x => do noteFrame x env; theTreesLotGoes x)) _ _ s
  refine wpAny_noted ?_
  rw [compTurn_list]
  refine wpAny_bind (wpAny_standAt (wpAny_bind (wpAny_mono (turn n s hI) (fun r s₁ h₁ => ?_) fun _ _ h' => h')))
  cases r with
  | none => exact wpAny_pure h₁
  | some v =>
    refine wpAny_bind (wpAny_mono h₁ (fun _ s₀ h₀' => ?_) fun _ _ h' => h')
    refine wpAny_bind (wpAny_mono h₀' (fun _ s₂ h₂ => wpAny_bind (wpAny_mono h₂ (fun ok s₃ h₃ => ?_) fun _ _ h' => h')) fun _ _ h' => h')
    cases ok with
    | false => exact wpAny_pure ⟨rfl, h₃⟩
    | true =>
      exact wpAny_bind (wpAny_bind (wpAny_mono h₃ (fun x s₄ h₄ => wpAny_bind (wpAny_mono h₄ (fun _ s₅ h₅ => wpAny_pure (wpAny_pure ⟨rfl, h₅⟩)) fun _ _ h' => h')) fun _ _ h' => h'))
theorem names_in {env : Env} : ∀ {xs : List (Str × Pos)} {vs : List Value} {s : Shared} {m : Str → Option Value} {Q : Unit → Shared → Prop}, vs.length = xs.length → (xs.map (·.1)).Nodup → (∀ x ∈ xs, env.kindOf x.1 = some .local) → (env.scope.kind == .class || (env.scope.kind == .module && env.locals != env.globals)) = false →
    s.heap.Ns env.locals m → (∀ h' tk m', h'.Ns env.locals m' → Bnd xs vs m' → (∀ z, z ∉ xs.map (·.1) → m' z = m z) → (∀ b o, b ≠ env.locals → s.heap.get? b = some o → h'.get? b = some o) → Q () { s with heap := h', toks := tk }) →
    wpAny (model prog w) A (assignInOrder ((assignEach (xs.map nmE) env).map (·.2)) vs) Q E s
  | [], [], s, m, Q, _, _, _, _, hn, h => by
    exact wpAny_pure (h s.heap s.toks m hn trivial (fun _ _ => rfl) fun _ _ _ e => e)
  | [], _ :: _, _, _, _, hl, _, _, _, _, _ => nomatch hl
  | _ :: _, [], _, _, _, hl, _, _, _, _, _ => nomatch hl
  | x :: xs, v :: vs, s, m, Q, hl, hd, hk, hp, hn, h => by
    show wpAny _ _ (assignInOrder (assign (.Name x.1 x.2) env :: (assignEach (xs.map nmE) env).map (·.2)) (v :: vs)) _ _ _
    have hd' := List.nodup_cons.mp hd
    refine assignInOrder_cons (wpAny_assign_Name (wpAny_storeName_local (hk x (.head _)) hn (fun h₁ hn₁ hs₁ => ?_) hp))
    refine names_in (xs := xs) (Nat.succ.inj hl) hd'.2 (fun y hy => hk y (.tail _ hy)) hp hn₁ fun h₂ tk m₂ hn₂ hb₂ ho₂ hs₂ => ?_
    refine h h₂ tk m₂ hn₂ ⟨?_, hb₂⟩ (fun z hz => ?_) fun b o hb e => hs₂ b o hb (hs₁.extBut b o hb e)
    · rw [ho₂ _ hd'.1]; simp
    · have hz' : ¬ z = x.1 ∧ z ∉ xs.map (·.1) := by simpa using hz
      rw [ho₂ z hz'.2, if_neg hz'.1]
end
theorem each_len : ∀ (xs : List (Str × Pos)) (env : Env), (assignEach (xs.map nmE) env).length = xs.length
  | [], _ => rfl
  | _ :: xs, env => congrArg (· + 1) (each_len xs env)
theorem each_star : ∀ (xs : List (Str × Pos)) (env : Env), (assignEach (xs.map nmE) env).findIdx? (·.1) = none
  | [], _ => rfl
  | x :: xs, env => by
    show List.findIdx? (·.1) ((false, assign (nmE x) env) :: assignEach (xs.map nmE) env) = none
    rw [List.findIdx?_cons, each_star xs env]; rfl
noncomputable def CR (prog : Program) (w : World) (A : Around) (h₀ : Heap) (L : Addr) (m : Str → Option Value) (env : Env) (ifs : List PySem.Expr) (elt : PySem.Expr) (xs : List (Str × Pos)) (scope : Scope) (cl : List (Str × Addr)) (s : Shared) (fz : Led)
    (Fin : List Value → Led → Prop) : List Value → List Value → Led → Prop
  | [], ys, news => Fin ys news
  | v :: r, ys, news => ∃ (t : Addr) (vals : List Value) (n : Nat), v = .ref t ∧ (t, tupOf vals n) ∈ news ∧ vals.length = xs.length ∧ ∀ I oI C oC D m₂ h tk (E' : Value → Shared → Prop), NsObj oC m₂ → Bnd xs vals m₂ → Fr h₀ L h m →
      News h₀ L h ((I, oI) :: (C, oC) :: (D, lst ys) :: news) → Off3 I C D news → ((@Ne Nat I C) ∧ (@Ne Nat I D) ∧ (@Ne Nat C D)) →
      wpAny (model prog w) A (forIn ifs true fun c r => if r = true then do let ok ← isTrue c (compEnvC scope cl C env) (eval c (compEnvC scope cl C env)); pure (ForInStep.yield ok) else pure (ForInStep.yield r)) (fun ok s' => if ok = true then
        wpAny (model prog w) A (eval elt (compEnvC scope cl C env)) (CompEnd h₀ L m { s with heap := h, toks := tk } I oI C oC D (lst ys) (fun nw => ∀ p ∈ fz, p ∈ nw) (fun y news' => CR prog w A h₀ L m env ifs elt xs scope cl s fz Fin r (ys ++ [y]) news')) E' s'
        else CompEnd h₀ L m { s with heap := h, toks := tk } I oI C oC D (lst ys) (fun nw => ∀ p ∈ fz, p ∈ nw) (fun _ news' => CR prog w A h₀ L m env ifs elt xs scope cl s fz Fin r ys news') Value.none s') E' { s with heap := h, toks := tk }
inductive CrInv (prog : Program) (w : World) (A : Around) (h₀ : Heap) (L : Addr) (m : Str → Option Value) (env : Env) (ifs : List PySem.Expr) (elt : PySem.Expr) (xs : List (Str × Pos)) (scope : Scope) (cl : List (Str × Addr)) (s₂ : Shared) (fz : Led)
    (Fin : List Value → Led → Prop) (I ax C D : Addr) (its : List Value) : Nat → Shared → Prop
  | mk {h' : Heap} {tk i : Nat} {ys : List Value} {m' : Str → Option Value} {news' : Led} : i ≤ its.length → ys.length ≤ i → h'.IsListIter I ax i → Fr h₀ L h' m → h'.Ns C m' → News h₀ L h' ((D, lst ys) :: news') → Off3 I C D news' → (∀ p ∈ fz, p ∈ news') →
    CR prog w A h₀ L m env ifs elt xs scope cl s₂ fz Fin (its.drop i) ys news' → CrInv prog w A h₀ L m env ifs elt xs scope cl s₂ fz Fin I ax C D its (its.length + 1 - i) { s₂ with heap := h', toks := tk }
section
variable {prog : Program} {w : World} {A : Around} {E : Value → Shared → Prop} {s : Shared} {h₀ : Heap} {L : Addr} {m : Str → Option Value} {env : Env}
theorem cr_block {elt iter : PySem.Expr} {ifs : List PySem.Expr} {xs : List (Str × Pos)} {x1 : Nat} {tp : Pos} {scope : Scope} {cl : List (Str × Addr)} {pos : Pos} {s₂ : Shared} {I ax : Addr} {its : List Value} {ni : Nat} {news fz : Led}
    {Fin : List Value → Led → Prop} {RR : Value → Addr → Result → Shared → Prop}
    (hh : A.handled = none) (hsz : its.length ≤ sizeLine) (hax : (ax, listOf its.toArray ni) ∈ fz) (hni : ax ≠ I)
    (hit : s₂.heap.IsListIter I ax 0)
    (hcell : ∀ y ∈ scope.names, y.2 ≠ .cell) (hkind : scope.kind = .function) (hx : ∀ x ∈ xs, scope.names.lookup x.1 = some .local) (hnd : (xs.map (·.1)).Nodup)
    (F : Fr h₀ L s₂.heap m) (N : News h₀ L s₂.heap news) (hIL : L ≠ I) (hI₀ : h₀.get? I = none) (off : ∀ p ∈ news, p.1 ≠ I) (hS : ∀ p ∈ fz, p ∈ news)
    (R : CR prog w A h₀ L m env ifs elt xs scope cl s₂ fz Fin its [] news)
    (hRR : ∀ D C h tk m' ys news', Fr h₀ L h m → News h₀ L h ((D, lst ys) :: news') → Off1 D news' → h.Ns C m' → h₀.get? C = none → h₀.get? D = none → C ≠ L → D ≠ L → C ≠ D → (∀ p ∈ news', p.1 ≠ C) → Fin ys news' → RR (.ref D) C (.ok .next) { s₂ with heap := h, toks := tk }) :
    wpAny (model prog w) A (newList []) (fun acc s₃ => wpAny (model prog w) A (newFunctionEnv scope env.globals cl [] env.qual none .none (some env)) (fun cenv s₄ =>
      codeAny (model prog w) A (.compStart (.ListComp elt [⟨.Tuple (xs.map nmE) x1 tp, iter, ifs, 0⟩] scope pos) 0 (.ref I) acc { cenv with scope := relabel scope env }) (RR acc cenv.locals) s₄) E s₃) E s₂ := by
  refine wpAny_newObj_type (wpAny_newFunctionEnv hcell (by intro y hy; simp at hy) (fun h₁ hns₁ hsb₁ => ?_) hkind)
  dsimp only at hns₁ hsb₁ ⊢
  generalize hH2 : s₂.heap.push { cls := .type "list", dict := none, data := .seq ([] : List Value).toArray } = H2 at hns₁ hsb₁ ⊢
  have hC : H2.objs.size = s₂.heap.objs.size + 1 := by rw [← hH2, Heap.size_push]
  have hDC : s₂.heap.objs.size ≠ H2.objs.size := by rw [hC]; exact Nat.ne_of_lt (Nat.lt_succ_self _)
  have below : ∀ b, b < s₂.heap.objs.size → b ≠ H2.objs.size ∧ b ≠ s₂.heap.objs.size := fun b hb => ⟨by rw [hC]; exact Nat.ne_of_lt (Nat.lt_succ_of_lt hb), Nat.ne_of_lt hb⟩
  have hIlt : I < s₂.heap.objs.size := by obtain ⟨o, e, _⟩ := hit; exact Heap.lt_size e
  have old : ∀ b o, s₂.heap.get? b = some o → h₁.get? b = some o := fun b o e => hsb₁.extBut b o (below b (Heap.lt_size e)).1 (Heap.get?_push_of_some _ (hH2 ▸ Heap.get?_push_of_some _ e))
  have hacc : h₁.get? s₂.heap.objs.size = some (lst []) := hsb₁.extBut _ _ hDC (Heap.get?_push_of_some _ (hH2 ▸ Heap.get?_push_size _ rfl))
  have fresh : ∀ a, s₂.heap.objs.size ≤ a → s₂.heap.get? a = none := fun a ha => by
    cases e : s₂.heap.get? a with
    | none => rfl
    | some o' => exact absurd (Heap.lt_size e) (Nat.not_lt.mpr ha)
  have fresh₀ : ∀ a, s₂.heap.objs.size ≤ a → h₀.get? a = none := fun a ha => by
    cases e : h₀.get? a with
    | none => rfl
    | some o' => have := F.keep a o' e; rw [fresh a ha] at this; cases this
  have hD₀ : h₀.get? s₂.heap.objs.size = none := fresh₀ _ (Nat.le_refl _)
  have hC₀ : h₀.get? H2.objs.size = none := fresh₀ _ (by rw [hC]; exact Nat.le_succ _)
  have hLlt : L < s₂.heap.objs.size := F.ns.lt
  have hDL : s₂.heap.objs.size ≠ L := Ne.symm (below L hLlt).2
  have hCL : H2.objs.size ≠ L := Ne.symm (below L hLlt).1
  have hCI : I ≠ H2.objs.size := (below I hIlt).1
  have hDI : I ≠ s₂.heap.objs.size := (below I hIlt).2
  have off₀ : Off3 I H2.objs.size s₂.heap.objs.size news := Off3.of fun p hp => ⟨off p hp, (below _ (Heap.lt_size (N p hp).1)).1, (below _ (Heap.lt_size (N p hp).1)).2⟩
  have W := Walks.list (prog := prog) (w := w) hh I ax hni its.toArray
  have hwr : ∀ (h₁ h₂ : Heap), (∀ b o, b ∉ [I] → h₁.get? b = some o → h₂.get? b = some o) → ∀ b o, b ≠ I → h₁.get? b = some o → h₂.get? b = some o := fun h₁ h₂ hk b o hb e => hk b o (by simpa using hb) e
  have loop : ∀ s₃ : Shared, s₃ = { s₂ with heap := h₁, toks := s₂.toks + ([] : List (Str × Value)).length } →
      codeAny (model prog w) A (.compLoop (.ListComp elt [⟨.Tuple (xs.map nmE) x1 tp, iter, ifs, 0⟩] scope pos) 0 (.ref I) (.ref s₂.heap.objs.size) (compEnvC scope cl H2.objs.size env))
        (RR (.ref s₂.heap.objs.size) H2.objs.size) s₃ := by
    rintro s₃ rfl
    refine loop_tt (CrInv prog w A h₀ L m env ifs elt xs scope cl s₂ fz Fin I ax H2.objs.size s₂.heap.objs.size its) ?_ (its.length + 1)
      (.mk (i := 0) (ys := []) (Nat.zero_le _) (Nat.le_refl _) (hit.at fun o e => old _ o e) (F.keeps old) hns₁ (fun p hp => ?_) off₀ hS (by rw [List.drop_zero]; exact R))
    · intro k s' z92
      cases z92 with
      | @mk h' tk i ys m' news' hi hyl hit' F' hn' N' off' hS' R' =>
      have off3 := off'.mem
      have hal : h'.IsList ax its.toArray := ⟨_, (N' _ (.tail _ (hS' _ hax))).1, rfl, ni, rfl⟩
      by_cases hlt : i < its.length
      · obtain ⟨v, hdr, hv⟩ : ∃ v, its.drop i = v :: its.drop (i + 1) ∧ its[i]? = some v := ⟨its[i], List.drop_eq_getElem_cons hlt, List.getElem?_eq_getElem hlt⟩
        rw [hdr] at R'
        refine hide fun hG9 => ?_
        obtain ⟨t, vals, n, rfl, htm, hvl, R'⟩ := R'
        refine hG9 ?_
        have hlt' : i < its.toArray.size := by simpa using hlt
        refine W.item i _ _ _ hlt' ⟨hit', hal⟩ fun v' h₂ tk₂ hPv hst₂ hk₂ => ?_
        have hv' : its.toArray[i]? = some v' := hPv
        have hve : v' = .ref t := by
          have h2 : its[i]? = some v' := by simpa using hv'
          rw [hv] at h2; exact (Option.some.inj h2).symm
        subst hve
        have keep₂ := hwr _ _ hk₂
        refine letGo_listiter hst₂.1 ?_
        have htI : t ≠ I := (off3 _ htm).1
        have ht₂ : h₂.IsTuple t vals.toArray := ⟨_, keep₂ t _ htI (N' _ (.tail _ htm)).1, rfl, n, rfl⟩
        have hal2 := (each_len xs (compEnvC scope cl H2.objs.size env)).trans hvl.symm
        have hal3 := each_star xs (compEnvC scope cl H2.objs.size env)
        refine wpAny_assign_Tuple hh ht₂ (by simpa using hal2) hal3 fun h₃ hx₃ => ?_
        have lt₂ : ∀ b o, h'.get? b = some o → b < h₂.objs.size := fun b o e => by
          by_cases hb : b = I
          · subst hb; obtain ⟨o', e', _⟩ := hst₂.1; exact Heap.lt_size e'
          · exact Heap.lt_size (keep₂ b o hb e)
        have hn₂ : h₂.Ns H2.objs.size m' := hn'.at' fun o e => keep₂ _ o (Ne.symm hCI) e
        have hn₃ : h₃.Ns H2.objs.size m' := hn₂.at' fun o e => hx₃ _ o (Nat.ne_of_lt hn₂.lt) e
        refine names_in (env := compEnvC scope cl H2.objs.size env) (by simpa using hvl) hnd (fun x hx' => lookup_relabel_local (hx x hx')) (by simp [compEnvC, relabel, hkind]) hn₃ fun h₄ tk₄ m₄ hn₄ hb₄ ho₄ hs₄ => ?_
        have up : ∀ b o, b ≠ I → b ≠ H2.objs.size → h'.get? b = some o → h₄.get? b = some o := fun b o h1 h2 e => hs₄ b o h2 (hx₃ b o (Nat.ne_of_lt (lt₂ b o e)) (keep₂ b o h1 e))
        have hit₄ : h₄.IsListIter I ax (i + 1) := hst₂.1.at fun o e => hs₄ I o hCI (hx₃ I o (Nat.ne_of_lt (Heap.lt_size e)) e)
        refine hide fun hG9 => ?_
        obtain ⟨oI, heI, hoI⟩ := id hit₄
        refine hG9 ?_
        refine hide fun hG9 => ?_
        obtain ⟨oC, heC, hoC⟩ := ns_obj hn₄
        refine hG9 ?_
        have F₄ : Fr h₀ L h₄ m := ⟨F'.ns.at' fun o e => up _ o hIL (Ne.symm hCL) e, fun c o e => up c o (fun q => by rw [q, hI₀] at e; cases e) (fun q => by rw [q, hC₀] at e; cases e) (F'.keep c o e), F'.above⟩
        have N₄ : News h₀ L h₄ ((I, oI) :: (H2.objs.size, oC) :: (s₂.heap.objs.size, lst ys) :: news') :=
          List.forall_mem_cons.mpr ⟨⟨heI, Ne.symm hIL, hI₀⟩, List.forall_mem_cons.mpr ⟨⟨heC, hCL, hC₀⟩, fun q hq => ⟨up _ _ ((List.forall_mem_cons.mpr ⟨Ne.symm hDI, fun q hq => (off3 q hq).1⟩ : ∀ q ∈ (s₂.heap.objs.size, lst ys) :: news', q.1 ≠ I) q hq) ((List.forall_mem_cons.mpr ⟨hDC, fun q hq => (off3 q hq).2.1⟩ : ∀ q ∈ (s₂.heap.objs.size, lst ys) :: news', q.1 ≠ H2.objs.size) q hq) (N' q hq).1, (N' q hq).2⟩⟩⟩
        refine wpAny_mono (R' I oI H2.objs.size oC s₂.heap.objs.size m₄ h₄ tk₄ _ hoC hb₄ F₄ N₄ off' ⟨hCI, hDI, Ne.symm hDC⟩) (fun ok s₄ h₄' => ?_) fun _ _ e => e
        have fin : ∀ (h₅ : Heap) (news₅ : Led), News h₀ L h₅ ((I, oI) :: (H2.objs.size, oC) :: (s₂.heap.objs.size, lst ys) :: news₅) → h₅.IsListIter I ax (i + 1) := fun h₅ news₅ N₅ => ⟨oI, (N₅ _ (.head _)).1, hoI⟩
        cases ok with
        | true =>
          simp only [if_true] at h₄' ⊢
          refine wpAny_mono h₄' (fun y s₅ h₅ => ?_) fun _ _ e => e
          refine hide fun hG9 => ?_
          obtain ⟨h₅, tk₅, news₅, rfl, F₅, N₅, off₅, hS₅, R₅⟩ := h₅
          refine hG9 ?_
          have zC := (N₅ (H2.objs.size, oC) (.tail _ (.head _))).1
          have zD := (N₅ (s₂.heap.objs.size, lst ys) (.tail _ (.tail _ (.head _)))).1
          have N₅' : News h₀ L h₅ news₅ := fun p hp => N₅ p (.tail _ (.tail _ (.tail _ hp)))
          have hit₅ := fin _ _ N₅
          refine append_at (hsz := by show ys.toArray.size ≤ sizeLine; rw [List.size_toArray]; exact Nat.le_trans (Nat.le_trans hyl hi) hsz) zD fun h₆ hs₆ hD₆ => ?_
          have off4 := off₅.mem
          refine ⟨its.length + 1 - (i + 1), Nat.sub_lt_sub_left (Nat.lt_succ_of_lt hlt) (Nat.lt_succ_self i), .mk hlt (by rw [List.length_append, List.length_singleton]; exact Nat.succ_le_succ hyl) (hit₅.at fun o e => hs₆.extBut _ o hDI e) (F₅.change hs₆ hDL hD₀)
            ((hoC.ns zC).sameBut hs₆ (Ne.symm hDC)) (List.forall_mem_cons.mpr ⟨⟨hD₆.trans (congrArg some (lst_snoc ys y)), hDL, hD₀⟩, fun p hp => ⟨hs₆.extBut _ _ (off4 p hp).2.2 (N₅' p hp).1, (N₅' p hp).2⟩⟩) off₅ hS₅ R₅⟩
        | false =>
          simp only [Bool.false_eq_true, if_false] at h₄' ⊢
          refine hide fun hG9 => ?_
          obtain ⟨h₅, tk₅, news₅, rfl, F₅, N₅, off₅, hS₅, R₅⟩ := h₄'
          refine hG9 ?_
          have zC := (N₅ (H2.objs.size, oC) (.tail _ (.head _))).1
          have N₅' : News h₀ L h₅ news₅ := fun p hp => N₅ p (.tail _ (.tail _ (.tail _ hp)))
          refine ⟨its.length + 1 - (i + 1), Nat.sub_lt_sub_left (Nat.lt_succ_of_lt hlt) (Nat.lt_succ_self i), .mk hlt (Nat.le_succ_of_le hyl) (fin _ _ N₅) F₅ (hoC.ns zC) (List.forall_mem_cons.mpr ⟨N₅ _ (.tail _ (.tail _ (.head _))), N₅'⟩) off₅ hS₅ R₅⟩
      · obtain rfl : i = its.length := Nat.le_antisymm hi (Nat.not_lt.mp hlt)
        rw [List.drop_length] at R'
        have hdn : h'.IsListIter I ax its.toArray.size ∧ h'.IsList ax its.toArray := ⟨by simpa using hit', hal⟩
        refine W.done _ _ _ hdn fun h₂ tk₂ hk₂ => ?_
        exact hRR _ _ h₂ tk₂ _ ys news' (LCg.fr_but F' hk₂ hIL hI₀) (LCg.news_but N' hk₂ (List.forall_mem_cons.mpr ⟨Ne.symm hDI, fun p hp => (off3 p hp).1⟩)) off'.one (hn'.at' fun o e => hk₂ _ o (by simpa using Ne.symm hCI) e) hC₀ hD₀ hCL hDL (Ne.symm hDC) (fun p hp => (off3 p hp).2.1) R'
    · rcases List.mem_cons.mp hp with rfl | hp
      · exact ⟨hacc, hDL, hD₀⟩
      · exact ⟨old _ _ (N p hp).1, (N p hp).2⟩
  refine codeAny_compStart_list (loop _ rfl) (W.self 0 _ _ _ ⟨hit.at fun o e => old _ o e, ?_⟩ (loop _ rfl))
  exact ⟨_, old _ _ (N _ (hS _ hax)).1, rfl, ni, rfl⟩

noncomputable def CSrc (prog : Program) (w : World) (A : Around) (h₀ : Heap) (L : Addr) (m : Str → Option Value) (env : Env) (ifs : List PySem.Expr) (elt : PySem.Expr) (xs : List (Str × Pos)) (scope : Scope) (cl : List (Str × Addr)) (Fin : Shared → List Value → Led → Prop) (xv : Value) (s₁ : Shared) : Prop :=
  ∃ ax its n fz news, xv = .ref ax ∧ A.handled = none ∧ Fr h₀ L s₁.heap m ∧ News h₀ L s₁.heap news ∧ (ax, listOf its.toArray n) ∈ fz ∧ (∀ p ∈ fz, p ∈ news) ∧ its.length ≤ sizeLine ∧
    ∀ s₂ : Shared, (∃ h, s₂ = { s₁ with heap := h }) → CR prog w A h₀ L m env ifs elt xs scope cl s₂ fz (Fin s₂) its [] news
theorem CSrc.intro {elt : PySem.Expr} {ifs : List PySem.Expr} {xs : List (Str × Pos)} {scope : Scope} {cl : List (Str × Addr)} {Fin : Shared → List Value → Led → Prop} {ax : Addr} {its : List Value} {n : Nat} {fz news : Led} {s₁ : Shared}
    (hh : A.handled = none) (F : Fr h₀ L s₁.heap m) (N : News h₀ L s₁.heap news) (hm : (ax, listOf its.toArray n) ∈ fz) (hs : ∀ p ∈ fz, p ∈ news) (hsz : its.length ≤ sizeLine)
    (h : ∀ g, CR prog w A h₀ L m env ifs elt xs scope cl { s₁ with heap := g } fz (Fin { s₁ with heap := g }) its [] news) : CSrc prog w A h₀ L m env ifs elt xs scope cl Fin (.ref ax) s₁ :=
  ⟨ax, its, n, fz, news, rfl, hh, F, N, hm, hs, hsz, fun _ ⟨g, e⟩ => e ▸ h g⟩
theorem listcomp {elt iter : PySem.Expr} {ifs : List PySem.Expr} {xs : List (Str × Pos)} {x1 : Nat} {tp : Pos} {scope : Scope} {cl : List (Str × Addr)} {pos : Pos} {Q : Value → Shared → Prop} (F₀ : Fr h₀ L s.heap m)
    (hclos : closureFor scope env = pure cl) (hcell : ∀ y ∈ scope.names, y.2 ≠ .cell) (hkind : scope.kind = .function)
    (hnames : ∀ y ∈ scope.names, y.2 = .local → scope.names.lookup y.1 = some .local) (hx : ∀ x ∈ xs, scope.names.lookup x.1 = some .local) (hnd : (xs.map (·.1)).Nodup)
    (h : wpAny (model prog w) A (eval iter env) (CSrc prog w A h₀ L m env ifs elt xs scope cl (fun s₂ => FinE h₀ L m s₂ Q)) E s)
    (hs : ∀ x, foldedSetIterable iter env x = pure x) :
    wpAny (model prog w) A (eval (.ListComp elt [⟨.Tuple (xs.map nmE) x1 tp, iter, ifs, 0⟩] scope pos) env) Q E s := by
  rw [eval_ListComp]
  refine wpAny_comprehension_free (use := none) rfl hs hclos hkind hnames (wpAny_mono h (fun xv s₁ h₁ => ?_) fun _ _ e => e)
  refine hide fun hG9 => ?_
  obtain ⟨ax, its, n, fz, news, rfl, hh, F, N, hm, hS, hsz, R⟩ := h₁
  refine hG9 ?_
  have hl : s₁.heap.IsList ax its.toArray := ⟨_, (N _ (hS _ hm)).1, rfl, n, rfl⟩
  have hlt : ax < s₁.heap.objs.size := by obtain ⟨_, e, _⟩ := hl; exact Heap.lt_size e
  refine wpAny_pyIter_list hl ?_
  have up : ∀ b o, s₁.heap.get? b = some o → (s₁.heap.push { cls := .type "list_iterator", data := .fields #[.ref ax, .int 0 0] }).get? b = some o := fun b o e => Heap.get?_push_of_some _ e
  refine cr_block hh hsz hm (Nat.ne_of_lt hlt) ⟨_, Heap.get?_push_size _ rfl, rfl, rfl⟩ hcell hkind hx hnd (F.keeps up) (N.grown up) (Nat.ne_of_lt F.ns.lt) (next_is_new F) (fun p hp => Nat.ne_of_lt (Heap.lt_size (N p hp).1)) hS (R _ ⟨_, rfl⟩) ?_
  intro D C h tk m' ys news' F' N' o1 hn hC₀ hD₀ hCL hDL hCD offC fin
  refine ⟨m', hn, fun h'' hs'' => fin D h'' tk (F'.change hs'' hCL hC₀) (fun p hp => ?_) o1⟩
  refine ⟨hs''.extBut _ _ ?_ (N' p hp).1, (N' p hp).2⟩
  rcases List.mem_cons.mp hp with rfl | hp
  · exact Ne.symm hCD
  · exact offC p hp
theorem listcompA {elt iter : PySem.Expr} {ifs : List PySem.Expr} {xs : List (Str × Pos)} {x1 : Nat} {tp py : Pos} {y : Str} {scope : Scope} {cl : List (Str × Addr)} {pos spos : Pos} {Q : Flow → Shared → Prop} (F₀ : Fr h₀ L s.heap m) (hLe : env.locals = L)
    (hsw : swapsWith (.ListComp elt [⟨.Tuple (xs.map nmE) x1 tp, iter, ifs, 0⟩] scope pos) (some (.Name y py)) spos.line env = pure true)
    (hclos : closureFor scope env = pure cl) (hcell : ∀ z ∈ scope.names, z.2 ≠ .cell) (hkind : scope.kind = .function)
    (hnames : ∀ z ∈ scope.names, z.2 = .local → scope.names.lookup z.1 = some .local) (hx : ∀ x ∈ xs, scope.names.lookup x.1 = some .local) (hnd : (xs.map (·.1)).Nodup)
    (hy : env.kindOf y = some .local) (hp : (env.scope.kind == .class || (env.scope.kind == .module && env.locals != env.globals)) = false)
    (h : wpAny (model prog w) A (eval iter env) (CSrc prog w A h₀ L m env ifs elt xs scope cl (fun s₂ => FinA h₀ L m s₂ y Q)) E s)
    (hs : ∀ x, foldedSetIterable iter env x = pure x) :
    wpAny (model prog w) A (exec (.Assign [.Name y py] (.ListComp elt [⟨.Tuple (xs.map nmE) x1 tp, iter, ifs, 0⟩] scope pos) spos) env) Q E s := by
  subst hLe
  rw [exec_Assign_Name_used _ _ _ _ hsw]
  refine wpAny_bind (wpAny_standAt (wpAny_bind ?_))
  show wpAny _ A (do let _ ← comprehension (.ListComp elt [⟨.Tuple (xs.map nmE) x1 tp, iter, ifs, 0⟩] scope pos) scope env _ (newList []) false (eval iter env) (some (assign (.Name y py) env))) _ _ s
  refine wpAny_bind (wpAny_mono (wpAny_comprehension_free (use := some (assign (.Name y py) env)) (Q := fun _ s' => Q .next s') rfl hs hclos hkind hnames
    (wpAny_mono h (fun xv s₁ h₁ => ?_) fun _ _ e => e)) (fun _ s' hq => wpAny_pure (wpAny_pure hq)) fun _ _ e => e)
  refine hide fun hG9 => ?_
  obtain ⟨ax, its, n, fz, news, rfl, hh, F, N, hm, hS, hsz, R⟩ := h₁
  refine hG9 ?_
  have hl : s₁.heap.IsList ax its.toArray := ⟨_, (N _ (hS _ hm)).1, rfl, n, rfl⟩
  have hlt : ax < s₁.heap.objs.size := by obtain ⟨_, e, _⟩ := hl; exact Heap.lt_size e
  refine wpAny_pyIter_list hl ?_
  have up : ∀ b o, s₁.heap.get? b = some o → (s₁.heap.push { cls := .type "list_iterator", data := .fields #[.ref ax, .int 0 0] }).get? b = some o := fun b o e => Heap.get?_push_of_some _ e
  refine cr_block hh hsz hm (Nat.ne_of_lt hlt) ⟨_, Heap.get?_push_size _ rfl, rfl, rfl⟩ hcell hkind hx hnd (F.keeps up) (N.grown up) (Nat.ne_of_lt F.ns.lt) (next_is_new F) (fun p hp => Nat.ne_of_lt (Heap.lt_size (N p hp).1)) hS (R _ ⟨_, rfl⟩) ?_
  intro D C h' tk m' ys news' F' N' o1 hn hC₀ hD₀ hCL hDL hCD offC fin
  show wpAny _ A (assign (.Name y py) env (.ref D)) _ _ _
  refine wpAny_assign_Name (wpAny_storeName_local hy F'.ns (fun h₂ hn₂ hs₂ => ?_) hp)
  have hL₀ : h₀.get? env.locals = none := Heap.get?_none_of_le F'.above
  have F₂ : Fr h₀ env.locals h₂ (fun z => if z = y then some (.ref D) else m z) := ⟨hn₂, fun b o e => hs₂.extBut b o (fun q => by rw [q, hL₀] at e; cases e) (F'.keep b o e), F'.above⟩
  refine ⟨m', hn.sameBut hs₂ hCL, fun h'' hs'' => fin D h'' _ (F₂.change hs'' hCL hC₀) (fun p hp => ?_) o1⟩
  have z : h₂.get? p.1 = some p.2 := hs₂.extBut _ _ (N' p hp).2.1 (N' p hp).1
  refine ⟨hs''.extBut _ _ ?_ z, (N' p hp).2⟩
  rcases List.mem_cons.mp hp with rfl | hp
  · exact Ne.symm hCD
  · exact offC p hp
end
section
variable {prog : Program} {w : World} {A : Around} {E : Value → Shared → Prop} {s : Shared} {env : Env} {h₀ : Heap} {target : PySem.Expr} {body : List Stmt} {Q : Flow → Shared → Prop}
theorem unrPost_mono {L : Addr} {s₁ : Shared} {its : Led} {rest rest' : (Str → Option Value) → Led → Prop} (h : ∀ m n, rest m n → rest' m n) {f : Flow} {s₂ : Shared} (x : UnrPostW h₀ L s₁ its rest Q f s₂) : UnrPostW h₀ L s₁ its rest' Q f s₂ := by
  cases f with
  | ret v => exact x
  | brk => exact x
  | next => obtain ⟨h', tk, m', n', a, b, c, d, e⟩ := x; exact ⟨h', tk, m', n', a, b, c, d, h _ _ e⟩
  | cont => obtain ⟨h', tk, m', n', a, b, c, d, e⟩ := x; exact ⟨h', tk, m', n', a, b, c, d, h _ _ e⟩
theorem vals_ind {I : Addr} {keep : Led} {cls : String} (Inv : List Value → (Str → Option Value) → Led → Prop)
    (step : ∀ v r m news h tk o, Inv (v :: r) m news → Fr h₀ env.locals h m → o.cls = .type cls → News h₀ env.locals h ((I, o) :: news) →
      wpAny (model prog w) A (assign target env v) (fun _ s₂ => wpAny (model prog w) A (execs body env) (UnrPostW h₀ env.locals { s with heap := h, toks := tk } [(I, o)] (fun m' n' => SubL keep n' ∧ Inv r m' n') Q) E s₂) E { s with heap := h, toks := tk })
    (done : ∀ m news h tk, Inv [] m news → Fr h₀ env.locals h m → News h₀ env.locals h news → Q .next { s with heap := h, toks := tk }) :
    ∀ (vs : List Value) (m : Str → Option Value) (news : Led), Inv vs m news → ItemsRest prog w A E h₀ env target body Q s [(I, cls)] keep (vs.map .val) m news
  | [], m, news, hi => fun h tk F N => done m news h tk hi F N
  | v :: r, m, news, hi => ItemsRest.val fun h tk F => AllObj.cons fun o hc => AllObj.nil fun N => by
    refine wpAny_mono (step v r m news h tk o hi F hc N) (fun _ s₂ h₂ => wpAny_mono h₂ (fun f s₃ x => ?_) fun _ _ e => e) fun _ _ e => e
    exact unrPost_mono (fun m' n' ⟨a, b⟩ => ⟨a, vals_ind Inv step done r m' n' b⟩) x
theorem itms_ind {α : Type} {it : α → Itm} {I : Addr} {keep : Led} {cls : String} (Inv : List α → (Str → Option Value) → Led → Prop)
    (step : ∀ a r v m news h tk o, Inv (a :: r) m news → (it a).Is v h → Fr h₀ env.locals h m → o.cls = .type cls → News h₀ env.locals h ((I, o) :: news) →
      wpAny (model prog w) A (assign target env v) (fun _ s₂ => wpAny (model prog w) A (execs body env) (UnrPostW h₀ env.locals { s with heap := h, toks := tk } [(I, o)] (fun m' n' => SubL keep n' ∧ Inv r m' n') Q) E s₂) E { s with heap := h, toks := tk })
    (done : ∀ m news h tk, Inv [] m news → Fr h₀ env.locals h m → News h₀ env.locals h news → Q .next { s with heap := h, toks := tk }) :
    ∀ (vs : List α) (m : Str → Option Value) (news : Led), Inv vs m news → ItemsRest prog w A E h₀ env target body Q s [(I, cls)] keep (vs.map it) m news
  | [], m, news, hi => fun h tk F N => done m news h tk hi F N
  | a :: r, m, news, hi => fun v h tk hv F => AllObj.cons fun o hc => AllObj.nil fun N => by
    refine wpAny_mono (step a r v m news h tk o hi hv F hc N) (fun _ s₂ h₂ => wpAny_mono h₂ (fun f s₃ x => ?_) fun _ _ e => e) fun _ _ e => e
    exact unrPost_mono (fun m' n' ⟨a, b⟩ => ⟨a, itms_ind Inv step done r m' n' b⟩) x
end
noncomputable def Agree (ns : List Str) (m₀ m : Str → Option Value) : Prop := ∀ y, ns.contains y = false → m y = m₀ y
theorem agree_refl {ns : List Str} {m : Str → Option Value} : Agree ns m m := fun _ _ => rfl
theorem agree_store {ns : List Str} {m₀ m : Str → Option Value} {n : Str} {v : Option Value} (h : Agree ns m₀ m) (hn : ns.contains n = true) : Agree ns m₀ (fun y => if y = n then v else m y) := fun y hy => by
  have : y ≠ n := by rintro rfl; rw [hn] at hy; cases hy
  show (if y = n then v else m y) = m₀ y
  rw [if_neg this]; exact h y hy
noncomputable def over (ns : List Str) (u m₀ : Str → Option Value) : Str → Option Value := fun y => if ns.contains y then u y else m₀ y
theorem Agree.eq {ns : List Str} {m₀ m : Str → Option Value} (h : Agree ns m₀ m) : m = over ns m m₀ := by
  funext y
  unfold over
  by_cases q : ns.contains y = true
  · rw [if_pos q]
  · rw [if_neg q]; exact h y (by simpa using q)
theorem agree_over {ns : List Str} {u m₀ : Str → Option Value} : Agree ns m₀ (over ns u m₀) := fun y hy => by
  unfold over; rw [if_neg (by rw [hy]; decide)]
theorem unrEnd1 {h₀ : Heap} {L : Addr} {s₁ : Shared} {I : Addr} {o : Obj} {news all : Led} {rest : (Str → Option Value) → Led → Prop} {h' : Heap} {tk : Nat} {m' : Str → Option Value}
    (F : Fr h₀ L h' m') (N : News h₀ L h' all) (hs : ∀ q ∈ (I, o) :: news, q ∈ all) (off : AllNe I news) (r : rest m' news) : UnrEndW h₀ L s₁ [(I, o)] rest { s₁ with heap := h', toks := tk } :=
  ⟨h', tk, m', news, rfl, F, newsSub N hs, fun p hp q hq e => by
    rw [List.mem_singleton.mp hq] at e
    exact ne_of_allNe off p hp e, r⟩
section
variable {prog : Program} {w : World} {A : Around} {E : Value → Shared → Prop} {s : Shared} {env : Env} {h₀ : Heap} {target : PySem.Expr} {body : List Stmt} {Q : Flow → Shared → Prop}
noncomputable def RInv {α : Type} (NS : List Str) (m₀ : Str → Option Value) (I rl : Addr) (n₀ : Led) (P : List α → List Value → Led → Prop) (r : List α) (m : Str → Option Value) (nw : Led) : Prop :=
  ∃ vs ep n1, nw = (rl, listOf vs.toArray ep) :: n1 ∧ Agree NS m₀ m ∧ (∀ p ∈ n₀, p ∈ n1) ∧ AllNe I n1 ∧ AllNe rl n1 ∧ P r vs n1
theorem RInv.intro {α : Type} {NS : List Str} {m₀ : Str → Option Value} {I rl : Addr} {n₀ : Led} {P : List α → List Value → Led → Prop} {r : List α} {m : Str → Option Value} {vs : List Value} {ep : Nat} {n1 : Led}
    (ha : Agree NS m₀ m) (hn : ∀ p ∈ n₀, p ∈ n1) (hI : AllNe I n1) (hr : AllNe rl n1) (hP : P r vs n1) : RInv NS m₀ I rl n₀ P r m ((rl, listOf vs.toArray ep) :: n1) := ⟨vs, ep, n1, rfl, ha, hn, hI, hr, hP⟩
theorem app_ind {α : Type} {it : α → Itm} {I rl : Addr} {keep : Led} {cls : String} {m₀ : Str → Option Value} {n₀ : Led} {ep₀ : Nat} (NS : List Str) (P : List α → List Value → Led → Prop) (items : List α)
    (hI : AllNe I ((rl, listOf #[] ep₀) :: n₀)) (hr : AllNe rl n₀) (h0 : P items [] n₀)
    (step : ∀ a r vs ep n1 u v h tk o, P (a :: r) vs n1 → (∀ p ∈ n₀, p ∈ n1) → AllNe I n1 → AllNe rl n1 → @Ne Nat rl I → (it a).Is v h → Fr h₀ env.locals h (over NS u m₀) → o.cls = .type cls → News h₀ env.locals h ((I, o) :: (rl, listOf vs.toArray ep) :: n1) →
      wpAny (model prog w) A (assign target env v) (fun _ s₂ => wpAny (model prog w) A (execs body env) (UnrPostW h₀ env.locals { s with heap := h, toks := tk } [(I, o)] (fun m' n' => SubL keep n' ∧ RInv NS m₀ I rl n₀ P r m' n') Q) E s₂) E { s with heap := h, toks := tk })
    (done : ∀ vs ep n1 u h tk, P [] vs n1 → (∀ p ∈ n₀, p ∈ n1) → AllNe I n1 → AllNe rl n1 → Fr h₀ env.locals h (over NS u m₀) → News h₀ env.locals h ((rl, listOf vs.toArray ep) :: n1) → Q .next { s with heap := h, toks := tk }) :
    ItemsRest prog w A E h₀ env target body Q s [(I, cls)] keep (items.map it) m₀ ((rl, listOf #[] ep₀) :: n₀) := by
  refine itms_ind (RInv NS m₀ I rl n₀ P) ?_ ?_ items m₀ _ ⟨[], ep₀, n₀, rfl, agree_refl, fun _ h => h, hI.2, hr, h0⟩
  · intro a r v m news h tk o z98 hv F hc N
    refine hide fun hG9 => ?_
    obtain ⟨vs, ep, n1, rfl, ha, hn, hi, hr', hP⟩ := z98
    refine hG9 ?_
    rw [ha.eq] at F
    exact step a r vs ep n1 m v h tk o hP hn hi hr' hI.1 hv F hc N
  · intro m news h tk z94 F N
    refine hide fun hG9 => ?_
    obtain ⟨vs, ep, n1, rfl, ha, hn, hi, hr', hP⟩ := z94
    refine hG9 ?_
    rw [ha.eq] at F
    exact done vs ep n1 m h tk hP hn hi hr' F N
end
end Mine
end
section
open PySem PySem.W PyProof.Rows PySem.Calls PyProof.V PySem.Spec
set_option maxRecDepth 100000
namespace Mine
inductive IsPat : Ty → Prop
  | int : IsPat .int
  | adt : IsPat .adt
  | box : IsPat (.box .adt)
  | ref (m : Bool) : IsPat (.ref m .adt)
inductive Tr where | A | B
  deriving DecidableEq
noncomputable def Tr.nm : Tr → Str | .A => "A" | .B => "B"
theorem Tr.nm_inj (a b : Tr) : (a.nm == b.nm) = decide (a = b) := by cases a <;> cases b <;> decide
theorem bnd_in {bs : List Tr} {tr : Tr} : (bs.map Tr.nm).any (fun x => x == tr.nm) = true ↔ tr ∈ bs := by
  rw [List.any_map, List.any_eq_true]
  constructor
  · rintro ⟨x, hx, e⟩
    have e' : (x.nm == tr.nm) = true := e
    rw [Tr.nm_inj] at e'
    exact of_decide_eq_true e' ▸ hx
  · intro h
    refine ⟨tr, h, ?_⟩
    show (tr.nm == tr.nm) = true
    rw [Tr.nm_inj]; exact decide_eq_true rfl
theorem bnd_out {bs : List Tr} {tr : Tr} (h : (bs.map Tr.nm).any (fun x => x == tr.nm) = false) : ¬ tr ∈ bs := fun m => by
  rw [bnd_in.mpr m] at h; cases h
structure Imp where
  trait : Option Tr
  num : Nat
  told : Ty
  kind : Slf
noncomputable abbrev en (w : World) (n : Str) (t : Tok) (v : Value) : DictEntry := ⟨PyData.keyHash w.params n, .str n t, v⟩
inductive TrIs : Value → Option Tr → Prop
  | no : TrIs .none none
  | a {t} : TrIs (.str "A" t) (some .A)
  | b {t} : TrIs (.str "B" t) (some .B)
theorem TrIs.split {v : Value} {o : Option Tr} (h : TrIs v o) : (o = none ∧ v = .none) ∨ ∃ p t, o = some p ∧ v = .str p.nm t := by
  cases h
  · exact .inl ⟨rfl, rfl⟩
  · exact .inr ⟨.A, _, rfl, rfl⟩
  · exact .inr ⟨.B, _, rfl, rfl⟩
noncomputable def pathOf (n : Nat) : Str := ("impl#" : Str) ++ Str.ofString (toString (n : Int)) ++ ("::go" : Str)
inductive SigIn (w : World) (fz : Led) : Addr → Slf → Prop
  | mk {x dx t1 t2 t3 t4 t5 t6 t7 t8 v1 v2 v3 v4 v5 v6 v8 kv k} : (x, instObj 252 dx) ∈ fz →
    (dx, dictOf [en w "path" t1 v1, en w "regions" t2 v2, en w "params" t3 v3, en w "own" t4 v4, en w "inputs" t5 v5, en w "output" t6 v6, en w "self_kind" t7 kv, en w "has_body" t8 v8] 8) ∈ fz → KdIs kv k → SigIn w fz x k
noncomputable abbrev SD (w : World) (o : Obj) (kvs : List (Str × Value)) : Prop := o.IsDictOf (PySem.strKind Challenge.rw_nu0383_01.row.prog w) kvs
inductive ImpIn (w : World) (fz : Led) (es : List (Str × Value)) : Value → Imp → Prop
  | mk {x dx ps ta md mo sx t1 t2 t3 t4 t5 t6 t7 t8 tn tp rg tv trv sp n1 n2} {i : Imp} : (x, instObj 295 dx) ∈ fz →
    (dx, dictOf [en w "number" t1 (.int i.num tn), en w "regions" t2 rg, en w "params" t3 (.ref ps), en w "trait" t4 trv, en w "trait_args" t5 (.ref ta), en w "self_type" t6 tv, en w "methods" t7 (.ref md), en w "spot" t8 sp] 8) ∈ fz →
    (ps, listOf #[] n1) ∈ fz → (ta, tupOf [] n2) ∈ fz → TrIs trv i.trait → TyIn fz tv i.told → IsPat i.told →
    (i.trait = none → (md, mo) ∈ fz ∧ SD w mo [("go", .str (pathOf i.num) tp)] ∧ (md == sysModules) = false ∧ valueAt es (pathOf i.num) = some (.ref sx) ∧ SigIn w fz sx i.kind) → ImpIn w fz es (.ref x) i
noncomputable def Matched (w : World) (news n' : Led) (r : Value) (ans : Str) : Prop := ∃ tp fd fo nt t, r = .ref tp ∧ n' = (tp, tupOf [.str ans t, .ref fd] nt) :: (fd, fo) :: news ∧ SD w fo [] ∧ (fd == sysModules) = false ∧ AllNe fd news ∧ AllNe tp news ∧ @Ne Nat fd tp
inductive TrIn (w : World) (fz : Led) : Value → Slf → Prop
  | mk {x dx md mo sx t1 t2 t3 t4 v1 v2 v4 k} : (x, instObj 273 dx) ∈ fz → (dx, dictOf [en w "path" t1 v1, en w "params" t2 v2, en w "methods" t3 (.ref md), en w "defaults" t4 v4] 4) ∈ fz →
    (md, mo) ∈ fz → SD w mo [("go", .ref sx)] → (md == sysModules) = false → SigIn w fz sx k → TrIn w fz (.ref x) k
inductive BndIn (w : World) (fz : Led) : Value → List Tr → Prop
  | none {d o} : (d, o) ∈ fz → SD w o [] → (d == sysModules) = false → BndIn w fz (.ref d) []
  | zero {d o b n} : (d, o) ∈ fz → SD w o [("X", .ref b)] → (d == sysModules) = false → (b, tupOf [] n) ∈ fz → BndIn w fz (.ref d) []
  | one {d o b n t} : (d, o) ∈ fz → SD w o [("X", .ref b)] → (d == sysModules) = false → (b, tupOf [.str "A" t] n) ∈ fz → BndIn w fz (.ref d) [.A]
  | two {d o b n t u} : (d, o) ∈ fz → SD w o [("X", .ref b)] → (d == sysModules) = false → (b, tupOf [.str "A" t, .str "B" u] n) ∈ fz → BndIn w fz (.ref d) [.A, .B]
inductive TrsIn (w : World) (fz : Led) : List (Str × Value) → List (Tr × Slf) → Prop
  | one {v k} : TrIn w fz v k → TrsIn w fz [("A", v)] [(.A, k)]
  | two {v u k j} : TrIn w fz v k → TrIn w fz u j → TrsIn w fz [("A", v), ("B", u)] [(.A, k), (.B, j)]
inductive ImpsIn (w : World) (fz : Led) (es : List (Str × Value)) : List Value → List Imp → Prop
  | nil : ImpsIn w fz es [] []
  | cons {v i vs is} : ImpIn w fz es v i → ImpsIn w fz es vs is → ImpsIn w fz es (v :: vs) (i :: is)
inductive WorldIn (w : World) (fz : Led) : Value → List Imp → List (Tr × Slf) → Prop
  | mk {x dx sg so tr to im vs n t1 t2 t3 t4 t5 t6 t7 t8 v1 v2 v3 v7 v8 es tes imps trs} : (x, instObj 324 dx) ∈ fz →
    (dx, dictOf [en w "modules" t1 v1, en w "adts" t2 v2, en w "variants" t3 v3, en w "sigs" t4 (.ref sg), en w "traits" t5 (.ref tr), en w "impls" t6 (.ref im), en w "consts" t7 v7, en w "bodies" t8 v8] 8) ∈ fz →
    (sg, so) ∈ fz → SD w so es → (sg == sysModules) = false → (tr, to) ∈ fz → SD w to tes → (tr == sysModules) = false → TrsIn w fz tes trs → (im, listOf vs.toArray n) ∈ fz → ImpsIn w fz es vs imps → vs.length ≤ 8 → WorldIn w fz (.ref x) imps trs
inductive SelIn (w : World) (fz : Led) : Value → Value → Value → Prop
  | mk {x dx t1 t2 wv bv} : (x, instObj 161 dx) ∈ fz → (dx, dictOf [en w "world" t1 wv, en w "bounds" t2 bv] 2) ∈ fz → SelIn w fz (.ref x) wv bv
inductive ProbeIn (w : World) (fz : Led) : Value → Value → Str → Value → Prop
  | mk {x dx t1 t2 t3 tn wv nm sv} : (x, instObj 224 dx) ∈ fz → (dx, dictOf [en w "world" t1 wv, en w "name" t2 (.str nm tn), en w "selection" t3 sv] 3) ∈ fz → ProbeIn w fz (.ref x) wv nm sv
theorem SigIn.mono {w : World} {fz fz' : Led} {x : Addr} {k : Slf} (h : SigIn w fz x k) (hs : ∀ p ∈ fz, p ∈ fz') : SigIn w fz' x k := by
  cases h with
  | mk h1 h2 h3 => exact .mk (hs _ h1) (hs _ h2) h3
theorem ImpIn.mono {w : World} {fz fz' : Led} {es : List (Str × Value)} {v : Value} {i : Imp} (h : ImpIn w fz es v i) (hs : ∀ p ∈ fz, p ∈ fz') : ImpIn w fz' es v i := by
  cases h with
  | mk h1 h2 h3 h4 h5 h6 h7 h8 => exact .mk (hs _ h1) (hs _ h2) (hs _ h3) (hs _ h4) h5 (h6.mono hs) h7 fun e => ⟨hs _ (h8 e).1, (h8 e).2.1, (h8 e).2.2.1, (h8 e).2.2.2.1, (h8 e).2.2.2.2.mono hs⟩
section
variable {prog : Program} {w : World} {A : Around} {E : Value → Shared → Prop} {h₀ h : Heap} {g : Array GenState} {d : Drawn} {X : Nat} {os : OsState} {L C a xo dx : Addr} {m : Str → Option Value} {cn : Str} {cs : Scope} {ccd : Value} {cl : List (Str × Addr)} {env : Env} {K : Frag} {ox : Obj} {sf y attr : Str} {sp yp ap pos : Pos} {v : Value} {es es' : List DictEntry} {n n' : Nat} {news news' : Led} {Q : Flow → Shared → Prop}
theorem nil_tup {M : Model} {f : List Value → List Value} {Q : Value → Shared → Prop} (F : Fr h₀ L h m) (N : News h₀ L h news) (hz : (f []).length ≤ sizeLine)
    (k : ∀ D h', Fr h₀ L h' m → News h₀ L h' ((D, ({ cls := .type "tuple", data := .seq (f []).toArray } : Obj)) :: news) → (∀ p ∈ news, p.1 < D) → Q (.ref D) ⟨h', g, d, X, os⟩) :
    wpAny M A (spliced (backTo pos (starEach [] env))) (fun vs s₂ => wpAny M A (newTuple (f vs)) Q E s₂) E ⟨h, g, d, X, os⟩ := args_nil (kup_newTuple F N k hz)
theorem nil_lst {M : Model} {f : List Value → List Value} {Q : Value → Shared → Prop} (F : Fr h₀ L h m) (N : News h₀ L h news) (hz : (f []).length ≤ sizeLine)
    (k : ∀ l h', Fr h₀ L h' m → News h₀ L h' ((l, listOf (f []).toArray 0) :: news) → (∀ p ∈ news, p.1 < l) → Q (.ref l) ⟨h', g, d, X, os⟩) :
    wpAny M A (spliced (backTo pos (starEach [] env))) (fun vs s₂ => wpAny M A (newList (f vs)) Q E s₂) E ⟨h, g, d, X, os⟩ := args_nil (newList_K F N k hz)
theorem set_nm (he : env = envX cn cs L a ccd cl) (F : Fr h₀ L h m) (hv : m y = some v) (hs : m sf = some (.ref xo)) (hk : cs.kind = .function) (hy : env.kindOf y = some .local) (hz : env.kindOf sf = some .local) (dy : (y == ("__debug__" : Str)) = false) (dz : (sf == ("__debug__" : Str)) = false)
    (X₀ : K.In h₀) (N : News h₀ L h news) (I : InstAt h xo ox C (some (dictOf es n))) (hd : ox.dict = some dx) (k1 : findIn K (.ref C) "__setattr__" = some (some (.builtin "object.__setattr__"))) (k2 : plainOver K C = true) (k3 : takerIn K C attr = some none) (k4 : hasDictIn K C = true) (hl : (getL attr es).isSome = true)
    (e : (putL attr (PyData.keyHash w.params attr) (.str attr (X + 1)) v es, putN attr es n) = (es', n')) (U : Upd dx (dictOf es n) (dictOf es' n') news news') (hz' : es'.length ≤ 1000) (sw : swapsWith (.Name y yp) (some (.Attribute (.Name sf sp) attr ap)) pos.line env = pure false)
    (kk : ∀ h', Fr h₀ L h' m → News h₀ L h' news' → Q .next ⟨h', g, d, X + 2, os⟩) : wpAny (model prog w) A (exec (.Assign [.Attribute (.Name sf sp) attr ap] (.Name y yp) pos) env) Q E ⟨h, g, d, X, os⟩ := by
  subst he
  exact plainObj_wpAny_Assign_Attribute (nameX_L F hv (nameX_L F hs (set_dict F X₀ N I hd k1 k2 k3 k4 hl e U hz' kk) hk hz dz) hk hy dy) sw
end
end Mine
end
section
open PySem PySem.W PyProof.Rows PySem.Calls PyProof.V PySem.Spec
set_option maxRecDepth 100000
namespace Mine
theorem unrEndA {w : World} {h₀ : Heap} {L : Addr} {s₁ : Shared} {I rl D d : Addr} {o od o2 : Obj} {vs : List Value} {ep : Nat} {n₀ n1 all keep : Led} {α : Type} {P : List α → List Value → Led → Prop} {r : List α} {NS : List Str} {m₀ m' : Str → Option Value} {h' : Heap} {tk : Nat}
    (F : Fr h₀ L h' m') (N : News h₀ L h' ((D, od) :: all)) (hI : (I, o) ∈ all) (hl : (rl, listOf (vs.toArray.push (Value.ref D)) ep) ∈ all) (hsd : SD w o2 []) (hd : (d, o2) ∈ all) (hs : ∀ p ∈ n1, p ∈ all)
    (ha : Agree NS m₀ m') (hn : ∀ p ∈ n₀, p ∈ n1) (iD : @Ne Nat D I) (id : @Ne Nat d I) (iN : AllNe I n1) (lD : @Ne Nat D rl) (ld : @Ne Nat d rl) (lN : AllNe rl n1) (hne : @Ne Nat rl I)
    (kp : ∀ n, (∀ p ∈ n1, p ∈ n) → SubL keep n) (hP : P r (vs ++ [Value.ref D]) ((D, od) :: (d, o2) :: n1)) :
    UnrEndW h₀ L s₁ [(I, o)] (fun m' n' => SubL keep n' ∧ RInv NS m₀ I rl n₀ P r m' n') { s₁ with heap := h', toks := tk } := by
  rw [List.push_toArray] at hl
  refine unrEnd1 (news := (rl, listOf (vs ++ [Value.ref D]).toArray ep) :: (D, od) :: (d, o2) :: n1) F N ?_ ⟨hne, iD, id, iN⟩ ⟨kp _ fun p hp => .tail _ (.tail _ (.tail _ hp)), RInv.intro ha (fun p hp => .tail _ (.tail _ (hn p hp))) ⟨iD, id, iN⟩ ⟨lD, ld, lN⟩ hP⟩
  exact List.forall_mem_cons.mpr ⟨.tail _ hI, List.forall_mem_cons.mpr ⟨.tail _ hl, List.forall_mem_cons.mpr ⟨.head _, List.forall_mem_cons.mpr ⟨.tail _ hd, fun q hq => .tail _ (hs q hq)⟩⟩⟩⟩
noncomputable def CRows (n : Led) (vs : List Value) : Prop := ∀ v ∈ vs, ∃ a k x y t, v = .ref a ∧ (a, tupOf [.str "yes" t, x, y] k) ∈ n
theorem CRows.mono {n n' : Led} {vs : List Value} (h : CRows n vs) (hs : ∀ p ∈ n, p ∈ n') : CRows n' vs := fun v hv => by
  refine hide fun hG9 => ?_
  obtain ⟨a, k, x, y, t, e, m⟩ := h v hv
  refine hG9 ?_
  exact ⟨a, k, x, y, t, e, hs _ m⟩
theorem CRows.snoc {n : Led} {vs : List Value} {a : Addr} {x y : Value} {t : Tok} {o : Addr × Obj} {k : Nat} (h : CRows n vs) : CRows ((a, tupOf [.str "yes" t, x, y] k) :: o :: n) (vs ++ [.ref a]) := fun v hv => by
  rcases List.mem_append.mp hv with hv | hv
  · refine hide fun hG9 => ?_
    obtain ⟨a, k, x, y, t, e, m⟩ := h v hv
    refine hG9 ?_
    exact ⟨a, k, x, y, t, e, .tail _ (.tail _ m)⟩
  · exact ⟨a, k, x, y, t, List.mem_singleton.mp hv, .head _⟩
noncomputable def hitC (tr : Tr) (b : Ty) (i : Imp) : Bool := decide (i.trait = some tr ∧ i.told = b)
end Mine
end
section
open PySem PySem.W PyProof.Rows PyProof.Rows.LCg PySem.Calls PyProof.V PySem.Spec
set_option maxRecDepth 100000
namespace Mine
section
variable {prog : Program} {w : World} {A : Around} {E : Value → Shared → Prop} {s : Shared} {h₀ : Heap} {L a b : Addr} {news : Led} {Q : Value → Shared → Prop}
theorem lst_of (N : News h₀ L s.heap news) {l : List Value} {n : Nat} (hm : (a, listOf l.toArray n) ∈ news) : s.heap.IsList a l.toArray := ⟨_, N.get hm, rfl, n, rfl⟩
theorem eq_empty {vs : List Value} {n k : Nat} (N : News h₀ L s.heap news) (ha : (a, listOf vs.toArray n) ∈ news) (hb : (b, listOf #[] k) ∈ news) (hu : A.units + 64 < cLine) {r : Bool} (hr : vs.isEmpty = r) (h : Q (.bool r) s) :
    wpAny (model prog w) A (compareOp .Eq (.ref a) (.ref b)) Q E s := by
  subst hr
  cases vs with
  | nil => exact eq_dataH (reads_nil N ha) (reads_nil N hb) (by decide) (by decide) hu h
  | cons v vs => exact PySem.SeqAt.eq_list_lengthsAt (lst_of N ha) (lst_of (l := []) N hb) (by simp) (Nat.lt_of_le_of_lt (Nat.le_add_right _ 64) (by assumption)) h
theorem ne_empty {vs : List Value} {n k : Nat} (N : News h₀ L s.heap news) (ha : (a, listOf vs.toArray n) ∈ news) (hb : (b, listOf #[] k) ∈ news) (hu : A.units + 64 < cLine) {r : Bool} (hr : (!vs.isEmpty) = r) (h : Q (.bool r) s) :
    wpAny (model prog w) A (compareOp .NotEq (.ref a) (.ref b)) Q E s := by
  subst hr
  cases vs with
  | nil => exact ne_dataH (reads_nil N ha) (reads_nil N hb) (by decide) (by decide) hu h
  | cons v vs => exact PySem.SeqAt.RcNeAt.lists_lengths (lst_of N ha) (lst_of (l := []) N hb) (by simp) (Nat.lt_of_le_of_lt (Nat.le_add_right _ 64) (by assumption)) prog w E Q h
theorem strs_yes : ∀ {ys : List Value}, (∀ y ∈ ys, ∃ t, y = .str "yes" t) → StrsAre ys (List.replicate ys.length "yes")
  | [], _ => .nil
  | y :: ys, h => by
    obtain ⟨t, rfl⟩ := h y (.head _)
    exact .cons _ _ (strs_yes fun y hy => h y (.tail _ hy))
theorem in_yes {ys : List Value} {u : Tok} {n : Nat} (N : News h₀ L s.heap news) (ha : (a, listOf ys.toArray n) ∈ news) (hy : ∀ y ∈ ys, ∃ t, y = .str "yes" t) (hne : ys ≠ []) (h : Q (.bool true) s) :
    wpAny (model prog w) A (compareOp .In (.str "yes" u) (.ref a)) Q E s := by
  refine in_list_strs (lst_of N ha) (by simpa using strs_yes hy) ?_
  have : (List.replicate ys.length ("yes" : Str)).any (· == "yes") = true := by
    cases ys with
    | nil => exact absurd rfl hne
    | cons y ys => rw [List.length_cons, List.replicate_succ, List.any_cons]; simp
  rw [this]; exact h
end
section
variable {prog : Program} {w : World} {A : Around} {E : Value → Shared → Prop} {s : Shared} {h₀ : Heap} {L : Addr} {m : Str → Option Value} {env : Env}
theorem compEnd_mono {s₁ : Shared} {I C D : Addr} {oI oC oD : Obj} {S : Led → Prop} {rest rest' : Value → Led → Prop} (h : ∀ y n, S n → rest y n → rest' y n) {y : Value} {s₂ : Shared} (x : CompEnd h₀ L m s₁ I oI C oC D oD S rest y s₂) : CompEnd h₀ L m s₁ I oI C oC D oD S rest' y s₂ := by
  obtain ⟨h', tk, n, a, b, c, d, e, f⟩ := x
  exact ⟨h', tk, n, a, b, c, d, e, h _ _ e f⟩
theorem cr_ind {elt : PySem.Expr} {ifs : List PySem.Expr} {xs : List (Str × Pos)} {scope : Scope} {cl : List (Str × Addr)} {fz : Led} {Fin : List Value → Led → Prop} (P : List Value → List Value → Led → Prop)
    (step : ∀ v r ys news, (∀ p ∈ fz, p ∈ news) → P (v :: r) ys news → ∃ (t : Addr) (vals : List Value) (n : Nat), v = .ref t ∧ (t, tupOf vals n) ∈ news ∧ vals.length = xs.length ∧ ∀ I oI C oC D m₂ h tk (E' : Value → Shared → Prop), NsObj oC m₂ → Bnd xs vals m₂ → Fr h₀ L h m →
      News h₀ L h ((I, oI) :: (C, oC) :: (D, lst ys) :: news) → Off3 I C D news → ((@Ne Nat I C) ∧ (@Ne Nat I D) ∧ (@Ne Nat C D)) →
      wpAny (model prog w) A (forIn ifs true fun c r => if r = true then do let ok ← isTrue c (compEnvC scope cl C env) (eval c (compEnvC scope cl C env)); pure (ForInStep.yield ok) else pure (ForInStep.yield r)) (fun ok s' => if ok = true then
        wpAny (model prog w) A (eval elt (compEnvC scope cl C env)) (CompEnd h₀ L m { s with heap := h, toks := tk } I oI C oC D (lst ys) (fun nw => ∀ p ∈ fz, p ∈ nw) (fun y news' => P r (ys ++ [y]) news')) E' s'
        else CompEnd h₀ L m { s with heap := h, toks := tk } I oI C oC D (lst ys) (fun nw => ∀ p ∈ fz, p ∈ nw) (fun _ news' => P r ys news') Value.none s') E' { s with heap := h, toks := tk })
    (done : ∀ ys news, (∀ p ∈ fz, p ∈ news) → P [] ys news → Fin ys news) : ∀ (vs ys : List Value) (news : Led), (∀ p ∈ fz, p ∈ news) → P vs ys news → CR prog w A h₀ L m env ifs elt xs scope cl s fz Fin vs ys news
  | [], ys, news, hS, hP => done ys news hS hP
  | v :: r, ys, news, hS, hP => by
    obtain ⟨t, vals, n, e1, e2, e3, k⟩ := step v r ys news hS hP
    refine ⟨t, vals, n, e1, e2, e3, fun I oI C oC D m₂ h tk E' a b c d e f => wpAny_mono (k I oI C oC D m₂ h tk E' a b c d e f) (fun ok s' x => ?_) fun _ _ e => e⟩
    cases ok with
    | true =>
      simp only [if_true] at x ⊢
      exact wpAny_mono x (fun y s'' z => compEnd_mono (fun y n hS q => cr_ind P step done r _ n hS q) z) fun _ _ e => e
    | false =>
      simp only [Bool.false_eq_true, if_false] at x ⊢
      exact compEnd_mono (fun y n hS q => cr_ind P step done r _ n hS q) x
end
theorem sub_hd {x : Addr × Obj} {l n : Led} (h : ∀ p ∈ x :: l, p ∈ n) : ∀ p ∈ l, p ∈ n := fun p hp => h p (.tail _ hp)
theorem sub_trans {a b c : Led} (k : ∀ p ∈ b, p ∈ c) (h : ∀ p ∈ a, p ∈ b) : ∀ p ∈ a, p ∈ c := fun p hp => k p (h p hp)
end Mine
end
section
open PySem PySem.W PyProof.Rows PySem.Calls PyProof.V PySem.Spec
set_option maxRecDepth 100000
namespace Mine
inductive IRows (w : World) (n : Led) : List Value → List Nat → Prop
  | nil : IRows w n [] []
  | cons {a k d o num t1 t2 t3 vs ns} : (a, tupOf [.str "impl" t1, .int (num : Nat) t2, .str (pathOf num) t3, .ref d] k) ∈ n → (d, o) ∈ n → SD w o [] → (d == sysModules) = false → IRows w n vs ns → IRows w n (.ref a :: vs) (num :: ns)
theorem IRows.mono {w : World} {n n' : Led} {vs : List Value} {ns : List Nat} (h : IRows w n vs ns) (hs : ∀ p ∈ n, p ∈ n') : IRows w n' vs ns := by
  induction h with
  | nil => exact .nil
  | cons a b c d _ ih => exact .cons (hs _ a) (hs _ b) c d ih
theorem IRows.app {w : World} {n : Led} {vs us : List Value} {ns ms : List Nat} (h : IRows w n vs ns) (k : IRows w n us ms) : IRows w n (vs ++ us) (ns ++ ms) := by
  induction h with
  | nil => exact k
  | cons a b c d _ ih => exact .cons a b c d ih
theorem IRows.length {w : World} {n : Led} {vs : List Value} {ns : List Nat} (h : IRows w n vs ns) : vs.length = ns.length := by
  induction h with
  | nil => rfl
  | cons _ _ _ _ _ ih => rw [List.length_cons, List.length_cons, ih]
theorem IRows.snoc {w : World} {n : Led} {vs : List Value} {ns : List Nat} {a d : Addr} {k num : Nat} {o : Obj} {t1 t2 t3 : Tok} (h : IRows w n vs ns) (hd : SD w o []) (hl : (d == sysModules) = false) :
    IRows w ((a, tupOf [.str "impl" t1, .int (num : Nat) t2, .str (pathOf num) t3, .ref d] k) :: (d, o) :: n) (vs ++ [.ref a]) (ns ++ [num]) :=
  (h.mono fun p hp => .tail _ (.tail _ hp)).app (.cons (.head _) (.tail _ (.head _)) hd hl .nil)
noncomputable def hitI (nm : Str) (recv : Ty) (i : Imp) : Bool := (nm == "go") && decide (i.trait = none ∧ selfOf recv i.kind = some i.told)
theorem KdIs.handed {v : Value} {k : Slf} (h : KdIs v k) : handedIn v = true := by cases h <;> rfl
theorem selfOf_clear {t u : Ty} {k : Slf} (h : selfOf t k = some u) (hc : t.clear = true) : u.clear = true := by
  cases k with
  | value => cases h; exact hc
  | non => cases h
  | rm b =>
    cases t with
    | ref m v =>
      unfold selfOf at h
      dsimp only at h
      split at h
      · cases h; exact hc
      · cases h
    | _ => cases h
theorem selfOf_dep {t u : Ty} {k : Slf} {n : Nat} (h : selfOf t k = some u) (hc : t.dep ≤ n) : u.dep ≤ n := by
  cases k with
  | value => cases h; exact hc
  | non => cases h
  | rm b =>
    cases t with
    | ref m v =>
      unfold selfOf at h
      dsimp only at h
      split at h
      · cases h; simp only [Ty.dep] at hc; exact Nat.le_of_succ_le hc
      · cases h
    | _ => cases h
theorem hitI_no {nm : Str} {b : Ty} {i : Imp} {is : List Imp} (h : hitI nm b i = false) : (i :: is).filter (hitI nm b) = is.filter (hitI nm b) := by rw [List.filter_cons, if_neg (by rw [h]; decide)]
theorem hitI_yes {nm : Str} {b : Ty} {i : Imp} {is : List Imp} (h : hitI nm b i = true) : (i :: is).filter (hitI nm b) = i :: is.filter (hitI nm b) := by rw [List.filter_cons, if_pos h]
end Mine
end
section
open PySem PySem.W PyProof.Rows PySem.Calls PyProof.V PySem.Spec
set_option maxRecDepth 100000
namespace Mine
inductive KIn (w : World) (fz : Led) (tes : List (Str × Value)) : List Value → List (Tr × Slf) → Prop
  | nil : KIn w fz tes [] []
  | cons {t tr k v vs trs} : valueAt tes tr.nm = some v → TrIn w fz v k → KIn w fz tes vs trs → KIn w fz tes (.str tr.nm t :: vs) ((tr, k) :: trs)
theorem perm_one {ss : List Str} (h : ss.Perm ["A"]) : ss = [("A" : Str)] := List.perm_singleton.mp h
theorem perm_two {ss : List Str} (h : ss.Perm ["A", "B"]) (hs : sortedS ss = true) : ss = [("A" : Str), ("B" : Str)] := by
  match ss, h.length_eq with
  | [a, b], _ =>
    have ha : a ∈ (["A", "B"] : List Str) := h.subset (.head _)
    have hb : b ∈ (["A", "B"] : List Str) := h.subset (.tail _ (.head _))
    have hd : ([a, b] : List Str).Nodup := (h.nodup_iff).mpr (by decide)
    have hne : a ≠ b := by
      have := List.nodup_cons.mp hd
      intro e; exact this.1 (by rw [e]; exact .head _)
    simp only [List.mem_cons, List.not_mem_nil, or_false] at ha hb
    rcases ha with rfl | rfl <;> rcases hb with rfl | rfl
    · exact absurd rfl hne
    · rfl
    · exact absurd hs (by decide)
    · exact absurd rfl hne
section
variable {prog : Program} {w : World} {A : Around} {E : Value → Shared → Prop} {s : Shared} {h₀ : Heap} {L D d : Addr} {m : Str → Option Value} {news : Led}
theorem lsort_strs {vs : List Value} {ss : List Str} {n : Nat} {Q : Value → Shared → Prop} (F : Fr h₀ L s.heap m) (N : News h₀ L s.heap ((D, listOf vs.toArray n) :: news)) (hD : ∀ p ∈ news, p.1 ≠ D) (hS : StrsAre vs ss) (h64 : vs.length < 64)
    (h : ∀ h' vs' ss' e, Fr h₀ L h' m → News h₀ L h' ((D, listOf vs'.toArray e) :: news) → StrsAre vs' ss' → ss'.Perm ss → sortedS ss' = true → Q .none { s with heap := h' }) :
    wpAny (model prog w) A (call (.builtin "list.sort") [.ref D]) Q E s := by
  have z := N _ (.head _)
  have ho : s.heap.get? D = some (seqObj "list" vs.toArray n) := z.1
  refine wpAny_call_entry PyProof.Rows.slot_list_sort ⟨_, z.1, rfl⟩ PyProof.Rows.entry_list_sort (list_sort_treeK (n := n) (vs := vs) strKind_oneLt ho hS.keysOf (fun v₁ v₂ rest e => keyKind_strs (by rw [← e]; exact hS)) h64 fun st' hp hs => ⟨.none, rfl, ?_⟩) (PyProof.Rows.args_list_sort _)
  obtain ⟨ss', h1, h2, h3⟩ := sorted_out_str hS hp hs
  obtain ⟨e, he⟩ := sortedHeap_at (out := (arrOf st').map (·.2)) ho
  have keep : ∀ b o, b ≠ D → s.heap.get? b = some o → (sortedHeap s.heap D vs ((arrOf st').map (·.2))).get? b = some o := fun b o hb e => (sortedHeap_old hb (Heap.lt_size e)).trans e
  refine h _ ((arrOf st').map (·.2)).toList ss' e ⟨F.ns.at' fun o e => keep L o z.2.1.symm e, fun b o e => keep b o (fun q => by rw [q, z.2.2] at e; cases e) (F.keep b o e), F.above⟩ (fun p hp => ?_) h1 h2 h3
  rcases List.mem_cons.mp hp with rfl | hp
  · refine ⟨?_, z.2⟩
    show _ = some (listOf (Array.map (fun x => x.snd) (arrOf st')).toList.toArray e)
    rw [Array.toArray_toList]; exact he
  · have y := N p (.tail _ hp)
    exact ⟨keep _ _ (hD p hp) y.1, y.2⟩
theorem len2 {α : Type} : ∀ {l : List α}, l.length = 2 → ∃ x y, l = [x, y]
  | [x, y], _ => ⟨x, y, rfl⟩
theorem sorted_trs {o : Obj} {tes : List (Str × Value)} {trs : List (Tr × Slf)} {fz : Led} {Q : Value → Shared → Prop} (hh : A.handled = none) (F : Fr h₀ L s.heap m) (N : News h₀ L s.heap news) (hm : (d, o) ∈ news) (hd : o.IsDictOf (PySem.strKind prog w) tes) (lo : (d == sysModules) = false) (hT : TrsIn w fz tes trs)
    (h : ∀ B h' tk vs e, Fr h₀ L h' m → News h₀ L h' ((B, listOf vs.toArray e) :: news) → AllLt B news → KIn w fz tes vs trs → Q (.ref B) { s with heap := h', toks := tk }) :
    wpAny (model prog w) A (call (.builtin "sorted") [.ref d]) Q E s := by
  obtain ⟨ep, hat⟩ := (kda_dict N hm hd).dictAt
  refine kdu_sorted (kdl_dict (knd := PySem.strKind prog w) (kvs := tes) (ep := ep) lo) hh F N hat (kdl_size (by cases hT <;> exact Nat.le_of_ble_eq_true rfl)) fun B h' tk vs F' N' l1 hl hv => ?_
  cases hT with
  | @one v k hv1 =>
      refine hide fun hG9 => ?_
      obtain ⟨x, rfl⟩ := List.length_eq_one_iff.mp hl
      obtain ⟨k1, x1, e1, e2⟩ := hv 0 x rfl
      cases e1
      obtain ⟨t, rfl⟩ := Value.isStrOf_shape e2
      refine hG9 ?_
      clear hG9
      refine lsort_strs F' N' (fun p hp => Nat.ne_of_lt (l1 p hp)) (.cons "A" t .nil) (Nat.le_of_ble_eq_true rfl) fun h2 vs2 ss2 e F2 N2 S2 P2 _ => ?_
      refine hide fun hG9 => ?_
      obtain rfl := perm_one P2
      cases S2 with
      | cons y u S2 =>
      cases S2
      exact hG9 (h B h2 tk _ e F2 N2 (PySem.W.allLt_of l1) (.cons (tr := .A) (v := v) (by rfl) hv1 .nil))
  | @two v k u j hv1 hv2 =>
      refine hide fun hG9 => ?_
      obtain ⟨x, y, rfl⟩ := len2 hl
      obtain ⟨k1, x1, e1, e2⟩ := hv 0 x rfl
      cases e1
      obtain ⟨t, rfl⟩ := Value.isStrOf_shape e2
      obtain ⟨k1, x1, e1, e2⟩ := hv 1 y rfl
      cases e1
      obtain ⟨t2, rfl⟩ := Value.isStrOf_shape e2
      refine hG9 ?_
      clear hG9
      refine lsort_strs F' N' (fun p hp => Nat.ne_of_lt (l1 p hp)) (.cons "A" t (.cons "B" t2 .nil)) (Nat.le_of_ble_eq_true rfl) fun h2 vs2 ss2 e F2 N2 S2 P2 S3 => ?_
      refine hide fun hG9 => ?_
      obtain rfl := perm_two P2 S3
      cases S2 with
      | cons y u S2 =>
      cases S2 with
      | cons y u S2 =>
      cases S2
      exact hG9 (h B h2 tk _ e F2 N2 (PySem.W.allLt_of l1) (.cons (tr := .A) (v := v) (by rfl) hv1 (.cons (tr := .B) (by rfl) hv2 .nil)))
end
inductive TRows (n : Led) : List Value → List Tr → Prop
  | nil : TRows n [] []
  | cons {a k t1 t2 t3 y} {tr : Tr} {vs trs} : (a, tupOf [.str "trait" t1, .str tr.nm t2, .str "go" t3, y] k) ∈ n → TRows n vs trs → TRows n (.ref a :: vs) (tr :: trs)
end Mine
end
section
open PySem PySem.W PyProof.Rows PySem.Calls PyProof.V PySem.Spec
set_option maxRecDepth 100000
namespace Mine
section
variable {prog : Program} {w : World} {A : Around} {E : Value → Shared → Prop} {s : Shared} {env : Env} {h₀ : Heap} {target : PySem.Expr} {body : List Stmt} {Q : Flow → Shared → Prop}
theorem allObj_imp : ∀ {ws : List (Addr × String)} {k k' : Led → Prop}, (∀ its, k its → k' its) → AllObj ws k → AllObj ws k'
  | [], _, _, h, x => h _ x
  | _ :: _, _, _, h, x => fun o hc => allObj_imp (fun its => h _) (x o hc)
theorem items_sub {ws : List (Addr × String)} {keep : Led} : ∀ {xs : List Itm} {m : Str → Option Value} {news news' : Led}, (∀ p ∈ news', p ∈ news) → ItemsRest prog w A E h₀ env target body Q s ws keep xs m news' → ItemsRest prog w A E h₀ env target body Q s ws keep xs m news
  | [], m, news, news', hs, h => fun hp tk F N => h hp tk F (newsSub N hs)
  | a :: r, m, news, news', hs, h => fun v hp tk hv F => allObj_imp (fun its k N => k (newsSub N fun p hp => (List.mem_append.mp hp).elim (fun q => List.mem_append_left _ q) fun q => List.mem_append_right _ (hs p q))) (h v hp tk hv F)
theorem app_ind2 {α : Type} {it : α → Itm} {I rl ax : Addr} {lo : Obj} {cls : String} {m₀ : Str → Option Value} {n₀ : Led} {nn : Led} {ep₀ : Nat} (nm : Str) (NS : List Str) (P : List α → List Value → Led → Prop) (items : List α)
    (_hm : m₀ nm = some (.ref rl)) (hN : ∀ p ∈ (rl, listOf #[] ep₀) :: (ax, lo) :: nn, p ∈ n₀) (hI : AllNe I ((rl, listOf #[] ep₀) :: (ax, lo) :: nn)) (hr : AllNe rl ((ax, lo) :: nn)) (h0 : P items [] ((ax, lo) :: nn))
    (step : ∀ a r vs ep n1 u v h tk o, P (a :: r) vs n1 → (∀ p ∈ nn, p ∈ n1) → AllNe I n1 → AllNe rl n1 → @Ne Nat rl I → (∀ p ∈ (ax, lo) :: nn, p ∈ n1) → (it a).Is v h → Fr h₀ env.locals h (over NS u m₀) → o.cls = .type cls → News h₀ env.locals h ((I, o) :: (rl, listOf vs.toArray ep) :: n1) →
      wpAny (model prog w) A (assign target env v) (fun _ s₂ => wpAny (model prog w) A (execs body env) (UnrPostW h₀ env.locals { s with heap := h, toks := tk } [(I, o)] (fun m' n' => SubL [(ax, lo)] n' ∧ RInv NS m₀ I rl ((ax, lo) :: nn) P r m' n') Q) E s₂) E { s with heap := h, toks := tk })
    (done : ∀ vs ep n1 u h tk, P [] vs n1 → (∀ p ∈ nn, p ∈ n1) → AllNe I n1 → AllNe rl n1 → Fr h₀ env.locals h (over NS u m₀) → News h₀ env.locals h ((rl, listOf vs.toArray ep) :: n1) → Q .next { s with heap := h, toks := tk }) :
    ItemsRest prog w A E h₀ env target body Q s [(I, cls)] [(ax, lo)] (items.map it) m₀ n₀ := by
  refine items_sub hN (app_ind NS P items hI hr h0 (fun a r vs ep n1 u v h tk o hP hn a1 a2 a3 hv F hc N => ?_) fun vs ep n1 u h tk hP hn a1 a2 F N => done vs ep n1 u h tk hP (fun p hp => hn p (.tail _ hp)) a1 a2 F N)
  exact step a r vs ep n1 u v h tk o hP (fun p hp => hn p (.tail _ hp)) a1 a2 a3 hn hv F hc N
end
theorem TRows.mono {n n' : Led} {vs : List Value} {ts : List Tr} (h : TRows n vs ts) (hs : ∀ p ∈ n, p ∈ n') : TRows n' vs ts := by
  induction h with
  | nil => exact .nil
  | cons a _ ih => exact .cons (hs _ a) ih
theorem TRows.app {n : Led} {vs us : List Value} {ts rs : List Tr} (h : TRows n vs ts) (k : TRows n us rs) : TRows n (vs ++ us) (ts ++ rs) := by
  induction h with
  | nil => exact k
  | cons a _ ih => exact .cons a ih
theorem TRows.snoc {n : Led} {vs : List Value} {ts : List Tr} {tr : Tr} {a : Addr} {k : Nat} {t1 t2 t3 : Tok} {y : Value} (h : TRows n vs ts) :
    TRows ((a, tupOf [.str "trait" t1, .str tr.nm t2, .str "go" t3, y] k) :: n) (vs ++ [.ref a]) (ts ++ [tr]) :=
  (h.mono fun p hp => .tail _ hp).app (.cons (.head _) .nil)
theorem TRows.length {n : Led} {vs : List Value} {ts : List Tr} (h : TRows n vs ts) : vs.length = ts.length := by
  induction h with
  | nil => rfl
  | cons _ _ ih => rw [List.length_cons, List.length_cons, ih]
theorem unrEndB {h₀ : Heap} {L : Addr} {s₁ : Shared} {I rl D : Addr} {o od : Obj} {vs : List Value} {ep : Nat} {n₀ n1 all keep : Led} {α : Type} {P : List α → List Value → Led → Prop} {r : List α} {NS : List Str} {m₀ m' : Str → Option Value} {h' : Heap} {tk : Nat}
    (F : Fr h₀ L h' m') (N : News h₀ L h' ((D, od) :: all)) (hI : (I, o) ∈ all) (hl : (rl, listOf (vs.toArray.push (Value.ref D)) ep) ∈ all) (hs : ∀ p ∈ n1, p ∈ all)
    (ha : Agree NS m₀ m') (hn : ∀ p ∈ n₀, p ∈ n1) (iD : @Ne Nat D I) (iN : AllNe I n1) (lD : @Ne Nat D rl) (lN : AllNe rl n1) (hne : @Ne Nat rl I)
    (kp : ∀ n, (∀ p ∈ n1, p ∈ n) → SubL keep n) (hP : P r (vs ++ [Value.ref D]) ((D, od) :: n1)) :
    UnrEndW h₀ L s₁ [(I, o)] (fun m' n' => SubL keep n' ∧ RInv NS m₀ I rl n₀ P r m' n') { s₁ with heap := h', toks := tk } := by
  rw [List.push_toArray] at hl
  refine unrEnd1 (news := (rl, listOf (vs ++ [Value.ref D]).toArray ep) :: (D, od) :: n1) F N ?_ ⟨hne, iD, iN⟩ ⟨kp _ fun p hp => .tail _ (.tail _ hp), RInv.intro ha (fun p hp => .tail _ (hn p hp)) ⟨iD, iN⟩ ⟨lD, lN⟩ hP⟩
  exact List.forall_mem_cons.mpr ⟨.tail _ hI, List.forall_mem_cons.mpr ⟨.tail _ hl, List.forall_mem_cons.mpr ⟨.head _, fun q hq => .tail _ (hs q hq)⟩⟩⟩
theorem KdIs.split {v : Value} {k : Slf} (h : KdIs v k) : (k = .non ∧ v = .none) ∨ ∃ p t, v = .str p t := by
  cases h
  · exact .inr ⟨_, _, rfl⟩
  · exact .inr ⟨_, _, rfl⟩
  · exact .inr ⟨_, _, rfl⟩
  · exact .inl ⟨rfl, rfl⟩
noncomputable def hitT (nm : Str) (imps : List Imp) (bs : List Tr) (recv : Ty) (p : Tr × Slf) : Bool := (nm == "go") && (match selfOf recv p.2 with | none => false | some u => decide (u = .par ∧ p.1 ∈ bs) || imps.any (hitC p.1 u))
theorem filt_no {α : Type} {f : α → Bool} {x : α} {l : List α} (h : f x = false) : (x :: l).filter f = l.filter f := by rw [List.filter_cons, if_neg (by rw [h]; decide)]
theorem filt_yes {α : Type} {f : α → Bool} {x : α} {l : List α} (h : f x = true) : (x :: l).filter f = x :: l.filter f := by rw [List.filter_cons, if_pos h]
theorem TrsIn.small {w : World} {fz : Led} {tes : List (Str × Value)} {trs : List (Tr × Slf)} (h : TrsIn w fz tes trs) : trs.length ≤ 8 := by
  cases h <;> exact Nat.le_of_ble_eq_true rfl
theorem hitT_none {nm : Str} {imps : List Imp} {bs : List Tr} {b : Ty} {tr : Tr} {k : Slf} (h : selfOf b k = none) : hitT nm imps bs b (tr, k) = false := by
  unfold hitT; dsimp only; rw [h]; simp
theorem hitT_come {imps : List Imp} {bs : List Tr} {b : Ty} {p : Tr × Slf} : hitT "come" imps bs b p = false := by
  unfold hitT; rw [show (("come" : Str) == "go") = false from by decide]; rfl
theorem hitT_some {imps : List Imp} {bs : List Tr} {b u : Ty} {tr : Tr} {k : Slf} (h : selfOf b k = some u) (ha : (decide (u = .par ∧ tr ∈ bs) || imps.any (hitC tr u)) = false) : hitT "go" imps bs b (tr, k) = false := by
  unfold hitT; dsimp only; rw [h]; dsimp only; rw [ha, Bool.and_false]
theorem hitT_yes {imps : List Imp} {bs : List Tr} {b u : Ty} {tr : Tr} {k : Slf} (h : selfOf b k = some u) (ha : (decide (u = .par ∧ tr ∈ bs) || imps.any (hitC tr u)) = true) : hitT "go" imps bs b (tr, k) = true := by
  unfold hitT; dsimp only; rw [h]; dsimp only; rw [ha, Bool.and_true]; decide
end Mine
end
section
open PySem PySem.W PyProof.Rows PySem.Calls PyProof.V PySem.Spec
set_option maxRecDepth 100000
namespace Mine
structure NewX (h h' : Heap) (e : Addr) (cls : Value) : Prop where
  keeps : ∀ b o, h.get? b = some o → h'.get? b = some o
  new : h.get? e = none
  there : ∃ dd vs sl a0, h'.get? e = some { cls := cls, dict := dd, data := .fields vs, slots := sl } ∧ vs[0]? = some a0 ∧ vs[1]? = some .none
theorem wpAny_less {α : Type} {M : Model} {A : Around} {t : Sem α} {Q : α → Shared → Prop} {E : Value → Shared → Prop} {s : Shared} {d u : Nat}
    (hd : A.depth ≤ d) (hu : A.units ≤ u) (h : wpAny M { A with depth := d, units := u } t Q E s) : wpAny M A t Q E s := fun Γ p hΓ =>
  h Γ p ⟨hΓ.1, Nat.le_trans hΓ.2.1 hd, hΓ.2.2.1, hΓ.2.2.2.1, Nat.le_trans hΓ.2.2.2.2 hu⟩
section
variable {M : Model} {A : Around} {E : Value → Shared → Prop} {s' : Shared} {base g h : Heap} {outer : List Env} {L a e : Addr} {m : Str → Option Value} {name : Str} {scope : Scope} {cd cls : Value} {Q : Unit → Shared → Prop} {news : Led}
theorem leave_newX (K : Below A base outer g) (hx : NewX h s'.heap e cls) (F : Fr g L h m) (N : News g L h news)
    (hQ : ∀ h', RaisedSN base g outer e cls news h' → g.UpToSlots h' → Q () { s' with heap := h' }) (hk : scope.kind = .function) :
    wpAny M (A.deeper (envOf name scope L a cd)) (leaving (envOf name scope L a cd) (.ref e)) Q E s' := by
  have K' := K.push (name := name) (a := a) (cd := cd) F hk
  have hin : ∀ env ∈ (envOf name scope L a cd :: outer), ∀ b, env.frame = some b → b ∈ (envOf name scope L a cd :: outer).filterMap (·.frame) := fun env he b hb => List.mem_filterMap.mpr ⟨env, he, hb⟩
  have st : base.StaysIn (hideAll h ((envOf name scope L a cd :: outer).filterMap (·.frame))) := fun b o q => hideAll_get _ (K'.stays b o q) fun hm => by
    rw [(K'.frames.mem hm).1] at q; cases q
  have sg : ∀ b o, g.get? b = some o → b ∉ outer.filterMap (·.frame) → (hideAll h ((envOf name scope L a cd :: outer).filterMap (·.frame))).get? b = some o := fun b o q nm => hideAll_get _ (F.keep b o q) fun hm => by
    rcases kts_mem hm with z | z
    · rw [z, kts_self F] at q
      cases q
    · exact nm z
  have hl : ∀ q ∈ news, (hideAll h ((envOf name scope L a cd :: outer).filterMap (·.frame))).get? q.1 = some q.2 ∧ g.get? q.1 = none ∧ base.get? q.1 = none := fun q hq => by
    refine ⟨hideAll_get _ (N q hq).1 fun hm => ?_, (N q hq).2.2, fresh_of_stays K.stays (N q hq).2.2⟩
    refine hide fun hG9 => ?_
    obtain ⟨env, he, hf⟩ := List.mem_filterMap.mp hm
    refine hG9 ?_
    rcases List.mem_cons.mp he with rfl | he
    · exact (N q hq).2.1 (Option.some.inj hf).symm
    · refine hide fun hG9 => ?_
      obtain ⟨o, ho, _⟩ := (K.frames.mem (List.mem_filterMap.mpr ⟨env, he, hf⟩)).2
      refine hG9 ?_
      rw [(N q hq).2.2] at ho; cases ho
  refine hide fun hG9 => ?_
  obtain ⟨dd, vs, sl, a0, he, h0, h1⟩ := hx.there
  refine hG9 ?_
  have hen : (hideAll h ((envOf name scope L a cd :: outer).filterMap (·.frame))).get? e = none := by
    cases q : (hideAll h ((envOf name scope L a cd :: outer).filterMap (·.frame))).get? e with
    | none => rfl
    | some o => have := of_hideAll _ q; rw [hx.new] at this; cases this
  refine wpAny_leaving_firstW (a0 := a0) K'.stack ((funFrames_hide K'.frames hin).of_keeps fun b o hb _ => ⟨o, hx.keeps b o hb, rfl⟩) rfl he (fun b o hb => hx.keeps b o (of_hideAll _ hb)) hen rfl h1 h0 fun h' hL => ?_
  refine hide fun hG9 => ?_
  obtain ⟨k1, ⟨_, _, k2⟩, k3, k4⟩ := hL
  refine hG9 ?_
  have R : RaisedSN base g outer e cls news h' := ⟨_, a0, st, sg, hl, k1, hen, k2, k3⟩
  exact hQ h' R (((Heap.UpToSlots.of_keeps F.keep).trans (Heap.UpToSlots.of_keeps hx.keeps)).trans k4)
end
section
variable {M : Model} {A : Around} {E : Value → Shared → Prop} {env : Env} {KF : Frag} {C : Addr} {s : Shared}
noncomputable def MadeX (KF : Frag) (C : Addr) (E : Value → Shared → Prop) (v : Value) (s₁ : Shared) : Prop :=
  ∃ e dd vs sl, v = .ref e ∧ KF.In s₁.heap ∧ s₁.heap.get? e = some { cls := .ref C, dict := dd, data := .fields vs, slots := sl } ∧ vs[1]? = some .none ∧ E (.ref e) s₁
theorem raiseStmt_x {x : Sem Value} {Q : Flow → Shared → Prop} (q : ktsIn KF C "BaseException" = true) (hh : A.handled = none) (h : wpAny M A x (MadeX KF C E) E s) : wpAny M A (raiseStmt env (some x) none) Q E s := by
  unfold raiseStmt
  refine wpAny_bind (wpAny_mono h (fun v s₁ h₁ => ?_) fun _ _ x => x)
  refine hide fun hG9 => ?_
  obtain ⟨e, dd, vs, sl, rfl, X, he, h1, hE⟩ := h₁
  refine hG9 ?_
  refine hide fun hG9 => ?_
  obtain ⟨nm, q', N, bs, bm, hdct, sn, sub, ab, col, dd', k0, k1, k2, k3, k5, newId, hC, hbase, hbT⟩ := kts_cls X q
  refine hG9 ?_
  have hcB : (Value.ref C :: bm).contains (.type "BaseException") = true := by rw [List.contains_cons, hbase, Bool.or_true]
  refine hide fun hG9 => ?_
  obtain ⟨hp, g, d, tk, os⟩ := s₁
  refine hG9 ?_
  repeat (first | with_reducible refine wpAny_loadPart_at he ?_ | with_reducible refine wpAny_loadPart_at hC ?_ | (with_reducible refine wpAny_isSubtype_exc hC ?_; rw [hcB]) | wp_step)
  rw [h1]
  refine wpAny_pure ?_
  rw [if_neg (by decide)]
  exact wpAny_pure (wpAny_raiseNew_none hh hE)
theorem Raise_x {c : PySem.Expr} {pos : Pos} {Q : Flow → Shared → Prop} {g : Heap} (_X : KF.In g) (q : ktsIn KF C "BaseException" = true) (hh : A.handled = none) (h : wpAny M A (eval c env) (MadeX KF C E) E s) :
    wpAny M A (exec (.Raise (some c) none pos) env) Q E s := by
  rw [arm_exec_Raise]
  refine wpAny_bind (wpAny_standAt (raiseStmt_x (KF := KF) (C := C) q hh ?_))
  exact wpAny_bind (wpAny_mono h (fun v s₁ h₁ => wpAny_bind (wpAny_standAt (wpAny_pure h₁))) fun _ _ x => x)
end
noncomputable def CallsX (w : World) (loose : List Str) (mean : ExcName → Option Value) (mg mb : Str → Option Value) (ℓ : Nat) (f : Addr) (vs : List Value) (news : Led) (Out : Led → Value → Prop) (X : Value → Prop) : Prop :=
  ∀ (dp un : Nat) (gd : Option (List Code)) (cn : Str) (cs : Scope) (a : Addr) (ccd : Value) (cl : List (Str × Addr)) (outer : List Env) (A₀ : Around) (base h₀ : Heap) (L : Addr) (m : Str → Option Value) (s : Shared) (Q E : Value → Shared → Prop),
    Below A₀ base outer h₀ → Fr h₀ L s.heap m → (Mine.hd.heap_1 w.params).In h₀ → News h₀ L s.heap news → Top Mine.vw loose mean mg mb h₀ → cs.kind = .function → dp + 4 * ℓ < 400 → un + 20 * ℓ < 2000 →
    (∀ r news' h' tk', Fr h₀ L h' m → News h₀ L h' news' → Out news' r → Q r { s with heap := h', toks := tk' }) →
    (∀ g e cls h' tk', X cls → Fr h₀ L g m → RaisedSN base g (envX cn cs L a ccd cl :: outer) e cls news h' → g.UpToSlots h' → E (.ref e) { s with heap := h', toks := tk' }) →
    wpAny (model Challenge.rw_nu0383_01.row.prog w) (ktrTop dp un gd cn cs L a ccd cl outer) (call (.ref f) vs) Q E s
theorem CallsX.of {w : World} {loose : List Str} {mean : ExcName → Option Value} {mg mb : Str → Option Value} {ℓ : Nat} {f : Addr} {vs : List Value} {news : Led} {Out : Led → Value → Prop} {X : Value → Prop}
  (H : ∀ (dp un : Nat) (gd : Option (List Code)) (cn : Str) (cs : Scope) (a : Addr) (ccd : Value) (cl : List (Str × Addr)) (outer : List Env) (A₀ : Around) (base h₀ : Heap) (L : Addr) (m : Str → Option Value) (sh : Heap) (sg : Array GenState) (sd : Drawn) (sk : Nat) (so : OsState) (Q E : Value → Shared → Prop),
    Below A₀ base outer h₀ → Fr h₀ L sh m → (Mine.hd.heap_1 w.params).In h₀ → News h₀ L sh news → Top Mine.vw loose mean mg mb h₀ → cs.kind = .function → dp + 4 * ℓ < 400 → un + 20 * ℓ < 2000 →
    (∀ r news' h' tk', Fr h₀ L h' m → News h₀ L h' news' → Out news' r → Q r ⟨h', sg, sd, tk', so⟩) →
    (∀ g e cls h' tk', X cls → Fr h₀ L g m → RaisedSN base g (envX cn cs L a ccd cl :: outer) e cls news h' → g.UpToSlots h' → E (.ref e) ⟨h', sg, sd, tk', so⟩) →
    wpAny (model Challenge.rw_nu0383_01.row.prog w) (ktrTop dp un gd cn cs L a ccd cl outer) (call (.ref f) vs) Q E ⟨sh, sg, sd, sk, so⟩) : CallsX w loose mean mg mb ℓ f vs news Out X := by
  intro dp un gd cn cs a ccd cl outer A₀ base h₀ L m s Q E
  cases s
  exact H dp un gd cn cs a ccd cl outer A₀ base h₀ L m _ _ _ _ _ Q E
theorem CallsX.use {w : World} {loose : List Str} {mean : ExcName → Option Value} {mg mb : Str → Option Value} {ℓ : Nat} {f : Addr} {vs : List Value} {news : Led} {Out : Led → Value → Prop} {X : Value → Prop}
    {dp un : Nat} {gd : Option (List Code)} {cn : Str} {cs : Scope} {a : Addr} {ccd : Value} {cl : List (Str × Addr)} {outer : List Env} {A₀ : Around} {base h₀ : Heap} {L : Addr} {m : Str → Option Value} {s : Shared} {Q E : Value → Shared → Prop}
    (B : Below A₀ base outer h₀) (F : Fr h₀ L s.heap m) (XX : (Mine.hd.heap_1 w.params).In h₀) (N : News h₀ L s.heap news) (T : Top Mine.vw loose mean mg mb h₀) (hk : cs.kind = .function) (C : CallsX w loose mean mg mb ℓ f vs news Out X) (hd : dp + 4 * ℓ < 400) (hu : un + 20 * ℓ < 2000)
    (k : ∀ r news' h' tk', Fr h₀ L h' m → News h₀ L h' news' → Out news' r → Q r { s with heap := h', toks := tk' })
    (kx : ∀ g e cls h' tk', X cls → Fr h₀ L g m → RaisedSN base g (envX cn cs L a ccd cl :: outer) e cls news h' → g.UpToSlots h' → E (.ref e) { s with heap := h', toks := tk' }) :
    wpAny (model Challenge.rw_nu0383_01.row.prog w) (ktrTop dp un gd cn cs L a ccd cl outer) (call (.ref f) vs) Q E s := C _ _ _ _ _ _ _ _ _ _ _ _ _ _ _ _ _ B F XX N T hk hd hu k kx
theorem RaisedSN.less {base G : Heap} {l : List Env} {e : Addr} {cls : Value} {news news' : Led} {h : Heap} (R : RaisedSN base G l e cls news h) (hs : ∀ p ∈ news', p ∈ news) : RaisedSN base G l e cls news' h := by
  refine hide fun hG9 => ?_
  obtain ⟨B, a0, hB, hBG, hl, hfl⟩ := R
  refine hG9 ?_
  exact ⟨B, a0, hB, hBG, fun q hq => hl q (hs q hq), hfl⟩
theorem NewX.made {KF : Frag} {C : Addr} {E : Value → Shared → Prop} {s s₁ : Shared} {e : Addr} (x : NewX s.heap s₁.heap e (.ref C)) (X : KF.In s.heap) (h : E (.ref e) s₁) : MadeX KF C E (.ref e) s₁ := by
  refine hide fun hG9 => ?_
  obtain ⟨dd, vs, sl, a0, he, h0, h1⟩ := x.there
  refine hG9 ?_
  exact ⟨e, dd, vs, sl, rfl, X.keeps x.keeps, he, h1, h⟩
end Mine
end
section
open PySem PySem.W PyProof.Rows PySem.Calls PyProof.V PySem.Spec
set_option maxRecDepth 100000
namespace Mine
section
variable {prog : Program} {w : World} {A : Around} {E : Value → Shared → Prop} {s : Shared} {h₀ : Heap} {L a : Addr} {news : Led}
theorem lst_item {value slice : PySem.Expr} {l : List Value} {k : Int} {u : Tok} {j n : Nat} {x : Value} {Q : Value → Shared → Prop} (N : News h₀ L s.heap news) (hm : (a, listOf l.toArray n) ∈ news)
    (h0 : 0 ≤ k) (h1 : k < 2 ^ 63) (hj : k.toNat = j) (hx : l[j]? = some x) (h : Q x s)
    (hs : subscripted slice false (.ref a) (.int k u) = operate [.ref a, .int k u] (getItem (.ref a) (.int k u))) :
    wpAny (model prog w) A (subscriptTail value slice (.ref a) (.int k u)) Q E s :=
  tail_any (lst_of N hm).typeIs slot_list_getitem.lookup (wpAny_getItem_list (lst_of N hm) h0 h1 (x := x) (by subst hj; simpa using hx) h) hs
theorem len_lst {l : List Value} {n : Nat} {Q : Value → Shared → Prop} (N : News h₀ L s.heap news) (hm : (a, listOf l.toArray n) ∈ news) (hl : l.length ≤ 1024) (h : ∀ t tk, Q (.int l.length t) { s with toks := tk }) :
    wpAny (model prog w) A (call (.builtin "len") [.ref a]) Q E s :=
  call_len_list (lst_of N hm) (by simp only [List.size_toArray]; exact Int.lt_of_le_of_lt (Int.ofNat_le.mpr (by assumption)) (by decide)) (by simpa using h _ _)
end
theorem mem_via2 {fz l : Led} {q : Addr × Obj} (m : q ∈ fz) (h : ∀ p ∈ fz, p ∈ l) : q ∈ l := h q m
theorem unrEndTop {h₀ : Heap} {L : Addr} {s₁ : Shared} {I : Addr} {o : Obj} {x : Addr × Obj} {news : Led} {rest : (Str → Option Value) → Led → Prop} {h' : Heap} {tk : Nat} {m' : Str → Option Value}
    (F : Fr h₀ L h' m') (N : News h₀ L h' (x :: (I, o) :: news)) (off : AllNe I news) (r : rest m' news) : UnrEndW h₀ L s₁ [(I, o)] rest { s₁ with heap := h', toks := tk } :=
  unrEnd1 F N (fun q hq => .tail _ hq) off r
inductive At where
  | fault | no
  | imp (n : Nat)
  | tr (t : Tr)
  deriving DecidableEq
noncomputable def atOf : List Nat → List Tr → At
  | [n], _ => .imp n
  | _ :: _ :: _, _ => .fault
  | [], [] => .no
  | [], [t] => .tr t
  | [], _ :: _ :: _ => .fault
inductive RowIs (w : World) (n : Led) : Value → At → Prop
  | no : RowIs w n .none .no
  | imp {a k d o num t1 t2 t3} : (a, tupOf [.str "impl" t1, .int (num : Nat) t2, .str (pathOf num) t3, .ref d] k) ∈ n → (d, o) ∈ n → SD w o [] → (d == sysModules) = false → RowIs w n (.ref a) (.imp num)
  | tr {a k t1 t2 t3 y} {t : Tr} : (a, tupOf [.str "trait" t1, .str t.nm t2, .str "go" t3, y] k) ∈ n → RowIs w n (.ref a) (.tr t)
theorem RowIs.mono {w : World} {n n' : Led} {v : Value} {x : At} (h : RowIs w n v x) (hs : ∀ p ∈ n, p ∈ n') : RowIs w n' v x := by
  cases h with
  | no => exact .no
  | imp a b c d => exact .imp (hs _ a) (hs _ b) c d
  | tr a => exact .tr (hs _ a)
theorem IRows.head1 {w : World} {n : Led} {x : Value} {ns : List Nat} (h : IRows w n [x] ns) : ∃ a, x = .ref a ∧ ∀ ts, RowIs w n (.ref a) (atOf ns ts) := by
  cases h with
  | cons a b c d e => cases e; exact ⟨_, rfl, fun _ => .imp a b c d⟩
theorem TRows.head1 {w : World} {n : Led} {x : Value} {ts : List Tr} (h : TRows n [x] ts) : ∃ a, x = .ref a ∧ RowIs w n (.ref a) (atOf [] ts) := by
  cases h with
  | cons a e => cases e; exact ⟨_, rfl, .tr a⟩
theorem IRows.many {w : World} {n : Led} {x y : Value} {r : List Value} {ns : List Nat} {ts : List Tr} (h : IRows w n (x :: y :: r) ns) : atOf ns ts = .fault := by
  cases h with
  | cons _ _ _ _ e => cases e with
    | cons => rfl
theorem TRows.many {n : Led} {x y : Value} {r : List Value} {ts : List Tr} (h : TRows n (x :: y :: r) ts) : atOf [] ts = .fault := by
  cases h with
  | cons _ e => cases e with
    | cons => rfl
theorem IRows.none {w : World} {n : Led} {ns : List Nat} (h : IRows w n [] ns) : ns = [] := by cases h; rfl
theorem TRows.none {n : Led} {ts : List Tr} (h : TRows n [] ts) : ts = [] := by cases h; rfl
theorem TRows.small {n : Led} {vs : List Value} {f : Tr × Slf → Bool} {w : World} {fz : Led} {tes : List (Str × Value)} {trs : List (Tr × Slf)} (h : TRows n vs ((trs.filter f).map (·.1))) (k : TrsIn w fz tes trs) : vs.length ≤ 8 := by
  rw [h.length, List.length_map]; exact Nat.le_trans (List.length_filter_le ..) k.small
theorem ImpsIn.length {w : World} {fz : Led} {es : List (Str × Value)} {vs : List Value} {imps : List Imp} (h : ImpsIn w fz es vs imps) : vs.length = imps.length := by
  induction h with
  | nil => rfl
  | cons _ _ ih => rw [List.length_cons, List.length_cons, ih]
theorem IRows.small {n : Led} {vs us : List Value} {f : Imp → Bool} {w : World} {fz : Led} {es : List (Str × Value)} {imps : List Imp} (h : IRows w n vs ((imps.filter f).map (·.num))) (k : ImpsIn w fz es us imps) (hu : us.length ≤ 8) : vs.length ≤ 8 := by
  rw [h.length, List.length_map]; exact Nat.le_trans (List.length_filter_le ..) (k.length ▸ hu)
theorem IRows.split {w : World} {n : Led} {vs : List Value} {ns : List Nat} (h : IRows w n vs ns) (hl : vs.length ≤ 8) : (vs = [] ∧ ns = []) ∨ (∃ a, vs = [.ref a] ∧ ∀ ts, RowIs w n (.ref a) (atOf ns ts)) ∨ (∃ x y r, vs = x :: y :: r ∧ r.length ≤ 8 ∧ ∀ ts, atOf ns ts = .fault) := by
  rcases vs with _ | ⟨x, _ | ⟨y, r⟩⟩
  · exact .inl ⟨rfl, h.none⟩
  · obtain ⟨a, rfl, k⟩ := h.head1
    exact .inr (.inl ⟨a, rfl, k⟩)
  · exact .inr (.inr ⟨x, y, r, rfl, by simp only [List.length_cons] at hl; exact Nat.le_of_succ_le (Nat.le_of_succ_le hl), fun ts => h.many⟩)
theorem TRows.split {w : World} {n : Led} {vs : List Value} {ts : List Tr} (h : TRows n vs ts) (hl : vs.length ≤ 8) : (vs = [] ∧ ts = []) ∨ (∃ a, vs = [.ref a] ∧ RowIs w n (.ref a) (atOf [] ts)) ∨ (∃ x y r, vs = x :: y :: r ∧ r.length ≤ 8 ∧ atOf [] ts = .fault) := by
  rcases vs with _ | ⟨x, _ | ⟨y, r⟩⟩
  · exact .inl ⟨rfl, h.none⟩
  · obtain ⟨a, rfl, k⟩ := h.head1 (w := w)
    exact .inr (.inl ⟨a, rfl, k⟩)
  · exact .inr (.inr ⟨x, y, r, rfl, by simp only [List.length_cons] at hl; exact Nat.le_of_succ_le (Nat.le_of_succ_le hl), h.many⟩)
noncomputable def atI (nm : Str) (imps : List Imp) (trs : List (Tr × Slf)) (bs : List Tr) (b : Ty) : At := atOf ((imps.filter (hitI nm b)).map (·.num)) ((trs.filter (hitT nm imps bs b)).map (·.1))
end Mine
end
section
open PySem PySem.W PyProof.Rows PySem.Calls PyProof.V PySem.Spec
set_option maxRecDepth 100000
namespace Mine
noncomputable def Ty.chain : Ty → List Ty
  | .ref m t => .ref m t :: t.chain
  | .box t => .box t :: t.chain
  | t => [t]
inductive TysIn (n : Led) : List Value → List Ty → Prop
  | nil : TysIn n [] []
  | cons {v t vs ts} : TyIn n v t → TysIn n vs ts → TysIn n (v :: vs) (t :: ts)
theorem TysIn.length {n : Led} {vs : List Value} {ts : List Ty} (h : TysIn n vs ts) : vs.length = ts.length := by
  induction h with
  | nil => rfl
  | cons _ _ ih => rw [List.length_cons, List.length_cons, ih]
theorem TysIn.mono {n n' : Led} {vs : List Value} {ts : List Ty} (h : TysIn n vs ts) (hs : ∀ p ∈ n, p ∈ n') : TysIn n' vs ts := by
  induction h with
  | nil => exact .nil
  | cons a _ ih => exact .cons (a.mono hs) ih
inductive TySp (n : Led) (t : Ty) : Value → Prop
  | ref {a k t1 m x u} : t = .ref m u → (a, tupOf [.str "ref" t1, .none, .bool m, x] k) ∈ n → TyIn n x u → TySp n t (.ref a)
  | box {a k t1 x u} : t = .box u → (a, tupOf [.str "box" t1, x] k) ∈ n → TyIn n x u → TySp n t (.ref a)
  | flat {a k t1 r} : t.chain = [t] → (a, tupOf (.str t.kd t1 :: r) k) ∈ n → ((["ref", "box"] : List Str).any fun x => x == t.kd) = false → TySp n t (.ref a)
theorem TyIn.split {n : Led} {v : Value} {t : Ty} (h : TyIn n v t) : TySp n t v := by
  cases h
  case ref => exact .ref rfl (by assumption) (by assumption)
  case box => exact .box rfl (by assumption) (by assumption)
  all_goals exact .flat rfl (by assumption) (by decide)
theorem TysIn.ref {n : Led} {v : Value} {m : Bool} {u : Ty} {vs : List Value} (h : TyIn n v (.ref m u)) (k : TysIn n vs u.chain) : TysIn n (v :: vs) (Ty.ref m u).chain := .cons h k
theorem TysIn.box {n : Led} {v : Value} {u : Ty} {vs : List Value} (h : TyIn n v (.box u)) (k : TysIn n vs u.chain) : TysIn n (v :: vs) (Ty.box u).chain := .cons h k
theorem TysIn.last {n : Led} {v : Value} {u : Ty} (h : TyIn n v u) (e : u.chain = [u]) : TysIn n [v] u.chain := by rw [e]; exact .cons h .nil
end Mine
end
section
open PySem PySem.W PyProof.Rows PyProof.Rows.LCg PySem.Calls PyProof.V PySem.Spec
set_option maxRecDepth 100000
namespace Mine
section
variable {prog : Program} {w : World} {A : Around} {E : Value → Shared → Prop} {s : Shared} {env : Env} {h₀ : Heap} {body : List Stmt} {Q : Flow → Shared → Prop}
noncomputable def rngItems (n : Nat) : List Itm := (List.range n).map fun i => .tok fun t => .int (i : Nat) t
theorem rng_for {x : Str} {np : Pos} {n : Nat} {u : Tok} {m₀ : Str → Option Value} {news : Led} (hh : A.handled = none) (F : Fr h₀ env.locals s.heap m₀) (N : News h₀ env.locals s.heap news) (hn : n ≤ 1000)
    (rest : ∀ I : Addr, (∀ p ∈ news, p.1 < I) → ItemsRest prog w A E h₀ env (.Name x np) body Q s [(I, "range_iterator")] [] (rngItems n) m₀ news) :
    wpAny (model prog w) A (call (.type "range") [.int (n : Nat) u]) (fun xv s₁ => wpAny (model prog w) A (pyIter xv) (fun it s₂ => TurnsAt prog w A h₀ env (.Name x np) body Q E it s₂) E s₁) E s := by
  refine call_range_1 ?_
  have hsm : Builtin.Range.small 0 (n : Nat) 1 = true := small_one (by decide) (by decide) (Int.le_trans (by decide) (Int.natCast_nonneg n)) (Int.lt_of_le_of_lt (Int.ofNat_le.mpr (by assumption)) (by decide))
  have hsz : Builtin.Range.rangeSize 0 ((n : Nat) : Int) 1 = ((n : Nat) : Int) := by
    rw [rangeSize_one]; split <;> omega
  refine wpAny_pyIter_range (t := s.toks) (u := u) (v := s.toks + 1) (Heap.get?_push_size _ rfl) hsm ?_
  generalize hH : s.heap.push { cls := .type "range", data := .fields #[.int 0 s.toks, .int (n : Nat) u, .int 1 (s.toks + 1)] } = H
  have kp : ∀ b o, s.heap.get? b = some o → H.get? b = some o := fun b o e => by rw [← hH]; exact Heap.get?_push_of_some _ e
  have F' := F.keeps kp
  have N' : News h₀ env.locals H news := fun p hp => ⟨kp _ _ (N p hp).1, (N p hp).2⟩
  have W := (Walks.range (prog := prog) (w := w) (A := A) hh H.objs.size 0 1 n).bound
  refine ktu_core (s := s) (tk0 := s.toks + 1 + 1) (ws := [(H.objs.size, "range_iterator")]) (xs := rngItems n) (keep := []) (KTurns.ofWalks (target := .Name x np) W fun i v s Q E st q => wpAny_pure q) (by simp [rngItems]) (fun i v h hp => ?_) (fun i h st => ⟨[(_, _)], ⟨⟨rfl, rfl⟩, trivial⟩, fun p hp => by rw [List.mem_singleton.mp hp]; exact st⟩) (fun b hb => ?_) (fun b hb => by simpa using hb) (fun b hb => .inl (by simpa using hb)) ?_ (fun p hp hI => ?_) ?_ (F'.push _) (fun p hp => ⟨Heap.get?_push_of_some _ (N' p hp).1, (N' p hp).2⟩) trivial (rest _ fun p hp => Heap.lt_size (N' p hp).1)
  · obtain ⟨hi, t, rfl⟩ := hp
    refine ⟨.tok fun t => .int (i : Nat) t, by simp [rngItems, hi], t, ?_⟩
    rw [Int.zero_add, Int.mul_one]
  · have hb' : b = H.objs.size := by simpa using hb
    rw [hb']
    exact ⟨List.mem_cons_self .., next_is_new F'⟩
  · intro hI
    exact absurd F'.ns.lt ((List.mem_singleton.mp hI) ▸ Nat.lt_irrefl _)
  · exact absurd (Heap.lt_size (N' p hp).1) ((List.mem_singleton.mp hI) ▸ Nat.lt_irrefl _)
  · show IsRangeIter _ _ _ _ _
    dsimp only
    rw [hsz]
    simpa using Heap.get?_push_size H (o := { cls := .type "range_iterator", data := .fields #[rawInt 0, rawInt (n : Nat), rawInt 1] }) rfl
end
end Mine
end
section
open PySem PySem.W PyProof.Rows PySem.Calls PyProof.V PySem.Spec
set_option maxRecDepth 100000
namespace Mine
theorem SelIn.mono {w : World} {fz fz' : Led} {a b c : Value} (h : SelIn w fz a b c) (hs : ∀ p ∈ fz, p ∈ fz') : SelIn w fz' a b c := by
  cases h with
  | mk h1 h2 => exact .mk (hs _ h1) (hs _ h2)
theorem ProbeIn.mono {w : World} {fz fz' : Led} {a b d : Value} {c : Str} (h : ProbeIn w fz a b c d) (hs : ∀ p ∈ fz, p ∈ fz') : ProbeIn w fz' a b c d := by
  cases h with
  | mk h1 h2 => exact .mk (hs _ h1) (hs _ h2)
theorem BndIn.mono {w : World} {fz fz' : Led} {v : Value} {l : List Tr} (h : BndIn w fz v l) (hs : ∀ p ∈ fz, p ∈ fz') : BndIn w fz' v l := by
  cases h with
  | none a b c => exact .none (hs _ a) b c
  | zero a b c d => exact .zero (hs _ a) b c (hs _ d)
  | one a b c d => exact .one (hs _ a) b c (hs _ d)
  | two a b c d => exact .two (hs _ a) b c (hs _ d)
theorem TrIn.mono {w : World} {fz fz' : Led} {v : Value} {k : Slf} (h : TrIn w fz v k) (hs : ∀ p ∈ fz, p ∈ fz') : TrIn w fz' v k := by
  cases h with
  | mk a b c d e f => exact .mk (hs _ a) (hs _ b) (hs _ c) d e (f.mono hs)
theorem TrsIn.mono {w : World} {fz fz' : Led} {es : List (Str × Value)} {l : List (Tr × Slf)} (h : TrsIn w fz es l) (hs : ∀ p ∈ fz, p ∈ fz') : TrsIn w fz' es l := by
  cases h with
  | one a => exact .one (a.mono hs)
  | two a b => exact .two (a.mono hs) (b.mono hs)
theorem ImpsIn.mono {w : World} {fz fz' : Led} {es : List (Str × Value)} {vs : List Value} {l : List Imp} (h : ImpsIn w fz es vs l) (hs : ∀ p ∈ fz, p ∈ fz') : ImpsIn w fz' es vs l := by
  induction h with
  | nil => exact .nil
  | cons a _ ih => exact .cons (a.mono hs) ih
theorem WorldIn.mono {w : World} {fz fz' : Led} {v : Value} {is : List Imp} {ts : List (Tr × Slf)} (h : WorldIn w fz v is ts) (hs : ∀ p ∈ fz, p ∈ fz') : WorldIn w fz' v is ts := by
  cases h with
  | mk a b c d e f g i j k l m => exact .mk (hs _ a) (hs _ b) (hs _ c) d e (hs _ f) g i (j.mono hs) (hs _ k) (l.mono hs) m
inductive Res where
  | no | fault | unk
  | hit (x : At) (d : Nat) (a : Option Bool)
  deriving DecidableEq
noncomputable def tryR (f : Ty → At) (d : Nat) : List (Option Bool × Ty) → Option Res
  | [] => none
  | (a, b) :: r => match f b with
    | .no => tryR f d r
    | .fault => some .fault
    | x => some (.hit x d a)
noncomputable def recvs (t : Ty) : List (Option Bool × Ty) := [(none, t), (some false, .ref false t), (some true, .ref true t)]
noncomputable def findP (f : Ty → At) : List Ty → Nat → Res
  | [], _ => .no
  | t :: r, d => if t = .var then .unk else match tryR f d (recvs t) with
    | some x => x
    | none => findP f r (d + 1)
inductive WordIs : Value → Option Bool → Prop
  | no : WordIs .none none
  | rd {t} : WordIs (.str "ref" t) (some false)
  | wr {t} : WordIs (.str "mut" t) (some true)
inductive RecvIn (n : Led) : List Value → List (Option Bool × Ty) → Prop
  | nil : RecvIn n [] []
  | cons {D av k a c b vs ps} : (D, tupOf [av, .ref c] k) ∈ n → WordIs av a → TyIn n (.ref c) b → b.clear = true → b.dep ≤ 40 → RecvIn n vs ps → RecvIn n (.ref D :: vs) ((a, b) :: ps)
inductive FndIs (w : World) (n : Led) : Value → Res → Prop
  | no : FndIs w n .none .no
  | hit {p k fv t av x d a} : (p, tupOf [fv, .int (d : Nat) t, av] k) ∈ n → RowIs w n fv x → WordIs av a → FndIs w n (.ref p) (.hit x d a)
theorem tryR_no {f : Ty → At} {d : Nat} {a : Option Bool} {b : Ty} {r : List (Option Bool × Ty)} (h : f b = .no) : tryR f d ((a, b) :: r) = tryR f d r := by
  rw [tryR, h]
theorem tryR_fault {f : Ty → At} {d : Nat} {a : Option Bool} {b : Ty} {r : List (Option Bool × Ty)} (h : f b = .fault) : tryR f d ((a, b) :: r) = some .fault := by
  rw [tryR, h]
theorem tryR_hit {f : Ty → At} {d : Nat} {a : Option Bool} {b : Ty} {r : List (Option Bool × Ty)} (h1 : f b ≠ .no) (h2 : f b ≠ .fault) : tryR f d ((a, b) :: r) = some (.hit (f b) d a) := by
  rw [tryR]
  cases h : f b <;> simp_all
theorem RowIs.split {w : World} {n : Led} {v : Value} {x : At} (h : RowIs w n v x) : (v = .none ∧ x = .no) ∨ (∃ a, v = .ref a ∧ RowIs w n (.ref a) x ∧ x ≠ .no ∧ x ≠ .fault) := by
  cases h with
  | no => exact .inl ⟨rfl, rfl⟩
  | imp a b c d => exact .inr ⟨_, rfl, .imp a b c d, (by intro h; cases h), (by intro h; cases h)⟩
  | tr a => exact .inr ⟨_, rfl, .tr a, (by intro h; cases h), (by intro h; cases h)⟩
end Mine
end
section
open PySem PySem.W PyProof.Rows PySem.Calls PyProof.V PySem.Spec
set_option maxRecDepth 100000
namespace Mine
section
variable {prog : Program} {w : World} {A : Around} {E : Value → Shared → Prop} {s : Shared} {env : Env} {h₀ : Heap} {target : PySem.Expr} {body : List Stmt} {Q : Flow → Shared → Prop}
noncomputable def FInv {α : Type} (NS : List Str) (m₀ : Str → Option Value) (n₀ : Led) (P : List α → Prop) (r : List α) (m : Str → Option Value) (nw : Led) : Prop := nw = n₀ ∧ Agree NS m₀ m ∧ P r
theorem fix_ind {α : Type} {it : α → Itm} {I : Addr} {keep : Led} {cls : String} {m₀ : Str → Option Value} {n₀ : Led} (NS : List Str) (P : List α → Prop) (items : List α) (h0 : P items)
    (step : ∀ a r u v h tk o, P (a :: r) → (it a).Is v h → Fr h₀ env.locals h (over NS u m₀) → o.cls = .type cls → News h₀ env.locals h ((I, o) :: n₀) →
      wpAny (model prog w) A (assign target env v) (fun _ s₂ => wpAny (model prog w) A (execs body env) (UnrPostW h₀ env.locals { s with heap := h, toks := tk } [(I, o)] (fun m' n' => SubL keep n' ∧ FInv NS m₀ n₀ P r m' n') Q) E s₂) E { s with heap := h, toks := tk })
    (done : ∀ u h tk, P [] → Fr h₀ env.locals h (over NS u m₀) → News h₀ env.locals h n₀ → Q .next { s with heap := h, toks := tk }) :
    ItemsRest prog w A E h₀ env target body Q s [(I, cls)] keep (items.map it) m₀ n₀ := by
  refine itms_ind (FInv NS m₀ n₀ P) ?_ ?_ items m₀ _ ⟨rfl, agree_refl, h0⟩
  · rintro a r v m news h tk o ⟨rfl, ha, hP⟩ hv F hc N
    rw [ha.eq] at F
    exact step a r m v h tk o hP hv F hc N
  · rintro m news h tk ⟨rfl, ha, hP⟩ F N
    rw [ha.eq] at F
    exact done m h tk hP F N
theorem fix_end {α : Type} {L I : Addr} {s₁ : Shared} {keep all n₀ : Led} {NS : List Str} {m₀ m' : Str → Option Value} {P : List α → Prop} {r : List α} {o : Obj} {h' : Heap} {tk : Nat}
    (F : Fr h₀ L h' m') (N : News h₀ L h' all) (hs : ∀ q ∈ (I, o) :: n₀, q ∈ all) (off : AllNe I n₀) (hk : SubL keep n₀) (ha : Agree NS m₀ m') (hP : P r) :
    UnrEndW h₀ L s₁ [(I, o)] (fun m' n' => SubL keep n' ∧ FInv NS m₀ n₀ P r m' n') { s₁ with heap := h', toks := tk } :=
  unrEnd1 F N hs off ⟨hk, rfl, ha, hP⟩
theorem recv_ind {I : Addr} {keep : Led} {cls : String} {m₀ : Str → Option Value} {n₀ : Led} (NS : List Str) (f : Ty → At) (d : Nat) (ps₀ : List (Option Bool × Ty)) {vs : List Value} (h0 : RecvIn n₀ vs ps₀)
    (step : ∀ D av k aa c b r ps u h tk o, (D, tupOf [av, .ref c] k) ∈ n₀ → WordIs av aa → TyIn n₀ (.ref c) b → b.clear = true → b.dep ≤ 40 → RecvIn n₀ r ps → tryR f d ((aa, b) :: ps) = tryR f d ps₀ → Fr h₀ env.locals h (over NS u m₀) → o.cls = .type cls → News h₀ env.locals h ((I, o) :: n₀) →
      wpAny (model prog w) A (assign target env (.ref D)) (fun _ s₂ => wpAny (model prog w) A (execs body env) (UnrPostW h₀ env.locals { s with heap := h, toks := tk } [(I, o)] (fun m' n' => SubL keep n' ∧ FInv NS m₀ n₀ (fun r => ∃ ps, RecvIn n₀ r ps ∧ tryR f d ps = tryR f d ps₀) r m' n') Q) E s₂) E { s with heap := h, toks := tk })
    (done : ∀ u h tk, tryR f d ps₀ = none → Fr h₀ env.locals h (over NS u m₀) → News h₀ env.locals h n₀ → Q .next { s with heap := h, toks := tk }) :
    ItemsRest prog w A E h₀ env target body Q s [(I, cls)] keep (vs.map .val) m₀ n₀ := by
  refine fix_ind NS (fun r => ∃ ps, RecvIn n₀ r ps ∧ tryR f d ps = tryR f d ps₀) vs ⟨ps₀, h0, rfl⟩ ?_ ?_
  · rintro v r u v' h tk o ⟨ps, hr, he⟩ hv F hc N
    obtain rfl : v' = v := hv
    cases hr with
    | cons a b c e g i => exact step _ _ _ _ _ _ _ _ u h tk o a b c e g i he F hc N
  · rintro u h tk ⟨ps, hr, he⟩ F N
    cases hr
    exact done u h tk (by rw [← he]; rfl) F N
theorem agree_over2 {ns ks : List Str} {m₀ m u : Str → Option Value} (h : Agree ns m₀ m) (hs : (ks.all fun y => ns.contains y) = true) : Agree ns m₀ (over ks u m) := fun y hy => by
  unfold over
  rw [if_neg (fun q => by
    have := List.all_eq_true.mp hs y (List.contains_iff_mem.mp q)
    rw [hy] at this; cases this)]
  exact h y hy
theorem tup_src {ax : Addr} {vs : List Value} {n : Nat} {m₀ : Str → Option Value} {news : Led}
    (hh : A.handled = none) (F : Fr h₀ env.locals s.heap m₀) (N : News h₀ env.locals s.heap news) (hm : (ax, tupOf vs n) ∈ news)
    (rest₀ : ∀ I : Addr, (∀ p ∈ news, p.1 < I) → ∀ xs : List Itm, xs = vs.map .val → ItemsRest prog w A E h₀ env target body Q s [(I, "tuple_iterator")] [(ax, tupOf vs n)] xs m₀ news) :
    wpAny (model prog w) A (pyIter (.ref ax)) (fun it s₂ => TurnsAt prog w A h₀ env target body Q E it s₂) E s :=
  iter_tupTurns hh F N hm rfl rfl fun I hI => rest₀ I hI _ rfl
end
theorem TysIn.at {n : Led} {vs : List Value} {ts : List Ty} (h : TysIn n vs ts) : ∀ {d : Nat}, d < vs.length → ∃ v t, vs[d]? = some v ∧ ts.drop d = t :: ts.drop (d + 1) ∧ TyIn n v t ∧ t ∈ ts := by
  induction h with
  | nil => intro d hd; simp at hd
  | cons a _ ih =>
    intro d hd
    cases d with
    | zero => exact ⟨_, _, rfl, by simp, a, .head _⟩
    | succ d =>
      obtain ⟨v, t, h1, h2, h3, h4⟩ := ih (d := d) (by simpa using hd)
      exact ⟨v, t, by simpa using h1, by simpa using h2, h3, .tail _ h4⟩
theorem recv_start {n : Led} {D1 D2 D3 D4 D5 ad : Addr} {k1 k2 k3 k4 k5 : Nat} {t1 t2 t3 t4 : Tok} {t : Ty} (h1 : (D1, tupOf [.none, .ref ad] k1) ∈ n) (h2 : (D2, tupOf [.str "ref" t1, .ref D3] k2) ∈ n) (h3 : (D3, tupOf [.str "ref" t2, .none, .bool false, .ref ad] k3) ∈ n)
    (h4 : (D4, tupOf [.str "mut" t3, .ref D5] k4) ∈ n) (h5 : (D5, tupOf [.str "ref" t4, .none, .bool true, .ref ad] k5) ∈ n) (hT : TyIn n (.ref ad) t) (hc : t.clear = true) (hd : t.dep ≤ 20) : RecvIn n [.ref D1, .ref D2, .ref D4] (recvs t) :=
  .cons h1 .no hT hc (Nat.le_trans (by assumption) (by decide)) (.cons h2 .rd (.ref h3 hT) hc (by simp only [Ty.dep]; exact Nat.le_trans (Nat.succ_le_succ (by assumption)) (by decide)) (.cons h4 .wr (.ref h5 hT) hc (by simp only [Ty.dep]; exact Nat.le_trans (Nat.succ_le_succ (by assumption)) (by decide)) .nil))
noncomputable def FindAt (f : Ty → At) (ts : List Ty) (r : List Nat) : Prop := ∃ d, r = List.range' d r.length ∧ d + r.length = ts.length ∧ findP f (ts.drop d) d = findP f ts 0
theorem FindAt.start {f : Ty → At} {ts : List Ty} {n : Nat} (h : n = ts.length) : FindAt f ts (List.range n) := ⟨0, by rw [List.length_range, List.range_eq_range'], by simp [h], by simp⟩
theorem FindAt.end {f : Ty → At} {ts : List Ty} (h : FindAt f ts []) : findP f ts 0 = .no := by
  obtain ⟨d, _, h2, h3⟩ := h
  rw [← h3, List.drop_eq_nil_of_le (by simp at h2; exact Nat.le_of_eq h2.symm)]; rfl
theorem FindAt.step {f : Ty → At} {ts : List Ty} {a : Nat} {r : List Nat} (h : FindAt f ts (a :: r)) : a < ts.length ∧ findP f (ts.drop a) a = findP f ts 0 ∧ (∀ t, ts.drop a = t :: ts.drop (a + 1) → findP f (t :: ts.drop (a + 1)) a = findP f (ts.drop (a + 1)) (a + 1) → FindAt f ts r) := by
  obtain ⟨d, h1, h2, h3⟩ := h
  rw [List.length_cons, List.range'_succ] at h1
  rw [List.length_cons] at h2
  obtain ⟨rfl, h4⟩ := List.cons.inj h1
  refine ⟨by first | exact om_lt (by assumption) | omega, h3, fun t e1 e2 => ⟨a + 1, h4, by first | exact om_eq (by assumption) | omega, ?_⟩⟩
  rw [← e2, ← e1, h3]
theorem findP_var {f : Ty → At} {r : List Ty} {d : Nat} : findP f (.var :: r) d = .unk := by rw [findP, if_pos rfl]
theorem findP_some {f : Ty → At} {t : Ty} {r : List Ty} {d : Nat} {x : Res} (h : t ≠ .var) (e : tryR f d (recvs t) = some x) : findP f (t :: r) d = x := by rw [findP, if_neg h, e]
theorem findP_none {f : Ty → At} {t : Ty} {r : List Ty} {d : Nat} (h : t ≠ .var) (e : tryR f d (recvs t) = none) : findP f (t :: r) d = findP f r (d + 1) := by rw [findP, if_neg h, e]
theorem clear_ne {t : Ty} (h : t.clear = true) : t ≠ .var := by rintro rfl; cases h
theorem clear_kd {t : Ty} (h : t.clear = true) : (t.kd == "var") = false ∧ (t.kd == "intvar") = false := by
  cases t <;> first | (cases h; done) | exact ⟨by simp only [Ty.kd]; decide, by simp only [Ty.kd]; decide⟩
end Mine
end
section
open PySem PySem.W PyProof.Rows PySem.Calls PyProof.V PySem.Spec
set_option maxRecDepth 100000
namespace Mine
noncomputable def Calls0 (w : World) (loose : List Str) (mean : ExcName → Option Value) (mg mb : Str → Option Value) (ℓ : Nat) (f : Addr) (vs : List Value) (news : Led) (Out : Led → Value → Prop) : Prop :=
  ∀ (dp un : Nat) (gd : Option (List Code)) (cn : Str) (cs : Scope) (a : Addr) (ccd : Value) (A₀ : Around) (base h₀ : Heap) (L : Addr) (m : Str → Option Value) (s : Shared) (Q E : Value → Shared → Prop),
    Below A₀ base [] h₀ → Fr h₀ L s.heap m → (Mine.hd.heap_1 w.params).In h₀ → News h₀ L s.heap news → Top Mine.vw loose mean mg mb h₀ → (Mine.hd.heap_1 w.params).In base → Top Mine.vw loose mean mg mb base → cs.kind = .function → dp + 4 * ℓ < 400 → un + 20 * ℓ < 2000 →
    (∀ r news' h' tk', Fr h₀ L h' m → News h₀ L h' news' → Out news' r → Q r { s with heap := h', toks := tk' }) →
    wpAny (model Challenge.rw_nu0383_01.row.prog w) (ktrTop dp un gd cn cs L a ccd [] []) (call (.ref f) vs) Q E s
theorem Calls0.of {w : World} {loose : List Str} {mean : ExcName → Option Value} {mg mb : Str → Option Value} {ℓ : Nat} {f : Addr} {vs : List Value} {news : Led} {Out : Led → Value → Prop}
  (H : ∀ (dp un : Nat) (gd : Option (List Code)) (cn : Str) (cs : Scope) (a : Addr) (ccd : Value) (A₀ : Around) (base h₀ : Heap) (L : Addr) (m : Str → Option Value) (sh : Heap) (sg : Array GenState) (sd : Drawn) (sk : Nat) (so : OsState) (Q E : Value → Shared → Prop),
    Below A₀ base [] h₀ → Fr h₀ L sh m → (Mine.hd.heap_1 w.params).In h₀ → News h₀ L sh news → Top Mine.vw loose mean mg mb h₀ → (Mine.hd.heap_1 w.params).In base → Top Mine.vw loose mean mg mb base → cs.kind = .function → dp + 4 * ℓ < 400 → un + 20 * ℓ < 2000 →
    (∀ r news' h' tk', Fr h₀ L h' m → News h₀ L h' news' → Out news' r → Q r ⟨h', sg, sd, tk', so⟩) →
    wpAny (model Challenge.rw_nu0383_01.row.prog w) (ktrTop dp un gd cn cs L a ccd [] []) (call (.ref f) vs) Q E ⟨sh, sg, sd, sk, so⟩) : Calls0 w loose mean mg mb ℓ f vs news Out := by
  intro dp un gd cn cs a ccd A₀ base h₀ L m s Q E
  cases s
  exact H dp un gd cn cs a ccd A₀ base h₀ L m _ _ _ _ _ Q E
inductive ToldIs (n : Led) : Value → Res → Prop
  | fault {t} : ToldIs n (.str "fault" t) .fault
  | unk {t} : ToldIs n (.str "unknown" t) .unk
  | no : ToldIs n .none .no
  | imp {p k t1 t2 av num d a} : (p, tupOf [.int (num : Nat) t1, .int (d : Nat) t2, av] k) ∈ n → WordIs av a → ToldIs n (.ref p) (.hit (.imp num) d a)
  | tr {p k t1 t2 av d a} {t : Tr} : (p, tupOf [.str t.nm t1, .int (d : Nat) t2, av] k) ∈ n → WordIs av a → ToldIs n (.ref p) (.hit (.tr t) d a)
inductive FndSp (w : World) (n : Led) (x : Res) : Value → Prop
  | no : x = .no → FndSp w n x .none
  | imp {p k a k2 dd o num t1 t2 t3 t av d aa} : x = .hit (.imp num) d aa → (p, tupOf [.ref a, .int (d : Nat) t, av] k) ∈ n → WordIs av aa → (a, tupOf [.str "impl" t1, .int (num : Nat) t2, .str (pathOf num) t3, .ref dd] k2) ∈ n → (dd, o) ∈ n → SD w o [] → (dd == sysModules) = false → FndSp w n x (.ref p)
  | tr {p k a k2 t1 t2 t3 y t av d aa} {tr : Tr} : x = .hit (.tr tr) d aa → (p, tupOf [.ref a, .int (d : Nat) t, av] k) ∈ n → WordIs av aa → (a, tupOf [.str "trait" t1, .str tr.nm t2, .str "go" t3, y] k2) ∈ n → FndSp w n x (.ref p)
  | non {p k t av d aa} : x = .hit .no d aa → (p, tupOf [.none, .int (d : Nat) t, av] k) ∈ n → FndSp w n x (.ref p)
theorem FndIs.split {w : World} {n : Led} {r : Value} {x : Res} (h : FndIs w n r x) : FndSp w n x r := by
  cases h with
  | no => exact .no rfl
  | hit h1 h2 h3 =>
    cases h2 with
    | no => exact .non rfl h1
    | imp a b c d => exact .imp rfl h1 h3 a b c d
    | tr a => exact .tr rfl h1 h3 a
theorem tryR_ne {f : Ty → At} {n d : Nat} {a : Option Bool} : ∀ {l : List (Option Bool × Ty)}, tryR f n l ≠ some (.hit .no d a)
  | [] => by intro h; cases h
  | (x, b) :: r => by
    rw [tryR]
    split
    · exact tryR_ne
    · intro h; cases h
    · rename_i h1 _; intro h; exact h1 (Res.hit.inj (Option.some.inj h)).1
theorem findP_ne {f : Ty → At} {d : Nat} {a : Option Bool} : ∀ {l : List Ty} {n : Nat}, findP f l n ≠ .hit .no d a
  | [], _ => by intro h; cases h
  | t :: r, n => by
    rw [findP]
    split
    · intro h; cases h
    · split
      · rename_i x e; intro h; subst h; exact tryR_ne e
      · exact findP_ne
end Mine
end
section
open PySem PySem.W PyProof.Rows PySem.Calls PyProof.V PySem.Spec PySem.SeqAt
set_option maxRecDepth 100000
namespace Mine
theorem sub_dict : isSubtype (.type "dict") (.type "dict") = pure true := by rw [isSubtype_type]; kernel_rfl
theorem dict_eq0 (l b : Addr) (n n2 : Nat) (hs1 : (l == sysModules) = false) (hs2 : (b == sysModules) = false) :
    Meets (Builtin.«dict.__eq__» ⟨[.ref l, .ref b], []⟩)
      (fun _ R s => s.heap.get? l = some (dictOf [] n) ∧ s.heap.get? b = some (dictOf [] n2) ∧ R (.ok (.ret (.bool true))) s) :=
  .of_wp fun prog w A R s h => by
    obtain ⟨hp, g, d, tk, os⟩ := s; obtain ⟨hl, hb, h⟩ := h
    have f3 := sub_dict
    wp_walk using wpAny_loadPart' hl, wpAny_loadPart' hb
    with_unfolding_all refine wpAny_pure (a := (none, ())) ?_
    wp_walk
    exact ⟨_, rfl, h⟩
theorem rc_dict0 {A : Around} {s : Shared} {l b : Addr} {n n2 : Nat} (hs1 : (l == sysModules) = false) (hs2 : (b == sysModules) = false) (hl : s.heap.get? l = some (dictOf [] n)) (hb : s.heap.get? b = some (dictOf [] n2)) (hu : A.units < cLine) :
    RcAt A s (.ref l) (.ref b) true := fun prog w E Q h =>
  richCompare_meets_room (op := .Eq) ⟨_, hl, rfl⟩ ⟨_, hb, rfl⟩ F.slot_dict_eq F.entry_dict_eq (F.args_dict_eq_2 _ _) (dict_eq0 l b n n2 hs1 hs2)
    ⟨hl, hb, show Value.bool true ≠ Value.notImplemented ∧ Q (.bool true) s from ⟨(fun x => nomatch x), h⟩⟩ hu
section
variable {w : World} {A : Around} {E : Value → Shared → Prop} {s : Shared} {h₀ : Heap} {L a b d1 d2 : Addr} {m : Str → Option Value} {news : Led}
theorem sd_nil {o : Obj} (h : SD w o []) : ∃ n, o = dictOf [] n := by
  obtain ⟨es, ep, ⟨hc, hd, hs⟩, hda, _, hp, _⟩ := h
  have he : es.toList = [] := by
    cases hq : es.toList with
    | nil => rfl
    | cons x r => rw [hq] at hp; cases hp
  obtain ⟨c, d, da, sl⟩ := o
  simp only at hc hd hs hda
  subst hc hd hs hda
  obtain ⟨es⟩ := es
  simp only at he
  subst he
  exact ⟨ep, rfl⟩
theorem eq_pd {p : Str} {t1 t2 : Tok} {k1 k2 : Nat} {o : Obj} {Q : Value → Shared → Prop} (N : News h₀ L s.heap news) (ha : (a, tupOf [.str p t1, .ref d1] k1) ∈ news) (hd : (d1, o) ∈ news) (h1 : SD w o []) (hs1 : (d1 == sysModules) = false) (hb : (b, tupOf [.str p t2, .ref d2] k2) ∈ news)
    {o2 : Obj} (he : (d2, o2) ∈ news) (h2 : SD w o2 []) (hs2 : (d2 == sysModules) = false) (hu : A.units + 64 < cLine) (h : Q (.bool true) s) : wpAny (model Challenge.rw_nu0383_01.row.prog w) A (compareOp .Eq (.ref a) (.ref b)) Q E s := by
  obtain ⟨n1, rfl⟩ := sd_nil h1
  obtain ⟨n2, rfl⟩ := sd_nil h2
  refine eq_tupleAt (items := #[.str p t1, .ref d1]) (items2 := #[.str p t2, .ref d2]) (e := fun _ => true) ⟨_, N.get ha, rfl, _, rfl⟩ ⟨_, N.get hb, rfl, _, rfl⟩ (Nat.lt_of_le_of_lt (Nat.le_add_right _ 64) (by assumption)) (fun j hj1 hj2 => ?_) (by exact h)
  match j with
  | 0 =>
    have := EqAt.str_str (A := A.in1) (s := s) p t1 p t2
    rwa [beq_self_eq_true] at this
  | 1 =>
    show EqAt A.in1 s (.ref d1) (.ref d2) true
    by_cases q : d1 = d2
    · subst q; exact EqAt.same _
    · exact EqAt.of_refs q (rc_dict0 hs1 hs2 (N.get hd) (N.get he) (by simp only [Around.in1_units]; first | exact Nat.lt_of_le_of_lt (Nat.add_le_add_left (by decide) _) (by assumption) | omega))
  | j + 2 => exact absurd hj1 (Nat.not_lt.mpr (by show 2 ≤ j + 2; exact Nat.le_add_left _ _))
theorem slice_tup {value slice : PySem.Expr} {t : Addr} {x0 x1 x2 x3 : Value} {k : Nat} {u : Tok} {hp : Heap} {gs : Array GenState} {d : Drawn} {tk : Nat} {os : OsState} {prog : Program} {Q : Value → Shared → Prop} (F : Fr h₀ L hp m) (N : News h₀ L hp news) (hm : (t, tupOf [x0, x1, x2, x3] k) ∈ news)
    (h : ∀ B h', (∀ p ∈ news, p.1 < B) → Fr h₀ L h' m → News h₀ L h' ((B, tupOf [x2, x3] 0) :: news) → Q (.ref B) ⟨h', gs, d, tk, os⟩)
    (hs : subscripted slice false (.ref t) (.ref hp.objs.size) = operate [.ref hp.objs.size, .ref t] (getItem (.ref t) (.ref hp.objs.size)))
    (hg : ∀ r, letTemporaryGo value (.ref t) r = pure ()) :
    wpAny (model prog w) A (subscriptTail value slice (.ref t) (.ref hp.objs.size)) Q E ⟨hp.push { cls := .type "slice", data := .fields #[.int 2 u, .none, .none] }, gs, d, tk, os⟩ :=
  slice_tuple_from (s := ⟨hp, gs, d, tk, os⟩) (items := #[x0, x1, x2, x3]) (a := 2) F N ⟨_, (N _ hm).1, rfl, _, rfl⟩ (by decide) (Nat.le_of_ble_eq_true rfl) (fun h' F' N' => h _ h' (fun p hp => Nat.lt_succ_of_lt (Heap.lt_size (N p hp).1)) F' N') hs hg (Nat.le_of_ble_eq_true rfl)
end
theorem atI_num {nm : Str} {imps : List Imp} {trs : List (Tr × Slf)} {bs : List Tr} {b : Ty} {n : Nat} (h : atI nm imps trs bs b = .imp n) : ∃ i ∈ imps, i.num = n := by
  unfold atI at h
  cases q : (imps.filter (hitI nm b)).map (·.num) with
  | nil =>
    rw [q] at h
    cases q2 : (trs.filter (hitT nm imps bs b)).map (·.1) with
    | nil => rw [q2] at h; cases h
    | cons x r => cases r <;> (rw [q2] at h; cases h)
  | cons x r =>
    cases r with
    | cons y r => rw [q] at h; cases h
    | nil =>
      rw [q] at h
      cases h
      have hm : n ∈ (imps.filter (hitI nm b)).map (·.num) := by rw [q]; exact .head _
      obtain ⟨i, hi, e⟩ := List.mem_map.mp hm
      exact ⟨i, (List.mem_filter.mp hi).1, e⟩
theorem tryR_hitD {f : Ty → At} {n d : Nat} {x : At} {a : Option Bool} : ∀ {l : List (Option Bool × Ty)}, tryR f n l = some (.hit x d a) → ∃ b, f b = x
  | [], h => by cases h
  | (y, b) :: r, h => by
    rw [tryR] at h
    split at h
    · exact tryR_hitD h
    · cases h
    · exact ⟨b, (Res.hit.inj (Option.some.inj h)).1⟩
theorem findP_hitD {f : Ty → At} {d : Nat} {x : At} {a : Option Bool} : ∀ {l : List Ty} {n : Nat}, findP f l n = .hit x d a → ∃ b, f b = x
  | [], _, h => by cases h
  | t :: r, n, h => by
    rw [findP] at h
    split at h
    · cases h
    · split at h
      · rename_i x' e; subst h; exact tryR_hitD e
      · exact findP_hitD h
theorem small_log {n : Nat} (h : n ≤ 8) : ((n : Nat) : Int).natAbs.log2 < 1920 := by
  rw [Int.natAbs_natCast]; exact Nat.lt_of_le_of_lt (Nat.log2_le_self n) (Nat.lt_of_le_of_lt (by assumption) (by decide))
end Mine
end
section
open PySem PySem.W PyProof.Rows PySem.Calls PyProof.V PySem.Spec PySem.SeqAt
set_option maxRecDepth 100000
namespace Mine
noncomputable def lawSelf (t : Ty) : Slf → Option Ty
  | .value => some t
  | .non => none
  | .rm b => some (.ref b t)
inductive LSelf (n : Led) : Value → Option Ty → Prop
  | non {a t k} : (a, tupOf [.str "none" t] k) ∈ n → LSelf n (.ref a) none
  | is {v u} : TyIn n v u → LSelf n v (some u)
end Mine
end
section
open PySem PySem.W PyProof.Rows PySem.Calls PyProof.V PySem.Spec PySem.SeqAt
set_option maxRecDepth 100000
namespace Mine
inductive RowsIn (n : Led) : List Value → List Imp → Prop
  | nil : RowsIn n [] []
  | cons {a trv t tv kv k vs is} {i : Imp} : (a, tupOf [trv, .int (i.num : Nat) t, tv, kv] k) ∈ n → TrIs trv i.trait → TyIn n tv i.told → IsPat i.told → KdIs kv i.kind → RowsIn n vs is → RowsIn n (.ref a :: vs) (i :: is)
theorem RowsIn.mono {n n' : Led} {vs : List Value} {is : List Imp} (h : RowsIn n vs is) (hs : ∀ p ∈ n, p ∈ n') : RowsIn n' vs is := by
  induction h with
  | nil => exact .nil
  | cons a b c e d _ ih => exact .cons (hs _ a) b (c.mono hs) e d ih
inductive HitsIn (n : Led) : List Value → List Imp → Prop
  | nil : HitsIn n [] []
  | cons {a trv t k vs is} {i : Imp} : (a, tupOf [trv, .int (i.num : Nat) t] k) ∈ n → TrIs trv i.trait → HitsIn n vs is → HitsIn n (.ref a :: vs) (i :: is)
theorem HitsIn.mono {n n' : Led} {vs : List Value} {is : List Imp} (h : HitsIn n vs is) (hs : ∀ p ∈ n, p ∈ n') : HitsIn n' vs is := by
  induction h with
  | nil => exact .nil
  | cons a b _ ih => exact .cons (hs _ a) b ih
noncomputable def hitL (recv : Ty) (i : Imp) : Bool := decide (lawSelf i.told i.kind = some recv)
end Mine
end
section
open PySem PySem.W PyProof.Rows PySem.Calls PyProof.V PySem.Spec PySem.SeqAt
set_option maxRecDepth 100000
namespace Mine
theorem IsPat.dep {t : Ty} (h : IsPat t) : t.dep ≤ 1 := by cases h <;> simp [Ty.dep]
theorem IsPat.clear {t : Ty} (h : IsPat t) : t.clear = true := by cases h <;> rfl
theorem LSelf.mono {n n' : Led} {v : Value} {o : Option Ty} (h : LSelf n v o) (hs : ∀ p ∈ n, p ∈ n') : LSelf n' v o := by
  cases h with
  | non a => exact .non (hs _ a)
  | is a => exact .is (a.mono hs)
theorem LSelf.head {n : Led} {v : Value} {o : Option Ty} (h : LSelf n v o) : ∃ a, v = .ref a := by
  cases h with
  | non a => exact ⟨_, rfl⟩
  | is a => cases a.head; exact ⟨_, rfl⟩
theorem lawSelf_dep {t u : Ty} {k : Slf} {n : Nat} (h : lawSelf t k = some u) (hd : t.dep ≤ n) : u.dep ≤ n + 1 := by
  cases k <;> simp only [lawSelf, Option.some.injEq, reduceCtorEq] at h
  · subst h; first | exact Nat.le_succ_of_le (by assumption) | omega
  · subst h; simp only [Ty.dep]; first | exact Nat.succ_le_succ (by assumption) | omega
theorem tyP_none (b : Ty) : PyData.eqv (.tuple [.str "none"]) (tyP b) = false := by
  have s : ∀ x y : String, ((x : Str) == (y : Str)) = decide ((x : Str) = (y : Str)) := fun x y => by
    by_cases h : (x : Str) = (y : Str)
    · rw [decide_eq_true h]; exact beq_iff_eq.mpr h
    · rw [decide_eq_false h]; exact beq_eq_false_iff_ne.mpr h
  cases b <;> first | decide +kernel | (simp only [tyP, PyData.eqv, PyData.eqvAll, s]; rw [decide_eq_false (by decide), Bool.false_and])
section
variable {prog : Program} {w : World} {A : Around} {E : Value → Shared → Prop} {s : Shared} {h₀ : Heap} {L a b : Addr} {news fz n9 : Led} {Q : Value → Shared → Prop}
theorem lself_eq {r rv : Value} {o : Option Ty} {t : Ty} (N : News h₀ L s.heap news) (q : LSelf n9 r o) (hn : ∀ p ∈ n9, p ∈ news) (h2 : TyIn fz rv t) (fs : ∀ p ∈ fz, p ∈ news) (d1 : ∀ u, o = some u → u.dep ≤ 40) (d2 : t.dep ≤ 40) (hu : A.units + 64 < cLine)
    (h : Q (.bool (decide (o = some t))) s) : wpAny (model prog w) A (compareOp .Eq r rv) Q E s := by
  cases q with
  | is k =>
    refine ty_eq (fz := news) N (fun _ h => h) (k.mono hn) (h2.mono fs) (d1 _ rfl) d2 hu ?_
    simpa using h
  | non k =>
    refine hide fun hG9 => ?_
    obtain ⟨bs, r2⟩ := h2.reads (newsSub N fs)
    refine hG9 ?_
    refine eq_dataH (reads_tuple_at (N.get (hn _ k)) rfl rfl (.cons (.str _ _) .nil)) r2 (by decide +kernel) (tyP_shaped d2) hu ?_
    rw [tyP_none]
    simpa using h
end
inductive NumsAre : List Value → List Nat → Prop
  | nil : NumsAre [] []
  | cons {n : Nat} {t vs ns} : NumsAre vs ns → NumsAre (.int (n : Nat) t :: vs) (n :: ns)
theorem NumsAre.snoc {vs : List Value} {ns : List Nat} {n : Nat} {t : Tok} (h : NumsAre vs ns) : NumsAre (vs ++ [.int (n : Nat) t]) (ns ++ [n]) := by
  induction h with
  | nil => exact .cons .nil
  | cons _ ih => exact .cons ih
theorem NumsAre.length {vs : List Value} {ns : List Nat} (h : NumsAre vs ns) : vs.length = ns.length := by
  induction h with
  | nil => rfl
  | cons _ ih => rw [List.length_cons, List.length_cons, ih]
inductive TrsAre : List Value → List Tr → Prop
  | nil : TrsAre [] []
  | cons {t vs ns} {n : Tr} : TrsAre vs ns → TrsAre (.str n.nm t :: vs) (n :: ns)
theorem TrsAre.snoc {vs : List Value} {ns : List Tr} {n : Tr} {t : Tok} (h : TrsAre vs ns) : TrsAre (vs ++ [.str n.nm t]) (ns ++ [n]) := by
  induction h with
  | nil => exact .cons .nil
  | cons _ ih => exact .cons ih
theorem TrsAre.length {vs : List Value} {ns : List Tr} (h : TrsAre vs ns) : vs.length = ns.length := by
  induction h with
  | nil => rfl
  | cons _ ih => rw [List.length_cons, List.length_cons, ih]
theorem HitsIn.length {n : Led} {vs : List Value} {is : List Imp} (h : HitsIn n vs is) : vs.length = is.length := by
  induction h with
  | nil => rfl
  | cons _ _ _ ih => rw [List.length_cons, List.length_cons, ih]
theorem RowsIn.length {n : Led} {vs : List Value} {is : List Imp} (h : RowsIn n vs is) : vs.length = is.length := by
  induction h with
  | nil => rfl
  | cons _ _ _ _ _ _ ih => rw [List.length_cons, List.length_cons, ih]
theorem HitsIn.app {n : Led} {vs us : List Value} {is js : List Imp} (h : HitsIn n vs is) (k : HitsIn n us js) : HitsIn n (vs ++ us) (is ++ js) := by
  induction h with
  | nil => exact k
  | cons a b _ ih => exact .cons a b ih
theorem HitsIn.snoc {n : Led} {vs : List Value} {is : List Imp} {i : Imp} {a : Addr} {trv : Value} {t : Tok} {k : Nat} (h : HitsIn n vs is) (b : TrIs trv i.trait) : HitsIn ((a, tupOf [trv, .int (i.num : Nat) t] k) :: n) (vs ++ [.ref a]) (is ++ [i]) :=
  (h.mono fun p hp => .tail _ hp).app (.cons (.head _) b .nil)
inductive KindsIn (w : World) (fz : Led) : Value → (Tr → Slf) → Prop
  | mk {d o va vb ks} : (d, o) ∈ fz → SD w o [("A", va), ("B", vb)] → (d == sysModules) = false → KdIs va (ks .A) → KdIs vb (ks .B) → KindsIn w fz (.ref d) ks
theorem KindsIn.mono {w : World} {fz fz' : Led} {v : Value} {ks : Tr → Slf} (h : KindsIn w fz v ks) (hs : ∀ p ∈ fz, p ∈ fz') : KindsIn w fz' v ks := by
  cases h with
  | mk a b c d e => exact .mk (hs _ a) b c d e
inductive KdsSp (w : World) (fz : Led) (ks : Tr → Slf) : Value → Prop
  | mk {d o kvs} : (d, o) ∈ fz → SD w o kvs → (d == sysModules) = false → (∀ t : Tr, ∃ u, valueAt kvs t.nm = some u ∧ KdIs u (ks t)) → KdsSp w fz ks (.ref d)
theorem KindsIn.split {w : World} {fz : Led} {v : Value} {ks : Tr → Slf} (h : KindsIn w fz v ks) : KdsSp w fz ks v := by
  cases h with
  | mk a b c d e => exact .mk a b c fun t => by cases t <;> exact ⟨_, rfl, by assumption⟩
inductive BdsSp (w : World) (fz : Led) (bs : List Tr) : Value → Prop
  | mk {d o kvs} : (d, o) ∈ fz → SD w o kvs → (d == sysModules) = false → ((valueAt kvs "X" = Option.none ∧ bs = []) ∨ ∃ b k vs, valueAt kvs "X" = some (.ref b) ∧ (b, tupOf vs k) ∈ fz ∧ StrsAre vs (bs.map Tr.nm)) → BdsSp w fz bs (.ref d)
theorem BndIn.split {w : World} {fz : Led} {v : Value} {bs : List Tr} (h : BndIn w fz v bs) : BdsSp w fz bs v := by
  cases h with
  | none a b c => exact .mk a b c (.inl ⟨rfl, rfl⟩)
  | zero a b c d => exact .mk a b c (.inr ⟨_, _, _, rfl, d, .nil⟩)
  | one a b c d => exact .mk a b c (.inr ⟨_, _, _, rfl, d, .cons _ _ .nil⟩)
  | two a b c d => exact .mk a b c (.inr ⟨_, _, _, rfl, d, .cons _ _ (.cons _ _ .nil)⟩)
section
variable {w : World} {A : Around} {E : Value → Shared → Prop} {s : Shared} {h₀ : Heap} {L d e : Addr} {news : Led} {Q : Value → Shared → Prop}
noncomputable def BV (n : Led) (b : Addr) (bs : List Tr) : Prop := ∃ k vs, (b, tupOf vs k) ∈ n ∧ StrsAre vs (bs.map Tr.nm)
theorem get_bnd {o : Obj} {kvs : List (Str × Value)} {bs : List Tr} {t : Tok} {k : Nat} (N : News h₀ L s.heap news) (hm : (d, o) ∈ news) (hd : SD w o kvs) (lo : (d == sysModules) = false) (he : (e, tupOf [] k) ∈ news)
    (hb : (valueAt kvs "X" = Option.none ∧ bs = []) ∨ ∃ b k vs, valueAt kvs "X" = some (.ref b) ∧ (b, tupOf vs k) ∈ news ∧ StrsAre vs (bs.map Tr.nm)) (h : ∀ b, BV news b bs → Q (.ref b) { s with toks := s.toks + 1 }) :
    wpAny (model Challenge.rw_nu0383_01.row.prog w) A (call (.builtin "dict.get") [.ref d, .str "X" t, .ref e]) Q E s := by
  refine hide fun hG9 => ?_
  rcases hb with ⟨h1, rfl⟩ | ⟨b, k, vs, h1, h2, h3⟩ <;> refine hG9 ?_
  · exact kdg_get2 (knd := PySem.strKind _ _) N hm hd lo (strKind_is _ _ _ _) none h1 (h e ⟨_, _, he, .nil⟩)
  · exact kdg_get2 (knd := PySem.strKind _ _) N hm hd lo (strKind_is _ _ _ _) (some _) h1 (h b ⟨_, _, h2, h3⟩)
theorem in_bnd {b : Addr} {bs : List Tr} {tr : Tr} {u : Tok} (N : News h₀ L s.heap news) (hb : BV news b bs) (h : Q (.bool (decide (tr ∈ bs))) s) :
    wpAny (model Challenge.rw_nu0383_01.row.prog w) A (compareOp .In (.str tr.nm u) (.ref b)) Q E s := by
  refine hide fun hG9 => ?_
  obtain ⟨k, vs, h1, h2⟩ := hb
  refine hG9 ?_
  refine in_tuple_strs (tup_of N h1) (by simpa using h2) ?_
  have e : (bs.map Tr.nm).any (fun x => x == tr.nm) = decide (tr ∈ bs) := by
    by_cases q : tr ∈ bs
    · rw [decide_eq_true q]; exact bnd_in.mpr q
    · rw [decide_eq_false q]; exact Bool.eq_false_iff.mpr fun x => q (bnd_in.mp x)
  rw [e]; exact h
end
noncomputable def lawInh (rows : List Imp) (b : Ty) : List Nat := ((rows.filter (hitL b)).filter fun i => decide (i.trait = Option.none)).map (·.num)
noncomputable def tells (rows : List Imp) (bs : List Tr) (ks : Tr → Slf) (b : Ty) (t : Tr) : Bool := (rows.filter (hitL b)).any (fun i => decide (i.trait = some t)) || (decide (t ∈ bs) && decide (lawSelf .par (ks t) = some b))
noncomputable def lawTrs (rows : List Imp) (bs : List Tr) (ks : Tr → Slf) (b : Ty) : List Tr := [Tr.A, Tr.B].filter (tells rows bs ks b)
noncomputable def LatIs (n : Led) (r : Value) (ns : List Nat) (ts : List Tr) : Prop := ∃ p k l1 vs1 e1 l2 vs2 e2, r = .ref p ∧ (p, tupOf [.ref l1, .ref l2] k) ∈ n ∧ (l1, listOf (List.toArray vs1) e1) ∈ n ∧ (l2, listOf (List.toArray vs2) e2) ∈ n ∧ NumsAre vs1 ns ∧ TrsAre vs2 ts
theorem off1_ne {D : Addr} : ∀ {n : Led}, LCg.Off1 D n → ∀ p ∈ n, @Ne Nat p.1 D
  | [], _, _, h => nomatch h
  | _ :: _, x, p, h => by
    rcases List.mem_cons.mp h with rfl | h
    · exact x.1
    · exact off1_ne x.2 p h
theorem allNe_sub {d : Addr} {n n' : Led} (h : AllNe d n) (hs : ∀ p ∈ n', p ∈ n) : AllNe d n' := allNe_of fun p hp => ne_of_allNe h p (hs p hp)
theorem allNe_app {d : Addr} {n n' : Led} (h : AllNe d n) (k : AllNe d n') : AllNe d (n ++ n') := allNe_of fun p hp => (List.mem_append.mp hp).elim (ne_of_allNe h p) (ne_of_allNe k p)
theorem bnd_up {fz n : Led} {kvs : List (Str × Value)} {bs : List Tr} (h : (valueAt kvs "X" = Option.none ∧ bs = []) ∨ ∃ b k vs, valueAt kvs "X" = some (.ref b) ∧ (b, tupOf vs k) ∈ fz ∧ StrsAre vs (bs.map Tr.nm)) (hs : ∀ p ∈ fz, p ∈ n) :
    (valueAt kvs "X" = Option.none ∧ bs = []) ∨ ∃ b k vs, valueAt kvs "X" = some (.ref b) ∧ (b, tupOf vs k) ∈ n ∧ StrsAre vs (bs.map Tr.nm) := by
  rcases h with h | ⟨b, k, vs, h1, h2, h3⟩
  · exact .inl h
  · exact .inr ⟨b, k, vs, h1, hs _ h2, h3⟩
section
variable {rows js : List Imp} {bs : List Tr} {ks : Tr → Slf} {b : Ty} {tr : Tr} {ys : List Value}
theorem tells_yes1 (hj : js = rows.filter (hitL b)) (k : (!ys.isEmpty || ([] : List Imp).any (fun i => decide (i.trait = some tr))) = js.any (fun i => decide (i.trait = some tr))) (w : ys.isEmpty = false) : tells rows bs ks b tr = true := by
  unfold tells; rw [← hj, ← k, w]; rfl
theorem tells_yes2 (w2 : tr ∈ bs) (w3 : lawSelf .par (ks tr) = some b) : tells rows bs ks b tr = true := by
  unfold tells; rw [decide_eq_true w2, decide_eq_true w3]; simp
theorem tells_no1 (hj : js = rows.filter (hitL b)) (k : (!ys.isEmpty || ([] : List Imp).any (fun i => decide (i.trait = some tr))) = js.any (fun i => decide (i.trait = some tr))) (w : ys.isEmpty = true) (w2 : ¬ tr ∈ bs) : tells rows bs ks b tr = false := by
  unfold tells; rw [← hj, ← k, w, decide_eq_false w2]; rfl
theorem tells_no2 (hj : js = rows.filter (hitL b)) (k : (!ys.isEmpty || ([] : List Imp).any (fun i => decide (i.trait = some tr))) = js.any (fun i => decide (i.trait = some tr))) (w : ys.isEmpty = true) (w2 : ¬ lawSelf .par (ks tr) = some b) : tells rows bs ks b tr = false := by
  unfold tells; rw [← hj, ← k, w, decide_eq_false w2, Bool.and_false]; rfl
end
theorem lt_mem {d : Addr} {q : Addr × Obj} : ∀ {l : Led}, AllLt d l → q ∈ l → q.1 < d
  | [], _, h => nomatch h
  | _ :: _, x, h => by
    rcases List.mem_cons.mp h with rfl | h
    · exact x.1
    · exact lt_mem x.2 h
section
variable {prog : Program} {w : World} {A : Around} {E : Value → Shared → Prop} {s : Shared} {env : Env} {h₀ : Heap} {target : PySem.Expr} {body : List Stmt} {Q : Flow → Shared → Prop}
theorem lst_src {ax : Addr} {vs : List Value} {n : Nat} {m₀ : Str → Option Value} {news : Led}
    (hh : A.handled = none) (F : Fr h₀ env.locals s.heap m₀) (N : News h₀ env.locals s.heap news) (hm : (ax, listOf vs.toArray n) ∈ news)
    (rest₀ : ∀ I : Addr, (∀ p ∈ news, p.1 < I) → ∀ xs : List Itm, xs = vs.map .val → ItemsRest prog w A E h₀ env target body Q s [(I, "list_iterator")] [(ax, listOf vs.toArray n)] xs m₀ news) :
    wpAny (model prog w) A (pyIter (.ref ax)) (fun it s₂ => TurnsAt prog w A h₀ env target body Q E it s₂) E s :=
  iter_listTurns hh F N hm rfl rfl fun I hI => rest₀ I hI _ rfl
noncomputable def CInv {α : Type} (NS : List Str) (m₀ : Str → Option Value) (T c : Addr) (nf : Led) (P : List α → List Value → Prop) (r : List α) (m : Str → Option Value) (nw : Led) : Prop :=
  ∃ vs ep oc x, nw = (T, listOf (List.toArray vs) ep) :: (c, oc) :: nf ∧ oc.data = .cell x ∧ Agree NS m₀ m ∧ P r vs
theorem cell_ind {α : Type} {it : α → Itm} {I T c : Addr} {keep nf : Led} {cls : String} {m₀ : Str → Option Value} {ep₀ : Nat} {oc₀ : Obj} {x₀ : Option Value} (NS : List Str) (P : List α → List Value → Prop) (items : List α) (hoc : oc₀.data = .cell x₀) (h0 : P items [])
    (step : ∀ a r vs ep oc x u v h tk o, P (a :: r) vs → oc.data = .cell x → (it a).Is v h → Fr h₀ env.locals h (over NS u m₀) → o.cls = .type cls → News h₀ env.locals h ((I, o) :: (T, listOf vs.toArray ep) :: (c, oc) :: nf) →
      wpAny (model prog w) A (assign target env v) (fun _ s₂ => wpAny (model prog w) A (execs body env) (UnrPostW h₀ env.locals { s with heap := h, toks := tk } [(I, o)] (fun m' n' => SubL keep n' ∧ CInv NS m₀ T c nf P r m' n') Q) E s₂) E { s with heap := h, toks := tk })
    (done : ∀ vs ep oc x u h tk, P [] vs → oc.data = .cell x → Fr h₀ env.locals h (over NS u m₀) → News h₀ env.locals h ((T, listOf vs.toArray ep) :: (c, oc) :: nf) → Q .next { s with heap := h, toks := tk }) :
    ItemsRest prog w A E h₀ env target body Q s [(I, cls)] keep (items.map it) m₀ ((T, listOf #[] ep₀) :: (c, oc₀) :: nf) := by
  refine itms_ind (CInv NS m₀ T c nf P) ?_ ?_ items m₀ _ ⟨[], ep₀, oc₀, x₀, rfl, hoc, agree_refl, h0⟩
  · intro a r v m news h tk o z98 hv F ho N
    refine hide fun hG9 => ?_
    obtain ⟨vs, ep, oc, x, rfl, hc, ha, hP⟩ := z98
    refine hG9 ?_
    rw [ha.eq] at F
    exact step a r vs ep oc x m v h tk o hP hc hv F ho N
  · intro m news h tk z94 F N
    refine hide fun hG9 => ?_
    obtain ⟨vs, ep, oc, x, rfl, hc, ha, hP⟩ := z94
    refine hG9 ?_
    rw [ha.eq] at F
    exact done vs ep oc x m h tk hP hc F N
theorem cell_end {α : Type} {L I T c : Addr} {s₁ : Shared} {keep all nf : Led} {NS : List Str} {m₀ m' : Str → Option Value} {P : List α → List Value → Prop} {r : List α} {o oc : Obj} {x : Option Value} {vs : List Value} {ep : Nat} {h' : Heap} {tk : Nat}
    (F : Fr h₀ L h' m') (N : News h₀ L h' all) (hs : ∀ q ∈ (I, o) :: (T, listOf vs.toArray ep) :: (c, oc) :: nf, q ∈ all) (hT : @Ne Nat T I) (hc : @Ne Nat c I) (off : AllNe I nf) (hk : SubL keep ((T, listOf vs.toArray ep) :: (c, oc) :: nf)) (hd : oc.data = .cell x) (ha : Agree NS m₀ m') (hP : P r vs) :
    UnrEndW h₀ L s₁ [(I, o)] (fun m' n' => SubL keep n' ∧ CInv NS m₀ T c nf P r m' n') { s₁ with heap := h', toks := tk } :=
  unrEnd1 F N hs ⟨hT, hc, off⟩ ⟨hk, vs, ep, oc, x, rfl, hd, ha, hP⟩
end
end Mine
end
section
open PySem PySem.W PyProof.Rows PySem.Calls PyProof.V PySem.Spec PySem.SeqAt
set_option maxRecDepth 100000
namespace Mine
section
variable {prog : Program} {w : World} {A : Around} {E : Value → Shared → Prop} {s : Shared} {h₀ : Heap} {L a : Addr} {news : Led}
theorem lst_last {value slice : PySem.Expr} {vs : List Value} {v : Value} {u : Tok} {n : Nat} {Q : Value → Shared → Prop} (N : News h₀ L s.heap news) (hm : (a, listOf (vs ++ [v]).toArray n) ∈ news) (h : Q v s)
    (hs : subscripted slice false (.ref a) (.int (-1) u) = operate [.ref a, .int (-1) u] (getItem (.ref a) (.int (-1) u))) :
    wpAny (model prog w) A (subscriptTail value slice (.ref a) (.int (-1) u)) Q E s :=
  tail_any (lst_of N hm).typeIs slot_list_getitem.lookup (wpAny_getItem_list_neg (lst_of N hm) (by decide) (by simp; omega) (by decide) (x := v) (by
    have e : (-1 + (((vs ++ [v]).toArray.size : Nat) : Int)).toNat = vs.length := by simp only [List.size_toArray, List.length_append, List.length_cons, List.length_nil]; omega
    rw [e]; simp) h) hs
theorem tup_last {value slice : PySem.Expr} {l : List Value} {k : Int} {u : Tok} {j n : Nat} {x : Value} {Q : Value → Shared → Prop} (N : News h₀ L s.heap news) (hm : (a, tupOf l n) ∈ news)
    (h0 : -(2 ^ 63) ≤ k) (h1 : k < 2 ^ 63) (hj : seqIndex? k l.length = some j) (hx : l[j]? = some x) (h : Q x s)
    (hs : subscripted slice false (.ref a) (.int k u) = operate [.ref a, .int k u] (getItem (.ref a) (.int k u))) :
    wpAny (model prog w) A (subscriptTail value slice (.ref a) (.int k u)) Q E s := item_tupleT (tup_of N hm) h0 h1 hj hx h hs
theorem in_lst {vs : List Value} {ys : List Str} {k : Str} {t : Tok} {n : Nat} {Q : Value → Shared → Prop} (N : News h₀ L s.heap news) (hm : (a, listOf vs.toArray n) ∈ news) (hy : StrsAre vs ys) (h : Q (.bool (ys.any (· == k))) s) :
    wpAny (model prog w) A (compareOp .In (.str k t) (.ref a)) Q E s := in_list_strs (lst_of N hm) hy h
end
section
variable {prog : Program} {w : World} {A : Around} {E : Value → Shared → Prop} {Q : Flow → Shared → Prop} {s : Shared} {env : Env} {h₀ : Heap} {L : Addr}
inductive StEnd (h₀ : Heap) (L : Addr) (s : Shared) (m₀ : Str → Option Value) (S : Addr) (nf : Led) (t u : Ty) : Shared → Prop
  | mk {h' tk vs v u' ep} : Fr h₀ L h' m₀ → News h₀ L h' ((S, listOf (vs ++ [v]).toArray ep) :: nf) → TyIn nf v u' → u'.dep < u.dep → vs.length + u'.chain.length = t.chain.length → (∀ ws, TysIn nf ws u'.chain → TysIn nf (vs ++ ws) t.chain) → StEnd h₀ L s m₀ S nf t u { s with heap := h', toks := tk }
inductive StJ (m₀ : Str → Option Value) (S : Addr) (nf : Led) (t : Ty) : Nat → (Str → Option Value) → Led → Prop
  | mk {vs v u ep} : TyIn nf v u → vs.length + u.chain.length = t.chain.length → (∀ ws, TysIn nf ws u.chain → TysIn nf (vs ++ ws) t.chain) → StJ m₀ S nf t u.dep m₀ ((S, listOf (vs ++ [v]).toArray ep) :: nf)
theorem StEnd.intro {s : Shared} {m₀ : Str → Option Value} {S : Addr} {nf all : Led} {t u u' : Ty} {h' : Heap} {tk : Nat} {vs : List Value} {v : Value} {ep : Nat} (F : Fr h₀ L h' m₀) (N : News h₀ L h' all) (hn : ∀ p ∈ (S, listOf (vs ++ [v]).toArray ep) :: nf, p ∈ all) (hT : TyIn nf v u') (hd : u'.dep < u.dep)
    (hl : vs.length + u'.chain.length = t.chain.length) (hw : ∀ ws, TysIn nf ws u'.chain → TysIn nf (vs ++ ws) t.chain) : StEnd h₀ L s m₀ S nf t u { s with heap := h', toks := tk } :=
  .mk F (newsSub N hn) hT hd hl hw
noncomputable def StPost (h₀ : Heap) (L : Addr) (s : Shared) (m₀ : Str → Option Value) (S : Addr) (nf : Led) (t u : Ty) (Q : Flow → Shared → Prop) (f : Flow) (s₂ : Shared) : Prop :=
  match f with
  | .ret v => Q (.ret v) s₂
  | .brk => Q .next s₂
  | _ => StEnd h₀ L s m₀ S nf t u s₂
structure Wait (P : Prop) : Prop where
  get : P
theorem steps_while {test : PySem.Expr} {body : List Stmt} {pos : Pos} {S : Addr} {v₀ : Value} {t : Ty} {n0 : Nat} {nf news : Led} {m₀ : Str → Option Value} (F : Fr h₀ L s.heap m₀) (N : News h₀ L s.heap news) (hn : ∀ p ∈ (S, listOf (List.toArray [v₀]) n0) :: nf, p ∈ news) (hT : TyIn nf v₀ t)
    (turn : Wait (∀ vs v u ep h tk, TyIn nf v u → vs.length + u.chain.length = t.chain.length → (∀ ws, TysIn nf ws u.chain → TysIn nf (vs ++ ws) t.chain) → Fr h₀ L h m₀ → News h₀ L h ((S, listOf (vs ++ [v]).toArray ep) :: nf) →
      wpAny (model prog w) A (isTrue test env (eval test env)) (fun b s₂ => if b = true then wpAny (model prog w) A (execs body env) (StPost h₀ L s m₀ S nf t u Q) E s₂ else Q .next s₂) E { s with heap := h, toks := tk }))
    (hE : PassesOwn (model prog w) A env E) :
    wpAny (model prog w) A (exec (.While test body [] pos) env) Q E s := by
  refine While_inv2 (StJ m₀ S nf t) F (newsSub N hn) (n₀ := t.dep) (.mk (vs := []) hT (Nat.zero_add _) (fun _ h => h)) ?_ hE
  intro n m₁ nx h tk F₁ N₁ z90
  cases z90 with
  | @mk vs v u ep h1 h2 h3 =>
  refine wpAny_mono (turn.get vs v u ep h tk h1 h2 h3 F₁ N₁) (fun b s₂ p => ?_) fun _ _ x => x
  cases b with
  | false => simpa using p
  | true =>
    simp only [if_true] at p ⊢
    refine wpAny_mono p (fun f s₃ q => ?_) fun _ _ x => x
    cases f with
    | ret v => exact q
    | brk => exact q
    | next =>
      cases q with
      | mk F' N' h4 h5 h6 h7 => exact ⟨_, _, _, _, _, rfl, F', N', h5, .mk h4 h6 h7⟩
    | cont =>
      cases q with
      | mk F' N' h4 h5 h6 h7 => exact ⟨_, _, _, _, _, rfl, F', N', h5, .mk h4 h6 h7⟩
end
noncomputable def atL (rows : List Imp) (bs : List Tr) (ks : Tr → Slf) (b : Ty) : At := atOf (lawInh rows b) (lawTrs rows bs ks b)
theorem chain_clear {t : Ty} (h : t.clear = true) : ∀ u ∈ t.chain, u.clear = true := by
  induction t with
  | ref m t ih => intro u hu; rcases List.mem_cons.mp hu with rfl | hu; exact h; exact ih h u hu
  | box t ih => intro u hu; rcases List.mem_cons.mp hu with rfl | hu; exact h; exact ih h u hu
  | _ => intro u hu; rw [List.mem_singleton.mp hu]; exact h
theorem chain_dep {t : Ty} {n : Nat} (h : t.dep ≤ n) : ∀ u ∈ t.chain, u.dep ≤ n := by
  induction t with
  | ref m t ih => intro u hu; rcases List.mem_cons.mp hu with rfl | hu; exact h; exact ih (by simp only [Ty.dep] at h; exact Nat.le_of_succ_le h) u hu
  | box t ih => intro u hu; rcases List.mem_cons.mp hu with rfl | hu; exact h; exact ih (by simp only [Ty.dep] at h; exact Nat.le_of_succ_le h) u hu
  | _ => intro u hu; rw [List.mem_singleton.mp hu]; exact h
theorem chain_len : ∀ t : Ty, t.chain.length ≤ t.dep + 1
  | .ref _ t => by have := chain_len t; simp only [Ty.chain, Ty.dep, List.length_cons]; exact Nat.succ_le_succ this
  | .box t => by have := chain_len t; simp only [Ty.chain, Ty.dep, List.length_cons]; exact Nat.succ_le_succ this
  | .int => Nat.le_refl _
  | .adt => Nat.le_refl _
  | .par => Nat.le_refl _
  | .bool => Nat.le_refl _
  | .var => Nat.le_refl _
theorem NumsAre.split {vs : List Value} {ns : List Nat} (h : NumsAre vs ns) (hl : ns.length ≤ 8) : (vs = [] ∧ ns = []) ∨ (∃ n : Nat, ∃ t, vs = [.int n t] ∧ ns = [n]) ∨ (∃ x y r, vs = x :: y :: r ∧ r.length ≤ 8 ∧ ∀ ts, atOf ns ts = .fault) := by
  cases h with
  | nil => exact .inl ⟨rfl, rfl⟩
  | cons h =>
    cases h with
    | nil => exact .inr (.inl ⟨_, _, rfl, rfl⟩)
    | cons h => exact .inr (.inr ⟨_, _, _, rfl, by rw [h.length]; simp only [List.length_cons] at hl; exact Nat.le_of_succ_le (Nat.le_of_succ_le hl), fun ts => rfl⟩)
theorem TrsAre.split {vs : List Value} {ts : List Tr} (h : TrsAre vs ts) (hl : ts.length ≤ 8) : (vs = [] ∧ ts = []) ∨ (∃ n : Tr, ∃ t, vs = [.str n.nm t] ∧ ts = [n]) ∨ (∃ x y r, vs = x :: y :: r ∧ r.length ≤ 8 ∧ atOf [] ts = .fault) := by
  cases h with
  | nil => exact .inl ⟨rfl, rfl⟩
  | cons h =>
    cases h with
    | nil => exact .inr (.inl ⟨_, _, rfl, rfl⟩)
    | cons h => exact .inr (.inr ⟨_, _, _, rfl, by rw [h.length]; simp only [List.length_cons] at hl; exact Nat.le_of_succ_le (Nat.le_of_succ_le hl), rfl⟩)
theorem lawInh_len {rows : List Imp} {b : Ty} : (lawInh rows b).length ≤ rows.length := by
  unfold lawInh; rw [List.length_map]; exact Nat.le_trans (List.length_filter_le ..) (List.length_filter_le ..)
theorem lawTrs_len {rows : List Imp} {bs : List Tr} {ks : Tr → Slf} {b : Ty} : (lawTrs rows bs ks b).length ≤ 8 := Nat.le_trans (List.length_filter_le ..) (by decide)
theorem tryR_imp {f : Ty → At} {d n : Nat} {a : Option Bool} {b : Ty} {r : List (Option Bool × Ty)} (h : f b = .imp n) : tryR f d ((a, b) :: r) = some (.hit (.imp n) d a) := by rw [tryR, h]
theorem tryR_tr {f : Ty → At} {d : Nat} {n : Tr} {a : Option Bool} {b : Ty} {r : List (Option Bool × Ty)} (h : f b = .tr n) : tryR f d ((a, b) :: r) = some (.hit (.tr n) d a) := by rw [tryR, h]
theorem two_lt {x y : Value} {r : List Value} (h : ¬ (1 : Int) < ((x :: y :: r : List Value).length : Nat)) : False := h (Int.ofNat_lt.mpr (Nat.succ_lt_succ (Nat.succ_pos _)))
theorem one_lt {x : Value} (h : (1 : Int) < (([x] : List Value).length : Nat)) : False := absurd h (by simp)
theorem emp_t {x : Value} {r : List Value} (h : (x :: r).isEmpty = true) : False := nomatch h
inductive LatSp (n : Led) (x : At) : Value → Prop
  | many {p k l1 e1 l2 vs2 e2 a b} {c : List Value} : (p, tupOf [.ref l1, .ref l2] k) ∈ n → (l1, listOf (List.toArray (a :: b :: c)) e1) ∈ n → (l2, listOf (List.toArray vs2) e2) ∈ n → c.length ≤ 8 → x = .fault → LatSp n x (.ref p)
  | one {p k l1 e1 l2 vs2 e2} {m : Nat} {t} : (p, tupOf [.ref l1, .ref l2] k) ∈ n → (l1, listOf (List.toArray [.int m t]) e1) ∈ n → (l2, listOf (List.toArray vs2) e2) ∈ n → x = .imp m → LatSp n x (.ref p)
  | no {p k l1 e1 l2 e2} : (p, tupOf [.ref l1, .ref l2] k) ∈ n → (l1, listOf (List.toArray []) e1) ∈ n → (l2, listOf (List.toArray []) e2) ∈ n → x = .no → LatSp n x (.ref p)
  | tr {p k l1 e1 l2 e2} {m : Tr} {t} : (p, tupOf [.ref l1, .ref l2] k) ∈ n → (l1, listOf (List.toArray []) e1) ∈ n → (l2, listOf (List.toArray [.str m.nm t]) e2) ∈ n → x = .tr m → LatSp n x (.ref p)
  | trs {p k l1 e1 l2 e2 a b} {c : List Value} : (p, tupOf [.ref l1, .ref l2] k) ∈ n → (l1, listOf (List.toArray []) e1) ∈ n → (l2, listOf (List.toArray (a :: b :: c)) e2) ∈ n → c.length ≤ 8 → x = .fault → LatSp n x (.ref p)
theorem LatIs.sp {n : Led} {r : Value} {ns : List Nat} {ts : List Tr} (h : LatIs n r ns ts) (h1 : ns.length ≤ 8) (h2 : ts.length ≤ 8) : LatSp n (atOf ns ts) r := by
  obtain ⟨p, k, l1, vs1, e1, l2, vs2, e2, rfl, q1, q2, q3, q4, q5⟩ := h
  rcases q4.split h1 with ⟨rfl, rfl⟩ | ⟨m, t, rfl, rfl⟩ | ⟨x, y, c, rfl, hc, hf⟩
  · rcases q5.split h2 with ⟨rfl, rfl⟩ | ⟨m, t, rfl, rfl⟩ | ⟨x, y, c, rfl, hc, hf⟩
    · exact .no q1 q2 q3 rfl
    · exact .tr q1 q2 q3 rfl
    · exact .trs q1 q2 q3 hc hf
  · exact .one q1 q2 q3 rfl
  · exact .many q1 q2 q3 hc (hf ts)
end Mine
end
section
open PySem PySem.W PyProof.Rows PySem.Calls PyProof.V PySem.Spec PySem.SeqAt
set_option maxRecDepth 100000
namespace Mine
theorem self_iff {b u : Ty} {k : Slf} : selfOf b k = some u ↔ lawSelf u k = some b := by
  cases k with
  | value => simp only [selfOf, lawSelf, Option.some.injEq]; exact eq_comm
  | non => simp [selfOf, lawSelf]
  | rm m =>
    simp only [lawSelf, Option.some.injEq]
    cases b with
    | ref n t =>
      simp only [selfOf, Ty.ref.injEq]
      by_cases h : n = m
      · subst h; simp [eq_comm]
      · rw [if_neg h]; simp [Ne.symm h]
    | _ => simp [selfOf]
theorem inh_eq {imps : List Imp} {b : Ty} : (imps.filter (hitI "go" b)).map (·.num) = lawInh imps b := by
  unfold lawInh
  rw [List.filter_filter]
  congr 1
  refine List.filter_congr fun i _ => ?_
  unfold hitI hitL
  rw [show (("go" : Str) == "go") = true from by decide, Bool.true_and, ← Bool.decide_and]
  exact decide_eq_decide.mpr (and_congr_right fun _ => self_iff)
theorem tell_eq {imps : List Imp} {bs : List Tr} {ks : Tr → Slf} {b : Ty} {t : Tr} (hk : ∀ i ∈ imps, ∀ t, i.trait = some t → i.kind = ks t) : hitT "go" imps bs b (t, ks t) = tells imps bs ks b t := by
  unfold hitT tells
  rw [show (("go" : Str) == "go") = true from by decide, Bool.true_and]
  dsimp only
  rw [Bool.eq_iff_iff]
  rw [Bool.or_eq_true, Bool.and_eq_true, decide_eq_true_iff, decide_eq_true_iff, List.any_eq_true]
  have e1 : ∀ {u : Ty}, selfOf b (ks t) = some u → ((decide (u = .par ∧ t ∈ bs) || imps.any (hitC t u)) = true ↔ (∃ x ∈ imps.filter (hitL b), decide (x.trait = some t) = true) ∨ (t ∈ bs ∧ lawSelf .par (ks t) = some b)) := by
    intro u hu
    rw [Bool.or_eq_true, decide_eq_true_iff, List.any_eq_true]
    constructor
    · rintro (⟨rfl, h⟩ | ⟨i, hi, h⟩)
      · exact .inr ⟨h, self_iff.mp hu⟩
      · obtain ⟨h1, h2⟩ := of_decide_eq_true h
        refine .inl ⟨i, List.mem_filter.mpr ⟨hi, decide_eq_true ?_⟩, decide_eq_true h1⟩
        rw [hk i hi t h1, h2]; exact self_iff.mp hu
    · rintro (⟨i, hi, h⟩ | ⟨h1, h2⟩)
      · obtain ⟨hi, hl⟩ := List.mem_filter.mp hi
        have h1 := of_decide_eq_true h
        have h2 : lawSelf i.told i.kind = some b := of_decide_eq_true hl
        rw [hk i hi t h1, ← self_iff, hu] at h2
        exact .inr ⟨i, hi, decide_eq_true ⟨h1, (Option.some.inj h2).symm⟩⟩
      · rw [← self_iff, hu] at h2
        exact .inl ⟨Option.some.inj h2, h1⟩
  cases hu : selfOf b (ks t) with
  | some u => exact e1 hu
  | none =>
    constructor
    · intro h; cases h
    · rintro (⟨i, hi, h⟩ | ⟨_, h2⟩)
      · obtain ⟨hi, hl⟩ := List.mem_filter.mp hi
        have h2 : lawSelf i.told i.kind = some b := of_decide_eq_true hl
        rw [hk i hi t (of_decide_eq_true h), ← self_iff, hu] at h2; cases h2
      · rw [← self_iff, hu] at h2; cases h2
theorem at_eq {imps : List Imp} {bs : List Tr} {ks : Tr → Slf} (hk : ∀ i ∈ imps, ∀ t, i.trait = some t → i.kind = ks t) : atI "go" imps [(.A, ks .A), (.B, ks .B)] bs = atL imps bs ks := by
  funext b
  unfold atI atL lawTrs
  rw [inh_eq]
  congr 1
  simp only [List.filter_cons, List.filter_nil, tell_eq hk]
  cases tells imps bs ks b .A <;> cases tells imps bs ks b .B <;> rfl
theorem come_no {imps : List Imp} {trs : List (Tr × Slf)} {bs : List Tr} {b : Ty} : atI "come" imps trs bs b = .no := by
  unfold atI
  have h1 : imps.filter (hitI "come" b) = [] := List.filter_eq_nil_iff.mpr fun i _ => by unfold hitI; rw [show (("come" : Str) == "go") = false from by decide]; simp
  have h2 : trs.filter (hitT "come" imps bs b) = [] := List.filter_eq_nil_iff.mpr fun i _ => by rw [hitT_come]; simp
  rw [h1, h2]; rfl
theorem come_find {imps : List Imp} {trs : List (Tr × Slf)} {bs : List Tr} : findP (atI "come" imps trs bs) Ty.bool.chain 0 = .no := by
  simp only [Ty.chain, findP, tryR, recvs, come_no]; rfl
end Mine
end
section
open PySem PySem.W PyProof.Rows PySem.Calls PyProof.V PySem.Spec PySem.SeqAt
set_option maxRecDepth 100000
namespace Mine
theorem om_m0 {x M K : Int} (h : 0 < M) (hb : M ≤ K) : x % M < K := Int.lt_of_lt_of_le (Int.emod_lt_of_pos x h) hb
theorem om_m0n {x M K : Int} (h : M ≠ 0) (hb : K < 0) : K < x % M := Int.lt_of_lt_of_le hb (Int.emod_nonneg x h)
theorem om_m3 {x M c d e K : Int} (h : 0 < M) (hb : M + c + d + e ≤ K) : x % M + c + d + e < K := Int.lt_of_lt_of_le (Int.add_lt_add_right (Int.add_lt_add_right (Int.add_lt_add_right (Int.emod_lt_of_pos x h) c) d) e) hb
theorem om_m3n {x M c d e K : Int} (h : M ≠ 0) (hb : K < 0 + c + d + e) : K < x % M + c + d + e := Int.lt_of_lt_of_le hb (Int.add_le_add_right (Int.add_le_add_right (Int.add_le_add_right (Int.emod_nonneg x h) c) d) e)
theorem om_lo {y K : Int} (h : 0 ≤ y) (hb : K < 0) : K < y := Int.lt_of_lt_of_le hb h
theorem om_hi {y m K : Int} (h : y < m) (hb : m ≤ K) : y < K := Int.lt_of_lt_of_le h hb
noncomputable def CallsH (H : Heap → Prop) (w : World) (loose : List Str) (mean : ExcName → Option Value) (mg mb : Str → Option Value) (ℓ : Nat) (f : Addr) (vs : List Value) (news : Led) (Out : Led → Value → Prop) : Prop :=
  ∀ (dp un : Nat) (gd : Option (List Code)) (cn : Str) (cs : Scope) (a : Addr) (ccd : Value) (cl : List (Str × Addr)) (outer : List Env) (A₀ : Around) (base h₀ : Heap) (L : Addr) (m : Str → Option Value) (s : Shared) (Q E : Value → Shared → Prop),
    H h₀ → Below A₀ base outer h₀ → Fr h₀ L s.heap m → (Mine.hd.heap_1 w.params).In h₀ → News h₀ L s.heap news → Top Mine.vw loose mean mg mb h₀ → cs.kind = .function → dp + 4 * ℓ < 400 → un + 20 * ℓ < 2000 →
    (∀ r news' h' tk', Fr h₀ L h' m → News h₀ L h' news' → Out news' r → Q r { s with heap := h', toks := tk' }) →
    wpAny (model Challenge.rw_nu0383_01.row.prog w) (ktrTop dp un gd cn cs L a ccd cl outer) (call (.ref f) vs) Q E s
theorem CallsH.of {H : Heap → Prop} {w : World} {loose : List Str} {mean : ExcName → Option Value} {mg mb : Str → Option Value} {ℓ : Nat} {f : Addr} {vs : List Value} {news : Led} {Out : Led → Value → Prop}
  (HH : ∀ (dp un : Nat) (gd : Option (List Code)) (cn : Str) (cs : Scope) (a : Addr) (ccd : Value) (cl : List (Str × Addr)) (outer : List Env) (A₀ : Around) (base h₀ : Heap) (L : Addr) (m : Str → Option Value) (sh : Heap) (sg : Array GenState) (sd : Drawn) (sk : Nat) (so : OsState) (Q E : Value → Shared → Prop),
    H h₀ → Below A₀ base outer h₀ → Fr h₀ L sh m → (Mine.hd.heap_1 w.params).In h₀ → News h₀ L sh news → Top Mine.vw loose mean mg mb h₀ → cs.kind = .function → dp + 4 * ℓ < 400 → un + 20 * ℓ < 2000 →
    (∀ r news' h' tk', Fr h₀ L h' m → News h₀ L h' news' → Out news' r → Q r ⟨h', sg, sd, tk', so⟩) →
    wpAny (model Challenge.rw_nu0383_01.row.prog w) (ktrTop dp un gd cn cs L a ccd cl outer) (call (.ref f) vs) Q E ⟨sh, sg, sd, sk, so⟩) : CallsH H w loose mean mg mb ℓ f vs news Out := by
  intro dp un gd cn cs a ccd cl outer A₀ base h₀ L m s Q E
  cases s
  exact HH dp un gd cn cs a ccd cl outer A₀ base h₀ L m _ _ _ _ _ Q E
noncomputable def SrcO (o : Obj) : Prop := ∃ (x y : Int) (tx ty : Tok) (ep : Nat), o = listOf (List.toArray [.int x tx, .int y ty]) ep ∧ 0 ≤ x ∧ 0 ≤ y ∧ y < 2147483647
theorem pool_x (c : Int) (b : Bool) : 0 ≤ (if -1 - c > c then -1 - c else c) * (if b = true then 1 else 0) := by
  cases b
  · simp
  · rw [if_pos rfl, Int.mul_one]; split <;> omega
theorem fmod_lo (a : Int) : 0 ≤ a.fmod 2147483647 := Int.fmod_nonneg_of_pos a (by decide)
theorem fmod_hi (a : Int) : a.fmod 2147483647 < 2147483647 := Int.fmod_lt_of_pos a (by decide)
theorem nth_of {vs : List Value} {d : Int} (h0 : 0 ≤ d) (h1 : d < (vs.length : Int)) : ∃ v, vs[d.toNat]? = some v ∧ v ∈ vs := by
  have h : d.toNat < vs.length := by first | exact (Int.toNat_lt (by assumption)).mpr (by assumption) | omega
  exact ⟨vs[d.toNat], List.getElem?_eq_getElem h, List.getElem_mem h⟩
inductive Pull (a : Addr) (o : Obj) : Led → Led → Prop
  | here {l} : Pull a o ((a, o) :: l) l
  | there {x l r} : Pull a o l r → Pull a o (x :: l) (x :: r)
theorem Pull.mem {a : Addr} {o : Obj} {l r : Led} (h : Pull a o l r) : (a, o) ∈ l := by
  induction h with
  | here => exact .head _
  | there _ ih => exact .tail _ ih
theorem Pull.sub {a : Addr} {o : Obj} {l r : Led} (h : Pull a o l r) : ∀ p ∈ r, p ∈ l := by
  induction h with
  | here => exact fun p hp => .tail _ hp
  | there _ ih => exact fun p hp => (List.mem_cons.mp hp).elim (fun e => e ▸ .head _) fun q => .tail _ (ih p q)
theorem allLt_up {d x : Addr} (h : @LT.lt Nat _ d x) : ∀ {l : Led}, AllLt d l → AllLt x l
  | [], _ => trivial
  | _ :: _, a => ⟨Nat.lt_trans a.1 h, allLt_up h a.2⟩
theorem islist_keep {h₀ g : Heap} {L a : Addr} {m : Str → Option Value} {xs : Array Value} (F : Fr h₀ L g m) (h : h₀.IsList a xs) : g.IsList a xs := by
  obtain ⟨o, e, r⟩ := h
  exact ⟨o, F.keep _ _ e, r⟩
end Mine
end
section
open PySem PySem.W PyProof.Rows PySem.Calls PyProof.V PySem.Spec PySem.SeqAt
set_option maxRecDepth 100000
namespace Mine
theorem map_fnd {m₀ m : Str → Option Value} {v : Value} (h : Agree ["turn", "found"] m₀ m) (hv : m "found" = some v) : m = over ["turn"] m (fun y => if y = "found" then some v else m₀ y) := by
  funext y
  unfold over
  by_cases q : (["turn"] : List Str).contains y = true
  · rw [if_pos q]
  · rw [if_neg q]
    dsimp only
    by_cases q2 : y = "found"
    · rw [if_pos q2, q2, hv]
    · rw [if_neg q2]
      refine h y ?_
      have h1 : y ≠ "turn" := fun e => q (by rw [e]; decide)
      simp [h1, q2]
noncomputable def WInv (m₀ : Str → Option Value) (sa I : Addr) (rest : Led) (r : List Nat) (m : Str → Option Value) (nw : Led) : Prop :=
  ∃ o v ty nf, nw = (sa, o) :: nf ∧ SrcO o ∧ AllNe sa nf ∧ AllNe I nf ∧ (∀ p ∈ rest, p ∈ nf) ∧ Agree ["turn", "found"] m₀ m ∧ m "found" = some (.ref v) ∧ TyIn nf (.ref v) ty ∧ ty.clear = true ∧ ty.dep + r.length ≤ 2
end Mine
end
section
open PySem PySem.W PyProof.Rows PySem.Calls PyProof.V PySem.Spec PySem.SeqAt
set_option maxRecDepth 100000
namespace Mine
structure Mark (a : Addr) : Prop where
  on : True
section
variable {prog : Program} {w : World} {A : Around} {E : Value → Shared → Prop} {s : Shared} {env : Env} {h₀ : Heap} {target : PySem.Expr} {body : List Stmt} {Q : Flow → Shared → Prop}
theorem wrap_loop {sa I : Addr} {o9 : Obj} {a9 : Addr} {y9 : Ty} {nf0 rest : Led} {n : Nat} {m₀ : Str → Option Value} {cls : String} (hsub : ∀ p ∈ rest, p ∈ nf0) (hne : AllNe sa nf0) (hI : AllNe I nf0) (ho : SrcO o9) (hT : TyIn nf0 (.ref a9) y9) (hc : y9.clear = true) (hd : y9.dep + n ≤ 2) (hm : m₀ "found" = some (.ref a9))
    (step : ∀ (a : Nat) (r : List Nat) o v ty nf u h tk oI (t : Tok), Mark I → SrcO o → AllNe sa nf → AllNe I nf → (∀ p ∈ rest, p ∈ nf) → TyIn nf (.ref v) ty → ty.clear = true → ty.dep + (r.length + 1) ≤ 2 → Fr h₀ env.locals h (over ["turn"] u (fun y => if y = "found" then some (.ref v) else m₀ y)) → News h₀ env.locals h ((I, oI) :: (sa, o) :: nf) →
      wpAny (model prog w) A (assign target env (.int (a : Nat) t)) (fun _ s₂ => wpAny (model prog w) A (execs body env) (UnrPostW h₀ env.locals { s with heap := h, toks := tk } [(I, oI)] (fun m' n' => SubL [] n' ∧ WInv m₀ sa I rest r m' n') Q) E s₂) E { s with heap := h, toks := tk })
    (done : ∀ o v ty nf u h tk, SrcO o → AllNe sa nf → (∀ p ∈ rest, p ∈ nf) → TyIn nf (.ref v) ty → ty.clear = true → ty.dep ≤ 2 → Fr h₀ env.locals h (over ["turn"] u (fun y => if y = "found" then some (.ref v) else m₀ y)) → News h₀ env.locals h ((sa, o) :: nf) → Q .next { s with heap := h, toks := tk }) :
    ItemsRest prog w A E h₀ env target body Q s [(I, cls)] [] (rngItems n) m₀ ((sa, o9) :: nf0) := by
  refine itms_ind (it := fun i : Nat => .tok fun t => .int (i : Nat) t) (WInv m₀ sa I rest) ?_ ?_ (List.range n) m₀ _ ⟨o9, a9, y9, nf0, rfl, ho, hne, hI, hsub, agree_refl, hm, hT, hc, by simpa using hd⟩
  · intro a r v' m news h tk o z98 z99 F hc' N
    refine hide fun hG9 => ?_
    obtain ⟨o1, v, ty, nf, rfl, g1, g2, g3, g4, g5, g6, g7, g8, g9⟩ := z98
    obtain ⟨t, rfl⟩ := z99
    refine hG9 ?_
    rw [map_fnd g5 g6] at F
    exact step a r o1 v ty nf m h tk o t ⟨trivial⟩ g1 g2 g3 g4 g7 g8 (by simpa using g9) F N
  · intro m news h tk z94 F N
    refine hide fun hG9 => ?_
    obtain ⟨o1, v, ty, nf, rfl, g1, g2, g3, g4, g5, g6, g7, g8, g9⟩ := z94
    refine hG9 ?_
    rw [map_fnd g5 g6] at F
    exact done o1 v ty nf m h tk g1 g2 g4 g7 g8 (by simpa using g9) F N
theorem wrap_end {L : Addr} {s₁ : Shared} {m₀ m' : Str → Option Value} {sa I : Addr} {oI o : Obj} {rest nf all : Led} {r : List Nat} {v : Addr} {ty : Ty} {h' : Heap} {tk : Nat}
    (F : Fr h₀ L h' m') (N : News h₀ L h' all) (hs : ∀ q ∈ (I, oI) :: (sa, o) :: nf, q ∈ all) (hsI : @Ne Nat sa I) (ho : SrcO o) (h1 : AllNe sa nf) (h2 : AllNe I nf) (h3 : ∀ p ∈ rest, p ∈ nf) (ha : Agree ["turn", "found"] m₀ m') (hm : m' "found" = some (.ref v)) (hT : TyIn nf (.ref v) ty) (hc : ty.clear = true) (hd : ty.dep + r.length ≤ 2) :
    UnrEndW h₀ L s₁ [(I, oI)] (fun m' n' => SubL [] n' ∧ WInv m₀ sa I rest r m' n') { s₁ with heap := h', toks := tk } :=
  unrEnd1 F N hs ⟨hsI, h2⟩ ⟨trivial, o, v, ty, nf, rfl, ho, h1, h2, h3, ha, hm, hT, hc, hd⟩
end
end Mine
end
section
open PySem PySem.W PyProof.Rows PySem.Calls PyProof.V PySem.Spec PySem.SeqAt
set_option maxRecDepth 100000
namespace Mine
theorem sd_empty {w : World} {e : Nat} : SD w (dictOf [] e) [] := by
  refine ⟨#[], e, ⟨rfl, rfl, rfl⟩, rfl, ?_, ?_, List.nodup_nil⟩
  · intro x hx; simp at hx
  · exact .nil
theorem stored_nil {k : Str} {v : Value} : stored [] k v = [(k, v)] := rfl
theorem stored_one {k k1 : Str} {v v1 : Value} (h : (k1 == k) = false) : stored [(k1, v1)] k v = [(k1, v1), (k, v)] := by
  have h' : ¬ k1 = k := by simpa using h
  simp [stored, h']
theorem stored_new {kvs : List (Str × Value)} {k : Str} {v : Value} (h : valueAt kvs k = none) : stored kvs k v = kvs ++ [(k, v)] := by
  have := valueAt_isSome_eq_any kvs k
  rw [h] at this
  unfold stored
  rw [if_neg (by rw [← this]; simp)]
section
variable {w : World} {A : Around} {E : Value → Shared → Prop} {s : Shared} {h₀ : Heap} {L d : Addr} {m : Str → Option Value} {news : Led} {g : Obj → Led}
theorem set_sd {o : Obj} {kvs kvs' : List (Str × Value)} {k : Str} {t : Tok} {v : Value} {Q : Unit → Shared → Prop} (F : Fr h₀ L s.heap m) (N : News h₀ L s.heap news) (U : UpdF d o news g) (hd : SD w o kvs) (hz : kvs.length ≤ 16) (hs : stored kvs k v = kvs')
    (h : ∀ h' o', Fr h₀ L h' m → News h₀ L h' (g o') → SD w o' kvs' → Q () { s with heap := h', toks := s.toks + 1 }) : wpAny (model Challenge.rw_nu0383_01.row.prog w) A (setItem (.ref d) (.str k t) v) Q E s := by
  subst hs
  exact kda_set (knd := PySem.strKind _ _) F N U hd (strKind_is _ _ _ _) (Nat.le_trans hz (by rw [sizeLine_eq]; decide)) h
end
end Mine
end
section
open PySem PySem.W PyProof.Rows PySem.Calls PyProof.V PySem.Spec PySem.SeqAt
set_option maxRecDepth 100000
namespace Mine
inductive Stage (w : World) (n : Led) : List (Tr × Tok) → List (Str × Value) → List (Str × Value) → Prop
  | s0 {t u} : Stage w n [(.A, t), (.B, u)] [] []
  | s1 {u v k x} : KdIs v k → TrIn w n x k → Stage w n [(.B, u)] [("A", v)] [("A", x)]
  | s2 {v k x v2 k2 x2} : KdIs v k → TrIn w n x k → KdIs v2 k2 → TrIn w n x2 k2 → Stage w n [] [("A", v), ("B", v2)] [("A", x), ("B", x2)]
theorem Stage.mono {w : World} {n n' : Led} {r : List (Tr × Tok)} {a b : List (Str × Value)} (h : Stage w n r a b) (hs : ∀ p ∈ n, p ∈ n') : Stage w n' r a b := by
  cases h with
  | s0 => exact .s0
  | s1 h1 h2 => exact .s1 h1 (h2.mono hs)
  | s2 h1 h2 h3 h4 => exact .s2 h1 (h2.mono hs) h3 (h4.mono hs)
theorem Stage.new {w : World} {n : Led} {tr : Tr} {t : Tok} {r : List (Tr × Tok)} {a b : List (Str × Value)} (h : Stage w n ((tr, t) :: r) a b) : valueAt a tr.nm = none ∧ valueAt b tr.nm = none ∧ a.length ≤ 8 ∧ b.length ≤ 8 := by
  cases h with
  | s0 => exact ⟨rfl, rfl, by simp, by simp⟩
  | s1 => exact ⟨rfl, rfl, by simp, by simp⟩
theorem Stage.step {w : World} {n : Led} {tr : Tr} {t : Tok} {r : List (Tr × Tok)} {a b : List (Str × Value)} {v x : Value} {k : Slf} (h : Stage w n ((tr, t) :: r) a b) (hv : KdIs v k) (hx : TrIn w n x k) : Stage w n r (a ++ [(tr.nm, v)]) (b ++ [(tr.nm, x)]) := by
  cases h with
  | s0 => exact .s1 hv hx
  | s1 h1 h2 => exact .s2 h1 h2 hv hx
theorem valueAt_snoc {kvs : List (Str × Value)} {k : Str} {v : Value} (h : valueAt kvs k = none) : valueAt (kvs ++ [(k, v)]) k = some v := by
  induction kvs with
  | nil => simp [valueAt]
  | cons p r ih =>
    unfold valueAt at h ih ⊢
    rw [List.cons_append, List.find?_cons]
    rw [List.find?_cons] at h
    split
    · rename_i q; rw [q] at h; cases h
    · rename_i q; rw [q] at h; exact ih h
noncomputable def Ne7 (as : List Addr) (n : Led) : Prop := ∀ a ∈ as, AllNe a n
section
variable {prog : Program} {w : World} {A : Around} {E : Value → Shared → Prop} {s : Shared} {env : Env} {h₀ : Heap} {target : PySem.Expr} {body : List Stmt} {Q : Flow → Shared → Prop}
inductive TInv (w : World) (m₀ : Str → Option Value) (sa kd td I : Addr) (E3 : Led) (nf0 : Led) : List (Tr × Tok) → (Str → Option Value) → Led → Prop
  | mk {o ko to kvs tes nf r m} : SrcO o → SD w ko kvs → SD w to tes → Stage w nf r kvs tes → (∀ p ∈ nf0, p ∈ nf) → Ne7 (I :: sa :: kd :: td :: E3.map (·.1)) nf → Agree ["trait"] m₀ m → TInv w m₀ sa kd td I E3 nf0 r m ((sa, o) :: (kd, ko) :: (td, to) :: (E3 ++ nf))
theorem traits_loop {sa kd td I : Addr} {so ko to : Obj} {E3 nf0 keep : Led} {t u : Tok} {m₀ : Str → Option Value} {cls : String} (ho : SrcO so) (hk : SD w ko []) (ht : SD w to []) (hne : Ne7 (I :: sa :: kd :: td :: E3.map (·.1)) nf0)
    (step : ∀ tr tt r o ko to kvs tes nf u h tk oI, Mark I → Stage w nf ((tr, tt) :: r) kvs tes → SrcO o → SD w ko kvs → SD w to tes → (∀ p ∈ nf0, p ∈ nf) → Ne7 (I :: sa :: kd :: td :: E3.map (·.1)) nf → Fr h₀ env.locals h (over ["trait"] u m₀) → News h₀ env.locals h ((I, oI) :: (sa, o) :: (kd, ko) :: (td, to) :: (E3 ++ nf)) →
      wpAny (model prog w) A (assign target env (.str tr.nm tt)) (fun _ s₂ => wpAny (model prog w) A (execs body env) (UnrPostW h₀ env.locals { s with heap := h, toks := tk } [(I, oI)] (fun m' n' => SubL keep n' ∧ TInv w m₀ sa kd td I E3 nf0 r m' n') Q) E s₂) E { s with heap := h, toks := tk })
    (done : ∀ o ko to nf u h tk vA kA xA vB kB xB, SrcO o → SD w ko [("A", vA), ("B", vB)] → SD w to [("A", xA), ("B", xB)] → KdIs vA kA → KdIs vB kB → TrIn w nf xA kA → TrIn w nf xB kB → (∀ p ∈ nf0, p ∈ nf) → Ne7 (I :: sa :: kd :: td :: E3.map (·.1)) nf → Fr h₀ env.locals h (over ["trait"] u m₀) → News h₀ env.locals h ((sa, o) :: (kd, ko) :: (td, to) :: (E3 ++ nf)) → Q .next { s with heap := h, toks := tk }) :
    ItemsRest prog w A E h₀ env target body Q s [(I, cls)] keep (([(Tr.A, t), (Tr.B, u)] : List (Tr × Tok)).map fun p => .val (.str p.1.nm p.2)) m₀ ((sa, so) :: (kd, ko) :: (td, to) :: (E3 ++ nf0)) := by
  refine itms_ind (TInv w m₀ sa kd td I E3 nf0) ?_ ?_ _ m₀ _ (.mk ho hk ht .s0 (fun _ h => h) hne agree_refl)
  · intro z90 r v m news h tk oI z98 hv F ho' N
    refine hide fun hG9 => ?_
    obtain ⟨tr, tt⟩ := z90
    cases z98 with
    | @mk o ko to kvs tes nf _ _ g1 g2 g3 g4 g5 g6 g7 =>
    refine hG9 ?_
    obtain rfl : v = _ := hv
    rw [g7.eq] at F
    exact step tr tt r o ko to kvs tes nf m h tk oI ⟨trivial⟩ g4 g1 g2 g3 g5 g6 F N
  · intro m news h tk z94 F N
    refine hide fun hG9 => ?_
    cases z94 with
    | @mk o ko to kvs tes nf _ _ g1 g2 g3 g4 g5 g6 g7 =>
    refine hG9 ?_
    rw [g7.eq] at F
    cases g4 with
    | s2 h1 h2 h3 h4 => exact done o ko to nf m h tk _ _ _ _ _ _ g1 g2 g3 h1 h3 h2 h4 g5 g6 F N
end
end Mine
end
section
open PySem PySem.W PyProof.Rows PySem.Calls PyProof.V PySem.Spec PySem.SeqAt
set_option maxRecDepth 100000
namespace Mine
theorem pathOf_ne : ∀ a ≤ 8, ∀ b ≤ 8, a ≠ b → pathOf a ≠ pathOf b := by decide +kernel
theorem valueAt_app_ne {kvs : List (Str × Value)} {k k' : Str} {v : Value} (h : k ≠ k') : valueAt (kvs ++ [(k, v)]) k' = valueAt kvs k' := by
  unfold valueAt
  rw [List.find?_append]
  have : List.find? (fun kv : Str × Value => decide (kv.1 = k')) [(k, v)] = none := by simp [h]
  rw [this, Option.or_none]
theorem ImpIn.ext {w : World} {fz fz' : Led} {es : List (Str × Value)} {v x : Value} {i : Imp} {a : Nat} (h : ImpIn w fz es v i) (hs : ∀ p ∈ fz, p ∈ fz') (hi : i.num < a) (ha : a ≤ 8) : ImpIn w fz' (es ++ [(pathOf a, x)]) v i := by
  have h' := h.mono hs
  cases h' with
  | mk h1 h2 h3 h4 h5 h6 h7 h8 =>
    refine .mk h1 h2 h3 h4 h5 h6 h7 fun e => ⟨(h8 e).1, (h8 e).2.1, (h8 e).2.2.1, ?_, (h8 e).2.2.2.2⟩
    rw [valueAt_app_ne (pathOf_ne a ha i.num (Nat.le_trans (Nat.le_of_lt hi) ha) (Nat.ne_of_gt hi))]
    exact (h8 e).2.2.2.1
theorem ImpsIn.step {w : World} {fz fz' : Led} {es : List (Str × Value)} {vs : List Value} {v x : Value} {imps : List Imp} {i : Imp} {a : Nat} (h : ImpsIn w fz es vs imps) (hs : ∀ p ∈ fz, p ∈ fz') (hl : ∀ i ∈ imps, i.num < a) (ha : a ≤ 8) (hn : ImpIn w fz' (es ++ [(pathOf a, x)]) v i) :
    ImpsIn w fz' (es ++ [(pathOf a, x)]) (vs ++ [v]) (imps ++ [i]) := by
  induction h with
  | nil => exact .cons hn .nil
  | cons h1 _ ih => exact .cons (h1.ext hs (hl _ (.head _)) ha) (ih fun j hj => hl j (.tail _ hj))
theorem RowsIn.app {n : Led} {vs us : List Value} {is js : List Imp} (h : RowsIn n vs is) (k : RowsIn n us js) : RowsIn n (vs ++ us) (is ++ js) := by
  induction h with
  | nil => exact k
  | cons a b c d e _ ih => exact .cons a b c d e ih
structure WFact (w : World) (ks : Tr → Slf) (nf : Led) (d : Nat) (so : Obj) (es : List (Str × Value)) (vs rvs : List Value) (imps : List Imp) : Prop where
  sd : SD w so es
  ins : ImpsIn w nf es vs imps
  rows : RowsIn nf rvs imps
  len : imps.length = d
  lt : ∀ i ∈ imps, i.num < d
  kinds : ∀ i ∈ imps, ∀ t, i.trait = some t → i.kind = ks t
  el : es.length ≤ d
  new : ∀ k, d ≤ k → k ≤ 8 → valueAt es (pathOf k) = none
theorem WFact.start {w : World} {ks : Tr → Slf} {nf : Led} {so : Obj} (h : SD w so []) : WFact w ks nf 0 so [] [] [] [] := ⟨h, .nil, .nil, rfl, (fun _ h => nomatch h), (fun _ h => nomatch h), Nat.le_refl _, fun _ _ _ => rfl⟩
theorem WFact.step {w : World} {ks : Tr → Slf} {nf nf' : Led} {d : Nat} {so so' : Obj} {es : List (Str × Value)} {vs rvs : List Value} {imps : List Imp} {i : Imp} {v rv x : Value} (h : WFact w ks nf d so es vs rvs imps) (hs : ∀ p ∈ nf, p ∈ nf') (hd : d ≤ 7) (hso : SD w so' (es ++ [(pathOf d, x)])) (hi : ImpIn w nf' (es ++ [(pathOf d, x)]) v i) (hr : RowsIn nf' [rv] [i]) (hn : i.num = d) (hk : ∀ t, i.trait = some t → i.kind = ks t) :
    WFact w ks nf' (d + 1) so' (es ++ [(pathOf d, x)]) (vs ++ [v]) (rvs ++ [rv]) (imps ++ [i]) := by
  refine ⟨hso, h.ins.step hs h.lt (Nat.le_succ_of_le hd) hi, (h.rows.mono hs).app hr, by simp [h.len], fun j hj => ?_, fun j hj => ?_, by simp [h.el], fun k h1 h2 => ?_⟩
  · rcases List.mem_append.mp hj with q | q
    · exact Nat.lt_succ_of_lt (h.lt j q)
    · rw [List.mem_singleton.mp q, hn]; exact Nat.lt_succ_self _
  · rcases List.mem_append.mp hj with q | q
    · exact h.kinds j q
    · rw [List.mem_singleton.mp q]; exact hk
  · rw [valueAt_app_ne (pathOf_ne d (Nat.le_succ_of_le hd) k h2 (Nat.ne_of_lt h1))]
    exact h.new k (Nat.le_of_succ_le h1) h2
section
variable {prog : Program} {w : World} {A : Around} {E : Value → Shared → Prop} {s : Shared} {env : Env} {h₀ : Heap} {target : PySem.Expr} {body : List Stmt} {Q : Flow → Shared → Prop}
inductive IInv (w : World) (NS : List Str) (ks : Tr → Slf) (m₀ : Str → Option Value) (sa sg im rl I : Addr) (nf0 : Led) (n : Nat) : List Nat → (Str → Option Value) → Led → Prop
  | mk {d o so es vs ep rvs rep imps nf r m} : r = List.range' d r.length → d + r.length = n → SrcO o → WFact w ks nf d so es vs rvs imps → (∀ p ∈ nf0, p ∈ nf) → Ne7 [I, sa, sg, im, rl] nf → Agree NS m₀ m → IInv w NS ks m₀ sa sg im rl I nf0 n r m ((sa, o) :: (sg, so) :: (im, listOf (List.toArray vs) ep) :: (rl, listOf (List.toArray rvs) rep) :: nf)
theorem imps_loop {NS : List Str} {ks : Tr → Slf} {sa sg im rl I : Addr} {so sgo : Obj} {nf0 : Led} {n ep rep : Nat} {m₀ : Str → Option Value} {cls : String} (ho : SrcO so) (hg : SD w sgo []) (hne : Ne7 [I, sa, sg, im, rl] nf0) (hn : n ≤ 4)
    (step : ∀ (a : Nat) (r : List Nat) o so es vs ep rvs rep imps nf u h tk oI (t : Tok), Mark I → a ≤ 3 → WFact w ks nf a so es vs rvs imps → SrcO o → (∀ p ∈ nf0, p ∈ nf) → Ne7 [I, sa, sg, im, rl] nf → Fr h₀ env.locals h (over NS u m₀) → News h₀ env.locals h ((I, oI) :: (sa, o) :: (sg, so) :: (im, listOf (List.toArray vs) ep) :: (rl, listOf (List.toArray rvs) rep) :: nf) →
      (∀ o so es vs ep rvs rep imps nf m nw, WFact w ks nf (a + 1) so es vs rvs imps → SrcO o → (∀ p ∈ nf0, p ∈ nf) → Ne7 [I, sa, sg, im, rl] nf → Agree NS m₀ m → nw = (sa, o) :: (sg, so) :: (im, listOf (List.toArray vs) ep) :: (rl, listOf (List.toArray rvs) rep) :: nf → IInv w NS ks m₀ sa sg im rl I nf0 n r m nw) →
      wpAny (model prog w) A (assign target env (.int (a : Nat) t)) (fun _ s₂ => wpAny (model prog w) A (execs body env) (UnrPostW h₀ env.locals { s with heap := h, toks := tk } [(I, oI)] (fun m' n' => SubL [] n' ∧ IInv w NS ks m₀ sa sg im rl I nf0 n r m' n') Q) E s₂) E { s with heap := h, toks := tk })
    (done : ∀ o so es vs ep rvs rep imps nf u h tk, WFact w ks nf n so es vs rvs imps → SrcO o → (∀ p ∈ nf0, p ∈ nf) → Ne7 [I, sa, sg, im, rl] nf → Fr h₀ env.locals h (over NS u m₀) → News h₀ env.locals h ((sa, o) :: (sg, so) :: (im, listOf (List.toArray vs) ep) :: (rl, listOf (List.toArray rvs) rep) :: nf) → Q .next { s with heap := h, toks := tk }) :
    ItemsRest prog w A E h₀ env target body Q s [(I, cls)] [] (rngItems n) m₀ ((sa, so) :: (sg, sgo) :: (im, listOf #[] ep) :: (rl, listOf #[] rep) :: nf0) := by
  refine itms_ind (it := fun i : Nat => .tok fun t => .int (i : Nat) t) (IInv w NS ks m₀ sa sg im rl I nf0 n) ?_ ?_ (List.range n) m₀ _ (.mk (vs := []) (rvs := []) (by rw [List.length_range, List.range_eq_range']) (by simp) ho (.start hg) (fun _ h => h) hne agree_refl)
  · intro a r v' m news h tk oI z98 z99 F hc' N
    refine hide fun hG9 => ?_
    cases z98 with
    | @mk d o so es vs ep rvs rep imps nf _ _ g0 g1 g2 g3 g4 g5 g6 =>
    obtain ⟨t, rfl⟩ := z99
    refine hG9 ?_
    rw [List.length_cons, List.range'_succ] at g0
    refine hide fun hG9 => ?_
    obtain ⟨rfl, g0⟩ := List.cons.inj g0
    refine hG9 ?_
    rw [List.length_cons] at g1
    rw [g6.eq] at F
    exact step a r o so es vs ep rvs rep imps nf m h tk oI t ⟨trivial⟩ (Nat.le_of_lt_succ (Nat.lt_of_lt_of_le (om_lt g1) hn)) g3 g2 g4 g5 F N fun o so es vs ep rvs rep imps nf m nw k1 k2 k3 k4 k5 e => e ▸ .mk g0 (om_eq g1) k2 k1 k3 k4 k5
  · intro m news h tk z94 F N
    refine hide fun hG9 => ?_
    cases z94 with
    | @mk d o so es vs ep rvs rep imps nf _ _ g0 g1 g2 g3 g4 g5 g6 =>
    refine hG9 ?_
    rw [g6.eq] at F
    obtain rfl : d = n := by simpa using g1
    exact done o so es vs ep rvs rep imps nf m h tk g3 g2 g4 g5 F N
end
end Mine
end
section
open PySem PySem.W PyProof.Rows PySem.Calls PyProof.V PySem.Spec PySem.SeqAt
set_option maxRecDepth 100000
namespace Mine
theorem told_ty {n : Led} {v : Value} {b1 b2 b3 b4 b5 : Addr} (h : v ∈ ([.ref b1, .ref b2, .ref b3, .ref b4, .ref b2, .ref b5] : List Value)) (h1 : TyIn n (.ref b1) .int) (h2 : TyIn n (.ref b2) .adt) (h3 : TyIn n (.ref b3) (.box .adt)) (h4 : TyIn n (.ref b4) (.ref false .adt)) (h5 : TyIn n (.ref b5) (.ref true .adt)) :
    ∃ ty, TyIn n v ty ∧ IsPat ty := by
  exact (List.forall_mem_cons.mpr ⟨⟨_, h1, .int⟩, List.forall_mem_cons.mpr ⟨⟨_, h2, .adt⟩, List.forall_mem_cons.mpr ⟨⟨_, h3, .box⟩, List.forall_mem_cons.mpr ⟨⟨_, h4, .ref _⟩, List.forall_mem_cons.mpr ⟨⟨_, h2, .adt⟩, List.forall_mem_cons.mpr ⟨⟨_, h5, .ref _⟩, List.forall_mem_nil _⟩⟩⟩⟩⟩⟩ : ∀ v ∈ ([.ref b1, .ref b2, .ref b3, .ref b4, .ref b2, .ref b5] : List Value), ∃ ty, TyIn n v ty ∧ IsPat ty) v h
structure KdF (kvs : List (Str × Value)) (fv : Tr → Value) (ks : Tr → Slf) : Prop where
  at_ : ∀ t, valueAt kvs t.nm = some (fv t)
  is_ : ∀ t, KdIs (fv t) (ks t)
theorem refs_ref {v : Value} {as : List Addr} (h : v ∈ as.map Value.ref) : ∃ b, v = .ref b := by
  obtain ⟨b, _, rfl⟩ := List.mem_map.mp h
  exact ⟨b, rfl⟩
section
variable {prog : Program} {w : World} {A : Around} {E : Value → Shared → Prop} {s : Shared} {h₀ : Heap} {L a b : Addr} {m : Str → Option Value} {news : Led} {Q : Value → Shared → Prop}
theorem lst_add {xs ys : List Value} {n k : Nat} (F : Fr h₀ L s.heap m) (N : News h₀ L s.heap news) (ha : (a, listOf xs.toArray n) ∈ news) (hb : (b, listOf ys.toArray k) ∈ news) (hz : xs.length + ys.length ≤ 100)
    (h : ∀ D h', Fr h₀ L h' m → News h₀ L h' ((D, listOf (xs ++ ys).toArray 0) :: news) → (∀ p ∈ news, p.1 < D) → Q (.ref D) { s with heap := h' }) : wpAny (model prog w) A (binaryOp .Add (.ref a) (.ref b)) Q E s :=
  kmk_add_lit F N (lst_of N ha) (lst_of N hb) (zs := xs ++ ys) (by simp) h (by simp only [List.toList_toArray]; rw [sizeLine_eq]; exact Nat.le_trans (by assumption) (by decide))
end
end Mine
end
section
open PySem PySem.W PyProof.Rows PySem.Calls PyProof.V PySem.Spec PySem.SeqAt
set_option maxRecDepth 100000
namespace Mine
theorem Pull.all {a : Addr} {o : Obj} {l r : Led} (h : Pull a o l r) {P : Addr × Obj → Prop} (h1 : P (a, o)) (h2 : ∀ p ∈ r, P p) : ∀ p ∈ l, P p := by
  induction h with
  | here => exact List.forall_mem_cons.mpr ⟨h1, h2⟩
  | there _ ih => exact List.forall_mem_cons.mpr ⟨h2 _ (.head _), ih fun p hp => h2 p (.tail _ hp)⟩
theorem mem_swap {a b : Addr × Obj} {l : Led} : ∀ p ∈ a :: b :: l, p ∈ b :: a :: l := List.forall_mem_cons.mpr ⟨.tail _ (.head _), List.forall_mem_cons.mpr ⟨.head _, fun _ h => .tail _ (.tail _ h)⟩⟩
structure Dsc (as : List Addr) (d : Addr) (n : Led) : Prop where
  lt : ∀ a ∈ as, @LT.lt Nat _ a d
  ne : Ne7 as n
theorem Dsc.start {as : List Addr} {d : Addr} {n : Led} {o : Obj} (h : ∀ a ∈ as, @LT.lt Nat _ a d) (hn : Ne7 as n) : Dsc as d ((d, o) :: n) := ⟨h, fun a ha => ⟨Nat.ne_of_gt (h a ha), hn a ha⟩⟩
theorem Dsc.step {as : List Addr} {d e : Addr} {n : Led} {o : Obj} (h : Dsc as d n) (l : @LT.lt Nat _ d e) : Dsc as e ((e, o) :: n) := ⟨fun a ha => Nat.lt_trans (h.lt a ha) l, fun a ha => ⟨Nat.ne_of_gt (Nat.lt_trans (h.lt a ha) l), h.ne a ha⟩⟩
inductive WOut (w : World) (sa : Addr) (rest : Led) : Led → Value → Prop
  | mk {p kp x rl rvs rep o nf imps} {ks : Tr → Slf} : SrcO o → AllNe sa nf → (∀ q ∈ rest, q ∈ nf) → (p, tupOf [.ref x, .ref rl] kp) ∈ nf →
    WorldIn w nf (.ref x) imps [(.A, ks .A), (.B, ks .B)] → (rl, listOf (List.toArray rvs) rep) ∈ nf → RowsIn nf rvs imps → imps.length ≤ 4 → (∀ i ∈ imps, i.num ≤ 8) → (∀ i ∈ imps, ∀ t, i.trait = some t → i.kind = ks t) → WOut w sa rest ((sa, o) :: nf) (.ref p)
theorem world_out {w : World} {ks : Tr → Slf} {sa sg im rl x wd tr D : Addr} {o so to : Obj} {nf rest : Led} {n ep rep : Nat} {es : List (Str × Value)} {vs rvs : List Value} {imps : List Imp} {v1 v2 v3 v7 v8 xA xB : Value} {t1 t2 t3 t4 t5 t6 t7 t8 : Tok}
    (hW : WFact w ks nf n so es vs rvs imps) (hn : n ≤ 4) (ho : SrcO o) (hx : (x, instObj 324 wd) ∈ nf) (hwd : (wd, dictOf [en w "modules" t1 v1, en w "adts" t2 v2, en w "variants" t3 v3, en w "sigs" t4 (.ref sg), en w "traits" t5 (.ref tr), en w "impls" t6 (.ref im), en w "consts" t7 v7, en w "bodies" t8 v8] 8) ∈ nf)
    (htr : (tr, to) ∈ nf) (hto : SD w to [("A", xA), ("B", xB)]) (l1 : (sg == sysModules) = false) (l2 : (tr == sysModules) = false) (hA : TrIn w nf xA (ks .A)) (hB : TrIn w nf xB (ks .B)) (ne : AllNe sa nf) (n1 : @Ne Nat D sa) (n2 : @Ne Nat sg sa) (n3 : @Ne Nat im sa) (n4 : @Ne Nat rl sa) (hr : ∀ p ∈ rest, p ∈ nf) :
    WOut w sa rest ((sa, o) :: (D, tupOf [.ref x, .ref rl] 0) :: (sg, so) :: (im, listOf (List.toArray vs) ep) :: (rl, listOf (List.toArray rvs) rep) :: nf) (.ref D) := by
  have up : ∀ p ∈ nf, p ∈ (D, tupOf [.ref x, .ref rl] 0) :: (sg, so) :: (im, listOf (List.toArray vs) ep) :: (rl, listOf (List.toArray rvs) rep) :: nf := fun p hp => .tail _ (.tail _ (.tail _ (.tail _ hp)))
  have hl := hW.ins.length
  have h4 := hW.len
  refine .mk (ks := ks) ho ⟨n1, n2, n3, n4, ne⟩ (fun p hp => up p (hr p hp)) (.head _) ?_ (.tail _ (.tail _ (.tail _ (.head _)))) (hW.rows.mono up) (Nat.le_trans (Nat.le_of_eq h4) hn) (fun i hi => Nat.le_trans (Nat.le_of_lt (hW.lt i hi)) (Nat.le_trans hn (by decide))) hW.kinds
  exact .mk (up _ hx) (up _ hwd) (.tail _ (.head _)) hW.sd l1 (up _ htr) hto l2 (.two (hA.mono up) (hB.mono up)) (.tail _ (.tail _ (.head _))) (hW.ins.mono up) (Nat.le_trans (Nat.le_of_eq (hl.trans h4)) (Nat.le_trans hn (by decide)))
inductive KOut (trk : Option Tr) (ks : Tr → Slf) (v : Value) (o : Obj) : Prop
  | mk {kk : Slf} : SrcO o → KdIs v kk → (∀ t, trk = some t → kk = ks t) → KOut trk ks v o
theorem join_k {M : Model} {A : Around} {E Q : Value → Shared → Prop} {c : Sem Value} {h₀ h : Heap} {L sa : Addr} {m : Str → Option Value} {g : Array GenState} {d : Drawn} {X : Nat} {os : OsState} {so : Obj} {news rest : Led} {tv : Value} {trk : Option Tr} {ks : Tr → Slf} (hT : TrIs tv trk)
    (F : Fr h₀ L h m) (N : News h₀ L h news) (hp : ∀ p ∈ (sa, so) :: rest, p ∈ news)
    (ev : ∀ G : Value → Shared → Prop, Wait True → News h₀ L h ((sa, so) :: rest) → (∀ v o h' tk', KOut trk ks v o → Fr h₀ L h' m → News h₀ L h' ((sa, o) :: rest) → G v ⟨h', g, d, tk', os⟩) → wpAny M A c G E ⟨h, g, d, X, os⟩)
    (k : ∀ v o h' tk', KOut trk ks v o → Fr h₀ L h' m → News h₀ L h' ((sa, o) :: rest) → Q v ⟨h', g, d, tk', os⟩) : wpAny M A c Q E ⟨h, g, d, X, os⟩ :=
  ev Q ⟨trivial⟩ (newsSub N hp) k
section
variable {w : World} {h₀ : Heap}
theorem turn_end {L : Addr} {s₁ : Shared} {NS : List Str} {ks : Tr → Slf} {m₀ m' : Str → Option Value} {sa sg im rl I D1 D2 D3 D0 Dn Dt xi xid md lp Dr xs xd bt : Addr} {oI o so so' mo od : Obj} {nf0 nf all r1 r2 r3 r4 r5 : Led} {n a : Nat} {r : List Nat} {h' : Heap} {tk : Nat} {es : List (Str × Value)} {vs rvs : List Value} {imps : List Imp}
    {ep rep n1 n2 kt kq : Nat} {tr : Option Tr} {trv rk rg sp : Value} {kk : Slf} {t tp tq s1 s2 s3 s4 s5 s6 s7 s8 : Tok}
    (fin : ∀ o so es vs ep rvs rep imps nf m nw, WFact w ks nf (a + 1) so es vs rvs imps → SrcO o → (∀ p ∈ nf0, p ∈ nf) → Ne7 [I, sa, sg, im, rl] nf → Agree NS m₀ m → nw = (sa, o) :: (sg, so) :: (im, listOf (List.toArray vs) ep) :: (rl, listOf (List.toArray rvs) rep) :: nf → IInv w NS ks m₀ sa sg im rl I nf0 n r m nw)
    (hW : WFact w ks nf a so es vs rvs imps) (ha : a ≤ 3) (hnf : ∀ p ∈ nf0, p ∈ nf) (F : Fr h₀ L h' m') (N : News h₀ L h' all)
    (pI : Pull I oI all r1) (p1 : Pull sa o r1 r2) (p2 : Pull sg so' r2 r3) (p3 : Pull im (listOf (List.toArray (vs ++ [.ref xi])) ep) r3 r4) (p4 : Pull rl (listOf (List.toArray (rvs ++ [.ref Dt])) rep) r4 r5)
    (hs : ∀ p ∈ nf, p ∈ r5) (y1 : TyIn nf (.ref D2) .int) (y2 : TyIn nf (.ref D3) .adt) (y3 : TyIn nf (.ref D1) (.box .adt)) (y4 : TyIn nf (.ref D0) (.ref false .adt)) (hDn : (Dn, tupOf [.str "ref" tq, .none, .bool true, .ref D3] kq) ∈ r5)
    (hbt : .ref bt ∈ ([.ref D2, .ref D3, .ref D1, .ref D0, .ref D3, .ref Dn] : List Value)) (hDt : (Dt, tupOf [trv, .int (a : Nat) t, .ref bt, rk] kt) ∈ r5)
    (hxi : (xi, instObj 295 xid) ∈ r5) (hxid : (xid, dictOf [en w "number" s1 (.int (a : Nat) t), en w "regions" s2 rg, en w "params" s3 (.ref lp), en w "trait" s4 trv, en w "trait_args" s5 (.ref Dr), en w "self_type" s6 (.ref bt), en w "methods" s7 (.ref md), en w "spot" s8 sp] 8) ∈ r5)
    (hps : (lp, listOf #[] n1) ∈ r5) (hta : (Dr, tupOf [] n2) ∈ r5) (hmd : (md, mo) ∈ r5) (hmo : SD w mo [("go", .str (pathOf a) tp)]) (hmn : (md == sysModules) = false) (hx1 : (xs, instObj 252 xd) ∈ r5) (hx2 : (xd, od) ∈ r5)
    (hsig : SigIn w [(xs, instObj 252 xd), (xd, od)] xs kk) (hkk : KdIs rk kk) (hT : TrIs trv tr) (hk : ∀ t, tr = some t → kk = ks t) (hsd : SD w so' (es ++ [(pathOf a, .ref xs)])) (hnew : valueAt es (pathOf a) = none) (ho : SrcO o)
    (ne : Ne7 [I, sa, sg, im, rl] r5) (i1 : @LT.lt Nat _ sa I) (i2 : @LT.lt Nat _ sg I) (i3 : @LT.lt Nat _ im I) (i4 : @LT.lt Nat _ rl I) (hag : Agree NS m₀ m') :
    UnrEndW h₀ L s₁ [(I, oI)] (fun m' n' => SubL [] n' ∧ IInv w NS ks m₀ sa sg im rl I nf0 n r m' n') { s₁ with heap := h', toks := tk } := by
  obtain ⟨ty, hty, hpat⟩ := told_ty hbt (y1.mono hs) (y2.mono hs) (y3.mono hs) (y4.mono hs) (.ref hDn (y2.mono hs))
  have m1 := p1.mem
  have m2 := p1.sub _ p2.mem
  have m3 := p1.sub _ (p2.sub _ p3.mem)
  have m4 := p1.sub _ (p2.sub _ (p3.sub _ p4.mem))
  have m5 : ∀ p ∈ r5, p ∈ r1 := fun p hp => p1.sub _ (p2.sub _ (p3.sub _ (p4.sub _ hp)))
  have hsub : ∀ q ∈ (sa, o) :: (sg, so') :: (im, listOf (List.toArray (vs ++ [.ref xi])) ep) :: (rl, listOf (List.toArray (rvs ++ [.ref Dt])) rep) :: r5, q ∈ r1 :=
    List.forall_mem_cons.mpr ⟨m1, List.forall_mem_cons.mpr ⟨m2, List.forall_mem_cons.mpr ⟨m3, List.forall_mem_cons.mpr ⟨m4, m5⟩⟩⟩⟩
  refine unrEnd1 F N (List.forall_mem_cons.mpr ⟨pI.mem, fun q hq => pI.sub _ (hsub q hq)⟩) ⟨Nat.ne_of_lt i1, Nat.ne_of_lt i2, Nat.ne_of_lt i3, Nat.ne_of_lt i4, ne _ (.head _)⟩ ⟨trivial, ?_⟩
  refine fin _ _ _ _ _ _ _ _ _ _ _ (hW.step (i := ⟨tr, a, ty, kk⟩) hs (Nat.le_trans ha (by decide)) hsd (.mk hxi hxid hps hta hT hty hpat fun _ => ⟨hmd, hmo, hmn, valueAt_snoc hnew, hsig.mono (List.forall_mem_cons.mpr ⟨hx1, List.forall_mem_cons.mpr ⟨hx2, List.forall_mem_nil _⟩⟩)⟩) (.cons hDt hT hty hpat hkk .nil) rfl hk) ho (fun p hp => hs p (hnf p hp)) ne hag rfl
end
end Mine
end
section
open PySem PySem.W PyProof.Rows PySem.Calls PyProof.V PySem.Spec PySem.SeqAt
set_option maxRecDepth 100000
namespace Mine
noncomputable def CallsT (w : World) (loose : List Str) (mean : ExcName → Option Value) (mg mb : Str → Option Value) (ℓ : Nat) (f : Addr) (vs : List Value) (news : Led) (Out : Led → Value → Prop) : Prop :=
  ∀ (dp un : Nat) (gd : Option (List Code)) (cn : Str) (cs : Scope) (a : Addr) (ccd : Value) (cl : List (Str × Addr)) (A₀ : Around) (base h₀ : Heap) (L : Addr) (m : Str → Option Value) (s : Shared) (Q E : Value → Shared → Prop),
    Below A₀ base [] h₀ → Fr h₀ L s.heap m → (Mine.hd.heap_1 w.params).In h₀ → News h₀ L s.heap news → Top Mine.vw loose mean mg mb h₀ → (Mine.hd.heap_1 w.params).In base → Top Mine.vw loose mean mg mb base → cs.kind = .function → dp + 4 * ℓ < 400 → un + 20 * ℓ < 2000 →
    (∀ r news' h' tk', Fr h₀ L h' m → News h₀ L h' news' → Out news' r → Q r { s with heap := h', toks := tk' }) →
    wpAny (model Challenge.rw_nu0383_01.row.prog w) (ktrTop dp un gd cn cs L a ccd cl []) (call (.ref f) vs) Q E s
theorem CallsT.of {w : World} {loose : List Str} {mean : ExcName → Option Value} {mg mb : Str → Option Value} {ℓ : Nat} {f : Addr} {vs : List Value} {news : Led} {Out : Led → Value → Prop}
  (H : ∀ (dp un : Nat) (gd : Option (List Code)) (cn : Str) (cs : Scope) (a : Addr) (ccd : Value) (cl : List (Str × Addr)) (A₀ : Around) (base h₀ : Heap) (L : Addr) (m : Str → Option Value) (sh : Heap) (sg : Array GenState) (sd : Drawn) (sk : Nat) (so : OsState) (Q E : Value → Shared → Prop),
    Below A₀ base [] h₀ → Fr h₀ L sh m → (Mine.hd.heap_1 w.params).In h₀ → News h₀ L sh news → Top Mine.vw loose mean mg mb h₀ → (Mine.hd.heap_1 w.params).In base → Top Mine.vw loose mean mg mb base → cs.kind = .function → dp + 4 * ℓ < 400 → un + 20 * ℓ < 2000 →
    (∀ r news' h' tk', Fr h₀ L h' m → News h₀ L h' news' → Out news' r → Q r ⟨h', sg, sd, tk', so⟩) →
    wpAny (model Challenge.rw_nu0383_01.row.prog w) (ktrTop dp un gd cn cs L a ccd cl []) (call (.ref f) vs) Q E ⟨sh, sg, sd, sk, so⟩) : CallsT w loose mean mg mb ℓ f vs news Out := by
  intro dp un gd cn cs a ccd cl A₀ base h₀ L m s Q E
  cases s
  exact H dp un gd cn cs a ccd cl A₀ base h₀ L m _ _ _ _ _ Q E
section
variable {h₀ g : Heap} {L : Addr} {m : Str → Option Value} {R : Result → Shared → Prop} {v : Value} {s' : Shared}
theorem settle (G : Fr h₀ L g m) (st : h₀.StaysIn g) (hl : LeaveS0 [L] h₀ L m g R v s') : R (.ok (.ret v)) s' := by
  have n₀ : h₀.get? L = none := kts_self G
  obtain ⟨oL, es, ep, hL, hd, hk, hx⟩ := G.ns
  obtain ⟨g', L', m', news', T, F', N', k⟩ := hl
  obtain ⟨sl, hs⟩ := T.up hL
  have ne : ∀ {b : Addr} {o : Obj}, h₀.get? b = some o → b ∉ [L] := fun {b o} e q => by
    rw [List.mem_singleton.mp q, n₀] at e
    exact nomatch e
  have up : ∀ {b : Addr} {o : Obj}, h₀.get? b = some o → g'.get? b = some o := fun e => T.other _ _ (st _ _ e) (ne e)
  refine k ⟨⟨_, es, ep, F'.keep _ _ hs, hd, hk, hx⟩, fun b o e => F'.keep b o (up e), G.above⟩ fun p hp => ?_
  obtain ⟨p1, p2, p3⟩ := N' p hp
  refine ⟨p1, fun q => ?_, ?_⟩
  · rw [q, hs] at p3
    exact nomatch p3
  · cases q : h₀.get? p.1 with
    | none => rfl
    | some o =>
      rw [up q] at p3
      exact nomatch p3
end
section
variable {prog : Program} {w : World} {A₀ A : Around} {s : Shared} {base h₀ : Heap} {env : Env} {L : Addr} {m : Str → Option Value} {news : List (Addr × Obj)} {K : Frag} {p : Program} {loose : List Str} {mean : ExcName → Option Value} {mg mb : Str → Option Value}
    {R : Result → Shared → Prop} {name qual : Str} {params : Arguments} {body : List Stmt} {scope : Scope} {dV kV doc pm cdv ct oc : Value} {an od : Option Addr} {osl : Array (Option Value)} {f : Addr} {args : Args} {binds : List (Str × Value)}
theorem code_try (B : Below A₀ base [] h₀) (F : Fr h₀ L s.heap m) (X₀ : K.In h₀) (N : News h₀ L s.heap news) (T : Top p loose mean mg mb h₀) (hA : A.frames = some [env]) (hf : env.frame = some L) (hke : env.scope.kind = .function)
    (ho : K.lookup f = some ⟨oc, od, .func (fnOf name qual params body scope dV kV doc pm an cdv ct), osl⟩) (hcd : codeIn K cdv qual = true) (hroom : A.depth < recursionLimit)
    (hbind : BindsTo s (fnOf name qual params body scope dV kV doc pm an cdv ct) args binds) (hloc : ∀ y ∈ binds, scope.names.lookup y.1 = some .local)
    (h : ∀ g L' h₁, Fr h₀ L g m → Fr g L' h₁ (fun y => binds.reverse.lookup y) → News g L' h₁ news → Below A base [env] g → K.In g → Top p loose mean mg mb g → KtsDicts ([env].filterMap (·.frame)) g →
      wpAny (model prog w) (A.deeper (envOf qual scope L' f cdv)) (execs body (envOf qual scope L' f cdv))
        (fun fl s' => LeaveS0 ([env].filterMap (·.frame)) h₀ L m g R (match fl with | .ret v => v | _ => .none) s')
        (fun e s' => wpAny (model prog w) (A.deeper (envOf qual scope L' f cdv)) (leaving (envOf qual scope L' f cdv) e) (fun _ s'' => R (.error e) s'') (fun e' s'' => R (.error e') s'') s')
        { s with heap := h₁, toks := s.toks + binds.length })
    (hco : scope.isCoroutine = false) (hgen : scope.isGenerator = false) (hk : scope.kind = .function) (hcell : ∀ x ∈ scope.names, x.2 ≠ .cell) : codeAny (model prog w) A (.call (.ref f) args) R s := by
  obtain ⟨G, BG, st, _⟩ := groundX (R := R) B F N hA hf hke
  have X := X₀.keeps F.keep
  have hfs : [env].filterMap (·.frame) = [L] := by simp [hf]
  refine codeAny_call_def (fd := fnOf name qual params body scope dV kV doc pm an cdv ct) (body := body) (binds := binds) hroom (X _ _ ho) rfl (T.nolimit.keeps F.keep) (codeRec_of X hcd) rfl hbind hcell hloc (fun h₁ hns hk₁ => ?_) hco hgen hk
  refine wpAny_mono (h _ s.heap.objs.size h₁ G ⟨hns, fun b o e => hk₁ b o (of_hideAll _ e), Nat.le_of_eq (hideAll_size _ _)⟩ (fun q hq => ⟨hk₁ _ _ (N q hq).1, Nat.ne_of_lt (Heap.lt_size (N q hq).1), hideAll_none _ (List.mem_map_of_mem hq)⟩) BG (X₀.keeps st) (T.keeps st) ?_) (fun fl s' hl => ?_) fun _ _ y => y
  · intro b hb
    rw [hfs, List.mem_singleton] at hb
    subst hb
    obtain ⟨o, es, ep, e, d, _⟩ := G.ns
    exact ⟨o, es, ep, e, d⟩
  · rw [hfs] at hl
    exact settle G st hl
end
end Mine
end
section
open PySem PySem.W PyProof.Rows PySem.Calls PyProof.V PySem.Spec PySem.SeqAt
set_option maxRecDepth 100000
namespace Mine
noncomputable def wordP : Option Bool → PyData
  | none => .none
  | some false => .str "ref"
  | some true => .str "mut"
noncomputable def resP : Res → PyData
  | .fault => .str "fault"
  | .unk => .str "unknown"
  | .hit (.imp n) d a => .tuple [.int (n : Nat), .int (d : Nat), wordP a]
  | .hit (.tr t) d a => .tuple [.str t.nm, .int (d : Nat), wordP a]
  | _ => .none
theorem wordP_ok (a : Option Bool) : (wordP a).canLay0 = true ∧ (wordP a).depth ≤ 1 ∧ PyData.eqv (wordP a) (wordP a) = true := by
  rcases a with _ | (_ | _) <;> decide +kernel
theorem nm_ok (t : Tr) : PyData.strOk t.nm = true := by cases t <;> decide +kernel
theorem resP_shaped (r : Res) : shaped (resP r) = true := by
  rcases r with _ | _ | _ | ⟨x, d, a⟩
  · kernel_rfl
  · kernel_rfl
  · kernel_rfl
  · rcases a with _ | (_ | _) <;> (cases x with
      | tr t => cases t <;> kernel_rfl
      | _ => kernel_rfl)
theorem resP_self (r : Res) : PyData.eqv (resP r) (resP r) = true := by
  rcases r with _ | _ | _ | ⟨x, d, a⟩
  · decide +kernel
  · decide +kernel
  · decide +kernel
  · have h := (wordP_ok a).2.2
    cases x with
    | imp n => simp [resP, PyData.eqv, PyData.eqvAll, h]
    | tr t => simp [resP, PyData.eqv, PyData.eqvAll, h]
    | _ => exact (by decide +kernel : PyData.eqv .none .none = true)
theorem WordIs.reads {h : Heap} {v : Value} {a : Option Bool} (x : WordIs v a) : ∃ as, Reads h v (wordP a) as := by
  cases x <;> first | exact ⟨_, .none⟩ | exact ⟨_, .str _ _⟩
section
variable {h₀ h : Heap} {L : Addr} {news : Led}
theorem ToldIs.reads (N : News h₀ L h news) {v : Value} {r : Res} (x : ToldIs news v r) : ∃ as, Reads h v (resP r) as := by
  cases x with
  | fault => exact ⟨_, .str _ _⟩
  | unk => exact ⟨_, .str _ _⟩
  | no => exact ⟨_, .none⟩
  | imp m w => obtain ⟨as, rw⟩ := w.reads (h := h); exact ⟨_, reads_tuple_at (N.get m) rfl rfl (.cons (.int _ _) (.cons (.int _ _) (.cons rw .nil)))⟩
  | tr m w => obtain ⟨as, rw⟩ := w.reads (h := h); exact ⟨_, reads_tuple_at (N.get m) rfl rfl (.cons (.str _ _) (.cons (.int _ _) (.cons rw .nil)))⟩
theorem ToldIs.mono {n n' : Led} {v : Value} {r : Res} (x : ToldIs n v r) (hs : ∀ p ∈ n, p ∈ n') : ToldIs n' v r := by
  cases x with
  | fault => exact .fault
  | unk => exact .unk
  | no => exact .no
  | imp m w => exact .imp (hs _ m) w
  | tr m w => exact .tr (hs _ m) w
theorem ToldIs.handed {n : Led} {v : Value} {r : Res} (x : ToldIs n v r) : handedIn v = true := by cases x <;> rfl
end
section
variable {prog : Program} {w : World} {A : Around} {E : Value → Shared → Prop} {s : Shared} {h₀ : Heap} {L : Addr} {news fz fz2 : Led} {Q : Value → Shared → Prop}
theorem told_ne {a b : Value} {r : Res} (N : News h₀ L s.heap news) (x : ToldIs fz a r) (y : ToldIs fz2 b r) (s1 : ∀ p ∈ fz, p ∈ news) (s2 : ∀ p ∈ fz2, p ∈ news) (hu : A.units + 64 < cLine) (h : Q (.bool false) s) : wpAny (model prog w) A (compareOp .NotEq a b) Q E s := by
  obtain ⟨as, r1⟩ := (x.mono s1).reads N
  obtain ⟨bs, r2⟩ := (y.mono s2).reads N
  exact ne_dataH r1 r2 (resP_shaped _) (resP_shaped _) hu (by rw [resP_self]; exact h)
theorem told_ne_unk {a : Value} {t : Tok} (N : News h₀ L s.heap news) (x : ToldIs fz a .unk) (s1 : ∀ p ∈ fz, p ∈ news) (hu : A.units + 64 < cLine) (h : Q (.bool false) s) : wpAny (model prog w) A (compareOp .NotEq a (.str "unknown" t)) Q E s :=
  told_ne N x (fz2 := news) .unk s1 (fun _ h => h) hu h
theorem told_eq_at {a : Value} {p : Addr} {k : Nat} {t1 t2 t3 : Tok} (N : News h₀ L s.heap news) (x : ToldIs fz a (.hit (.imp 1) 0 (some false))) (s1 : ∀ p ∈ fz, p ∈ news) (hp : (p, tupOf [.int 1 t1, .int 0 t2, .str "ref" t3] k) ∈ news) (hu : A.units + 64 < cLine) (h : Q (.bool true) s) : wpAny (model prog w) A (compareOp .Eq a (.ref p)) Q E s := by
  obtain ⟨as, r1⟩ := (x.mono s1).reads N
  obtain ⟨bs, r2⟩ := (ToldIs.imp (num := 1) (d := 0) hp .rd).reads N
  exact eq_dataH r1 r2 (resP_shaped _) (resP_shaped _) hu (by rw [resP_self]; exact h)
end
section
variable {prog : Program} {w : World} {A : Around} {E : Value → Shared → Prop} {s : Shared} {env : Env} {h₀ : Heap} {body : List Stmt} {Q : Flow → Shared → Prop}
theorem rng_any {x : Str} {np : Pos} {e : Int} {u : Tok} {b : Nat} {m₀ : Str → Option Value} {news : Led} (hh : A.handled = none) (F : Fr h₀ env.locals s.heap m₀) (N : News h₀ env.locals s.heap news) (hn : ∃ n : Nat, e = (n : Nat) ∧ n ≤ b) (hb : b ≤ 1000)
    (rest : ∀ n : Nat, n ≤ b → ∀ I : Addr, (∀ p ∈ news, p.1 < I) → ItemsRest prog w A E h₀ env (.Name x np) body Q s [(I, "range_iterator")] [] (rngItems n) m₀ news) :
    wpAny (model prog w) A (call (.type "range") [.int e u]) (fun xv s₁ => wpAny (model prog w) A (pyIter xv) (fun it s₂ => TurnsAt prog w A h₀ env (.Name x np) body Q E it s₂) E s₁) E s := by
  obtain ⟨n, rfl, h⟩ := hn
  exact rng_for hh F N (by first | exact Nat.le_trans (by assumption) (by assumption) | omega) (rest n h)
end
theorem two_of (l : Nat) : ∃ n : Nat, (if (if (2 : Int) < (l : Nat) then 2 else ((l : Nat) : Int)) > 1 then (if (2 : Int) < (l : Nat) then 2 else ((l : Nat) : Int)) else 1) = (n : Nat) ∧ n ≤ 2 := by
  by_cases h : 2 ≤ l
  · refine ⟨2, ?_, Nat.le_refl _⟩
    by_cases q : (2 : Int) < (l : Nat)
    · rw [if_pos q]; rfl
    · rw [if_neg q]
      rw [if_pos (by omega)]; omega
  · refine ⟨1, ?_, by decide⟩
    rw [if_neg (by omega)]
    first | omega | (split <;> omega)
section
variable {prog : Program} {w : World} {A : Around} {E : Value → Shared → Prop} {s : Shared} {env : Env} {h₀ : Heap} {target : PySem.Expr} {body : List Stmt} {Q : Flow → Shared → Prop}
inductive KInv (NS : List Str) (m₀ : Str → Option Value) (c : Addr) (n : Nat) : List Nat → (Str → Option Value) → Led → Prop
  | mk {d oc x r m} : oc.data = .cell x → r = List.range' d r.length → d + r.length = n → Agree NS m₀ m → KInv NS m₀ c n r m [(c, oc)]
theorem k_loop {NS : List Str} {c I : Addr} {oc₀ : Obj} {x₀ : Option Value} {n : Nat} {m₀ : Str → Option Value} {cls : String} (hoc : oc₀.data = .cell x₀)
    (step : ∀ (a : Nat) (r : List Nat) oc x u h tk oI (t : Tok), Mark I → a < n → oc.data = .cell x → Fr h₀ env.locals h (over NS u m₀) → News h₀ env.locals h [(I, oI), (c, oc)] → (∀ oc' x' m, oc'.data = .cell x' → Agree NS m₀ m → KInv NS m₀ c n r m [(c, oc')]) →
      wpAny (model prog w) A (assign target env (.int (a : Nat) t)) (fun _ s₂ => wpAny (model prog w) A (execs body env) (UnrPostW h₀ env.locals { s with heap := h, toks := tk } [(I, oI)] (fun m' n' => SubL [] n' ∧ KInv NS m₀ c n r m' n') Q) E s₂) E { s with heap := h, toks := tk })
    (done : ∀ oc x u h tk, oc.data = .cell x → Fr h₀ env.locals h (over NS u m₀) → News h₀ env.locals h [(c, oc)] → Q .next { s with heap := h, toks := tk }) :
    ItemsRest prog w A E h₀ env target body Q s [(I, cls)] [] (rngItems n) m₀ [(c, oc₀)] := by
  refine itms_ind (it := fun i : Nat => .tok fun t => .int (i : Nat) t) (KInv NS m₀ c n) ?_ ?_ (List.range n) m₀ _ (.mk hoc (by rw [List.length_range, List.range_eq_range']) (by simp) agree_refl)
  · intro a r v' m news h tk o z98 z99 F hc' N
    refine hide fun hG9 => ?_
    obtain ⟨t, rfl⟩ := z99
    cases z98 with
    | @mk d oc x _ _ g1 g2 g3 g4 =>
    refine hG9 ?_
    rw [List.length_cons, List.range'_succ] at g2
    refine hide fun hG9 => ?_
    obtain ⟨rfl, g2⟩ := List.cons.inj g2
    refine hG9 ?_
    rw [List.length_cons] at g3
    rw [g4.eq] at F
    exact step a r oc x m h tk o t ⟨trivial⟩ (om_lt g3) g1 F N fun oc' x' m k1 k2 => .mk k1 g2 (om_eq g3) k2
  · intro m news h tk z94 F N
    refine hide fun hG9 => ?_
    cases z94 with
    | @mk d oc x _ _ g1 g2 g3 g4 =>
    refine hG9 ?_
    rw [g4.eq] at F
    exact done oc x m h tk g1 F N
theorem k_end {NS : List Str} {m₀ m' : Str → Option Value} {c I L : Addr} {oI oc : Obj} {x : Option Value} {n : Nat} {r : List Nat} {s₁ : Shared} {h' : Heap} {tk : Nat} {all : Led}
    (fin : ∀ oc' x' m, oc'.data = .cell x' → Agree NS m₀ m → KInv NS m₀ c n r m [(c, oc')]) (F : Fr h₀ L h' m') (N : News h₀ L h' all) (h1 : (I, oI) ∈ all) (h2 : (c, oc) ∈ all) (hne : @Ne Nat c I) (hd : oc.data = .cell x) (ha : Agree NS m₀ m') :
    UnrEndW h₀ L s₁ [(I, oI)] (fun m' n' => SubL [] n' ∧ KInv NS m₀ c n r m' n') { s₁ with heap := h', toks := tk } :=
  unrEnd1 F N (List.forall_mem_cons.mpr ⟨h1, List.forall_mem_cons.mpr ⟨h2, List.forall_mem_nil _⟩⟩) ⟨hne, trivial⟩ ⟨trivial, fin _ _ _ hd ha⟩
noncomputable def SInv (NS : List Str) (m₀ : Str → Option Value) (sa : Addr) (rest : Led) (_ : List Nat) (m : Str → Option Value) (nw : Led) : Prop := ∃ o, nw = (sa, o) :: rest ∧ SrcO o ∧ Agree NS m₀ m
theorem s_loop {NS : List Str} {sa I : Addr} {o9 : Obj} {rest : Led} {n : Nat} {m₀ : Str → Option Value} {cls : String} (ho : SrcO o9)
    (step : ∀ (a : Nat) (r : List Nat) o u h tk oI (t : Tok), Mark I → SrcO o → Fr h₀ env.locals h (over NS u m₀) → News h₀ env.locals h ((I, oI) :: (sa, o) :: rest) →
      wpAny (model prog w) A (assign target env (.int (a : Nat) t)) (fun _ s₂ => wpAny (model prog w) A (execs body env) (UnrPostW h₀ env.locals { s with heap := h, toks := tk } [(I, oI)] (fun m' n' => SubL [] n' ∧ SInv NS m₀ sa rest r m' n') Q) E s₂) E { s with heap := h, toks := tk })
    (done : ∀ o u h tk, SrcO o → Fr h₀ env.locals h (over NS u m₀) → News h₀ env.locals h ((sa, o) :: rest) → Q .next { s with heap := h, toks := tk }) :
    ItemsRest prog w A E h₀ env target body Q s [(I, cls)] [] (rngItems n) m₀ ((sa, o9) :: rest) := by
  refine itms_ind (it := fun i : Nat => .tok fun t => .int (i : Nat) t) (SInv NS m₀ sa rest) ?_ ?_ (List.range n) m₀ _ ⟨o9, rfl, ho, agree_refl⟩
  · rintro a r v' m news h tk o ⟨o1, rfl, g1, g2⟩ ⟨t, rfl⟩ F hc' N
    rw [g2.eq] at F
    exact step a r o1 m h tk o t ⟨trivial⟩ g1 F N
  · rintro m news h tk ⟨o1, rfl, g1, g2⟩ F N
    rw [g2.eq] at F
    exact done o1 m h tk g1 F N
theorem s_end {NS : List Str} {m₀ m' : Str → Option Value} {sa I L : Addr} {oI o : Obj} {rest : Led} {r : List Nat} {s₁ : Shared} {h' : Heap} {tk : Nat} {all : Led}
    (F : Fr h₀ L h' m') (N : News h₀ L h' all) (h1 : (I, oI) ∈ all) (h2 : (sa, o) ∈ all) (h3 : ∀ p ∈ rest, p ∈ all) (n1 : @Ne Nat sa I) (n2 : AllNe I rest) (ho : SrcO o) (ha : Agree NS m₀ m') :
    UnrEndW h₀ L s₁ [(I, oI)] (fun m' n' => SubL [] n' ∧ SInv NS m₀ sa rest r m' n') { s₁ with heap := h', toks := tk } :=
  unrEnd1 F N (List.forall_mem_cons.mpr ⟨h1, List.forall_mem_cons.mpr ⟨h2, h3⟩⟩) ⟨n1, n2⟩ ⟨trivial, o, rfl, ho, ha⟩
end
section
variable {w : World} {loose : List Str} {mean : ExcName → Option Value} {mg mb : Str → Option Value} {ℓ : Nat} {f : Addr} {vs : List Value} {news : Led} {Out : Led → Value → Prop}
    {dp un : Nat} {gd : Option (List Code)} {cn : Str} {cs : Scope} {a : Addr} {ccd : Value} {cl : List (Str × Addr)} {outer : List Env} {A₀ : Around} {base h₀ : Heap} {L : Addr} {m : Str → Option Value} {s : Shared} {Q E : Value → Shared → Prop}
theorem CallsH.use {H : Heap → Prop} (B : Below A₀ base outer h₀) (F : Fr h₀ L s.heap m) (X : (Mine.hd.heap_1 w.params).In h₀) (N : News h₀ L s.heap news) (T : Top Mine.vw loose mean mg mb h₀) (hk : cs.kind = .function) (C : CallsH H w loose mean mg mb ℓ f vs news Out) (hH : H h₀) (hd : dp + 4 * ℓ < 400) (hu : un + 20 * ℓ < 2000)
    (k : ∀ r news' h' tk', Fr h₀ L h' m → News h₀ L h' news' → Out news' r → Q r { s with heap := h', toks := tk' }) :
    wpAny (model Challenge.rw_nu0383_01.row.prog w) (ktrTop dp un gd cn cs L a ccd cl outer) (call (.ref f) vs) Q E s := C _ _ _ _ _ _ _ _ _ _ _ _ _ _ _ _ _ hH B F X N T hk hd hu k
theorem CallsT.use (B : Below A₀ base [] h₀) (F : Fr h₀ L s.heap m) (X : (Mine.hd.heap_1 w.params).In h₀) (N : News h₀ L s.heap news) (T : Top Mine.vw loose mean mg mb h₀) (XB : (Mine.hd.heap_1 w.params).In base) (TB : Top Mine.vw loose mean mg mb base) (hk : cs.kind = .function) (C : CallsT w loose mean mg mb ℓ f vs news Out) (hd : dp + 4 * ℓ < 400) (hu : un + 20 * ℓ < 2000)
    (k : ∀ r news' h' tk', Fr h₀ L h' m → News h₀ L h' news' → Out news' r → Q r { s with heap := h', toks := tk' }) :
    wpAny (model Challenge.rw_nu0383_01.row.prog w) (ktrTop dp un gd cn cs L a ccd cl []) (call (.ref f) vs) Q E s := C _ _ _ _ _ _ _ _ _ _ _ _ _ _ _ _ B F X N T XB TB hk hd hu k
end
end Mine
end
section
open PySem PySem.W PyProof.Rows PySem.Calls PyProof.V PySem.Spec PySem.SeqAt
set_option maxRecDepth 100000
namespace Mine
noncomputable def nc (p : Addr × Obj) : Bool := match p.2.data with | .cell _ => false | _ => true
theorem nc_sd {w : World} {a : Addr} {o : Obj} {kvs : List (Str × Value)} (h : SD w o kvs) : nc (a, o) = true := by
  refine hide fun hG9 => ?_
  obtain ⟨es, ep, _, hda, _⟩ := h
  refine hG9 ?_
  unfold nc
  rw [show (a, o).2.data = _ from hda]
section
variable {w : World} {n : Led}
theorem keep_nc {p : Addr × Obj} (h : p ∈ n) (k : nc p = true) : p ∈ n.filter nc := List.mem_filter.mpr ⟨h, k⟩
theorem SigIn.cut {x : Addr} {k : Slf} (h : SigIn w n x k) : SigIn w (n.filter nc) x k := by
  cases h with
  | mk a b c => exact .mk (keep_nc a rfl) (keep_nc b rfl) c
theorem TyIn.cut {v : Value} {t : Ty} (h : TyIn n v t) : TyIn (n.filter nc) v t := by
  induction h with
  | int h => exact .int (keep_nc h rfl)
  | par h => exact .par (keep_nc h rfl)
  | var h => exact .var (keep_nc h rfl)
  | bool h => exact .bool (keep_nc h rfl)
  | adt h h1 h2 => exact .adt (keep_nc h rfl) (keep_nc h1 rfl) (keep_nc h2 rfl)
  | ref h _ ih => exact .ref (keep_nc h rfl) ih
  | box h _ ih => exact .box (keep_nc h rfl) ih
theorem ImpIn.cut {es : List (Str × Value)} {v : Value} {i : Imp} (h : ImpIn w n es v i) : ImpIn w (n.filter nc) es v i := by
  cases h with
  | mk a b c d e f g k => exact .mk (keep_nc a rfl) (keep_nc b rfl) (keep_nc c rfl) (keep_nc d rfl) e f.cut g fun z => ⟨keep_nc (k z).1 (nc_sd (k z).2.1), (k z).2.1, (k z).2.2.1, (k z).2.2.2.1, (k z).2.2.2.2.cut⟩
theorem ImpsIn.cut {es : List (Str × Value)} {vs : List Value} {l : List Imp} (h : ImpsIn w n es vs l) : ImpsIn w (n.filter nc) es vs l := by
  induction h with
  | nil => exact .nil
  | cons a _ ih => exact .cons a.cut ih
theorem TrIn.cut {v : Value} {k : Slf} (h : TrIn w n v k) : TrIn w (n.filter nc) v k := by
  cases h with
  | mk a b c d e f => exact .mk (keep_nc a rfl) (keep_nc b rfl) (keep_nc c (nc_sd d)) d e f.cut
theorem TrsIn.cut {es : List (Str × Value)} {l : List (Tr × Slf)} (h : TrsIn w n es l) : TrsIn w (n.filter nc) es l := by
  cases h with
  | one a => exact .one a.cut
  | two a b => exact .two a.cut b.cut
theorem WorldIn.cut {v : Value} {is : List Imp} {ts : List (Tr × Slf)} (h : WorldIn w n v is ts) : WorldIn w (n.filter nc) v is ts := by
  cases h with
  | mk a b c d e f g i j k l m => exact .mk (keep_nc a rfl) (keep_nc b rfl) (keep_nc c (nc_sd d)) d e (keep_nc f (nc_sd g)) g i j.cut (keep_nc k rfl) l.cut m
theorem RowsIn.cut {vs : List Value} {is : List Imp} (h : RowsIn n vs is) : RowsIn (n.filter nc) vs is := by
  induction h with
  | nil => exact .nil
  | cons a b c d e _ ih => exact .cons (keep_nc a rfl) b c.cut d e ih
end
inductive TrP (w : World) (n : Led) (x : Addr) (k : Slf) : Prop
  | mk {dx md mo sx dy kv t1 t2 t3 t4 v1 v2 v4 u1 u2 u3 u4 u5 u6 u7 u8 z1 z2 z3 z4 z5 z6 z8} : (x, instObj 273 dx) ∈ n → (dx, dictOf [en w "path" t1 v1, en w "params" t2 v2, en w "methods" t3 (.ref md), en w "defaults" t4 v4] 4) ∈ n → (md, mo) ∈ n → SD w mo [("go", .ref sx)] → (md == sysModules) = false →
    (sx, instObj 252 dy) ∈ n → (dy, dictOf [en w "path" u1 z1, en w "regions" u2 z2, en w "params" u3 z3, en w "own" u4 z4, en w "inputs" u5 z5, en w "output" u6 z6, en w "self_kind" u7 kv, en w "has_body" u8 z8] 8) ∈ n → KdIs kv k → TrP w n x k
inductive TrSp (w : World) (n : Led) : Value → Slf → Prop
  | mk {x k} : TrP w n x k → TrSp w n (.ref x) k
theorem TrIn.open_ {w : World} {n : Led} {v : Value} {k : Slf} (h : TrIn w n v k) : TrSp w n v k := by
  cases h with
  | mk a b c d e f =>
    cases f with
    | mk f g i => exact .mk (.mk a b c d e f g i)
inductive WSp (w : World) (n : Led) (x : Addr) (kA kB : Slf) : Prop
  | mk {dx tr to sg im a b t1 t2 t3 t4 t5 t6 t7 t8 v1 v2 v3 v7 v8} : (x, instObj 324 dx) ∈ n → (dx, dictOf [en w "modules" t1 v1, en w "adts" t2 v2, en w "variants" t3 v3, en w "sigs" t4 (.ref sg), en w "traits" t5 (.ref tr), en w "impls" t6 (.ref im), en w "consts" t7 v7, en w "bodies" t8 v8] 8) ∈ n →
      (tr, to) ∈ n → SD w to [("A", .ref a), ("B", .ref b)] → (tr == sysModules) = false → TrP w n a kA → TrP w n b kB → WSp w n x kA kB
theorem WorldIn.open_ {w : World} {n : Led} {x : Addr} {is : List Imp} {kA kB : Slf} (h : WorldIn w n (.ref x) is [(.A, kA), (.B, kB)]) : WSp w n x kA kB := by
  cases h with
  | mk h1 h2 h3 h4 h5 h6 h7 h8 h9 h10 h11 h12 =>
    cases h9 with
    | two p q =>
      cases p.open_ with
      | mk p2 =>
      cases q.open_ with
      | mk q2 => exact .mk h1 h2 h6 h7 h8 p2 q2
inductive WCut (w : World) (h₀ h : Heap) (L sa i c : Addr) (oI oc : Obj) : Value → Prop
  | mk {p kp x rl rvs rep o nf imps} {ks : Tr → Slf} : News h₀ L h ((sa, o) :: (i, oI) :: (c, oc) :: nf) → SrcO o → AllNe sa nf → AllNe c nf → (p, tupOf [.ref x, .ref rl] kp) ∈ nf →
      WorldIn w nf (.ref x) imps [(.A, ks .A), (.B, ks .B)] → WSp w nf x (ks .A) (ks .B) → (rl, listOf (List.toArray rvs) rep) ∈ nf → RowsIn nf rvs imps → imps.length ≤ 4 → (∀ i ∈ imps, i.num ≤ 8) → (∀ i ∈ imps, ∀ t, i.trait = some t → i.kind = ks t) → WCut w h₀ h L sa i c oI oc (.ref p)
section
variable {w : World} {h₀ h : Heap} {L sa c i : Addr} {rest n' : Led} {r : Value} {oc oI : Obj} {x₀ : Option Value}
theorem world_cut (W : WOut w sa rest n' r) (N : News h₀ L h n') (hc : (c, oc) ∈ rest) (hi : (i, oI) ∈ rest) (hd : oc.data = .cell x₀) : WCut w h₀ h L sa i c oI oc r := by
  cases W with
  | mk h1 h2 h3 h4 h5 h6 h7 h8 h9 h10 =>
  rename Led => nf
  have sub : ∀ q ∈ nf.filter nc, q ∈ nf := fun q hq => (List.mem_filter.mp hq).1
  refine .mk (nf := nf.filter nc) (newsSub N (List.forall_mem_cons.mpr ⟨.head _, List.forall_mem_cons.mpr ⟨.tail _ (h3 _ hi), List.forall_mem_cons.mpr ⟨.tail _ (h3 _ hc), fun q hq => .tail _ (sub q hq)⟩⟩⟩)) h1 (allNe_sub h2 sub) (allNe_of fun q hq e => ?_) (keep_nc h4 rfl) h5.cut h5.cut.open_ (keep_nc h6 rfl) h7.cut h8 h9 h10
  have a1 := (N _ (.tail _ (h3 _ hc))).1
  have a2 := (N _ (.tail _ (sub q hq))).1
  rw [e] at a2
  have e2 : oc = q.2 := Option.some.inj (a1.symm.trans a2)
  have e3 := (List.mem_filter.mp hq).2
  unfold nc at e3
  rw [← e2, hd] at e3
  exact nomatch e3
end
section
variable {h₀ h' : Heap} {L I C D : Addr} {m : Str → Option Value} {s₁ : Shared} {x : Addr × Obj} {oI oC oD : Obj} {S : Led → Prop} {rest : Value → Led → Prop} {y : Value} {tk : Nat} {news : Led}
theorem comp_end1 (F : Fr h₀ L h' m) (N : News h₀ L h' (x :: (I, oI) :: (C, oC) :: (D, oD) :: news)) (off : LCg.Off3 I C D news) (hx : @Ne Nat x.1 I ∧ @Ne Nat x.1 C ∧ @Ne Nat x.1 D) (hS : S (x :: news)) (r : rest y (x :: news)) :
    LCg.CompEnd h₀ L m s₁ I oI C oC D oD S rest y { s₁ with heap := h', toks := tk } :=
  LCg.CompEnd.intro F N (x :: news) (List.forall_mem_cons.mpr ⟨.tail _ (.head _), List.forall_mem_cons.mpr ⟨.tail _ (.tail _ (.head _)), List.forall_mem_cons.mpr ⟨.tail _ (.tail _ (.tail _ (.head _))), List.forall_mem_cons.mpr ⟨.head _, fun _ h => .tail _ (.tail _ (.tail _ (.tail _ h)))⟩⟩⟩⟩) ⟨hx, off⟩ hS r
end
end Mine
end
section
open PySem PySem.W PyProof.Rows PySem.Calls PyProof.V PySem.Spec PySem.SeqAt
set_option maxRecDepth 100000
namespace Mine
theorem list_keys : typeLookup (.type "list") "keys" = pure none := by rw [typeLookup_type, builtinLookup_eq_fast]; kernel_rfl
section
variable {prog : Program} {w : World} {A : Around} {E : Value → Shared → Prop} {s : Shared} {a : Addr}
set_option maxHeartbeats 1000000 in
theorem keys_miss {xs : Array Value} {n : Nat} {Q : Option Value → Shared → Prop} (hx : s.heap.get? a = some { cls := .type "list", dict := none, data := .seq xs n, slots := #[] }) (hA : A.handled = none)
    (h : ∀ h' tk, (∀ b o, s.heap.get? b = some o → h'.get? b = some o) → Q none { s with heap := h', toks := tk }) : wpAny (model prog w) A (getAttr? (.ref a) "keys") Q E s := by
  obtain ⟨hp, g, d, tk, os⟩ := s
  have hT : ∀ tk', (⟨hp, g, d, tk', os⟩ : Shared).TypeIs (.ref a) "list" := fun _ => ⟨_, hx, rfl⟩
  have f1 := sub_AttributeError
  have f3 := F.slot_list_getattribute.lookup
  have f4 := F.slot_list_getattribute.bind (.ref a)
  have f5 := am_list_getattr_none
  unfold getAttr? getAttrBy? getAttrBy
  repeat (any_goals (first | assumption | exact hT _ | ((with_reducible show wpAny _ _ (call (Value.builtin "list.__getattribute__") _ _) _ _ _); refine call_meets F.slot_list_getattribute (hT _) am_entry_list_getattribute (F.args_list_getattribute_2 _ _) (meets_getattribute_miss_list a xs n #[] "keys" _ list_keys (by decide +kernel) (by size_fits)) ⟨hx, hA, fun h' tk' e hx' => ?_⟩) | wp_step))
  obtain ⟨t', u', he⟩ := hx'.there
  show wpAny _ _ (getattributeRaised _ _ _ _ _ _ _) _ _ _
  unfold getattributeRaised
  repeat (any_goals (first | assumption | wp_step))
  try dsimp only
  repeat (any_goals (first | assumption | wp_step))
  exact h _ _ hx'.keeps
end
theorem upd_plain : plainId "dict.update.loop" = true := by decide +kernel
theorem upd_entry : entryFor table "dict.update.loop" = some Builtin.«dict.update.loop» := entryFor_of_tree (by kernel_rfl)
section
variable {prog : Program} {w : World} {A : Around} {s : Shared} {R : Result → Shared → Prop} {d it l p : Addr} {i : Nat} {j : Int} {tj : Tok} {vs : Array Value} {res : Value} {kvs : List (Str × Value)}
theorem upd_item {k : Str} {t : Tok} {v : Value} {n : Nat} (hit : s.heap.IsListIter it l i) (hl : s.heap.IsList l vs) (hv : vs[i]? = some (.ref p)) (hp : s.heap.get? p = some (tupOf [.str k t, v] n)) (hd : s.heap.DictOf (strKind prog w) d kvs) (hz : kvs.length ≤ sizeLine) (nd : d ≠ it) (np : p ≠ it)
    (h : ∀ h' tk', h'.IsListIter it l (i + 1) → h'.DictOf (strKind prog w) d (stored kvs k v) → (∀ b o, b ≠ it → b ≠ d → s.heap.get? b = some o → h'.get? b = some o) → codeAny (model prog w) A (.builtin "dict.update.loop" ⟨[.ref d, .ref it, .int (j + 1) 0, res], []⟩) R { s with heap := h', toks := tk' }) :
    codeAny (model prog w) A (.builtin "dict.update.loop" ⟨[.ref d, .ref it, .int j tj, res], []⟩) R s := by
  refine codeAny_builtin upd_entry ?_
  rw [Around.under_plainId upd_plain _]
  show wpAny _ A.in1 (pyNext (.ref it) >>= _) _ _ _
  refine wpAny_bind (wpAny_pyNext_list_item hit hl hv fun h1 hit1 sb1 => ?_)
  have hp1 : h1.get? p = some (tupOf [.str k t, v] n) := sb1.extBut _ _ np hp
  have hd1 : h1.DictOf (strKind prog w) d kvs := hd.sameBut sb1 nd
  refine wpAny_bind (wpAny_holding ?_)
  refine wpAny_bind (wpAny_tryCatch ?_)
  unfold Builtin.Dict.pairItems
  refine wpAny_bind (wpAny_typeOf (T := "tuple") ⟨_, hp1, rfl⟩ ?_)
  rw [if_pos (by decide)]
  refine wpAny_bind (wpAny_seqItems hp1 rfl ?_)
  refine wpAny_pure ?_
  show wpAny _ _ (holding [.str k t, v] (dictSet d (.str k t) v)) _ _ _
  refine wpAny_holding (wpAny_dictSet_pairs (hsz := hz) (strKind_is _ _ _ _) hd1 fun h2 hd2 sb2 => ?_)
  refine wpAny_pure ⟨plainId_quiet upd_plain _, ?_⟩
  exact h _ _ (hit1.extBut sb2.extBut (Ne.symm nd)) hd2 fun b o b1 b2 e => sb2.extBut _ _ b2 (sb1.extBut _ _ b1 e)
theorem upd_done (hh : A.handled = none) (hit : s.heap.IsListIter it l i) (hl : s.heap.IsList l vs) (hv : vs[i]? = none) (h : ∀ h', (∀ b o, b ≠ it → s.heap.get? b = some o → h'.get? b = some o) → R (.ok (.ret res)) { s with heap := h' }) :
    codeAny (model prog w) A (.builtin "dict.update.loop" ⟨[.ref d, .ref it, .int j tj, res], []⟩) R s := by
  refine codeAny_builtin upd_entry ?_
  rw [Around.under_plainId upd_plain _]
  show wpAny _ A.in1 (pyNext (.ref it) >>= _) _ _ _
  refine wpAny_bind (wpAny_pyNext_list_end hh hit hl hv fun h1 e1 => ?_)
  show wpAny _ A.in1 (Builtin.Dict.addKeywords d [] >>= _) _ _ _
  exact wpAny_bind (wpAny_pure (wpAny_pure (h _ fun b o hb e => e1 _ _ hb e)))
end
section
variable {w : World} {A : Around} {E : Value → Shared → Prop} {s : Shared} {h₀ : Heap} {L : Addr} {m : Str → Option Value} {news : Led} {Q : Value → Shared → Prop}
theorem dict_pairs {l p q : Addr} {k1 k2 : Str} {t1 t2 : Tok} {v1 v2 : Value} {n n1 n2 : Nat} (hh : A.handled = none) (F : Fr h₀ L s.heap m) (N : News h₀ L s.heap news) (hb : h₀.NoLimit) (hl : (l, listOf (List.toArray [.ref p, .ref q]) n) ∈ news) (hp : (p, tupOf [.str k1 t1, v1] n1) ∈ news) (hq : (q, tupOf [.str k2 t2, v2] n2) ∈ news) (hne : (k1 == k2) = false)
    (h : ∀ d h' o tk', Fr h₀ L h' m → News h₀ L h' ((d, o) :: news) → (∀ p ∈ news, p.1 < d) → (d == sysModules) = false → SD w o [(k1, v1), (k2, v2)] → Q (.ref d) { s with heap := h', toks := tk' }) :
    wpAny (model Challenge.rw_nu0383_01.row.prog w) A (call (.type "dict") [.ref l]) Q E s := by
  refine callType_codes (Q₁ := fun obj s₁ => obj = .ref s.heap.objs.size ∧ s₁ = { s with heap := s.heap.push { cls := .type "dict", data := .dict #[] } }) PySem.F.kt_called_dict (PySem.F.kt_typeCall_dict_1 _) PySem.F.entry_dict_init (kt_code_dict_new _ ⟨rfl, rfl⟩) ?_
  rintro obj s₁ ⟨rfl, rfl⟩
  have hd0 : (s.heap.push { cls := .type "dict", data := .dict #[] }).DictOf (strKind Challenge.rw_nu0383_01.row.prog w) s.heap.objs.size [] := Heap.DictOf.new s.heap
  have up : ∀ b o, s.heap.get? b = some o → (s.heap.push { cls := .type "dict", data := .dict #[] }).get? b = some o := fun b o e => Heap.get?_push_of_some _ e
  generalize hH : s.heap.push { cls := .type "dict", data := .dict #[] } = H at hd0 up ⊢
  have hS : H.objs.size = s.heap.objs.size + 1 := by rw [← hH, Heap.size_push]
  generalize hD : s.heap.objs.size = D at hd0 hS ⊢
  have low : ∀ b o, s.heap.get? b = some o → b < D := fun b o e => hD ▸ Heap.lt_size e
  refine ⟨hd0.typeIs, PySem.F.args_dict_init_2 _ _, ?_⟩
  unfold Builtin.«dict.__init__»
  refine wpAny_bind ?_
  unfold Builtin.Dict.selfAndRest
  refine wpAny_bind (wpAny_notOrdered_dict hd0.typeIs ?_)
  show wpAny _ _ (pure (D, [Value.ref l])) _ _ _
  refine wpAny_pure ?_
  show wpAny _ _ (Builtin.Dict.updateFrom "dict.__init__" D (.ref l) [] .none) _ _ _
  unfold Builtin.Dict.updateFrom
  have hl1 := up _ _ (N.get hl)
  refine wpAny_bind (wpAny_typeOf (T := "list") ⟨_, hl1, rfl⟩ ?_)
  rw [if_pos (by decide)]
  refine wpAny_bind (keys_miss hl1 hh fun h1 tk1 u1 => ?_)
  simp only [Option.isNone_none, if_true]
  refine wpAny_bind (wpAny_rule ?_)
  have hd1 : h1.DictOf (strKind Challenge.rw_nu0383_01.row.prog w) D [] := let ⟨o, es, ep, e, r⟩ := hd0; ⟨o, es, ep, u1 _ _ e, r⟩
  have gl1 : h1.IsList l #[.ref p, .ref q] := ⟨_, u1 _ _ hl1, rfl, _, rfl⟩
  refine wpAny_bind (wpAny_pyIter_list gl1 ?_)
  have dlt : D < h1.objs.size := by obtain ⟨o, _, _, e, _⟩ := hd1; exact Heap.lt_size e
  have ilt : ∀ b o, s.heap.get? b = some o → b ≠ h1.objs.size := fun b o e => Nat.ne_of_lt (Nat.lt_trans (low b o e) dlt)
  have hit : (h1.push { cls := .type "list_iterator", data := .fields #[.ref l, .int 0 0] }).IsListIter h1.objs.size l 0 := ⟨_, Heap.get?_push_size _ rfl, rfl, rfl⟩
  have up2 : ∀ b o, h1.get? b = some o → (h1.push { cls := .type "list_iterator", data := .fields #[.ref l, .int 0 0] }).get? b = some o := fun b o e => Heap.get?_push_of_some _ e
  generalize (h1.push { cls := .type "list_iterator", data := .fields #[.ref l, .int 0 0] }) = h2 at hit up2 ⊢
  generalize h1.objs.size = I at hit dlt ilt ⊢
  have up3 : ∀ b o, s.heap.get? b = some o → h2.get? b = some o := fun b o e => up2 _ _ (u1 _ _ (up _ _ e))
  have hd2 : h2.DictOf (strKind Challenge.rw_nu0383_01.row.prog w) D [] := let ⟨o, es, ep, e, r⟩ := hd1; ⟨o, es, ep, up2 _ _ e, r⟩
  have nDI : D ≠ I := Nat.ne_of_lt dlt
  have nD : ∀ b o, s.heap.get? b = some o → b ≠ D := fun b o e => Nat.ne_of_lt (low b o e)
  refine wpAny_pure ⟨plainId_quiet upd_plain _, ?_⟩
  refine upd_item hit ⟨_, up3 _ _ (N.get hl), rfl, _, rfl⟩ (by rfl) (up3 _ _ (N.get hp)) hd2 (Nat.zero_le _) nDI (ilt _ _ (N.get hp)) fun h3 tk3 hit3 hd3 k3 => ?_
  have up4 : ∀ b o, s.heap.get? b = some o → h3.get? b = some o := fun b o e => k3 _ _ (ilt _ _ e) (nD _ _ e) (up3 _ _ e)
  refine upd_item hit3 ⟨_, up4 _ _ (N.get hl), rfl, _, rfl⟩ (by rfl) (up4 _ _ (N.get hq)) hd3 (by rw [stored_nil, sizeLine_eq]; simp) nDI (ilt _ _ (N.get hq)) fun h4 tk4 hit4 hd4 k4 => ?_
  have up5 : ∀ b o, s.heap.get? b = some o → h4.get? b = some o := fun b o e => k4 _ _ (ilt _ _ e) (nD _ _ e) (up4 _ _ e)
  refine upd_done hh hit4 ⟨_, up5 _ _ (N.get hl), rfl, _, rfl⟩ (by rfl) fun h5 k5 => ?_
  have up6 : ∀ b o, s.heap.get? b = some o → h5.get? b = some o := fun b o e => k5 _ _ (ilt _ _ e) (up5 _ _ e)
  rw [stored_nil, stored_one hne] at hd4
  obtain ⟨o, es, ep, ho, r⟩ := hd4
  refine ⟨rfl, h D h5 o tk4 (F.keeps up6) (fun p hp => ?_) (fun p hp => low _ _ (N p hp).1) ?_ ⟨es, ep, r⟩⟩
  · rcases List.mem_cons.mp hp with rfl | hp
    · exact ⟨k5 _ _ nDI ho, hD ▸ Nat.ne_of_gt F.ns.lt, hD ▸ new_from F _ (Nat.le_refl _)⟩
    · exact ⟨up6 _ _ (N p hp).1, (N p hp).2⟩
  · rw [← hD]; exact F.notModules (modules_low hb)
end
end Mine
end
section
open PySem PySem.W PyProof.Rows PySem.Calls
set_option maxRecDepth 100000
set_option maxHeartbeats 1600000
namespace Mine
local macro_rules | `(tactic| walk_at $s:str) => `(tactic| k_extra $s)
local macro_rules | `(tactic| k_mem) => `(tactic| k_extra "m k_mem")
local macro_rules | `(tactic| k_all) => `(tactic| k_extra "m k_all")
local macro_rules | `(tactic| k_room) => `(tactic| k_extra "m k_room")
local macro_rules | `(tactic| k_steps) => `(tactic| k_extra "m k_steps")
local macro_rules | `(tactic| omega) => `(tactic| k_extra "m omega")
local macro_rules | `(tactic| k_ne) => `(tactic| k_extra "m k_ne")
local macro_rules | `(tactic| k_upd) => `(tactic| k_extra "m k_upd")
local macro_rules | `(tactic| k_updF) => `(tactic| k_extra "m k_updF")
local macro_rules | `(tactic| k_handed) => `(tactic| k_extra "m k_handed")
local macro_rules | `(tactic| x_close) => `(tactic| k_extra "m x_close")
theorem kw1_0 : True := by
  k_with_none
  (k_with "m k_mem" => first | (first | ktr_member | (with_reducible apply mem_hd) | ((with_reducible apply mem_tl); k_mem) | exact mem_via (by assumption) (by assumption)) | fail)
  (k_with "ite" => first | (first | refine ite_t (by with_reducible assumption) ?_ | refine ite_f (by with_reducible assumption) ?_) | fail)
  (k_with "m lt" => first | (first | assumption | (apply PySem.W.allLt_of; assumption) | (apply allLt_tl; assumption) | (apply allLt_tl2; assumption) | with_reducible (k_extra "m pk") | (simp only [AllLt, and_true] at *; first | assumption | omega)) | fail)
  (k_with "m k_all" => first | (first | assumption | (apply ne_of_allNe; k_extra "m ne") | (apply ne_of_allLt; k_extra "m lt")) | fail)
  (k_with "m call" => first | (k_here; k_dflt (refine' Calls.use' (by k_asm) (by k_asm) (by k_asm) (by k_asm) (by k_asm) (by first | exact rfl | assumption) (by k_extra "m con") (by first | omega | (dsimp only [ktrTop]; omega)) (by k_extra "m un") ?_; k_whole); ((intro zzG9 zzhG9; k_dflt (k_extra "m out")) <;> (refine zzhG9 _ _ ?_; intro zzh9 zztk9 zzF9 zzN9; (try k_sweep)))) | fail)
  (k_with "m out" => first | (intro zzn9 zzr9 zzo9; (first | (obtain ⟨zze1, zze2⟩ := zzo9; subst zze1; subst zze2) | (obtain ⟨zze1, zzt9, zze2⟩ := zzo9; subst zze1; subst zze2) | (obtain ⟨zzl9, zze9, zze2, zze1, zzq9⟩ := zzo9; subst zze1; subst zze2; (simp only [AllLt, and_true] at zzq9)) | (obtain ⟨zzl9, zze9, zzp9, zzm9, zzx9, zzy9, zze2, zze1, zzq1, zzq2, zzq3, zzq4⟩ := zzo9; subst zze1; subst zze2; (simp only [AllLt, and_true] at zzq3); obtain ⟨zza8, zzn8, zzt8, zzr8, zze8, zzm8⟩ := Mine.TyIn.head zzq1; subst zze8; obtain ⟨zza7, zzn7, zzt7, zzr7, zze7, zzm7⟩ := Mine.TyIn.head zzq2; subst zze7) | (rcases zzo9 with ⟨zze3, zze1, zzt9, zze2⟩ | ⟨zze3, zze1, zzt9, zze2⟩ <;> (subst zze1; subst zze2)))) | fail)
  (k_with "m un" => first | ((try dsimp +zetaDelta only); (have zzhcl9 := cLine_is); (try simp only [units_in1, units_deeper, Around.mark_units, units_caller]); (try dsimp only [ktrTop]); omega) | fail)
  (k_with "m dp" => first | (first | assumption | (simp only [Ty.dep]; omega) | decide) | fail)
  (k_with "m k_room" => first | ((try dsimp +zetaDelta only); (try simp only [depth_under_make, depth_under_kw, depth_in1, depth_deeper, depth_caller]); (try dsimp only [ktrTop]); have zzhrl9 : recursionLimit = 1000 := rfl; omega) | fail)
  (k_with "eval Name" => first | (k_here; (fail_if_success with_reducible show wpAny _ _ (eval _ (compEnvC _ _ _ _)) _ _ _); k_dflt (refine' nameX_L (by k_asm) (by exact @rfl _ (some _)) ?_ (by kernel_rfl) (rfl) (by kernel_rfl); k_whole)) | fail)
  (k_with "ite" => first | (k_closed; first | refine ite_t (by decide +kernel) ?_ | refine ite_f (by decide +kernel) ?_) | fail)
  (k_with "m for" => first | (k_here; (rename Fr _ _ _ _ => zzlF'); (with_unfolding_all refine' For_turns zzlF' ?_; k_whole)) | fail)
  (k_with "m pick" => first | (with_reducible (k_extra "m pk")) | fail)
  (k_with "m ne" => first | (first | with_reducible (first | assumption | (apply allNe_of; assumption) | (apply allNe_off; assumption) | (apply allNe_lt; apply PySem.W.allLt_of; assumption)) | ((with_reducible apply allNe_cons); k_ne; k_extra "m ne") | with_reducible (k_extra "m pkq") | (apply allNe_lt; with_reducible (k_extra "m pkq")) | with_reducible (k_extra "m pk") | (apply allNe_lt; with_reducible (k_extra "m pk")) | (apply allNe_off; with_reducible (k_extra "m pk")) | (apply allNe_lt; apply allLt_tl; assumption) | (with_reducible apply allNe_nil)) | fail)
  (k_with "m subh" => first | (with_reducible (apply sub_hd; first | assumption | (apply sub_hd; first | assumption | (apply sub_hd; first | assumption | (apply sub_hd; first | assumption | (apply sub_hd; first | assumption | (apply sub_hd; first | assumption | (apply sub_hd; first | assumption | (apply sub_hd; first | assumption | (apply sub_hd; assumption)))))))))) | fail)
  (k_with "m subs" => first | (first | (with_reducible apply sub_refl) | assumption | ((with_reducible apply subs_cons); k_mem; k_extra "m subs") | ((with_reducible apply sub_tl); k_extra "m subs") | (with_reducible apply List.forall_mem_nil) | k_extra "m subh") | fail)
  (k_with "m agr" => first | (first | assumption | exact agree_over | exact agree_refl | (refine agree_store ?_ (by decide); k_extra "m agr")) | fail)
  (k_with "m sub" => first | (first | assumption | ((with_reducible apply sub_tl); k_extra "m sub") | k_extra "m subh") | fail)
  (k_with "execs cons" => first | (k_here; (try dsimp only); (refine' exec_cons_h ?_); intro zztk' zzG' zzhG'; (try (rename PyProof.Rows.News _ _ _ _ => zznN'; dsimp only at zznN'))) | fail)
  (k_with "execs nil" => first | (k_here; (refine' exec_nil_g ?_); intro zztk'; (try (refine qout (by with_reducible assumption) ?_))) | fail)
  (k_with "m leave" => first | (k_end; first | ((try dsimp only); (refine' gnext_cons (by with_reducible assumption) ?_); intro zztk' zzG' zzhG'; (try (rename PyProof.Rows.News _ _ _ _ => zznN'; dsimp only at zznN'))) | (refine gnext (by with_reducible assumption) ?_) | (refine gout (by with_reducible assumption) ?_ ?_; (exact True.intro); (try (refine qout (by with_reducible assumption) ?_)))) | fail)
  (k_with "m k_steps" => first | (repeat' (first | k_extra "m leave" | (k_unfold; (try dsimp only)) | (k_end; wrow_close) | walk1 | (dsimp only; walk1) | (leave1; walk_say "STEP leave1"; try dsimp only) | fail "no step")) | fail)
  (k_with "m pkq" => first | (first | assumption | (apply And.left; first | assumption | (apply And.right; first | assumption | (apply And.right; first | assumption | (apply And.right; first | assumption | (apply And.right; first | assumption | (apply And.right; assumption))))))) | fail)
  (k_with "m pkr" => first | (first | assumption | (apply And.right; first | assumption | (apply And.right; first | assumption | (apply And.right; first | assumption | (apply And.right; first | assumption | (apply And.right; first | assumption | (apply And.right; first | assumption | (apply And.right; first | assumption | (apply And.right; first | assumption | (apply And.right; first | assumption | (apply And.right; first | assumption | (apply And.right; first | assumption | (apply And.right; first | assumption | (apply And.right; first | assumption | (apply And.right; first | assumption | (apply And.right; assumption)))))))))))))))) | fail)
  (k_with "m pk" => first | (first | assumption | (apply And.left; k_extra "m pkr") | (apply And.right; k_extra "m pkr")) | fail)
  (k_with "m omega" => first | (first | ((with_reducible apply neL); with_reducible (k_extra "m pkq")) | ((with_reducible apply neG); with_reducible (k_extra "m pkq")) | ((with_reducible apply neL); with_reducible (k_extra "m pk")) | ((with_reducible apply neG); with_reducible (k_extra "m pk")) | ((with_reducible apply neS); with_reducible (k_extra "m pk")) | ((with_reducible apply lin2); assumption; exact @rfl Bool true) | ((with_reducible apply lin1); assumption; exact @rfl Bool true) | ((with_reducible apply lin0); assumption; exact @rfl Bool true) | ((with_reducible apply lin3); assumption; exact @rfl Bool true) | ((with_reducible apply lin1e); assumption; exact @rfl Bool true) | ((with_reducible apply lin2e); assumption; exact @rfl Bool true) | ((with_reducible apply Nat.le_of_ble_eq_true); exact @rfl Bool true) | ((with_reducible apply om_w); assumption; exact @rfl Bool true) | ((with_reducible apply om_p3); assumption) | ((with_reducible apply om_p2); assumption) | ((with_reducible apply om_p3e); assumption) | (with_reducible apply om_p3r) | ((with_reducible apply om_p4); assumption; exact @rfl Bool true) | ((with_reducible apply om_s); assumption; exact @rfl Bool true) | ((with_reducible apply om_s1); assumption; exact @rfl Bool true) | ((with_reducible apply om_s2); assumption; exact @rfl Bool true) | ((with_reducible apply om_i); assumption; decide +kernel) | ((with_reducible apply om_i2); assumption; assumption; decide +kernel) | ((with_reducible apply om_n); decide +kernel) | (with_reducible apply Int.natCast_nonneg) | ((with_reducible apply om_k); assumption; decide +kernel) | with_reducible (k_extra "m pk")) | fail)
  (k_with "m k_ne" => first | ((with_reducible apply PySem.W.neN); (try dsimp only); omega) | fail)
  (k_with "eval Subscript" => first | (k_here; (with_reducible show wpAny _ _ (eval (PySem.Expr.Subscript (PySem.Expr.Name _ _) _ _) _) _ _ _); k_dflt (refine' sub_nm (by exact rfl) (by k_asm) (by exact @rfl _ (some _)) (by kernel_rfl) (by exact rfl) (by kernel_rfl) ?_; k_whole)) | fail)
  (k_with "isTrue Compare" => first | (k_here; (with_reducible show wpAny _ _ (isTrue (PySem.Expr.Compare (PySem.Expr.Name _ _) [_] [_] _) _ _) _ _ _); k_dflt (refine' cmp_nm (by exact rfl) (by k_asm) (by exact @rfl _ (some _)) (by kernel_rfl) (by exact rfl) (by kernel_rfl) (by with_unfolding_all rfl) ?_; k_whole)) | fail)
  (k_with "m k_upd" => first | (first | ((with_reducible apply PySem.W.Upd.head); k_all) | ((with_reducible apply PySem.W.Upd.tail); k_ne; k_upd)) | fail)
  (k_with "m k_updF" => first | (first | ((with_reducible apply PySem.W.UpdF.head); k_all) | ((with_reducible apply PySem.W.UpdF.tail); k_ne; k_updF)) | fail)
  (k_with "eval Subscript" => first | (k_here; (with_reducible show wpAny _ _ (eval (PySem.Expr.Subscript (PySem.Expr.Name _ _) (PySem.Expr.Constant (PySem.Const.int _) _ _) _) _) _ _ _); k_dflt (refine' sub_it (by exact rfl) (by k_asm) (by exact @rfl _ (some _)) (by kernel_rfl) (by exact rfl) (by kernel_rfl) (by k_asm) (by k_mem) (by exact @rfl _ (some _)) ?_; k_whole)) | fail)
  (k_with "exec If" => first | (k_here; (with_reducible show wpAny _ _ (exec (PySem.Stmt.If (PySem.Expr.Compare (PySem.Expr.Name _ _) [_] [_] _) _ _ _) _) _ _ _); k_dflt (refine' if_nm (by exact rfl) (by k_asm) (by exact @rfl _ (some _)) (by kernel_rfl) (by exact rfl) (by kernel_rfl) (by with_unfolding_all rfl) ?_; k_whole)) | fail)
  (k_with "eval Constant str" => first | (k_here; (with_reducible show wpAny _ _ (eval (PySem.Expr.Constant (PySem.Const.str _) _ _) _) (fun b s₂ => wpAny _ _ (compareOp CmpOp.Eq (Value.str _ _) b) (fun c s₃ => wpAny _ _ (truthy c) _ _ s₃) _ s₂) _ _); (with_reducible refine' eq_cst ?_); k_whole) | fail)
  exact trivial
section
variable {w : World} {loose : List Str} {mean : ExcName → Option Value} {mg mb : Str → Option Value} {fz news : Led}
theorem selfof_c {v kv : Value} {t : Ty} {k : Slf} (hs : ∀ p ∈ fz, p ∈ news) (hv : TyIn fz v t) (hk : KdIs kv k) :
    Calls w loose mean mg mb 1 179 [v, kv] news (fun n' r => n' = news ∧ OptTy fz r (selfOf t k)) := by
  refine hide fun hG9 => ?_
  cases hk
  case value =>
    refine hG9 ?_
    clear hG9
    refine Calls.of ?_
    k_fill
    intro dp un gd cn cs a' ccd cl outer A₀ base h₀ L m' shh sgg sdd skk soo Q E B F X N T hk hd hu hret
    refine wpAny_call ?_
    k_dflt ktr_enter
    refine let_ae ?_
    intro nk ak Q0 hQ0
    (rename Fr _ _ _ _ => F1)
    replace F1 : Fr _ _ _ (fun y => List.lookup y [(("self_kind" : Str), _), (("receiver" : Str), _)]) := F1
    k_steps
    exact hret _ _ _ _ (by k_asm) (by k_asm) ⟨rfl, hv⟩
  case non =>
    refine hG9 ?_
    clear hG9
    refine Calls.of ?_
    k_fill
    intro dp un gd cn cs a' ccd cl outer A₀ base h₀ L m' shh sgg sdd skk soo Q E B F X N T hk hd hu hret
    refine wpAny_call ?_
    k_dflt ktr_enter
    refine let_ae ?_
    intro nk ak Q0 hQ0
    (rename Fr _ _ _ _ => F1)
    replace F1 : Fr _ _ _ (fun y => List.lookup y [(("self_kind" : Str), _), (("receiver" : Str), _)]) := F1
    k_steps
    exact hret _ _ _ _ (by k_asm) (by k_asm) ⟨rfl, rfl⟩
  case wr =>
    rcases t.refOr with ⟨m, u, rfl⟩ | hn
    · cases hv with
      | @ref a n t1 m v t h1 h2 =>
      cases m
      all_goals
        refine hG9 ?_
        clear hG9
        refine Calls.of ?_
        k_fill
        intro dp un gd cn cs a' ccd cl outer A₀ base h₀ L m' shh sgg sdd skk soo Q E B F X N T hk hd hu hret
        refine wpAny_call ?_
        k_dflt ktr_enter
        refine let_ae ?_
        intro nk ak Q0 hQ0
        (rename Fr _ _ _ _ => F1)
        replace F1 : Fr _ _ _ (fun y => List.lookup y [(("self_kind" : Str), _), (("receiver" : Str), _)]) := F1
        k_steps
        exact hret _ _ _ _ (by k_asm) (by k_asm) ⟨rfl, by first | exact h2 | exact rfl⟩
    · have hq := fun b => selfOf_nonref hn b
      obtain @⟨a, n, t1, r, hm⟩ := hv.head
      have hb : (t.kd != "ref") = true := bne_iff_ne.mpr hn
      generalize t.kd = kd at *
      refine hG9 ?_
      clear hG9
      rw [hq]
      refine Calls.of ?_
      k_fill
      intro dp un gd cn cs a' ccd cl outer A₀ base h₀ L m' shh sgg sdd skk soo Q E B F X N T hk hd hu hret
      refine wpAny_call ?_
      k_dflt ktr_enter
      refine let_ae ?_
      intro nk ak Q0 hQ0
      (rename Fr _ _ _ _ => F1)
      replace F1 : Fr _ _ _ (fun y => List.lookup y [(("self_kind" : Str), _), (("receiver" : Str), _)]) := F1
      k_steps
      exact hret _ _ _ _ (by k_asm) (by k_asm) ⟨rfl, rfl⟩
  case rd =>
    rcases t.refOr with ⟨m, u, rfl⟩ | hn
    · cases hv with
      | @ref a n t1 m v t h1 h2 =>
      cases m
      all_goals
        refine hG9 ?_
        clear hG9
        refine Calls.of ?_
        k_fill
        intro dp un gd cn cs a' ccd cl outer A₀ base h₀ L m' shh sgg sdd skk soo Q E B F X N T hk hd hu hret
        refine wpAny_call ?_
        k_dflt ktr_enter
        refine let_ae ?_
        intro nk ak Q0 hQ0
        (rename Fr _ _ _ _ => F1)
        replace F1 : Fr _ _ _ (fun y => List.lookup y [(("self_kind" : Str), _), (("receiver" : Str), _)]) := F1
        k_steps
        exact hret _ _ _ _ (by k_asm) (by k_asm) ⟨rfl, by first | exact h2 | exact rfl⟩
    · have hq := fun b => selfOf_nonref hn b
      obtain @⟨a, n, t1, r, hm⟩ := hv.head
      have hb : (t.kd != "ref") = true := bne_iff_ne.mpr hn
      generalize t.kd = kd at *
      refine hG9 ?_
      clear hG9
      rw [hq]
      refine Calls.of ?_
      k_fill
      intro dp un gd cn cs a' ccd cl outer A₀ base h₀ L m' shh sgg sdd skk soo Q E B F X N T hk hd hu hret
      refine wpAny_call ?_
      k_dflt ktr_enter
      refine let_ae ?_
      intro nk ak Q0 hQ0
      (rename Fr _ _ _ _ => F1)
      replace F1 : Fr _ _ _ (fun y => List.lookup y [(("self_kind" : Str), _), (("receiver" : Str), _)]) := F1
      k_steps
      exact hret _ _ _ _ (by k_asm) (by k_asm) ⟨rfl, rfl⟩
end
theorem kw2_0 : True := by
  k_with_none
  (k_with "m k_mem" => first | (first | ktr_member | (with_reducible apply mem_hd) | ((with_reducible apply mem_tl); k_mem) | exact mem_via (by assumption) (by assumption)) | fail)
  (k_with "ite" => first | (first | refine ite_t (by with_reducible assumption) ?_ | refine ite_f (by with_reducible assumption) ?_) | fail)
  (k_with "call type:zip" => first | (k_here; (with_reducible show wpAny _ _ (call (Value.type "zip") [Value.ref _, Value.ref _]) _ _ _); k_dflt (refine' zip_N (by k_asm) (by k_asm) (by k_mem) (by k_mem) ?_; k_whole); intro zzb' zzh' zzF' zzN' zzZ'; (try k_sweep)) | fail)
  (k_with "call type:list" => first | (k_here; (with_reducible show wpAny _ _ (call (Value.type "list") [Value.ref (_ + 4)]) _ _ _); k_dflt (refine' list_N (by exact rfl) (by k_asm) (by k_asm) (by k_asm) ?_; k_whole); intro zzl' zzh' zzep' zztk' zzF' zzN' zzl1'; (try k_sweep)) | fail)
  (k_with "m lt" => first | (first | assumption | (apply PySem.W.allLt_of; assumption) | (apply allLt_tl; assumption) | (apply allLt_tl2; assumption) | with_reducible (k_extra "m pk") | (simp only [AllLt, and_true] at *; first | assumption | omega)) | fail)
  (k_with "m k_all" => first | (first | assumption | (apply ne_of_allNe; k_extra "m ne") | (apply ne_of_allLt; k_extra "m lt")) | fail)
  (k_with "m call" => first | (k_here; k_dflt (refine' Calls.use' (by k_asm) (by k_asm) (by k_asm) (by k_asm) (by k_asm) (by first | exact rfl | assumption) (by k_extra "m con") (by first | omega | (dsimp only [ktrTop]; omega)) (by k_extra "m un") ?_; k_whole); ((intro zzG9 zzhG9; k_dflt (k_extra "m out")) <;> (refine zzhG9 _ _ ?_; intro zzh9 zztk9 zzF9 zzN9; (try k_sweep)))) | fail)
  (k_with "m out" => first | (intro zzn9 zzr9 zzo9; (first | (obtain ⟨zze1, zze2⟩ := zzo9; subst zze1; subst zze2) | (obtain ⟨zze1, zzt9, zze2⟩ := zzo9; subst zze1; subst zze2) | (obtain ⟨zzl9, zze9, zze2, zze1, zzq9⟩ := zzo9; subst zze1; subst zze2; (simp only [AllLt, and_true] at zzq9)) | (obtain ⟨zzl9, zze9, zzp9, zzm9, zzx9, zzy9, zze2, zze1, zzq1, zzq2, zzq3, zzq4⟩ := zzo9; subst zze1; subst zze2; (simp only [AllLt, and_true] at zzq3); obtain ⟨zza8, zzn8, zzt8, zzr8, zze8, zzm8⟩ := Mine.TyIn.head zzq1; subst zze8; obtain ⟨zza7, zzn7, zzt7, zzr7, zze7, zzm7⟩ := Mine.TyIn.head zzq2; subst zze7) | (rcases zzo9 with ⟨zze3, zze1, zzt9, zze2⟩ | ⟨zze3, zze1, zzt9, zze2⟩ <;> (subst zze1; subst zze2)))) | fail)
  (k_with "m un" => first | ((try dsimp +zetaDelta only); (have zzhcl9 := cLine_is); (try simp only [units_in1, units_deeper, Around.mark_units, units_caller]); (try dsimp only [ktrTop]); omega) | fail)
  (k_with "m dp" => first | (first | assumption | (simp only [Ty.dep]; omega) | decide) | fail)
  (k_with "m k_room" => first | ((try dsimp +zetaDelta only); (try simp only [depth_under_make, depth_under_kw, depth_in1, depth_deeper, depth_caller]); (try dsimp only [ktrTop]); have zzhrl9 : recursionLimit = 1000 := rfl; omega) | fail)
  (k_with "eval Name" => first | (k_here; (fail_if_success with_reducible show wpAny _ _ (eval _ (compEnvC _ _ _ _)) _ _ _); k_dflt (refine' nameX_L (by k_asm) (by exact @rfl _ (some _)) ?_ (by kernel_rfl) (rfl) (by kernel_rfl); k_whole)) | fail)
  (k_with "ite" => first | (k_closed; first | refine ite_t (by decide +kernel) ?_ | refine ite_f (by decide +kernel) ?_) | fail)
  (k_with "call type:zip" => first | (k_here; (with_reducible show wpAny _ _ (call (Value.type "zip") [Value.ref _, Value.ref _]) (fun xv s₁ => wpAny _ _ (pyIter xv) (fun it s₂ => TurnsAt _ _ _ _ _ _ _ _ _ it s₂) _ s₁) _ _); k_dflt (refine' zip_for (by exact rfl) (by k_asm) (by k_asm) (by k_mem) (by k_mem) (by exact rfl) ?_; k_whole); intro zzi' zzl1; (try k_lt zzl1)) | fail)
  (k_with "m for" => first | (k_here; (rename Fr _ _ _ _ => zzlF'); (with_unfolding_all refine' For_turns zzlF' ?_; k_whole)) | fail)
  (k_with "m pick" => first | (with_reducible (k_extra "m pk")) | fail)
  (k_with "m ne" => first | (first | with_reducible (first | assumption | (apply allNe_of; assumption) | (apply allNe_off; assumption) | (apply allNe_lt; apply PySem.W.allLt_of; assumption)) | ((with_reducible apply allNe_cons); k_ne; k_extra "m ne") | with_reducible (k_extra "m pkq") | (apply allNe_lt; with_reducible (k_extra "m pkq")) | with_reducible (k_extra "m pk") | (apply allNe_lt; with_reducible (k_extra "m pk")) | (apply allNe_off; with_reducible (k_extra "m pk")) | (apply allNe_lt; apply allLt_tl; assumption) | (with_reducible apply allNe_nil)) | fail)
  (k_with "m subh" => first | (with_reducible (apply sub_hd; first | assumption | (apply sub_hd; first | assumption | (apply sub_hd; first | assumption | (apply sub_hd; first | assumption | (apply sub_hd; first | assumption | (apply sub_hd; first | assumption | (apply sub_hd; first | assumption | (apply sub_hd; first | assumption | (apply sub_hd; assumption)))))))))) | fail)
  (k_with "m subs" => first | (first | (with_reducible apply sub_refl) | assumption | ((with_reducible apply subs_cons); k_mem; k_extra "m subs") | ((with_reducible apply sub_tl); k_extra "m subs") | (with_reducible apply List.forall_mem_nil) | k_extra "m subh") | fail)
  (k_with "compareOp In str ref" => first | (k_here; (with_reducible show wpAny _ _ (compareOp CmpOp.In (Value.str _ _) (Value.ref _)) _ _ _); k_dflt (first | (refine' kda_in (knd := PySem.strKind _ _) (by k_asm) (by k_mem) (by k_asm) (by k_asm) (strKind_is _ _ _ _) true (by first | assumption | exact rfl) ?_; k_whole) | (refine' kda_in (knd := PySem.strKind _ _) (by k_asm) (by k_mem) (by k_asm) (by k_asm) (strKind_is _ _ _ _) false (by first | assumption | exact rfl) ?_; k_whole))) | fail)
  (k_with "compareOp In str ref" => first | (k_here; (with_reducible show wpAny _ _ (compareOp CmpOp.In (Value.str _ _) (Value.ref _)) _ _ _); (with_unfolding_all refine' in_tuple_strs (by exact tup_of (by k_asm) (by k_mem)) (by kde_strs) ?_; k_whole)) | fail)
  (k_with "m agr" => first | (first | assumption | exact agree_over | exact agree_refl | (refine agree_store ?_ (by decide); k_extra "m agr")) | fail)
  (k_with "m sub" => first | (first | assumption | ((with_reducible apply sub_tl); k_extra "m sub") | k_extra "m subh") | fail)
  (k_with "execs cons" => first | (k_here; (try dsimp only); (refine' exec_cons_h ?_); intro zztk' zzG' zzhG'; (try (rename PyProof.Rows.News _ _ _ _ => zznN'; dsimp only at zznN'))) | fail)
  (k_with "execs nil" => first | (k_here; (refine' exec_nil_g ?_); intro zztk'; (try (refine qout (by with_reducible assumption) ?_))) | fail)
  (k_with "m leave" => first | (k_end; first | ((try dsimp only); (refine' gnext_cons (by with_reducible assumption) ?_); intro zztk' zzG' zzhG'; (try (rename PyProof.Rows.News _ _ _ _ => zznN'; dsimp only at zznN'))) | (refine gnext (by with_reducible assumption) ?_) | (refine gout (by with_reducible assumption) ?_ ?_; (exact True.intro); (try (refine qout (by with_reducible assumption) ?_)))) | fail)
  (k_with "m k_steps" => first | (repeat' (first | k_extra "m leave" | (k_unfold; (try dsimp only)) | (k_end; wrow_close) | walk1 | (dsimp only; walk1) | (leave1; walk_say "STEP leave1"; try dsimp only) | fail "no step")) | fail)
  (k_with "m pkq" => first | (first | assumption | (apply And.left; first | assumption | (apply And.right; first | assumption | (apply And.right; first | assumption | (apply And.right; first | assumption | (apply And.right; first | assumption | (apply And.right; assumption))))))) | fail)
  (k_with "m pkr" => first | (first | assumption | (apply And.right; first | assumption | (apply And.right; first | assumption | (apply And.right; first | assumption | (apply And.right; first | assumption | (apply And.right; first | assumption | (apply And.right; first | assumption | (apply And.right; first | assumption | (apply And.right; first | assumption | (apply And.right; first | assumption | (apply And.right; first | assumption | (apply And.right; first | assumption | (apply And.right; first | assumption | (apply And.right; first | assumption | (apply And.right; first | assumption | (apply And.right; assumption)))))))))))))))) | fail)
  (k_with "m pk" => first | (first | assumption | (apply And.left; k_extra "m pkr") | (apply And.right; k_extra "m pkr")) | fail)
  (k_with "m omega" => first | (first | ((with_reducible apply neL); with_reducible (k_extra "m pkq")) | ((with_reducible apply neG); with_reducible (k_extra "m pkq")) | ((with_reducible apply neL); with_reducible (k_extra "m pk")) | ((with_reducible apply neG); with_reducible (k_extra "m pk")) | ((with_reducible apply neS); with_reducible (k_extra "m pk")) | ((with_reducible apply lin2); assumption; exact @rfl Bool true) | ((with_reducible apply lin1); assumption; exact @rfl Bool true) | ((with_reducible apply lin0); assumption; exact @rfl Bool true) | ((with_reducible apply lin3); assumption; exact @rfl Bool true) | ((with_reducible apply lin1e); assumption; exact @rfl Bool true) | ((with_reducible apply lin2e); assumption; exact @rfl Bool true) | ((with_reducible apply Nat.le_of_ble_eq_true); exact @rfl Bool true) | ((with_reducible apply om_w); assumption; exact @rfl Bool true) | ((with_reducible apply om_p3); assumption) | ((with_reducible apply om_p2); assumption) | ((with_reducible apply om_p3e); assumption) | (with_reducible apply om_p3r) | ((with_reducible apply om_p4); assumption; exact @rfl Bool true) | ((with_reducible apply om_s); assumption; exact @rfl Bool true) | ((with_reducible apply om_s1); assumption; exact @rfl Bool true) | ((with_reducible apply om_s2); assumption; exact @rfl Bool true) | ((with_reducible apply om_i); assumption; decide +kernel) | ((with_reducible apply om_i2); assumption; assumption; decide +kernel) | ((with_reducible apply om_n); decide +kernel) | (with_reducible apply Int.natCast_nonneg) | ((with_reducible apply om_k); assumption; decide +kernel) | with_reducible (k_extra "m pk")) | fail)
  (k_with "m k_ne" => first | ((with_reducible apply PySem.W.neN); (try dsimp only); omega) | fail)
  (k_with "spliced" => first | (k_here; (with_reducible show wpAny _ _ (spliced (backTo _ (starEach (PySem.Expr.Name _ _ :: _) _))) _ _ _); k_dflt (refine' args_nm (by exact rfl) (by k_asm) (by exact @rfl _ (some _)) (by kernel_rfl) (by exact rfl) (by kernel_rfl) ?_; k_whole)) | fail)
  (k_with "eval Subscript" => first | (k_here; (with_reducible show wpAny _ _ (eval (PySem.Expr.Subscript (PySem.Expr.Name _ _) _ _) _) _ _ _); k_dflt (refine' sub_nm (by exact rfl) (by k_asm) (by exact @rfl _ (some _)) (by kernel_rfl) (by exact rfl) (by kernel_rfl) ?_; k_whole)) | fail)
  (k_with "isTrue Compare" => first | (k_here; (with_reducible show wpAny _ _ (isTrue (PySem.Expr.Compare (PySem.Expr.Name _ _) [_] [_] _) _ _) _ _ _); k_dflt (refine' cmp_nm (by exact rfl) (by k_asm) (by exact @rfl _ (some _)) (by kernel_rfl) (by exact rfl) (by kernel_rfl) (by with_unfolding_all rfl) ?_; k_whole)) | fail)
  (k_with "m k_upd" => first | (first | ((with_reducible apply PySem.W.Upd.head); k_all) | ((with_reducible apply PySem.W.Upd.tail); k_ne; k_upd)) | fail)
  (k_with "m k_updF" => first | (first | ((with_reducible apply PySem.W.UpdF.head); k_all) | ((with_reducible apply PySem.W.UpdF.tail); k_ne; k_updF)) | fail)
  (k_with "spliced" => first | (k_here; (with_reducible show wpAny _ _ (spliced (backTo _ (starEach (PySem.Expr.Constant (PySem.Const.str _) _ _ :: _) _))) _ _ _); k_dflt (refine' args_str ?_; k_whole)) | fail)
  (k_with "eval Subscript" => first | (k_here; (with_reducible show wpAny _ _ (eval (PySem.Expr.Subscript (PySem.Expr.Name _ _) (PySem.Expr.Constant (PySem.Const.int _) _ _) _) _) _ _ _); k_dflt (refine' sub_it (by exact rfl) (by k_asm) (by exact @rfl _ (some _)) (by kernel_rfl) (by exact rfl) (by kernel_rfl) (by k_asm) (by k_mem) (by exact @rfl _ (some _)) ?_; k_whole)) | fail)
  (k_with "exec If" => first | (k_here; (with_reducible show wpAny _ _ (exec (PySem.Stmt.If (PySem.Expr.Compare (PySem.Expr.Name _ _) [_] [_] _) _ _ _) _) _ _ _); k_dflt (refine' if_nm (by exact rfl) (by k_asm) (by exact @rfl _ (some _)) (by kernel_rfl) (by exact rfl) (by kernel_rfl) (by with_unfolding_all rfl) ?_; k_whole)) | fail)
  (k_with "eval Constant str" => first | (k_here; (with_reducible show wpAny _ _ (eval (PySem.Expr.Constant (PySem.Const.str _) _ _) _) (fun b s₂ => wpAny _ _ (compareOp CmpOp.Eq (Value.str _ _) b) (fun c s₃ => wpAny _ _ (truthy c) _ _ s₃) _ s₂) _ _); (with_reducible refine' eq_cst ?_); k_whole) | fail)
  (k_with "exec Assign" => first | (k_here; (with_reducible show wpAny _ _ (exec (PySem.Stmt.Assign [PySem.Expr.Attribute (PySem.Expr.Name _ _) _ _] (PySem.Expr.Name _ _) _) _) _ _ _); k_dflt (refine' set_nm (by exact rfl) (by k_asm) (by exact @rfl _ (some _)) (by exact @rfl _ (some _)) (by kernel_rfl) (by exact rfl) (by exact rfl) (by kernel_rfl) (by kernel_rfl) (by k_asm) (by k_asm) (by k_inst) (by exact rfl) (by k_is) (by k_is) (by k_is) (by k_is) (by k_get) (by k_put) (by k_upd) (by exact Nat.le_of_ble_eq_true rfl) (by exact rfl) ?_; k_whole); intro zzh' zzF' zzN'; (try k_sweep)) | fail)
  (k_with "spliced" => first | (k_here; (with_reducible show wpAny _ _ (spliced (backTo _ (starEach [] _))) (fun vs s₂ => wpAny _ _ (newTuple _) _ _ s₂) _ _); with_reducible refine' nil_tup (by k_dflt k_asm) (by k_dflt k_asm) (by k_dflt (exact Nat.le_of_ble_eq_true rfl)) ?_; k_whole; intro zzD' zzh' zzF' zzN' zzl1; (try k_lt zzl1); (try k_sweep)) | fail)
  (k_with "spliced" => first | (k_here; (with_reducible show wpAny _ _ (spliced (backTo _ (starEach [] _))) (fun vs s₂ => wpAny _ _ (newList _) _ _ s₂) _ _); with_reducible refine' nil_lst (by k_dflt k_asm) (by k_dflt k_asm) (by k_dflt (exact Nat.le_of_ble_eq_true rfl)) ?_; k_whole; intro zzl' zzh' zzF' zzN' zzl1; (try k_lt zzl1); (try k_sweep)) | fail)
  exact trivial
section
variable {w : World} {loose : List Str} {mean : ExcName → Option Value} {mg mb : Str → Option Value} {fz news : Led}
theorem headpairs_c {v1 v2 : Value} {a b : Ty} (hs : ∀ p ∈ fz, p ∈ news) (h1 : TyIn fz v1 a) (h2 : TyIn fz v2 b) :
    Calls w loose mean mg mb 1 73 [v1, v2] news (fun n' r => PairsOut fz news n' r (headPairs a b)) := by
  refine hide fun hG9 => ?_
  by_cases hk : a.kd = b.kd
  case neg =>
    obtain @⟨a1, n1, t1, r1, hm1⟩ := h1.head
    obtain @⟨a2, n2, t2, r2, hm2⟩ := h2.head
    have hb : (a.kd != b.kd) = true := bne_iff_ne.mpr hk
    have hn := headPairs_ne hk
    generalize a.kd = ka at *
    generalize b.kd = kb at *
    refine hG9 ?_
    clear hG9
    rw [hn]
    refine Calls.of ?_
    k_fill
    intro dp un gd cn cs a' ccd cl outer A₀ base h₀ L m' shh sgg sdd skk soo Q E B F X N T hk hd hu hret
    refine wpAny_call ?_
    k_dflt ktr_enter
    refine let_ae ?_
    intro nk ak Q0 hQ0
    k_steps
    exact hret _ _ _ _ (by k_asm) (by k_asm) ⟨rfl, rfl⟩
  case pos =>
    cases h1 with
    | @ref a1 n1 t1 m1 v1 u1 g1 g2 =>
      cases h2 with
      | @ref a2 n2 t2 m2 v2 u2 g3 g4 =>
        clear hk
        cases m1 <;> cases m2
        all_goals
          refine hG9 ?_
          clear hG9
          refine Calls.of ?_
          k_fill
          intro dp un gd cn cs a' ccd cl outer A₀ base h₀ L m' shh sgg sdd skk soo Q E B F X N T hk hd hu hret
          refine wpAny_call ?_
          k_dflt ktr_enter
          refine let_ae ?_
          intro nk ak Q0 hQ0
          k_steps
        all_goals first
          | exact hret _ news _ _ (by k_asm) (newsSub (by k_asm) (by ktd_sub)) (show PairsOut fz news news .none (headPairs _ _) from ⟨rfl, rfl⟩)
          | exact fin1 (news := news) (by k_asm) (by k_mem) (by k_mem) (by ktd_sub) (by assumption) (by assumption) (by k_extra "m lt") (by k_extra "m lt") fun n9 N9 o9 => hret _ n9 _ _ (by k_asm) N9 o9
      | _ => exfalso; revert hk; simp only [Ty.kd]; decide
    | @box a1 n1 t1 v1 u1 g1 g2 =>
      cases h2 with
      | @box a2 n2 t2 v2 u2 g3 g4 =>
        clear hk
        refine hG9 ?_
        clear hG9
        refine Calls.of ?_
        k_fill
        intro dp un gd cn cs a' ccd cl outer A₀ base h₀ L m' shh sgg sdd skk soo Q E B F X N T hk hd hu hret
        refine wpAny_call ?_
        k_dflt ktr_enter
        refine let_ae ?_
        intro nk ak Q0 hQ0
        k_steps
        exact fin1 (news := news) (by k_asm) (by k_mem) (by k_mem) (by ktd_sub) (by assumption) (by assumption) (by k_extra "m lt") (by k_extra "m lt") fun n9 N9 o9 => hret _ n9 _ _ (by k_asm) N9 o9
      | _ => exfalso; revert hk; simp only [Ty.kd]; decide
    | _ =>
      cases h2 <;> first | (exfalso; revert hk; simp only [Ty.kd]; decide) | skip
      all_goals clear hk
      all_goals
        refine hG9 ?_
        clear hG9
        refine Calls.of ?_
        k_fill
        intro dp un gd cn cs a' ccd cl outer A₀ base h₀ L m' shh sgg sdd skk soo Q E B F X N T hk hd hu hret
        refine wpAny_call ?_
        k_dflt ktr_enter
        refine let_ae ?_
        intro nk ak Q0 hQ0
        k_steps
        exact fin0 (news := news) (by k_asm) (by k_mem) (by ktd_sub) (by k_extra "m lt") fun n9 N9 o9 => hret _ n9 _ _ (by k_asm) N9 o9
end
theorem kw3_0 : True := by
  k_with_none
  (k_with "m k_mem" => first | (first | ktr_member | (with_reducible apply mem_hd) | ((with_reducible apply mem_tl); k_mem) | exact mem_via (by assumption) (by assumption)) | fail)
  (k_with "ite" => first | (first | refine ite_t (by with_reducible assumption) ?_ | refine ite_f (by with_reducible assumption) ?_) | fail)
  (k_with "m lt" => first | (first | assumption | (apply PySem.W.allLt_of; assumption) | (apply allLt_tl; assumption) | (apply allLt_tl2; assumption) | with_reducible (k_extra "m pk") | (simp only [AllLt, and_true] at *; first | assumption | omega)) | fail)
  (k_with "m k_all" => first | (first | assumption | (apply ne_of_allNe; k_extra "m ne") | (apply ne_of_allLt; k_extra "m lt")) | fail)
  (k_with "m call" => first | (k_here; k_dflt (refine' Calls.use' (by k_asm) (by k_asm) (by k_asm) (by k_asm) (by k_asm) (by first | exact rfl | assumption) (by k_extra "m con") (by first | omega | (dsimp only [ktrTop]; omega)) (by k_extra "m un") ?_; k_whole); ((intro zzG9 zzhG9; k_dflt (k_extra "m out")) <;> (refine zzhG9 _ _ ?_; intro zzh9 zztk9 zzF9 zzN9; (try k_sweep)))) | fail)
  (k_with "m out" => first | (intro zzn9 zzr9 zzo9; (first | (obtain ⟨zze1, zze2⟩ := zzo9; subst zze1; subst zze2) | (obtain ⟨zze1, zzt9, zze2⟩ := zzo9; subst zze1; subst zze2) | (obtain ⟨zzl9, zze9, zze2, zze1, zzq9⟩ := zzo9; subst zze1; subst zze2; (simp only [AllLt, and_true] at zzq9)) | (obtain ⟨zzl9, zze9, zzp9, zzm9, zzx9, zzy9, zze2, zze1, zzq1, zzq2, zzq3, zzq4⟩ := zzo9; subst zze1; subst zze2; (simp only [AllLt, and_true] at zzq3); obtain ⟨zza8, zzn8, zzt8, zzr8, zze8, zzm8⟩ := Mine.TyIn.head zzq1; subst zze8; obtain ⟨zza7, zzn7, zzt7, zzr7, zze7, zzm7⟩ := Mine.TyIn.head zzq2; subst zze7) | (rcases zzo9 with ⟨zze3, zze1, zzt9, zze2⟩ | ⟨zze3, zze1, zzt9, zze2⟩ <;> (subst zze1; subst zze2)))) | fail)
  (k_with "call ref" => first | (k_extra "m call") | fail)
  (k_with "m un" => first | ((try dsimp +zetaDelta only); (have zzhcl9 := cLine_is); (try simp only [units_in1, units_deeper, Around.mark_units, units_caller]); (try dsimp only [ktrTop]); omega) | fail)
  (k_with "m dp" => first | (first | assumption | (simp only [Ty.dep]; omega) | decide) | fail)
  (k_with "compareOp NotEq ref ref" => first | (k_here; (with_reducible show wpAny _ _ (compareOp CmpOp.NotEq (Value.ref _) (Value.ref _)) _ _ _); k_dflt (first | (refine' nil_ne_nil (by k_asm) (by k_mem) (by k_mem) (by k_extra "m un") ?_; k_whole) | (refine' one_ne_nil (by k_asm) (by k_mem) (by k_mem) (by k_mem) (by assumption) (by assumption) (by k_extra "m sub") (by k_extra "m dp") (by k_extra "m dp") (by k_extra "m un") ?_; k_whole))) | fail)
  (k_with "truthy ref" => first | (k_here; (with_reducible show wpAny _ _ (truthy (Value.ref _)) _ _ _); k_dflt (refine' truthy_lst (by k_asm) (by k_mem) (by first | exact (show _ = true from rfl) | exact (show _ = false from rfl)) (by exact Nat.le_of_ble_eq_true rfl) ?_; k_whole)) | fail)
  (k_with "exec While Compare" => first | (k_here; k_dflt (refine whl_start 8 ?_)) | fail)
  (k_with "m k_room" => first | ((try dsimp +zetaDelta only); (try simp only [depth_under_make, depth_under_kw, depth_in1, depth_deeper, depth_caller]); (try dsimp only [ktrTop]); have zzhrl9 : recursionLimit = 1000 := rfl; omega) | fail)
  (k_with "eval Name" => first | (k_here; (fail_if_success with_reducible show wpAny _ _ (eval _ (compEnvC _ _ _ _)) _ _ _); k_dflt (refine' nameX_L (by k_asm) (by exact @rfl _ (some _)) ?_ (by kernel_rfl) (rfl) (by kernel_rfl); k_whole)) | fail)
  (k_with "ite" => first | (k_closed; first | refine ite_t (by decide +kernel) ?_ | refine ite_f (by decide +kernel) ?_) | fail)
  (k_with "m for" => first | (k_here; (rename Fr _ _ _ _ => zzlF'); (with_unfolding_all refine' For_turns zzlF' ?_; k_whole)) | fail)
  (k_with "m pick" => first | (with_reducible (k_extra "m pk")) | fail)
  (k_with "m ne" => first | (first | with_reducible (first | assumption | (apply allNe_of; assumption) | (apply allNe_off; assumption) | (apply allNe_lt; apply PySem.W.allLt_of; assumption)) | ((with_reducible apply allNe_cons); k_ne; k_extra "m ne") | with_reducible (k_extra "m pkq") | (apply allNe_lt; with_reducible (k_extra "m pkq")) | with_reducible (k_extra "m pk") | (apply allNe_lt; with_reducible (k_extra "m pk")) | (apply allNe_off; with_reducible (k_extra "m pk")) | (apply allNe_lt; apply allLt_tl; assumption) | (with_reducible apply allNe_nil)) | fail)
  (k_with "m subh" => first | (with_reducible (apply sub_hd; first | assumption | (apply sub_hd; first | assumption | (apply sub_hd; first | assumption | (apply sub_hd; first | assumption | (apply sub_hd; first | assumption | (apply sub_hd; first | assumption | (apply sub_hd; first | assumption | (apply sub_hd; first | assumption | (apply sub_hd; assumption)))))))))) | fail)
  (k_with "m subs" => first | (first | (with_reducible apply sub_refl) | assumption | ((with_reducible apply subs_cons); k_mem; k_extra "m subs") | ((with_reducible apply sub_tl); k_extra "m subs") | (with_reducible apply List.forall_mem_nil) | k_extra "m subh") | fail)
  (k_with "getMethod ref" => first | (k_here; (with_reducible show wpAny _ _ (getMethod (Value.ref _) (Str.ofString "get") _) _ _ _); k_dflt (refine' kdg_method (knd := PySem.strKind _ _) (by k_asm) (by k_mem) (by k_asm) ?_; k_whole)) | fail)
  (k_with "compareOp In str ref" => first | (k_here; (with_reducible show wpAny _ _ (compareOp CmpOp.In (Value.str _ _) (Value.ref _)) _ _ _); k_dflt (first | (refine' kda_in (knd := PySem.strKind _ _) (by k_asm) (by k_mem) (by k_asm) (by k_asm) (strKind_is _ _ _ _) true (by first | assumption | exact rfl) ?_; k_whole) | (refine' kda_in (knd := PySem.strKind _ _) (by k_asm) (by k_mem) (by k_asm) (by k_asm) (strKind_is _ _ _ _) false (by first | assumption | exact rfl) ?_; k_whole))) | fail)
  (k_with "compareOp In str ref" => first | (k_here; (with_reducible show wpAny _ _ (compareOp CmpOp.In (Value.str _ _) (Value.ref _)) _ _ _); (with_unfolding_all refine' in_tuple_strs (by exact tup_of (by k_asm) (by k_mem)) (by kde_strs) ?_; k_whole)) | fail)
  (k_with "m agr" => first | (first | assumption | exact agree_over | exact agree_refl | (refine agree_store ?_ (by decide); k_extra "m agr")) | fail)
  (k_with "compareOp NotEq ref ref" => first | (k_here; (with_reducible show wpAny _ _ (compareOp CmpOp.NotEq (Value.ref _) (Value.ref _)) _ _ _); k_dflt (refine' ne_empty (by k_asm) (by k_mem) (by k_mem) (by k_extra "m un") (by first | assumption | exact rfl) ?_; k_whole)) | fail)
  (k_with "m sub" => first | (first | assumption | ((with_reducible apply sub_tl); k_extra "m sub") | k_extra "m subh") | fail)
  (k_with "execs cons" => first | (k_here; (try dsimp only); (refine' exec_cons_h ?_); intro zztk' zzG' zzhG'; (try (rename PyProof.Rows.News _ _ _ _ => zznN'; dsimp only at zznN'))) | fail)
  (k_with "execs nil" => first | (k_here; (refine' exec_nil_g ?_); intro zztk'; (try (refine qout (by with_reducible assumption) ?_))) | fail)
  (k_with "m leave" => first | (k_end; first | ((try dsimp only); (refine' gnext_cons (by with_reducible assumption) ?_); intro zztk' zzG' zzhG'; (try (rename PyProof.Rows.News _ _ _ _ => zznN'; dsimp only at zznN'))) | (refine gnext (by with_reducible assumption) ?_) | (refine gout (by with_reducible assumption) ?_ ?_; (exact True.intro); (try (refine qout (by with_reducible assumption) ?_)))) | fail)
  (k_with "m k_steps" => first | (repeat' (first | k_extra "m leave" | (k_unfold; (try dsimp only)) | (k_end; wrow_close) | walk1 | (dsimp only; walk1) | (leave1; walk_say "STEP leave1"; try dsimp only) | fail "no step")) | fail)
  (k_with "m pkq" => first | (first | assumption | (apply And.left; first | assumption | (apply And.right; first | assumption | (apply And.right; first | assumption | (apply And.right; first | assumption | (apply And.right; first | assumption | (apply And.right; assumption))))))) | fail)
  (k_with "m pkr" => first | (first | assumption | (apply And.right; first | assumption | (apply And.right; first | assumption | (apply And.right; first | assumption | (apply And.right; first | assumption | (apply And.right; first | assumption | (apply And.right; first | assumption | (apply And.right; first | assumption | (apply And.right; first | assumption | (apply And.right; first | assumption | (apply And.right; first | assumption | (apply And.right; first | assumption | (apply And.right; first | assumption | (apply And.right; first | assumption | (apply And.right; first | assumption | (apply And.right; assumption)))))))))))))))) | fail)
  (k_with "m pk" => first | (first | assumption | (apply And.left; k_extra "m pkr") | (apply And.right; k_extra "m pkr")) | fail)
  (k_with "m omega" => first | (first | ((with_reducible apply neL); with_reducible (k_extra "m pkq")) | ((with_reducible apply neG); with_reducible (k_extra "m pkq")) | ((with_reducible apply neL); with_reducible (k_extra "m pk")) | ((with_reducible apply neG); with_reducible (k_extra "m pk")) | ((with_reducible apply neS); with_reducible (k_extra "m pk")) | ((with_reducible apply lin2); assumption; exact @rfl Bool true) | ((with_reducible apply lin1); assumption; exact @rfl Bool true) | ((with_reducible apply lin0); assumption; exact @rfl Bool true) | ((with_reducible apply lin3); assumption; exact @rfl Bool true) | ((with_reducible apply lin1e); assumption; exact @rfl Bool true) | ((with_reducible apply lin2e); assumption; exact @rfl Bool true) | ((with_reducible apply Nat.le_of_ble_eq_true); exact @rfl Bool true) | ((with_reducible apply om_w); assumption; exact @rfl Bool true) | ((with_reducible apply om_p3); assumption) | ((with_reducible apply om_p2); assumption) | ((with_reducible apply om_p3e); assumption) | (with_reducible apply om_p3r) | ((with_reducible apply om_p4); assumption; exact @rfl Bool true) | ((with_reducible apply om_s); assumption; exact @rfl Bool true) | ((with_reducible apply om_s1); assumption; exact @rfl Bool true) | ((with_reducible apply om_s2); assumption; exact @rfl Bool true) | ((with_reducible apply om_i); assumption; decide +kernel) | ((with_reducible apply om_i2); assumption; assumption; decide +kernel) | ((with_reducible apply om_n); decide +kernel) | (with_reducible apply Int.natCast_nonneg) | ((with_reducible apply om_k); assumption; decide +kernel) | with_reducible (k_extra "m pk")) | fail)
  (k_with "m k_ne" => first | ((with_reducible apply PySem.W.neN); (try dsimp only); omega) | fail)
  (k_with "spliced" => first | (k_here; (with_reducible show wpAny _ _ (spliced (backTo _ (starEach (PySem.Expr.Name _ _ :: _) _))) _ _ _); k_dflt (refine' args_nm (by exact rfl) (by k_asm) (by exact @rfl _ (some _)) (by kernel_rfl) (by exact rfl) (by kernel_rfl) ?_; k_whole)) | fail)
  (k_with "eval Subscript" => first | (k_here; (with_reducible show wpAny _ _ (eval (PySem.Expr.Subscript (PySem.Expr.Name _ _) _ _) _) _ _ _); k_dflt (refine' sub_nm (by exact rfl) (by k_asm) (by exact @rfl _ (some _)) (by kernel_rfl) (by exact rfl) (by kernel_rfl) ?_; k_whole)) | fail)
  (k_with "isTrue Compare" => first | (k_here; (with_reducible show wpAny _ _ (isTrue (PySem.Expr.Compare (PySem.Expr.Name _ _) [_] [_] _) _ _) _ _ _); k_dflt (refine' cmp_nm (by exact rfl) (by k_asm) (by exact @rfl _ (some _)) (by kernel_rfl) (by exact rfl) (by kernel_rfl) (by with_unfolding_all rfl) ?_; k_whole)) | fail)
  (k_with "m k_upd" => first | (first | ((with_reducible apply PySem.W.Upd.head); k_all) | ((with_reducible apply PySem.W.Upd.tail); k_ne; k_upd)) | fail)
  (k_with "m k_updF" => first | (first | ((with_reducible apply PySem.W.UpdF.head); k_all) | ((with_reducible apply PySem.W.UpdF.tail); k_ne; k_updF)) | fail)
  (k_with "spliced" => first | (k_here; (with_reducible show wpAny _ _ (spliced (backTo _ (starEach (PySem.Expr.Constant (PySem.Const.str _) _ _ :: _) _))) _ _ _); k_dflt (refine' args_str ?_; k_whole)) | fail)
  (k_with "eval Subscript" => first | (k_here; (with_reducible show wpAny _ _ (eval (PySem.Expr.Subscript (PySem.Expr.Name _ _) (PySem.Expr.Constant (PySem.Const.int _) _ _) _) _) _ _ _); k_dflt (refine' sub_it (by exact rfl) (by k_asm) (by exact @rfl _ (some _)) (by kernel_rfl) (by exact rfl) (by kernel_rfl) (by k_asm) (by k_mem) (by exact @rfl _ (some _)) ?_; k_whole)) | fail)
  (k_with "exec If" => first | (k_here; (with_reducible show wpAny _ _ (exec (PySem.Stmt.If (PySem.Expr.Compare (PySem.Expr.Name _ _) [_] [_] _) _ _ _) _) _ _ _); k_dflt (refine' if_nm (by exact rfl) (by k_asm) (by exact @rfl _ (some _)) (by kernel_rfl) (by exact rfl) (by kernel_rfl) (by with_unfolding_all rfl) ?_; k_whole)) | fail)
  (k_with "eval Constant str" => first | (k_here; (with_reducible show wpAny _ _ (eval (PySem.Expr.Constant (PySem.Const.str _) _ _) _) (fun b s₂ => wpAny _ _ (compareOp CmpOp.Eq (Value.str _ _) b) (fun c s₃ => wpAny _ _ (truthy c) _ _ s₃) _ s₂) _ _); (with_reducible refine' eq_cst ?_); k_whole) | fail)
  (k_with "exec Assign" => first | (k_here; (with_reducible show wpAny _ _ (exec (PySem.Stmt.Assign [PySem.Expr.Attribute (PySem.Expr.Name _ _) _ _] (PySem.Expr.Name _ _) _) _) _ _ _); k_dflt (refine' set_nm (by exact rfl) (by k_asm) (by exact @rfl _ (some _)) (by exact @rfl _ (some _)) (by kernel_rfl) (by exact rfl) (by exact rfl) (by kernel_rfl) (by kernel_rfl) (by k_asm) (by k_asm) (by k_inst) (by exact rfl) (by k_is) (by k_is) (by k_is) (by k_is) (by k_get) (by k_put) (by k_upd) (by exact Nat.le_of_ble_eq_true rfl) (by exact rfl) ?_; k_whole); intro zzh' zzF' zzN'; (try k_sweep)) | fail)
  (k_with "spliced" => first | (k_here; (with_reducible show wpAny _ _ (spliced (backTo _ (starEach [] _))) (fun vs s₂ => wpAny _ _ (newTuple _) _ _ s₂) _ _); with_reducible refine' nil_tup (by k_dflt k_asm) (by k_dflt k_asm) (by k_dflt (exact Nat.le_of_ble_eq_true rfl)) ?_; k_whole; intro zzD' zzh' zzF' zzN' zzl1; (try k_lt zzl1); (try k_sweep)) | fail)
  (k_with "spliced" => first | (k_here; (with_reducible show wpAny _ _ (spliced (backTo _ (starEach [] _))) (fun vs s₂ => wpAny _ _ (newList _) _ _ s₂) _ _); with_reducible refine' nil_lst (by k_dflt k_asm) (by k_dflt k_asm) (by k_dflt (exact Nat.le_of_ble_eq_true rfl)) ?_; k_whole; intro zzl' zzh' zzF' zzN' zzl1; (try k_lt zzl1); (try k_sweep)) | fail)
  exact trivial
section
variable {w : World} {loose : List Str} {mean : ExcName → Option Value} {mg mb : Str → Option Value} {fz news : Led}
inductive HpOut (fz news : Led) (a b : Ty) : Led → Value → Prop
  | no : a ≠ b → HpOut fz news a b news .none
  | nil {l ep} : a = b → AllLt l news → HpOut fz news a b ((l, listOf #[] ep) :: news) (.ref l)
  | one {l ep p n x y v kx rx ky ry nx ny} : (a = b ↔ v = .adt) → v.clear = true → v.dep ≤ 40 → (["var", "intvar"] : List Str).any (fun x => x == v.kd) = false → TyIn fz (.ref x) .adt → TyIn fz (.ref y) v →
    (x, tupOf (.str Ty.adt.kd kx :: rx) nx) ∈ fz → (y, tupOf (.str v.kd ky :: ry) ny) ∈ fz → (@LT.lt Nat _ p l ∧ AllLt l news) → AllLt p news → HpOut fz news a b ((l, listOf #[.ref p] ep) :: (p, tupOf [.ref x, .ref y] n) :: news) (.ref l)
inductive Hp2 (news : Led) (b : Ty) : Led → Value → Prop
  | no : ¬ b = .adt → Hp2 news b news .none
  | nil {l ep} : b = .adt → AllLt l news → Hp2 news b ((l, listOf #[] ep) :: news) (.ref l)
theorem out_none {n : Led} {r : Value} {a b : Ty} (h : PairsOut fz news n r none) (e : a ≠ b) : HpOut fz news a b n r := by
  obtain ⟨rfl, rfl⟩ := h
  exact .no e
theorem out_nil {n : Led} {r : Value} {a b : Ty} (h : PairsOut fz news n r (some [])) (e : a = b) : HpOut fz news a b n r := by
  obtain ⟨l, ep, rfl, rfl, q⟩ := h
  exact .nil e q
theorem kd_open {v : Ty} (h : v.clear = true) : (["var", "intvar"] : List Str).any (fun x => x == v.kd) = false := by
  cases v <;> first | exact absurd h (by decide) | (simp only [Ty.kd]; decide)
theorem out_one {n : Led} {r : Value} {a b v : Ty} (h : PairsOut fz news n r (some [(.adt, v)])) (e : a = b ↔ v = .adt) (hv : v.clear = true) (dv : v.dep ≤ 40) : HpOut fz news a b n r := by
  obtain ⟨l, ep, p, n, x, y, rfl, rfl, q1, q2, q3, q4⟩ := h
  obtain @⟨x', nx, kx, rx, mx⟩ := q1.head
  obtain @⟨y', ny, ky, ry, my⟩ := q2.head
  exact .one e hv dv (kd_open hv) q1 q2 mx my ⟨q4, allLt_of fun q hq => Nat.lt_trans (lt_get q3 hq) q4⟩ q3
theorem out_ref {n : Led} {r : Value} {m k : Bool} {v : Ty} (h : PairsOut fz news n r (headPairs (.ref m .adt) (.ref k v))) (hv : v.clear = true) (dv : v.dep + 1 ≤ 40) : HpOut fz news (.ref m .adt) (.ref k v) n r := by
  by_cases e : m = k
  · subst e
    exact out_one (show PairsOut fz news n r (some [(.adt, v)]) from (if_pos rfl : headPairs (.ref m .adt) (.ref m v) = _) ▸ h) ⟨fun e => by cases e; rfl, fun e => by rw [e]⟩ hv (Nat.le_of_succ_le dv)
  · exact out_none (show PairsOut fz news n r none from (if_neg e : headPairs (.ref m .adt) (.ref k v) = _) ▸ h) fun q => e (by cases q; rfl)
theorem hp_any {v1 v2 : Value} {a b : Ty} (hs : ∀ p ∈ fz, p ∈ news) (h1 : TyIn fz v1 a) (h2 : TyIn fz v2 b) (ha : IsPat a) (hb : b.clear = true) (db : b.dep ≤ 40) :
    Calls w loose mean mg mb 1 73 [v1, v2] news (HpOut fz news a b) := by
  refine (headpairs_c (w := w) (loose := loose) (mean := mean) (mg := mg) (mb := mb) hs h1 h2).imp fun n r h => ?_
  clear h1 h2 hs
  cases ha <;> cases b <;> first
    | exact out_none h nofun
    | exact out_nil h rfl
    | exact out_ref h hb db
    | exact out_one h ⟨fun e => by cases e; rfl, fun e => by rw [e]⟩ hb (Nat.le_of_succ_le db)
theorem hp_adt {v1 v2 : Value} {b : Ty} (hs : ∀ p ∈ fz, p ∈ news) (h1 : TyIn fz v1 .adt) (h2 : TyIn fz v2 b) :
    Calls w loose mean mg mb 1 73 [v1, v2] news (Hp2 news b) := by
  refine (headpairs_c (w := w) (loose := loose) (mean := mean) (mg := mg) (mb := mb) hs h1 h2).imp fun n r h => ?_
  clear h1 h2 hs
  cases b
  case adt =>
    obtain ⟨l, ep, rfl, rfl, q⟩ := h
    exact .nil rfl q
  all_goals
    obtain ⟨rfl, rfl⟩ := h
    exact .no (by intro e; cases e)
theorem kw3_1 : True := by
  (k_with "m con" => first | (first | exact hp_adt (w := w) (by k_extra "m sub") (by assumption) (by assumption) | exact hp_any (w := w) (by k_extra "m sub") (by assumption) (by assumption) (by assumption) (by assumption) (by assumption)) | fail)
  (k_with "m out" => first | (intro zzn9 zzr9 zzo9; (first | (have zzo8 : Mine.Hp2 _ _ _ _ := zzo9; clear zzo9; rcases zzo8 with ⟨zze0⟩ | ⟨zze0, zzq3⟩ <;> (try simp only [AllLt, and_true] at zzq3)) | (have zzo8 : Mine.HpOut _ _ _ _ _ _ := zzo9; clear zzo9; rcases zzo8 with ⟨zze0⟩ | ⟨zze0, zzq3⟩ | ⟨zze0, zze1, zze2, zze3, zzq1, zzq2, zzm1, zzm2, zzq3, zzq4⟩ <;> (try simp only [AllLt, and_true] at zzq3) <;> (try simp only [AllLt, and_true] at zzq4)))) | fail)
  exact trivial
theorem matchtype_c {v1 v2 nv fv : Value} {a b : Ty} (hs : ∀ p ∈ fz, p ∈ news) (h1 : TyIn fz v1 a) (h2 : TyIn fz v2 b) (ha : IsPat a) (hb : b.clear = true) (db : b.dep ≤ 40) :
    Calls w loose mean mg mb 2 87 [v1, v2, nv, fv] news (fun n' r => n' = news ∧ ∃ t, r = .str (if a = b then "yes" else "no") t) := by
  refine hide fun hG9 => ?_
  have da : a.dep ≤ 40 := by cases ha <;> simp [Ty.dep]
  have ka : (a.kd == "param") = false := by cases ha <;> (simp only [Ty.kd]; decide)
  have kb : (["var", "intvar"] : List Str).any (fun x => x == b.kd) = false := by cases b <;> first | exact absurd hb (by decide) | (simp only [Ty.kd]; decide)
  have ku : (Ty.adt.kd == "param") = false := by simp only [Ty.kd]; decide
  obtain @⟨a1, n1, t1, r1, hm1⟩ := h1.head
  obtain @⟨a2, n2, t2, r2, hm2⟩ := h2.head
  refine hG9 ?_
  clear hG9
  refine Calls.of ?_
  k_fill
  intro dp un gd cn cs a' ccd cl outer A₀ base h₀ L m' shh sgg sdd skk soo Q E B F X N T hk hd hu hret
  refine wpAny_call ?_
  k_dflt ktr_enter
  refine let_ae ?_
  intro nk ak Q0 hQ0
  k_steps
  · exact hret _ _ _ _ (by k_asm) (newsSub (by k_asm) (by ktd_sub)) ⟨rfl, _, (congrArg (fun q : Str => Value.str q _) (if_neg (by assumption))).symm⟩
  · exact hret _ _ _ _ (by k_asm) (newsSub (by k_asm) (by ktd_sub)) ⟨rfl, _, (congrArg (fun q : Str => Value.str q _) (if_pos (by assumption))).symm⟩
  · rename (¬ _ = Ty.adt) => h9
    rename (a = b ↔ _) => hab
    exact hret _ _ _ _ (by k_asm) (newsSub (by k_asm) (by ktd_sub)) ⟨rfl, _, (congrArg (fun q : Str => Value.str q _) (if_neg fun e => h9 (hab.mp e))).symm⟩
  · rename (_ = Ty.adt) => h9
    rename (a = b ↔ _) => hab
    exact hret _ _ _ _ (by k_asm) (newsSub (by k_asm) (by ktd_sub)) ⟨rfl, _, (congrArg (fun q : Str => Value.str q _) (if_pos (hab.mpr h9))).symm⟩
end
theorem kw4_0 : True := by
  k_with_none
  (k_with "m k_mem" => first | (first | ktr_member | (with_reducible apply mem_hd) | ((with_reducible apply mem_tl); k_mem) | exact mem_via (by assumption) (by assumption)) | fail)
  (k_with "ite" => first | (first | refine ite_t (by with_reducible assumption) ?_ | refine ite_f (by with_reducible assumption) ?_) | fail)
  (k_with "call type:zip" => first | (k_here; (with_reducible show wpAny _ _ (call (Value.type "zip") [Value.ref _, Value.ref _]) _ _ _); k_dflt (refine' zip_N (by k_asm) (by k_asm) (by k_mem) (by k_mem) ?_; k_whole); intro zzb' zzh' zzF' zzN' zzZ'; (try k_sweep)) | fail)
  (k_with "m lt" => first | (first | assumption | (apply PySem.W.allLt_of; assumption) | (apply allLt_tl; assumption) | (apply allLt_tl2; assumption) | with_reducible (k_extra "m pk") | (simp only [AllLt, and_true] at *; first | assumption | omega)) | fail)
  (k_with "m k_all" => first | (first | assumption | (apply ne_of_allNe; k_extra "m ne") | (apply ne_of_allLt; k_extra "m lt")) | fail)
  (k_with "m call" => first | (k_here; k_dflt (refine' Calls.use' (by k_asm) (by k_asm) (by k_asm) (by k_asm) (by k_asm) (by first | exact rfl | assumption) (by k_extra "m con") (by first | omega | (dsimp only [ktrTop]; omega)) (by k_extra "m un") ?_; k_whole); ((intro zzG9 zzhG9; k_dflt (k_extra "m out")) <;> (refine zzhG9 _ _ ?_; intro zzh9 zztk9 zzF9 zzN9; (try k_sweep)))) | fail)
  (k_with "m out" => first | (intro zzn9 zzr9 zzo9; (first | (obtain ⟨zze1, zze2⟩ := zzo9; subst zze1; subst zze2) | (obtain ⟨zze1, zzt9, zze2⟩ := zzo9; subst zze1; subst zze2) | (obtain ⟨zzl9, zze9, zze2, zze1, zzq9⟩ := zzo9; subst zze1; subst zze2; (simp only [AllLt, and_true] at zzq9)) | (obtain ⟨zzl9, zze9, zzp9, zzm9, zzx9, zzy9, zze2, zze1, zzq1, zzq2, zzq3, zzq4⟩ := zzo9; subst zze1; subst zze2; (simp only [AllLt, and_true] at zzq3); obtain ⟨zza8, zzn8, zzt8, zzr8, zze8, zzm8⟩ := Mine.TyIn.head zzq1; subst zze8; obtain ⟨zza7, zzn7, zzt7, zzr7, zze7, zzm7⟩ := Mine.TyIn.head zzq2; subst zze7) | (rcases zzo9 with ⟨zze3, zze1, zzt9, zze2⟩ | ⟨zze3, zze1, zzt9, zze2⟩ <;> (subst zze1; subst zze2)))) | fail)
  (k_with "call ref" => first | (k_extra "m call") | fail)
  (k_with "m un" => first | ((try dsimp +zetaDelta only); (have zzhcl9 := cLine_is); (try simp only [units_in1, units_deeper, Around.mark_units, units_caller]); (try dsimp only [ktrTop]); omega) | fail)
  (k_with "m dp" => first | (first | assumption | (simp only [Ty.dep]; omega) | decide) | fail)
  (k_with "m k_room" => first | ((try dsimp +zetaDelta only); (try simp only [depth_under_make, depth_under_kw, depth_in1, depth_deeper, depth_caller]); (try dsimp only [ktrTop]); have zzhrl9 : recursionLimit = 1000 := rfl; omega) | fail)
  (k_with "eval Name" => first | (k_here; (fail_if_success with_reducible show wpAny _ _ (eval _ (compEnvC _ _ _ _)) _ _ _); k_dflt (refine' nameX_L (by k_asm) (by exact @rfl _ (some _)) ?_ (by kernel_rfl) (rfl) (by kernel_rfl); k_whole)) | fail)
  (k_with "ite" => first | (k_closed; first | refine ite_t (by decide +kernel) ?_ | refine ite_f (by decide +kernel) ?_) | fail)
  (k_with "call type:zip" => first | (k_here; (with_reducible show wpAny _ _ (call (Value.type "zip") [Value.ref _, Value.ref _]) (fun xv s₁ => wpAny _ _ (pyIter xv) (fun it s₂ => TurnsAt _ _ _ _ _ _ _ _ _ it s₂) _ s₁) _ _); k_dflt (refine' zip_for (by exact rfl) (by k_asm) (by k_asm) (by k_mem) (by k_mem) (by exact rfl) ?_; k_whole); intro zzi' zzl1; (try k_lt zzl1)) | fail)
  (k_with "exec For Tuple Call cons nil" => first | (k_extra "m for") | fail)
  (k_with "m for" => first | (k_here; (rename Fr _ _ _ _ => zzlF'); (with_unfolding_all refine' For_turns zzlF' ?_; k_whole)) | fail)
  (k_with "m pick" => first | (with_reducible (k_extra "m pk")) | fail)
  (k_with "m ne" => first | (first | with_reducible (first | assumption | (apply allNe_of; assumption) | (apply allNe_off; assumption) | (apply allNe_lt; apply PySem.W.allLt_of; assumption)) | ((with_reducible apply allNe_cons); k_ne; k_extra "m ne") | with_reducible (k_extra "m pkq") | (apply allNe_lt; with_reducible (k_extra "m pkq")) | with_reducible (k_extra "m pk") | (apply allNe_lt; with_reducible (k_extra "m pk")) | (apply allNe_off; with_reducible (k_extra "m pk")) | (apply allNe_lt; apply allLt_tl; assumption) | (with_reducible apply allNe_nil)) | fail)
  (k_with "m subh" => first | (with_reducible (apply sub_hd; first | assumption | (apply sub_hd; first | assumption | (apply sub_hd; first | assumption | (apply sub_hd; first | assumption | (apply sub_hd; first | assumption | (apply sub_hd; first | assumption | (apply sub_hd; first | assumption | (apply sub_hd; first | assumption | (apply sub_hd; assumption)))))))))) | fail)
  (k_with "m subs" => first | (first | (with_reducible apply sub_refl) | assumption | ((with_reducible apply subs_cons); k_mem; k_extra "m subs") | ((with_reducible apply sub_tl); k_extra "m subs") | (with_reducible apply List.forall_mem_nil) | k_extra "m subh") | fail)
  (k_with "m agr" => first | (first | assumption | exact agree_over | exact agree_refl | (refine agree_store ?_ (by decide); k_extra "m agr")) | fail)
  (k_with "m sub" => first | (first | assumption | ((with_reducible apply sub_tl); k_extra "m sub") | k_extra "m subh") | fail)
  (k_with "execs cons" => first | (k_here; (try dsimp only); (refine' exec_cons_h ?_); intro zztk' zzG' zzhG'; (try (rename PyProof.Rows.News _ _ _ _ => zznN'; dsimp only at zznN'))) | fail)
  (k_with "execs nil" => first | (k_here; (refine' exec_nil_g ?_); intro zztk'; (try (refine qout (by with_reducible assumption) ?_))) | fail)
  (k_with "m leave" => first | (k_end; first | ((try dsimp only); (refine' gnext_cons (by with_reducible assumption) ?_); intro zztk' zzG' zzhG'; (try (rename PyProof.Rows.News _ _ _ _ => zznN'; dsimp only at zznN'))) | (refine gnext (by with_reducible assumption) ?_) | (refine gout (by with_reducible assumption) ?_ ?_; (exact True.intro); (try (refine qout (by with_reducible assumption) ?_)))) | fail)
  (k_with "m k_steps" => first | (repeat' (first | k_extra "m leave" | (k_unfold; (try dsimp only)) | (k_end; wrow_close) | walk1 | (dsimp only; walk1) | (leave1; walk_say "STEP leave1"; try dsimp only) | fail "no step")) | fail)
  (k_with "m pkq" => first | (first | assumption | (apply And.left; first | assumption | (apply And.right; first | assumption | (apply And.right; first | assumption | (apply And.right; first | assumption | (apply And.right; first | assumption | (apply And.right; assumption))))))) | fail)
  (k_with "m pkr" => first | (first | assumption | (apply And.right; first | assumption | (apply And.right; first | assumption | (apply And.right; first | assumption | (apply And.right; first | assumption | (apply And.right; first | assumption | (apply And.right; first | assumption | (apply And.right; first | assumption | (apply And.right; first | assumption | (apply And.right; first | assumption | (apply And.right; first | assumption | (apply And.right; first | assumption | (apply And.right; first | assumption | (apply And.right; first | assumption | (apply And.right; first | assumption | (apply And.right; assumption)))))))))))))))) | fail)
  (k_with "m pk" => first | (first | assumption | (apply And.left; k_extra "m pkr") | (apply And.right; k_extra "m pkr")) | fail)
  (k_with "m omega" => first | (first | ((with_reducible apply neL); with_reducible (k_extra "m pkq")) | ((with_reducible apply neG); with_reducible (k_extra "m pkq")) | ((with_reducible apply neL); with_reducible (k_extra "m pk")) | ((with_reducible apply neG); with_reducible (k_extra "m pk")) | ((with_reducible apply neS); with_reducible (k_extra "m pk")) | ((with_reducible apply lin2); assumption; exact @rfl Bool true) | ((with_reducible apply lin1); assumption; exact @rfl Bool true) | ((with_reducible apply lin0); assumption; exact @rfl Bool true) | ((with_reducible apply lin3); assumption; exact @rfl Bool true) | ((with_reducible apply lin1e); assumption; exact @rfl Bool true) | ((with_reducible apply lin2e); assumption; exact @rfl Bool true) | ((with_reducible apply Nat.le_of_ble_eq_true); exact @rfl Bool true) | ((with_reducible apply om_w); assumption; exact @rfl Bool true) | ((with_reducible apply om_p3); assumption) | ((with_reducible apply om_p2); assumption) | ((with_reducible apply om_p3e); assumption) | (with_reducible apply om_p3r) | ((with_reducible apply om_p4); assumption; exact @rfl Bool true) | ((with_reducible apply om_s); assumption; exact @rfl Bool true) | ((with_reducible apply om_s1); assumption; exact @rfl Bool true) | ((with_reducible apply om_s2); assumption; exact @rfl Bool true) | ((with_reducible apply om_i); assumption; decide +kernel) | ((with_reducible apply om_i2); assumption; assumption; decide +kernel) | ((with_reducible apply om_n); decide +kernel) | (with_reducible apply Int.natCast_nonneg) | ((with_reducible apply om_k); assumption; decide +kernel) | with_reducible (k_extra "m pk")) | fail)
  (k_with "m k_ne" => first | ((with_reducible apply PySem.W.neN); (try dsimp only); omega) | fail)
  (k_with "spliced" => first | (k_here; (with_reducible show wpAny _ _ (spliced (backTo _ (starEach (PySem.Expr.Name _ _ :: _) _))) _ _ _); k_dflt (refine' args_nm (by exact rfl) (by k_asm) (by exact @rfl _ (some _)) (by kernel_rfl) (by exact rfl) (by kernel_rfl) ?_; k_whole)) | fail)
  (k_with "isTrue Compare" => first | (k_here; (with_reducible show wpAny _ _ (isTrue (PySem.Expr.Compare (PySem.Expr.Name _ _) [_] [_] _) _ _) _ _ _); k_dflt (refine' cmp_nm (by exact rfl) (by k_asm) (by exact @rfl _ (some _)) (by kernel_rfl) (by exact rfl) (by kernel_rfl) (by with_unfolding_all rfl) ?_; k_whole)) | fail)
  (k_with "m k_upd" => first | (first | ((with_reducible apply PySem.W.Upd.head); k_all) | ((with_reducible apply PySem.W.Upd.tail); k_ne; k_upd)) | fail)
  (k_with "m k_updF" => first | (first | ((with_reducible apply PySem.W.UpdF.head); k_all) | ((with_reducible apply PySem.W.UpdF.tail); k_ne; k_updF)) | fail)
  (k_with "spliced" => first | (k_here; (with_reducible show wpAny _ _ (spliced (backTo _ (starEach (PySem.Expr.Constant (PySem.Const.str _) _ _ :: _) _))) _ _ _); k_dflt (refine' args_str ?_; k_whole)) | fail)
  (k_with "exec If" => first | (k_here; (with_reducible show wpAny _ _ (exec (PySem.Stmt.If (PySem.Expr.Compare (PySem.Expr.Name _ _) [_] [_] _) _ _ _) _) _ _ _); k_dflt (refine' if_nm (by exact rfl) (by k_asm) (by exact @rfl _ (some _)) (by kernel_rfl) (by exact rfl) (by kernel_rfl) (by with_unfolding_all rfl) ?_; k_whole)) | fail)
  (k_with "eval Constant str" => first | (k_here; (with_reducible show wpAny _ _ (eval (PySem.Expr.Constant (PySem.Const.str _) _ _) _) (fun b s₂ => wpAny _ _ (compareOp CmpOp.Eq (Value.str _ _) b) (fun c s₃ => wpAny _ _ (truthy c) _ _ s₃) _ s₂) _ _); (with_reducible refine' eq_cst ?_); k_whole) | fail)
  (k_with "exec Assign" => first | (k_here; (with_reducible show wpAny _ _ (exec (PySem.Stmt.Assign [PySem.Expr.Attribute (PySem.Expr.Name _ _) _ _] (PySem.Expr.Name _ _) _) _) _ _ _); k_dflt (refine' set_nm (by exact rfl) (by k_asm) (by exact @rfl _ (some _)) (by exact @rfl _ (some _)) (by kernel_rfl) (by exact rfl) (by exact rfl) (by kernel_rfl) (by kernel_rfl) (by k_asm) (by k_asm) (by k_inst) (by exact rfl) (by k_is) (by k_is) (by k_is) (by k_is) (by k_get) (by k_put) (by k_upd) (by exact Nat.le_of_ble_eq_true rfl) (by exact rfl) ?_; k_whole); intro zzh' zzF' zzN'; (try k_sweep)) | fail)
  (k_with "spliced" => first | (k_here; (with_reducible show wpAny _ _ (spliced (backTo _ (starEach [] _))) (fun vs s₂ => wpAny _ _ (newTuple _) _ _ s₂) _ _); with_reducible refine' nil_tup (by k_dflt k_asm) (by k_dflt k_asm) (by k_dflt (exact Nat.le_of_ble_eq_true rfl)) ?_; k_whole; intro zzD' zzh' zzF' zzN' zzl1; (try k_lt zzl1); (try k_sweep)) | fail)
  (k_with "spliced" => first | (k_here; (with_reducible show wpAny _ _ (spliced (backTo _ (starEach [] _))) (fun vs s₂ => wpAny _ _ (newList _) _ _ s₂) _ _); with_reducible refine' nil_lst (by k_dflt k_asm) (by k_dflt k_asm) (by k_dflt (exact Nat.le_of_ble_eq_true rfl)) ?_; k_whole; intro zzl' zzh' zzF' zzN' zzl1; (try k_lt zzl1); (try k_sweep)) | fail)
  exact trivial
section
variable {w : World} {loose : List Str} {mean : ExcName → Option Value} {mg mb : Str → Option Value} {fz news : Led}
theorem matchtype_or {v1 v2 nv fv : Value} {a b : Ty} (hs : ∀ p ∈ fz, p ∈ news) (h1 : TyIn fz v1 a) (h2 : TyIn fz v2 b) (ha : IsPat a) (hb : b.clear = true) (db : b.dep ≤ 40) :
    Calls w loose mean mg mb 2 87 [v1, v2, nv, fv] news (fun n' r => (a = b ∧ n' = news ∧ ∃ t, r = .str "yes" t) ∨ (a ≠ b ∧ n' = news ∧ ∃ t, r = .str "no" t)) := by
  have := matchtype_c (w := w) (loose := loose) (mean := mean) (mg := mg) (mb := mb) (nv := nv) (fv := fv) hs h1 h2 ha hb db
  by_cases h : a = b
  · rw [if_pos h] at this
    exact this.imp fun _ _ x => .inl ⟨h, x⟩
  · rw [if_neg h] at this
    exact this.imp fun _ _ x => .inr ⟨h, x⟩
theorem kw4_1 : True := by
  (k_with "m con" => first | (exact matchtype_or (by k_extra "m sub") (by assumption) (by assumption) (by assumption) (by assumption) (by assumption)) | fail)
  (k_with "UnrEndW" => first | (k_dflt (refine' unrEnd2 (by k_asm) (by k_asm) (by exact fun q hq => hq) (by assumption) (by exact zipLe) ⟨⟨(by assumption), (by assumption), trivial⟩, ?_⟩)) | fail)
  exact trivial
theorem matchall_c {p q : Addr} {np nq : Nat} {v1 v2 nv fv : Value} {a b : Ty} (hs : ∀ p ∈ fz, p ∈ news) (hp : (p, tupOf [v1] np) ∈ news) (hq : (q, tupOf [v2] nq) ∈ news) (h1 : TyIn fz v1 a) (h2 : TyIn fz v2 b) (ha : IsPat a) (hb : b.clear = true) (db : b.dep ≤ 40) :
    Calls w loose mean mg mb 3 94 [.ref p, .ref q, nv, fv] news (fun n' r => (a = b ∧ n' = news ∧ ∃ t, r = .str "yes" t) ∨ (a ≠ b ∧ n' = news ∧ ∃ t, r = .str "no" t)) := by
  refine Calls.of ?_
  k_fill
  intro dp un gd cn cs a' ccd cl outer A₀ base h₀ L m' shh sgg sdd skk soo Q E B F X N T hk hd hu hret
  refine wpAny_call ?_
  k_dflt ktr_enter
  refine let_ae ?_
  intro nk ak Q0 hQ0
  (rename Fr _ _ _ _ => F1)
  replace F1 : Fr _ _ _ (fun y => List.lookup y [(("found" : Str), _), (("names" : Str), _), (("subjects" : Str), _), (("patterns" : Str), _)]) := F1
  k_steps
  all_goals first
    | exact hret _ _ _ _ (by k_asm) (newsSub (by k_asm) (by ktd_sub)) (.inl ⟨by assumption, rfl, _, rfl⟩)
    | exact hret _ _ _ _ (by k_asm) (newsSub (by k_asm) (by ktd_sub)) (.inr ⟨by assumption, rfl, _, rfl⟩)
end
theorem kw5_0 : True := by
  k_with_none
  (k_with "m k_mem" => first | (first | ktr_member | (with_reducible apply mem_hd) | ((with_reducible apply mem_tl); k_mem) | exact mem_via (by assumption) (by assumption)) | fail)
  (k_with "ite" => first | (first | refine ite_t (by with_reducible assumption) ?_ | refine ite_f (by with_reducible assumption) ?_) | fail)
  (k_with "m lt" => first | (first | assumption | (apply PySem.W.allLt_of; assumption) | (apply allLt_tl; assumption) | (apply allLt_tl2; assumption) | with_reducible (k_extra "m pk") | (simp only [AllLt, and_true] at *; first | assumption | omega)) | fail)
  (k_with "m k_all" => first | (first | assumption | (apply ne_of_allNe; k_extra "m ne") | (apply ne_of_allLt; k_extra "m lt")) | fail)
  (k_with "m call" => first | (k_here; k_dflt (refine' Calls.use' (by k_asm) (by k_asm) (by k_asm) (by k_asm) (by k_asm) (by first | exact rfl | assumption) (by k_extra "m con") (by first | omega | (dsimp only [ktrTop]; omega)) (by k_extra "m un") ?_; k_whole); ((intro zzG9 zzhG9; k_dflt (k_extra "m out")) <;> (refine zzhG9 _ _ ?_; intro zzh9 zztk9 zzF9 zzN9; (try k_sweep)))) | fail)
  (k_with "m out" => first | (intro zzn9 zzr9 zzo9; (first | (obtain ⟨zze1, zze2⟩ := zzo9; subst zze1; subst zze2) | (obtain ⟨zze1, zzt9, zze2⟩ := zzo9; subst zze1; subst zze2) | (obtain ⟨zzl9, zze9, zze2, zze1, zzq9⟩ := zzo9; subst zze1; subst zze2; (simp only [AllLt, and_true] at zzq9)) | (obtain ⟨zzl9, zze9, zzp9, zzm9, zzx9, zzy9, zze2, zze1, zzq1, zzq2, zzq3, zzq4⟩ := zzo9; subst zze1; subst zze2; (simp only [AllLt, and_true] at zzq3); obtain ⟨zza8, zzn8, zzt8, zzr8, zze8, zzm8⟩ := Mine.TyIn.head zzq1; subst zze8; obtain ⟨zza7, zzn7, zzt7, zzr7, zze7, zzm7⟩ := Mine.TyIn.head zzq2; subst zze7) | (rcases zzo9 with ⟨zze3, zze1, zzt9, zze2⟩ | ⟨zze3, zze1, zzt9, zze2⟩ <;> (subst zze1; subst zze2)))) | fail)
  (k_with "call ref" => first | (k_extra "m call") | fail)
  (k_with "m un" => first | ((try dsimp +zetaDelta only); (have zzhcl9 := cLine_is); (try simp only [units_in1, units_deeper, Around.mark_units, units_caller]); (try dsimp only [ktrTop]); omega) | fail)
  (k_with "m dp" => first | (first | assumption | (simp only [Ty.dep]; omega) | decide) | fail)
  (k_with "m k_room" => first | ((try dsimp +zetaDelta only); (try simp only [depth_under_make, depth_under_kw, depth_in1, depth_deeper, depth_caller]); (try dsimp only [ktrTop]); have zzhrl9 : recursionLimit = 1000 := rfl; omega) | fail)
  (k_with "eval Name" => first | (k_here; (fail_if_success with_reducible show wpAny _ _ (eval _ (compEnvC _ _ _ _)) _ _ _); k_dflt (refine' nameX_L (by k_asm) (by exact @rfl _ (some _)) ?_ (by kernel_rfl) (rfl) (by kernel_rfl); k_whole)) | fail)
  (k_with "ite" => first | (k_closed; first | refine ite_t (by decide +kernel) ?_ | refine ite_f (by decide +kernel) ?_) | fail)
  (k_with "m for" => first | (k_here; (rename Fr _ _ _ _ => zzlF'); (with_unfolding_all refine' For_turns zzlF' ?_; k_whole)) | fail)
  (k_with "eval ListComp" => first | (k_here; (with_reducible show wpAny _ _ (eval (PySem.Expr.ListComp _ [⟨PySem.Expr.Tuple [_, _] _ _, _, _, _⟩] _ _) _) _ _ _); k_dflt (refine' listcomp (xs := [(_, _), (_, _)]) (by k_asm) (by with_unfolding_all rfl) (by decide) (by exact rfl) (by decide) (by decide) (by decide) ?_ (by exact fun _ => rfl); k_whole)) | fail)
  (k_with "eval ListComp" => first | (k_here; (with_reducible show wpAny _ _ (eval (PySem.Expr.ListComp _ [⟨PySem.Expr.Tuple [_, _, _] _ _, _, _, _⟩] _ _) _) _ _ _); k_dflt (refine' listcomp (xs := [(_, _), (_, _), (_, _)]) (by k_asm) (by with_unfolding_all rfl) (by decide) (by exact rfl) (by decide) (by decide) (by decide) ?_ (by exact fun _ => rfl); k_whole)) | fail)
  (k_with "eval ListComp" => first | (k_here; (with_reducible show wpAny _ _ (eval (PySem.Expr.ListComp _ [⟨PySem.Expr.Tuple [_, _, _, _] _ _, _, _, _⟩] _ _) _) _ _ _); k_dflt (refine' listcomp (xs := [(_, _), (_, _), (_, _), (_, _)]) (by k_asm) (by with_unfolding_all rfl) (by decide) (by exact rfl) (by decide) (by decide) (by decide) ?_ (by exact fun _ => rfl); k_whole)) | fail)
  (k_with "call type:tuple" => first | (k_here; (with_reducible show wpAny _ _ (call (Value.type "tuple") [Value.ref _]) _ _ _); k_dflt (refine' call_tuple_tup (Mine.tup_of (by k_asm) (by k_mem)) ?_; k_whole)) | fail)
  (k_with "binaryOp Add ref ref" => first | (k_here; (with_reducible show wpAny _ _ (binaryOp _ (Value.ref _) (Value.ref _)) _ _ _); k_dflt (refine' kde_addT0 (by k_asm) (by k_asm) (Mine.tup_of (by k_asm) (by k_mem)) (Mine.tup_of (by k_asm) (by k_mem)) (by exact rfl) (by exact Nat.le_of_ble_eq_true rfl) ?_; k_whole)) | fail)
  (k_with "m pick" => first | (with_reducible (k_extra "m pk")) | fail)
  (k_with "m ne" => first | (first | with_reducible (first | assumption | (apply allNe_of; assumption) | (apply allNe_off; assumption) | (apply allNe_lt; apply PySem.W.allLt_of; assumption)) | ((with_reducible apply allNe_cons); k_ne; k_extra "m ne") | with_reducible (k_extra "m pkq") | (apply allNe_lt; with_reducible (k_extra "m pkq")) | with_reducible (k_extra "m pk") | (apply allNe_lt; with_reducible (k_extra "m pk")) | (apply allNe_off; with_reducible (k_extra "m pk")) | (apply allNe_lt; apply allLt_tl; assumption) | (with_reducible apply allNe_nil)) | fail)
  (k_with "m subh" => first | (with_reducible (apply sub_hd; first | assumption | (apply sub_hd; first | assumption | (apply sub_hd; first | assumption | (apply sub_hd; first | assumption | (apply sub_hd; first | assumption | (apply sub_hd; first | assumption | (apply sub_hd; first | assumption | (apply sub_hd; first | assumption | (apply sub_hd; assumption)))))))))) | fail)
  (k_with "m subs" => first | (first | (with_reducible apply sub_refl) | assumption | ((with_reducible apply subs_cons); k_mem; k_extra "m subs") | ((with_reducible apply sub_tl); k_extra "m subs") | (with_reducible apply List.forall_mem_nil) | k_extra "m subh") | fail)
  (k_with "m agr" => first | (first | assumption | exact agree_over | exact agree_refl | (refine agree_store ?_ (by decide); k_extra "m agr")) | fail)
  (k_with "CSrc" => first | (k_dflt (refine' CSrc.intro (by exact rfl) (by k_asm) (by k_asm) (by k_mem) (fun _ h => h) (by first | exact Nat.le_of_ble_eq_true rfl | (rw [sizeLine_eq]; omega)) ?_; k_whole); intro zzg') | fail)
  (k_with "m sub" => first | (first | assumption | ((with_reducible apply sub_tl); k_extra "m sub") | k_extra "m subh") | fail)
  (k_with "execs cons" => first | (k_here; (try dsimp only); (refine' exec_cons_h ?_); intro zztk' zzG' zzhG'; (try (rename PyProof.Rows.News _ _ _ _ => zznN'; dsimp only at zznN'))) | fail)
  (k_with "execs nil" => first | (k_here; (refine' exec_nil_g ?_); intro zztk'; (try (refine qout (by with_reducible assumption) ?_))) | fail)
  (k_with "m leave" => first | (k_end; first | ((try dsimp only); (refine' gnext_cons (by with_reducible assumption) ?_); intro zztk' zzG' zzhG'; (try (rename PyProof.Rows.News _ _ _ _ => zznN'; dsimp only at zznN'))) | (refine gnext (by with_reducible assumption) ?_) | (refine gout (by with_reducible assumption) ?_ ?_; (exact True.intro); (try (refine qout (by with_reducible assumption) ?_)))) | fail)
  (k_with "m k_steps" => first | (repeat' (first | k_extra "m leave" | (k_unfold; (try dsimp only)) | (k_end; wrow_close) | walk1 | (dsimp only; walk1) | (leave1; walk_say "STEP leave1"; try dsimp only) | fail "no step")) | fail)
  (k_with "m pkq" => first | (first | assumption | (apply And.left; first | assumption | (apply And.right; first | assumption | (apply And.right; first | assumption | (apply And.right; first | assumption | (apply And.right; first | assumption | (apply And.right; assumption))))))) | fail)
  (k_with "m pkr" => first | (first | assumption | (apply And.right; first | assumption | (apply And.right; first | assumption | (apply And.right; first | assumption | (apply And.right; first | assumption | (apply And.right; first | assumption | (apply And.right; first | assumption | (apply And.right; first | assumption | (apply And.right; first | assumption | (apply And.right; first | assumption | (apply And.right; first | assumption | (apply And.right; first | assumption | (apply And.right; first | assumption | (apply And.right; first | assumption | (apply And.right; first | assumption | (apply And.right; assumption)))))))))))))))) | fail)
  (k_with "m pk" => first | (first | assumption | (apply And.left; k_extra "m pkr") | (apply And.right; k_extra "m pkr")) | fail)
  (k_with "m omega" => first | (first | ((with_reducible apply neL); with_reducible (k_extra "m pkq")) | ((with_reducible apply neG); with_reducible (k_extra "m pkq")) | ((with_reducible apply neL); with_reducible (k_extra "m pk")) | ((with_reducible apply neG); with_reducible (k_extra "m pk")) | ((with_reducible apply neS); with_reducible (k_extra "m pk")) | ((with_reducible apply lin2); assumption; exact @rfl Bool true) | ((with_reducible apply lin1); assumption; exact @rfl Bool true) | ((with_reducible apply lin0); assumption; exact @rfl Bool true) | ((with_reducible apply lin3); assumption; exact @rfl Bool true) | ((with_reducible apply lin1e); assumption; exact @rfl Bool true) | ((with_reducible apply lin2e); assumption; exact @rfl Bool true) | ((with_reducible apply Nat.le_of_ble_eq_true); exact @rfl Bool true) | ((with_reducible apply om_w); assumption; exact @rfl Bool true) | ((with_reducible apply om_p3); assumption) | ((with_reducible apply om_p2); assumption) | ((with_reducible apply om_p3e); assumption) | (with_reducible apply om_p3r) | ((with_reducible apply om_p4); assumption; exact @rfl Bool true) | ((with_reducible apply om_s); assumption; exact @rfl Bool true) | ((with_reducible apply om_s1); assumption; exact @rfl Bool true) | ((with_reducible apply om_s2); assumption; exact @rfl Bool true) | ((with_reducible apply om_i); assumption; decide +kernel) | ((with_reducible apply om_i2); assumption; assumption; decide +kernel) | ((with_reducible apply om_n); decide +kernel) | (with_reducible apply Int.natCast_nonneg) | ((with_reducible apply om_k); assumption; decide +kernel) | with_reducible (k_extra "m pk")) | fail)
  (k_with "m k_ne" => first | ((with_reducible apply PySem.W.neN); (try dsimp only); omega) | fail)
  (k_with "spliced" => first | (k_here; (with_reducible show wpAny _ _ (spliced (backTo _ (starEach (PySem.Expr.Name _ _ :: _) _))) _ _ _); k_dflt (refine' args_nm (by exact rfl) (by k_asm) (by exact @rfl _ (some _)) (by kernel_rfl) (by exact rfl) (by kernel_rfl) ?_; k_whole)) | fail)
  (k_with "isTrue Compare" => first | (k_here; (with_reducible show wpAny _ _ (isTrue (PySem.Expr.Compare (PySem.Expr.Name _ _) [_] [_] _) _ _) _ _ _); k_dflt (refine' cmp_nm (by exact rfl) (by k_asm) (by exact @rfl _ (some _)) (by kernel_rfl) (by exact rfl) (by kernel_rfl) (by with_unfolding_all rfl) ?_; k_whole)) | fail)
  (k_with "eval Attribute Name" => first | (k_here; (with_reducible show wpAny _ _ (eval (PySem.Expr.Attribute (PySem.Expr.Name _ _) _ _) _) _ _ _); k_dflt (refine' att_nm (by exact rfl) (by k_asm) (by exact @rfl _ (some _)) (by kernel_rfl) (by exact rfl) (by kernel_rfl) ?_; k_whole)) | fail)
  (k_with "m k_upd" => first | (first | ((with_reducible apply PySem.W.Upd.head); k_all) | ((with_reducible apply PySem.W.Upd.tail); k_ne; k_upd)) | fail)
  (k_with "m k_updF" => first | (first | ((with_reducible apply PySem.W.UpdF.head); k_all) | ((with_reducible apply PySem.W.UpdF.tail); k_ne; k_updF)) | fail)
  (k_with "spliced" => first | (k_here; (with_reducible show wpAny _ _ (spliced (backTo _ (starEach (PySem.Expr.Constant (PySem.Const.str _) _ _ :: _) _))) _ _ _); k_dflt (refine' args_str ?_; k_whole)) | fail)
  (k_with "exec If" => first | (k_here; (with_reducible show wpAny _ _ (exec (PySem.Stmt.If (PySem.Expr.Compare (PySem.Expr.Name _ _) [_] [_] _) _ _ _) _) _ _ _); k_dflt (refine' if_nm (by exact rfl) (by k_asm) (by exact @rfl _ (some _)) (by kernel_rfl) (by exact rfl) (by kernel_rfl) (by with_unfolding_all rfl) ?_; k_whole)) | fail)
  (k_with "exec Assign" => first | (k_here; (with_reducible show wpAny _ _ (exec (PySem.Stmt.Assign [PySem.Expr.Attribute (PySem.Expr.Name _ _) _ _] (PySem.Expr.Name _ _) _) _) _ _ _); k_dflt (refine' set_nm (by exact rfl) (by k_asm) (by exact @rfl _ (some _)) (by exact @rfl _ (some _)) (by kernel_rfl) (by exact rfl) (by exact rfl) (by kernel_rfl) (by kernel_rfl) (by k_asm) (by k_asm) (by k_inst) (by exact rfl) (by k_is) (by k_is) (by k_is) (by k_is) (by k_get) (by k_put) (by k_upd) (by exact Nat.le_of_ble_eq_true rfl) (by exact rfl) ?_; k_whole); intro zzh' zzF' zzN'; (try k_sweep)) | fail)
  (k_with "spliced" => first | (k_here; (with_reducible show wpAny _ _ (spliced (backTo _ (starEach [] _))) (fun vs s₂ => wpAny _ _ (newTuple _) _ _ s₂) _ _); with_reducible refine' nil_tup (by k_dflt k_asm) (by k_dflt k_asm) (by k_dflt (exact Nat.le_of_ble_eq_true rfl)) ?_; k_whole; intro zzD' zzh' zzF' zzN' zzl1; (try k_lt zzl1); (try k_sweep)) | fail)
  (k_with "spliced" => first | (k_here; (with_reducible show wpAny _ _ (spliced (backTo _ (starEach [] _))) (fun vs s₂ => wpAny _ _ (newList _) _ _ s₂) _ _); with_reducible refine' nil_lst (by k_dflt k_asm) (by k_dflt k_asm) (by k_dflt (exact Nat.le_of_ble_eq_true rfl)) ?_; k_whole; intro zzl' zzh' zzF' zzN' zzl1; (try k_lt zzl1); (try k_sweep)) | fail)
  exact trivial
section
variable {w : World} {loose : List Str} {mean : ExcName → Option Value} {mg mb : Str → Option Value} {fz news : Led}
theorem namesof_c {es : List (Str × Value)} {v : Value} {i : Imp} (hs : ∀ p ∈ fz, p ∈ news) (hv : ImpIn w fz es v i) :
    Calls w loose mean mg mb 1 106 [v] news (fun n' r => ∃ l ep, r = .ref l ∧ n' = (l, listOf #[] ep) :: news ∧ AllNe l news) := by
  refine hide fun hG9 => ?_
  cases hv with
  | mk h1 h2 h3 h4 h5 h6 h7 h8 =>
  clear h8
  refine hG9 ?_
  clear hG9
  refine Calls.of ?_
  k_fill
  intro dp un gd cn cs a' ccd cl outer A₀ base h₀ L m' shh sgg sdd skk soo Q E B F X N T hk hd hu hret
  refine wpAny_call ?_
  k_dflt ktr_enter
  refine let_ae ?_
  intro nk ak Q0 hQ0
  (rename Fr _ _ _ _ => F1)
  replace F1 : Fr _ _ _ (fun y => List.lookup y [(("impl" : Str), _)]) := F1
  k_steps
  intro D h tk F9 N9 off
  (try refine hideB fun G8 hG8 => ?_)
  k_steps
  exact hret _ _ _ _ (by k_asm) (by k_asm) ⟨_, _, rfl, rfl, by k_extra "m ne"⟩
end
section
variable {w : World} {loose : List Str} {mean : ExcName → Option Value} {mg mb : Str → Option Value} {fz news : Led}
theorem kw5_1 : True := by
  (k_with "m con" => first | (first | exact namesof_c (w := w) (by k_extra "m sub") (by assumption) | exact matchall_c (by k_extra "m sub") (by k_mem) (by k_mem) (by assumption) (by assumption) (by assumption) (by assumption) (by assumption)) | fail)
  (k_with "m out" => first | (intro zzn9 zzr9 zzo9; (first | (obtain ⟨zzl9, zze9, zze2, zze1, zzq9⟩ := zzo9; subst zze1; subst zze2; (simp only [AllNe, and_true] at zzq9)) | (rcases zzo9 with ⟨zze3, zze1, zzt9, zze2⟩ | ⟨zze3, zze1, zzt9, zze2⟩ <;> (subst zze1; subst zze2)))) | fail)
  exact trivial
theorem matchesimpl_c {es : List (Str × Value)} {v tv : Value} {i : Imp} {a : Addr} {n : Nat} {b : Ty} (hs : ∀ p ∈ fz, p ∈ news) (hv : ImpIn w fz es v i) (ha : (a, tupOf [] n) ∈ news) (h2 : TyIn fz tv b) (hb : b.clear = true) (db : b.dep ≤ 40) :
    Calls w loose mean mg mb 4 113 [v, .ref a, tv] news (fun n' r => (i.told = b ∧ Matched w news n' r "yes") ∨ (i.told ≠ b ∧ Matched w news n' r "no")) := by
  refine hide fun hG9 => ?_
  have hv' := hv
  cases hv with
  | mk h1 h2 h3 h4 h5 h6 h7 h8 =>
  clear h8
  obtain @⟨a8, n8, t8, r8, m8⟩ := h6.head
  refine hG9 ?_
  clear hG9
  refine Calls.of ?_
  k_fill
  intro dp un gd cn cs a' ccd cl outer A₀ base h₀ L m' shh sgg sdd skk soo Q E B F X N T hk hd hu hret
  refine wpAny_call ?_
  k_dflt ktr_enter
  refine let_ae ?_
  intro nk ak Q0 hQ0
  (rename Fr _ _ _ _ => F1)
  replace F1 : Fr _ _ _ (fun y => List.lookup y [(("T" : Str), _), (("trait_args" : Str), _), (("impl" : Str), _)]) := F1
  k_steps
  all_goals first
    | exact hret _ _ _ _ (by k_asm) (newsSub (by k_asm) (by k_extra "m subs")) (.inl ⟨by assumption, _, _, _, _, _, rfl, rfl, by assumption, by assumption, by k_extra "m ne", by k_extra "m ne", by k_ne⟩)
    | exact hret _ _ _ _ (by k_asm) (newsSub (by k_asm) (by k_extra "m subs")) (.inr ⟨by assumption, _, _, _, _, _, rfl, rfl, by assumption, by assumption, by k_extra "m ne", by k_extra "m ne", by k_ne⟩)
end
theorem kw6_0 : True := by
  k_with_none
  (k_with "m k_mem" => first | (first | ktr_member | (with_reducible apply mem_hd) | ((with_reducible apply mem_tl); k_mem) | exact mem_via (by assumption) (by assumption)) | fail)
  (k_with "ite" => first | (first | refine ite_t (by with_reducible assumption) ?_ | refine ite_f (by with_reducible assumption) ?_) | fail)
  (k_with "m lt" => first | (first | assumption | (apply PySem.W.allLt_of; assumption) | (apply allLt_tl; assumption) | (apply allLt_tl2; assumption) | with_reducible (k_extra "m pk") | (simp only [AllLt, and_true] at *; first | assumption | omega)) | fail)
  (k_with "m k_all" => first | (first | assumption | (apply ne_of_allNe; k_extra "m ne") | (apply ne_of_allLt; k_extra "m lt")) | fail)
  (k_with "m call" => first | (k_here; k_dflt (refine' Calls.use' (by k_asm) (by k_asm) (by k_asm) (by k_asm) (by k_asm) (by first | exact rfl | assumption) (by k_extra "m con") (by first | omega | (dsimp only [ktrTop]; omega)) (by k_extra "m un") ?_; k_whole); ((intro zzG9 zzhG9; k_dflt (k_extra "m out")) <;> (refine zzhG9 _ _ ?_; intro zzh9 zztk9 zzF9 zzN9; (try k_sweep)))) | fail)
  (k_with "m out" => first | (intro zzn9 zzr9 zzo9; (first | (obtain ⟨zze1, zze2⟩ := zzo9; subst zze1; subst zze2) | (obtain ⟨zze1, zzt9, zze2⟩ := zzo9; subst zze1; subst zze2) | (obtain ⟨zzl9, zze9, zze2, zze1, zzq9⟩ := zzo9; subst zze1; subst zze2; (simp only [AllLt, and_true] at zzq9)) | (obtain ⟨zzl9, zze9, zzp9, zzm9, zzx9, zzy9, zze2, zze1, zzq1, zzq2, zzq3, zzq4⟩ := zzo9; subst zze1; subst zze2; (simp only [AllLt, and_true] at zzq3); obtain ⟨zza8, zzn8, zzt8, zzr8, zze8, zzm8⟩ := Mine.TyIn.head zzq1; subst zze8; obtain ⟨zza7, zzn7, zzt7, zzr7, zze7, zzm7⟩ := Mine.TyIn.head zzq2; subst zze7) | (rcases zzo9 with ⟨zze3, zze1, zzt9, zze2⟩ | ⟨zze3, zze1, zzt9, zze2⟩ <;> (subst zze1; subst zze2)))) | fail)
  (k_with "m un" => first | ((try dsimp +zetaDelta only); (have zzhcl9 := cLine_is); (try simp only [units_in1, units_deeper, Around.mark_units, units_caller]); (try dsimp only [ktrTop]); omega) | fail)
  (k_with "m dp" => first | (first | assumption | (simp only [Ty.dep]; omega) | decide) | fail)
  (k_with "m k_room" => first | ((try dsimp +zetaDelta only); (try simp only [depth_under_make, depth_under_kw, depth_in1, depth_deeper, depth_caller]); (try dsimp only [ktrTop]); have zzhrl9 : recursionLimit = 1000 := rfl; omega) | fail)
  (k_with "ite" => first | (k_closed; first | refine ite_t (by decide +kernel) ?_ | refine ite_f (by decide +kernel) ?_) | fail)
  (k_with "m for" => first | (k_here; (rename Fr _ _ _ _ => zzlF'); (with_unfolding_all refine' For_turns zzlF' ?_; k_whole)) | fail)
  (k_with "m pick" => first | (with_reducible (k_extra "m pk")) | fail)
  (k_with "m ne" => first | (first | with_reducible (first | assumption | (apply allNe_of; assumption) | (apply allNe_off; assumption) | (apply allNe_lt; apply PySem.W.allLt_of; assumption)) | ((with_reducible apply allNe_cons); k_ne; k_extra "m ne") | with_reducible (k_extra "m pkq") | (apply allNe_lt; with_reducible (k_extra "m pkq")) | with_reducible (k_extra "m pk") | (apply allNe_lt; with_reducible (k_extra "m pk")) | (apply allNe_off; with_reducible (k_extra "m pk")) | (apply allNe_lt; apply allLt_tl; assumption) | (with_reducible apply allNe_nil)) | fail)
  (k_with "m subh" => first | (with_reducible (apply sub_hd; first | assumption | (apply sub_hd; first | assumption | (apply sub_hd; first | assumption | (apply sub_hd; first | assumption | (apply sub_hd; first | assumption | (apply sub_hd; first | assumption | (apply sub_hd; first | assumption | (apply sub_hd; first | assumption | (apply sub_hd; assumption)))))))))) | fail)
  (k_with "m subs" => first | (first | (with_reducible apply sub_refl) | assumption | ((with_reducible apply subs_cons); k_mem; k_extra "m subs") | ((with_reducible apply sub_tl); k_extra "m subs") | (with_reducible apply List.forall_mem_nil) | k_extra "m subh") | fail)
  (k_with "getMethod ref" => first | (k_here; (with_reducible show wpAny _ _ (getMethod (Value.ref _) (Str.ofString "get") _) _ _ _); k_dflt (refine' kdg_method (knd := PySem.strKind _ _) (by k_asm) (by k_mem) (by k_asm) ?_; k_whole)) | fail)
  (k_with "call builtin:dict.get" => first | (k_here; (with_reducible show wpAny _ _ (call (Value.builtin _) [Value.ref _, Value.str _ _, _]) _ _ _); k_dflt (first | (refine' kdg_get2 (knd := PySem.strKind _ _) (by k_asm) (by k_mem) (by k_asm) (by k_asm) (strKind_is _ _ _ _) none (by first | assumption | exact rfl) ?_; k_whole) | (refine' kdg_get2 (knd := PySem.strKind _ _) (by k_asm) (by k_mem) (by k_asm) (by k_asm) (strKind_is _ _ _ _) (some _) (by first | assumption | exact rfl) ?_; k_whole)); (try dsimp only [Option.getD])) | fail)
  (k_with "compareOp In str ref" => first | (k_here; (with_reducible show wpAny _ _ (compareOp CmpOp.In (Value.str _ _) (Value.ref _)) _ _ _); k_dflt (first | (refine' kda_in (knd := PySem.strKind _ _) (by k_asm) (by k_mem) (by k_asm) (by k_asm) (strKind_is _ _ _ _) true (by first | assumption | exact rfl) ?_; k_whole) | (refine' kda_in (knd := PySem.strKind _ _) (by k_asm) (by k_mem) (by k_asm) (by k_asm) (strKind_is _ _ _ _) false (by first | assumption | exact rfl) ?_; k_whole))) | fail)
  (k_with "compareOp In str ref" => first | (k_here; (with_reducible show wpAny _ _ (compareOp CmpOp.In (Value.str _ _) (Value.ref _)) _ _ _); (with_unfolding_all refine' in_tuple_strs (by exact tup_of (by k_asm) (by k_mem)) (by kde_strs) ?_; k_whole)) | fail)
  (k_with "m agr" => first | (first | assumption | exact agree_over | exact agree_refl | (refine agree_store ?_ (by decide); k_extra "m agr")) | fail)
  (k_with "m sub" => first | (first | assumption | ((with_reducible apply sub_tl); k_extra "m sub") | k_extra "m subh") | fail)
  (k_with "execs cons" => first | (k_here; (try dsimp only); (refine' exec_cons_h ?_); intro zztk' zzG' zzhG'; (try (rename PyProof.Rows.News _ _ _ _ => zznN'; dsimp only at zznN'))) | fail)
  (k_with "execs nil" => first | (k_here; (refine' exec_nil_g ?_); intro zztk'; (try (refine qout (by with_reducible assumption) ?_))) | fail)
  (k_with "m leave" => first | (k_end; first | ((try dsimp only); (refine' gnext_cons (by with_reducible assumption) ?_); intro zztk' zzG' zzhG'; (try (rename PyProof.Rows.News _ _ _ _ => zznN'; dsimp only at zznN'))) | (refine gnext (by with_reducible assumption) ?_) | (refine gout (by with_reducible assumption) ?_ ?_; (exact True.intro); (try (refine qout (by with_reducible assumption) ?_)))) | fail)
  (k_with "m k_steps" => first | (repeat' (first | k_extra "m leave" | (k_unfold; (try dsimp only)) | (k_end; wrow_close) | walk1 | (dsimp only; walk1) | (leave1; walk_say "STEP leave1"; try dsimp only) | fail "no step")) | fail)
  (k_with "m pkq" => first | (first | assumption | (apply And.left; first | assumption | (apply And.right; first | assumption | (apply And.right; first | assumption | (apply And.right; first | assumption | (apply And.right; first | assumption | (apply And.right; assumption))))))) | fail)
  (k_with "m pkr" => first | (first | assumption | (apply And.right; first | assumption | (apply And.right; first | assumption | (apply And.right; first | assumption | (apply And.right; first | assumption | (apply And.right; first | assumption | (apply And.right; first | assumption | (apply And.right; first | assumption | (apply And.right; first | assumption | (apply And.right; first | assumption | (apply And.right; first | assumption | (apply And.right; first | assumption | (apply And.right; first | assumption | (apply And.right; first | assumption | (apply And.right; first | assumption | (apply And.right; assumption)))))))))))))))) | fail)
  (k_with "m pk" => first | (first | assumption | (apply And.left; k_extra "m pkr") | (apply And.right; k_extra "m pkr")) | fail)
  (k_with "m omega" => first | (first | ((with_reducible apply neL); with_reducible (k_extra "m pkq")) | ((with_reducible apply neG); with_reducible (k_extra "m pkq")) | ((with_reducible apply neL); with_reducible (k_extra "m pk")) | ((with_reducible apply neG); with_reducible (k_extra "m pk")) | ((with_reducible apply neS); with_reducible (k_extra "m pk")) | ((with_reducible apply lin2); assumption; exact @rfl Bool true) | ((with_reducible apply lin1); assumption; exact @rfl Bool true) | ((with_reducible apply lin0); assumption; exact @rfl Bool true) | ((with_reducible apply lin3); assumption; exact @rfl Bool true) | ((with_reducible apply lin1e); assumption; exact @rfl Bool true) | ((with_reducible apply lin2e); assumption; exact @rfl Bool true) | ((with_reducible apply Nat.le_of_ble_eq_true); exact @rfl Bool true) | ((with_reducible apply om_w); assumption; exact @rfl Bool true) | ((with_reducible apply om_p3); assumption) | ((with_reducible apply om_p2); assumption) | ((with_reducible apply om_p3e); assumption) | (with_reducible apply om_p3r) | ((with_reducible apply om_p4); assumption; exact @rfl Bool true) | ((with_reducible apply om_s); assumption; exact @rfl Bool true) | ((with_reducible apply om_s1); assumption; exact @rfl Bool true) | ((with_reducible apply om_s2); assumption; exact @rfl Bool true) | ((with_reducible apply om_i); assumption; decide +kernel) | ((with_reducible apply om_i2); assumption; assumption; decide +kernel) | ((with_reducible apply om_n); decide +kernel) | (with_reducible apply Int.natCast_nonneg) | ((with_reducible apply om_k); assumption; decide +kernel) | with_reducible (k_extra "m pk")) | fail)
  (k_with "m k_ne" => first | ((with_reducible apply PySem.W.neN); (try dsimp only); omega) | fail)
  (k_with "spliced" => first | (k_here; (with_reducible show wpAny _ _ (spliced (backTo _ (starEach (PySem.Expr.Name _ _ :: _) _))) _ _ _); k_dflt (refine' args_nm (by exact rfl) (by k_asm) (by exact @rfl _ (some _)) (by kernel_rfl) (by exact rfl) (by kernel_rfl) ?_; k_whole)) | fail)
  (k_with "eval Subscript" => first | (k_here; (with_reducible show wpAny _ _ (eval (PySem.Expr.Subscript (PySem.Expr.Name _ _) _ _) _) _ _ _); k_dflt (refine' sub_nm (by exact rfl) (by k_asm) (by exact @rfl _ (some _)) (by kernel_rfl) (by exact rfl) (by kernel_rfl) ?_; k_whole)) | fail)
  (k_with "isTrue Compare" => first | (k_here; (with_reducible show wpAny _ _ (isTrue (PySem.Expr.Compare (PySem.Expr.Name _ _) [_] [_] _) _ _) _ _ _); k_dflt (refine' cmp_nm (by exact rfl) (by k_asm) (by exact @rfl _ (some _)) (by kernel_rfl) (by exact rfl) (by kernel_rfl) (by with_unfolding_all rfl) ?_; k_whole)) | fail)
  (k_with "eval Attribute Name" => first | (k_here; (with_reducible show wpAny _ _ (eval (PySem.Expr.Attribute (PySem.Expr.Name _ _) _ _) _) _ _ _); k_dflt (refine' att_nm (by exact rfl) (by k_asm) (by exact @rfl _ (some _)) (by kernel_rfl) (by exact rfl) (by kernel_rfl) ?_; k_whole)) | fail)
  (k_with "m k_upd" => first | (first | ((with_reducible apply PySem.W.Upd.head); k_all) | ((with_reducible apply PySem.W.Upd.tail); k_ne; k_upd)) | fail)
  (k_with "m k_updF" => first | (first | ((with_reducible apply PySem.W.UpdF.head); k_all) | ((with_reducible apply PySem.W.UpdF.tail); k_ne; k_updF)) | fail)
  (k_with "spliced" => first | (k_here; (with_reducible show wpAny _ _ (spliced (backTo _ (starEach (PySem.Expr.Constant (PySem.Const.str _) _ _ :: _) _))) _ _ _); k_dflt (refine' args_str ?_; k_whole)) | fail)
  (k_with "eval Subscript" => first | (k_here; (with_reducible show wpAny _ _ (eval (PySem.Expr.Subscript (PySem.Expr.Name _ _) (PySem.Expr.Constant (PySem.Const.int _) _ _) _) _) _ _ _); k_dflt (refine' sub_it (by exact rfl) (by k_asm) (by exact @rfl _ (some _)) (by kernel_rfl) (by exact rfl) (by kernel_rfl) (by k_asm) (by k_mem) (by exact @rfl _ (some _)) ?_; k_whole)) | fail)
  (k_with "exec If" => first | (k_here; (with_reducible show wpAny _ _ (exec (PySem.Stmt.If (PySem.Expr.Compare (PySem.Expr.Name _ _) [_] [_] _) _ _ _) _) _ _ _); k_dflt (refine' if_nm (by exact rfl) (by k_asm) (by exact @rfl _ (some _)) (by kernel_rfl) (by exact rfl) (by kernel_rfl) (by with_unfolding_all rfl) ?_; k_whole)) | fail)
  (k_with "eval Constant str" => first | (k_here; (with_reducible show wpAny _ _ (eval (PySem.Expr.Constant (PySem.Const.str _) _ _) _) (fun b s₂ => wpAny _ _ (compareOp CmpOp.Eq (Value.str _ _) b) (fun c s₃ => wpAny _ _ (truthy c) _ _ s₃) _ s₂) _ _); (with_reducible refine' eq_cst ?_); k_whole) | fail)
  (k_with "spliced" => first | (k_here; (with_reducible show wpAny _ _ (spliced (backTo _ (starEach [] _))) (fun vs s₂ => wpAny _ _ (newTuple _) _ _ s₂) _ _); with_reducible refine' nil_tup (by k_dflt k_asm) (by k_dflt k_asm) (by k_dflt (exact Nat.le_of_ble_eq_true rfl)) ?_; k_whole; intro zzD' zzh' zzF' zzN' zzl1; (try k_lt zzl1); (try k_sweep)) | fail)
  (k_with "spliced" => first | (k_here; (with_reducible show wpAny _ _ (spliced (backTo _ (starEach [] _))) (fun vs s₂ => wpAny _ _ (newList _) _ _ s₂) _ _); with_reducible refine' nil_lst (by k_dflt k_asm) (by k_dflt k_asm) (by k_dflt (exact Nat.le_of_ble_eq_true rfl)) ?_; k_whole; intro zzl' zzh' zzF' zzN' zzl1; (try k_lt zzl1); (try k_sweep)) | fail)
  exact trivial
section
variable {w : World} {loose : List Str} {mean : ExcName → Option Value} {mg mb : Str → Option Value} {fz news : Led}
theorem boundof_c {sv wv bv tv : Value} {bs : List Tr} {tr : Tr} {t : Tok} {b : Ty} (hs : ∀ p ∈ fz, p ∈ news) (hS : SelIn w fz sv wv bv) (hB : BndIn w fz bv bs) (hT : TyIn fz tv b) :
    Calls w loose mean mg mb 1 141 [sv, .str tr.nm t, tv] news (fun n' r => ((b = .par ∧ tr ∈ bs) ∧ ∃ a o, r = .ref a ∧ n' = (a, o) :: news ∧ AllNe a news) ∨ (¬ (b = .par ∧ tr ∈ bs) ∧ n' = news ∧ r = .none)) := by
  refine hide fun hG9 => ?_
  cases hS with
  | mk s1 s2 =>
  by_cases hb : b = .par
  case neg =>
    obtain @⟨a8, n8, t8, r8, m8⟩ := hT.head
    have hk : (b.kd == "param") = false := by cases b <;> first | exact absurd rfl hb | (simp only [Ty.kd]; decide)
    refine hG9 ?_
    clear hG9
    refine Calls.of ?_
    k_fill
    intro dp un gd cn cs a' ccd cl outer A₀ base h₀ L m' shh sgg sdd skk soo Q E B F X N T hk hd hu hret
    refine wpAny_call ?_
    k_dflt ktr_enter
    refine let_ae ?_
    intro nk ak Q0 hQ0
    (rename Fr _ _ _ _ => F1)
    replace F1 : Fr _ _ _ (fun y => List.lookup y [(("T" : Str), _), (("trait" : Str), _), (("self" : Str), _)]) := F1
    k_steps
    exact hret _ _ _ _ (by k_asm) (by k_asm) (.inr ⟨fun x => hb x.1, rfl, rfl⟩)
  case pos =>
    subst hb
    cases hT with
    | par h1 =>
    cases hB
    all_goals
      refine hG9 ?_
      clear hG9
      refine Calls.of ?_
      k_fill
      intro dp un gd cn cs a' ccd cl outer A₀ base h₀ L m' shh sgg sdd skk soo Q E B F X N T hk hd hu hret
      refine wpAny_call ?_
      k_dflt ktr_enter
      refine let_ae ?_
      intro nk ak Q0 hQ0
      (rename Fr _ _ _ _ => F1)
      replace F1 : Fr _ _ _ (fun y => List.lookup y [(("T" : Str), _), (("trait" : Str), _), (("self" : Str), _)]) := F1
      k_steps
      all_goals first
        | exact hret _ _ _ _ (by k_asm) (newsSub (by k_asm) (by k_extra "m subs")) (.inl ⟨⟨rfl, bnd_in.mp (by assumption)⟩, _, _, rfl, rfl, by k_extra "m ne"⟩)
        | exact hret _ _ _ _ (by k_asm) (newsSub (by k_asm) (by k_extra "m subs")) (.inr ⟨fun x => bnd_out (by assumption) x.2, rfl, rfl⟩)
        | (have y := bnd_in (bs := []).mp (by assumption); cases y)
end
theorem kw7_0 : True := by
  k_with_none
  (k_with "m k_mem" => first | (first | ktr_member | (with_reducible apply mem_hd) | ((with_reducible apply mem_tl); k_mem) | exact mem_via (by assumption) (by assumption)) | fail)
  (k_with "m lt" => first | (first | assumption | (apply PySem.W.allLt_of; assumption) | (apply allLt_tl; assumption) | (apply allLt_tl2; assumption) | with_reducible (k_extra "m pk") | (simp only [AllLt, and_true] at *; first | assumption | omega)) | fail)
  (k_with "m k_all" => first | (first | assumption | (apply ne_of_allNe; k_extra "m ne") | (apply ne_of_allLt; k_extra "m lt")) | fail)
  (k_with "m call" => first | (k_here; k_dflt (refine' Calls.use' (by k_asm) (by k_asm) (by k_asm) (by k_asm) (by k_asm) (by first | exact rfl | assumption) (by k_extra "m con") (by first | omega | (dsimp only [ktrTop]; omega)) (by k_extra "m un") ?_; k_whole); ((intro zzG9 zzhG9; k_dflt (k_extra "m out")) <;> (refine zzhG9 _ _ ?_; intro zzh9 zztk9 zzF9 zzN9; (try k_sweep)))) | fail)
  (k_with "m out" => first | (intro zzn9 zzr9 zzo9; (first | (obtain ⟨zze1, zze2⟩ := zzo9; subst zze1; subst zze2) | (obtain ⟨zze1, zzt9, zze2⟩ := zzo9; subst zze1; subst zze2) | (obtain ⟨zzl9, zze9, zze2, zze1, zzq9⟩ := zzo9; subst zze1; subst zze2; (simp only [AllLt, and_true] at zzq9)) | (obtain ⟨zzl9, zze9, zzp9, zzm9, zzx9, zzy9, zze2, zze1, zzq1, zzq2, zzq3, zzq4⟩ := zzo9; subst zze1; subst zze2; (simp only [AllLt, and_true] at zzq3); obtain ⟨zza8, zzn8, zzt8, zzr8, zze8, zzm8⟩ := Mine.TyIn.head zzq1; subst zze8; obtain ⟨zza7, zzn7, zzt7, zzr7, zze7, zzm7⟩ := Mine.TyIn.head zzq2; subst zze7) | (rcases zzo9 with ⟨zze3, zze1, zzt9, zze2⟩ | ⟨zze3, zze1, zzt9, zze2⟩ <;> (subst zze1; subst zze2)))) | fail)
  (k_with "m un" => first | ((try dsimp +zetaDelta only); (have zzhcl9 := cLine_is); (try simp only [units_in1, units_deeper, Around.mark_units, units_caller]); (try dsimp only [ktrTop]); omega) | fail)
  (k_with "m dp" => first | (first | assumption | (simp only [Ty.dep]; omega) | decide) | fail)
  (k_with "m k_room" => first | ((try dsimp +zetaDelta only); (try simp only [depth_under_make, depth_under_kw, depth_in1, depth_deeper, depth_caller]); (try dsimp only [ktrTop]); have zzhrl9 : recursionLimit = 1000 := rfl; omega) | fail)
  (k_with "eval Name" => first | (k_here; (fail_if_success with_reducible show wpAny _ _ (eval _ (compEnvC _ _ _ _)) _ _ _); k_dflt (refine' nameX_L (by k_asm) (by exact @rfl _ (some _)) ?_ (by kernel_rfl) (rfl) (by kernel_rfl); k_whole)) | fail)
  (k_with "m for" => first | (k_here; (rename Fr _ _ _ _ => zzlF'); (with_unfolding_all refine' For_turns zzlF' ?_; k_whole)) | fail)
  (k_with "m pick" => first | (with_reducible (k_extra "m pk")) | fail)
  (k_with "m ne" => first | (first | with_reducible (first | assumption | (apply allNe_of; assumption) | (apply allNe_off; assumption) | (apply allNe_lt; apply PySem.W.allLt_of; assumption)) | ((with_reducible apply allNe_cons); k_ne; k_extra "m ne") | with_reducible (k_extra "m pkq") | (apply allNe_lt; with_reducible (k_extra "m pkq")) | with_reducible (k_extra "m pk") | (apply allNe_lt; with_reducible (k_extra "m pk")) | (apply allNe_off; with_reducible (k_extra "m pk")) | (apply allNe_lt; apply allLt_tl; assumption) | (with_reducible apply allNe_nil)) | fail)
  (k_with "m subh" => first | (with_reducible (apply sub_hd; first | assumption | (apply sub_hd; first | assumption | (apply sub_hd; first | assumption | (apply sub_hd; first | assumption | (apply sub_hd; first | assumption | (apply sub_hd; first | assumption | (apply sub_hd; first | assumption | (apply sub_hd; first | assumption | (apply sub_hd; assumption)))))))))) | fail)
  (k_with "m subs" => first | (first | (with_reducible apply sub_refl) | assumption | ((with_reducible apply subs_cons); k_mem; k_extra "m subs") | ((with_reducible apply sub_tl); k_extra "m subs") | (with_reducible apply List.forall_mem_nil) | k_extra "m subh") | fail)
  (k_with "pyIter ref" => first | (k_here; (with_reducible show wpAny _ _ (pyIter (Value.ref _)) (fun it s₂ => TurnsAt _ _ _ _ _ _ _ _ _ it s₂) _ _); k_dflt (refine' iter_listTurns (by exact rfl) (by k_asm) (by k_asm) (by k_mem) (by exact rfl) (by exact rfl) ?_; k_whole); intro zzi' zzl1; (try k_lt zzl1)) | fail)
  (k_with "exec For Tuple Attribute cons nil" => first | (k_extra "m for") | fail)
  (k_with "m agr" => first | (first | assumption | exact agree_over | exact agree_refl | (refine agree_store ?_ (by decide); k_extra "m agr")) | fail)
  (k_with "m sub" => first | (first | assumption | ((with_reducible apply sub_tl); k_extra "m sub") | k_extra "m subh") | fail)
  (k_with "execs cons" => first | (k_here; (try dsimp only); (refine' exec_cons_h ?_); intro zztk' zzG' zzhG'; (try (rename PyProof.Rows.News _ _ _ _ => zznN'; dsimp only at zznN'))) | fail)
  (k_with "m leave" => first | (k_end; first | ((try dsimp only); (refine' gnext_cons (by with_reducible assumption) ?_); intro zztk' zzG' zzhG'; (try (rename PyProof.Rows.News _ _ _ _ => zznN'; dsimp only at zznN'))) | (refine gnext (by with_reducible assumption) ?_) | (refine gout (by with_reducible assumption) ?_ ?_; (exact True.intro); (try (refine qout (by with_reducible assumption) ?_)))) | fail)
  (k_with "m k_steps" => first | (repeat' (first | k_extra "m leave" | (k_unfold; (try dsimp only)) | (k_end; wrow_close) | walk1 | (dsimp only; walk1) | (leave1; walk_say "STEP leave1"; try dsimp only) | fail "no step")) | fail)
  (k_with "m pkq" => first | (first | assumption | (apply And.left; first | assumption | (apply And.right; first | assumption | (apply And.right; first | assumption | (apply And.right; first | assumption | (apply And.right; first | assumption | (apply And.right; assumption))))))) | fail)
  (k_with "m pkr" => first | (first | assumption | (apply And.right; first | assumption | (apply And.right; first | assumption | (apply And.right; first | assumption | (apply And.right; first | assumption | (apply And.right; first | assumption | (apply And.right; first | assumption | (apply And.right; first | assumption | (apply And.right; first | assumption | (apply And.right; first | assumption | (apply And.right; first | assumption | (apply And.right; first | assumption | (apply And.right; first | assumption | (apply And.right; first | assumption | (apply And.right; first | assumption | (apply And.right; assumption)))))))))))))))) | fail)
  (k_with "m pk" => first | (first | assumption | (apply And.left; k_extra "m pkr") | (apply And.right; k_extra "m pkr")) | fail)
  (k_with "m omega" => first | (first | ((with_reducible apply neL); with_reducible (k_extra "m pkq")) | ((with_reducible apply neG); with_reducible (k_extra "m pkq")) | ((with_reducible apply neL); with_reducible (k_extra "m pk")) | ((with_reducible apply neG); with_reducible (k_extra "m pk")) | ((with_reducible apply neS); with_reducible (k_extra "m pk")) | ((with_reducible apply lin2); assumption; exact @rfl Bool true) | ((with_reducible apply lin1); assumption; exact @rfl Bool true) | ((with_reducible apply lin0); assumption; exact @rfl Bool true) | ((with_reducible apply lin3); assumption; exact @rfl Bool true) | ((with_reducible apply lin1e); assumption; exact @rfl Bool true) | ((with_reducible apply lin2e); assumption; exact @rfl Bool true) | ((with_reducible apply Nat.le_of_ble_eq_true); exact @rfl Bool true) | ((with_reducible apply om_w); assumption; exact @rfl Bool true) | ((with_reducible apply om_p3); assumption) | ((with_reducible apply om_p2); assumption) | ((with_reducible apply om_p3e); assumption) | (with_reducible apply om_p3r) | ((with_reducible apply om_p4); assumption; exact @rfl Bool true) | ((with_reducible apply om_s); assumption; exact @rfl Bool true) | ((with_reducible apply om_s1); assumption; exact @rfl Bool true) | ((with_reducible apply om_s2); assumption; exact @rfl Bool true) | ((with_reducible apply om_i); assumption; decide +kernel) | ((with_reducible apply om_i2); assumption; assumption; decide +kernel) | ((with_reducible apply om_n); decide +kernel) | (with_reducible apply Int.natCast_nonneg) | ((with_reducible apply om_k); assumption; decide +kernel) | with_reducible (k_extra "m pk")) | fail)
  (k_with "m k_ne" => first | ((with_reducible apply PySem.W.neN); (try dsimp only); omega) | fail)
  (k_with "spliced" => first | (k_here; (with_reducible show wpAny _ _ (spliced (backTo _ (starEach (PySem.Expr.Name _ _ :: _) _))) _ _ _); k_dflt (refine' args_nm (by exact rfl) (by k_asm) (by exact @rfl _ (some _)) (by kernel_rfl) (by exact rfl) (by kernel_rfl) ?_; k_whole)) | fail)
  (k_with "eval Attribute Name" => first | (k_here; (with_reducible show wpAny _ _ (eval (PySem.Expr.Attribute (PySem.Expr.Name _ _) _ _) _) _ _ _); k_dflt (refine' att_nm (by exact rfl) (by k_asm) (by exact @rfl _ (some _)) (by kernel_rfl) (by exact rfl) (by kernel_rfl) ?_; k_whole)) | fail)
  (k_with "m k_upd" => first | (first | ((with_reducible apply PySem.W.Upd.head); k_all) | ((with_reducible apply PySem.W.Upd.tail); k_ne; k_upd)) | fail)
  (k_with "m k_updF" => first | (first | ((with_reducible apply PySem.W.UpdF.head); k_all) | ((with_reducible apply PySem.W.UpdF.tail); k_ne; k_updF)) | fail)
  (k_with "spliced" => first | (k_here; (with_reducible show wpAny _ _ (spliced (backTo _ (starEach (PySem.Expr.Constant (PySem.Const.str _) _ _ :: _) _))) _ _ _); k_dflt (refine' args_str ?_; k_whole)) | fail)
  (k_with "exec Assign" => first | (k_here; (with_reducible show wpAny _ _ (exec (PySem.Stmt.Assign [PySem.Expr.Attribute (PySem.Expr.Name _ _) _ _] (PySem.Expr.Name _ _) _) _) _ _ _); k_dflt (refine' set_nm (by exact rfl) (by k_asm) (by exact @rfl _ (some _)) (by exact @rfl _ (some _)) (by kernel_rfl) (by exact rfl) (by exact rfl) (by kernel_rfl) (by kernel_rfl) (by k_asm) (by k_asm) (by k_inst) (by exact rfl) (by k_is) (by k_is) (by k_is) (by k_is) (by k_get) (by k_put) (by k_upd) (by exact Nat.le_of_ble_eq_true rfl) (by exact rfl) ?_; k_whole); intro zzh' zzF' zzN'; (try k_sweep)) | fail)
  (k_with "spliced" => first | (k_here; (with_reducible show wpAny _ _ (spliced (backTo _ (starEach [] _))) (fun vs s₂ => wpAny _ _ (newTuple _) _ _ s₂) _ _); with_reducible refine' nil_tup (by k_dflt k_asm) (by k_dflt k_asm) (by k_dflt (exact Nat.le_of_ble_eq_true rfl)) ?_; k_whole; intro zzD' zzh' zzF' zzN' zzl1; (try k_lt zzl1); (try k_sweep)) | fail)
  (k_with "spliced" => first | (k_here; (with_reducible show wpAny _ _ (spliced (backTo _ (starEach [] _))) (fun vs s₂ => wpAny _ _ (newList _) _ _ s₂) _ _); with_reducible refine' nil_lst (by k_dflt k_asm) (by k_dflt k_asm) (by k_dflt (exact Nat.le_of_ble_eq_true rfl)) ?_; k_whole; intro zzl' zzh' zzF' zzN' zzl1; (try k_lt zzl1); (try k_sweep)) | fail)
  exact trivial
section
variable {w : World} {loose : List Str} {mean : ExcName → Option Value} {mg mb : Str → Option Value} {fz news : Led}
theorem needsof_c {es : List (Str × Value)} {sv v fv : Value} {i : Imp} (hs : ∀ p ∈ fz, p ∈ news) (hv : ImpIn w fz es v i) :
    Calls w loose mean mg mb 1 146 [sv, v, fv] news (fun n' r => ∃ l ep, r = .ref l ∧ n' = (l, listOf #[] ep) :: news ∧ AllNe l news) := by
  refine hide fun hG9 => ?_
  cases hv with
  | mk h1 h2 h3 h4 h5 h6 h7 h8 =>
  clear h8
  refine hG9 ?_
  clear hG9
  refine Calls.of ?_
  k_fill
  intro dp un gd cn cs a' ccd cl outer A₀ base h₀ L m' shh sgg sdd skk soo Q E B F X N T hk hd hu hret
  refine wpAny_call ?_
  k_dflt (refine' code_defC ?k1 ?k2 ?k3 ?k4 ?k5 ?kA ?kF ?kK ?k6 ?k7 ?k8 ?k9 ?kB ?kD ?_ ?c2 ?c3 ?c4; (case kA => exact rfl); (case kF => exact rfl); (case kK => assumption); (case k1 => k_asm); (case k2 => k_asm); (case k3 => k_asm); (case k4 => k_asm); (case k5 => k_asm); (case k6 => k_is); (case k7 => k_is); (case k8 => ktr_room); (case k9 => exact BindsTo.of_eq rfl); (case kB => exact rfl); (case kD => decide +kernel); (case c2 => exact rfl); (case c3 => exact rfl); (case c4 => exact rfl); k_whole; intro g' L' h' tk' cells' FG' F' N' Y' B' X' T' l1; (try k_lt l1); k_cells Y'; (try simp only [List.cons_append, List.nil_append] at N'); (try dsimp only); (try k_fold))
  refine let_ae ?_
  intro nk ak Q0 hQ0
  (rename Fr _ _ _ _ => F1)
  replace F1 : Fr _ _ _ (fun y => if y = ("impl" : Str) then some _ else if y = ("self" : Str) then some _ else none) := F1
  k_steps
  exact hret _ _ _ _ (by k_asm) (newsSub (by k_asm) (by k_extra "m subs")) ⟨_, _, rfl, rfl, by k_extra "m ne"⟩
end
theorem kw8_0 : True := by
  k_with_none
  (k_with "m k_mem" => first | (first | ktr_member | (with_reducible apply mem_hd) | ((with_reducible apply mem_tl); k_mem) | exact mem_via (by assumption) (by assumption)) | fail)
  (k_with "ite" => first | (first | refine ite_t (by with_reducible assumption) ?_ | refine ite_f (by with_reducible assumption) ?_) | fail)
  (k_with "m lt" => first | (first | assumption | (apply PySem.W.allLt_of; assumption) | (apply allLt_tl; assumption) | (apply allLt_tl2; assumption) | with_reducible (k_extra "m pk") | (simp only [AllLt, and_true] at *; first | assumption | omega)) | fail)
  (k_with "m k_all" => first | (first | assumption | (apply ne_of_allNe; k_extra "m ne") | (apply ne_of_allLt; k_extra "m lt")) | fail)
  (k_with "m call" => first | (k_here; k_dflt (refine' Calls.use' (by k_asm) (by k_asm) (by k_asm) (by k_asm) (by k_asm) (by first | exact rfl | assumption) (by k_extra "m con") (by first | omega | (dsimp only [ktrTop]; omega)) (by k_extra "m un") ?_; k_whole); ((intro zzG9 zzhG9; k_dflt (k_extra "m out")) <;> (refine zzhG9 _ _ ?_; intro zzh9 zztk9 zzF9 zzN9; (try k_sweep)))) | fail)
  (k_with "m out" => first | (intro zzn9 zzr9 zzo9; (first | (obtain ⟨zze1, zze2⟩ := zzo9; subst zze1; subst zze2) | (obtain ⟨zze1, zzt9, zze2⟩ := zzo9; subst zze1; subst zze2) | (obtain ⟨zzl9, zze9, zze2, zze1, zzq9⟩ := zzo9; subst zze1; subst zze2; (simp only [AllLt, and_true] at zzq9)) | (obtain ⟨zzl9, zze9, zzp9, zzm9, zzx9, zzy9, zze2, zze1, zzq1, zzq2, zzq3, zzq4⟩ := zzo9; subst zze1; subst zze2; (simp only [AllLt, and_true] at zzq3); obtain ⟨zza8, zzn8, zzt8, zzr8, zze8, zzm8⟩ := Mine.TyIn.head zzq1; subst zze8; obtain ⟨zza7, zzn7, zzt7, zzr7, zze7, zzm7⟩ := Mine.TyIn.head zzq2; subst zze7) | (rcases zzo9 with ⟨zze3, zze1, zzt9, zze2⟩ | ⟨zze3, zze1, zzt9, zze2⟩ <;> (subst zze1; subst zze2)))) | fail)
  (k_with "call ref" => first | (k_extra "m call") | fail)
  (k_with "m un" => first | ((try dsimp +zetaDelta only); (have zzhcl9 := cLine_is); (try simp only [units_in1, units_deeper, Around.mark_units, units_caller]); (try dsimp only [ktrTop]); omega) | fail)
  (k_with "m dp" => first | (first | assumption | (simp only [Ty.dep]; omega) | decide) | fail)
  (k_with "m k_room" => first | ((try dsimp +zetaDelta only); (try simp only [depth_under_make, depth_under_kw, depth_in1, depth_deeper, depth_caller]); (try dsimp only [ktrTop]); have zzhrl9 : recursionLimit = 1000 := rfl; omega) | fail)
  (k_with "eval Name" => first | (k_here; (fail_if_success with_reducible show wpAny _ _ (eval _ (compEnvC _ _ _ _)) _ _ _); k_dflt (refine' nameX_L (by k_asm) (by exact @rfl _ (some _)) ?_ (by kernel_rfl) (rfl) (by kernel_rfl); k_whole)) | fail)
  (k_with "ite" => first | (k_closed; first | refine ite_t (by decide +kernel) ?_ | refine ite_f (by decide +kernel) ?_) | fail)
  (k_with "exec For Name Attribute cons nil" => first | (k_extra "m for") | fail)
  (k_with "exec For Tuple IfExp cons nil" => first | (k_extra "m for") | fail)
  (k_with "m for" => first | (k_here; (rename Fr _ _ _ _ => zzlF'); (with_unfolding_all refine' For_turns zzlF' ?_; k_whole)) | fail)
  (k_with "m pick" => first | (with_reducible (k_extra "m pk")) | fail)
  (k_with "m ne" => first | (first | with_reducible (first | assumption | (apply allNe_of; assumption) | (apply allNe_off; assumption) | (apply allNe_lt; apply PySem.W.allLt_of; assumption)) | ((with_reducible apply allNe_cons); k_ne; k_extra "m ne") | with_reducible (k_extra "m pkq") | (apply allNe_lt; with_reducible (k_extra "m pkq")) | with_reducible (k_extra "m pk") | (apply allNe_lt; with_reducible (k_extra "m pk")) | (apply allNe_off; with_reducible (k_extra "m pk")) | (apply allNe_lt; apply allLt_tl; assumption) | (with_reducible apply allNe_nil)) | fail)
  (k_with "m subh" => first | (with_reducible (apply sub_hd; first | assumption | (apply sub_hd; first | assumption | (apply sub_hd; first | assumption | (apply sub_hd; first | assumption | (apply sub_hd; first | assumption | (apply sub_hd; first | assumption | (apply sub_hd; first | assumption | (apply sub_hd; first | assumption | (apply sub_hd; assumption)))))))))) | fail)
  (k_with "m subs" => first | (first | (with_reducible apply sub_refl) | assumption | ((with_reducible apply subs_cons); k_mem; k_extra "m subs") | ((with_reducible apply sub_tl); k_extra "m subs") | (with_reducible apply List.forall_mem_nil) | k_extra "m subh") | fail)
  (k_with "getMethod ref" => first | (k_here; (with_reducible show wpAny _ _ (getMethod (Value.ref _) (Str.ofString "get") _) _ _ _); k_dflt (refine' kdg_method (knd := PySem.strKind _ _) (by k_asm) (by k_mem) (by k_asm) ?_; k_whole)) | fail)
  (k_with "pyIter ref" => first | (k_here; (with_reducible show wpAny _ _ (pyIter (Value.ref _)) (fun it s₂ => TurnsAt _ _ _ _ _ _ _ _ _ it s₂) _ _); k_dflt (refine' iter_listTurns (by exact rfl) (by k_asm) (by k_asm) (by k_mem) (by exact rfl) (by exact rfl) ?_; k_whole); intro zzi' zzl1; (try k_lt zzl1)) | fail)
  (k_with "m agr" => first | (first | assumption | exact agree_over | exact agree_refl | (refine agree_store ?_ (by decide); k_extra "m agr")) | fail)
  (k_with "m sub" => first | (first | assumption | ((with_reducible apply sub_tl); k_extra "m sub") | k_extra "m subh") | fail)
  (k_with "execs cons" => first | (k_here; (try dsimp only); (refine' exec_cons_h ?_); intro zztk' zzG' zzhG'; (try (rename PyProof.Rows.News _ _ _ _ => zznN'; dsimp only at zznN'))) | fail)
  (k_with "execs nil" => first | (k_here; (refine' exec_nil_g ?_); intro zztk'; (try (refine qout (by with_reducible assumption) ?_))) | fail)
  (k_with "m leave" => first | (k_end; first | ((try dsimp only); (refine' gnext_cons (by with_reducible assumption) ?_); intro zztk' zzG' zzhG'; (try (rename PyProof.Rows.News _ _ _ _ => zznN'; dsimp only at zznN'))) | (refine gnext (by with_reducible assumption) ?_) | (refine gout (by with_reducible assumption) ?_ ?_; (exact True.intro); (try (refine qout (by with_reducible assumption) ?_)))) | fail)
  (k_with "m k_steps" => first | (repeat' (first | k_extra "m leave" | (k_unfold; (try dsimp only)) | (k_end; wrow_close) | walk1 | (dsimp only; walk1) | (leave1; walk_say "STEP leave1"; try dsimp only) | fail "no step")) | fail)
  (k_with "m pkq" => first | (first | assumption | (apply And.left; first | assumption | (apply And.right; first | assumption | (apply And.right; first | assumption | (apply And.right; first | assumption | (apply And.right; first | assumption | (apply And.right; assumption))))))) | fail)
  (k_with "m pkr" => first | (first | assumption | (apply And.right; first | assumption | (apply And.right; first | assumption | (apply And.right; first | assumption | (apply And.right; first | assumption | (apply And.right; first | assumption | (apply And.right; first | assumption | (apply And.right; first | assumption | (apply And.right; first | assumption | (apply And.right; first | assumption | (apply And.right; first | assumption | (apply And.right; first | assumption | (apply And.right; first | assumption | (apply And.right; first | assumption | (apply And.right; first | assumption | (apply And.right; assumption)))))))))))))))) | fail)
  (k_with "m pk" => first | (first | assumption | (apply And.left; k_extra "m pkr") | (apply And.right; k_extra "m pkr")) | fail)
  (k_with "m omega" => first | (first | ((with_reducible apply neL); with_reducible (k_extra "m pkq")) | ((with_reducible apply neG); with_reducible (k_extra "m pkq")) | ((with_reducible apply neL); with_reducible (k_extra "m pk")) | ((with_reducible apply neG); with_reducible (k_extra "m pk")) | ((with_reducible apply neS); with_reducible (k_extra "m pk")) | ((with_reducible apply lin2); assumption; exact @rfl Bool true) | ((with_reducible apply lin1); assumption; exact @rfl Bool true) | ((with_reducible apply lin0); assumption; exact @rfl Bool true) | ((with_reducible apply lin3); assumption; exact @rfl Bool true) | ((with_reducible apply lin1e); assumption; exact @rfl Bool true) | ((with_reducible apply lin2e); assumption; exact @rfl Bool true) | ((with_reducible apply Nat.le_of_ble_eq_true); exact @rfl Bool true) | ((with_reducible apply om_w); assumption; exact @rfl Bool true) | ((with_reducible apply om_p3); assumption) | ((with_reducible apply om_p2); assumption) | ((with_reducible apply om_p3e); assumption) | (with_reducible apply om_p3r) | ((with_reducible apply om_p4); assumption; exact @rfl Bool true) | ((with_reducible apply om_s); assumption; exact @rfl Bool true) | ((with_reducible apply om_s1); assumption; exact @rfl Bool true) | ((with_reducible apply om_s2); assumption; exact @rfl Bool true) | ((with_reducible apply om_i); assumption; decide +kernel) | ((with_reducible apply om_i2); assumption; assumption; decide +kernel) | ((with_reducible apply om_n); decide +kernel) | (with_reducible apply Int.natCast_nonneg) | ((with_reducible apply om_k); assumption; decide +kernel) | with_reducible (k_extra "m pk")) | fail)
  (k_with "m k_ne" => first | ((with_reducible apply PySem.W.neN); (try dsimp only); omega) | fail)
  (k_with "spliced" => first | (k_here; (with_reducible show wpAny _ _ (spliced (backTo _ (starEach (PySem.Expr.Name _ _ :: _) _))) _ _ _); k_dflt (refine' args_nm (by exact rfl) (by k_asm) (by exact @rfl _ (some _)) (by kernel_rfl) (by exact rfl) (by kernel_rfl) ?_; k_whole)) | fail)
  (k_with "isTrue Compare" => first | (k_here; (with_reducible show wpAny _ _ (isTrue (PySem.Expr.Compare (PySem.Expr.Name _ _) [_] [_] _) _ _) _ _ _); k_dflt (refine' cmp_nm (by exact rfl) (by k_asm) (by exact @rfl _ (some _)) (by kernel_rfl) (by exact rfl) (by kernel_rfl) (by with_unfolding_all rfl) ?_; k_whole)) | fail)
  (k_with "eval Attribute Name" => first | (k_here; (with_reducible show wpAny _ _ (eval (PySem.Expr.Attribute (PySem.Expr.Name _ _) _ _) _) _ _ _); k_dflt (refine' att_nm (by exact rfl) (by k_asm) (by exact @rfl _ (some _)) (by kernel_rfl) (by exact rfl) (by kernel_rfl) ?_; k_whole)) | fail)
  (k_with "m k_upd" => first | (first | ((with_reducible apply PySem.W.Upd.head); k_all) | ((with_reducible apply PySem.W.Upd.tail); k_ne; k_upd)) | fail)
  (k_with "m k_updF" => first | (first | ((with_reducible apply PySem.W.UpdF.head); k_all) | ((with_reducible apply PySem.W.UpdF.tail); k_ne; k_updF)) | fail)
  (k_with "spliced" => first | (k_here; (with_reducible show wpAny _ _ (spliced (backTo _ (starEach (PySem.Expr.Constant (PySem.Const.str _) _ _ :: _) _))) _ _ _); k_dflt (refine' args_str ?_; k_whole)) | fail)
  (k_with "exec If" => first | (k_here; (with_reducible show wpAny _ _ (exec (PySem.Stmt.If (PySem.Expr.Compare (PySem.Expr.Name _ _) [_] [_] _) _ _ _) _) _ _ _); k_dflt (refine' if_nm (by exact rfl) (by k_asm) (by exact @rfl _ (some _)) (by kernel_rfl) (by exact rfl) (by kernel_rfl) (by with_unfolding_all rfl) ?_; k_whole)) | fail)
  (k_with "eval Constant str" => first | (k_here; (with_reducible show wpAny _ _ (eval (PySem.Expr.Constant (PySem.Const.str _) _ _) _) (fun b s₂ => wpAny _ _ (compareOp CmpOp.Eq (Value.str _ _) b) (fun c s₃ => wpAny _ _ (truthy c) _ _ s₃) _ s₂) _ _); (with_reducible refine' eq_cst ?_); k_whole) | fail)
  (k_with "exec Assign" => first | (k_here; (with_reducible show wpAny _ _ (exec (PySem.Stmt.Assign [PySem.Expr.Attribute (PySem.Expr.Name _ _) _ _] (PySem.Expr.Name _ _) _) _) _ _ _); k_dflt (refine' set_nm (by exact rfl) (by k_asm) (by exact @rfl _ (some _)) (by exact @rfl _ (some _)) (by kernel_rfl) (by exact rfl) (by exact rfl) (by kernel_rfl) (by kernel_rfl) (by k_asm) (by k_asm) (by k_inst) (by exact rfl) (by k_is) (by k_is) (by k_is) (by k_is) (by k_get) (by k_put) (by k_upd) (by exact Nat.le_of_ble_eq_true rfl) (by exact rfl) ?_; k_whole); intro zzh' zzF' zzN'; (try k_sweep)) | fail)
  (k_with "spliced" => first | (k_here; (with_reducible show wpAny _ _ (spliced (backTo _ (starEach [] _))) (fun vs s₂ => wpAny _ _ (newTuple _) _ _ s₂) _ _); with_reducible refine' nil_tup (by k_dflt k_asm) (by k_dflt k_asm) (by k_dflt (exact Nat.le_of_ble_eq_true rfl)) ?_; k_whole; intro zzD' zzh' zzF' zzN' zzl1; (try k_lt zzl1); (try k_sweep)) | fail)
  (k_with "spliced" => first | (k_here; (with_reducible show wpAny _ _ (spliced (backTo _ (starEach [] _))) (fun vs s₂ => wpAny _ _ (newList _) _ _ s₂) _ _); with_reducible refine' nil_lst (by k_dflt k_asm) (by k_dflt k_asm) (by k_dflt (exact Nat.le_of_ble_eq_true rfl)) ?_; k_whole; intro zzl' zzh' zzF' zzN' zzl1; (try k_lt zzl1); (try k_sweep)) | fail)
  exact trivial
section
variable {w : World} {loose : List Str} {mean : ExcName → Option Value} {mg mb : Str → Option Value} {fz news : Led}
theorem kw8_1 : True := by
  (k_with "m con" => first | (first | exact matchesimpl_c (w := w) (by k_extra "m sub") (by assumption) (by k_mem) (by assumption) (by assumption) (by assumption) | exact needsof_c (w := w) (by k_extra "m sub") (by assumption)) | fail)
  (k_with "m out" => first | (intro zzn9 zzr9 zzo9; (first | (obtain ⟨zzl9, zze9, zze2, zze1, zzq9⟩ := zzo9; subst zze1; subst zze2; (simp only [AllNe, and_true] at zzq9)) | (rcases zzo9 with ⟨zze3, zzl9, zzd9, zzo9, zzm9, zzt9, zze2, zze1, zzq1, zzq2, zzq3, zzq4, zzq5⟩ | ⟨zze3, zzl9, zzd9, zzo9, zzm9, zzt9, zze2, zze1, zzq1, zzq2, zzq3, zzq4, zzq5⟩ <;> (subst zze1; subst zze2; (simp only [AllNe, and_true] at zzq3 zzq4))))) | fail)
  exact trivial
theorem candidates_c {sv wv bv tv : Value} {a : Addr} {n : Nat} {imps : List Imp} {trs : List (Tr × Slf)} {tr : Tr} {t : Tok} {b : Ty} {k : Int} {kt : Tok} (hs : ∀ p ∈ fz, p ∈ news) (hS : SelIn w fz sv wv bv) (hW : WorldIn w fz wv imps trs) (ha : (a, tupOf [] n) ∈ news) (hT : TyIn fz tv b) (hb : b.clear = true) (db : b.dep ≤ 40) :
    Calls w loose mean mg mb 5 153 [sv, .str tr.nm t, .ref a, tv, .int k kt] news (fun n' r => ∃ l vs ep n0, r = .ref l ∧ n' = (l, listOf vs.toArray ep) :: n0 ∧ (∀ p ∈ news, p ∈ n0) ∧ AllNe l n0 ∧ CRows n0 vs ∧ vs.length ≤ 8 ∧ (vs.isEmpty = !imps.any (hitC tr b))) := by
  refine hide fun hG9 => ?_
  cases hS with
  | mk s1 s2 =>
  cases hW with
  | @mk x dx sg so tr0 to im vs n t1 t2 t3 t4 t5 t6 t7 t8 v1 v2 v3 v7 v8 es tes imps trs w1 w2 w3 w4 w5 w6 w7 w8 w9 w10 w11 w12 =>
  refine hG9 ?_
  clear hG9
  refine Calls.of ?_
  k_fill
  intro dp un gd cn cs a' ccd cl outer A₀ base h₀ L m' shh sgg sdd skk soo Q E B F X N T hk hd hu hret
  refine wpAny_call ?_
  k_dflt ktr_enter
  refine let_ae ?_
  intro nk ak Q0 hQ0
  (rename Fr _ _ _ _ => F1)
  replace F1 : Fr _ _ _ (fun y => List.lookup y [(("deep" : Str), _), (("T" : Str), _), (("args" : Str), _), (("trait" : Str), _), (("self" : Str), _)]) := F1
  k_steps
  refine app_ind ["impl", "answer", "found", "other", "part", "told"] (fun r vs' n1 => ∃ is, ImpsIn w fz es r is ∧ CRows n1 vs' ∧ vs'.length + r.length ≤ 8 ∧ (!vs'.isEmpty || is.any (hitC tr b)) = imps.any (hitC tr b)) vs (by k_extra "m ne") (by k_extra "m ne") ⟨imps, w11, (fun _ h => nomatch h), by simpa using w12, by simp⟩ ?_ ?_
  · intro v r vs' ep n1 u v' h tk o z910 hn hI hr hne hv F9 ho N9
    refine hide fun hG9 => ?_
    obtain ⟨is, hi, hc, hl, he⟩ := z910
    obtain rfl : v' = v := hv
    have hs1 : ∀ p ∈ fz, p ∈ n1 := fun p hp => hn p (hs p hp)
    have ha1 := hn _ ha
    cases hi with
    | @cons v i vs is hv hi =>
    have hv' := hv
    cases hv with
    | mk h1 h2 h3 h4 h5 h6 h7 h8 =>
    clear h8
    rcases h5.split with ⟨e1, rfl⟩ | ⟨p, tp, e1, rfl⟩
    · refine hG9 ?_
      clear hG9
      (try refine hideB fun G8 hG8 => ?_)
      k_steps
      refine unrEnd1 (by k_asm) (by k_asm) (fun q hq => hq) (by k_extra "m ne") ⟨⟨by k_mem, trivial⟩, RInv.intro (by k_extra "m agr") hn (by assumption) (by assumption) ⟨is, hi, hc, by simp only [List.length_cons] at hl; omega, by rw [← he]; simp [hitC, e1]⟩⟩
    · by_cases hp : p = tr
      · subst hp
        have hq : (p.nm == p.nm) = true := by rw [Tr.nm_inj]; exact decide_eq_true rfl
        refine hG9 ?_
        clear hG9
        (try refine hideB fun G8 hG8 => ?_)
        k_steps
        · refine unrEndA (by k_asm) (by k_asm) (by k_mem) (by k_mem) (by assumption) (by k_mem) (by k_extra "m subs") (by k_extra "m agr") hn (by k_ne) (by k_ne) (by assumption) (by k_ne) (by k_ne) (by assumption) (by assumption) (fun n hh => ⟨hh _ (hs1 _ w10), trivial⟩) ⟨is, hi, hc.snoc, by simp only [List.length_cons, List.length_append, List.length_nil] at hl ⊢; omega, by rw [← he]; have ht : hitC p b i = true := decide_eq_true ⟨e1, by assumption⟩; simp [ht]⟩
        · refine unrEnd1 (by k_asm) (by k_asm) (by k_extra "m subs") (by k_extra "m ne") ⟨⟨by k_mem, trivial⟩, RInv.intro (by k_extra "m agr") hn (by assumption) (by assumption) ⟨is, hi, hc, by simp only [List.length_cons] at hl; omega, by rw [← he]; simp [hitC, e1, *]⟩⟩
      · have hq : (p.nm == tr.nm) = false := by rw [Tr.nm_inj]; exact decide_eq_false hp
        refine hG9 ?_
        clear hG9
        (try refine hideB fun G8 hG8 => ?_)
        k_steps
        refine unrEnd1 (by k_asm) (by k_asm) (fun q hq => hq) (by k_extra "m ne") ⟨⟨by k_mem, trivial⟩, RInv.intro (by k_extra "m agr") hn (by assumption) (by assumption) ⟨is, hi, hc, by simp only [List.length_cons] at hl; omega, by rw [← he]; simp [hitC, e1, hp]⟩⟩
  · intro vs' ep n1 u h tk z96 hn hI hr F9 N9
    refine hide fun hG9 => ?_
    obtain ⟨is, hi, hc, hl, he⟩ := z96
    cases hi
    refine hG9 ?_
    clear hG9
    (try refine hideB fun G8 hG8 => ?_)
    k_steps
    exact hret _ _ _ _ (by k_asm) (by k_asm) ⟨_, _, _, _, rfl, rfl, hn, hr, hc, by simpa using hl, by rw [← he]; simp⟩
end
theorem kw9_0 : True := by
  k_with_none
  (k_with "m k_mem" => first | (first | ktr_member | (with_reducible apply mem_hd) | ((with_reducible apply mem_tl); k_mem) | exact mem_via (by assumption) (by assumption)) | fail)
  (k_with "ite" => first | (first | refine ite_t (by with_reducible assumption) ?_ | refine ite_f (by with_reducible assumption) ?_) | fail)
  (k_with "m lt" => first | (first | assumption | (apply PySem.W.allLt_of; assumption) | (apply allLt_tl; assumption) | (apply allLt_tl2; assumption) | with_reducible (k_extra "m pk") | (simp only [AllLt, and_true] at *; first | assumption | omega)) | fail)
  (k_with "m k_all" => first | (first | assumption | (apply ne_of_allNe; k_extra "m ne") | (apply ne_of_allLt; k_extra "m lt")) | fail)
  (k_with "m call" => first | (k_here; k_dflt (refine' Calls.use' (by k_asm) (by k_asm) (by k_asm) (by k_asm) (by k_asm) (by first | exact rfl | assumption) (by k_extra "m con") (by first | omega | (dsimp only [ktrTop]; omega)) (by k_extra "m un") ?_; k_whole); ((intro zzG9 zzhG9; k_dflt (k_extra "m out")) <;> (refine zzhG9 _ _ ?_; intro zzh9 zztk9 zzF9 zzN9; (try k_sweep)))) | fail)
  (k_with "m out" => first | (intro zzn9 zzr9 zzo9; (first | (obtain ⟨zze1, zze2⟩ := zzo9; subst zze1; subst zze2) | (obtain ⟨zze1, zzt9, zze2⟩ := zzo9; subst zze1; subst zze2) | (obtain ⟨zzl9, zze9, zze2, zze1, zzq9⟩ := zzo9; subst zze1; subst zze2; (simp only [AllLt, and_true] at zzq9)) | (obtain ⟨zzl9, zze9, zzp9, zzm9, zzx9, zzy9, zze2, zze1, zzq1, zzq2, zzq3, zzq4⟩ := zzo9; subst zze1; subst zze2; (simp only [AllLt, and_true] at zzq3); obtain ⟨zza8, zzn8, zzt8, zzr8, zze8, zzm8⟩ := Mine.TyIn.head zzq1; subst zze8; obtain ⟨zza7, zzn7, zzt7, zzr7, zze7, zzm7⟩ := Mine.TyIn.head zzq2; subst zze7) | (rcases zzo9 with ⟨zze3, zze1, zzt9, zze2⟩ | ⟨zze3, zze1, zzt9, zze2⟩ <;> (subst zze1; subst zze2)))) | fail)
  (k_with "call ref" => first | (k_extra "m call") | fail)
  (k_with "m un" => first | ((try dsimp +zetaDelta only); (have zzhcl9 := cLine_is); (try simp only [units_in1, units_deeper, Around.mark_units, units_caller]); (try dsimp only [ktrTop]); omega) | fail)
  (k_with "m dp" => first | (first | assumption | (simp only [Ty.dep]; omega) | decide) | fail)
  (k_with "m k_room" => first | ((try dsimp +zetaDelta only); (try simp only [depth_under_make, depth_under_kw, depth_in1, depth_deeper, depth_caller]); (try dsimp only [ktrTop]); have zzhrl9 : recursionLimit = 1000 := rfl; omega) | fail)
  (k_with "eval Name" => first | (k_here; (fail_if_success with_reducible show wpAny _ _ (eval _ (compEnvC _ _ _ _)) _ _ _); k_dflt (refine' nameX_L (by k_asm) (by exact @rfl _ (some _)) ?_ (by kernel_rfl) (rfl) (by kernel_rfl); k_whole)) | fail)
  (k_with "ite" => first | (k_closed; first | refine ite_t (by decide +kernel) ?_ | refine ite_f (by decide +kernel) ?_) | fail)
  (k_with "m for" => first | (k_here; (rename Fr _ _ _ _ => zzlF'); (with_unfolding_all refine' For_turns zzlF' ?_; k_whole)) | fail)
  (k_with "eval ListComp" => first | (k_here; (with_reducible show wpAny _ _ (eval (PySem.Expr.ListComp _ [⟨PySem.Expr.Tuple [_, _] _ _, _, _, _⟩] _ _) _) _ _ _); k_dflt (refine' listcomp (xs := [(_, _), (_, _)]) (by k_asm) (by with_unfolding_all rfl) (by decide) (by exact rfl) (by decide) (by decide) (by decide) ?_ (by exact fun _ => rfl); k_whole)) | fail)
  (k_with "eval ListComp" => first | (k_here; (with_reducible show wpAny _ _ (eval (PySem.Expr.ListComp _ [⟨PySem.Expr.Tuple [_, _, _] _ _, _, _, _⟩] _ _) _) _ _ _); k_dflt (refine' listcomp (xs := [(_, _), (_, _), (_, _)]) (by k_asm) (by with_unfolding_all rfl) (by decide) (by exact rfl) (by decide) (by decide) (by decide) ?_ (by exact fun _ => rfl); k_whole)) | fail)
  (k_with "eval ListComp" => first | (k_here; (with_reducible show wpAny _ _ (eval (PySem.Expr.ListComp _ [⟨PySem.Expr.Tuple [_, _, _, _] _ _, _, _, _⟩] _ _) _) _ _ _); k_dflt (refine' listcomp (xs := [(_, _), (_, _), (_, _), (_, _)]) (by k_asm) (by with_unfolding_all rfl) (by decide) (by exact rfl) (by decide) (by decide) (by decide) ?_ (by exact fun _ => rfl); k_whole)) | fail)
  (k_with "m pick" => first | (with_reducible (k_extra "m pk")) | fail)
  (k_with "m ne" => first | (first | with_reducible (first | assumption | (apply allNe_of; assumption) | (apply allNe_off; assumption) | (apply allNe_lt; apply PySem.W.allLt_of; assumption)) | ((with_reducible apply allNe_cons); k_ne; k_extra "m ne") | with_reducible (k_extra "m pkq") | (apply allNe_lt; with_reducible (k_extra "m pkq")) | with_reducible (k_extra "m pk") | (apply allNe_lt; with_reducible (k_extra "m pk")) | (apply allNe_off; with_reducible (k_extra "m pk")) | (apply allNe_lt; apply allLt_tl; assumption) | (with_reducible apply allNe_nil)) | fail)
  (k_with "m subh" => first | (with_reducible (apply sub_hd; first | assumption | (apply sub_hd; first | assumption | (apply sub_hd; first | assumption | (apply sub_hd; first | assumption | (apply sub_hd; first | assumption | (apply sub_hd; first | assumption | (apply sub_hd; first | assumption | (apply sub_hd; first | assumption | (apply sub_hd; assumption)))))))))) | fail)
  (k_with "m subs" => first | (first | (with_reducible apply sub_refl) | assumption | ((with_reducible apply subs_cons); k_mem; k_extra "m subs") | ((with_reducible apply sub_tl); k_extra "m subs") | (with_reducible apply List.forall_mem_nil) | k_extra "m subh") | fail)
  (k_with "getMethod ref" => first | (k_here; (with_reducible show wpAny _ _ (getMethod (Value.ref _) (Str.ofString "get") _) _ _ _); k_dflt (refine' kdg_method (knd := PySem.strKind _ _) (by k_asm) (by k_mem) (by k_asm) ?_; k_whole)) | fail)
  (k_with "subscriptTail" => first | (k_here; (with_reducible show wpAny _ _ (subscriptTail _ _ (Value.ref _) (Value.str _ _)) _ _ _); k_dflt (refine' kda_item (knd := PySem.strKind _ _) (by k_asm) (by k_mem) (by k_asm) (strKind_is _ _ _ _) (by first | assumption | exact rfl) ?_ (by with_unfolding_all rfl) (by intro zzr; with_unfolding_all rfl); k_whole)) | fail)
  (k_with "m agr" => first | (first | assumption | exact agree_over | exact agree_refl | (refine agree_store ?_ (by decide); k_extra "m agr")) | fail)
  (k_with "compareOp Eq ref ref" => first | (k_here; (with_reducible show wpAny _ _ (compareOp CmpOp.Eq (Value.ref _) (Value.ref _)) _ _ _); k_dflt (refine' eq_empty (by k_asm) (by k_mem) (by k_mem) (by k_extra "m un") (by first | assumption | exact rfl) ?_; k_whole)) | fail)
  (k_with "CSrc" => first | (k_dflt (refine' CSrc.intro (by exact rfl) (by k_asm) (by k_asm) (by k_mem) (fun _ h => h) (by first | exact Nat.le_of_ble_eq_true rfl | (rw [sizeLine_eq]; omega)) ?_; k_whole); intro zzg') | fail)
  (k_with "m sub" => first | (first | assumption | ((with_reducible apply sub_tl); k_extra "m sub") | k_extra "m subh") | fail)
  (k_with "execs cons" => first | (k_here; (try dsimp only); (refine' exec_cons_h ?_); intro zztk' zzG' zzhG'; (try (rename PyProof.Rows.News _ _ _ _ => zznN'; dsimp only at zznN'))) | fail)
  (k_with "execs nil" => first | (k_here; (refine' exec_nil_g ?_); intro zztk'; (try (refine qout (by with_reducible assumption) ?_))) | fail)
  (k_with "m leave" => first | (k_end; first | ((try dsimp only); (refine' gnext_cons (by with_reducible assumption) ?_); intro zztk' zzG' zzhG'; (try (rename PyProof.Rows.News _ _ _ _ => zznN'; dsimp only at zznN'))) | (refine gnext (by with_reducible assumption) ?_) | (refine gout (by with_reducible assumption) ?_ ?_; (exact True.intro); (try (refine qout (by with_reducible assumption) ?_)))) | fail)
  (k_with "m k_steps" => first | (repeat' (first | k_extra "m leave" | (k_unfold; (try dsimp only)) | (k_end; wrow_close) | walk1 | (dsimp only; walk1) | (leave1; walk_say "STEP leave1"; try dsimp only) | fail "no step")) | fail)
  (k_with "m pkq" => first | (first | assumption | (apply And.left; first | assumption | (apply And.right; first | assumption | (apply And.right; first | assumption | (apply And.right; first | assumption | (apply And.right; first | assumption | (apply And.right; assumption))))))) | fail)
  (k_with "m pkr" => first | (first | assumption | (apply And.right; first | assumption | (apply And.right; first | assumption | (apply And.right; first | assumption | (apply And.right; first | assumption | (apply And.right; first | assumption | (apply And.right; first | assumption | (apply And.right; first | assumption | (apply And.right; first | assumption | (apply And.right; first | assumption | (apply And.right; first | assumption | (apply And.right; first | assumption | (apply And.right; first | assumption | (apply And.right; first | assumption | (apply And.right; first | assumption | (apply And.right; assumption)))))))))))))))) | fail)
  (k_with "m pk" => first | (first | assumption | (apply And.left; k_extra "m pkr") | (apply And.right; k_extra "m pkr")) | fail)
  (k_with "m omega" => first | (first | ((with_reducible apply neL); with_reducible (k_extra "m pkq")) | ((with_reducible apply neG); with_reducible (k_extra "m pkq")) | ((with_reducible apply neL); with_reducible (k_extra "m pk")) | ((with_reducible apply neG); with_reducible (k_extra "m pk")) | ((with_reducible apply neS); with_reducible (k_extra "m pk")) | ((with_reducible apply lin2); assumption; exact @rfl Bool true) | ((with_reducible apply lin1); assumption; exact @rfl Bool true) | ((with_reducible apply lin0); assumption; exact @rfl Bool true) | ((with_reducible apply lin3); assumption; exact @rfl Bool true) | ((with_reducible apply lin1e); assumption; exact @rfl Bool true) | ((with_reducible apply lin2e); assumption; exact @rfl Bool true) | ((with_reducible apply Nat.le_of_ble_eq_true); exact @rfl Bool true) | ((with_reducible apply om_w); assumption; exact @rfl Bool true) | ((with_reducible apply om_p3); assumption) | ((with_reducible apply om_p2); assumption) | ((with_reducible apply om_p3e); assumption) | (with_reducible apply om_p3r) | ((with_reducible apply om_p4); assumption; exact @rfl Bool true) | ((with_reducible apply om_s); assumption; exact @rfl Bool true) | ((with_reducible apply om_s1); assumption; exact @rfl Bool true) | ((with_reducible apply om_s2); assumption; exact @rfl Bool true) | ((with_reducible apply om_i); assumption; decide +kernel) | ((with_reducible apply om_i2); assumption; assumption; decide +kernel) | ((with_reducible apply om_n); decide +kernel) | (with_reducible apply Int.natCast_nonneg) | ((with_reducible apply om_k); assumption; decide +kernel) | with_reducible (k_extra "m pk")) | fail)
  (k_with "m k_ne" => first | ((with_reducible apply PySem.W.neN); (try dsimp only); omega) | fail)
  (k_with "spliced" => first | (k_here; (with_reducible show wpAny _ _ (spliced (backTo _ (starEach (PySem.Expr.Name _ _ :: _) _))) _ _ _); k_dflt (refine' args_nm (by exact rfl) (by k_asm) (by exact @rfl _ (some _)) (by kernel_rfl) (by exact rfl) (by kernel_rfl) ?_; k_whole)) | fail)
  (k_with "eval Subscript" => first | (k_here; (with_reducible show wpAny _ _ (eval (PySem.Expr.Subscript (PySem.Expr.Name _ _) _ _) _) _ _ _); k_dflt (refine' sub_nm (by exact rfl) (by k_asm) (by exact @rfl _ (some _)) (by kernel_rfl) (by exact rfl) (by kernel_rfl) ?_; k_whole)) | fail)
  (k_with "isTrue Compare" => first | (k_here; (with_reducible show wpAny _ _ (isTrue (PySem.Expr.Compare (PySem.Expr.Name _ _) [_] [_] _) _ _) _ _ _); k_dflt (refine' cmp_nm (by exact rfl) (by k_asm) (by exact @rfl _ (some _)) (by kernel_rfl) (by exact rfl) (by kernel_rfl) (by with_unfolding_all rfl) ?_; k_whole)) | fail)
  (k_with "m k_upd" => first | (first | ((with_reducible apply PySem.W.Upd.head); k_all) | ((with_reducible apply PySem.W.Upd.tail); k_ne; k_upd)) | fail)
  (k_with "m k_updF" => first | (first | ((with_reducible apply PySem.W.UpdF.head); k_all) | ((with_reducible apply PySem.W.UpdF.tail); k_ne; k_updF)) | fail)
  (k_with "spliced" => first | (k_here; (with_reducible show wpAny _ _ (spliced (backTo _ (starEach (PySem.Expr.Constant (PySem.Const.str _) _ _ :: _) _))) _ _ _); k_dflt (refine' args_str ?_; k_whole)) | fail)
  (k_with "eval Subscript" => first | (k_here; (with_reducible show wpAny _ _ (eval (PySem.Expr.Subscript (PySem.Expr.Name _ _) (PySem.Expr.Constant (PySem.Const.int _) _ _) _) _) _ _ _); k_dflt (refine' sub_it (by exact rfl) (by k_asm) (by exact @rfl _ (some _)) (by kernel_rfl) (by exact rfl) (by kernel_rfl) (by k_asm) (by k_mem) (by exact @rfl _ (some _)) ?_; k_whole)) | fail)
  (k_with "exec If" => first | (k_here; (with_reducible show wpAny _ _ (exec (PySem.Stmt.If (PySem.Expr.Compare (PySem.Expr.Name _ _) [_] [_] _) _ _ _) _) _ _ _); k_dflt (refine' if_nm (by exact rfl) (by k_asm) (by exact @rfl _ (some _)) (by kernel_rfl) (by exact rfl) (by kernel_rfl) (by with_unfolding_all rfl) ?_; k_whole)) | fail)
  (k_with "eval Constant str" => first | (k_here; (with_reducible show wpAny _ _ (eval (PySem.Expr.Constant (PySem.Const.str _) _ _) _) (fun b s₂ => wpAny _ _ (compareOp CmpOp.Eq (Value.str _ _) b) (fun c s₃ => wpAny _ _ (truthy c) _ _ s₃) _ s₂) _ _); (with_reducible refine' eq_cst ?_); k_whole) | fail)
  (k_with "exec Assign" => first | (k_here; (with_reducible show wpAny _ _ (exec (PySem.Stmt.Assign [PySem.Expr.Attribute (PySem.Expr.Name _ _) _ _] (PySem.Expr.Name _ _) _) _) _ _ _); k_dflt (refine' set_nm (by exact rfl) (by k_asm) (by exact @rfl _ (some _)) (by exact @rfl _ (some _)) (by kernel_rfl) (by exact rfl) (by exact rfl) (by kernel_rfl) (by kernel_rfl) (by k_asm) (by k_asm) (by k_inst) (by exact rfl) (by k_is) (by k_is) (by k_is) (by k_is) (by k_get) (by k_put) (by k_upd) (by exact Nat.le_of_ble_eq_true rfl) (by exact rfl) ?_; k_whole); intro zzh' zzF' zzN'; (try k_sweep)) | fail)
  (k_with "spliced" => first | (k_here; (with_reducible show wpAny _ _ (spliced (backTo _ (starEach [] _))) (fun vs s₂ => wpAny _ _ (newTuple _) _ _ s₂) _ _); with_reducible refine' nil_tup (by k_dflt k_asm) (by k_dflt k_asm) (by k_dflt (exact Nat.le_of_ble_eq_true rfl)) ?_; k_whole; intro zzD' zzh' zzF' zzN' zzl1; (try k_lt zzl1); (try k_sweep)) | fail)
  (k_with "spliced" => first | (k_here; (with_reducible show wpAny _ _ (spliced (backTo _ (starEach [] _))) (fun vs s₂ => wpAny _ _ (newList _) _ _ s₂) _ _); with_reducible refine' nil_lst (by k_dflt k_asm) (by k_dflt k_asm) (by k_dflt (exact Nat.le_of_ble_eq_true rfl)) ?_; k_whole; intro zzl' zzh' zzF' zzN' zzl1; (try k_lt zzl1); (try k_sweep)) | fail)
  exact trivial
section
variable {w : World} {loose : List Str} {mean : ExcName → Option Value} {mg mb : Str → Option Value} {fz news : Led}
theorem lastname_c {tr : Tr} {t : Tok} :
    Calls w loose mean mg mb 1 101 [.str tr.nm t] news (fun n' r => n' = news ∧ ∃ t, r = .str tr.nm t) := by
  refine hide fun hG9 => ?_
  cases tr
  all_goals
    refine hG9 ?_
    clear hG9
    dsimp only [Tr.nm]
    refine Calls.of ?_
    k_fill
    intro dp un gd cn cs a' ccd cl outer A₀ base h₀ L m' shh sgg sdd skk soo Q E B F X N T hk hd hu hret
    refine wpAny_call ?_
    k_dflt ktr_enter
    refine let_ae ?_
    intro nk ak Q0 hQ0
    (rename Fr _ _ _ _ => F1)
    replace F1 : Fr _ _ _ (fun y => List.lookup y [(("path" : Str), _)]) := F1
    k_steps
    exact hret _ _ _ _ (by k_asm) (newsSub (by k_asm) (by k_extra "m subs")) ⟨rfl, _, congrArg (fun x => Value.str x _) (by decide)⟩
end
section
variable {w : World} {loose : List Str} {mean : ExcName → Option Value} {mg mb : Str → Option Value} {fz news : Led}
theorem kw9_1 : True := by
  (k_with "m con" => first | (first | exact boundof_c (w := w) (by k_extra "m sub") (by assumption) (by assumption) (by assumption) | exact lastname_c (w := w) | exact candidates_c (w := w) (by k_extra "m sub") (by assumption) (by assumption) (by k_mem) (by assumption) (by assumption) (by assumption)) | fail)
  (k_with "m out" => first | (intro zzn9 zzr9 zzo9; (first | (obtain ⟨zze1, zzt9, zze2⟩ := zzo9; subst zze1; subst zze2) | (rcases zzo9 with ⟨⟨zze1, zze2⟩, zza9, zzp9, zze3, zze4, zzq9⟩ | ⟨zze1, zze3, zze4⟩ <;> (subst zze3; subst zze4)) | (obtain ⟨zzl9, zzvs9, zze9, zzn0, zze1, zze2, zzq1, zzq2, zzq3, zzq4, zzq5⟩ := zzo9; subst zze1; subst zze2))) | fail)
  exact trivial
noncomputable def askedB (imps : List Imp) (bs : List Tr) (tr : Tr) (b : Ty) : Bool := decide (b = .par ∧ tr ∈ bs) || imps.any (hitC tr b)
theorem asked_c {sv wv bv tv : Value} {a : Addr} {n : Nat} {imps : List Imp} {trs : List (Tr × Slf)} {bs : List Tr} {tr : Tr} {t : Tok} {b : Ty} {kt : Tok} (hs : ∀ p ∈ fz, p ∈ news) (hS : SelIn w fz sv wv bv) (hW : WorldIn w fz wv imps trs) (hB : BndIn w fz bv bs) (ha : (a, tupOf [] n) ∈ news) (hT : TyIn fz tv b) (hb : b.clear = true) (db : b.dep ≤ 40) :
    Calls w loose mean mg mb 6 158 [sv, .str tr.nm t, .ref a, tv, .int 0 kt] news (fun n' r => (askedB imps bs tr b = true ∧ n' = news ∧ ∃ t, r = .str "yes" t) ∨ (askedB imps bs tr b = false ∧ n' = news ∧ ∃ t, r = .str "no" t)) := by
  refine hide fun hG9 => ?_
  obtain @⟨a8, n8, t8, r8, m8⟩ := hT.head
  have kb : (b.kd == "var") = false := by cases b <;> first | exact absurd hb (by decide) | (simp only [Ty.kd]; decide)
  have kc : (tr.nm == "Copy") = false := by cases tr <;> decide
  have hS' := hS
  cases hS with
  | mk s1 s2 =>
  refine hG9 ?_
  clear hG9
  refine Calls.of ?_
  k_fill
  intro dp un gd cn cs a' ccd cl outer A₀ base h₀ L m' shh sgg sdd skk soo Q E B F X N T hk hd hu hret
  refine wpAny_call ?_
  k_dflt (refine' code_defC ?k1 ?k2 ?k3 ?k4 ?k5 ?kA ?kF ?kK ?k6 ?k7 ?k8 ?k9 ?kB ?kD ?_ ?c2 ?c3 ?c4; (case kA => exact rfl); (case kF => exact rfl); (case kK => assumption); (case k1 => k_asm); (case k2 => k_asm); (case k3 => k_asm); (case k4 => k_asm); (case k5 => k_asm); (case k6 => k_is); (case k7 => k_is); (case k8 => ktr_room); (case k9 => exact BindsTo.of_eq rfl); (case kB => exact rfl); (case kD => decide +kernel); (case c2 => exact rfl); (case c3 => exact rfl); (case c4 => exact rfl); k_whole; intro g' L' h' tk' cells' FG' F' N' Y' B' X' T' l1; (try k_lt l1); k_cells Y'; (try simp only [List.cons_append, List.nil_append] at N'); (try dsimp only); (try k_fold))
  refine let_ae ?_
  intro nk ak Q0 hQ0
  (rename Fr _ _ _ _ => F1)
  replace F1 : Fr _ _ _ (fun y => if y = ("T" : Str) then some _ else if y = ("args" : Str) then some _ else none) := F1
  k_steps
  · exact hret _ _ _ _ (by k_asm) (newsSub (by k_asm) (by k_extra "m subs")) (.inl ⟨by unfold askedB; rw [Bool.or_eq_true]; exact .inl (decide_eq_true ⟨by assumption, by assumption⟩), rfl, _, rfl⟩)
  · refine cr_ind (fun r ys nw => (∃ n9, CRows n9 r ∧ ∀ p ∈ n9, p ∈ nw) ∧ (∀ y ∈ ys, ∃ t, y = .str "yes" t) ∧ (ys = [] → r ≠ [])) ?_ ?_ _ _ _ (fun _ h => h) ⟨⟨_, by assumption, by k_extra "m subs"⟩, (fun _ h => nomatch h), fun _ e => by simp_all⟩
    · intro v r ys nw hS9 z95
      refine hide fun hG9 => ?_
      obtain ⟨⟨n9, hc, hn9⟩, hy, hne⟩ := z95
      obtain ⟨ta, tn, x, y, tt, rfl, hm⟩ := hc v (.head _)
      refine hG9 ?_
      clear hG9
      refine ⟨ta, _, _, rfl, hn9 _ hm, rfl, ?_⟩
      intro I oI C oC D m₂ h tk E' hC hB F9 N9 off hne9
      refine wpAny_tests_nil ?_
      rw [if_pos rfl]
      refine LCgL.ld_own N9 (.tail _ (.head _)) hC hB.1 ?_ rfl rfl (by decide)
      exact LCg.CompEnd.intro F9 N9 nw (fun _ h => h) off hS9 ⟨⟨n9, fun v hv => hc v (.tail _ hv), hn9⟩, fun y hy' => by rcases List.mem_append.mp hy' with h | h; exact hy y h; exact ⟨_, List.mem_singleton.mp h⟩, fun e => by simp at e⟩
    · intro ys nw hS9 z93
      refine hide fun hG9 => ?_
      obtain ⟨_, hy, hne⟩ := z93
      refine hG9 ?_
      clear hG9
      intro D h tk F9 N9 off
      refine in_yes N9 (.head _) hy (fun e => hne e rfl) ?_
      (try refine hideB fun G8 hG8 => ?_)
      k_steps
      exact hret _ _ _ _ (by k_asm) (newsSub (by k_asm) (sub_trans (sub_tl hS9) (by k_extra "m subs"))) (.inl ⟨by unfold askedB; rw [Bool.or_eq_true]; exact .inr (by assumption), rfl, _, rfl⟩)
  · exact hret _ _ _ _ (by k_asm) (newsSub (by k_asm) (by k_extra "m subs")) (.inr ⟨by unfold askedB; rw [Bool.or_eq_false_iff]; exact ⟨decide_eq_false (by assumption), by assumption⟩, rfl, _, rfl⟩)
end
theorem kw10_0 : True := by
  k_with_none
  (k_with "m k_mem" => first | (first | ktr_member | (with_reducible apply mem_hd) | ((with_reducible apply mem_tl); k_mem) | exact mem_via (by assumption) (by assumption)) | fail)
  (k_with "ite" => first | (first | refine ite_t (by with_reducible assumption) ?_ | refine ite_f (by with_reducible assumption) ?_) | fail)
  (k_with "m lt" => first | (first | assumption | (apply PySem.W.allLt_of; assumption) | (apply allLt_tl; assumption) | (apply allLt_tl2; assumption) | with_reducible (k_extra "m pk") | (simp only [AllLt, and_true] at *; first | assumption | omega)) | fail)
  (k_with "m k_all" => first | (first | assumption | (apply ne_of_allNe; k_extra "m ne") | (apply ne_of_allLt; k_extra "m lt")) | fail)
  (k_with "m call" => first | (k_here; k_dflt (refine' Calls.use' (by k_asm) (by k_asm) (by k_asm) (by k_asm) (by k_asm) (by first | exact rfl | assumption) (by k_extra "m con") (by first | omega | (dsimp only [ktrTop]; omega)) (by k_extra "m un") ?_; k_whole); ((intro zzG9 zzhG9; k_dflt (k_extra "m out")) <;> (refine zzhG9 _ _ ?_; intro zzh9 zztk9 zzF9 zzN9; (try k_sweep)))) | fail)
  (k_with "m out" => first | (intro zzn9 zzr9 zzo9; (first | (obtain ⟨zze1, zze2⟩ := zzo9; subst zze1; subst zze2) | (obtain ⟨zze1, zzt9, zze2⟩ := zzo9; subst zze1; subst zze2) | (obtain ⟨zzl9, zze9, zze2, zze1, zzq9⟩ := zzo9; subst zze1; subst zze2; (simp only [AllLt, and_true] at zzq9)) | (obtain ⟨zzl9, zze9, zzp9, zzm9, zzx9, zzy9, zze2, zze1, zzq1, zzq2, zzq3, zzq4⟩ := zzo9; subst zze1; subst zze2; (simp only [AllLt, and_true] at zzq3); obtain ⟨zza8, zzn8, zzt8, zzr8, zze8, zzm8⟩ := Mine.TyIn.head zzq1; subst zze8; obtain ⟨zza7, zzn7, zzt7, zzr7, zze7, zzm7⟩ := Mine.TyIn.head zzq2; subst zze7) | (rcases zzo9 with ⟨zze3, zze1, zzt9, zze2⟩ | ⟨zze3, zze1, zzt9, zze2⟩ <;> (subst zze1; subst zze2)))) | fail)
  (k_with "call ref" => first | (k_extra "m call") | fail)
  (k_with "m un" => first | ((try dsimp +zetaDelta only); (have zzhcl9 := cLine_is); (try simp only [units_in1, units_deeper, Around.mark_units, units_caller]); (try dsimp only [ktrTop]); omega) | fail)
  (k_with "m dp" => first | (first | assumption | (simp only [Ty.dep]; omega) | decide) | fail)
  (k_with "m k_room" => first | ((try dsimp +zetaDelta only); (try simp only [depth_under_make, depth_under_kw, depth_in1, depth_deeper, depth_caller]); (try dsimp only [ktrTop]); have zzhrl9 : recursionLimit = 1000 := rfl; omega) | fail)
  (k_with "eval Name" => first | (k_here; (fail_if_success with_reducible show wpAny _ _ (eval _ (compEnvC _ _ _ _)) _ _ _); k_dflt (refine' nameX_L (by k_asm) (by exact @rfl _ (some _)) ?_ (by kernel_rfl) (rfl) (by kernel_rfl); k_whole)) | fail)
  (k_with "ite" => first | (k_closed; first | refine ite_t (by decide +kernel) ?_ | refine ite_f (by decide +kernel) ?_) | fail)
  (k_with "exec For Tuple Call cons nil" => first | (k_extra "m for") | fail)
  (k_with "exec For Name Attribute cons nil" => first | (k_extra "m for") | fail)
  (k_with "m for" => first | (k_here; (rename Fr _ _ _ _ => zzlF'); (with_unfolding_all refine' For_turns zzlF' ?_; k_whole)) | fail)
  (k_with "m pick" => first | (with_reducible (k_extra "m pk")) | fail)
  (k_with "m ne" => first | (first | with_reducible (first | assumption | (apply allNe_of; assumption) | (apply allNe_off; assumption) | (apply allNe_lt; apply PySem.W.allLt_of; assumption)) | ((with_reducible apply allNe_cons); k_ne; k_extra "m ne") | with_reducible (k_extra "m pkq") | (apply allNe_lt; with_reducible (k_extra "m pkq")) | with_reducible (k_extra "m pk") | (apply allNe_lt; with_reducible (k_extra "m pk")) | (apply allNe_off; with_reducible (k_extra "m pk")) | (apply allNe_lt; apply allLt_tl; assumption) | (with_reducible apply allNe_nil)) | fail)
  (k_with "m subh" => first | (with_reducible (apply sub_hd; first | assumption | (apply sub_hd; first | assumption | (apply sub_hd; first | assumption | (apply sub_hd; first | assumption | (apply sub_hd; first | assumption | (apply sub_hd; first | assumption | (apply sub_hd; first | assumption | (apply sub_hd; first | assumption | (apply sub_hd; assumption)))))))))) | fail)
  (k_with "m subs" => first | (first | (with_reducible apply sub_refl) | assumption | ((with_reducible apply subs_cons); k_mem; k_extra "m subs") | ((with_reducible apply sub_tl); k_extra "m subs") | (with_reducible apply List.forall_mem_nil) | k_extra "m subh") | fail)
  (k_with "getMethod ref" => first | (k_here; (with_reducible show wpAny _ _ (getMethod (Value.ref _) (Str.ofString "get") _) _ _ _); k_dflt (refine' kdg_method (knd := PySem.strKind _ _) (by k_asm) (by k_mem) (by k_asm) ?_; k_whole)) | fail)
  (k_with "compareOp In str ref" => first | (k_here; (with_reducible show wpAny _ _ (compareOp CmpOp.In (Value.str _ _) (Value.ref _)) _ _ _); k_dflt (first | (refine' kda_in (knd := PySem.strKind _ _) (by k_asm) (by k_mem) (by k_asm) (by k_asm) (strKind_is _ _ _ _) true (by first | assumption | exact rfl) ?_; k_whole) | (refine' kda_in (knd := PySem.strKind _ _) (by k_asm) (by k_mem) (by k_asm) (by k_asm) (strKind_is _ _ _ _) false (by first | assumption | exact rfl) ?_; k_whole))) | fail)
  (k_with "compareOp In str ref" => first | (k_here; (with_reducible show wpAny _ _ (compareOp CmpOp.In (Value.str _ _) (Value.ref _)) _ _ _); (with_unfolding_all refine' in_tuple_strs (by exact tup_of (by k_asm) (by k_mem)) (by kde_strs) ?_; k_whole)) | fail)
  (k_with "pyIter ref" => first | (k_here; (with_reducible show wpAny _ _ (pyIter (Value.ref _)) (fun it s₂ => TurnsAt _ _ _ _ _ _ _ _ _ it s₂) _ _); k_dflt (refine' iter_listTurns (by exact rfl) (by k_asm) (by k_asm) (by k_mem) (by exact rfl) (by exact rfl) ?_; k_whole); intro zzi' zzl1; (try k_lt zzl1)) | fail)
  (k_with "m agr" => first | (first | assumption | exact agree_over | exact agree_refl | (refine agree_store ?_ (by decide); k_extra "m agr")) | fail)
  (k_with "m sub" => first | (first | assumption | ((with_reducible apply sub_tl); k_extra "m sub") | k_extra "m subh") | fail)
  (k_with "subscriptTail Attribute" => first | (k_here; (with_reducible show wpAny _ _ (subscriptTail _ _ (Value.ref _) (Value.str _ _)) _ _ _); k_dflt (refine kba_turn (value' := PySem.Expr.Name (PySem.Str.ofString "_") ⟨0, 0, 0, 0⟩) (fun _ => rfl) ?_; refine' kda_item (knd := PySem.strKind _ _) (by k_asm) (by k_mem) (by k_asm) (strKind_is _ _ _ _) (by first | assumption | exact rfl) ?_ (by with_unfolding_all rfl) (by intro zzr; with_unfolding_all rfl); k_whole)) | fail)
  (k_with "execs cons" => first | (k_here; (try dsimp only); (refine' exec_cons_h ?_); intro zztk' zzG' zzhG'; (try (rename PyProof.Rows.News _ _ _ _ => zznN'; dsimp only at zznN'))) | fail)
  (k_with "execs nil" => first | (k_here; (refine' exec_nil_g ?_); intro zztk'; (try (refine qout (by with_reducible assumption) ?_))) | fail)
  (k_with "m leave" => first | (k_end; first | ((try dsimp only); (refine' gnext_cons (by with_reducible assumption) ?_); intro zztk' zzG' zzhG'; (try (rename PyProof.Rows.News _ _ _ _ => zznN'; dsimp only at zznN'))) | (refine gnext (by with_reducible assumption) ?_) | (refine gout (by with_reducible assumption) ?_ ?_; (exact True.intro); (try (refine qout (by with_reducible assumption) ?_)))) | fail)
  (k_with "m k_steps" => first | (repeat' (first | k_extra "m leave" | (k_unfold; (try dsimp only)) | (k_end; wrow_close) | walk1 | (dsimp only; walk1) | (leave1; walk_say "STEP leave1"; try dsimp only) | fail "no step")) | fail)
  (k_with "m pkq" => first | (first | assumption | (apply And.left; first | assumption | (apply And.right; first | assumption | (apply And.right; first | assumption | (apply And.right; first | assumption | (apply And.right; first | assumption | (apply And.right; assumption))))))) | fail)
  (k_with "m pkr" => first | (first | assumption | (apply And.right; first | assumption | (apply And.right; first | assumption | (apply And.right; first | assumption | (apply And.right; first | assumption | (apply And.right; first | assumption | (apply And.right; first | assumption | (apply And.right; first | assumption | (apply And.right; first | assumption | (apply And.right; first | assumption | (apply And.right; first | assumption | (apply And.right; first | assumption | (apply And.right; first | assumption | (apply And.right; first | assumption | (apply And.right; first | assumption | (apply And.right; assumption)))))))))))))))) | fail)
  (k_with "m pk" => first | (first | assumption | (apply And.left; k_extra "m pkr") | (apply And.right; k_extra "m pkr")) | fail)
  (k_with "m omega" => first | (first | ((with_reducible apply neL); with_reducible (k_extra "m pkq")) | ((with_reducible apply neG); with_reducible (k_extra "m pkq")) | ((with_reducible apply neL); with_reducible (k_extra "m pk")) | ((with_reducible apply neG); with_reducible (k_extra "m pk")) | ((with_reducible apply neS); with_reducible (k_extra "m pk")) | ((with_reducible apply lin2); assumption; exact @rfl Bool true) | ((with_reducible apply lin1); assumption; exact @rfl Bool true) | ((with_reducible apply lin0); assumption; exact @rfl Bool true) | ((with_reducible apply lin3); assumption; exact @rfl Bool true) | ((with_reducible apply lin1e); assumption; exact @rfl Bool true) | ((with_reducible apply lin2e); assumption; exact @rfl Bool true) | ((with_reducible apply Nat.le_of_ble_eq_true); exact @rfl Bool true) | ((with_reducible apply om_w); assumption; exact @rfl Bool true) | ((with_reducible apply om_p3); assumption) | ((with_reducible apply om_p2); assumption) | ((with_reducible apply om_p3e); assumption) | (with_reducible apply om_p3r) | ((with_reducible apply om_p4); assumption; exact @rfl Bool true) | ((with_reducible apply om_s); assumption; exact @rfl Bool true) | ((with_reducible apply om_s1); assumption; exact @rfl Bool true) | ((with_reducible apply om_s2); assumption; exact @rfl Bool true) | ((with_reducible apply om_i); assumption; decide +kernel) | ((with_reducible apply om_i2); assumption; assumption; decide +kernel) | ((with_reducible apply om_n); decide +kernel) | (with_reducible apply Int.natCast_nonneg) | ((with_reducible apply om_k); assumption; decide +kernel) | with_reducible (k_extra "m pk")) | fail)
  (k_with "m k_ne" => first | ((with_reducible apply PySem.W.neN); (try dsimp only); omega) | fail)
  (k_with "spliced" => first | (k_here; (with_reducible show wpAny _ _ (spliced (backTo _ (starEach (PySem.Expr.Name _ _ :: _) _))) _ _ _); k_dflt (refine' args_nm (by exact rfl) (by k_asm) (by exact @rfl _ (some _)) (by kernel_rfl) (by exact rfl) (by kernel_rfl) ?_; k_whole)) | fail)
  (k_with "eval Subscript" => first | (k_here; (with_reducible show wpAny _ _ (eval (PySem.Expr.Subscript (PySem.Expr.Name _ _) _ _) _) _ _ _); k_dflt (refine' sub_nm (by exact rfl) (by k_asm) (by exact @rfl _ (some _)) (by kernel_rfl) (by exact rfl) (by kernel_rfl) ?_; k_whole)) | fail)
  (k_with "isTrue Compare" => first | (k_here; (with_reducible show wpAny _ _ (isTrue (PySem.Expr.Compare (PySem.Expr.Name _ _) [_] [_] _) _ _) _ _ _); k_dflt (refine' cmp_nm (by exact rfl) (by k_asm) (by exact @rfl _ (some _)) (by kernel_rfl) (by exact rfl) (by kernel_rfl) (by with_unfolding_all rfl) ?_; k_whole)) | fail)
  (k_with "eval Attribute Name" => first | (k_here; (with_reducible show wpAny _ _ (eval (PySem.Expr.Attribute (PySem.Expr.Name _ _) _ _) _) _ _ _); k_dflt (refine' att_nm (by exact rfl) (by k_asm) (by exact @rfl _ (some _)) (by kernel_rfl) (by exact rfl) (by kernel_rfl) ?_; k_whole)) | fail)
  (k_with "m k_upd" => first | (first | ((with_reducible apply PySem.W.Upd.head); k_all) | ((with_reducible apply PySem.W.Upd.tail); k_ne; k_upd)) | fail)
  (k_with "m k_updF" => first | (first | ((with_reducible apply PySem.W.UpdF.head); k_all) | ((with_reducible apply PySem.W.UpdF.tail); k_ne; k_updF)) | fail)
  (k_with "spliced" => first | (k_here; (with_reducible show wpAny _ _ (spliced (backTo _ (starEach (PySem.Expr.Constant (PySem.Const.str _) _ _ :: _) _))) _ _ _); k_dflt (refine' args_str ?_; k_whole)) | fail)
  (k_with "eval Subscript" => first | (k_here; (with_reducible show wpAny _ _ (eval (PySem.Expr.Subscript (PySem.Expr.Name _ _) (PySem.Expr.Constant (PySem.Const.int _) _ _) _) _) _ _ _); k_dflt (refine' sub_it (by exact rfl) (by k_asm) (by exact @rfl _ (some _)) (by kernel_rfl) (by exact rfl) (by kernel_rfl) (by k_asm) (by k_mem) (by exact @rfl _ (some _)) ?_; k_whole)) | fail)
  (k_with "exec If" => first | (k_here; (with_reducible show wpAny _ _ (exec (PySem.Stmt.If (PySem.Expr.Compare (PySem.Expr.Name _ _) [_] [_] _) _ _ _) _) _ _ _); k_dflt (refine' if_nm (by exact rfl) (by k_asm) (by exact @rfl _ (some _)) (by kernel_rfl) (by exact rfl) (by kernel_rfl) (by with_unfolding_all rfl) ?_; k_whole)) | fail)
  (k_with "eval Constant str" => first | (k_here; (with_reducible show wpAny _ _ (eval (PySem.Expr.Constant (PySem.Const.str _) _ _) _) (fun b s₂ => wpAny _ _ (compareOp CmpOp.Eq (Value.str _ _) b) (fun c s₃ => wpAny _ _ (truthy c) _ _ s₃) _ s₂) _ _); (with_reducible refine' eq_cst ?_); k_whole) | fail)
  (k_with "exec Assign" => first | (k_here; (with_reducible show wpAny _ _ (exec (PySem.Stmt.Assign [PySem.Expr.Attribute (PySem.Expr.Name _ _) _ _] (PySem.Expr.Name _ _) _) _) _ _ _); k_dflt (refine' set_nm (by exact rfl) (by k_asm) (by exact @rfl _ (some _)) (by exact @rfl _ (some _)) (by kernel_rfl) (by exact rfl) (by exact rfl) (by kernel_rfl) (by kernel_rfl) (by k_asm) (by k_asm) (by k_inst) (by exact rfl) (by k_is) (by k_is) (by k_is) (by k_is) (by k_get) (by k_put) (by k_upd) (by exact Nat.le_of_ble_eq_true rfl) (by exact rfl) ?_; k_whole); intro zzh' zzF' zzN'; (try k_sweep)) | fail)
  (k_with "spliced" => first | (k_here; (with_reducible show wpAny _ _ (spliced (backTo _ (starEach [] _))) (fun vs s₂ => wpAny _ _ (newTuple _) _ _ s₂) _ _); with_reducible refine' nil_tup (by k_dflt k_asm) (by k_dflt k_asm) (by k_dflt (exact Nat.le_of_ble_eq_true rfl)) ?_; k_whole; intro zzD' zzh' zzF' zzN' zzl1; (try k_lt zzl1); (try k_sweep)) | fail)
  (k_with "spliced" => first | (k_here; (with_reducible show wpAny _ _ (spliced (backTo _ (starEach [] _))) (fun vs s₂ => wpAny _ _ (newList _) _ _ s₂) _ _); with_reducible refine' nil_lst (by k_dflt k_asm) (by k_dflt k_asm) (by k_dflt (exact Nat.le_of_ble_eq_true rfl)) ?_; k_whole; intro zzl' zzh' zzF' zzN' zzl1; (try k_lt zzl1); (try k_sweep)) | fail)
  exact trivial
section
variable {w : World} {loose : List Str} {mean : ExcName → Option Value} {mg mb : Str → Option Value} {fz news : Led}
theorem selfof_or {v kv : Value} {t : Ty} {k : Slf} (hs : ∀ p ∈ fz, p ∈ news) (hv : TyIn fz v t) (hk : KdIs kv k) :
    Calls w loose mean mg mb 1 179 [v, kv] news (fun n' r => (selfOf t k = none ∧ n' = news ∧ r = .none) ∨ (∃ u a, selfOf t k = some u ∧ n' = news ∧ r = .ref a ∧ TyIn fz (.ref a) u)) := by
  refine (selfof_c (w := w) (loose := loose) (mean := mean) (mg := mg) (mb := mb) hs hv hk).imp fun n r h => ?_
  obtain ⟨rfl, h⟩ := h
  cases hq : selfOf t k with
  | none => rw [hq] at h; exact .inl ⟨rfl, rfl, h⟩
  | some u =>
    rw [hq] at h
    have h' : TyIn fz r u := h
    obtain @⟨a, _, _, _, _⟩ := h'.head
    exact .inr ⟨u, a, rfl, rfl, rfl, h'⟩
end
section
variable {w : World} {loose : List Str} {mean : ExcName → Option Value} {mg mb : Str → Option Value} {fz news : Led}
theorem kw10_1 : True := by
  (k_with "m con" => first | (first | exact needsof_c (w := w) (by k_extra "m sub") (by assumption)) | fail)
  (k_with "m out" => first | (intro zzn9 zzr9 zzo9; (first | (obtain ⟨zzl9, zze9, zze2, zze1, zzq9⟩ := zzo9; subst zze1; subst zze2; (try simp only [AllNe, and_true] at zzq9)))) | fail)
  exact trivial
theorem needsmet_c {es : List (Str × Value)} {pv wv sv bv v fv : Value} {nm : Str} {i : Imp} (hs : ∀ p ∈ fz, p ∈ news) (hP : ProbeIn w fz pv wv nm sv) (hS : SelIn w fz sv wv bv) (hv : ImpIn w fz es v i) :
    Calls w loose mean mg mb 2 207 [pv, v, fv] news (fun n' r => n' = news ∧ r = .bool true) := by
  refine hide fun hG9 => ?_
  cases hP with
  | mk p1 p2 =>
  cases hS with
  | mk s1 s2 =>
  refine hG9 ?_
  clear hG9
  refine Calls.of ?_
  k_fill
  intro dp un gd cn cs a' ccd cl outer A₀ base h₀ L m' shh sgg sdd skk soo Q E B F X N T hk hd hu hret
  refine wpAny_call ?_
  k_dflt ktr_enter
  refine let_ae ?_
  intro nk ak Q0 hQ0
  (rename Fr _ _ _ _ => F1)
  replace F1 : Fr _ _ _ (fun y => List.lookup y [(("found" : Str), _), (("impl" : Str), _), (("self" : Str), _)]) := F1
  k_steps
  exact hret _ _ _ _ (by k_asm) (newsSub (by k_asm) (by k_extra "m subs")) ⟨rfl, rfl⟩
end
section
variable {w : World} {loose : List Str} {mean : ExcName → Option Value} {mg mb : Str → Option Value} {fz news : Led}
theorem kw10_2 : True := by
  (k_with "m k_handed" => first | (assumption) | fail)
  (k_with "m con" => first | (first | exact needsmet_c (w := w) (by k_extra "m sub") (by assumption) (by assumption) (by assumption) | exact selfof_or (w := w) (by k_extra "m sub") (by assumption) (by assumption) | exact matchesimpl_c (w := w) (by k_extra "m sub") (by assumption) (by k_mem) (by assumption) (selfOf_clear (by assumption) (by assumption)) (selfOf_dep (by assumption) (by assumption))) | fail)
  (k_with "m out" => first | (intro zzn9 zzr9 zzo9; (first | (obtain ⟨zze1, zze2⟩ := zzo9; subst zze1; subst zze2) | (rcases zzo9 with ⟨zze1, zze2, zze3⟩ | ⟨zzu9, zza9, zze1, zze2, zze3, zzq9⟩ <;> (subst zze2; subst zze3)) | (rcases zzo9 with ⟨zze3, zzl9, zzd9, zzo9, zzm9, zzt9, zze2, zze1, zzq1, zzq2, zzq3, zzq4, zzq5⟩ | ⟨zze3, zzl9, zzd9, zzo9, zzm9, zzt9, zze2, zze1, zzq1, zzq2, zzq3, zzq4, zzq5⟩ <;> (subst zze1; subst zze2; (simp only [AllNe, and_true] at zzq3 zzq4))))) | fail)
  exact trivial
theorem inherent_c {pv wv sv bv rv : Value} {nm : Str} {imps : List Imp} {trs : List (Tr × Slf)} {b : Ty} (hs : ∀ p ∈ fz, p ∈ news) (hP : ProbeIn w fz pv wv nm sv) (hS : SelIn w fz sv wv bv) (hW : WorldIn w fz wv imps trs) (hn : nm = "go" ∨ nm = "come") (hT : TyIn fz rv b) (hb : b.clear = true) (db : b.dep ≤ 40) :
    Calls w loose mean mg mb 5 200 [pv, rv] news (fun n' r => ∃ l vs ep n0, r = .ref l ∧ n' = (l, listOf vs.toArray ep) :: n0 ∧ (∀ p ∈ news, p ∈ n0) ∧ AllNe l n0 ∧ IRows w n0 vs ((imps.filter (hitI nm b)).map (·.num))) := by
  refine hide fun hG9 => ?_
  have hP' := hP
  cases hP with
  | mk p1 p2 =>
  cases hW with
  | @mk x dx sg so tr0 to im vs n t1 t2 t3 t4 t5 t6 t7 t8 v1 v2 v3 v7 v8 es tes imps trs w1 w2 w3 w4 w5 w6 w7 w8 w9 w10 w11 w12 =>
  refine hG9 ?_
  clear hG9
  refine Calls.of ?_
  k_fill
  intro dp un gd cn cs a' ccd cl outer A₀ base h₀ L m' shh sgg sdd skk soo Q E B F X N T hk hd hu hret
  refine wpAny_call ?_
  k_dflt ktr_enter
  refine let_ae ?_
  intro nk ak Q0 hQ0
  (rename Fr _ _ _ _ => F1)
  replace F1 : Fr _ _ _ (fun y => List.lookup y [(("receiver" : Str), _), (("self" : Str), _)]) := F1
  k_steps
  refine app_ind ["impl", "path", "T", "answer", "found"] (fun r vs' n1 => ∃ is ns, ImpsIn w fz es r is ∧ IRows w n1 vs' ns ∧ vs'.length + r.length ≤ 8 ∧ ns ++ (is.filter (hitI nm b)).map (·.num) = (imps.filter (hitI nm b)).map (·.num)) vs (by k_extra "m ne") (by k_extra "m ne") ⟨imps, [], w11, .nil, by simpa using w12, rfl⟩ ?_ ?_
  · intro v r vs' ep n1 u v' h tk o z910 hn1 hI hr hne hv F9 ho N9
    refine hide fun hG9 => ?_
    obtain ⟨is, ns, hi, hc, hl, he⟩ := z910
    obtain rfl : v' = v := hv
    have hs1 : ∀ p ∈ fz, p ∈ n1 := fun p hp => hn1 p (hs p hp)
    cases hi with
    | @cons v i vs is hv hi =>
    have hv' := hv
    cases hv with
    | mk h1 h2 h3 h4 h5 h6 h7 h8 =>
    rcases h5.split with ⟨e1, rfl⟩ | ⟨p, tp, e1, rfl⟩
    · obtain ⟨g1, g2, g3, g4, g5⟩ := h8 e1
      cases g5 with
      | mk j1 j2 j3 =>
      have jh := j3.handed
      rcases hn with rfl | rfl
      · refine hG9 ?_
        clear hG9
        (try refine hideB fun G8 hG8 => ?_)
        k_steps
        · refine unrEnd1 (by k_asm) (by k_asm) (by k_extra "m subs") (by k_extra "m ne") ⟨⟨by k_mem, trivial⟩, RInv.intro (by k_extra "m agr") hn1 (by assumption) (by assumption) ⟨is, ns, hi, hc, by simp only [List.length_cons] at hl; omega, by rw [← he, hitI_no (i := i) (by unfold hitI; rw [Bool.and_eq_false_iff]; exact .inr (decide_eq_false fun q => by simp_all))]⟩⟩
        · refine unrEndA (by k_asm) (by k_asm) (by k_mem) (by k_mem) (by assumption) (by k_mem) (by k_extra "m subs") (by k_extra "m agr") hn1 (by k_ne) (by k_ne) (by assumption) (by k_ne) (by k_ne) (by assumption) (by assumption) (fun n hh => ⟨hh _ (hs1 _ w10), trivial⟩) ⟨is, ns ++ [i.num], hi, hc.snoc (by assumption) (by assumption), by simp only [List.length_cons, List.length_append, List.length_nil] at hl ⊢; omega, by rw [← he, hitI_yes (i := i) (by unfold hitI; rw [Bool.and_eq_true]; exact ⟨by decide, decide_eq_true (by simp_all)⟩), List.map_cons, List.append_assoc]; rfl⟩
        · refine unrEnd1 (by k_asm) (by k_asm) (by k_extra "m subs") (by k_extra "m ne") ⟨⟨by k_mem, trivial⟩, RInv.intro (by k_extra "m agr") hn1 (by assumption) (by assumption) ⟨is, ns, hi, hc, by simp only [List.length_cons] at hl; omega, by rw [← he, hitI_no (i := i) (by unfold hitI; rw [Bool.and_eq_false_iff]; exact .inr (decide_eq_false fun q => by simp_all))]⟩⟩
      · refine hG9 ?_
        clear hG9
        (try refine hideB fun G8 hG8 => ?_)
        k_steps
        refine unrEnd1 (by k_asm) (by k_asm) (by k_extra "m subs") (by k_extra "m ne") ⟨⟨by k_mem, trivial⟩, RInv.intro (by k_extra "m agr") hn1 (by assumption) (by assumption) ⟨is, ns, hi, hc, by simp only [List.length_cons] at hl; omega, by rw [← he, hitI_no (i := i) (by unfold hitI; rw [Bool.and_eq_false_iff]; exact .inl (by decide))]⟩⟩
    · clear h8
      refine hG9 ?_
      clear hG9
      (try refine hideB fun G8 hG8 => ?_)
      k_steps
      refine unrEnd1 (by k_asm) (by k_asm) (by k_extra "m subs") (by k_extra "m ne") ⟨⟨by k_mem, trivial⟩, RInv.intro (by k_extra "m agr") hn1 (by assumption) (by assumption) ⟨is, ns, hi, hc, by simp only [List.length_cons] at hl; omega, by rw [← he, hitI_no (i := i) (by unfold hitI; rw [Bool.and_eq_false_iff]; exact .inr (decide_eq_false fun q => by simp_all))]⟩⟩
  · intro vs' ep n1 u h tk z96 hn hI hr F9 N9
    refine hide fun hG9 => ?_
    obtain ⟨is, ns, hi, hc, hl, he⟩ := z96
    cases hi
    refine hG9 ?_
    clear hG9
    (try refine hideB fun G8 hG8 => ?_)
    k_steps
    exact hret _ _ _ _ (by k_asm) (by k_asm) ⟨_, _, _, _, rfl, rfl, hn, hr, by rw [← he]; simpa using hc⟩
end
theorem kw11_0 : True := by
  k_with_none
  (k_with "m k_mem" => first | (first | ktr_member | (with_reducible apply mem_hd) | ((with_reducible apply mem_tl); k_mem) | exact mem_via (by assumption) (by assumption)) | fail)
  (k_with "ite" => first | (first | refine ite_t (by with_reducible assumption) ?_ | refine ite_f (by with_reducible assumption) ?_) | fail)
  (k_with "m lt" => first | (first | assumption | (apply PySem.W.allLt_of; assumption) | (apply allLt_tl; assumption) | (apply allLt_tl2; assumption) | with_reducible (k_extra "m pk") | (simp only [AllLt, and_true] at *; first | assumption | omega)) | fail)
  (k_with "m k_all" => first | (first | assumption | (apply ne_of_allNe; k_extra "m ne") | (apply ne_of_allLt; k_extra "m lt")) | fail)
  (k_with "m call" => first | (k_here; k_dflt (refine' Calls.use' (by k_asm) (by k_asm) (by k_asm) (by k_asm) (by k_asm) (by first | exact rfl | assumption) (by k_extra "m con") (by first | omega | (dsimp only [ktrTop]; omega)) (by k_extra "m un") ?_; k_whole); ((intro zzG9 zzhG9; k_dflt (k_extra "m out")) <;> (refine zzhG9 _ _ ?_; intro zzh9 zztk9 zzF9 zzN9; (try k_sweep)))) | fail)
  (k_with "m out" => first | (intro zzn9 zzr9 zzo9; (first | (obtain ⟨zze1, zze2⟩ := zzo9; subst zze1; subst zze2) | (obtain ⟨zze1, zzt9, zze2⟩ := zzo9; subst zze1; subst zze2) | (obtain ⟨zzl9, zze9, zze2, zze1, zzq9⟩ := zzo9; subst zze1; subst zze2; (simp only [AllLt, and_true] at zzq9)) | (obtain ⟨zzl9, zze9, zzp9, zzm9, zzx9, zzy9, zze2, zze1, zzq1, zzq2, zzq3, zzq4⟩ := zzo9; subst zze1; subst zze2; (simp only [AllLt, and_true] at zzq3); obtain ⟨zza8, zzn8, zzt8, zzr8, zze8, zzm8⟩ := Mine.TyIn.head zzq1; subst zze8; obtain ⟨zza7, zzn7, zzt7, zzr7, zze7, zzm7⟩ := Mine.TyIn.head zzq2; subst zze7) | (rcases zzo9 with ⟨zze3, zze1, zzt9, zze2⟩ | ⟨zze3, zze1, zzt9, zze2⟩ <;> (subst zze1; subst zze2)))) | fail)
  (k_with "call ref" => first | (k_extra "m call") | fail)
  (k_with "m un" => first | ((try dsimp +zetaDelta only); (have zzhcl9 := cLine_is); (try simp only [units_in1, units_deeper, Around.mark_units, units_caller]); (try dsimp only [ktrTop]); omega) | fail)
  (k_with "m dp" => first | (first | assumption | (simp only [Ty.dep]; omega) | decide) | fail)
  (k_with "m k_room" => first | ((try dsimp +zetaDelta only); (try simp only [depth_under_make, depth_under_kw, depth_in1, depth_deeper, depth_caller]); (try dsimp only [ktrTop]); have zzhrl9 : recursionLimit = 1000 := rfl; omega) | fail)
  (k_with "eval Name" => first | (k_here; (fail_if_success with_reducible show wpAny _ _ (eval _ (compEnvC _ _ _ _)) _ _ _); k_dflt (refine' nameX_L (by k_asm) (by exact @rfl _ (some _)) ?_ (by kernel_rfl) (rfl) (by kernel_rfl); k_whole)) | fail)
  (k_with "ite" => first | (k_closed; first | refine ite_t (by decide +kernel) ?_ | refine ite_f (by decide +kernel) ?_) | fail)
  (k_with "exec For Name Call cons nil" => first | (k_extra "m for") | fail)
  (k_with "m for" => first | (k_here; (rename Fr _ _ _ _ => zzlF'); (with_unfolding_all refine' For_turns zzlF' ?_; k_whole)) | fail)
  (k_with "m pick" => first | (with_reducible (k_extra "m pk")) | fail)
  (k_with "m ne" => first | (first | with_reducible (first | assumption | (apply allNe_of; assumption) | (apply allNe_off; assumption) | (apply allNe_lt; apply PySem.W.allLt_of; assumption)) | ((with_reducible apply allNe_cons); k_ne; k_extra "m ne") | with_reducible (k_extra "m pkq") | (apply allNe_lt; with_reducible (k_extra "m pkq")) | with_reducible (k_extra "m pk") | (apply allNe_lt; with_reducible (k_extra "m pk")) | (apply allNe_off; with_reducible (k_extra "m pk")) | (apply allNe_lt; apply allLt_tl; assumption) | (with_reducible apply allNe_nil)) | fail)
  (k_with "m subh" => first | (with_reducible (apply sub_hd; first | assumption | (apply sub_hd; first | assumption | (apply sub_hd; first | assumption | (apply sub_hd; first | assumption | (apply sub_hd; first | assumption | (apply sub_hd; first | assumption | (apply sub_hd; first | assumption | (apply sub_hd; first | assumption | (apply sub_hd; assumption)))))))))) | fail)
  (k_with "m subs" => first | (first | (with_reducible apply sub_refl) | assumption | ((with_reducible apply subs_cons); k_mem; k_extra "m subs") | ((with_reducible apply sub_tl); k_extra "m subs") | (with_reducible apply List.forall_mem_nil) | k_extra "m subh") | fail)
  (k_with "getMethod ref" => first | (k_here; (with_reducible show wpAny _ _ (getMethod (Value.ref _) (Str.ofString "get") _) _ _ _); k_dflt (refine' kdg_method (knd := PySem.strKind _ _) (by k_asm) (by k_mem) (by k_asm) ?_; k_whole)) | fail)
  (k_with "compareOp In str ref" => first | (k_here; (with_reducible show wpAny _ _ (compareOp CmpOp.In (Value.str _ _) (Value.ref _)) _ _ _); k_dflt (first | (refine' kda_in (knd := PySem.strKind _ _) (by k_asm) (by k_mem) (by k_asm) (by k_asm) (strKind_is _ _ _ _) true (by first | assumption | exact rfl) ?_; k_whole) | (refine' kda_in (knd := PySem.strKind _ _) (by k_asm) (by k_mem) (by k_asm) (by k_asm) (strKind_is _ _ _ _) false (by first | assumption | exact rfl) ?_; k_whole))) | fail)
  (k_with "compareOp In str ref" => first | (k_here; (with_reducible show wpAny _ _ (compareOp CmpOp.In (Value.str _ _) (Value.ref _)) _ _ _); (with_unfolding_all refine' in_tuple_strs (by exact tup_of (by k_asm) (by k_mem)) (by kde_strs) ?_; k_whole)) | fail)
  (k_with "pyIter ref" => first | (k_here; (with_reducible show wpAny _ _ (pyIter (Value.ref _)) (fun it s₂ => TurnsAt _ _ _ _ _ _ _ _ _ it s₂) _ _); k_dflt (refine' iter_listTurns (by exact rfl) (by k_asm) (by k_asm) (by k_mem) (by exact rfl) (by exact rfl) ?_; k_whole); intro zzi' zzl1; (try k_lt zzl1)) | fail)
  (k_with "m agr" => first | (first | assumption | exact agree_over | exact agree_refl | (refine agree_store ?_ (by decide); k_extra "m agr")) | fail)
  (k_with "m sub" => first | (first | assumption | ((with_reducible apply sub_tl); k_extra "m sub") | k_extra "m subh") | fail)
  (k_with "call builtin:sorted" => first | (k_here; (with_reducible show wpAny _ _ (call (Value.builtin "sorted") [Value.ref _]) _ _ _); k_dflt (refine' sorted_trs (by exact rfl) (by k_asm) (by k_asm) (by k_mem) (by k_asm) (by k_asm) (by assumption) ?_; k_whole); intro zzB' zzh' zztk' zzvs' zze' zzF' zzN' zzl1 zzq'; (try simp only [AllLt, and_true] at zzl1)) | fail)
  (k_with "subscriptTail Attribute" => first | (k_here; (with_reducible show wpAny _ _ (subscriptTail _ _ (Value.ref _) (Value.str _ _)) _ _ _); k_dflt (refine kba_turn (value' := PySem.Expr.Name (PySem.Str.ofString "_") ⟨0, 0, 0, 0⟩) (fun _ => rfl) ?_; refine' kda_item (knd := PySem.strKind _ _) (by k_asm) (by k_mem) (by k_asm) (strKind_is _ _ _ _) (by first | assumption | exact rfl) ?_ (by with_unfolding_all rfl) (by intro zzr; with_unfolding_all rfl); k_whole)) | fail)
  (k_with "execs cons" => first | (k_here; (try dsimp only); (refine' exec_cons_h ?_); intro zztk' zzG' zzhG'; (try (rename PyProof.Rows.News _ _ _ _ => zznN'; dsimp only at zznN'))) | fail)
  (k_with "execs nil" => first | (k_here; (refine' exec_nil_g ?_); intro zztk'; (try (refine qout (by with_reducible assumption) ?_))) | fail)
  (k_with "m leave" => first | (k_end; first | ((try dsimp only); (refine' gnext_cons (by with_reducible assumption) ?_); intro zztk' zzG' zzhG'; (try (rename PyProof.Rows.News _ _ _ _ => zznN'; dsimp only at zznN'))) | (refine gnext (by with_reducible assumption) ?_) | (refine gout (by with_reducible assumption) ?_ ?_; (exact True.intro); (try (refine qout (by with_reducible assumption) ?_)))) | fail)
  (k_with "m k_steps" => first | (repeat' (first | k_extra "m leave" | (k_unfold; (try dsimp only)) | (k_end; wrow_close) | walk1 | (dsimp only; walk1) | (leave1; walk_say "STEP leave1"; try dsimp only) | fail "no step")) | fail)
  (k_with "m pkq" => first | (first | assumption | (apply And.left; first | assumption | (apply And.right; first | assumption | (apply And.right; first | assumption | (apply And.right; first | assumption | (apply And.right; first | assumption | (apply And.right; assumption))))))) | fail)
  (k_with "m pkr" => first | (first | assumption | (apply And.right; first | assumption | (apply And.right; first | assumption | (apply And.right; first | assumption | (apply And.right; first | assumption | (apply And.right; first | assumption | (apply And.right; first | assumption | (apply And.right; first | assumption | (apply And.right; first | assumption | (apply And.right; first | assumption | (apply And.right; first | assumption | (apply And.right; first | assumption | (apply And.right; first | assumption | (apply And.right; first | assumption | (apply And.right; first | assumption | (apply And.right; assumption)))))))))))))))) | fail)
  (k_with "m pk" => first | (first | assumption | (apply And.left; k_extra "m pkr") | (apply And.right; k_extra "m pkr")) | fail)
  (k_with "m omega" => first | (first | ((with_reducible apply neL); with_reducible (k_extra "m pkq")) | ((with_reducible apply neG); with_reducible (k_extra "m pkq")) | ((with_reducible apply neL); with_reducible (k_extra "m pk")) | ((with_reducible apply neG); with_reducible (k_extra "m pk")) | ((with_reducible apply neS); with_reducible (k_extra "m pk")) | ((with_reducible apply lin2); assumption; exact @rfl Bool true) | ((with_reducible apply lin1); assumption; exact @rfl Bool true) | ((with_reducible apply lin0); assumption; exact @rfl Bool true) | ((with_reducible apply lin3); assumption; exact @rfl Bool true) | ((with_reducible apply lin1e); assumption; exact @rfl Bool true) | ((with_reducible apply lin2e); assumption; exact @rfl Bool true) | ((with_reducible apply Nat.le_of_ble_eq_true); exact @rfl Bool true) | ((with_reducible apply om_w); assumption; exact @rfl Bool true) | ((with_reducible apply om_p3); assumption) | ((with_reducible apply om_p2); assumption) | ((with_reducible apply om_p3e); assumption) | (with_reducible apply om_p3r) | ((with_reducible apply om_p4); assumption; exact @rfl Bool true) | ((with_reducible apply om_s); assumption; exact @rfl Bool true) | ((with_reducible apply om_s1); assumption; exact @rfl Bool true) | ((with_reducible apply om_s2); assumption; exact @rfl Bool true) | ((with_reducible apply om_i); assumption; decide +kernel) | ((with_reducible apply om_i2); assumption; assumption; decide +kernel) | ((with_reducible apply om_n); decide +kernel) | (with_reducible apply Int.natCast_nonneg) | ((with_reducible apply om_k); assumption; decide +kernel) | with_reducible (k_extra "m pk")) | fail)
  (k_with "m k_ne" => first | ((with_reducible apply PySem.W.neN); (try dsimp only); omega) | fail)
  (k_with "spliced" => first | (k_here; (with_reducible show wpAny _ _ (spliced (backTo _ (starEach (PySem.Expr.Name _ _ :: _) _))) _ _ _); k_dflt (refine' args_nm (by exact rfl) (by k_asm) (by exact @rfl _ (some _)) (by kernel_rfl) (by exact rfl) (by kernel_rfl) ?_; k_whole)) | fail)
  (k_with "eval Subscript" => first | (k_here; (with_reducible show wpAny _ _ (eval (PySem.Expr.Subscript (PySem.Expr.Name _ _) _ _) _) _ _ _); k_dflt (refine' sub_nm (by exact rfl) (by k_asm) (by exact @rfl _ (some _)) (by kernel_rfl) (by exact rfl) (by kernel_rfl) ?_; k_whole)) | fail)
  (k_with "isTrue Compare" => first | (k_here; (with_reducible show wpAny _ _ (isTrue (PySem.Expr.Compare (PySem.Expr.Name _ _) [_] [_] _) _ _) _ _ _); k_dflt (refine' cmp_nm (by exact rfl) (by k_asm) (by exact @rfl _ (some _)) (by kernel_rfl) (by exact rfl) (by kernel_rfl) (by with_unfolding_all rfl) ?_; k_whole)) | fail)
  (k_with "eval Attribute Name" => first | (k_here; (with_reducible show wpAny _ _ (eval (PySem.Expr.Attribute (PySem.Expr.Name _ _) _ _) _) _ _ _); k_dflt (refine' att_nm (by exact rfl) (by k_asm) (by exact @rfl _ (some _)) (by kernel_rfl) (by exact rfl) (by kernel_rfl) ?_; k_whole)) | fail)
  (k_with "m k_upd" => first | (first | ((with_reducible apply PySem.W.Upd.head); k_all) | ((with_reducible apply PySem.W.Upd.tail); k_ne; k_upd)) | fail)
  (k_with "m k_updF" => first | (first | ((with_reducible apply PySem.W.UpdF.head); k_all) | ((with_reducible apply PySem.W.UpdF.tail); k_ne; k_updF)) | fail)
  (k_with "spliced" => first | (k_here; (with_reducible show wpAny _ _ (spliced (backTo _ (starEach (PySem.Expr.Constant (PySem.Const.str _) _ _ :: _) _))) _ _ _); k_dflt (refine' args_str ?_; k_whole)) | fail)
  (k_with "eval Subscript" => first | (k_here; (with_reducible show wpAny _ _ (eval (PySem.Expr.Subscript (PySem.Expr.Name _ _) (PySem.Expr.Constant (PySem.Const.int _) _ _) _) _) _ _ _); k_dflt (refine' sub_it (by exact rfl) (by k_asm) (by exact @rfl _ (some _)) (by kernel_rfl) (by exact rfl) (by kernel_rfl) (by k_asm) (by k_mem) (by exact @rfl _ (some _)) ?_; k_whole)) | fail)
  (k_with "exec If" => first | (k_here; (with_reducible show wpAny _ _ (exec (PySem.Stmt.If (PySem.Expr.Compare (PySem.Expr.Name _ _) [_] [_] _) _ _ _) _) _ _ _); k_dflt (refine' if_nm (by exact rfl) (by k_asm) (by exact @rfl _ (some _)) (by kernel_rfl) (by exact rfl) (by kernel_rfl) (by with_unfolding_all rfl) ?_; k_whole)) | fail)
  (k_with "eval Constant str" => first | (k_here; (with_reducible show wpAny _ _ (eval (PySem.Expr.Constant (PySem.Const.str _) _ _) _) (fun b s₂ => wpAny _ _ (compareOp CmpOp.Eq (Value.str _ _) b) (fun c s₃ => wpAny _ _ (truthy c) _ _ s₃) _ s₂) _ _); (with_reducible refine' eq_cst ?_); k_whole) | fail)
  (k_with "exec Assign" => first | (k_here; (with_reducible show wpAny _ _ (exec (PySem.Stmt.Assign [PySem.Expr.Attribute (PySem.Expr.Name _ _) _ _] (PySem.Expr.Name _ _) _) _) _ _ _); k_dflt (refine' set_nm (by exact rfl) (by k_asm) (by exact @rfl _ (some _)) (by exact @rfl _ (some _)) (by kernel_rfl) (by exact rfl) (by exact rfl) (by kernel_rfl) (by kernel_rfl) (by k_asm) (by k_asm) (by k_inst) (by exact rfl) (by k_is) (by k_is) (by k_is) (by k_is) (by k_get) (by k_put) (by k_upd) (by exact Nat.le_of_ble_eq_true rfl) (by exact rfl) ?_; k_whole); intro zzh' zzF' zzN'; (try k_sweep)) | fail)
  (k_with "spliced" => first | (k_here; (with_reducible show wpAny _ _ (spliced (backTo _ (starEach [] _))) (fun vs s₂ => wpAny _ _ (newTuple _) _ _ s₂) _ _); with_reducible refine' nil_tup (by k_dflt k_asm) (by k_dflt k_asm) (by k_dflt (exact Nat.le_of_ble_eq_true rfl)) ?_; k_whole; intro zzD' zzh' zzF' zzN' zzl1; (try k_lt zzl1); (try k_sweep)) | fail)
  (k_with "spliced" => first | (k_here; (with_reducible show wpAny _ _ (spliced (backTo _ (starEach [] _))) (fun vs s₂ => wpAny _ _ (newList _) _ _ s₂) _ _); with_reducible refine' nil_lst (by k_dflt k_asm) (by k_dflt k_asm) (by k_dflt (exact Nat.le_of_ble_eq_true rfl)) ?_; k_whole; intro zzl' zzh' zzF' zzN' zzl1; (try k_lt zzl1); (try k_sweep)) | fail)
  exact trivial
section
variable {w : World} {loose : List Str} {mean : ExcName → Option Value} {mg mb : Str → Option Value} {fz news : Led}
theorem kw11_1 : True := by
  (k_with "m con" => first | (first | exact selfof_or (w := w) (by k_extra "m sub") (by assumption) (by assumption) | exact asked_c (w := w) (by k_extra "m sub") (by assumption) (by assumption) (by assumption) (by k_mem) (by assumption) (selfOf_clear (by assumption) (by assumption)) (selfOf_dep (by assumption) (by assumption))) | fail)
  (k_with "m out" => first | (intro zzn9 zzr9 zzo9; (first | (rcases zzo9 with ⟨zze3, zze1, zzt9, zze2⟩ | ⟨zze3, zze1, zzt9, zze2⟩ <;> (subst zze1; subst zze2)) | (rcases zzo9 with ⟨zze1, zze2, zze3⟩ | ⟨zzu9, zza9, zze1, zze2, zze3, zzq9⟩ <;> (subst zze2; subst zze3)))) | fail)
  exact trivial
theorem oftraits_c {pv wv sv bv rv : Value} {nm : Str} {imps : List Imp} {trs : List (Tr × Slf)} {bs : List Tr} {b : Ty} (hs : ∀ p ∈ fz, p ∈ news) (hP : ProbeIn w fz pv wv nm sv) (hS : SelIn w fz sv wv bv) (hW : WorldIn w fz wv imps trs) (hB : BndIn w fz bv bs) (hn : nm = "go" ∨ nm = "come") (hT : TyIn fz rv b) (hb : b.clear = true) (db : b.dep ≤ 40) :
    Calls w loose mean mg mb 7 214 [pv, rv] news (fun n' r => ∃ l vs ep n0, r = .ref l ∧ n' = (l, listOf vs.toArray ep) :: n0 ∧ (∀ p ∈ news, p ∈ n0) ∧ AllNe l n0 ∧ TRows n0 vs ((trs.filter (hitT nm imps bs b)).map (·.1))) := by
  refine hide fun hG9 => ?_
  have hP' := hP
  have hW' := hW
  have hS' := hS
  cases hP with
  | mk p1 p2 =>
  cases hS with
  | mk s1 s2 =>
  cases hW with
  | @mk x dx sg so tr0 to im vs n t1 t2 t3 t4 t5 t6 t7 t8 v1 v2 v3 v7 v8 es tes imps trs w1 w2 w3 w4 w5 w6 w7 w8 w9 w10 w11 w12 =>
  refine hG9 ?_
  clear hG9
  refine Calls.of ?_
  k_fill
  intro dp un gd cn cs a' ccd cl outer A₀ base h₀ L m' shh sgg sdd skk soo Q E B F X N T hk hd hu hret
  refine wpAny_call ?_
  k_dflt ktr_enter
  refine let_ae ?_
  intro nk ak Q0 hQ0
  (rename Fr _ _ _ _ => F1)
  replace F1 : Fr _ _ _ (fun y => List.lookup y [(("receiver" : Str), _), (("self" : Str), _)]) := F1
  k_steps
  refine app_ind2 (nn := news) "rows" ["path", "row", "T"] (fun r vs' n1 => ∃ ts dn, KIn w fz tes r ts ∧ TRows n1 vs' dn ∧ vs'.length + ts.length ≤ 8 ∧ dn ++ (ts.filter (hitT nm imps bs b)).map (·.1) = (trs.filter (hitT nm imps bs b)).map (·.1)) _ (by exact rfl) (by k_extra "m subs") (by k_extra "m ne") (by k_extra "m ne") ⟨trs, [], by assumption, .nil, by simpa using w9.small, rfl⟩ ?_ ?_
  · intro a r vs' ep n1 u v' h tk o z910 hn1 hI hr hne hkp hv F9 ho N9
    refine hide fun hG9 => ?_
    obtain ⟨ts, dn, hk, hc, hl, he⟩ := z910
    obtain rfl : v' = a := hv
    have hs1 : ∀ p ∈ fz, p ∈ n1 := fun p hp => hn1 p (hs p hp)
    cases hk with
    | @cons t tr k v vs ts k1 k2 k3 =>
    cases k2 with
    | @mk y dy md mo sy u1 u2 u3 u4 y1 y2 y4 k j1 j2 j3 j4 j5 j6 =>
    cases j6 with
    | mk i1 i2 i3 =>
    rcases hn with rfl | rfl
    · rcases i3.split with ⟨rfl, rfl⟩ | ⟨kp, kt, rfl⟩
      · refine hG9 ?_
        clear hG9
        (try refine hideB fun G8 hG8 => ?_)
        k_steps
        refine unrEnd1 (by k_asm) (by k_asm) (by k_extra "m subs") (by k_extra "m ne") ⟨⟨.tail _ (hkp _ (.head _)), trivial⟩, RInv.intro (by k_extra "m agr") hkp (by assumption) (by assumption) ⟨ts, dn, k3, hc, by simp only [List.length_cons] at hl; omega, by rw [← he, filt_no (x := (tr, _)) (hitT_none rfl)]⟩⟩
      · refine hG9 ?_
        clear hG9
        (try refine hideB fun G8 hG8 => ?_)
        k_steps
        · refine unrEnd1 (by k_asm) (by k_asm) (by k_extra "m subs") (by k_extra "m ne") ⟨⟨.tail _ (hkp _ (.head _)), trivial⟩, RInv.intro (by k_extra "m agr") hkp (by assumption) (by assumption) ⟨ts, dn, k3, hc, by simp only [List.length_cons] at hl; omega, by rw [← he, filt_no (x := (tr, _)) (hitT_none (by assumption))]⟩⟩
        · refine unrEndB (by k_asm) (by k_asm) (by k_mem) (by k_mem) (by k_extra "m subs") (by k_extra "m agr") hkp (by k_ne) (by assumption) (by k_ne) (by assumption) (by assumption) (fun n hh => ⟨hh _ (hkp _ (.head _)), trivial⟩) ⟨ts, dn ++ [tr], k3, hc.snoc, by simp only [List.length_cons, List.length_append, List.length_nil] at hl ⊢; omega, by rw [← he, filt_yes (x := (tr, _)) (hitT_yes (by assumption) (by assumption)), List.map_cons, List.append_assoc]; rfl⟩
        · refine unrEnd1 (by k_asm) (by k_asm) (by k_extra "m subs") (by k_extra "m ne") ⟨⟨.tail _ (hkp _ (.head _)), trivial⟩, RInv.intro (by k_extra "m agr") hkp (by assumption) (by assumption) ⟨ts, dn, k3, hc, by simp only [List.length_cons] at hl; omega, by rw [← he, filt_no (x := (tr, _)) (hitT_some (by assumption) (by assumption))]⟩⟩
    · refine hG9 ?_
      clear hG9
      (try refine hideB fun G8 hG8 => ?_)
      k_steps
      refine unrEnd1 (by k_asm) (by k_asm) (by k_extra "m subs") (by k_extra "m ne") ⟨⟨.tail _ (hkp _ (.head _)), trivial⟩, RInv.intro (by k_extra "m agr") hkp (by assumption) (by assumption) ⟨ts, dn, k3, hc, by simp only [List.length_cons] at hl; omega, by rw [← he, filt_no (x := (tr, _)) (hitT_come)]⟩⟩
  · intro vs' ep n1 u h tk z96 hn1 hI hr F9 N9
    refine hide fun hG9 => ?_
    obtain ⟨ts, dn, hk, hc, hl, he⟩ := z96
    cases hk
    refine hG9 ?_
    clear hG9
    (try refine hideB fun G8 hG8 => ?_)
    k_steps
    exact hret _ _ _ _ (by k_asm) (by k_asm) ⟨_, _, _, _, rfl, rfl, hn1, hr, by rw [← he]; simpa using hc⟩
end
theorem kw12_0 : True := by
  k_with_none
  (k_with "m k_mem" => first | (first | ktr_member | (with_reducible apply mem_hd) | ((with_reducible apply mem_tl); k_mem) | exact mem_via (by assumption) (by assumption)) | fail)
  (k_with "m lt" => first | (first | assumption | (apply PySem.W.allLt_of; assumption) | (apply allLt_tl; assumption) | (apply allLt_tl2; assumption) | with_reducible (k_extra "m pk") | (simp only [AllLt, and_true] at *; first | assumption | omega)) | fail)
  (k_with "m k_all" => first | (first | assumption | (apply ne_of_allNe; k_extra "m ne") | (apply ne_of_allLt; k_extra "m lt")) | fail)
  (k_with "m call" => first | (k_here; k_dflt (refine' Calls.use' (by k_asm) (by k_asm) (by k_asm) (by k_asm) (by k_asm) (by first | exact rfl | assumption) (by k_extra "m con") (by first | omega | (dsimp only [ktrTop]; omega)) (by k_extra "m un") ?_; k_whole); ((intro zzG9 zzhG9; k_dflt (k_extra "m out")) <;> (refine zzhG9 _ _ ?_; intro zzh9 zztk9 zzF9 zzN9; (try k_sweep)))) | fail)
  (k_with "m out" => first | (intro zzn9 zzr9 zzo9; (first | (obtain ⟨zze1, zze2⟩ := zzo9; subst zze1; subst zze2) | (obtain ⟨zze1, zzt9, zze2⟩ := zzo9; subst zze1; subst zze2) | (obtain ⟨zzl9, zze9, zze2, zze1, zzq9⟩ := zzo9; subst zze1; subst zze2; (simp only [AllLt, and_true] at zzq9)) | (obtain ⟨zzl9, zze9, zzp9, zzm9, zzx9, zzy9, zze2, zze1, zzq1, zzq2, zzq3, zzq4⟩ := zzo9; subst zze1; subst zze2; (simp only [AllLt, and_true] at zzq3); obtain ⟨zza8, zzn8, zzt8, zzr8, zze8, zzm8⟩ := Mine.TyIn.head zzq1; subst zze8; obtain ⟨zza7, zzn7, zzt7, zzr7, zze7, zzm7⟩ := Mine.TyIn.head zzq2; subst zze7) | (rcases zzo9 with ⟨zze3, zze1, zzt9, zze2⟩ | ⟨zze3, zze1, zzt9, zze2⟩ <;> (subst zze1; subst zze2)))) | fail)
  (k_with "m un" => first | ((try dsimp +zetaDelta only); (have zzhcl9 := cLine_is); (try simp only [units_in1, units_deeper, Around.mark_units, units_caller]); (try dsimp only [ktrTop]); omega) | fail)
  (k_with "m dp" => first | (first | assumption | (simp only [Ty.dep]; omega) | decide) | fail)
  (k_with "m k_room" => first | ((try dsimp +zetaDelta only); (try simp only [depth_under_make, depth_under_kw, depth_in1, depth_deeper, depth_caller]); (try dsimp only [ktrTop]); have zzhrl9 : recursionLimit = 1000 := rfl; omega) | fail)
  (k_with "m for" => first | (k_here; (rename Fr _ _ _ _ => zzlF'); (with_unfolding_all refine' For_turns zzlF' ?_; k_whole)) | fail)
  (k_with "m pick" => first | (with_reducible (k_extra "m pk")) | fail)
  (k_with "m ne" => first | (first | with_reducible (first | assumption | (apply allNe_of; assumption) | (apply allNe_off; assumption) | (apply allNe_lt; apply PySem.W.allLt_of; assumption)) | ((with_reducible apply allNe_cons); k_ne; k_extra "m ne") | with_reducible (k_extra "m pkq") | (apply allNe_lt; with_reducible (k_extra "m pkq")) | with_reducible (k_extra "m pk") | (apply allNe_lt; with_reducible (k_extra "m pk")) | (apply allNe_off; with_reducible (k_extra "m pk")) | (apply allNe_lt; apply allLt_tl; assumption) | (with_reducible apply allNe_nil)) | fail)
  (k_with "m subh" => first | (with_reducible (apply sub_hd; first | assumption | (apply sub_hd; first | assumption | (apply sub_hd; first | assumption | (apply sub_hd; first | assumption | (apply sub_hd; first | assumption | (apply sub_hd; first | assumption | (apply sub_hd; first | assumption | (apply sub_hd; first | assumption | (apply sub_hd; assumption)))))))))) | fail)
  (k_with "m subs" => first | (first | (with_reducible apply sub_refl) | assumption | ((with_reducible apply subs_cons); k_mem; k_extra "m subs") | ((with_reducible apply sub_tl); k_extra "m subs") | (with_reducible apply List.forall_mem_nil) | k_extra "m subh") | fail)
  (k_with "m agr" => first | (first | assumption | exact agree_over | exact agree_refl | (refine agree_store ?_ (by decide); k_extra "m agr")) | fail)
  (k_with "m sub" => first | (first | assumption | ((with_reducible apply sub_tl); k_extra "m sub") | k_extra "m subh") | fail)
  (k_with "m leave" => first | (k_end; first | ((try dsimp only); (refine' gnext_cons (by with_reducible assumption) ?_); intro zztk' zzG' zzhG'; (try (rename PyProof.Rows.News _ _ _ _ => zznN'; dsimp only at zznN'))) | (refine gnext (by with_reducible assumption) ?_) | (refine gout (by with_reducible assumption) ?_ ?_; (exact True.intro); (try (refine qout (by with_reducible assumption) ?_)))) | fail)
  (k_with "m k_steps" => first | (repeat' (first | k_extra "m leave" | (k_unfold; (try dsimp only)) | (k_end; wrow_close) | walk1 | (dsimp only; walk1) | (leave1; walk_say "STEP leave1"; try dsimp only) | fail "no step")) | fail)
  (k_with "m pkq" => first | (first | assumption | (apply And.left; first | assumption | (apply And.right; first | assumption | (apply And.right; first | assumption | (apply And.right; first | assumption | (apply And.right; first | assumption | (apply And.right; assumption))))))) | fail)
  (k_with "m pkr" => first | (first | assumption | (apply And.right; first | assumption | (apply And.right; first | assumption | (apply And.right; first | assumption | (apply And.right; first | assumption | (apply And.right; first | assumption | (apply And.right; first | assumption | (apply And.right; first | assumption | (apply And.right; first | assumption | (apply And.right; first | assumption | (apply And.right; first | assumption | (apply And.right; first | assumption | (apply And.right; first | assumption | (apply And.right; first | assumption | (apply And.right; first | assumption | (apply And.right; assumption)))))))))))))))) | fail)
  (k_with "m pk" => first | (first | assumption | (apply And.left; k_extra "m pkr") | (apply And.right; k_extra "m pkr")) | fail)
  (k_with "m omega" => first | (first | ((with_reducible apply neL); with_reducible (k_extra "m pkq")) | ((with_reducible apply neG); with_reducible (k_extra "m pkq")) | ((with_reducible apply neL); with_reducible (k_extra "m pk")) | ((with_reducible apply neG); with_reducible (k_extra "m pk")) | ((with_reducible apply neS); with_reducible (k_extra "m pk")) | ((with_reducible apply lin2); assumption; exact @rfl Bool true) | ((with_reducible apply lin1); assumption; exact @rfl Bool true) | ((with_reducible apply lin0); assumption; exact @rfl Bool true) | ((with_reducible apply lin3); assumption; exact @rfl Bool true) | ((with_reducible apply lin1e); assumption; exact @rfl Bool true) | ((with_reducible apply lin2e); assumption; exact @rfl Bool true) | ((with_reducible apply Nat.le_of_ble_eq_true); exact @rfl Bool true) | ((with_reducible apply om_w); assumption; exact @rfl Bool true) | ((with_reducible apply om_p3); assumption) | ((with_reducible apply om_p2); assumption) | ((with_reducible apply om_p3e); assumption) | (with_reducible apply om_p3r) | ((with_reducible apply om_p4); assumption; exact @rfl Bool true) | ((with_reducible apply om_s); assumption; exact @rfl Bool true) | ((with_reducible apply om_s1); assumption; exact @rfl Bool true) | ((with_reducible apply om_s2); assumption; exact @rfl Bool true) | ((with_reducible apply om_i); assumption; decide +kernel) | ((with_reducible apply om_i2); assumption; assumption; decide +kernel) | ((with_reducible apply om_n); decide +kernel) | (with_reducible apply Int.natCast_nonneg) | ((with_reducible apply om_k); assumption; decide +kernel) | with_reducible (k_extra "m pk")) | fail)
  (k_with "m k_ne" => first | ((with_reducible apply PySem.W.neN); (try dsimp only); omega) | fail)
  (k_with "m k_upd" => first | (first | ((with_reducible apply PySem.W.Upd.head); k_all) | ((with_reducible apply PySem.W.Upd.tail); k_ne; k_upd)) | fail)
  (k_with "m k_updF" => first | (first | ((with_reducible apply PySem.W.UpdF.head); k_all) | ((with_reducible apply PySem.W.UpdF.tail); k_ne; k_updF)) | fail)
  exact trivial
section
variable {w : World} {loose : List Str} {mean : ExcName → Option Value} {mg mb : Str → Option Value} {news : Led}
open PySem.W.X
theorem kw12_1 : True := by
  (k_with "m x_close" => first | (rename Mem _ _ _ _ => zzD9; rename (∀ (_ : Addr) (_ : Heap) (_ : Nat), NewX _ _ _ _ → _) => zzhq9; refine zzhq9 _ _ _ ⟨?_, ?_, ?_⟩; (case refine_1 => exact fun b o e => zzD9.keep b o e (by rw [Bool.or_eq_true]; exact .inr rfl)); (case refine_2 => exact (zzD9.nw _ (.tail _ (.tail _ (.tail _ (.head _))))).2); (case refine_3 => exact ⟨_, _, _, _, (zzD9.nw _ (.tail _ (.tail _ (.tail _ (.head _))))).1, rfl, rfl⟩)) | fail)
  exact trivial
theorem k_at0 (P : Params) : List.lookup 0 (Mine.hd.heap_1 P : List (Nat × Obj)) = some ⟨.type "dict", none, (boot_o_0 P).data, #[]⟩ := by kernel_rfl
noncomputable def o3 : PySem.Params → PySem.Obj := fun P => { cls := PySem.Value.type "dict", data := PySem.Data.dict { toList := [{ hash := PySem.PyData.keyHash P { cps := { toList := [95, 95, 110, 97, 109, 101, 95, 95] } }, key := PySem.Value.str { cps := { toList := [95, 95, 110, 97, 109, 101, 95, 95] } } 165, val := PySem.Value.str { cps := { toList := [108, 97, 119, 95, 110, 117, 48, 51, 56, 51, 95, 48, 49] } } 708 }, { hash := PySem.PyData.keyHash P { cps := { toList := [95, 95, 100, 111, 99, 95, 95] } }, key := PySem.Value.str { cps := { toList := [95, 95, 100, 111, 99, 95, 95] } } 166, val := PySem.Value.none }, { hash := PySem.PyData.keyHash P { cps := { toList := [95, 95, 112, 97, 99, 107, 97, 103, 101, 95, 95] } }, key := PySem.Value.str { cps := { toList := [95, 95, 112, 97, 99, 107, 97, 103, 101, 95, 95] } } 167, val := PySem.Value.none }, { hash := PySem.PyData.keyHash P { cps := { toList := [95, 95, 108, 111, 97, 100, 101, 114, 95, 95] } }, key := PySem.Value.str { cps := { toList := [95, 95, 108, 111, 97, 100, 101, 114, 95, 95] } } 168, val := PySem.Value.builtin "__main__.__loader__#opaque" }, { hash := PySem.PyData.keyHash P { cps := { toList := [95, 95, 115, 112, 101, 99, 95, 95] } }, key := PySem.Value.str { cps := { toList := [95, 95, 115, 112, 101, 99, 95, 95] } } 169, val := PySem.Value.none }, { hash := PySem.PyData.keyHash P { cps := { toList := [95, 95, 97, 110, 110, 111, 116, 97, 116, 105, 111, 110, 115, 95, 95] } }, key := PySem.Value.str { cps := { toList := [95, 95, 97, 110, 110, 111, 116, 97, 116, 105, 111, 110, 115, 95, 95] } } 170, val := PySem.Value.ref 6 }, { hash := PySem.PyData.keyHash P { cps := { toList := [95, 95, 98, 117, 105, 108, 116, 105, 110, 115, 95, 95] } }, key := PySem.Value.str { cps := { toList := [95, 95, 98, 117, 105, 108, 116, 105, 110, 115, 95, 95] } } 171, val := PySem.Value.ref 4 }, { hash := PySem.PyData.keyHash P { cps := { toList := [95, 95, 102, 105, 108, 101, 95, 95] } }, key := PySem.Value.str { cps := { toList := [95, 95, 102, 105, 108, 101, 95, 95] } } 173, val := PySem.Value.str { cps := { toList := [47, 99, 108, 97, 105, 109, 47, 99, 117, 116, 46, 112, 121] } } 172 }, { hash := PySem.PyData.keyHash P { cps := { toList := [95, 95, 99, 97, 99, 104, 101, 100, 95, 95] } }, key := PySem.Value.str { cps := { toList := [95, 95, 99, 97, 99, 104, 101, 100, 95, 95] } } 174, val := PySem.Value.none }, { hash := PySem.PyData.keyHash P { cps := { toList := [95, 119, 97, 108, 108] } }, key := PySem.Value.str { cps := { toList := [95, 119, 97, 108, 108] } } 193, val := PySem.Value.ref 21 }, { hash := PySem.PyData.keyHash P { cps := { toList := [76, 101, 110, 100, 69, 114, 114, 111, 114] } }, key := PySem.Value.str { cps := { toList := [76, 101, 110, 100, 69, 114, 114, 111, 114] } } 227, val := PySem.Value.ref 39 }, { hash := PySem.PyData.keyHash P { cps := { toList := [84, 121, 112, 101, 70, 97, 117, 108, 116] } }, key := PySem.Value.str { cps := { toList := [84, 121, 112, 101, 70, 97, 117, 108, 116] } } 243, val := PySem.Value.ref 52 }, { hash := PySem.PyData.keyHash P { cps := { toList := [84, 114, 97, 105, 116, 70, 97, 117, 108, 116] } }, key := PySem.Value.str { cps := { toList := [84, 114, 97, 105, 116, 70, 97, 117, 108, 116] } } 259, val := PySem.Value.ref 64 }, { hash := PySem.PyData.keyHash P { cps := { toList := [104, 101, 97, 100, 95, 112, 97, 105, 114, 115] } }, key := PySem.Value.str { cps := { toList := [104, 101, 97, 100, 95, 112, 97, 105, 114, 115] } } 271, val := PySem.Value.ref 73 }, { hash := PySem.PyData.keyHash P { cps := { toList := [99, 111, 117, 108, 100, 95, 98, 101] } }, key := PySem.Value.str { cps := { toList := [99, 111, 117, 108, 100, 95, 98, 101] } } 285, val := PySem.Value.ref 80 }, { hash := PySem.PyData.keyHash P { cps := { toList := [109, 97, 116, 99, 104, 95, 116, 121, 112, 101] } }, key := PySem.Value.str { cps := { toList := [109, 97, 116, 99, 104, 95, 116, 121, 112, 101] } } 301, val := PySem.Value.ref 87 }, { hash := PySem.PyData.keyHash P { cps := { toList := [109, 97, 116, 99, 104, 95, 97, 108, 108] } }, key := PySem.Value.str { cps := { toList := [109, 97, 116, 99, 104, 95, 97, 108, 108] } } 315, val := PySem.Value.ref 94 }, { hash := PySem.PyData.keyHash P { cps := { toList := [77, 79, 83, 84, 95, 68, 69, 69, 80] } }, key := PySem.Value.str { cps := { toList := [77, 79, 83, 84, 95, 68, 69, 69, 80] } } 319, val := PySem.Value.int 12 318 }, { hash := PySem.PyData.keyHash P { cps := { toList := [108, 97, 115, 116, 95, 110, 97, 109, 101] } }, key := PySem.Value.str { cps := { toList := [108, 97, 115, 116, 95, 110, 97, 109, 101] } } 326, val := PySem.Value.ref 101 }, { hash := PySem.PyData.keyHash P { cps := { toList := [110, 97, 109, 101, 115, 95, 111, 102] } }, key := PySem.Value.str { cps := { toList := [110, 97, 109, 101, 115, 95, 111, 102] } } 332, val := PySem.Value.ref 106 }, { hash := PySem.PyData.keyHash P { cps := { toList := [109, 97, 116, 99, 104, 101, 115, 95, 105, 109, 112, 108] } }, key := PySem.Value.str { cps := { toList := [109, 97, 116, 99, 104, 101, 115, 95, 105, 109, 112, 108] } } 343, val := PySem.Value.ref 113 }, { hash := PySem.PyData.keyHash P { cps := { toList := [105, 115, 95, 112, 108, 97, 105, 110, 108, 121, 95, 99, 111, 112, 121] } }, key := PySem.Value.str { cps := { toList := [105, 115, 95, 112, 108, 97, 105, 110, 108, 121, 95, 99, 111, 112, 121] } } 350, val := PySem.Value.ref 120 }, { hash := PySem.PyData.keyHash P { cps := { toList := [83, 101, 108, 101, 99, 116, 105, 111, 110] } }, key := PySem.Value.str { cps := { toList := [83, 101, 108, 101, 99, 116, 105, 111, 110] } } 420, val := PySem.Value.ref 161 }, { hash := PySem.PyData.keyHash P { cps := { toList := [77, 79, 83, 84, 95, 83, 84, 69, 80, 83] } }, key := PySem.Value.str { cps := { toList := [77, 79, 83, 84, 95, 83, 84, 69, 80, 83] } } 424, val := PySem.Value.int 12 423 }, { hash := PySem.PyData.keyHash P { cps := { toList := [115, 116, 101, 112, 115, 95, 111, 102] } }, key := PySem.Value.str { cps := { toList := [115, 116, 101, 112, 115, 95, 111, 102] } } 432, val := PySem.Value.ref 172 }, { hash := PySem.PyData.keyHash P { cps := { toList := [115, 101, 108, 102, 95, 111, 102] } }, key := PySem.Value.str { cps := { toList := [115, 101, 108, 102, 95, 111, 102] } } 440, val := PySem.Value.ref 179 }, { hash := PySem.PyData.keyHash P { cps := { toList := [80, 114, 111, 98, 101] } }, key := PySem.Value.str { cps := { toList := [80, 114, 111, 98, 101] } } 519, val := PySem.Value.ref 224 }, { hash := PySem.PyData.keyHash P { cps := { toList := [102, 105, 110, 100, 95, 109, 101, 116, 104, 111, 100] } }, key := PySem.Value.str { cps := { toList := [102, 105, 110, 100, 95, 109, 101, 116, 104, 111, 100] } } 536, val := PySem.Value.ref 235 }, { hash := PySem.PyData.keyHash P { cps := { toList := [83, 105, 103] } }, key := PySem.Value.str { cps := { toList := [83, 105, 103] } } 581, val := PySem.Value.ref 252 }, { hash := PySem.PyData.keyHash P { cps := { toList := [84, 114, 97, 105, 116, 82, 111, 119] } }, key := PySem.Value.str { cps := { toList := [84, 114, 97, 105, 116, 82, 111, 119] } } 616, val := PySem.Value.ref 273 }, { hash := PySem.PyData.keyHash P { cps := { toList := [73, 109, 112, 108, 82, 111, 119] } }, key := PySem.Value.str { cps := { toList := [73, 109, 112, 108, 82, 111, 119] } } 660, val := PySem.Value.ref 295 }, { hash := PySem.PyData.keyHash P { cps := { toList := [87, 111, 114, 108, 100] } }, key := PySem.Value.str { cps := { toList := [87, 111, 114, 108, 100] } } 707, val := PySem.Value.ref 324 }, { hash := PySem.PyData.keyHash P { cps := { toList := [95, 108, 97, 119, 95, 112, 111, 111, 108] } }, key := PySem.Value.str { cps := { toList := [95, 108, 97, 119, 95, 112, 111, 111, 108] } } 720, val := PySem.Value.ref 335 }, { hash := PySem.PyData.keyHash P { cps := { toList := [95, 108, 97, 119, 95, 116, 97, 107, 101] } }, key := PySem.Value.str { cps := { toList := [95, 108, 97, 119, 95, 116, 97, 107, 101] } } 729, val := PySem.Value.ref 342 }, { hash := PySem.PyData.keyHash P { cps := { toList := [95, 108, 97, 119, 95, 111, 110, 101] } }, key := PySem.Value.str { cps := { toList := [95, 108, 97, 119, 95, 111, 110, 101] } } 737, val := PySem.Value.ref 349 }, { hash := PySem.PyData.keyHash P { cps := { toList := [95, 108, 97, 119, 95, 115, 105, 103] } }, key := PySem.Value.str { cps := { toList := [95, 108, 97, 119, 95, 115, 105, 103] } } 745, val := PySem.Value.ref 356 }, { hash := PySem.PyData.keyHash P { cps := { toList := [95, 108, 97, 119, 95, 119, 111, 114, 108, 100] } }, key := PySem.Value.str { cps := { toList := [95, 108, 97, 119, 95, 119, 111, 114, 108, 100] } } 762, val := PySem.Value.ref 363 }, { hash := PySem.PyData.keyHash P { cps := { toList := [95, 108, 97, 119, 95, 115, 101, 108, 102] } }, key := PySem.Value.str { cps := { toList := [95, 108, 97, 119, 95, 115, 101, 108, 102] } } 770, val := PySem.Value.ref 370 }, { hash := PySem.PyData.keyHash P { cps := { toList := [95, 108, 97, 119, 95, 97, 116] } }, key := PySem.Value.str { cps := { toList := [95, 108, 97, 119, 95, 97, 116] } } 776, val := PySem.Value.ref 375 }, { hash := PySem.PyData.keyHash P { cps := { toList := [95, 108, 97, 119, 95, 100, 117, 101] } }, key := PySem.Value.str { cps := { toList := [95, 108, 97, 119, 95, 100, 117, 101] } } 792, val := PySem.Value.ref 382 }, { hash := PySem.PyData.keyHash P { cps := { toList := [95, 108, 97, 119, 95, 116, 111, 108, 100] } }, key := PySem.Value.str { cps := { toList := [95, 108, 97, 119, 95, 116, 111, 108, 100] } } 805, val := PySem.Value.ref 389 }, { hash := PySem.PyData.keyHash P { cps := { toList := [95, 108, 97, 119, 95, 116, 121, 112, 101] } }, key := PySem.Value.str { cps := { toList := [95, 108, 97, 119, 95, 116, 121, 112, 101] } } 814, val := PySem.Value.ref 396 }, { hash := PySem.PyData.keyHash P { cps := { toList := [108, 97, 119] } }, key := PySem.Value.str { cps := { toList := [108, 97, 119] } } 820, val := PySem.Value.ref 401 }] } 43 }
theorem k_at3 (P : Params) : List.lookup 3 (Mine.hd.heap_1 P : List (Nat × Obj)) = some ⟨.type "dict", none, (o3 P).data, #[]⟩ := by kernel_rfl
theorem mkg64 {prog : Program} {s : Shared} {msg : Str} {t : Tok} {Q E : Value → Shared → Prop} {gd : Option (List Code)} {fr : Option (List Env)}
   (X : (Mine.hd.heap_1 w.params).In s.heap) (h0 : s.heap.get? (nat_lit 0) = some ⟨.type "dict", none, (boot_o_0 w.params).data, #[]⟩) (h3 : s.heap.get? (nat_lit 3) = some ⟨.type "dict", none, (o3 w.params).data, #[]⟩) (hq : ∀ e h' tk, NewX s.heap h' e (.ref 64) → Q (.ref e) { s with heap := h', toks := tk }) :
   wpAny (model prog w) { handled := none, depth := 500, frames := fr, guards := gd, units := 2000 } (call (.ref 64) [.str msg t]) Q E s := by
  x_run
theorem mkg52 {prog : Program} {s : Shared} {msg : Str} {t : Tok} {Q E : Value → Shared → Prop} {gd : Option (List Code)} {fr : Option (List Env)}
   (X : (Mine.hd.heap_1 w.params).In s.heap) (h0 : s.heap.get? (nat_lit 0) = some ⟨.type "dict", none, (boot_o_0 w.params).data, #[]⟩) (h3 : s.heap.get? (nat_lit 3) = some ⟨.type "dict", none, (o3 w.params).data, #[]⟩) (hq : ∀ e h' tk, NewX s.heap h' e (.ref 52) → Q (.ref e) { s with heap := h', toks := tk }) :
   wpAny (model prog w) { handled := none, depth := 500, frames := fr, guards := gd, units := 2000 } (call (.ref 52) [.str msg t]) Q E s := by
  x_run
theorem mk64 {s : Shared} {msg : Str} {t : Tok} {Q E : Value → Shared → Prop} {gd : Option (List Code)} {fr : Option (List Env)}
   (X : (Mine.hd.heap_1 w.params).In s.heap) (hq : ∀ e h' tk, NewX s.heap h' e (.ref 64) → Q (.ref e) { s with heap := h', toks := tk }) :
   wpAny (model Challenge.rw_nu0383_01.row.prog w) { handled := none, depth := 500, frames := fr, guards := gd, units := 2000 } (call (.ref 64) [.str msg t]) Q E s := mkg64 X (X 0 _ (k_at0 _)) (X 3 _ (k_at3 _)) hq
theorem mk52 {s : Shared} {msg : Str} {t : Tok} {Q E : Value → Shared → Prop} {gd : Option (List Code)} {fr : Option (List Env)}
   (X : (Mine.hd.heap_1 w.params).In s.heap) (hq : ∀ e h' tk, NewX s.heap h' e (.ref 52) → Q (.ref e) { s with heap := h', toks := tk }) :
   wpAny (model Challenge.rw_nu0383_01.row.prog w) { handled := none, depth := 500, frames := fr, guards := gd, units := 2000 } (call (.ref 52) [.str msg t]) Q E s := mkg52 X (X 0 _ (k_at0 _)) (X 3 _ (k_at3 _)) hq
end
theorem kw13_0 : True := by
  k_with_none
  (k_with "m k_mem" => first | (first | ktr_member | (with_reducible apply mem_hd) | ((with_reducible apply mem_tl); k_mem) | exact mem_via (by assumption) (by assumption)) | fail)
  (k_with "subscriptTail Name Constant ref int" => first | (k_here; (with_reducible show wpAny _ _ (subscriptTail _ _ (Value.ref _) (Value.int _ _)) _ _ _); k_dflt (refine' tup_item (by k_asm) (by k_mem) (by decide) (by decide) (by exact rfl) (by exact rfl) ?_ (by with_unfolding_all rfl); k_whole)) | fail)
  (k_with "ite" => first | (first | refine ite_t (by with_reducible assumption) ?_ | refine ite_f (by with_reducible assumption) ?_) | fail)
  (k_with "m lt" => first | (first | assumption | (apply PySem.W.allLt_of; assumption) | (apply allLt_tl; assumption) | (apply allLt_tl2; assumption) | with_reducible (k_extra "m pk") | (simp only [AllLt, and_true] at *; first | assumption | omega)) | fail)
  (k_with "m k_all" => first | (first | assumption | (apply ne_of_allNe; k_extra "m ne") | (apply ne_of_allLt; k_extra "m lt")) | fail)
  (k_with "m call" => first | (k_here; k_dflt (refine' Calls.use' (by k_asm) (by k_asm) (by k_asm) (by k_asm) (by k_asm) (by first | exact rfl | assumption) (by k_extra "m con") (by first | omega | (dsimp only [ktrTop]; omega)) (by k_extra "m un") ?_; k_whole); ((intro zzG9 zzhG9; k_dflt (k_extra "m out")) <;> (refine zzhG9 _ _ ?_; intro zzh9 zztk9 zzF9 zzN9; (try k_sweep)))) | fail)
  (k_with "m out" => first | (intro zzn9 zzr9 zzo9; (first | (obtain ⟨zze1, zze2⟩ := zzo9; subst zze1; subst zze2) | (obtain ⟨zze1, zzt9, zze2⟩ := zzo9; subst zze1; subst zze2) | (obtain ⟨zzl9, zze9, zze2, zze1, zzq9⟩ := zzo9; subst zze1; subst zze2; (simp only [AllLt, and_true] at zzq9)) | (obtain ⟨zzl9, zze9, zzp9, zzm9, zzx9, zzy9, zze2, zze1, zzq1, zzq2, zzq3, zzq4⟩ := zzo9; subst zze1; subst zze2; (simp only [AllLt, and_true] at zzq3); obtain ⟨zza8, zzn8, zzt8, zzr8, zze8, zzm8⟩ := Mine.TyIn.head zzq1; subst zze8; obtain ⟨zza7, zzn7, zzt7, zzr7, zze7, zzm7⟩ := Mine.TyIn.head zzq2; subst zze7) | (rcases zzo9 with ⟨zze3, zze1, zzt9, zze2⟩ | ⟨zze3, zze1, zzt9, zze2⟩ <;> (subst zze1; subst zze2)))) | fail)
  (k_with "call ref" => first | (k_extra "m call") | fail)
  (k_with "m un" => first | ((try dsimp +zetaDelta only); (have zzhcl9 := cLine_is); (try simp only [units_in1, units_deeper, Around.mark_units, units_caller]); (try dsimp only [ktrTop]); omega) | fail)
  (k_with "m dp" => first | (first | assumption | (simp only [Ty.dep]; omega) | decide) | fail)
  (k_with "compareOp NotEq ref ref" => first | (k_here; (with_reducible show wpAny _ _ (compareOp CmpOp.NotEq (Value.ref _) (Value.ref _)) _ _ _); k_dflt (first | (refine' nil_ne_nil (by k_asm) (by k_mem) (by k_mem) (by k_extra "m un") ?_; k_whole) | (refine' one_ne_nil (by k_asm) (by k_mem) (by k_mem) (by k_mem) (by assumption) (by assumption) (by k_extra "m sub") (by k_extra "m dp") (by k_extra "m dp") (by k_extra "m un") ?_; k_whole))) | fail)
  (k_with "m k_room" => first | ((try dsimp +zetaDelta only); (try simp only [depth_under_make, depth_under_kw, depth_in1, depth_deeper, depth_caller]); (try dsimp only [ktrTop]); have zzhrl9 : recursionLimit = 1000 := rfl; omega) | fail)
  (k_with "eval Name" => first | (k_here; (fail_if_success with_reducible show wpAny _ _ (eval _ (compEnvC _ _ _ _)) _ _ _); k_dflt (refine' nameX_L (by k_asm) (by exact @rfl _ (some _)) ?_ (by kernel_rfl) (rfl) (by kernel_rfl); k_whole)) | fail)
  (k_with "ite" => first | (k_closed; first | refine ite_t (by decide +kernel) ?_ | refine ite_f (by decide +kernel) ?_) | fail)
  (k_with "exec For Name Tuple cons nil" => first | (k_extra "m for") | fail)
  (k_with "m for" => first | (k_here; (rename Fr _ _ _ _ => zzlF'); (with_unfolding_all refine' For_turns zzlF' ?_; k_whole)) | fail)
  (k_with "m pick" => first | (with_reducible (k_extra "m pk")) | fail)
  (k_with "m ne" => first | (first | with_reducible (first | assumption | (apply allNe_of; assumption) | (apply allNe_off; assumption) | (apply allNe_lt; apply PySem.W.allLt_of; assumption)) | ((with_reducible apply allNe_cons); k_ne; k_extra "m ne") | with_reducible (k_extra "m pkq") | (apply allNe_lt; with_reducible (k_extra "m pkq")) | with_reducible (k_extra "m pk") | (apply allNe_lt; with_reducible (k_extra "m pk")) | (apply allNe_off; with_reducible (k_extra "m pk")) | (apply allNe_lt; apply allLt_tl; assumption) | (with_reducible apply allNe_nil)) | fail)
  (k_with "m subh" => first | (with_reducible (apply sub_hd; first | assumption | (apply sub_hd; first | assumption | (apply sub_hd; first | assumption | (apply sub_hd; first | assumption | (apply sub_hd; first | assumption | (apply sub_hd; first | assumption | (apply sub_hd; first | assumption | (apply sub_hd; first | assumption | (apply sub_hd; assumption)))))))))) | fail)
  (k_with "m subs" => first | (first | (with_reducible apply sub_refl) | assumption | ((with_reducible apply subs_cons); k_mem; k_extra "m subs") | ((with_reducible apply sub_tl); k_extra "m subs") | (with_reducible apply List.forall_mem_nil) | k_extra "m subh") | fail)
  (k_with "getMethod ref" => first | (k_here; (with_reducible show wpAny _ _ (getMethod (Value.ref _) (Str.ofString "get") _) _ _ _); k_dflt (refine' kdg_method (knd := PySem.strKind _ _) (by k_asm) (by k_mem) (by k_asm) ?_; k_whole)) | fail)
  (k_with "pyIter ref" => first | (k_here; (with_reducible show wpAny _ _ (pyIter (Value.ref _)) (fun it s₂ => TurnsAt _ _ _ _ _ _ _ _ _ it s₂) _ _); k_dflt (refine' iter_listTurns (by exact rfl) (by k_asm) (by k_asm) (by k_mem) (by exact rfl) (by exact rfl) ?_; k_whole); intro zzi' zzl1; (try k_lt zzl1)) | fail)
  (k_with "m agr" => first | (first | assumption | exact agree_over | exact agree_refl | (refine agree_store ?_ (by decide); k_extra "m agr")) | fail)
  (k_with "compareOp NotEq ref ref" => first | (k_here; (with_reducible show wpAny _ _ (compareOp CmpOp.NotEq (Value.ref _) (Value.ref _)) _ _ _); k_dflt (refine' ne_empty (by k_asm) (by k_mem) (by k_mem) (by k_extra "m un") (by first | assumption | exact rfl) ?_; k_whole)) | fail)
  (k_with "m sub" => first | (first | assumption | ((with_reducible apply sub_tl); k_extra "m sub") | k_extra "m subh") | fail)
  (k_with "execs cons" => first | (k_here; (try dsimp only); (refine' exec_cons_h ?_); intro zztk' zzG' zzhG'; (try (rename PyProof.Rows.News _ _ _ _ => zznN'; dsimp only at zznN'))) | fail)
  (k_with "execs nil" => first | (k_here; (refine' exec_nil_g ?_); intro zztk'; (try (refine qout (by with_reducible assumption) ?_))) | fail)
  (k_with "m leave" => first | (k_end; first | ((try dsimp only); (refine' gnext_cons (by with_reducible assumption) ?_); intro zztk' zzG' zzhG'; (try (rename PyProof.Rows.News _ _ _ _ => zznN'; dsimp only at zznN'))) | (refine gnext (by with_reducible assumption) ?_) | (refine gout (by with_reducible assumption) ?_ ?_; (exact True.intro); (try (refine qout (by with_reducible assumption) ?_)))) | fail)
  (k_with "m k_steps" => first | (repeat' (first | k_extra "m leave" | (k_unfold; (try dsimp only)) | (k_end; wrow_close) | walk1 | (dsimp only; walk1) | (leave1; walk_say "STEP leave1"; try dsimp only) | fail "no step")) | fail)
  (k_with "m pkq" => first | (first | assumption | (apply And.left; first | assumption | (apply And.right; first | assumption | (apply And.right; first | assumption | (apply And.right; first | assumption | (apply And.right; first | assumption | (apply And.right; assumption))))))) | fail)
  (k_with "m pkr" => first | (first | assumption | (apply And.right; first | assumption | (apply And.right; first | assumption | (apply And.right; first | assumption | (apply And.right; first | assumption | (apply And.right; first | assumption | (apply And.right; first | assumption | (apply And.right; first | assumption | (apply And.right; first | assumption | (apply And.right; first | assumption | (apply And.right; first | assumption | (apply And.right; first | assumption | (apply And.right; first | assumption | (apply And.right; first | assumption | (apply And.right; first | assumption | (apply And.right; assumption)))))))))))))))) | fail)
  (k_with "m pk" => first | (first | assumption | (apply And.left; k_extra "m pkr") | (apply And.right; k_extra "m pkr")) | fail)
  (k_with "m omega" => first | (first | ((with_reducible apply neL); with_reducible (k_extra "m pkq")) | ((with_reducible apply neG); with_reducible (k_extra "m pkq")) | ((with_reducible apply neL); with_reducible (k_extra "m pk")) | ((with_reducible apply neG); with_reducible (k_extra "m pk")) | ((with_reducible apply neS); with_reducible (k_extra "m pk")) | ((with_reducible apply lin2); assumption; exact @rfl Bool true) | ((with_reducible apply lin1); assumption; exact @rfl Bool true) | ((with_reducible apply lin0); assumption; exact @rfl Bool true) | ((with_reducible apply lin3); assumption; exact @rfl Bool true) | ((with_reducible apply lin1e); assumption; exact @rfl Bool true) | ((with_reducible apply lin2e); assumption; exact @rfl Bool true) | ((with_reducible apply Nat.le_of_ble_eq_true); exact @rfl Bool true) | ((with_reducible apply om_w); assumption; exact @rfl Bool true) | ((with_reducible apply om_p3); assumption) | ((with_reducible apply om_p2); assumption) | ((with_reducible apply om_p3e); assumption) | (with_reducible apply om_p3r) | ((with_reducible apply om_p4); assumption; exact @rfl Bool true) | ((with_reducible apply om_s); assumption; exact @rfl Bool true) | ((with_reducible apply om_s1); assumption; exact @rfl Bool true) | ((with_reducible apply om_s2); assumption; exact @rfl Bool true) | ((with_reducible apply om_i); assumption; decide +kernel) | ((with_reducible apply om_i2); assumption; assumption; decide +kernel) | ((with_reducible apply om_n); decide +kernel) | (with_reducible apply Int.natCast_nonneg) | ((with_reducible apply om_k); assumption; decide +kernel) | with_reducible (k_extra "m pk")) | fail)
  (k_with "m k_ne" => first | ((with_reducible apply PySem.W.neN); (try dsimp only); omega) | fail)
  (k_with "spliced" => first | (k_here; (with_reducible show wpAny _ _ (spliced (backTo _ (starEach (PySem.Expr.Name _ _ :: _) _))) _ _ _); k_dflt (refine' args_nm (by exact rfl) (by k_asm) (by exact @rfl _ (some _)) (by kernel_rfl) (by exact rfl) (by kernel_rfl) ?_; k_whole)) | fail)
  (k_with "eval Subscript" => first | (k_here; (with_reducible show wpAny _ _ (eval (PySem.Expr.Subscript (PySem.Expr.Name _ _) _ _) _) _ _ _); k_dflt (refine' sub_nm (by exact rfl) (by k_asm) (by exact @rfl _ (some _)) (by kernel_rfl) (by exact rfl) (by kernel_rfl) ?_; k_whole)) | fail)
  (k_with "isTrue Compare" => first | (k_here; (with_reducible show wpAny _ _ (isTrue (PySem.Expr.Compare (PySem.Expr.Name _ _) [_] [_] _) _ _) _ _ _); k_dflt (refine' cmp_nm (by exact rfl) (by k_asm) (by exact @rfl _ (some _)) (by kernel_rfl) (by exact rfl) (by kernel_rfl) (by with_unfolding_all rfl) ?_; k_whole)) | fail)
  (k_with "eval Attribute Name" => first | (k_here; (with_reducible show wpAny _ _ (eval (PySem.Expr.Attribute (PySem.Expr.Name _ _) _ _) _) _ _ _); k_dflt (refine' att_nm (by exact rfl) (by k_asm) (by exact @rfl _ (some _)) (by kernel_rfl) (by exact rfl) (by kernel_rfl) ?_; k_whole)) | fail)
  (k_with "m k_upd" => first | (first | ((with_reducible apply PySem.W.Upd.head); k_all) | ((with_reducible apply PySem.W.Upd.tail); k_ne; k_upd)) | fail)
  (k_with "m k_updF" => first | (first | ((with_reducible apply PySem.W.UpdF.head); k_all) | ((with_reducible apply PySem.W.UpdF.tail); k_ne; k_updF)) | fail)
  (k_with "spliced" => first | (k_here; (with_reducible show wpAny _ _ (spliced (backTo _ (starEach (PySem.Expr.Constant (PySem.Const.str _) _ _ :: _) _))) _ _ _); k_dflt (refine' args_str ?_; k_whole)) | fail)
  (k_with "eval Subscript" => first | (k_here; (with_reducible show wpAny _ _ (eval (PySem.Expr.Subscript (PySem.Expr.Name _ _) (PySem.Expr.Constant (PySem.Const.int _) _ _) _) _) _ _ _); k_dflt (refine' sub_it (by exact rfl) (by k_asm) (by exact @rfl _ (some _)) (by kernel_rfl) (by exact rfl) (by kernel_rfl) (by k_asm) (by k_mem) (by exact @rfl _ (some _)) ?_; k_whole)) | fail)
  (k_with "exec If" => first | (k_here; (with_reducible show wpAny _ _ (exec (PySem.Stmt.If (PySem.Expr.Compare (PySem.Expr.Name _ _) [_] [_] _) _ _ _) _) _ _ _); k_dflt (refine' if_nm (by exact rfl) (by k_asm) (by exact @rfl _ (some _)) (by kernel_rfl) (by exact rfl) (by kernel_rfl) (by with_unfolding_all rfl) ?_; k_whole)) | fail)
  (k_with "eval Constant str" => first | (k_here; (with_reducible show wpAny _ _ (eval (PySem.Expr.Constant (PySem.Const.str _) _ _) _) (fun b s₂ => wpAny _ _ (compareOp CmpOp.Eq (Value.str _ _) b) (fun c s₃ => wpAny _ _ (truthy c) _ _ s₃) _ s₂) _ _); (with_reducible refine' eq_cst ?_); k_whole) | fail)
  (k_with "spliced" => first | (k_here; (with_reducible show wpAny _ _ (spliced (backTo _ (starEach [] _))) (fun vs s₂ => wpAny _ _ (newTuple _) _ _ s₂) _ _); with_reducible refine' nil_tup (by k_dflt k_asm) (by k_dflt k_asm) (by k_dflt (exact Nat.le_of_ble_eq_true rfl)) ?_; k_whole; intro zzD' zzh' zzF' zzN' zzl1; (try k_lt zzl1); (try k_sweep)) | fail)
  (k_with "spliced" => first | (k_here; (with_reducible show wpAny _ _ (spliced (backTo _ (starEach [] _))) (fun vs s₂ => wpAny _ _ (newList _) _ _ s₂) _ _); with_reducible refine' nil_lst (by k_dflt k_asm) (by k_dflt k_asm) (by k_dflt (exact Nat.le_of_ble_eq_true rfl)) ?_; k_whole; intro zzl' zzh' zzF' zzN' zzl1; (try k_lt zzl1); (try k_sweep)) | fail)
  exact trivial
section
variable {w : World} {loose : List Str} {mean : ExcName → Option Value} {mg mb : Str → Option Value} {fz news : Led}
section
variable {prog : Program} {A : Around} {E Q : Value → Shared → Prop} {h : Heap} {g : Array GenState} {d : Drawn} {X : Nat} {os : OsState}
theorem add_nm {x y : Str} {t u : Tok} (hn : y = "go" ∨ y = "come") (k : ∀ z tk tk', Q (.str z tk) ⟨h, g, d, tk', os⟩) (b1 : (x ++ ("go" : Str)).length ≤ sizeLine) (b2 : (x ++ ("come" : Str)).length ≤ sizeLine) :
    wpAny (model prog w) A (binaryOp .Add (.str x t) (.str y u)) Q E ⟨h, g, d, X, os⟩ := by
  refine PySem.P.add_str ?_
  by_cases h1 : (x.length == 0) = true
  · rw [if_pos h1]; exact k _ _ _
  · rw [if_neg h1]
    by_cases h2 : (y.length == 0) = true
    · rw [if_pos h2]; exact k _ _ _
    · rw [if_neg h2]
      exact ⟨by rcases hn with rfl | rfl; exact b1; exact b2, k _ _ _⟩
end
theorem kw13_1 : True := by
  (k_with "binaryOp Add str str" => first | (k_here; (with_reducible show wpAny _ _ (binaryOp Operator.Add (Value.str _ _) (Value.str _ _)) _ _ _); k_dflt (refine' add_nm (by assumption) ?_ (by decide +kernel) (by decide +kernel); k_whole); intro zzz9 zztk8 zztk9) | fail)
  (k_with "m k_mem" => first | (exact mem_via2 (by assumption) (by assumption)) | fail)
  (k_with "m con" => first | (first | exact inherent_c (w := w) (by k_extra "m sub") (by assumption) (by assumption) (by assumption) (by assumption) (by assumption) (by assumption) (by assumption) | exact oftraits_c (w := w) (by k_extra "m sub") (by assumption) (by assumption) (by assumption) (by assumption) (by assumption) (by assumption) (by assumption) (by assumption)) | fail)
  (k_with "m out" => first | (intro zzn9 zzr9 zzo9; (obtain ⟨zzl9, zzv9, zze9, zzn8, zze1, zze2, zze3, zze4, zze5⟩ := zzo9; subst zze1; subst zze2; first | (have zzq9 := Mine.sub_trans zze3 (Mine.sub_tl (by assumption)); have zzq8 := zze3 _ (List.Mem.head _)) | (have zzq9 := Mine.sub_trans zze3 (by assumption)))) | fail)
  (k_with "pyIter ref" => first | (k_here; (with_reducible show wpAny _ _ (pyIter (Value.ref _)) (fun it s₂ => TurnsAt _ _ _ _ _ _ _ _ _ it s₂) _ _); k_dflt (refine' iter_tupTurns (by exact rfl) (by k_asm) (by k_asm) (by k_mem) (by exact rfl) (by exact rfl) ?_; k_whole); intro zzi' zzl1; (try k_lt zzl1)) | fail)
  (k_with "call builtin:len" => first | (k_here; (with_reducible show wpAny _ _ (call (Value.builtin "len") [Value.ref _]) _ _ _); k_dflt (refine' len_lst (by k_asm) (by k_mem) (by simp only [List.length_cons]; omega) ?_; k_whole); intro zzt' zztk') | fail)
  (k_with "subscriptTail Name Constant ref int" => first | (k_here; (with_reducible show wpAny _ _ (subscriptTail _ _ (Value.ref _) (Value.int _ _)) _ _ _); k_dflt (refine' lst_item (by k_asm) (by k_mem) (by decide) (by decide) (by exact rfl) (by exact rfl) ?_ (by with_unfolding_all rfl); k_whole)) | fail)
  (k_with "exec Raise some none" => first | (k_here; k_dflt (refine' Raise_x (C := 64) (by k_asm) (by kts_isx) (by exact rfl) ?_; k_whole)) | fail)
  (k_with "call ref" => first | (k_here; (with_reducible show wpAny _ _ (call (Value.ref _) [Value.str _ _]) _ _ _); k_dflt (refine' wpAny_less (d := 500) (u := 2000) (by ((try dsimp +zetaDelta only); (try dsimp only [ktrTop, Around.deeper]); omega)) (by ((try dsimp +zetaDelta only); have zzhcl9 := cLine_is; (try simp only [units_in1, units_deeper, Around.mark_units, units_caller]); (try dsimp only [ktrTop]); omega)) (Mine.mk64 (by exact Frag.In.keeps (by k_asm) (Fr.keep (by k_asm))) ?_); k_whole); intro zze' zzh' zztk' zzx') | fail)
  exact trivial
theorem at_c {pv wv sv bv rv : Value} {nm : Str} {imps : List Imp} {trs : List (Tr × Slf)} {bs : List Tr} {b : Ty} (hs : ∀ p ∈ fz, p ∈ news) (hP : ProbeIn w fz pv wv nm sv) (hS : SelIn w fz sv wv bv) (hW : WorldIn w fz wv imps trs) (hB : BndIn w fz bv bs) (hn : nm = "go" ∨ nm = "come") (hT : TyIn fz rv b) (hb : b.clear = true) (db : b.dep ≤ 40) :
    CallsX w loose mean mg mb 8 221 [pv, rv] news (fun n' r => (∀ p ∈ news, p ∈ n') ∧ RowIs w n' r (atI nm imps trs bs b)) (fun cls => cls = .ref 64 ∧ atI nm imps trs bs b = .fault) := by
  refine hide fun hG9 => ?_
  have hP' := hP
  have hW' := hW
  cases hP with
  | mk p1 p2 =>
  cases hW with
  | @mk x dx sg so tr0 to im vs n t1 t2 t3 t4 t5 t6 t7 t8 v1 v2 v3 v7 v8 es tes imps trs w1 w2 w3 w4 w5 w6 w7 w8 w9 w10 w11 w12 =>
  refine hG9 ?_
  clear hG9
  refine CallsX.of ?_
  k_fill
  intro dp un gd cn cs a' ccd cl outer A₀ base h₀ L m' shh sgg sdd skk soo Q E B F X N T hk hd hu hret herr
  refine wpAny_call ?_
  k_dflt ktr_enter
  refine let_ae ?_
  intro nk ak Q0 hQ0
  (rename Fr _ _ _ _ => F1)
  replace F1 : Fr _ _ _ (fun y => List.lookup y [(("receiver" : Str), _), (("self" : Str), _)]) := F1
  k_steps
  refine hide fun hG9 => ?_
  rename TRows _ _ _ => hR2
  rename IRows _ _ _ _ => hR1
  have hz1 := hR1.small w11 w12
  have hz2 := hR2.small w9
  generalize hv1 : ((imps.filter (hitI nm b)).map (fun x => x.num)) = is at hR1
  generalize hv2 : ((trs.filter (hitT nm imps bs b)).map (fun x => x.1)) = ts at hR2
  have hat : atI nm imps trs bs b = atOf is ts := by rw [← hv1, ← hv2]; rfl
  rename (∀ p ∈ news, p ∈ _) => e1
  rename (∀ p ∈ _ :: _, p ∈ _) => e2
  have e12 := sub_trans e2 (sub_tl e1)
  rcases hR1.split hz1 with ⟨rfl, rfl⟩ | ⟨a1, rfl, ha⟩ | ⟨x1, y1, r1, rfl, hz, ha⟩
  · refine hG9 ?_
    clear hG9
    (try refine hideB fun G8 hG8 => ?_)
    k_steps
    refine unrEndTop (by k_asm) (by k_asm) (by k_extra "m ne") ?_
    refine ⟨⟨.head _, trivial⟩, ?_⟩
    refine hide fun hG9 => ?_
    rcases hR2.split (w := w) hz2 with ⟨rfl, rfl⟩ | ⟨a1, rfl, ha⟩ | ⟨x1, y1, r1, rfl, hz, ha⟩
    · refine hG9 ?_
      clear hG9
      (try refine hideB fun G8 hG8 => ?_)
      k_steps
      refine unrEndTop (by k_asm) (by k_asm) (by k_extra "m ne") ?_
      refine ⟨⟨.head _, trivial⟩, ?_⟩
      (try refine hideB fun G8 hG8 => ?_)
      k_steps
      exact hret _ _ _ _ (by k_asm) (by k_asm) ⟨by k_extra "m subs", by rw [hat]; exact .no⟩
    · refine hG9 ?_
      clear hG9
      (try refine hideB fun G8 hG8 => ?_)
      k_steps
      all_goals first
        | exact absurd (by assumption : (1:Int) < _) (by simp)
        | exact nomatch (by assumption : [Value.ref a1].isEmpty = true)
        | exact hret _ _ _ _ (by k_asm) (by k_asm) ⟨by k_extra "m subs", by rw [hat]; exact ha.mono (by k_extra "m subs")⟩
    · skip
      all_goals (refine hG9 ?_; clear hG9)
      all_goals k_steps
      all_goals try exact absurd (show (1:Int) < ((_ :: _ :: _ : List Value).length : Nat) by simp only [List.length_cons]; omega) (by assumption)
      all_goals (rename NewX _ _ _ _ => x9; refine x9.made (Frag.In.keeps (by k_asm) (Fr.keep (by k_asm))) ?_; show wpAny _ _ (leaving _ _) _ _ _; refine leave_newX (news := news) (by k_asm) x9 (by k_asm) (newsSub (by k_asm) (by k_extra "m subs")) (fun h9 R9 U9 => ?_) (by rfl); exact herr _ _ _ _ _ ⟨rfl, hat.trans ha⟩ (by k_asm) R9 U9)
  · refine hG9 ?_
    clear hG9
    (try refine hideB fun G8 hG8 => ?_)
    k_steps
    all_goals first
      | exact absurd (by assumption : (1:Int) < _) (by simp)
      | exact nomatch (by assumption : [Value.ref _].isEmpty = true)
      | exact hret _ _ _ _ (by k_asm) (by k_asm) ⟨by k_extra "m subs", by rw [hat]; exact (ha ts).mono (by k_extra "m subs")⟩
  · skip
    all_goals (refine hG9 ?_; clear hG9)
    all_goals k_steps
    all_goals try exact absurd (show (1:Int) < ((_ :: _ :: _ : List Value).length : Nat) by simp only [List.length_cons]; omega) (by assumption)
    all_goals (rename NewX _ _ _ _ => x9; refine x9.made (Frag.In.keeps (by k_asm) (Fr.keep (by k_asm))) ?_; show wpAny _ _ (leaving _ _) _ _ _; refine leave_newX (news := news) (by k_asm) x9 (by k_asm) (newsSub (by k_asm) (by k_extra "m subs")) (fun h9 R9 U9 => ?_) (by rfl); exact herr _ _ _ _ _ ⟨rfl, hat.trans (ha ts)⟩ (by k_asm) R9 U9)
end
theorem kw14_0 : True := by
  k_with_none
  (k_with "m k_mem" => first | (first | ktr_member | (with_reducible apply mem_hd) | ((with_reducible apply mem_tl); k_mem) | exact mem_via (by assumption) (by assumption)) | fail)
  (k_with "subscriptTail Name Constant ref int" => first | (k_here; (with_reducible show wpAny _ _ (subscriptTail _ _ (Value.ref _) (Value.int _ _)) _ _ _); k_dflt (refine' tup_item (by k_asm) (by k_mem) (by decide) (by decide) (by exact rfl) (by exact rfl) ?_ (by with_unfolding_all rfl); k_whole)) | fail)
  (k_with "ite" => first | (first | refine ite_t (by with_reducible assumption) ?_ | refine ite_f (by with_reducible assumption) ?_) | fail)
  (k_with "m lt" => first | (first | assumption | (apply PySem.W.allLt_of; assumption) | (apply allLt_tl; assumption) | (apply allLt_tl2; assumption) | with_reducible (k_extra "m pk") | (simp only [AllLt, and_true] at *; first | assumption | omega)) | fail)
  (k_with "m k_all" => first | (first | assumption | (apply ne_of_allNe; k_extra "m ne") | (apply ne_of_allLt; k_extra "m lt")) | fail)
  (k_with "m call" => first | (k_here; k_dflt (refine' Calls.use' (by k_asm) (by k_asm) (by k_asm) (by k_asm) (by k_asm) (by first | exact rfl | assumption) (by k_extra "m con") (by first | omega | (dsimp only [ktrTop]; omega)) (by k_extra "m un") ?_; k_whole); ((intro zzG9 zzhG9; k_dflt (k_extra "m out")) <;> (refine zzhG9 _ _ ?_; intro zzh9 zztk9 zzF9 zzN9; (try k_sweep)))) | fail)
  (k_with "m out" => first | (intro zzn9 zzr9 zzo9; (first | (obtain ⟨zze1, zze2⟩ := zzo9; subst zze1; subst zze2) | (obtain ⟨zze1, zzt9, zze2⟩ := zzo9; subst zze1; subst zze2) | (obtain ⟨zzl9, zze9, zze2, zze1, zzq9⟩ := zzo9; subst zze1; subst zze2; (simp only [AllLt, and_true] at zzq9)) | (obtain ⟨zzl9, zze9, zzp9, zzm9, zzx9, zzy9, zze2, zze1, zzq1, zzq2, zzq3, zzq4⟩ := zzo9; subst zze1; subst zze2; (simp only [AllLt, and_true] at zzq3); obtain ⟨zza8, zzn8, zzt8, zzr8, zze8, zzm8⟩ := Mine.TyIn.head zzq1; subst zze8; obtain ⟨zza7, zzn7, zzt7, zzr7, zze7, zzm7⟩ := Mine.TyIn.head zzq2; subst zze7) | (rcases zzo9 with ⟨zze3, zze1, zzt9, zze2⟩ | ⟨zze3, zze1, zzt9, zze2⟩ <;> (subst zze1; subst zze2)))) | fail)
  (k_with "m un" => first | ((try dsimp +zetaDelta only); (have zzhcl9 := cLine_is); (try simp only [units_in1, units_deeper, Around.mark_units, units_caller]); (try dsimp only [ktrTop]); omega) | fail)
  (k_with "m dp" => first | (first | assumption | (simp only [Ty.dep]; omega) | decide) | fail)
  (k_with "exec While BoolOp" => first | (k_here; k_dflt (refine whl_start 8 ?_)) | fail)
  (k_with "m k_room" => first | ((try dsimp +zetaDelta only); (try simp only [depth_under_make, depth_under_kw, depth_in1, depth_deeper, depth_caller]); (try dsimp only [ktrTop]); have zzhrl9 : recursionLimit = 1000 := rfl; omega) | fail)
  (k_with "eval Name" => first | (k_here; (fail_if_success with_reducible show wpAny _ _ (eval _ (compEnvC _ _ _ _)) _ _ _); k_dflt (refine' nameX_L (by k_asm) (by exact @rfl _ (some _)) ?_ (by kernel_rfl) (rfl) (by kernel_rfl); k_whole)) | fail)
  (k_with "ite" => first | (k_closed; first | refine ite_t (by decide +kernel) ?_ | refine ite_f (by decide +kernel) ?_) | fail)
  (k_with "m for" => first | (k_here; (rename Fr _ _ _ _ => zzlF'); (with_unfolding_all refine' For_turns zzlF' ?_; k_whole)) | fail)
  (k_with "m pick" => first | (with_reducible (k_extra "m pk")) | fail)
  (k_with "m ne" => first | (first | with_reducible (first | assumption | (apply allNe_of; assumption) | (apply allNe_off; assumption) | (apply allNe_lt; apply PySem.W.allLt_of; assumption)) | ((with_reducible apply allNe_cons); k_ne; k_extra "m ne") | with_reducible (k_extra "m pkq") | (apply allNe_lt; with_reducible (k_extra "m pkq")) | with_reducible (k_extra "m pk") | (apply allNe_lt; with_reducible (k_extra "m pk")) | (apply allNe_off; with_reducible (k_extra "m pk")) | (apply allNe_lt; apply allLt_tl; assumption) | (with_reducible apply allNe_nil)) | fail)
  (k_with "m subh" => first | (with_reducible (apply sub_hd; first | assumption | (apply sub_hd; first | assumption | (apply sub_hd; first | assumption | (apply sub_hd; first | assumption | (apply sub_hd; first | assumption | (apply sub_hd; first | assumption | (apply sub_hd; first | assumption | (apply sub_hd; first | assumption | (apply sub_hd; assumption)))))))))) | fail)
  (k_with "m subs" => first | (first | (with_reducible apply sub_refl) | assumption | ((with_reducible apply subs_cons); k_mem; k_extra "m subs") | ((with_reducible apply sub_tl); k_extra "m subs") | (with_reducible apply List.forall_mem_nil) | k_extra "m subh") | fail)
  (k_with "getMethod ref" => first | (k_here; (with_reducible show wpAny _ _ (getMethod (Value.ref _) (Str.ofString "get") _) _ _ _); k_dflt (refine' kdg_method (knd := PySem.strKind _ _) (by k_asm) (by k_mem) (by k_asm) ?_; k_whole)) | fail)
  (k_with "compareOp In str ref" => first | (k_here; (with_reducible show wpAny _ _ (compareOp CmpOp.In (Value.str _ _) (Value.ref _)) _ _ _); k_dflt (first | (refine' kda_in (knd := PySem.strKind _ _) (by k_asm) (by k_mem) (by k_asm) (by k_asm) (strKind_is _ _ _ _) true (by first | assumption | exact rfl) ?_; k_whole) | (refine' kda_in (knd := PySem.strKind _ _) (by k_asm) (by k_mem) (by k_asm) (by k_asm) (strKind_is _ _ _ _) false (by first | assumption | exact rfl) ?_; k_whole))) | fail)
  (k_with "compareOp In str ref" => first | (k_here; (with_reducible show wpAny _ _ (compareOp CmpOp.In (Value.str _ _) (Value.ref _)) _ _ _); (with_unfolding_all refine' in_tuple_strs (by exact tup_of (by k_asm) (by k_mem)) (by kde_strs) ?_; k_whole)) | fail)
  (k_with "m agr" => first | (first | assumption | exact agree_over | exact agree_refl | (refine agree_store ?_ (by decide); k_extra "m agr")) | fail)
  (k_with "m sub" => first | (first | assumption | ((with_reducible apply sub_tl); k_extra "m sub") | k_extra "m subh") | fail)
  (k_with "execs cons" => first | (k_here; (try dsimp only); (refine' exec_cons_h ?_); intro zztk' zzG' zzhG'; (try (rename PyProof.Rows.News _ _ _ _ => zznN'; dsimp only at zznN'))) | fail)
  (k_with "execs nil" => first | (k_here; (refine' exec_nil_g ?_); intro zztk'; (try (refine qout (by with_reducible assumption) ?_))) | fail)
  (k_with "m leave" => first | (k_end; first | ((try dsimp only); (refine' gnext_cons (by with_reducible assumption) ?_); intro zztk' zzG' zzhG'; (try (rename PyProof.Rows.News _ _ _ _ => zznN'; dsimp only at zznN'))) | (refine gnext (by with_reducible assumption) ?_) | (refine gout (by with_reducible assumption) ?_ ?_; (exact True.intro); (try (refine qout (by with_reducible assumption) ?_)))) | fail)
  (k_with "m k_steps" => first | (repeat' (first | k_extra "m leave" | (k_unfold; (try dsimp only)) | (k_end; wrow_close) | walk1 | (dsimp only; walk1) | (leave1; walk_say "STEP leave1"; try dsimp only) | fail "no step")) | fail)
  (k_with "m pkq" => first | (first | assumption | (apply And.left; first | assumption | (apply And.right; first | assumption | (apply And.right; first | assumption | (apply And.right; first | assumption | (apply And.right; first | assumption | (apply And.right; assumption))))))) | fail)
  (k_with "m pkr" => first | (first | assumption | (apply And.right; first | assumption | (apply And.right; first | assumption | (apply And.right; first | assumption | (apply And.right; first | assumption | (apply And.right; first | assumption | (apply And.right; first | assumption | (apply And.right; first | assumption | (apply And.right; first | assumption | (apply And.right; first | assumption | (apply And.right; first | assumption | (apply And.right; first | assumption | (apply And.right; first | assumption | (apply And.right; first | assumption | (apply And.right; first | assumption | (apply And.right; assumption)))))))))))))))) | fail)
  (k_with "m pk" => first | (first | assumption | (apply And.left; k_extra "m pkr") | (apply And.right; k_extra "m pkr")) | fail)
  (k_with "m omega" => first | (first | ((with_reducible apply neL); with_reducible (k_extra "m pkq")) | ((with_reducible apply neG); with_reducible (k_extra "m pkq")) | ((with_reducible apply neL); with_reducible (k_extra "m pk")) | ((with_reducible apply neG); with_reducible (k_extra "m pk")) | ((with_reducible apply neS); with_reducible (k_extra "m pk")) | ((with_reducible apply lin2); assumption; exact @rfl Bool true) | ((with_reducible apply lin1); assumption; exact @rfl Bool true) | ((with_reducible apply lin0); assumption; exact @rfl Bool true) | ((with_reducible apply lin3); assumption; exact @rfl Bool true) | ((with_reducible apply lin1e); assumption; exact @rfl Bool true) | ((with_reducible apply lin2e); assumption; exact @rfl Bool true) | ((with_reducible apply Nat.le_of_ble_eq_true); exact @rfl Bool true) | ((with_reducible apply om_w); assumption; exact @rfl Bool true) | ((with_reducible apply om_p3); assumption) | ((with_reducible apply om_p2); assumption) | ((with_reducible apply om_p3e); assumption) | (with_reducible apply om_p3r) | ((with_reducible apply om_p4); assumption; exact @rfl Bool true) | ((with_reducible apply om_s); assumption; exact @rfl Bool true) | ((with_reducible apply om_s1); assumption; exact @rfl Bool true) | ((with_reducible apply om_s2); assumption; exact @rfl Bool true) | ((with_reducible apply om_i); assumption; decide +kernel) | ((with_reducible apply om_i2); assumption; assumption; decide +kernel) | ((with_reducible apply om_n); decide +kernel) | (with_reducible apply Int.natCast_nonneg) | ((with_reducible apply om_k); assumption; decide +kernel) | with_reducible (k_extra "m pk")) | fail)
  (k_with "m k_ne" => first | ((with_reducible apply PySem.W.neN); (try dsimp only); omega) | fail)
  (k_with "spliced" => first | (k_here; (with_reducible show wpAny _ _ (spliced (backTo _ (starEach (PySem.Expr.Name _ _ :: _) _))) _ _ _); k_dflt (refine' args_nm (by exact rfl) (by k_asm) (by exact @rfl _ (some _)) (by kernel_rfl) (by exact rfl) (by kernel_rfl) ?_; k_whole)) | fail)
  (k_with "eval Subscript" => first | (k_here; (with_reducible show wpAny _ _ (eval (PySem.Expr.Subscript (PySem.Expr.Name _ _) _ _) _) _ _ _); k_dflt (refine' sub_nm (by exact rfl) (by k_asm) (by exact @rfl _ (some _)) (by kernel_rfl) (by exact rfl) (by kernel_rfl) ?_; k_whole)) | fail)
  (k_with "isTrue Compare" => first | (k_here; (with_reducible show wpAny _ _ (isTrue (PySem.Expr.Compare (PySem.Expr.Name _ _) [_] [_] _) _ _) _ _ _); k_dflt (refine' cmp_nm (by exact rfl) (by k_asm) (by exact @rfl _ (some _)) (by kernel_rfl) (by exact rfl) (by kernel_rfl) (by with_unfolding_all rfl) ?_; k_whole)) | fail)
  (k_with "m k_upd" => first | (first | ((with_reducible apply PySem.W.Upd.head); k_all) | ((with_reducible apply PySem.W.Upd.tail); k_ne; k_upd)) | fail)
  (k_with "m k_updF" => first | (first | ((with_reducible apply PySem.W.UpdF.head); k_all) | ((with_reducible apply PySem.W.UpdF.tail); k_ne; k_updF)) | fail)
  (k_with "spliced" => first | (k_here; (with_reducible show wpAny _ _ (spliced (backTo _ (starEach (PySem.Expr.Constant (PySem.Const.str _) _ _ :: _) _))) _ _ _); k_dflt (refine' args_str ?_; k_whole)) | fail)
  (k_with "eval Subscript" => first | (k_here; (with_reducible show wpAny _ _ (eval (PySem.Expr.Subscript (PySem.Expr.Name _ _) (PySem.Expr.Constant (PySem.Const.int _) _ _) _) _) _ _ _); k_dflt (refine' sub_it (by exact rfl) (by k_asm) (by exact @rfl _ (some _)) (by kernel_rfl) (by exact rfl) (by kernel_rfl) (by k_asm) (by k_mem) (by exact @rfl _ (some _)) ?_; k_whole)) | fail)
  (k_with "eval Constant str" => first | (k_here; (with_reducible show wpAny _ _ (eval (PySem.Expr.Constant (PySem.Const.str _) _ _) _) (fun b s₂ => wpAny _ _ (compareOp CmpOp.Eq (Value.str _ _) b) (fun c s₃ => wpAny _ _ (truthy c) _ _ s₃) _ s₂) _ _); (with_reducible refine' eq_cst ?_); k_whole) | fail)
  (k_with "exec Assign" => first | (k_here; (with_reducible show wpAny _ _ (exec (PySem.Stmt.Assign [PySem.Expr.Attribute (PySem.Expr.Name _ _) _ _] (PySem.Expr.Name _ _) _) _) _ _ _); k_dflt (refine' set_nm (by exact rfl) (by k_asm) (by exact @rfl _ (some _)) (by exact @rfl _ (some _)) (by kernel_rfl) (by exact rfl) (by exact rfl) (by kernel_rfl) (by kernel_rfl) (by k_asm) (by k_asm) (by k_inst) (by exact rfl) (by k_is) (by k_is) (by k_is) (by k_is) (by k_get) (by k_put) (by k_upd) (by exact Nat.le_of_ble_eq_true rfl) (by exact rfl) ?_; k_whole); intro zzh' zzF' zzN'; (try k_sweep)) | fail)
  (k_with "spliced" => first | (k_here; (with_reducible show wpAny _ _ (spliced (backTo _ (starEach [] _))) (fun vs s₂ => wpAny _ _ (newTuple _) _ _ s₂) _ _); with_reducible refine' nil_tup (by k_dflt k_asm) (by k_dflt k_asm) (by k_dflt (exact Nat.le_of_ble_eq_true rfl)) ?_; k_whole; intro zzD' zzh' zzF' zzN' zzl1; (try k_lt zzl1); (try k_sweep)) | fail)
  (k_with "spliced" => first | (k_here; (with_reducible show wpAny _ _ (spliced (backTo _ (starEach [] _))) (fun vs s₂ => wpAny _ _ (newList _) _ _ s₂) _ _); with_reducible refine' nil_lst (by k_dflt k_asm) (by k_dflt k_asm) (by k_dflt (exact Nat.le_of_ble_eq_true rfl)) ?_; k_whole; intro zzl' zzh' zzF' zzN' zzl1; (try k_lt zzl1); (try k_sweep)) | fail)
  exact trivial
section
variable {w : World} {loose : List Str} {mean : ExcName → Option Value} {mg mb : Str → Option Value} {fz news : Led}
section
variable {prog : Program} {A : Around} {E : Value → Shared → Prop} {env : Env} {h₀ : Heap} {L : Addr} {s : Shared} {Q : Flow → Shared → Prop}
inductive StpEnd (h₀ : Heap) (L : Addr) (s : Shared) (x y : Str) (S : Addr) (fz nf : Led) (t u : Ty) : Shared → Prop
  | mk {h' tk m vs v u' ep} : Fr h₀ L h' m → m x = some v → m y = some (.ref S) → News h₀ L h' ((S, listOf (vs ++ [v]).toArray ep) :: nf) → TyIn fz v u' → u'.dep < u.dep → vs.length + u'.chain.length = t.chain.length → (∀ ws, TysIn fz ws u'.chain → TysIn fz (vs ++ ws) t.chain) → StpEnd h₀ L s x y S fz nf t u { s with heap := h', toks := tk }
inductive StpJ (x y : Str) (S : Addr) (fz nf : Led) (t : Ty) : Nat → (Str → Option Value) → Led → Prop
  | mk {m vs v u ep} : m x = some v → m y = some (.ref S) → TyIn fz v u → vs.length + u.chain.length = t.chain.length → (∀ ws, TysIn fz ws u.chain → TysIn fz (vs ++ ws) t.chain) → StpJ x y S fz nf t u.dep m ((S, listOf (vs ++ [v]).toArray ep) :: nf)
theorem StpEnd.intro {x y : Str} {S : Addr} {nf all : Led} {t u u' : Ty} {h' : Heap} {tk : Nat} {m : Str → Option Value} {vs : List Value} {v : Value} {ep : Nat} (F : Fr h₀ L h' m) (N : News h₀ L h' all) (hn : ∀ p ∈ (S, listOf (vs ++ [v]).toArray ep) :: nf, p ∈ all) (hx : m x = some v) (hy : m y = some (.ref S)) (hT : TyIn fz v u') (hd : u'.dep < u.dep)
    (hl : vs.length + u'.chain.length = t.chain.length) (hw : ∀ ws, TysIn fz ws u'.chain → TysIn fz (vs ++ ws) t.chain) : StpEnd h₀ L s x y S fz nf t u { s with heap := h', toks := tk } :=
  .mk F hx hy (newsSub N hn) hT hd hl hw
noncomputable def StpPost (h₀ : Heap) (L : Addr) (s : Shared) (x y : Str) (S : Addr) (fz nf : Led) (t u : Ty) (Q : Flow → Shared → Prop) (f : Flow) (s₂ : Shared) : Prop :=
  match f with
  | .ret v => Q (.ret v) s₂
  | .brk => Q .next s₂
  | _ => StpEnd h₀ L s x y S fz nf t u s₂
structure Held (P : Prop) : Prop where
  get : P
theorem parts_while (x y : Str) {test : PySem.Expr} {body : List Stmt} {pos : Pos} {S : Addr} {v₀ : Value} {t : Ty} {n0 : Nat} {nf : Led} {m₀ : Str → Option Value} (F : Fr h₀ L s.heap m₀) (N : News h₀ L s.heap ((S, listOf (List.toArray [v₀]) n0) :: nf)) (hx : m₀ x = some v₀) (hy : m₀ y = some (.ref S)) (hT : TyIn fz v₀ t)
    (turn : Held (∀ vs v u ep h tk m, TyIn fz v u → vs.length + u.chain.length = t.chain.length → (∀ ws, TysIn fz ws u.chain → TysIn fz (vs ++ ws) t.chain) → m x = some v → m y = some (.ref S) → Fr h₀ L h m → News h₀ L h ((S, listOf (vs ++ [v]).toArray ep) :: nf) →
      wpAny (model prog w) A (isTrue test env (eval test env)) (fun b s₂ => if b = true then wpAny (model prog w) A (execs body env) (StpPost h₀ L s x y S fz nf t u Q) E s₂ else Q .next s₂) E { s with heap := h, toks := tk }))
    (hE : PassesOwn (model prog w) A env E) :
    wpAny (model prog w) A (exec (.While test body [] pos) env) Q E s := by
  refine While_inv2 (StpJ x y S fz nf t) F N (n₀ := t.dep) (.mk (vs := []) hx hy hT (Nat.zero_add _) (fun _ h => h)) ?_ hE
  intro n m₁ nx h tk F₁ N₁ z90
  cases z90 with
  | @mk _ vs v u ep h8 h9 h1 h2 h3 =>
  refine wpAny_mono (turn.get vs v u ep h tk m₁ h1 h2 h3 h8 h9 F₁ N₁) (fun b s₂ p => ?_) fun _ _ x => x
  cases b with
  | false => simpa using p
  | true =>
    simp only [if_true] at p ⊢
    refine wpAny_mono p (fun f s₃ q => ?_) fun _ _ x => x
    cases f with
    | ret v => exact q
    | brk => exact q
    | next =>
      cases q with
      | mk F' hx' hy' N' h4 h5 h6 h7 => exact ⟨_, _, _, _, _, rfl, F', N', h5, .mk hx' hy' h4 h6 h7⟩
    | cont =>
      cases q with
      | mk F' hx' hy' N' h4 h5 h6 h7 => exact ⟨_, _, _, _, _, rfl, F', N', h5, .mk hx' hy' h4 h6 h7⟩
end
theorem kw14_1 : True := by
  (k_with "m mm" => first | (first | (with_reducible apply mem_hd) | ((with_reducible apply mem_tl); k_extra "m mm")) | fail)
  (k_with "m k_mem" => first | (exact mem_via2 (by assumption) (by assumption)) | fail)
  (k_with "exec While BoolOp" => first | (k_here; k_dflt (refine' parts_while "T" "found" (by k_asm) (by k_asm) (by exact rfl) (by exact rfl) (by assumption) ?turn (by passes_own); k_whole)) | fail)
  (k_with "eval Name" => first | (k_here; k_dflt (refine' nameX_L (by k_asm) (by assumption) ?_ (by kernel_rfl) (rfl) (by kernel_rfl); k_whole)) | fail)
  (k_with "call builtin:len" => first | (k_here; (with_reducible show wpAny _ _ (call (Value.builtin "len") [Value.ref _]) _ _ _); k_dflt (refine' len_lst (by k_asm) (by k_extra "m mm") (by assumption) ?_; k_whole); intro zzt' zztk') | fail)
  exact trivial
theorem steps_c {v : Value} {t : Ty} (hs : ∀ p ∈ fz, p ∈ news) (hT : TyIn fz v t) (hc : t.chain.length ≤ 3) :
    Calls w loose mean mg mb 1 172 [v] news (fun n' r => ∃ l vs ep, r = .ref l ∧ (l, listOf vs.toArray ep) ∈ n' ∧ (∀ p ∈ news, p ∈ n') ∧ TysIn fz vs t.chain) := by
  refine hide fun hG9 => ?_
  have hT' := hT
  obtain @⟨a0, k0, t0, r0, m0⟩ := hT'.head
  refine hG9 ?_
  clear hG9
  refine Calls.of ?_
  k_fill
  intro dp un gd cn cs a' ccd cl outer A₀ base h₀ L m' shh sgg sdd skk soo Q E B F X N T hk hd hu hret
  refine wpAny_call ?_
  k_dflt ktr_enter
  refine let_ae ?_
  intro nk ak Q0 hQ0
  (rename Fr _ _ _ _ => F1)
  replace F1 : Fr _ _ _ (fun y => List.lookup y [(("T" : Str), _)]) := F1
  k_steps
  refine Held.mk ?_
  intro vs v u ep h tk m q9 hl9 K9 hx9 hy9 F9 N9
  refine hide fun hG9 => ?_
  have h4 : vs.length ≤ 3 := by omega
  have hsz : (vs ++ [v]).length ≤ 1024 := by rw [List.length_append, List.length_singleton]; omega
  have h12 : (((vs ++ [v]).length : Nat) : Int) < 12 := by rw [List.length_append, List.length_singleton]; omega
  have q8 := q9
  rcases q9.split with @⟨a3, k3, t3, m3, x3, u3, rfl, h3, g3⟩ | @⟨a3, k3, t3, x3, u3, rfl, h3, g3⟩ | @⟨a3, k3, t3, r3, e3, h3, f3⟩
  · refine hG9 ?_
    clear hG9
    k_steps
    all_goals first
      | exact absurd h12 (by assumption)
      | (rename News _ _ _ _ => Nz; rw [List.push_toArray] at Nz; exact StpEnd.intro (m := fun y => if y = ("T" : Str) then some x3 else m y) (vs := vs ++ [Value.ref a3]) (v := x3) (u' := u3) (by k_asm) Nz (List.forall_mem_cons.mpr ⟨.tail _ (.head _), fun p hp => .tail _ (.tail _ hp)⟩) rfl (by exact hy9) g3 (Nat.lt_succ_self _) (by rw [← hl9]; simp only [Ty.chain, List.length_append, List.length_cons, List.length_nil]; omega) (fun ws hws => by rw [List.append_assoc]; exact K9 _ (TysIn.ref q8 hws)))
  · refine hG9 ?_
    clear hG9
    k_steps
    all_goals first
      | exact absurd h12 (by assumption)
      | (rename News _ _ _ _ => Nz; rw [List.push_toArray] at Nz; exact StpEnd.intro (m := fun y => if y = ("T" : Str) then some x3 else m y) (vs := vs ++ [Value.ref a3]) (v := x3) (u' := u3) (by k_asm) Nz (List.forall_mem_cons.mpr ⟨.tail _ (.head _), fun p hp => .tail _ (.tail _ hp)⟩) rfl (by exact hy9) g3 (Nat.lt_succ_self _) (by rw [← hl9]; simp only [Ty.chain, List.length_append, List.length_cons, List.length_nil]; omega) (fun ws hws => by rw [List.append_assoc]; exact K9 _ (TysIn.box q8 hws)))
  · refine hG9 ?_
    clear hG9
    k_steps
    exact hret _ _ _ _ (by k_asm) (by k_asm) ⟨_, _, _, rfl, by k_extra "m mm", by k_extra "m subs", K9 _ (TysIn.last q8 e3)⟩
end
theorem kw15_0 : True := by
  k_with_none
  (k_with "m k_mem" => first | (first | ktr_member | (with_reducible apply mem_hd) | ((with_reducible apply mem_tl); k_mem) | exact mem_via (by assumption) (by assumption)) | fail)
  (k_with "ite" => first | (first | refine ite_t (by with_reducible assumption) ?_ | refine ite_f (by with_reducible assumption) ?_) | fail)
  (k_with "m lt" => first | (first | assumption | (apply PySem.W.allLt_of; assumption) | (apply allLt_tl; assumption) | (apply allLt_tl2; assumption) | with_reducible (k_extra "m pk") | (simp only [AllLt, and_true] at *; first | assumption | omega)) | fail)
  (k_with "m k_all" => first | (first | assumption | (apply ne_of_allNe; k_extra "m ne") | (apply ne_of_allLt; k_extra "m lt")) | fail)
  (k_with "m call" => first | (k_here; k_dflt (refine' Calls.use' (by k_asm) (by k_asm) (by k_asm) (by k_asm) (by k_asm) (by first | exact rfl | assumption) (by k_extra "m con") (by first | omega | (dsimp only [ktrTop]; omega)) (by k_extra "m un") ?_; k_whole); ((intro zzG9 zzhG9; k_dflt (k_extra "m out")) <;> (refine zzhG9 _ _ ?_; intro zzh9 zztk9 zzF9 zzN9; (try k_sweep)))) | fail)
  (k_with "m out" => first | (intro zzn9 zzr9 zzo9; (first | (obtain ⟨zze1, zze2⟩ := zzo9; subst zze1; subst zze2) | (obtain ⟨zze1, zzt9, zze2⟩ := zzo9; subst zze1; subst zze2) | (obtain ⟨zzl9, zze9, zze2, zze1, zzq9⟩ := zzo9; subst zze1; subst zze2; (simp only [AllLt, and_true] at zzq9)) | (obtain ⟨zzl9, zze9, zzp9, zzm9, zzx9, zzy9, zze2, zze1, zzq1, zzq2, zzq3, zzq4⟩ := zzo9; subst zze1; subst zze2; (simp only [AllLt, and_true] at zzq3); obtain ⟨zza8, zzn8, zzt8, zzr8, zze8, zzm8⟩ := Mine.TyIn.head zzq1; subst zze8; obtain ⟨zza7, zzn7, zzt7, zzr7, zze7, zzm7⟩ := Mine.TyIn.head zzq2; subst zze7) | (rcases zzo9 with ⟨zze3, zze1, zzt9, zze2⟩ | ⟨zze3, zze1, zzt9, zze2⟩ <;> (subst zze1; subst zze2)))) | fail)
  (k_with "call ref" => first | (k_extra "m call") | fail)
  (k_with "m un" => first | ((try dsimp +zetaDelta only); (have zzhcl9 := cLine_is); (try simp only [units_in1, units_deeper, Around.mark_units, units_caller]); (try dsimp only [ktrTop]); omega) | fail)
  (k_with "m dp" => first | (first | assumption | (simp only [Ty.dep]; omega) | decide) | fail)
  (k_with "m k_room" => first | ((try dsimp +zetaDelta only); (try simp only [depth_under_make, depth_under_kw, depth_in1, depth_deeper, depth_caller]); (try dsimp only [ktrTop]); have zzhrl9 : recursionLimit = 1000 := rfl; omega) | fail)
  (k_with "eval Name" => first | (k_here; (fail_if_success with_reducible show wpAny _ _ (eval _ (compEnvC _ _ _ _)) _ _ _); k_dflt (refine' nameX_L (by k_asm) (by exact @rfl _ (some _)) ?_ (by kernel_rfl) (rfl) (by kernel_rfl); k_whole)) | fail)
  (k_with "ite" => first | (k_closed; first | refine ite_t (by decide +kernel) ?_ | refine ite_f (by decide +kernel) ?_) | fail)
  (k_with "exec For Name Call cons nil" => first | (k_extra "m for") | fail)
  (k_with "exec For Tuple Tuple cons nil" => first | (k_extra "m for") | fail)
  (k_with "m for" => first | (k_here; (rename Fr _ _ _ _ => zzlF'); (with_unfolding_all refine' For_turns zzlF' ?_; k_whole)) | fail)
  (k_with "m pick" => first | (with_reducible (k_extra "m pk")) | fail)
  (k_with "m ne" => first | (first | with_reducible (first | assumption | (apply allNe_of; assumption) | (apply allNe_off; assumption) | (apply allNe_lt; apply PySem.W.allLt_of; assumption)) | ((with_reducible apply allNe_cons); k_ne; k_extra "m ne") | with_reducible (k_extra "m pkq") | (apply allNe_lt; with_reducible (k_extra "m pkq")) | with_reducible (k_extra "m pk") | (apply allNe_lt; with_reducible (k_extra "m pk")) | (apply allNe_off; with_reducible (k_extra "m pk")) | (apply allNe_lt; apply allLt_tl; assumption) | (with_reducible apply allNe_nil)) | fail)
  (k_with "m subh" => first | (with_reducible (apply sub_hd; first | assumption | (apply sub_hd; first | assumption | (apply sub_hd; first | assumption | (apply sub_hd; first | assumption | (apply sub_hd; first | assumption | (apply sub_hd; first | assumption | (apply sub_hd; first | assumption | (apply sub_hd; first | assumption | (apply sub_hd; assumption)))))))))) | fail)
  (k_with "m subs" => first | (first | (with_reducible apply sub_refl) | assumption | ((with_reducible apply subs_cons); k_mem; k_extra "m subs") | ((with_reducible apply sub_tl); k_extra "m subs") | (with_reducible apply List.forall_mem_nil) | k_extra "m subh") | fail)
  (k_with "getMethod ref" => first | (k_here; (with_reducible show wpAny _ _ (getMethod (Value.ref _) (Str.ofString "get") _) _ _ _); k_dflt (refine' kdg_method (knd := PySem.strKind _ _) (by k_asm) (by k_mem) (by k_asm) ?_; k_whole)) | fail)
  (k_with "pyIter ref" => first | (k_here; (with_reducible show wpAny _ _ (pyIter (Value.ref _)) (fun it s₂ => TurnsAt _ _ _ _ _ _ _ _ _ it s₂) _ _); k_dflt (refine' iter_listTurns (by exact rfl) (by k_asm) (by k_asm) (by k_mem) (by exact rfl) (by exact rfl) ?_; k_whole); intro zzi' zzl1; (try k_lt zzl1)) | fail)
  (k_with "m agr" => first | (first | assumption | exact agree_over | exact agree_refl | (refine agree_store ?_ (by decide); k_extra "m agr")) | fail)
  (k_with "m sub" => first | (first | assumption | ((with_reducible apply sub_tl); k_extra "m sub") | k_extra "m subh") | fail)
  (k_with "execs cons" => first | (k_here; (try dsimp only); (refine' exec_cons_h ?_); intro zztk' zzG' zzhG'; (try (rename PyProof.Rows.News _ _ _ _ => zznN'; dsimp only at zznN'))) | fail)
  (k_with "execs nil" => first | (k_here; (refine' exec_nil_g ?_); intro zztk'; (try (refine qout (by with_reducible assumption) ?_))) | fail)
  (k_with "m leave" => first | (k_end; first | ((try dsimp only); (refine' gnext_cons (by with_reducible assumption) ?_); intro zztk' zzG' zzhG'; (try (rename PyProof.Rows.News _ _ _ _ => zznN'; dsimp only at zznN'))) | (refine gnext (by with_reducible assumption) ?_) | (refine gout (by with_reducible assumption) ?_ ?_; (exact True.intro); (try (refine qout (by with_reducible assumption) ?_)))) | fail)
  (k_with "m k_steps" => first | (repeat' (first | k_extra "m leave" | (k_unfold; (try dsimp only)) | (k_end; wrow_close) | walk1 | (dsimp only; walk1) | (leave1; walk_say "STEP leave1"; try dsimp only) | fail "no step")) | fail)
  (k_with "m pkq" => first | (first | assumption | (apply And.left; first | assumption | (apply And.right; first | assumption | (apply And.right; first | assumption | (apply And.right; first | assumption | (apply And.right; first | assumption | (apply And.right; assumption))))))) | fail)
  (k_with "m pkr" => first | (first | assumption | (apply And.right; first | assumption | (apply And.right; first | assumption | (apply And.right; first | assumption | (apply And.right; first | assumption | (apply And.right; first | assumption | (apply And.right; first | assumption | (apply And.right; first | assumption | (apply And.right; first | assumption | (apply And.right; first | assumption | (apply And.right; first | assumption | (apply And.right; first | assumption | (apply And.right; first | assumption | (apply And.right; first | assumption | (apply And.right; first | assumption | (apply And.right; assumption)))))))))))))))) | fail)
  (k_with "m pk" => first | (first | assumption | (apply And.left; k_extra "m pkr") | (apply And.right; k_extra "m pkr")) | fail)
  (k_with "m omega" => first | (first | ((with_reducible apply neL); with_reducible (k_extra "m pkq")) | ((with_reducible apply neG); with_reducible (k_extra "m pkq")) | ((with_reducible apply neL); with_reducible (k_extra "m pk")) | ((with_reducible apply neG); with_reducible (k_extra "m pk")) | ((with_reducible apply neS); with_reducible (k_extra "m pk")) | ((with_reducible apply lin2); assumption; exact @rfl Bool true) | ((with_reducible apply lin1); assumption; exact @rfl Bool true) | ((with_reducible apply lin0); assumption; exact @rfl Bool true) | ((with_reducible apply lin3); assumption; exact @rfl Bool true) | ((with_reducible apply lin1e); assumption; exact @rfl Bool true) | ((with_reducible apply lin2e); assumption; exact @rfl Bool true) | ((with_reducible apply Nat.le_of_ble_eq_true); exact @rfl Bool true) | ((with_reducible apply om_w); assumption; exact @rfl Bool true) | ((with_reducible apply om_p3); assumption) | ((with_reducible apply om_p2); assumption) | ((with_reducible apply om_p3e); assumption) | (with_reducible apply om_p3r) | ((with_reducible apply om_p4); assumption; exact @rfl Bool true) | ((with_reducible apply om_s); assumption; exact @rfl Bool true) | ((with_reducible apply om_s1); assumption; exact @rfl Bool true) | ((with_reducible apply om_s2); assumption; exact @rfl Bool true) | ((with_reducible apply om_i); assumption; decide +kernel) | ((with_reducible apply om_i2); assumption; assumption; decide +kernel) | ((with_reducible apply om_n); decide +kernel) | (with_reducible apply Int.natCast_nonneg) | ((with_reducible apply om_k); assumption; decide +kernel) | with_reducible (k_extra "m pk")) | fail)
  (k_with "m k_ne" => first | ((with_reducible apply PySem.W.neN); (try dsimp only); omega) | fail)
  (k_with "spliced" => first | (k_here; (with_reducible show wpAny _ _ (spliced (backTo _ (starEach (PySem.Expr.Name _ _ :: _) _))) _ _ _); k_dflt (refine' args_nm (by exact rfl) (by k_asm) (by exact @rfl _ (some _)) (by kernel_rfl) (by exact rfl) (by kernel_rfl) ?_; k_whole)) | fail)
  (k_with "eval Subscript" => first | (k_here; (with_reducible show wpAny _ _ (eval (PySem.Expr.Subscript (PySem.Expr.Name _ _) _ _) _) _ _ _); k_dflt (refine' sub_nm (by exact rfl) (by k_asm) (by exact @rfl _ (some _)) (by kernel_rfl) (by exact rfl) (by kernel_rfl) ?_; k_whole)) | fail)
  (k_with "isTrue Compare" => first | (k_here; (with_reducible show wpAny _ _ (isTrue (PySem.Expr.Compare (PySem.Expr.Name _ _) [_] [_] _) _ _) _ _ _); k_dflt (refine' cmp_nm (by exact rfl) (by k_asm) (by exact @rfl _ (some _)) (by kernel_rfl) (by exact rfl) (by kernel_rfl) (by with_unfolding_all rfl) ?_; k_whole)) | fail)
  (k_with "m k_upd" => first | (first | ((with_reducible apply PySem.W.Upd.head); k_all) | ((with_reducible apply PySem.W.Upd.tail); k_ne; k_upd)) | fail)
  (k_with "m k_updF" => first | (first | ((with_reducible apply PySem.W.UpdF.head); k_all) | ((with_reducible apply PySem.W.UpdF.tail); k_ne; k_updF)) | fail)
  (k_with "spliced" => first | (k_here; (with_reducible show wpAny _ _ (spliced (backTo _ (starEach (PySem.Expr.Constant (PySem.Const.str _) _ _ :: _) _))) _ _ _); k_dflt (refine' args_str ?_; k_whole)) | fail)
  (k_with "eval Subscript" => first | (k_here; (with_reducible show wpAny _ _ (eval (PySem.Expr.Subscript (PySem.Expr.Name _ _) (PySem.Expr.Constant (PySem.Const.int _) _ _) _) _) _ _ _); k_dflt (refine' sub_it (by exact rfl) (by k_asm) (by exact @rfl _ (some _)) (by kernel_rfl) (by exact rfl) (by kernel_rfl) (by k_asm) (by k_mem) (by exact @rfl _ (some _)) ?_; k_whole)) | fail)
  (k_with "exec If" => first | (k_here; (with_reducible show wpAny _ _ (exec (PySem.Stmt.If (PySem.Expr.Compare (PySem.Expr.Name _ _) [_] [_] _) _ _ _) _) _ _ _); k_dflt (refine' if_nm (by exact rfl) (by k_asm) (by exact @rfl _ (some _)) (by kernel_rfl) (by exact rfl) (by kernel_rfl) (by with_unfolding_all rfl) ?_; k_whole)) | fail)
  (k_with "eval Constant str" => first | (k_here; (with_reducible show wpAny _ _ (eval (PySem.Expr.Constant (PySem.Const.str _) _ _) _) (fun b s₂ => wpAny _ _ (compareOp CmpOp.Eq (Value.str _ _) b) (fun c s₃ => wpAny _ _ (truthy c) _ _ s₃) _ s₂) _ _); (with_reducible refine' eq_cst ?_); k_whole) | fail)
  (k_with "exec Assign" => first | (k_here; (with_reducible show wpAny _ _ (exec (PySem.Stmt.Assign [PySem.Expr.Attribute (PySem.Expr.Name _ _) _ _] (PySem.Expr.Name _ _) _) _) _ _ _); k_dflt (refine' set_nm (by exact rfl) (by k_asm) (by exact @rfl _ (some _)) (by exact @rfl _ (some _)) (by kernel_rfl) (by exact rfl) (by exact rfl) (by kernel_rfl) (by kernel_rfl) (by k_asm) (by k_asm) (by k_inst) (by exact rfl) (by k_is) (by k_is) (by k_is) (by k_is) (by k_get) (by k_put) (by k_upd) (by exact Nat.le_of_ble_eq_true rfl) (by exact rfl) ?_; k_whole); intro zzh' zzF' zzN'; (try k_sweep)) | fail)
  (k_with "spliced" => first | (k_here; (with_reducible show wpAny _ _ (spliced (backTo _ (starEach [] _))) (fun vs s₂ => wpAny _ _ (newTuple _) _ _ s₂) _ _); with_reducible refine' nil_tup (by k_dflt k_asm) (by k_dflt k_asm) (by k_dflt (exact Nat.le_of_ble_eq_true rfl)) ?_; k_whole; intro zzD' zzh' zzF' zzN' zzl1; (try k_lt zzl1); (try k_sweep)) | fail)
  (k_with "spliced" => first | (k_here; (with_reducible show wpAny _ _ (spliced (backTo _ (starEach [] _))) (fun vs s₂ => wpAny _ _ (newList _) _ _ s₂) _ _); with_reducible refine' nil_lst (by k_dflt k_asm) (by k_dflt k_asm) (by k_dflt (exact Nat.le_of_ble_eq_true rfl)) ?_; k_whole; intro zzl' zzh' zzF' zzN' zzl1; (try k_lt zzl1); (try k_sweep)) | fail)
  exact trivial
section
variable {w : World} {loose : List Str} {mean : ExcName → Option Value} {mg mb : Str → Option Value} {fz news : Led}
theorem at_cN {fz2 : Led} {pv wv sv bv rv : Value} {nm : Str} {imps : List Imp} {trs : List (Tr × Slf)} {bs : List Tr} {b : Ty} (hP : ProbeIn w fz pv wv nm sv) (hS : SelIn w fz sv wv bv) (hW : WorldIn w fz wv imps trs) (hB : BndIn w fz bv bs) (hn : nm = "go" ∨ nm = "come") (hT : TyIn fz2 rv b) (hb : b.clear = true) (db : b.dep ≤ 40) (hs : ∀ p ∈ fz, p ∈ news) (hs2 : ∀ p ∈ fz2, p ∈ news) :
    CallsX w loose mean mg mb 8 221 [pv, rv] news (fun n' r => (∀ p ∈ news, p ∈ n') ∧ RowIs w n' r (atI nm imps trs bs b)) (fun cls => cls = .ref 64 ∧ atI nm imps trs bs b = .fault) :=
  at_c (fun _ h => h) (hP.mono hs) (hS.mono hs) (hW.mono hs) (hB.mono hs) hn (hT.mono hs2) hb db
theorem kw15_1 : True := by
  (k_with "m k_mem" => first | (exact mem_via2 (by assumption) (by assumption)) | fail)
  (k_with "m con" => first | (first | exact steps_c (w := w) (by k_extra "m sub") (by assumption) (by assumption)) | fail)
  (k_with "m out" => first | (intro zzn9 zzr9 zzo9; (obtain ⟨zzl9, zzv9, zze9, zze1, zzm9, zzs9, zzt9⟩ := zzo9; subst zze1)) | fail)
  (k_with "call builtin:len" => first | (k_here; (with_reducible show wpAny _ _ (call (Value.builtin "len") [Value.ref _]) _ _ _); k_dflt (refine' len_lst (by k_asm) (by k_mem) (by rw [Mine.TysIn.length (by assumption)]; omega) ?_; k_whole); intro zzt' zztk') | fail)
  (k_with "call type:range" => first | (k_here; (with_reducible show wpAny _ _ (call (Value.type "range") [Value.int _ _]) (fun xv s₁ => wpAny _ _ (pyIter xv) (fun it s₂ => TurnsAt _ _ _ _ _ _ _ _ _ it s₂) _ s₁) _ _); k_dflt (refine' rng_for (by exact rfl) (by k_asm) (by k_asm) (by rw [Mine.TysIn.length (by assumption)]; omega) ?_; k_whole); intro zzi' zzl1; (try k_lt zzl1)) | fail)
  (k_with "pyIter ref" => first | (k_here; (with_reducible show wpAny _ _ (pyIter (Value.ref _)) (fun it s₂ => TurnsAt _ _ _ _ _ _ _ _ _ it s₂) _ _); k_dflt (refine' tup_src (by exact rfl) (by k_asm) (by k_asm) (by k_mem) ?_; k_whole); intro zzi' zzl1; (try k_lt zzl1); intro zzxs' zzex') | fail)
  (k_with "subscriptTail Name Name ref int" => first | (k_here; (with_reducible show wpAny _ _ (subscriptTail _ _ (Value.ref _) (Value.int _ _)) _ _ _); k_dflt (refine' lst_item (by k_asm) (by k_mem) (by omega) (by omega) (by exact Int.toNat_natCast _) (by assumption) ?_ (by with_unfolding_all rfl); k_whole)) | fail)
  (k_with "exec Raise some none" => first | (k_here; k_dflt (refine' Raise_x (C := 52) (by k_asm) (by kts_isx) (by exact rfl) ?_; k_whole)) | fail)
  (k_with "binaryOp Add str str" => first | (k_here; (with_reducible show wpAny _ _ (binaryOp Operator.Add (Value.str _ _) (Value.str _ _)) _ _ _); k_dflt (refine' add_nm (by assumption) ?_ (by decide +kernel) (by decide +kernel); k_whole); intro zzz9 zztk8 zztk9) | fail)
  (k_with "call ref" => first | (k_here; (with_reducible show wpAny _ _ (call (Value.ref _) [Value.str _ _]) _ _ _); k_dflt (refine' wpAny_less (d := 500) (u := 2000) (by ((try dsimp +zetaDelta only); (try dsimp only [ktrTop, Around.deeper]); omega)) (by ((try dsimp +zetaDelta only); have zzhcl9 := cLine_is; (try simp only [units_in1, units_deeper, Around.mark_units, units_caller]); (try dsimp only [ktrTop]); omega)) (Mine.mk52 (by exact Frag.In.keeps (by k_asm) (Fr.keep (by k_asm))) ?_); k_whole); intro zze' zzh' zztk' zzx') | fail)
  (k_with "call ref" => first | (k_here; k_dflt (refine' CallsX.use (by k_asm) (by k_asm) (by k_asm) (by k_asm) (by k_asm) (by first | exact rfl | assumption) (by exact at_cN (w := w) (by assumption) (by assumption) (by assumption) (by assumption) (by assumption) (by assumption) (by assumption) (by assumption) (by k_extra "m subs") (by k_extra "m subs")) (by first | omega | ((try dsimp +zetaDelta only); (try dsimp only [ktrTop]); omega)) (by k_extra "m un") ?ok ?bad; k_whole); case' ok => (intro zzr9 zzn9 zzh9 zztk9 zzF9 zzN9 zzo9; obtain ⟨zzs9, zzq9⟩ := zzo9; rcases zzq9.split with ⟨zze1, zze2⟩ | ⟨zza9, zze1, zzq8, zzq7, zzq6⟩ <;> subst zze1)) | fail)
  exact trivial
theorem find_c {wv v bv : Value} {nm : Str} {tn : Tok} {imps : List Imp} {trs : List (Tr × Slf)} {bs : List Tr} {t : Ty} (hs : ∀ p ∈ fz, p ∈ news) (hW : WorldIn w fz wv imps trs) (hB : BndIn w fz bv bs) (hn : nm = "go" ∨ nm = "come") (hT : TyIn fz v t) (hc : t.chain.length ≤ 3) (hcu : ∀ u ∈ t.chain, u = .var ∨ (u.clear = true ∧ u.dep ≤ 20)) :
    CallsX w loose mean mg mb 10 235 [wv, v, .str nm tn, bv] news (fun n' r => (∀ p ∈ news, p ∈ n') ∧ FndIs w n' r (findP (atI nm imps trs bs) t.chain 0)) (fun cls => (cls = .ref 64 ∧ findP (atI nm imps trs bs) t.chain 0 = .fault) ∨ (cls = .ref 52 ∧ findP (atI nm imps trs bs) t.chain 0 = .unk)) := by
  refine hide fun hG9 => ?_
  have hW' := hW
  have hB' := hB
  have hT' := hT
  obtain @⟨a0, n0, t0, r0, m0⟩ := hT.head
  cases hW with
  | @mk x dx sg so tr0 to im vs n t1 t2 t3 t4 t5 t6 t7 t8 v1 v2 v3 v7 v8 es tes imps trs w1 w2 w3 w4 w5 w6 w7 w8 w9 w10 w11 w12 =>
  have hbh : ∃ b, bv = .ref b := by cases hB <;> exact ⟨_, rfl⟩
  obtain ⟨b0, rfl⟩ := hbh
  refine hG9 ?_
  clear hG9
  refine CallsX.of ?_
  k_fill
  intro dp un gd cn cs a' ccd cl outer A₀ base h₀ L m' shh sgg sdd skk soo Q E B F X N T hk hd hu hret herr
  refine wpAny_call ?_
  k_dflt ktr_enter
  refine let_ae ?_
  intro nk ak Q0 hQ0
  (rename Fr _ _ _ _ => F1)
  replace F1 : Fr _ _ _ (fun y => List.lookup y [(("bounds" : Str), _), (("name" : Str), _), (("T" : Str), _), (("world" : Str), _)]) := F1
  k_steps
  rename (∀ p ∈ _ :: _, p ∈ _) => s9
  rename TysIn _ _ _ => t9
  have p1 := s9 _ (.tail _ (.tail _ (.head _)))
  have p2 := s9 _ (.tail _ (.tail _ (.tail _ (.head _))))
  have P1 := ProbeIn.mk p1 p2
  have P2 := SelIn.mk (s9 _ (.head _)) (s9 _ (.tail _ (.head _)))
  have s8 : ∀ p ∈ fz, p ∈ _ := fun p hp => s9 _ (.tail _ (.tail _ (.tail _ (.tail _ (hs p hp)))))
  have s7 : ∀ p ∈ news, p ∈ _ := fun p hp => s9 _ (.tail _ (.tail _ (.tail _ (.tail _ hp))))
  have t8 := t9.mono s8
  have hl8 := t8.length
  refine fix_ind ["derefs", "here", "autoref", "receiver", "found"] (FindAt (atI nm imps trs bs) t.chain) (List.range _) (FindAt.start hl8) ?_ ?_
  · intro a r u v' h tk o hP z98 F9 ho N9
    refine hide fun hG9 => ?_
    obtain ⟨tt, rfl⟩ := z98
    obtain ⟨q1, q2, q3⟩ := hP.step
    obtain ⟨vd, td, e1, e2, e3, e4⟩ := t8.at (d := a) (by omega)
    obtain @⟨ad, nd, tkd, rd, md⟩ := e3.head
    rcases hcu td e4 with rfl | ⟨c1, c2⟩
    · skip
      all_goals (refine hG9 ?_; clear hG9)
      all_goals k_steps
      all_goals (rename NewX _ _ _ _ => x9; refine x9.made (Frag.In.keeps (by k_asm) (Fr.keep (by k_asm))) ?_; show wpAny _ _ (leaving _ _) _ _ _; refine leave_newX (news := news) (by k_asm) x9 (by k_asm) (newsSub (by k_asm) (sub_tl s7)) (fun h9 R9 U9 => ?_) (by rfl); exact herr _ _ _ _ _ (.inr ⟨rfl, by rw [← q2, e2]; exact findP_var⟩) (by k_asm) R9 U9)
    · have kd1 := (clear_kd c1).1
      have kd2 := (clear_kd c1).2
      have W8 := hW'.mono s8
      have B8 := hB'.mono s8
      refine hG9 ?_
      clear hG9
      (try refine hideB fun G8 hG8 => ?_)
      k_steps
      rename (_ = List.map _ _) => ex
      subst ex
      refine recv_ind ["autoref", "receiver", "found"] (atI nm imps trs bs) a (recvs td) (recv_start (by k_mem) (by k_mem) (by k_mem) (by k_mem) (by k_mem) (e3.mono (by k_extra "m subs")) c1 c2) ?_ ?_
      · intro D av k aa c b r' ps u' h' tk' o' m1 m2 m3 m4 m5 m6 m7 F9 ho' N9
        (try refine hideB fun G8 hG8 => ?_)
        k_steps
        · rename (∀ p ∈ _ :: _, p ∈ _) => s6
          exact fix_end (by k_asm) (by k_asm) s6 (by k_extra "m ne") ⟨.head _, trivial⟩ (by k_extra "m agr") ⟨ps, m6, by rw [← m7, tryR_no (by assumption)]⟩
        · rename (∀ p ∈ _ :: _, p ∈ _) => s6
          rename RowIs _ _ _ _ => q8
          exact hret _ _ _ _ (by k_asm) (by k_asm) ⟨sub_tl (sub_trans s6 (by k_extra "m subs")), by rw [← q2, e2, findP_some (clear_ne c1) (m7.symm.trans (tryR_hit (by assumption) (by assumption)))]; exact .hit (.head _) (q8.mono (sub_tl fun _ h => h)) m2⟩
        · rename RaisedSN _ _ _ _ _ _ _ => R8
          rename (_ ∧ atI _ _ _ _ _ = _) => xc
          obtain ⟨rfl, xf⟩ := xc
          exact leave_onSN (by k_asm) (by assumption) R8 (by assumption) (fun h9 R9 _ U9 => herr _ _ _ _ _ (.inl ⟨rfl, by rw [← q2, e2, findP_some (clear_ne c1) (m7.symm.trans (tryR_fault xf))]⟩) (by k_asm) (Mine.RaisedSN.less R9 (by k_extra "m subs")) U9)
      · intro u' h' tk' m7 F9 N9
        (try refine hideB fun G8 hG8 => ?_)
        k_steps
        exact fix_end (by k_asm) (by k_asm) (by k_extra "m subs") (by k_extra "m ne") trivial (agree_over2 (by k_extra "m agr") (by decide)) (q3 td e2 (findP_none (clear_ne c1) m7))
  · rintro u h tk hP F9 N9
    (try refine hideB fun G8 hG8 => ?_)
    k_steps
    exact hret _ _ _ _ (by k_asm) (by k_asm) ⟨s7, by rw [hP.end]; exact .no⟩
end
theorem kw16_0 : True := by
  k_with_none
  (k_with "m k_mem" => first | (first | ktr_member | (with_reducible apply mem_hd) | ((with_reducible apply mem_tl); k_mem) | exact mem_via (by assumption) (by assumption)) | fail)
  (k_with "ite" => first | (first | refine ite_t (by with_reducible assumption) ?_ | refine ite_f (by with_reducible assumption) ?_) | fail)
  (k_with "m lt" => first | (first | assumption | (apply PySem.W.allLt_of; assumption) | (apply allLt_tl; assumption) | (apply allLt_tl2; assumption) | with_reducible (k_extra "m pk") | (simp only [AllLt, and_true] at *; first | assumption | omega)) | fail)
  (k_with "m k_all" => first | (first | assumption | (apply ne_of_allNe; k_extra "m ne") | (apply ne_of_allLt; k_extra "m lt")) | fail)
  (k_with "m call" => first | (k_here; k_dflt (refine' Calls.use' (by k_asm) (by k_asm) (by k_asm) (by k_asm) (by k_asm) (by first | exact rfl | assumption) (by k_extra "m con") (by first | omega | (dsimp only [ktrTop]; omega)) (by k_extra "m un") ?_; k_whole); ((intro zzG9 zzhG9; k_dflt (k_extra "m out")) <;> (refine zzhG9 _ _ ?_; intro zzh9 zztk9 zzF9 zzN9; (try k_sweep)))) | fail)
  (k_with "m out" => first | (intro zzn9 zzr9 zzo9; (first | (obtain ⟨zze1, zze2⟩ := zzo9; subst zze1; subst zze2) | (obtain ⟨zze1, zzt9, zze2⟩ := zzo9; subst zze1; subst zze2) | (obtain ⟨zzl9, zze9, zze2, zze1, zzq9⟩ := zzo9; subst zze1; subst zze2; (simp only [AllLt, and_true] at zzq9)) | (obtain ⟨zzl9, zze9, zzp9, zzm9, zzx9, zzy9, zze2, zze1, zzq1, zzq2, zzq3, zzq4⟩ := zzo9; subst zze1; subst zze2; (simp only [AllLt, and_true] at zzq3); obtain ⟨zza8, zzn8, zzt8, zzr8, zze8, zzm8⟩ := Mine.TyIn.head zzq1; subst zze8; obtain ⟨zza7, zzn7, zzt7, zzr7, zze7, zzm7⟩ := Mine.TyIn.head zzq2; subst zze7) | (rcases zzo9 with ⟨zze3, zze1, zzt9, zze2⟩ | ⟨zze3, zze1, zzt9, zze2⟩ <;> (subst zze1; subst zze2)))) | fail)
  (k_with "call ref" => first | (k_extra "m call") | fail)
  (k_with "m un" => first | ((try dsimp +zetaDelta only); (have zzhcl9 := cLine_is); (try simp only [units_in1, units_deeper, Around.mark_units, units_caller]); (try dsimp only [ktrTop]); omega) | fail)
  (k_with "m dp" => first | (first | assumption | (simp only [Ty.dep]; omega) | decide) | fail)
  (k_with "m k_room" => first | ((try dsimp +zetaDelta only); (try simp only [depth_under_make, depth_under_kw, depth_in1, depth_deeper, depth_caller]); (try dsimp only [ktrTop]); have zzhrl9 : recursionLimit = 1000 := rfl; omega) | fail)
  (k_with "eval Name" => first | (k_here; (fail_if_success with_reducible show wpAny _ _ (eval _ (compEnvC _ _ _ _)) _ _ _); k_dflt (refine' nameX_L (by k_asm) (by exact @rfl _ (some _)) ?_ (by kernel_rfl) (rfl) (by kernel_rfl); k_whole)) | fail)
  (k_with "ite" => first | (k_closed; first | refine ite_t (by decide +kernel) ?_ | refine ite_f (by decide +kernel) ?_) | fail)
  (k_with "m for" => first | (k_here; (rename Fr _ _ _ _ => zzlF'); (with_unfolding_all refine' For_turns zzlF' ?_; k_whole)) | fail)
  (k_with "m pick" => first | (with_reducible (k_extra "m pk")) | fail)
  (k_with "m ne" => first | (first | with_reducible (first | assumption | (apply allNe_of; assumption) | (apply allNe_off; assumption) | (apply allNe_lt; apply PySem.W.allLt_of; assumption)) | ((with_reducible apply allNe_cons); k_ne; k_extra "m ne") | with_reducible (k_extra "m pkq") | (apply allNe_lt; with_reducible (k_extra "m pkq")) | with_reducible (k_extra "m pk") | (apply allNe_lt; with_reducible (k_extra "m pk")) | (apply allNe_off; with_reducible (k_extra "m pk")) | (apply allNe_lt; apply allLt_tl; assumption) | (with_reducible apply allNe_nil)) | fail)
  (k_with "m subh" => first | (with_reducible (apply sub_hd; first | assumption | (apply sub_hd; first | assumption | (apply sub_hd; first | assumption | (apply sub_hd; first | assumption | (apply sub_hd; first | assumption | (apply sub_hd; first | assumption | (apply sub_hd; first | assumption | (apply sub_hd; first | assumption | (apply sub_hd; assumption)))))))))) | fail)
  (k_with "m subs" => first | (first | (with_reducible apply sub_refl) | assumption | ((with_reducible apply subs_cons); k_mem; k_extra "m subs") | ((with_reducible apply sub_tl); k_extra "m subs") | (with_reducible apply List.forall_mem_nil) | k_extra "m subh") | fail)
  (k_with "m agr" => first | (first | assumption | exact agree_over | exact agree_refl | (refine agree_store ?_ (by decide); k_extra "m agr")) | fail)
  (k_with "compareOp Eq ref ref" => first | (k_here; (with_reducible show wpAny _ _ (compareOp CmpOp.Eq (Value.ref _) (Value.ref _)) _ _ _); k_dflt (refine' eq_empty (by k_asm) (by k_mem) (by k_mem) (by k_extra "m un") (by first | assumption | exact rfl) ?_; k_whole)) | fail)
  (k_with "m sub" => first | (first | assumption | ((with_reducible apply sub_tl); k_extra "m sub") | k_extra "m subh") | fail)
  (k_with "execs cons" => first | (k_here; (try dsimp only); (refine' exec_cons_h ?_); intro zztk' zzG' zzhG'; (try (rename PyProof.Rows.News _ _ _ _ => zznN'; dsimp only at zznN'))) | fail)
  (k_with "execs nil" => first | (k_here; (refine' exec_nil_g ?_); intro zztk'; (try (refine qout (by with_reducible assumption) ?_))) | fail)
  (k_with "m leave" => first | (k_end; first | ((try dsimp only); (refine' gnext_cons (by with_reducible assumption) ?_); intro zztk' zzG' zzhG'; (try (rename PyProof.Rows.News _ _ _ _ => zznN'; dsimp only at zznN'))) | (refine gnext (by with_reducible assumption) ?_) | (refine gout (by with_reducible assumption) ?_ ?_; (exact True.intro); (try (refine qout (by with_reducible assumption) ?_)))) | fail)
  (k_with "m k_steps" => first | (repeat' (first | k_extra "m leave" | (k_unfold; (try dsimp only)) | (k_end; wrow_close) | walk1 | (dsimp only; walk1) | (leave1; walk_say "STEP leave1"; try dsimp only) | fail "no step")) | fail)
  (k_with "m pkq" => first | (first | assumption | (apply And.left; first | assumption | (apply And.right; first | assumption | (apply And.right; first | assumption | (apply And.right; first | assumption | (apply And.right; first | assumption | (apply And.right; assumption))))))) | fail)
  (k_with "m pkr" => first | (first | assumption | (apply And.right; first | assumption | (apply And.right; first | assumption | (apply And.right; first | assumption | (apply And.right; first | assumption | (apply And.right; first | assumption | (apply And.right; first | assumption | (apply And.right; first | assumption | (apply And.right; first | assumption | (apply And.right; first | assumption | (apply And.right; first | assumption | (apply And.right; first | assumption | (apply And.right; first | assumption | (apply And.right; first | assumption | (apply And.right; first | assumption | (apply And.right; assumption)))))))))))))))) | fail)
  (k_with "m pk" => first | (first | assumption | (apply And.left; k_extra "m pkr") | (apply And.right; k_extra "m pkr")) | fail)
  (k_with "m omega" => first | (first | ((with_reducible apply neL); with_reducible (k_extra "m pkq")) | ((with_reducible apply neG); with_reducible (k_extra "m pkq")) | ((with_reducible apply neL); with_reducible (k_extra "m pk")) | ((with_reducible apply neG); with_reducible (k_extra "m pk")) | ((with_reducible apply neS); with_reducible (k_extra "m pk")) | ((with_reducible apply lin2); assumption; exact @rfl Bool true) | ((with_reducible apply lin1); assumption; exact @rfl Bool true) | ((with_reducible apply lin0); assumption; exact @rfl Bool true) | ((with_reducible apply lin3); assumption; exact @rfl Bool true) | ((with_reducible apply lin1e); assumption; exact @rfl Bool true) | ((with_reducible apply lin2e); assumption; exact @rfl Bool true) | ((with_reducible apply Nat.le_of_ble_eq_true); exact @rfl Bool true) | ((with_reducible apply om_w); assumption; exact @rfl Bool true) | ((with_reducible apply om_p3); assumption) | ((with_reducible apply om_p2); assumption) | ((with_reducible apply om_p3e); assumption) | (with_reducible apply om_p3r) | ((with_reducible apply om_p4); assumption; exact @rfl Bool true) | ((with_reducible apply om_s); assumption; exact @rfl Bool true) | ((with_reducible apply om_s1); assumption; exact @rfl Bool true) | ((with_reducible apply om_s2); assumption; exact @rfl Bool true) | ((with_reducible apply om_i); assumption; decide +kernel) | ((with_reducible apply om_i2); assumption; assumption; decide +kernel) | ((with_reducible apply om_n); decide +kernel) | (with_reducible apply Int.natCast_nonneg) | ((with_reducible apply om_k); assumption; decide +kernel) | with_reducible (k_extra "m pk")) | fail)
  (k_with "m k_ne" => first | ((with_reducible apply PySem.W.neN); (try dsimp only); omega) | fail)
  (k_with "spliced" => first | (k_here; (with_reducible show wpAny _ _ (spliced (backTo _ (starEach (PySem.Expr.Name _ _ :: _) _))) _ _ _); k_dflt (refine' args_nm (by exact rfl) (by k_asm) (by exact @rfl _ (some _)) (by kernel_rfl) (by exact rfl) (by kernel_rfl) ?_; k_whole)) | fail)
  (k_with "eval Subscript" => first | (k_here; (with_reducible show wpAny _ _ (eval (PySem.Expr.Subscript (PySem.Expr.Name _ _) _ _) _) _ _ _); k_dflt (refine' sub_nm (by exact rfl) (by k_asm) (by exact @rfl _ (some _)) (by kernel_rfl) (by exact rfl) (by kernel_rfl) ?_; k_whole)) | fail)
  (k_with "isTrue Compare" => first | (k_here; (with_reducible show wpAny _ _ (isTrue (PySem.Expr.Compare (PySem.Expr.Name _ _) [_] [_] _) _ _) _ _ _); k_dflt (refine' cmp_nm (by exact rfl) (by k_asm) (by exact @rfl _ (some _)) (by kernel_rfl) (by exact rfl) (by kernel_rfl) (by with_unfolding_all rfl) ?_; k_whole)) | fail)
  (k_with "m k_upd" => first | (first | ((with_reducible apply PySem.W.Upd.head); k_all) | ((with_reducible apply PySem.W.Upd.tail); k_ne; k_upd)) | fail)
  (k_with "m k_updF" => first | (first | ((with_reducible apply PySem.W.UpdF.head); k_all) | ((with_reducible apply PySem.W.UpdF.tail); k_ne; k_updF)) | fail)
  (k_with "spliced" => first | (k_here; (with_reducible show wpAny _ _ (spliced (backTo _ (starEach (PySem.Expr.Constant (PySem.Const.str _) _ _ :: _) _))) _ _ _); k_dflt (refine' args_str ?_; k_whole)) | fail)
  (k_with "eval Subscript" => first | (k_here; (with_reducible show wpAny _ _ (eval (PySem.Expr.Subscript (PySem.Expr.Name _ _) (PySem.Expr.Constant (PySem.Const.int _) _ _) _) _) _ _ _); k_dflt (refine' sub_it (by exact rfl) (by k_asm) (by exact @rfl _ (some _)) (by kernel_rfl) (by exact rfl) (by kernel_rfl) (by k_asm) (by k_mem) (by exact @rfl _ (some _)) ?_; k_whole)) | fail)
  (k_with "exec If" => first | (k_here; (with_reducible show wpAny _ _ (exec (PySem.Stmt.If (PySem.Expr.Compare (PySem.Expr.Name _ _) [_] [_] _) _ _ _) _) _ _ _); k_dflt (refine' if_nm (by exact rfl) (by k_asm) (by exact @rfl _ (some _)) (by kernel_rfl) (by exact rfl) (by kernel_rfl) (by with_unfolding_all rfl) ?_; k_whole)) | fail)
  (k_with "eval Constant str" => first | (k_here; (with_reducible show wpAny _ _ (eval (PySem.Expr.Constant (PySem.Const.str _) _ _) _) (fun b s₂ => wpAny _ _ (compareOp CmpOp.Eq (Value.str _ _) b) (fun c s₃ => wpAny _ _ (truthy c) _ _ s₃) _ s₂) _ _); (with_reducible refine' eq_cst ?_); k_whole) | fail)
  (k_with "exec Assign" => first | (k_here; (with_reducible show wpAny _ _ (exec (PySem.Stmt.Assign [PySem.Expr.Attribute (PySem.Expr.Name _ _) _ _] (PySem.Expr.Name _ _) _) _) _ _ _); k_dflt (refine' set_nm (by exact rfl) (by k_asm) (by exact @rfl _ (some _)) (by exact @rfl _ (some _)) (by kernel_rfl) (by exact rfl) (by exact rfl) (by kernel_rfl) (by kernel_rfl) (by k_asm) (by k_asm) (by k_inst) (by exact rfl) (by k_is) (by k_is) (by k_is) (by k_is) (by k_get) (by k_put) (by k_upd) (by exact Nat.le_of_ble_eq_true rfl) (by exact rfl) ?_; k_whole); intro zzh' zzF' zzN'; (try k_sweep)) | fail)
  (k_with "spliced" => first | (k_here; (with_reducible show wpAny _ _ (spliced (backTo _ (starEach [] _))) (fun vs s₂ => wpAny _ _ (newTuple _) _ _ s₂) _ _); with_reducible refine' nil_tup (by k_dflt k_asm) (by k_dflt k_asm) (by k_dflt (exact Nat.le_of_ble_eq_true rfl)) ?_; k_whole; intro zzD' zzh' zzF' zzN' zzl1; (try k_lt zzl1); (try k_sweep)) | fail)
  (k_with "spliced" => first | (k_here; (with_reducible show wpAny _ _ (spliced (backTo _ (starEach [] _))) (fun vs s₂ => wpAny _ _ (newList _) _ _ s₂) _ _); with_reducible refine' nil_lst (by k_dflt k_asm) (by k_dflt k_asm) (by k_dflt (exact Nat.le_of_ble_eq_true rfl)) ?_; k_whole; intro zzl' zzh' zzF' zzN' zzl1; (try k_lt zzl1); (try k_sweep)) | fail)
  exact trivial
section
variable {w : World} {loose : List Str} {mean : ExcName → Option Value} {mg mb : Str → Option Value} {fz news : Led}
theorem kw16_1 : True := by
  (k_with "m k_mem" => first | (exact mem_via2 (by assumption) (by assumption)) | fail)
  exact trivial
theorem find_cN {wv v bv : Value} {nm : Str} {tn : Tok} {imps : List Imp} {trs : List (Tr × Slf)} {bs : List Tr} {t : Ty} (hW : WorldIn w fz wv imps trs) (hB : BndIn w fz bv bs) (hT : TyIn fz v t) (hc : t.chain.length ≤ 3) (hcu : ∀ u ∈ t.chain, u = .var ∨ (u.clear = true ∧ u.dep ≤ 20)) (hn : nm = "go" ∨ nm = "come") (hs : ∀ p ∈ fz, p ∈ news) :
    CallsX w loose mean mg mb 10 235 [wv, v, .str nm tn, bv] news (fun n' r => (∀ p ∈ news, p ∈ n') ∧ FndIs w n' r (findP (atI nm imps trs bs) t.chain 0)) (fun cls => (cls = .ref 64 ∧ findP (atI nm imps trs bs) t.chain 0 = .fault) ∨ (cls = .ref 52 ∧ findP (atI nm imps trs bs) t.chain 0 = .unk)) :=
  find_c hs hW hB hn hT hc hcu
theorem kw16_2 : True := by
  (k_with "call ref" => first | (k_here; k_dflt (refine' CallsX.use (by k_asm) (by k_asm) (by k_asm) (by k_asm) (by k_asm) (by first | exact rfl | assumption) (by exact find_cN (w := w) (by assumption) (by assumption) (by assumption) (by assumption) (by assumption) (by first | exact .inl rfl | exact .inr rfl) (by k_extra "m subs")) (by first | omega | ((try dsimp +zetaDelta only); (try dsimp only [ktrTop]); omega)) (by k_extra "m un") ?ok ?bad; k_whole); case' ok => (intro zzr9 zzn9 zzh9 zztk9 zzF9 zzN9 zzo9; obtain ⟨zzs9, zzq9⟩ := zzo9)) | fail)
  (k_with "subscriptTail Name Slice ref ref" => first | (k_here; (with_reducible show wpAny _ _ (subscriptTail _ _ (Value.ref _) (Value.ref _)) _ _ _); k_dflt (refine' slice_tup (by k_asm) (by k_asm) (by k_mem) ?_ (by with_unfolding_all rfl) (by intro zzr; with_unfolding_all rfl); k_whole); intro zzb' zzh' zzl1 zzF' zzN') | fail)
  (k_with "call type:str" => first | (k_here; (with_reducible show wpAny _ _ (call (Value.type "str") [Value.int _ _]) _ _ _); k_dflt (refine' PySem.Calls.str_of_int (Mine.small_log (by assumption)) ?_; k_whole)) | fail)
  (k_with "compareOp Eq ref ref" => first | (k_here; (with_reducible show wpAny _ _ (compareOp CmpOp.Eq (Value.ref _) (Value.ref _)) _ _ _); k_dflt (refine' eq_pd (by k_asm) (by k_mem) (by k_mem) (by assumption) (by assumption) (by k_mem) (by k_mem) (by assumption) (by assumption) (by k_extra "m un") ?_; k_whole)) | fail)
  exact trivial
theorem told_c {wv v bv : Value} {imps : List Imp} {trs : List (Tr × Slf)} {bs : List Tr} {t : Ty} (hs : ∀ p ∈ fz, p ∈ news) (hW : WorldIn w fz wv imps trs) (hB : BndIn w fz bv bs) (hT : TyIn fz v t) (hc : t.chain.length ≤ 3) (hcu : ∀ u ∈ t.chain, u = .var ∨ (u.clear = true ∧ u.dep ≤ 20)) (hnum : ∀ i ∈ imps, i.num ≤ 8) :
    CallsT w loose mean mg mb 11 389 [wv, v, bv] news (fun n' r => (∀ p ∈ news, p ∈ n') ∧ ToldIs n' r (findP (atI "go" imps trs bs) t.chain 0)) := by
  refine hide fun hG9 => ?_
  have hw1 : ∃ b, wv = .ref b := by cases hW; exact ⟨_, rfl⟩
  obtain ⟨w0, rfl⟩ := hw1
  obtain @⟨a0, n0, t0, r0, m0⟩ := hT.head
  have hb1 : ∃ b, bv = .ref b := by cases hB <;> exact ⟨_, rfl⟩
  obtain ⟨b0, rfl⟩ := hb1
  refine hG9 ?_
  clear hG9
  refine CallsT.of ?_
  k_fill
  intro dp un gd cn cs a' ccd cl A₀ base h₀ L m' shh sgg sdd skk soo Q E B F X N T XB TB hk hd hu hret
  refine wpAny_call ?_
  k_dflt (refine' code_try ?k1 ?k2 ?k3 ?k4 ?k5 ?kA ?kF ?cK ?k6 ?k7 ?k8 ?k9 ?kB ?_ ?c2 ?c3 ?c4 ?c5; (case kA => exact rfl); (case kF => exact rfl); (case k2 => k_asm); (case k1 => k_asm); (case k3 => k_asm); (case k4 => k_asm); (case k5 => k_asm); (case k6 => k_is); (case k7 => k_is); (case k8 => k_room); (case k9 => exact BindsTo.of_eq rfl); (case kB => exact locs rfl); (case cK => assumption); (case c2 => exact rfl); (case c3 => exact rfl); (case c4 => exact rfl); (case c5 => decide); k_whole; intro g' L' h' FG' F' N' B' X' T' D'; (try dsimp only); (try k_lift B'); (try k_fold))
  (rename Fr _ _ _ _ => F1)
  replace F1 : Fr _ _ _ (fun y => List.lookup y [(("bounds" : Str), _), (("told" : Str), _), (("world" : Str), _)]) := F1
  (try refine hideB fun G8 hG8 => ?_)
  k_steps
  · rename FndIs _ _ _ _ => q9
    rename (∀ p ∈ _, p ∈ _) => s9
    refine hide fun hG9 => ?_
    rcases q9.split with ⟨e1⟩ | @⟨p, k, a, k2, dd, o, num, t1, t2, t3, tt, av, d, aa, e1, h1, h2, h3, h4, h5, h6⟩ | @⟨p, k, a, k2, t1, t2, t3, y, tt, av, d, aa, tr, e1, h1, h2, h3⟩ | @⟨p, k, tt, av, d, aa, e1, h1⟩
    · refine hG9 ?_
      clear hG9
      (try refine hideB fun G8 hG8 => ?_)
      k_steps
      exact hret _ _ _ _ (by k_asm) (by k_asm) ⟨s9, by rw [e1]; exact .no⟩
    · have hsm : num ≤ 8 := by
        obtain ⟨b, hb⟩ := findP_hitD e1
        obtain ⟨i, hi, rfl⟩ := atI_num hb
        exact hnum i hi
      refine hG9 ?_
      clear hG9
      (try refine hideB fun G8 hG8 => ?_)
      k_steps
      exact hret _ _ _ _ (by k_asm) (by k_asm) ⟨sub_tl (sub_tl (sub_tl (sub_tl s9))), by rw [e1]; exact .imp (.head _) h2⟩
    · refine hG9 ?_
      clear hG9
      (try refine hideB fun G8 hG8 => ?_)
      k_steps
      exact hret _ _ _ _ (by k_asm) (by k_asm) ⟨sub_tl s9, by rw [e1]; exact .tr (.head _) h2⟩
    · exact absurd e1 findP_ne
  · rename (_ ∨ _) => xc
    refine hide fun hG9 => ?_
    rcases xc with ⟨rfl, xf⟩ | ⟨rfl, xf⟩
    · refine hG9 ?_
      clear hG9
      (try refine hideB fun G8 hG8 => ?_)
      k_steps
      exact hret _ _ _ _ (by k_asm) (by k_asm) ⟨fun _ h => h, by rw [xf]; exact .fault⟩
    · refine hG9 ?_
      clear hG9
      (try refine hideB fun G8 hG8 => ?_)
      k_steps
      exact hret _ _ _ _ (by k_asm) (by k_asm) ⟨fun _ h => h, by rw [xf]; exact .unk⟩
end
theorem kw17_0 : True := by
  k_with_none
  (k_with "m k_mem" => first | (first | ktr_member | (with_reducible apply mem_hd) | ((with_reducible apply mem_tl); k_mem) | exact mem_via (by assumption) (by assumption)) | fail)
  (k_with "ite" => first | (first | refine ite_t (by with_reducible assumption) ?_ | refine ite_f (by with_reducible assumption) ?_) | fail)
  (k_with "m lt" => first | (first | assumption | (apply PySem.W.allLt_of; assumption) | (apply allLt_tl; assumption) | (apply allLt_tl2; assumption) | with_reducible (k_extra "m pk") | (simp only [AllLt, and_true] at *; first | assumption | omega)) | fail)
  (k_with "m k_all" => first | (first | assumption | (apply ne_of_allNe; k_extra "m ne") | (apply ne_of_allLt; k_extra "m lt")) | fail)
  (k_with "m call" => first | (k_here; k_dflt (refine' Calls.use' (by k_asm) (by k_asm) (by k_asm) (by k_asm) (by k_asm) (by first | exact rfl | assumption) (by k_extra "m con") (by first | omega | (dsimp only [ktrTop]; omega)) (by k_extra "m un") ?_; k_whole); ((intro zzG9 zzhG9; k_dflt (k_extra "m out")) <;> (refine zzhG9 _ _ ?_; intro zzh9 zztk9 zzF9 zzN9; (try k_sweep)))) | fail)
  (k_with "m out" => first | (intro zzn9 zzr9 zzo9; (first | (obtain ⟨zze1, zze2⟩ := zzo9; subst zze1; subst zze2) | (obtain ⟨zze1, zzt9, zze2⟩ := zzo9; subst zze1; subst zze2) | (obtain ⟨zzl9, zze9, zze2, zze1, zzq9⟩ := zzo9; subst zze1; subst zze2; (simp only [AllLt, and_true] at zzq9)) | (obtain ⟨zzl9, zze9, zzp9, zzm9, zzx9, zzy9, zze2, zze1, zzq1, zzq2, zzq3, zzq4⟩ := zzo9; subst zze1; subst zze2; (simp only [AllLt, and_true] at zzq3); obtain ⟨zza8, zzn8, zzt8, zzr8, zze8, zzm8⟩ := Mine.TyIn.head zzq1; subst zze8; obtain ⟨zza7, zzn7, zzt7, zzr7, zze7, zzm7⟩ := Mine.TyIn.head zzq2; subst zze7) | (rcases zzo9 with ⟨zze3, zze1, zzt9, zze2⟩ | ⟨zze3, zze1, zzt9, zze2⟩ <;> (subst zze1; subst zze2)))) | fail)
  (k_with "m un" => first | ((try dsimp +zetaDelta only); (have zzhcl9 := cLine_is); (try simp only [units_in1, units_deeper, Around.mark_units, units_caller]); (try dsimp only [ktrTop]); omega) | fail)
  (k_with "m dp" => first | (first | assumption | (simp only [Ty.dep]; omega) | decide) | fail)
  (k_with "m k_room" => first | ((try dsimp +zetaDelta only); (try simp only [depth_under_make, depth_under_kw, depth_in1, depth_deeper, depth_caller]); (try dsimp only [ktrTop]); have zzhrl9 : recursionLimit = 1000 := rfl; omega) | fail)
  (k_with "eval Name" => first | (k_here; (fail_if_success with_reducible show wpAny _ _ (eval _ (compEnvC _ _ _ _)) _ _ _); k_dflt (refine' nameX_L (by k_asm) (by exact @rfl _ (some _)) ?_ (by kernel_rfl) (rfl) (by kernel_rfl); k_whole)) | fail)
  (k_with "ite" => first | (k_closed; first | refine ite_t (by decide +kernel) ?_ | refine ite_f (by decide +kernel) ?_) | fail)
  (k_with "m for" => first | (k_here; (rename Fr _ _ _ _ => zzlF'); (with_unfolding_all refine' For_turns zzlF' ?_; k_whole)) | fail)
  (k_with "m pick" => first | (with_reducible (k_extra "m pk")) | fail)
  (k_with "m ne" => first | (first | with_reducible (first | assumption | (apply allNe_of; assumption) | (apply allNe_off; assumption) | (apply allNe_lt; apply PySem.W.allLt_of; assumption)) | ((with_reducible apply allNe_cons); k_ne; k_extra "m ne") | with_reducible (k_extra "m pkq") | (apply allNe_lt; with_reducible (k_extra "m pkq")) | with_reducible (k_extra "m pk") | (apply allNe_lt; with_reducible (k_extra "m pk")) | (apply allNe_off; with_reducible (k_extra "m pk")) | (apply allNe_lt; apply allLt_tl; assumption) | (with_reducible apply allNe_nil)) | fail)
  (k_with "m subh" => first | (with_reducible (apply sub_hd; first | assumption | (apply sub_hd; first | assumption | (apply sub_hd; first | assumption | (apply sub_hd; first | assumption | (apply sub_hd; first | assumption | (apply sub_hd; first | assumption | (apply sub_hd; first | assumption | (apply sub_hd; first | assumption | (apply sub_hd; assumption)))))))))) | fail)
  (k_with "m subs" => first | (first | (with_reducible apply sub_refl) | assumption | ((with_reducible apply subs_cons); k_mem; k_extra "m subs") | ((with_reducible apply sub_tl); k_extra "m subs") | (with_reducible apply List.forall_mem_nil) | k_extra "m subh") | fail)
  (k_with "m agr" => first | (first | assumption | exact agree_over | exact agree_refl | (refine agree_store ?_ (by decide); k_extra "m agr")) | fail)
  (k_with "m sub" => first | (first | assumption | ((with_reducible apply sub_tl); k_extra "m sub") | k_extra "m subh") | fail)
  (k_with "execs cons" => first | (k_here; (try dsimp only); (refine' exec_cons_h ?_); intro zztk' zzG' zzhG'; (try (rename PyProof.Rows.News _ _ _ _ => zznN'; dsimp only at zznN'))) | fail)
  (k_with "execs nil" => first | (k_here; (refine' exec_nil_g ?_); intro zztk'; (try (refine qout (by with_reducible assumption) ?_))) | fail)
  (k_with "m leave" => first | (k_end; first | ((try dsimp only); (refine' gnext_cons (by with_reducible assumption) ?_); intro zztk' zzG' zzhG'; (try (rename PyProof.Rows.News _ _ _ _ => zznN'; dsimp only at zznN'))) | (refine gnext (by with_reducible assumption) ?_) | (refine gout (by with_reducible assumption) ?_ ?_; (exact True.intro); (try (refine qout (by with_reducible assumption) ?_)))) | fail)
  (k_with "m k_steps" => first | (repeat' (first | k_extra "m leave" | (k_unfold; (try dsimp only)) | (k_end; wrow_close) | walk1 | (dsimp only; walk1) | (leave1; walk_say "STEP leave1"; try dsimp only) | fail "no step")) | fail)
  (k_with "m pkq" => first | (first | assumption | (apply And.left; first | assumption | (apply And.right; first | assumption | (apply And.right; first | assumption | (apply And.right; first | assumption | (apply And.right; first | assumption | (apply And.right; assumption))))))) | fail)
  (k_with "m pkr" => first | (first | assumption | (apply And.right; first | assumption | (apply And.right; first | assumption | (apply And.right; first | assumption | (apply And.right; first | assumption | (apply And.right; first | assumption | (apply And.right; first | assumption | (apply And.right; first | assumption | (apply And.right; first | assumption | (apply And.right; first | assumption | (apply And.right; first | assumption | (apply And.right; first | assumption | (apply And.right; first | assumption | (apply And.right; first | assumption | (apply And.right; first | assumption | (apply And.right; assumption)))))))))))))))) | fail)
  (k_with "m pk" => first | (first | assumption | (apply And.left; k_extra "m pkr") | (apply And.right; k_extra "m pkr")) | fail)
  (k_with "m omega" => first | (first | ((with_reducible apply neL); with_reducible (k_extra "m pkq")) | ((with_reducible apply neG); with_reducible (k_extra "m pkq")) | ((with_reducible apply neL); with_reducible (k_extra "m pk")) | ((with_reducible apply neG); with_reducible (k_extra "m pk")) | ((with_reducible apply neS); with_reducible (k_extra "m pk")) | ((with_reducible apply lin2); assumption; exact @rfl Bool true) | ((with_reducible apply lin1); assumption; exact @rfl Bool true) | ((with_reducible apply lin0); assumption; exact @rfl Bool true) | ((with_reducible apply lin3); assumption; exact @rfl Bool true) | ((with_reducible apply lin1e); assumption; exact @rfl Bool true) | ((with_reducible apply lin2e); assumption; exact @rfl Bool true) | ((with_reducible apply Nat.le_of_ble_eq_true); exact @rfl Bool true) | ((with_reducible apply om_w); assumption; exact @rfl Bool true) | ((with_reducible apply om_p3); assumption) | ((with_reducible apply om_p2); assumption) | ((with_reducible apply om_p3e); assumption) | (with_reducible apply om_p3r) | ((with_reducible apply om_p4); assumption; exact @rfl Bool true) | ((with_reducible apply om_s); assumption; exact @rfl Bool true) | ((with_reducible apply om_s1); assumption; exact @rfl Bool true) | ((with_reducible apply om_s2); assumption; exact @rfl Bool true) | ((with_reducible apply om_i); assumption; decide +kernel) | ((with_reducible apply om_i2); assumption; assumption; decide +kernel) | ((with_reducible apply om_n); decide +kernel) | (with_reducible apply Int.natCast_nonneg) | ((with_reducible apply om_k); assumption; decide +kernel) | with_reducible (k_extra "m pk")) | fail)
  (k_with "m k_ne" => first | ((with_reducible apply PySem.W.neN); (try dsimp only); omega) | fail)
  (k_with "spliced" => first | (k_here; (with_reducible show wpAny _ _ (spliced (backTo _ (starEach (PySem.Expr.Name _ _ :: _) _))) _ _ _); k_dflt (refine' args_nm (by exact rfl) (by k_asm) (by exact @rfl _ (some _)) (by kernel_rfl) (by exact rfl) (by kernel_rfl) ?_; k_whole)) | fail)
  (k_with "isTrue Compare" => first | (k_here; (with_reducible show wpAny _ _ (isTrue (PySem.Expr.Compare (PySem.Expr.Name _ _) [_] [_] _) _ _) _ _ _); k_dflt (refine' cmp_nm (by exact rfl) (by k_asm) (by exact @rfl _ (some _)) (by kernel_rfl) (by exact rfl) (by kernel_rfl) (by with_unfolding_all rfl) ?_; k_whole)) | fail)
  (k_with "m k_upd" => first | (first | ((with_reducible apply PySem.W.Upd.head); k_all) | ((with_reducible apply PySem.W.Upd.tail); k_ne; k_upd)) | fail)
  (k_with "m k_updF" => first | (first | ((with_reducible apply PySem.W.UpdF.head); k_all) | ((with_reducible apply PySem.W.UpdF.tail); k_ne; k_updF)) | fail)
  (k_with "spliced" => first | (k_here; (with_reducible show wpAny _ _ (spliced (backTo _ (starEach (PySem.Expr.Constant (PySem.Const.str _) _ _ :: _) _))) _ _ _); k_dflt (refine' args_str ?_; k_whole)) | fail)
  (k_with "exec If" => first | (k_here; (with_reducible show wpAny _ _ (exec (PySem.Stmt.If (PySem.Expr.Compare (PySem.Expr.Name _ _) [_] [_] _) _ _ _) _) _ _ _); k_dflt (refine' if_nm (by exact rfl) (by k_asm) (by exact @rfl _ (some _)) (by kernel_rfl) (by exact rfl) (by kernel_rfl) (by with_unfolding_all rfl) ?_; k_whole)) | fail)
  (k_with "eval Constant str" => first | (k_here; (with_reducible show wpAny _ _ (eval (PySem.Expr.Constant (PySem.Const.str _) _ _) _) (fun b s₂ => wpAny _ _ (compareOp CmpOp.Eq (Value.str _ _) b) (fun c s₃ => wpAny _ _ (truthy c) _ _ s₃) _ s₂) _ _); (with_reducible refine' eq_cst ?_); k_whole) | fail)
  (k_with "spliced" => first | (k_here; (with_reducible show wpAny _ _ (spliced (backTo _ (starEach [] _))) (fun vs s₂ => wpAny _ _ (newTuple _) _ _ s₂) _ _); with_reducible refine' nil_tup (by k_dflt k_asm) (by k_dflt k_asm) (by k_dflt (exact Nat.le_of_ble_eq_true rfl)) ?_; k_whole; intro zzD' zzh' zzF' zzN' zzl1; (try k_lt zzl1); (try k_sweep)) | fail)
  (k_with "spliced" => first | (k_here; (with_reducible show wpAny _ _ (spliced (backTo _ (starEach [] _))) (fun vs s₂ => wpAny _ _ (newList _) _ _ s₂) _ _); with_reducible refine' nil_lst (by k_dflt k_asm) (by k_dflt k_asm) (by k_dflt (exact Nat.le_of_ble_eq_true rfl)) ?_; k_whole; intro zzl' zzh' zzF' zzN' zzl1; (try k_lt zzl1); (try k_sweep)) | fail)
  exact trivial
section
variable {w : World} {loose : List Str} {mean : ExcName → Option Value} {mg mb : Str → Option Value} {fz news : Led}
theorem kw17_1 : True := by
  (k_with "m k_mem" => first | (exact mem_via2 (by assumption) (by assumption)) | fail)
  exact trivial
theorem lself_c {v kv : Value} {t : Ty} {k : Slf} (hs : ∀ p ∈ fz, p ∈ news) (hT : TyIn fz v t) (hk9 : KdIs kv k) :
    Calls w loose mean mg mb 1 370 [v, kv] news (fun n' r => (∀ p ∈ news, p ∈ n') ∧ LSelf n' r (lawSelf t k)) := by
  refine hide fun hG9 => ?_
  have hT' := hT
  obtain @⟨a0, n0, t0, r0, m0⟩ := hT.head
  refine hG9 ?_
  clear hG9
  refine Calls.of ?_
  k_fill
  intro dp un gd cn cs a' ccd cl outer A₀ base h₀ L m' shh sgg sdd skk soo Q E B F X N T hk hd hu hret
  refine wpAny_call ?_
  k_dflt ktr_enter
  refine let_ae ?_
  intro nk ak Q0 hQ0
  (rename Fr _ _ _ _ => F1)
  replace F1 : Fr _ _ _ (fun y => List.lookup y [(("self_kind" : Str), _), (("told" : Str), _)]) := F1
  cases hk9
  all_goals k_steps
  · exact hret _ _ _ _ (by k_asm) (by k_asm) ⟨fun _ h => h, .is (hT'.mono hs)⟩
  · exact hret _ _ _ _ (by k_asm) (by k_asm) ⟨by k_extra "m subs", .is (.ref (.head _) (hT'.mono (sub_tl hs)))⟩
  · exact hret _ _ _ _ (by k_asm) (by k_asm) ⟨by k_extra "m subs", .is (.ref (.head _) (hT'.mono (sub_tl hs)))⟩
  · exact hret _ _ _ _ (by k_asm) (by k_asm) ⟨by k_extra "m subs", .non (.head _)⟩
end
theorem kw18_0 : True := by
  k_with_none
  (k_with "m k_mem" => first | (first | ktr_member | (with_reducible apply mem_hd) | ((with_reducible apply mem_tl); k_mem) | exact mem_via (by assumption) (by assumption)) | fail)
  (k_with "ite" => first | (first | refine ite_t (by with_reducible assumption) ?_ | refine ite_f (by with_reducible assumption) ?_) | fail)
  (k_with "m lt" => first | (first | assumption | (apply PySem.W.allLt_of; assumption) | (apply allLt_tl; assumption) | (apply allLt_tl2; assumption) | with_reducible (k_extra "m pk") | (simp only [AllLt, and_true] at *; first | assumption | omega)) | fail)
  (k_with "m k_all" => first | (first | assumption | (apply ne_of_allNe; k_extra "m ne") | (apply ne_of_allLt; k_extra "m lt")) | fail)
  (k_with "m call" => first | (k_here; k_dflt (refine' Calls.use' (by k_asm) (by k_asm) (by k_asm) (by k_asm) (by k_asm) (by first | exact rfl | assumption) (by k_extra "m con") (by first | omega | (dsimp only [ktrTop]; omega)) (by k_extra "m un") ?_; k_whole); ((intro zzG9 zzhG9; k_dflt (k_extra "m out")) <;> (refine zzhG9 _ _ ?_; intro zzh9 zztk9 zzF9 zzN9; (try k_sweep)))) | fail)
  (k_with "m out" => first | (intro zzn9 zzr9 zzo9; (first | (obtain ⟨zze1, zze2⟩ := zzo9; subst zze1; subst zze2) | (obtain ⟨zze1, zzt9, zze2⟩ := zzo9; subst zze1; subst zze2) | (obtain ⟨zzl9, zze9, zze2, zze1, zzq9⟩ := zzo9; subst zze1; subst zze2; (simp only [AllLt, and_true] at zzq9)) | (obtain ⟨zzl9, zze9, zzp9, zzm9, zzx9, zzy9, zze2, zze1, zzq1, zzq2, zzq3, zzq4⟩ := zzo9; subst zze1; subst zze2; (simp only [AllLt, and_true] at zzq3); obtain ⟨zza8, zzn8, zzt8, zzr8, zze8, zzm8⟩ := Mine.TyIn.head zzq1; subst zze8; obtain ⟨zza7, zzn7, zzt7, zzr7, zze7, zzm7⟩ := Mine.TyIn.head zzq2; subst zze7) | (rcases zzo9 with ⟨zze3, zze1, zzt9, zze2⟩ | ⟨zze3, zze1, zzt9, zze2⟩ <;> (subst zze1; subst zze2)))) | fail)
  (k_with "call ref" => first | (k_extra "m call") | fail)
  (k_with "m un" => first | ((try dsimp +zetaDelta only); (have zzhcl9 := cLine_is); (try simp only [units_in1, units_deeper, Around.mark_units, units_caller]); (try dsimp only [ktrTop]); omega) | fail)
  (k_with "m dp" => first | (first | assumption | (simp only [Ty.dep]; omega) | decide) | fail)
  (k_with "compareOp NotEq ref ref" => first | (k_here; (with_reducible show wpAny _ _ (compareOp CmpOp.NotEq (Value.ref _) (Value.ref _)) _ _ _); k_dflt (first | (refine' nil_ne_nil (by k_asm) (by k_mem) (by k_mem) (by k_extra "m un") ?_; k_whole) | (refine' one_ne_nil (by k_asm) (by k_mem) (by k_mem) (by k_mem) (by assumption) (by assumption) (by k_extra "m sub") (by k_extra "m dp") (by k_extra "m dp") (by k_extra "m un") ?_; k_whole))) | fail)
  (k_with "m k_room" => first | ((try dsimp +zetaDelta only); (try simp only [depth_under_make, depth_under_kw, depth_in1, depth_deeper, depth_caller]); (try dsimp only [ktrTop]); have zzhrl9 : recursionLimit = 1000 := rfl; omega) | fail)
  (k_with "eval Name" => first | (k_here; (fail_if_success with_reducible show wpAny _ _ (eval _ (compEnvC _ _ _ _)) _ _ _); k_dflt (refine' nameX_L (by k_asm) (by exact @rfl _ (some _)) ?_ (by kernel_rfl) (rfl) (by kernel_rfl); k_whole)) | fail)
  (k_with "ite" => first | (k_closed; first | refine ite_t (by decide +kernel) ?_ | refine ite_f (by decide +kernel) ?_) | fail)
  (k_with "exec For Name List cons nil" => first | (k_extra "m for") | fail)
  (k_with "m for" => first | (k_here; (rename Fr _ _ _ _ => zzlF'); (with_unfolding_all refine' For_turns zzlF' ?_; k_whole)) | fail)
  (k_with "m pick" => first | (with_reducible (k_extra "m pk")) | fail)
  (k_with "m ne" => first | (first | with_reducible (first | assumption | (apply allNe_of; assumption) | (apply allNe_off; assumption) | (apply allNe_lt; apply PySem.W.allLt_of; assumption)) | ((with_reducible apply allNe_cons); k_ne; k_extra "m ne") | with_reducible (k_extra "m pkq") | (apply allNe_lt; with_reducible (k_extra "m pkq")) | with_reducible (k_extra "m pk") | (apply allNe_lt; with_reducible (k_extra "m pk")) | (apply allNe_off; with_reducible (k_extra "m pk")) | (apply allNe_lt; apply allLt_tl; assumption) | (with_reducible apply allNe_nil)) | fail)
  (k_with "m subh" => first | (with_reducible (apply sub_hd; first | assumption | (apply sub_hd; first | assumption | (apply sub_hd; first | assumption | (apply sub_hd; first | assumption | (apply sub_hd; first | assumption | (apply sub_hd; first | assumption | (apply sub_hd; first | assumption | (apply sub_hd; first | assumption | (apply sub_hd; assumption)))))))))) | fail)
  (k_with "m subs" => first | (first | (with_reducible apply sub_refl) | assumption | ((with_reducible apply subs_cons); k_mem; k_extra "m subs") | ((with_reducible apply sub_tl); k_extra "m subs") | (with_reducible apply List.forall_mem_nil) | k_extra "m subh") | fail)
  (k_with "getMethod ref" => first | (k_here; (with_reducible show wpAny _ _ (getMethod (Value.ref _) (Str.ofString "get") _) _ _ _); k_dflt (refine' kdg_method (knd := PySem.strKind _ _) (by k_asm) (by k_mem) (by k_asm) ?_; k_whole)) | fail)
  (k_with "call builtin:dict.get" => first | (k_here; (with_reducible show wpAny _ _ (call (Value.builtin _) [Value.ref _, Value.str _ _, _]) _ _ _); k_dflt (first | (refine' kdg_get2 (knd := PySem.strKind _ _) (by k_asm) (by k_mem) (by k_asm) (by k_asm) (strKind_is _ _ _ _) none (by first | assumption | exact rfl) ?_; k_whole) | (refine' kdg_get2 (knd := PySem.strKind _ _) (by k_asm) (by k_mem) (by k_asm) (by k_asm) (strKind_is _ _ _ _) (some _) (by first | assumption | exact rfl) ?_; k_whole)); (try dsimp only [Option.getD])) | fail)
  (k_with "subscriptTail" => first | (k_here; (with_reducible show wpAny _ _ (subscriptTail _ _ (Value.ref _) (Value.str _ _)) _ _ _); k_dflt (refine' kda_item (knd := PySem.strKind _ _) (by k_asm) (by k_mem) (by k_asm) (strKind_is _ _ _ _) (by first | assumption | exact rfl) ?_ (by with_unfolding_all rfl) (by intro zzr; with_unfolding_all rfl); k_whole)) | fail)
  (k_with "compareOp In str ref" => first | (k_here; (with_reducible show wpAny _ _ (compareOp CmpOp.In (Value.str _ _) (Value.ref _)) _ _ _); k_dflt (first | (refine' kda_in (knd := PySem.strKind _ _) (by k_asm) (by k_mem) (by k_asm) (by k_asm) (strKind_is _ _ _ _) true (by first | assumption | exact rfl) ?_; k_whole) | (refine' kda_in (knd := PySem.strKind _ _) (by k_asm) (by k_mem) (by k_asm) (by k_asm) (strKind_is _ _ _ _) false (by first | assumption | exact rfl) ?_; k_whole))) | fail)
  (k_with "compareOp In str ref" => first | (k_here; (with_reducible show wpAny _ _ (compareOp CmpOp.In (Value.str _ _) (Value.ref _)) _ _ _); (with_unfolding_all refine' in_tuple_strs (by exact tup_of (by k_asm) (by k_mem)) (by kde_strs) ?_; k_whole)) | fail)
  (k_with "pyIter ref" => first | (k_here; (with_reducible show wpAny _ _ (pyIter (Value.ref _)) (fun it s₂ => TurnsAt _ _ _ _ _ _ _ _ _ it s₂) _ _); k_dflt (refine' iter_listTurns (by exact rfl) (by k_asm) (by k_asm) (by k_mem) (by exact rfl) (by exact rfl) ?_; k_whole); intro zzi' zzl1; (try k_lt zzl1)) | fail)
  (k_with "m agr" => first | (first | assumption | exact agree_over | exact agree_refl | (refine agree_store ?_ (by decide); k_extra "m agr")) | fail)
  (k_with "compareOp Eq ref ref" => first | (k_here; (with_reducible show wpAny _ _ (compareOp CmpOp.Eq (Value.ref _) (Value.ref _)) _ _ _); k_dflt (refine' eq_empty (by k_asm) (by k_mem) (by k_mem) (by k_extra "m un") (by first | assumption | exact rfl) ?_; k_whole)) | fail)
  (k_with "compareOp NotEq ref ref" => first | (k_here; (with_reducible show wpAny _ _ (compareOp CmpOp.NotEq (Value.ref _) (Value.ref _)) _ _ _); k_dflt (refine' ne_empty (by k_asm) (by k_mem) (by k_mem) (by k_extra "m un") (by first | assumption | exact rfl) ?_; k_whole)) | fail)
  (k_with "CSrc" => first | (k_dflt (refine' CSrc.intro (by exact rfl) (by k_asm) (by k_asm) (by k_mem) (fun _ h => h) (by first | exact Nat.le_of_ble_eq_true rfl | (rw [sizeLine_eq]; omega)) ?_; k_whole); intro zzg') | fail)
  (k_with "m sub" => first | (first | assumption | ((with_reducible apply sub_tl); k_extra "m sub") | k_extra "m subh") | fail)
  (k_with "execs cons" => first | (k_here; (try dsimp only); (refine' exec_cons_h ?_); intro zztk' zzG' zzhG'; (try (rename PyProof.Rows.News _ _ _ _ => zznN'; dsimp only at zznN'))) | fail)
  (k_with "execs nil" => first | (k_here; (refine' exec_nil_g ?_); intro zztk'; (try (refine qout (by with_reducible assumption) ?_))) | fail)
  (k_with "m leave" => first | (k_end; first | ((try dsimp only); (refine' gnext_cons (by with_reducible assumption) ?_); intro zztk' zzG' zzhG'; (try (rename PyProof.Rows.News _ _ _ _ => zznN'; dsimp only at zznN'))) | (refine gnext (by with_reducible assumption) ?_) | (refine gout (by with_reducible assumption) ?_ ?_; (exact True.intro); (try (refine qout (by with_reducible assumption) ?_)))) | fail)
  (k_with "m k_steps" => first | (repeat' (first | k_extra "m leave" | (k_unfold; (try dsimp only)) | (k_end; wrow_close) | walk1 | (dsimp only; walk1) | (leave1; walk_say "STEP leave1"; try dsimp only) | fail "no step")) | fail)
  (k_with "m pkq" => first | (first | assumption | (apply And.left; first | assumption | (apply And.right; first | assumption | (apply And.right; first | assumption | (apply And.right; first | assumption | (apply And.right; first | assumption | (apply And.right; assumption))))))) | fail)
  (k_with "m pkr" => first | (first | assumption | (apply And.right; first | assumption | (apply And.right; first | assumption | (apply And.right; first | assumption | (apply And.right; first | assumption | (apply And.right; first | assumption | (apply And.right; first | assumption | (apply And.right; first | assumption | (apply And.right; first | assumption | (apply And.right; first | assumption | (apply And.right; first | assumption | (apply And.right; first | assumption | (apply And.right; first | assumption | (apply And.right; first | assumption | (apply And.right; first | assumption | (apply And.right; assumption)))))))))))))))) | fail)
  (k_with "m pk" => first | (first | assumption | (apply And.left; k_extra "m pkr") | (apply And.right; k_extra "m pkr")) | fail)
  (k_with "m omega" => first | (first | ((with_reducible apply neL); with_reducible (k_extra "m pkq")) | ((with_reducible apply neG); with_reducible (k_extra "m pkq")) | ((with_reducible apply neL); with_reducible (k_extra "m pk")) | ((with_reducible apply neG); with_reducible (k_extra "m pk")) | ((with_reducible apply neS); with_reducible (k_extra "m pk")) | ((with_reducible apply lin2); assumption; exact @rfl Bool true) | ((with_reducible apply lin1); assumption; exact @rfl Bool true) | ((with_reducible apply lin0); assumption; exact @rfl Bool true) | ((with_reducible apply lin3); assumption; exact @rfl Bool true) | ((with_reducible apply lin1e); assumption; exact @rfl Bool true) | ((with_reducible apply lin2e); assumption; exact @rfl Bool true) | ((with_reducible apply Nat.le_of_ble_eq_true); exact @rfl Bool true) | ((with_reducible apply om_w); assumption; exact @rfl Bool true) | ((with_reducible apply om_p3); assumption) | ((with_reducible apply om_p2); assumption) | ((with_reducible apply om_p3e); assumption) | (with_reducible apply om_p3r) | ((with_reducible apply om_p4); assumption; exact @rfl Bool true) | ((with_reducible apply om_s); assumption; exact @rfl Bool true) | ((with_reducible apply om_s1); assumption; exact @rfl Bool true) | ((with_reducible apply om_s2); assumption; exact @rfl Bool true) | ((with_reducible apply om_i); assumption; decide +kernel) | ((with_reducible apply om_i2); assumption; assumption; decide +kernel) | ((with_reducible apply om_n); decide +kernel) | (with_reducible apply Int.natCast_nonneg) | ((with_reducible apply om_k); assumption; decide +kernel) | with_reducible (k_extra "m pk")) | fail)
  (k_with "m k_ne" => first | ((with_reducible apply PySem.W.neN); (try dsimp only); omega) | fail)
  (k_with "spliced" => first | (k_here; (with_reducible show wpAny _ _ (spliced (backTo _ (starEach (PySem.Expr.Name _ _ :: _) _))) _ _ _); k_dflt (refine' args_nm (by exact rfl) (by k_asm) (by exact @rfl _ (some _)) (by kernel_rfl) (by exact rfl) (by kernel_rfl) ?_; k_whole)) | fail)
  (k_with "eval Subscript" => first | (k_here; (with_reducible show wpAny _ _ (eval (PySem.Expr.Subscript (PySem.Expr.Name _ _) _ _) _) _ _ _); k_dflt (refine' sub_nm (by exact rfl) (by k_asm) (by exact @rfl _ (some _)) (by kernel_rfl) (by exact rfl) (by kernel_rfl) ?_; k_whole)) | fail)
  (k_with "isTrue Compare" => first | (k_here; (with_reducible show wpAny _ _ (isTrue (PySem.Expr.Compare (PySem.Expr.Name _ _) [_] [_] _) _ _) _ _ _); k_dflt (refine' cmp_nm (by exact rfl) (by k_asm) (by exact @rfl _ (some _)) (by kernel_rfl) (by exact rfl) (by kernel_rfl) (by with_unfolding_all rfl) ?_; k_whole)) | fail)
  (k_with "m k_upd" => first | (first | ((with_reducible apply PySem.W.Upd.head); k_all) | ((with_reducible apply PySem.W.Upd.tail); k_ne; k_upd)) | fail)
  (k_with "m k_updF" => first | (first | ((with_reducible apply PySem.W.UpdF.head); k_all) | ((with_reducible apply PySem.W.UpdF.tail); k_ne; k_updF)) | fail)
  (k_with "spliced" => first | (k_here; (with_reducible show wpAny _ _ (spliced (backTo _ (starEach (PySem.Expr.Constant (PySem.Const.str _) _ _ :: _) _))) _ _ _); k_dflt (refine' args_str ?_; k_whole)) | fail)
  (k_with "eval Subscript" => first | (k_here; (with_reducible show wpAny _ _ (eval (PySem.Expr.Subscript (PySem.Expr.Name _ _) (PySem.Expr.Constant (PySem.Const.int _) _ _) _) _) _ _ _); k_dflt (refine' sub_it (by exact rfl) (by k_asm) (by exact @rfl _ (some _)) (by kernel_rfl) (by exact rfl) (by kernel_rfl) (by k_asm) (by k_mem) (by exact @rfl _ (some _)) ?_; k_whole)) | fail)
  (k_with "exec If" => first | (k_here; (with_reducible show wpAny _ _ (exec (PySem.Stmt.If (PySem.Expr.Compare (PySem.Expr.Name _ _) [_] [_] _) _ _ _) _) _ _ _); k_dflt (refine' if_nm (by exact rfl) (by k_asm) (by exact @rfl _ (some _)) (by kernel_rfl) (by exact rfl) (by kernel_rfl) (by with_unfolding_all rfl) ?_; k_whole)) | fail)
  (k_with "exec Assign" => first | (k_here; (with_reducible show wpAny _ _ (exec (PySem.Stmt.Assign [PySem.Expr.Attribute (PySem.Expr.Name _ _) _ _] (PySem.Expr.Name _ _) _) _) _ _ _); k_dflt (refine' set_nm (by exact rfl) (by k_asm) (by exact @rfl _ (some _)) (by exact @rfl _ (some _)) (by kernel_rfl) (by exact rfl) (by exact rfl) (by kernel_rfl) (by kernel_rfl) (by k_asm) (by k_asm) (by k_inst) (by exact rfl) (by k_is) (by k_is) (by k_is) (by k_is) (by k_get) (by k_put) (by k_upd) (by exact Nat.le_of_ble_eq_true rfl) (by exact rfl) ?_; k_whole); intro zzh' zzF' zzN'; (try k_sweep)) | fail)
  (k_with "spliced" => first | (k_here; (with_reducible show wpAny _ _ (spliced (backTo _ (starEach [] _))) (fun vs s₂ => wpAny _ _ (newTuple _) _ _ s₂) _ _); with_reducible refine' nil_tup (by k_dflt k_asm) (by k_dflt k_asm) (by k_dflt (exact Nat.le_of_ble_eq_true rfl)) ?_; k_whole; intro zzD' zzh' zzF' zzN' zzl1; (try k_lt zzl1); (try k_sweep)) | fail)
  (k_with "spliced" => first | (k_here; (with_reducible show wpAny _ _ (spliced (backTo _ (starEach [] _))) (fun vs s₂ => wpAny _ _ (newList _) _ _ s₂) _ _); with_reducible refine' nil_lst (by k_dflt k_asm) (by k_dflt k_asm) (by k_dflt (exact Nat.le_of_ble_eq_true rfl)) ?_; k_whole; intro zzl' zzh' zzF' zzN' zzl1; (try k_lt zzl1); (try k_sweep)) | fail)
  exact trivial
section
variable {w : World} {loose : List Str} {mean : ExcName → Option Value} {mg mb : Str → Option Value} {fz news : Led}
theorem kw18_1 : True := by
  (k_with "m k_mem" => first | (first | with_reducible assumption | exact mem_via2 (by with_reducible assumption) (by with_reducible assumption) | ((with_reducible refine mem_via (by assumption) ?_); k_mem)) | fail)
  exact trivial
theorem lself_cN {fz news : Led} {v kv : Value} {t : Ty} {k : Slf} (hT : TyIn fz v t) (hk9 : KdIs kv k) (hs : ∀ p ∈ fz, p ∈ news) :
    Calls w loose mean mg mb 1 370 [v, kv] news (fun n' r => (∀ p ∈ news, p ∈ n') ∧ LSelf n' r (lawSelf t k)) := lself_c hs hT hk9
theorem kw18_2 : True := by
  (k_with "exec Assign cons ListComp" => first | (k_here; (with_reducible show wpAny _ _ (exec (PySem.Stmt.Assign [PySem.Expr.Name _ _] (PySem.Expr.ListComp _ [⟨PySem.Expr.Tuple [_, _, _, _] _ _, _, _, _⟩] _ _) _) _) _ _ _); k_dflt (refine' listcompA (xs := [(_, _), (_, _), (_, _), (_, _)]) (by k_asm) (rfl) (by with_unfolding_all rfl) (by with_unfolding_all rfl) (by decide) (by exact rfl) (by decide) (by decide) (by decide) (by exact rfl) (by exact rfl) ?_ (by exact fun _ => rfl); k_whole)) | fail)
  (k_with "exec Assign cons ListComp" => first | (k_here; (with_reducible show wpAny _ _ (exec (PySem.Stmt.Assign [PySem.Expr.Name _ _] (PySem.Expr.ListComp _ [⟨PySem.Expr.Tuple [_, _] _ _, _, _, _⟩] _ _) _) _) _ _ _); k_dflt (refine' listcompA (xs := [(_, _), (_, _)]) (by k_asm) (rfl) (by with_unfolding_all rfl) (by with_unfolding_all rfl) (by decide) (by exact rfl) (by decide) (by decide) (by decide) (by exact rfl) (by exact rfl) ?_ (by exact fun _ => rfl); k_whole)) | fail)
  (k_with "m con" => first | (first | exact lself_cN (w := w) (by assumption) (by assumption) (by k_extra "m subs") | exact lself_cN (w := w) (t := .par) (.par (by k_mem)) (by assumption) (fun _ h => h)) | fail)
  (k_with "m out" => first | (intro zzn9 zzr9 zzo9; (obtain ⟨zzs9, zzq9⟩ := zzo9; obtain ⟨zza9, zze9⟩ := Mine.LSelf.head zzq9; subst zze9)) | fail)
  (k_with "eval Name" => first | (k_here; (with_reducible show wpAny _ _ (eval (PySem.Expr.Name _ _) (compEnvC _ _ _ _)) _ _ _); k_dflt (first | refine LCgL.ld_own (by k_asm) (by k_mem) (by assumption) (by assumption) ?_ | (refine' lcf_free (by k_asm) (by rfl) (by k_mem) (by k_asm) ?_ (by rfl) (by rfl); k_whole) | refine LCgL.ld_global (by k_asm) (by k_asm) (by k_asm) (by k_is) ?_)) | fail)
  (k_with "compareOp Eq ref ref" => first | (k_here; (with_reducible show wpAny _ _ (compareOp CmpOp.Eq (Value.ref _) (Value.ref _)) _ _ _); k_dflt (refine' lself_eq (by k_asm) (by assumption) (by exact fun _ h => h) (by assumption) (by first | assumption | exact sub_trans (by assumption) (by k_extra "m subs")) (by first | exact fun u e => Nat.le_trans (Mine.lawSelf_dep e (Mine.IsPat.dep (by assumption))) (by decide) | exact fun u e => Nat.le_trans (Mine.lawSelf_dep (n := 0) (t := .par) e (by decide)) (by decide)) (by assumption) (by k_extra "m un") ?_; k_whole); (rename News _ _ _ _ => zzN7; rename (∀ p ∈ _, p ∈ _) => zzs7; replace zzN7 := Mine.newsSub zzN7 zzs7; clear zzs7)) | fail)
  (k_with "pyIter ref" => first | (k_here; (with_reducible show wpAny _ _ (pyIter (Value.ref _)) (fun it s₂ => TurnsAt _ _ _ _ _ _ _ _ _ it s₂) _ _); k_dflt (refine' lst_src (vs := [_, _]) (by exact rfl) (by k_asm) (by k_asm) (by k_mem) ?_; k_whole); intro zzi' zzl1; (try k_lt zzl1); intro zzxs' zzex') | fail)
  (k_with "call builtin:dict.get" => first | (k_here; (with_reducible show wpAny _ _ (call (Value.builtin _) [Value.ref _, Value.str _ _, _]) _ _ _); k_dflt (refine' get_bnd (by k_asm) (by k_mem) (by k_asm) (by k_asm) (by k_mem) (by exact bnd_up (by assumption) (by k_extra "m subs")) ?_; k_whole); intro zzb9 zzv9) | fail)
  (k_with "compareOp In str ref" => first | (k_here; (with_reducible show wpAny _ _ (compareOp CmpOp.In (Value.str _ _) (Value.ref _)) _ _ _); k_dflt (refine' in_bnd (by k_asm) (by assumption) ?_; k_whole)) | fail)
  (k_with "call builtin:list.append" => first | (k_here; (with_reducible show wpAny _ _ (call (Value.builtin _) [Value.ref _, _]) _ _ _); k_dflt (refine' append_K (by k_asm) (by k_asm) (by k_upd) ?_ (by size_fits); k_whole); intro zzh' zzF' zzN'; (try dsimp only at zzN'); (try rw [List.push_toArray] at zzN'); (try k_sweep)) | fail)
  (k_with "m k_handed" => first | (exact KdIs.handed (by assumption)) | fail)
  exact trivial
set_option maxHeartbeats 6000000 in
theorem lat_c {rl : Addr} {vs : List Value} {ep : Nat} {bv kv rv : Value} {rows : List Imp} {bs : List Tr} {ks : Tr → Slf} {b : Ty} (hs : ∀ p ∈ fz, p ∈ news) (hl : (rl, listOf vs.toArray ep) ∈ fz) (hz : vs.length ≤ 8) (hR : RowsIn fz vs rows) (hB : BndIn w fz bv bs) (hK : KindsIn w fz kv ks) (hT : TyIn fz rv b) (db : b.dep ≤ 40) :
    Calls w loose mean mg mb 3 375 [.ref rl, bv, kv, rv] news (fun n' r => (∀ p ∈ news, p ∈ n') ∧ LatIs n' r (lawInh rows b) (lawTrs rows bs ks b)) := by
  refine hide fun hG9 => ?_
  have hT' := hT
  obtain @⟨a0, n0, t0, r0, m0⟩ := hT.head
  obtain @⟨bd, bo, bkv, hB1, hB2, hB3, hB4⟩ := hB.split
  obtain @⟨kd, ko, kkv, hK1, hK2, hK3, hK4⟩ := hK.split
  refine hG9 ?_
  clear hG9
  refine Calls.of ?_
  k_fill
  intro dp un gd cn cs a' ccd cl outer A₀ base h₀ L m' shh sgg sdd skk soo Q E B F X N T hk hd hu hret
  refine wpAny_call ?_
  k_dflt (refine' code_defC ?k1 ?k2 ?k3 ?k4 ?k5 ?kA ?kF ?kK ?k6 ?k7 ?k8 ?k9 ?kB ?kD ?_ ?c2 ?c3 ?c4; (case kA => exact rfl); (case kF => exact rfl); (case kK => assumption); (case k1 => k_asm); (case k2 => k_asm); (case k3 => k_asm); (case k4 => k_asm); (case k5 => k_asm); (case k6 => k_is); (case k7 => k_is); (case k8 => ktr_room); (case k9 => exact BindsTo.of_eq rfl); (case kB => exact rfl); (case kD => decide +kernel); (case c2 => exact rfl); (case c3 => exact rfl); (case c4 => exact rfl); k_whole; intro g' L' h' tk' cells' FG' F' N' Y' B' X' T' l1; (try k_lt l1); k_cells Y'; (try simp only [List.cons_append, List.nil_append] at N'); (try dsimp only); (try k_fold))
  refine let_ae ?_
  intro nk ak Q0 hQ0
  (rename Fr _ _ _ _ => F1)
  replace F1 : Fr _ _ _ (fun y => if y = ("kinds" : Str) then some _ else if y = ("bounds" : Str) then some _ else if y = ("rows" : Str) then some _ else none) := F1
  rename (Obj.data _ = Data.cell _) => dA
  replace dA : _ = Data.cell (some (Value.ref a0)) := dA
  rename (Obj.data _ = Data.cell (bindC _ _ _ _)) => dB
  replace dB : _ = Data.cell none := dB
  have nA : AllNe (L' + 1 + 1) news := allNe_of fun p hp => Nat.ne_of_lt (Nat.lt_of_lt_of_le (l1 p hp) (Nat.le_add_right L' 2))
  (try refine hideB fun G8 hG8 => ?_)
  k_steps
  refine cr_ind (fun r ys nw => ∃ is js hn, RowsIn fz r is ∧ HitsIn hn ys js ∧ (∀ p ∈ hn, p ∈ nw) ∧ AllNe (L' + 1 + 1) hn ∧ ys.length + r.length ≤ 8 ∧ js ++ is.filter (hitL b) = rows.filter (hitL b)) ?_ ?_ _ _ _ (fun _ h => h) ⟨rows, [], [], hR, .nil, (fun _ h => nomatch h), trivial, by simpa using hz, rfl⟩
  · intro v r ys nw hS9 z95
    refine hide fun hG9 => ?_
    obtain ⟨is, js, hn, h1, h2, h3, h4, hl9, he⟩ := z95
    cases h1 with
    | cons g1 g2 g3 g5 g4 h1 =>
    have hs1 : ∀ p ∈ fz, p ∈ nw := fun p hp => hS9 p (.tail _ (.tail _ (hs p hp)))
    have hr1 := hS9 _ (.tail _ (.head _))
    have hr2 := hS9 _ (.head _)
    have hT2 := hT.mono hs1
    refine hG9 ?_
    clear hG9
    refine ⟨_, _, _, rfl, hs1 _ g1, rfl, ?_⟩
    intro I oI C oC D m₂ h tk E' hC hB9 F9 N9 off hne9
    refine hide fun hG9 => ?_
    obtain ⟨b1, b2, b3, b4, _⟩ := hB9
    obtain ⟨o1, o2, o3⟩ := hne9
    refine hG9 ?_
    clear hG9
    refine wpAny_tests_one ?_
    (try refine hideB fun G8 hG8 => ?_)
    k_steps
    · rename (lawSelf _ _ = some _) => hq
      rename (_ ∧ _ ∧ _ ∧ AllLt _ _) => hL
      exact LCg.CompEnd.intro (by k_asm) (by k_asm) ((_, _) :: nw) (by k_extra "m subs") ⟨⟨by k_ne, by k_ne, by k_ne⟩, off⟩ (sub_tl hS9) ⟨_, _, _, h1, HitsIn.snoc h2 g2, List.forall_mem_cons.mpr ⟨.head _, fun p hp => .tail _ (h3 p hp)⟩, ⟨Ne.symm (ne_of_allLt hL.2.2.2 _ hr2), h4⟩, by simp only [List.length_append, List.length_cons, List.length_nil] at hl9 ⊢; omega, by rw [← he, filt_yes (f := hitL b) (decide_eq_true hq), List.append_assoc]; rfl⟩
    · rename (¬ lawSelf _ _ = some _) => hq
      exact LCg.CompEnd.intro (by k_asm) (by k_asm) nw (by k_extra "m subs") off hS9 ⟨_, _, _, h1, h2, h3, h4, by simp only [List.length_cons] at hl9; omega, by rw [← he, filt_no (f := hitL b) (decide_eq_false hq)]⟩
  · intro ys nw hS9 z93
    refine hide fun hG9 => ?_
    obtain ⟨is, js, hn, h1, h2, h3, h4, hl9, he⟩ := z93
    cases h1
    refine hG9 ?_
    clear hG9
    (try refine hideB fun G8 hG8 => ?_)
    k_steps
    rename (LCg.Off1 _ nw) => oD1
    rename News _ _ _ _ => N7
    have hD1 := off1_ne oD1
    have hcD : @Ne Nat (L' + 1 + 1) _ := hD1 _ (hS9 _ (.head _))
    refine cr_ind (fun r ys nw => ∃ is ns, HitsIn hn r is ∧ NumsAre ys ns ∧ ys.length + r.length ≤ 8 ∧ ns ++ (is.filter fun i => decide (i.trait = none)).map (·.num) = (js.filter fun i => decide (i.trait = none)).map (·.num)) ?_ ?_ _ _ _ (fun _ h => h) ⟨js, [], h2, .nil, by simpa using hl9, rfl⟩
    · intro v r ys2 nw2 hS2 z71
      refine hide fun hG9 => ?_
      obtain ⟨is, ns, k1, k2, k3, k4⟩ := z71
      cases k1 with
      | cons g1 g2 k1 =>
      refine hG9 ?_
      clear hG9
      refine ⟨_, _, _, rfl, hS2 _ (.tail _ (h3 _ g1)), rfl, ?_⟩
      intro I oI C oC D m₂ h tk E' hC hB9 F9 N9 off hne9
      refine hide fun hG9 => ?_
      obtain ⟨b1, b2, _⟩ := hB9
      obtain ⟨o1, o2, o3⟩ := hne9
      refine hG9 ?_
      clear hG9
      refine wpAny_tests_one ?_
      refine hide fun hG9 => ?_
      rcases g2.split with ⟨e1, rfl⟩ | ⟨p, tp, e1, rfl⟩ <;> (refine hG9 ?_; clear hG9)
      all_goals k_steps
      · exact LCg.CompEnd.intro F9 N9 nw2 (fun _ h => h) off hS2 ⟨_, _, k1, k2.snoc, by simp only [List.length_append, List.length_cons, List.length_nil] at k3 ⊢; omega, by rw [← k4, filt_yes (f := fun i : Imp => decide (i.trait = none)) (decide_eq_true e1), List.append_assoc]; rfl⟩
      · exact LCg.CompEnd.intro F9 N9 nw2 (fun _ h => h) off hS2 ⟨_, _, k1, k2, by simp only [List.length_cons] at k3; omega, by rw [← k4, filt_no (f := fun i : Imp => decide (i.trait = none)) (decide_eq_false (by rw [e1]; exact nofun))]⟩
    · intro ys2 nw2 hS2 z72
      refine hide fun hG9 => ?_
      obtain ⟨is, ns, k1, k2, k3, k4⟩ := z72
      cases k1
      refine hG9 ?_
      clear hG9
      (try refine hideB fun G8 hG8 => ?_)
      k_steps
      rename (_ = List.map _ _) => ex
      subst ex
      have zzB' := trivial; have zzD' := trivial; have zzF' := trivial; have zzF9 := trivial; have zzG' := trivial; have zzG9 := trivial; have zzN' := trivial; have zzN7 := trivial; have zzN9 := trivial; have zzZ' := trivial; have zza7 := trivial; have zza8 := trivial; have zza9 := trivial; have zzb' := trivial; have zzb9 := trivial; have zze' := trivial; have zze1 := trivial; have zze2 := trivial; have zze3 := trivial; have zze7 := trivial; have zze8 := trivial; have zze9 := trivial; have zzep' := trivial; have zzex' := trivial; have zzg' := trivial; have zzh' := trivial; have zzh9 := trivial; have zzhG' := trivial; have zzhG9 := trivial; have zzhcl9 := trivial; have zzhrl9 := trivial; have zzi' := trivial; have zzl' := trivial; have zzl1 := trivial; have zzl1' := trivial; have zzl9 := trivial; have zzlF' := trivial; have zzm7 := trivial; have zzm8 := trivial; have zzm9 := trivial; have zzn7 := trivial; have zzn8 := trivial; have zzn9 := trivial; have zznN' := trivial; have zzo9 := trivial; have zzp9 := trivial; have zzq' := trivial; have zzq1 := trivial; have zzq2 := trivial; have zzq3 := trivial; have zzq4 := trivial; have zzq9 := trivial; have zzr := trivial; have zzr7 := trivial; have zzr8 := trivial; have zzr9 := trivial; have zzs7 := trivial; have zzs9 := trivial; have zzt7 := trivial; have zzt8 := trivial; have zzt9 := trivial; have zztk' := trivial; have zztk9 := trivial; have zzv9 := trivial; have zzvs' := trivial; have zzx9 := trivial; have zzxs' := trivial; have zzy9 := trivial
      rename_i D2 h2' tk1 oD2 tk0 G0 hG0 T hT0 F1' N1' lT hY tt G1 hG1 X hX F2 N2 lX I lI
      have hS3 : ∀ p ∈ nw, p ∈ nw2 := fun p hp => hS2 p (.tail _ hp)
      have hcN : (L' + 1 + 1, _) ∈ nw2 := hS3 _ (hS9 _ (.head _))
      have hD2 := off1_ne oD2
      refine hide fun hG9 => ?_
      obtain ⟨nf, f1, f2, f3, f4, f5, f6, f7, f8, f9, f10⟩ : ∃ nf : Led, (∀ p ∈ nf, p ∈ (X, _) :: (D2, LCg.lst ys2) :: nw2) ∧ (X, _) ∈ nf ∧ (D2, LCg.lst ys2) ∈ nf ∧ (_, LCg.lst ys) ∈ nf ∧ (L' + 1, _) ∈ nf ∧ (∀ p ∈ hn, p ∈ nf) ∧ (∀ p ∈ news, p ∈ nf) ∧ AllNe T nf ∧ AllNe (L' + 1 + 1) nf ∧ AllNe I nf :=
        ⟨(X, _) :: (D2, LCg.lst ys2) :: (_, LCg.lst ys) :: (L' + 1, _) :: (hn ++ news),
          List.forall_mem_cons.mpr ⟨.head _, List.forall_mem_cons.mpr ⟨.tail _ (.head _), List.forall_mem_cons.mpr ⟨.tail _ (.tail _ (hS2 _ (.head _))), List.forall_mem_cons.mpr ⟨.tail _ (.tail _ (hS3 _ (hS9 _ (.tail _ (.head _))))), fun p hp => .tail _ (.tail _ ((List.mem_append.mp hp).elim (fun q => hS3 _ (h3 _ q)) fun q => hS3 _ (hS9 _ (.tail _ (.tail _ q)))))⟩⟩⟩⟩,
          .head _, .tail _ (.head _), .tail _ (.tail _ (.head _)), .tail _ (.tail _ (.tail _ (.head _))), fun p hp => .tail _ (.tail _ (.tail _ (.tail _ (List.mem_append_left _ hp)))), fun p hp => .tail _ (.tail _ (.tail _ (.tail _ (List.mem_append_right _ hp)))),
          ⟨Nat.ne_of_gt lX.1, Nat.ne_of_lt lT.1, Nat.ne_of_lt (lt_mem lT.2 (hS2 _ (.head _))), Nat.ne_of_lt (lt_mem lT.2 (hS3 _ (hS9 _ (.tail _ (.head _))))), allNe_of fun p hp => Nat.ne_of_lt (lt_mem lT.2 ((List.mem_append.mp hp).elim (fun q => hS3 _ (h3 _ q)) fun q => hS3 _ (hS9 _ (.tail _ (.tail _ q)))))⟩,
          ⟨Nat.ne_of_gt (lt_mem lX.2.2 hcN), Ne.symm (hD2 _ hcN), Ne.symm hcD, Nat.ne_of_lt (Nat.lt_succ_self _), allNe_app h4 nA⟩,
          ⟨Nat.ne_of_lt lI.1, Nat.ne_of_lt lI.2.2.1, Nat.ne_of_lt (lt_mem lI.2.2.2 (hS2 _ (.head _))), Nat.ne_of_lt (lt_mem lI.2.2.2 (hS3 _ (hS9 _ (.tail _ (.head _))))), allNe_of fun p hp => Nat.ne_of_lt (lt_mem lI.2.2.2 ((List.mem_append.mp hp).elim (fun q => hS3 _ (h3 _ q)) fun q => hS3 _ (hS9 _ (.tail _ (.tail _ q)))))⟩⟩
      refine hG9 ?_
      have nTI : @Ne Nat T I := Nat.ne_of_lt lI.2.1
      have ncI : @Ne Nat (L' + 1 + 1) I := Nat.ne_of_lt (lt_mem lI.2.2.2 hcN)
      have ncT : @Ne Nat (L' + 1 + 1) T := Nat.ne_of_lt (lt_mem lT.2 hcN)
      refine items_sub (news' := (T, listOf #[] 0) :: (L' + 1 + 1, _) :: nf) (List.forall_mem_cons.mpr ⟨.tail _ (.head _), List.forall_mem_cons.mpr ⟨.tail _ (.tail _ (.tail _ hcN)), fun p hp => ?_⟩⟩) ?_
      · rcases List.mem_cons.mp (f1 p hp) with rfl | hp
        · exact .head _
        · exact .tail _ (.tail _ hp)
      have hz1 : ys.length ≤ 8 := by simpa using hl9
      have f0 : ∀ p ∈ fz, p ∈ nf := fun p hp => f7 p (hs p hp)
      have hT2 := hT.mono f0
      have mB := f0 _ hB1
      have mK := f0 _ hK1
      have hns : ns = lawInh rows b := by
        rw [List.filter_nil, List.append_nil] at he
        rw [List.filter_nil, List.map_nil, List.append_nil] at k4
        rw [k4, he]; rfl
      have hjs : js = rows.filter (hitL b) := by rw [List.filter_nil, List.append_nil] at he; exact he
      have hB5 := bnd_up hB4 f0
      clear he k4 hB4 hB1 hK1
      clear hS9 hS2 hS3 hcN hD2 hD1 lX lI lT F1' N1' oD1 oD2 hcD f1 h3 h4 nA
      refine cell_ind (α := Tr × Tok) (it := fun p => .val (.str p.1.nm p.2)) ["telling"] (fun r vs => ∃ ts, TrsAre vs ts ∧ vs.length + r.length ≤ 2 ∧ ts ++ (r.map (·.1)).filter (tells rows bs ks b) = lawTrs rows bs ks b) [(.A, _), (.B, _)] dB ⟨[], .nil, Nat.le_refl _, rfl⟩ ?_ ?_
      · intro z98 r vs3 ep3 oc x u v h tk o z99 hoc hv F9 ho N9
        refine hide fun hG9 => ?_
        obtain ⟨tr, tt⟩ := z98
        obtain ⟨ts, q1, q2, q3⟩ := z99
        refine hG9 ?_
        clear hG9
        obtain rfl : v = _ := hv
        dsimp only
        obtain ⟨uk, hu1, hu2⟩ := hK4 tr
        (try refine hideB fun G8 hG8 => ?_)
        k_steps
        refine cr_ind (fun r ys nw => ∃ is, HitsIn hn r is ∧ ys.length + r.length ≤ 8 ∧ (!ys.isEmpty || is.any (fun i => decide (i.trait = some tr))) = js.any (fun i => decide (i.trait = some tr))) ?_ ?_ _ _ _ (fun _ h => h) ⟨js, h2, by simpa using hz1, by simp⟩
        · intro v r ys4 nw4 hS4 z73
          refine hide fun hG9 => ?_
          obtain ⟨is, k5, k6, k7⟩ := z73
          cases k5 with
          | cons g1 g2 k5 =>
          refine hG9 ?_
          clear hG9
          have hr4 := hS4 _ (.tail _ (.tail _ (.head _)))
          refine ⟨_, _, _, rfl, hS4 _ (.tail _ (.tail _ (.tail _ (f6 _ g1)))), rfl, ?_⟩
          intro I oI C oC D m₂ h tk E' hC hB9 F9 N9 off hne9
          refine hide fun hG9 => ?_
          obtain ⟨b1, b2, _⟩ := hB9
          obtain ⟨o1, o2, o3⟩ := hne9
          refine hG9 ?_
          clear hG9
          refine wpAny_tests_one ?_
          refine hide fun hG9 => ?_
          rcases g2.split with ⟨e1, rfl⟩ | ⟨p, tp, e1, rfl⟩ <;> (refine hG9 ?_; clear hG9)
          · k_steps
            exact LCg.CompEnd.intro F9 N9 nw4 (fun _ h => h) off hS4 ⟨_, k5, by simp only [List.length_cons] at k6; omega, by rw [← k7]; simp [e1]⟩
          · by_cases hp : p = tr
            · subst hp
              have hq : (p.nm == p.nm) = true := by rw [Tr.nm_inj]; exact decide_eq_true rfl
              (try refine hideB fun G8 hG8 => ?_)
              k_steps
              exact LCg.CompEnd.intro F9 N9 nw4 (fun _ h => h) off hS4 ⟨_, k5, by simp only [List.length_append, List.length_cons, List.length_nil] at k6 ⊢; omega, by rw [← k7]; simp [e1]⟩
            · have hq : (p.nm == tr.nm) = false := by rw [Tr.nm_inj]; exact decide_eq_false hp
              (try refine hideB fun G8 hG8 => ?_)
              k_steps
              exact LCg.CompEnd.intro F9 N9 nw4 (fun _ h => h) off hS4 ⟨_, k5, by simp only [List.length_cons] at k6; omega, by rw [← k7]; simp [e1, hp]⟩
        · intro ys4 nw4 hS4 z74
          refine hide fun hG9 => ?_
          obtain ⟨is, k5, k6, k7⟩ := z74
          cases k5
          refine hG9 ?_
          clear hG9
          intro D3 h3 tk3 F3 N3 o3
          have hD3 := off1_ne o3
          have nD3 : AllNe D3 nf := allNe_of fun p hp => hD3 p (hS4 p (.tail _ (.tail _ (.tail _ hp))))
          have nDI : @Ne Nat I D3 := hD3 _ (hS4 _ (.head _))
          have nDT : @Ne Nat T D3 := hD3 _ (hS4 _ (.tail _ (.head _)))
          have nDc : @Ne Nat (L' + 1 + 1) D3 := hD3 _ (hS4 _ (.tail _ (.tail _ (.head _))))
          replace N3 := newsSub N3 (l' := (D3, listOf ys4.toArray ys4.length) :: (I, o) :: (T, listOf vs3.toArray ep3) :: (L' + 1 + 1, _) :: nf) (List.forall_mem_cons.mpr ⟨.head _, fun p hp => .tail _ (hS4 p hp)⟩)
          clear hS4 hD3 o3
          (try refine hideB fun G8 hG8 => ?_)
          k_steps
          · rename (List.isEmpty _ = true) => w1
            simp at w1
          · exact cell_end (vs := vs3 ++ [.str tr.nm tt]) (by k_asm) (by k_asm) (by k_extra "m subs") nTI ncI f10 ⟨.tail _ (.tail _ f2), trivial⟩ (by assumption) (by k_extra "m agr") ⟨ts ++ [tr], q1.snoc, by simp only [List.length_append, List.length_cons, List.length_nil] at q2 ⊢; omega, by rw [← q3, List.map_cons, filt_yes (f := tells rows bs ks b) (tells_yes2 (by assumption) (by assumption)), List.append_assoc]; rfl⟩
          · exact cell_end (vs := vs3) (by k_asm) (by k_asm) (by k_extra "m subs") nTI ncI f10 ⟨.tail _ (.tail _ f2), trivial⟩ (by assumption) (by k_extra "m agr") ⟨ts, q1, by simp only [List.length_cons] at q2; omega, by rw [← q3, List.map_cons, filt_no (f := tells rows bs ks b) (tells_no2 hjs k7 (by assumption) (by assumption))]⟩
          · exact cell_end (vs := vs3 ++ [.str tr.nm tt]) (by k_asm) (by k_asm) (by k_extra "m subs") nTI ncI f10 ⟨.tail _ (.tail _ f2), trivial⟩ (by assumption) (by k_extra "m agr") ⟨ts ++ [tr], q1.snoc, by simp only [List.length_append, List.length_cons, List.length_nil] at q2 ⊢; omega, by rw [← q3, List.map_cons, filt_yes (f := tells rows bs ks b) (tells_yes1 hjs k7 (by assumption)), List.append_assoc]; rfl⟩
          · exact cell_end (vs := vs3) (by k_asm) (by k_asm) (by k_extra "m subs") nTI ncI f10 ⟨.tail _ (.tail _ f2), trivial⟩ (by assumption) (by k_extra "m agr") ⟨ts, q1, by simp only [List.length_cons] at q2; omega, by rw [← q3, List.map_cons, filt_no (f := tells rows bs ks b) (tells_no1 hjs k7 (by assumption) (by assumption))]⟩
          · exact cell_end (vs := vs3 ++ [.str tr.nm tt]) (by k_asm) (by k_asm) (by k_extra "m subs") nTI ncI f10 ⟨.tail _ (.tail _ f2), trivial⟩ (by assumption) (by k_extra "m agr") ⟨ts ++ [tr], q1.snoc, by simp only [List.length_append, List.length_cons, List.length_nil] at q2 ⊢; omega, by rw [← q3, List.map_cons, filt_yes (f := tells rows bs ks b) (tells_yes1 hjs k7 (by assumption)), List.append_assoc]; rfl⟩
      · intro vs3 ep3 oc x u h tk z75 hoc F9 N9
        refine hide fun hG9 => ?_
        obtain ⟨ts, q1, q2, q3⟩ := z75
        refine hG9 ?_
        clear hG9
        (try refine hideB fun G8 hG8 => ?_)
        k_steps
        rw [List.map_nil, List.filter_nil, List.append_nil] at q3
        exact hret _ _ _ _ (by k_asm) (by k_asm) ⟨fun p hp => .tail _ (.tail _ (.tail _ (f7 p hp))), _, _, _, _, _, _, _, _, rfl, .head _, .tail _ (.tail _ (.tail _ f3)), .tail _ (.head _), hns ▸ k2, q3 ▸ q1⟩
end
theorem kw19_0 : True := by
  k_with_none
  (k_with "m k_mem" => first | (first | ktr_member | (with_reducible apply mem_hd) | ((with_reducible apply mem_tl); k_mem) | exact mem_via (by assumption) (by assumption)) | fail)
  (k_with "subscriptTail Name Constant ref int" => first | (k_here; (with_reducible show wpAny _ _ (subscriptTail _ _ (Value.ref _) (Value.int _ _)) _ _ _); k_dflt (refine' tup_item (by k_asm) (by k_mem) (by decide) (by decide) (by exact rfl) (by exact rfl) ?_ (by with_unfolding_all rfl); k_whole)) | fail)
  (k_with "ite" => first | (first | refine ite_t (by with_reducible assumption) ?_ | refine ite_f (by with_reducible assumption) ?_) | fail)
  (k_with "m lt" => first | (first | assumption | (apply PySem.W.allLt_of; assumption) | (apply allLt_tl; assumption) | (apply allLt_tl2; assumption) | with_reducible (k_extra "m pk") | (simp only [AllLt, and_true] at *; first | assumption | omega)) | fail)
  (k_with "m k_all" => first | (first | assumption | (apply ne_of_allNe; k_extra "m ne") | (apply ne_of_allLt; k_extra "m lt")) | fail)
  (k_with "m call" => first | (k_here; k_dflt (refine' Calls.use' (by k_asm) (by k_asm) (by k_asm) (by k_asm) (by k_asm) (by first | exact rfl | assumption) (by k_extra "m con") (by first | omega | (dsimp only [ktrTop]; omega)) (by k_extra "m un") ?_; k_whole); ((intro zzG9 zzhG9; k_dflt (k_extra "m out")) <;> (refine zzhG9 _ _ ?_; intro zzh9 zztk9 zzF9 zzN9; (try k_sweep)))) | fail)
  (k_with "m out" => first | (intro zzn9 zzr9 zzo9; (first | (obtain ⟨zze1, zze2⟩ := zzo9; subst zze1; subst zze2) | (obtain ⟨zze1, zzt9, zze2⟩ := zzo9; subst zze1; subst zze2) | (obtain ⟨zzl9, zze9, zze2, zze1, zzq9⟩ := zzo9; subst zze1; subst zze2; (simp only [AllLt, and_true] at zzq9)) | (obtain ⟨zzl9, zze9, zzp9, zzm9, zzx9, zzy9, zze2, zze1, zzq1, zzq2, zzq3, zzq4⟩ := zzo9; subst zze1; subst zze2; (simp only [AllLt, and_true] at zzq3); obtain ⟨zza8, zzn8, zzt8, zzr8, zze8, zzm8⟩ := Mine.TyIn.head zzq1; subst zze8; obtain ⟨zza7, zzn7, zzt7, zzr7, zze7, zzm7⟩ := Mine.TyIn.head zzq2; subst zze7) | (rcases zzo9 with ⟨zze3, zze1, zzt9, zze2⟩ | ⟨zze3, zze1, zzt9, zze2⟩ <;> (subst zze1; subst zze2)))) | fail)
  (k_with "call ref" => first | (k_extra "m call") | fail)
  (k_with "m un" => first | ((try dsimp +zetaDelta only); (have zzhcl9 := cLine_is); (try simp only [units_in1, units_deeper, Around.mark_units, units_caller]); (try dsimp only [ktrTop]); omega) | fail)
  (k_with "m dp" => first | (first | assumption | (simp only [Ty.dep]; omega) | decide) | fail)
  (k_with "compareOp NotEq ref ref" => first | (k_here; (with_reducible show wpAny _ _ (compareOp CmpOp.NotEq (Value.ref _) (Value.ref _)) _ _ _); k_dflt (first | (refine' nil_ne_nil (by k_asm) (by k_mem) (by k_mem) (by k_extra "m un") ?_; k_whole) | (refine' one_ne_nil (by k_asm) (by k_mem) (by k_mem) (by k_mem) (by assumption) (by assumption) (by k_extra "m sub") (by k_extra "m dp") (by k_extra "m dp") (by k_extra "m un") ?_; k_whole))) | fail)
  (k_with "exec While Compare" => first | (k_here; k_dflt (refine whl_start 8 ?_)) | fail)
  (k_with "m k_room" => first | ((try dsimp +zetaDelta only); (try simp only [depth_under_make, depth_under_kw, depth_in1, depth_deeper, depth_caller]); (try dsimp only [ktrTop]); have zzhrl9 : recursionLimit = 1000 := rfl; omega) | fail)
  (k_with "eval Name" => first | (k_here; (fail_if_success with_reducible show wpAny _ _ (eval _ (compEnvC _ _ _ _)) _ _ _); k_dflt (refine' nameX_L (by k_asm) (by exact @rfl _ (some _)) ?_ (by kernel_rfl) (rfl) (by kernel_rfl); k_whole)) | fail)
  (k_with "ite" => first | (k_closed; first | refine ite_t (by decide +kernel) ?_ | refine ite_f (by decide +kernel) ?_) | fail)
  (k_with "exec For Name Call cons nil" => first | (k_extra "m for") | fail)
  (k_with "exec For Tuple List cons nil" => first | (k_extra "m for") | fail)
  (k_with "m for" => first | (k_here; (rename Fr _ _ _ _ => zzlF'); (with_unfolding_all refine' For_turns zzlF' ?_; k_whole)) | fail)
  (k_with "m pick" => first | (with_reducible (k_extra "m pk")) | fail)
  (k_with "m ne" => first | (first | with_reducible (first | assumption | (apply allNe_of; assumption) | (apply allNe_off; assumption) | (apply allNe_lt; apply PySem.W.allLt_of; assumption)) | ((with_reducible apply allNe_cons); k_ne; k_extra "m ne") | with_reducible (k_extra "m pkq") | (apply allNe_lt; with_reducible (k_extra "m pkq")) | with_reducible (k_extra "m pk") | (apply allNe_lt; with_reducible (k_extra "m pk")) | (apply allNe_off; with_reducible (k_extra "m pk")) | (apply allNe_lt; apply allLt_tl; assumption) | (with_reducible apply allNe_nil)) | fail)
  (k_with "m subh" => first | (with_reducible (apply sub_hd; first | assumption | (apply sub_hd; first | assumption | (apply sub_hd; first | assumption | (apply sub_hd; first | assumption | (apply sub_hd; first | assumption | (apply sub_hd; first | assumption | (apply sub_hd; first | assumption | (apply sub_hd; first | assumption | (apply sub_hd; assumption)))))))))) | fail)
  (k_with "m subs" => first | (first | (with_reducible apply sub_refl) | assumption | ((with_reducible apply subs_cons); k_mem; k_extra "m subs") | ((with_reducible apply sub_tl); k_extra "m subs") | (with_reducible apply List.forall_mem_nil) | k_extra "m subh") | fail)
  (k_with "getMethod ref" => first | (k_here; (with_reducible show wpAny _ _ (getMethod (Value.ref _) (Str.ofString "get") _) _ _ _); k_dflt (refine' kdg_method (knd := PySem.strKind _ _) (by k_asm) (by k_mem) (by k_asm) ?_; k_whole)) | fail)
  (k_with "compareOp In str ref" => first | (k_here; (with_reducible show wpAny _ _ (compareOp CmpOp.In (Value.str _ _) (Value.ref _)) _ _ _); k_dflt (first | (refine' kda_in (knd := PySem.strKind _ _) (by k_asm) (by k_mem) (by k_asm) (by k_asm) (strKind_is _ _ _ _) true (by first | assumption | exact rfl) ?_; k_whole) | (refine' kda_in (knd := PySem.strKind _ _) (by k_asm) (by k_mem) (by k_asm) (by k_asm) (strKind_is _ _ _ _) false (by first | assumption | exact rfl) ?_; k_whole))) | fail)
  (k_with "compareOp In str ref" => first | (k_here; (with_reducible show wpAny _ _ (compareOp CmpOp.In (Value.str _ _) (Value.ref _)) _ _ _); (with_unfolding_all refine' in_tuple_strs (by exact tup_of (by k_asm) (by k_mem)) (by kde_strs) ?_; k_whole)) | fail)
  (k_with "pyIter ref" => first | (k_here; (with_reducible show wpAny _ _ (pyIter (Value.ref _)) (fun it s₂ => TurnsAt _ _ _ _ _ _ _ _ _ it s₂) _ _); k_dflt (refine' iter_listTurns (by exact rfl) (by k_asm) (by k_asm) (by k_mem) (by exact rfl) (by exact rfl) ?_; k_whole); intro zzi' zzl1; (try k_lt zzl1)) | fail)
  (k_with "m agr" => first | (first | assumption | exact agree_over | exact agree_refl | (refine agree_store ?_ (by decide); k_extra "m agr")) | fail)
  (k_with "compareOp NotEq ref ref" => first | (k_here; (with_reducible show wpAny _ _ (compareOp CmpOp.NotEq (Value.ref _) (Value.ref _)) _ _ _); k_dflt (refine' ne_empty (by k_asm) (by k_mem) (by k_mem) (by k_extra "m un") (by first | assumption | exact rfl) ?_; k_whole)) | fail)
  (k_with "m sub" => first | (first | assumption | ((with_reducible apply sub_tl); k_extra "m sub") | k_extra "m subh") | fail)
  (k_with "execs cons" => first | (k_here; (try dsimp only); (refine' exec_cons_h ?_); intro zztk' zzG' zzhG'; (try (rename PyProof.Rows.News _ _ _ _ => zznN'; dsimp only at zznN'))) | fail)
  (k_with "execs nil" => first | (k_here; (refine' exec_nil_g ?_); intro zztk'; (try (refine qout (by with_reducible assumption) ?_))) | fail)
  (k_with "m leave" => first | (k_end; first | ((try dsimp only); (refine' gnext_cons (by with_reducible assumption) ?_); intro zztk' zzG' zzhG'; (try (rename PyProof.Rows.News _ _ _ _ => zznN'; dsimp only at zznN'))) | (refine gnext (by with_reducible assumption) ?_) | (refine gout (by with_reducible assumption) ?_ ?_; (exact True.intro); (try (refine qout (by with_reducible assumption) ?_)))) | fail)
  (k_with "m k_steps" => first | (repeat' (first | k_extra "m leave" | (k_unfold; (try dsimp only)) | (k_end; wrow_close) | walk1 | (dsimp only; walk1) | (leave1; walk_say "STEP leave1"; try dsimp only) | fail "no step")) | fail)
  (k_with "m pkq" => first | (first | assumption | (apply And.left; first | assumption | (apply And.right; first | assumption | (apply And.right; first | assumption | (apply And.right; first | assumption | (apply And.right; first | assumption | (apply And.right; assumption))))))) | fail)
  (k_with "m pkr" => first | (first | assumption | (apply And.right; first | assumption | (apply And.right; first | assumption | (apply And.right; first | assumption | (apply And.right; first | assumption | (apply And.right; first | assumption | (apply And.right; first | assumption | (apply And.right; first | assumption | (apply And.right; first | assumption | (apply And.right; first | assumption | (apply And.right; first | assumption | (apply And.right; first | assumption | (apply And.right; first | assumption | (apply And.right; first | assumption | (apply And.right; first | assumption | (apply And.right; assumption)))))))))))))))) | fail)
  (k_with "m pk" => first | (first | assumption | (apply And.left; k_extra "m pkr") | (apply And.right; k_extra "m pkr")) | fail)
  (k_with "m omega" => first | (first | ((with_reducible apply neL); with_reducible (k_extra "m pkq")) | ((with_reducible apply neG); with_reducible (k_extra "m pkq")) | ((with_reducible apply neL); with_reducible (k_extra "m pk")) | ((with_reducible apply neG); with_reducible (k_extra "m pk")) | ((with_reducible apply neS); with_reducible (k_extra "m pk")) | ((with_reducible apply lin2); assumption; exact @rfl Bool true) | ((with_reducible apply lin1); assumption; exact @rfl Bool true) | ((with_reducible apply lin0); assumption; exact @rfl Bool true) | ((with_reducible apply lin3); assumption; exact @rfl Bool true) | ((with_reducible apply lin1e); assumption; exact @rfl Bool true) | ((with_reducible apply lin2e); assumption; exact @rfl Bool true) | ((with_reducible apply Nat.le_of_ble_eq_true); exact @rfl Bool true) | ((with_reducible apply om_w); assumption; exact @rfl Bool true) | ((with_reducible apply om_p3); assumption) | ((with_reducible apply om_p2); assumption) | ((with_reducible apply om_p3e); assumption) | (with_reducible apply om_p3r) | ((with_reducible apply om_p4); assumption; exact @rfl Bool true) | ((with_reducible apply om_s); assumption; exact @rfl Bool true) | ((with_reducible apply om_s1); assumption; exact @rfl Bool true) | ((with_reducible apply om_s2); assumption; exact @rfl Bool true) | ((with_reducible apply om_i); assumption; decide +kernel) | ((with_reducible apply om_i2); assumption; assumption; decide +kernel) | ((with_reducible apply om_n); decide +kernel) | (with_reducible apply Int.natCast_nonneg) | ((with_reducible apply om_k); assumption; decide +kernel) | with_reducible (k_extra "m pk")) | fail)
  (k_with "m k_ne" => first | ((with_reducible apply PySem.W.neN); (try dsimp only); omega) | fail)
  (k_with "spliced" => first | (k_here; (with_reducible show wpAny _ _ (spliced (backTo _ (starEach (PySem.Expr.Name _ _ :: _) _))) _ _ _); k_dflt (refine' args_nm (by exact rfl) (by k_asm) (by exact @rfl _ (some _)) (by kernel_rfl) (by exact rfl) (by kernel_rfl) ?_; k_whole)) | fail)
  (k_with "eval Subscript" => first | (k_here; (with_reducible show wpAny _ _ (eval (PySem.Expr.Subscript (PySem.Expr.Name _ _) _ _) _) _ _ _); k_dflt (refine' sub_nm (by exact rfl) (by k_asm) (by exact @rfl _ (some _)) (by kernel_rfl) (by exact rfl) (by kernel_rfl) ?_; k_whole)) | fail)
  (k_with "isTrue Compare" => first | (k_here; (with_reducible show wpAny _ _ (isTrue (PySem.Expr.Compare (PySem.Expr.Name _ _) [_] [_] _) _ _) _ _ _); k_dflt (refine' cmp_nm (by exact rfl) (by k_asm) (by exact @rfl _ (some _)) (by kernel_rfl) (by exact rfl) (by kernel_rfl) (by with_unfolding_all rfl) ?_; k_whole)) | fail)
  (k_with "m k_upd" => first | (first | ((with_reducible apply PySem.W.Upd.head); k_all) | ((with_reducible apply PySem.W.Upd.tail); k_ne; k_upd)) | fail)
  (k_with "m k_updF" => first | (first | ((with_reducible apply PySem.W.UpdF.head); k_all) | ((with_reducible apply PySem.W.UpdF.tail); k_ne; k_updF)) | fail)
  (k_with "spliced" => first | (k_here; (with_reducible show wpAny _ _ (spliced (backTo _ (starEach (PySem.Expr.Constant (PySem.Const.str _) _ _ :: _) _))) _ _ _); k_dflt (refine' args_str ?_; k_whole)) | fail)
  (k_with "eval Subscript" => first | (k_here; (with_reducible show wpAny _ _ (eval (PySem.Expr.Subscript (PySem.Expr.Name _ _) (PySem.Expr.Constant (PySem.Const.int _) _ _) _) _) _ _ _); k_dflt (refine' sub_it (by exact rfl) (by k_asm) (by exact @rfl _ (some _)) (by kernel_rfl) (by exact rfl) (by kernel_rfl) (by k_asm) (by k_mem) (by exact @rfl _ (some _)) ?_; k_whole)) | fail)
  (k_with "exec If" => first | (k_here; (with_reducible show wpAny _ _ (exec (PySem.Stmt.If (PySem.Expr.Compare (PySem.Expr.Name _ _) [_] [_] _) _ _ _) _) _ _ _); k_dflt (refine' if_nm (by exact rfl) (by k_asm) (by exact @rfl _ (some _)) (by kernel_rfl) (by exact rfl) (by kernel_rfl) (by with_unfolding_all rfl) ?_; k_whole)) | fail)
  (k_with "eval Constant str" => first | (k_here; (with_reducible show wpAny _ _ (eval (PySem.Expr.Constant (PySem.Const.str _) _ _) _) (fun b s₂ => wpAny _ _ (compareOp CmpOp.Eq (Value.str _ _) b) (fun c s₃ => wpAny _ _ (truthy c) _ _ s₃) _ s₂) _ _); (with_reducible refine' eq_cst ?_); k_whole) | fail)
  (k_with "exec Assign" => first | (k_here; (with_reducible show wpAny _ _ (exec (PySem.Stmt.Assign [PySem.Expr.Attribute (PySem.Expr.Name _ _) _ _] (PySem.Expr.Name _ _) _) _) _ _ _); k_dflt (refine' set_nm (by exact rfl) (by k_asm) (by exact @rfl _ (some _)) (by exact @rfl _ (some _)) (by kernel_rfl) (by exact rfl) (by exact rfl) (by kernel_rfl) (by kernel_rfl) (by k_asm) (by k_asm) (by k_inst) (by exact rfl) (by k_is) (by k_is) (by k_is) (by k_is) (by k_get) (by k_put) (by k_upd) (by exact Nat.le_of_ble_eq_true rfl) (by exact rfl) ?_; k_whole); intro zzh' zzF' zzN'; (try k_sweep)) | fail)
  (k_with "spliced" => first | (k_here; (with_reducible show wpAny _ _ (spliced (backTo _ (starEach [] _))) (fun vs s₂ => wpAny _ _ (newTuple _) _ _ s₂) _ _); with_reducible refine' nil_tup (by k_dflt k_asm) (by k_dflt k_asm) (by k_dflt (exact Nat.le_of_ble_eq_true rfl)) ?_; k_whole; intro zzD' zzh' zzF' zzN' zzl1; (try k_lt zzl1); (try k_sweep)) | fail)
  (k_with "spliced" => first | (k_here; (with_reducible show wpAny _ _ (spliced (backTo _ (starEach [] _))) (fun vs s₂ => wpAny _ _ (newList _) _ _ s₂) _ _); with_reducible refine' nil_lst (by k_dflt k_asm) (by k_dflt k_asm) (by k_dflt (exact Nat.le_of_ble_eq_true rfl)) ?_; k_whole; intro zzl' zzh' zzF' zzN' zzl1; (try k_lt zzl1); (try k_sweep)) | fail)
  exact trivial
section
variable {w : World} {loose : List Str} {mean : ExcName → Option Value} {mg mb : Str → Option Value} {fz news : Led}
theorem kw19_1 : True := by
  (k_with "m k_mem" => first | (first | with_reducible assumption | exact mem_via2 (by with_reducible assumption) (by with_reducible assumption) | ((with_reducible refine mem_via (by assumption) ?_); k_mem)) | fail)
  exact trivial
theorem lat_cN {fz2 : Led} {rl : Addr} {vs : List Value} {ep : Nat} {bv kv rv : Value} {rows : List Imp} {bs : List Tr} {ks : Tr → Slf} {b : Ty} (hl : (rl, listOf vs.toArray ep) ∈ fz) (hz : vs.length ≤ 8) (hR : RowsIn fz vs rows) (hB : BndIn w fz bv bs) (hK : KindsIn w fz kv ks) (hT : TyIn fz2 rv b) (db : b.dep ≤ 40) (hs : ∀ p ∈ fz, p ∈ news) (hs2 : ∀ p ∈ fz2, p ∈ news) :
    Calls w loose mean mg mb 3 375 [.ref rl, bv, kv, rv] news (fun n' r => (∀ p ∈ news, p ∈ n') ∧ LatSp n' (atL rows bs ks b) r) :=
  (lat_c (fun _ h => h) (hs _ hl) hz (hR.mono hs) (hB.mono hs) (hK.mono hs) (hT.mono hs2) db).imp fun n r h => ⟨h.1, h.2.sp (Nat.le_trans lawInh_len (hR.length ▸ hz)) lawTrs_len⟩
theorem kw19_2 : True := by
  (k_with "exec While Compare" => first | (k_here; k_dflt (refine' steps_while (by k_asm) (by k_asm) (by exact fun _ h => h) (by exact TyIn.mono (by assumption) (by assumption)) ?turn (by passes_own); k_whole)) | fail)
  (k_with "subscriptTail Name UnaryOp ref int" => first | (k_here; (with_reducible show wpAny _ _ (subscriptTail _ _ (Value.ref _) (Value.int (-1) _)) _ _ _); k_dflt (refine' lst_last (by k_asm) (by k_mem) ?_ (by with_unfolding_all rfl); k_whole)) | fail)
  (k_with "subscriptTail Name ref int" => first | (k_here; (with_reducible show wpAny _ _ (subscriptTail _ _ (Value.ref _) (Value.int (-1) _)) _ _ _); k_dflt (refine' lst_last (by k_asm) (by k_mem) ?_ (by with_unfolding_all rfl); k_whole)) | fail)
  (k_with "subscriptTail Subscript" => first | (k_here; (with_reducible show wpAny _ _ (subscriptTail _ _ (Value.ref _) (Value.int _ _)) _ _ _); k_dflt (refine' tup_last (by k_asm) (by k_mem) (by decide) (by decide) (by with_unfolding_all rfl) (by exact rfl) ?_ (by with_unfolding_all rfl); k_whole)) | fail)
  (k_with "compareOp In str ref" => first | (k_here; (with_reducible show wpAny _ _ (compareOp CmpOp.In (Value.str _ _) (Value.ref _)) _ _ _); k_dflt (refine' in_lst (vs := [_, _]) (by k_asm) (by k_mem) (by kde_strs) ?_; k_whole)) | fail)
  (k_with "call builtin:list.append" => first | (k_here; (with_reducible show wpAny _ _ (call (Value.builtin _) [Value.ref _, _]) _ _ _); k_dflt (refine' append_K (by k_asm) (by k_asm) (by k_upd) ?_ (by first | size_fits | (simp only [List.size_toArray, List.length_append, List.length_cons, List.length_nil]; rw [sizeLine_eq]; omega)); k_whole); intro zzh' zzF' zzN'; (try dsimp only at zzN'); (try rw [List.push_toArray] at zzN'); (try k_sweep)) | fail)
  (k_with "call builtin:len" => first | (k_here; (with_reducible show wpAny _ _ (call (Value.builtin "len") [Value.ref _]) _ _ _); k_dflt (refine' len_lst (by k_asm) (by k_mem) (by first | (simp only [List.length_cons, List.length_nil]; omega) | omega) ?_; k_whole); intro zzt' zztk') | fail)
  (k_with "call type:range" => first | (k_here; (with_reducible show wpAny _ _ (call (Value.type "range") [Value.int _ _]) (fun xv s₁ => wpAny _ _ (pyIter xv) (fun it s₂ => TurnsAt _ _ _ _ _ _ _ _ _ it s₂) _ s₁) _ _); k_dflt (refine' rng_for (by exact rfl) (by k_asm) (by k_asm) (by omega) ?_; k_whole); intro zzi' zzl1; (try k_lt zzl1)) | fail)
  (k_with "subscriptTail Name Name ref int" => first | (k_here; (with_reducible show wpAny _ _ (subscriptTail _ _ (Value.ref _) (Value.int _ _)) _ _ _); k_dflt (refine' lst_item (by k_asm) (by k_mem) (by omega) (by omega) (by exact Int.toNat_natCast _) (by assumption) ?_ (by with_unfolding_all rfl); k_whole)) | fail)
  (k_with "subscriptTail Name Constant ref int" => first | (k_here; (with_reducible show wpAny _ _ (subscriptTail _ _ (Value.ref _) (Value.int _ _)) _ _ _); k_dflt (refine' lst_item (by k_asm) (by k_mem) (by decide) (by decide) (by exact rfl) (by exact rfl) ?_ (by with_unfolding_all rfl); k_whole)) | fail)
  (k_with "pyIter ref" => first | (k_here; (with_reducible show wpAny _ _ (pyIter (Value.ref _)) (fun it s₂ => TurnsAt _ _ _ _ _ _ _ _ _ it s₂) _ _); k_dflt (first | (refine' iter_tupTurns (by exact rfl) (by k_asm) (by k_asm) (by with_reducible assumption) (by exact rfl) (by exact rfl) ?_; k_whole) | (refine' lst_src (vs := [_, _, _]) (by exact rfl) (by k_asm) (by k_asm) (by k_mem) ?_; k_whole)); intro zzi' zzl1; (try k_lt zzl1); (try intro zzxs' zzex')) | fail)
  (k_with "m con" => first | (first | exact lat_cN (w := w) (by assumption) (by assumption) (by assumption) (by assumption) (by assumption) (by assumption) (by assumption) (by k_extra "m subs") (by k_extra "m subs")) | fail)
  (k_with "m out" => first | (intro zzn9 zzr9 zzo9; (obtain ⟨zzs9, zzq4⟩ := zzo9; rcases zzq4 with ⟨zzq1, zzq2, zzq3, zze5, zze6⟩ | ⟨zzq1, zzq2, zzq3, zze6⟩ | ⟨zzq1, zzq2, zzq3, zze6⟩ | ⟨zzq1, zzq2, zzq3, zze6⟩ | ⟨zzq1, zzq2, zzq3, zze5, zze6⟩)) | fail)
  exact trivial
set_option maxHeartbeats 4000000 in
theorem ldue_c {rl : Addr} {vs : List Value} {ep : Nat} {bv kv v : Value} {rows : List Imp} {bs : List Tr} {ks : Tr → Slf} {t : Ty} (hs : ∀ p ∈ fz, p ∈ news) (hl : (rl, listOf vs.toArray ep) ∈ fz) (hz : vs.length ≤ 8) (hR : RowsIn fz vs rows) (hB : BndIn w fz bv bs) (hK : KindsIn w fz kv ks) (hT : TyIn fz v t) (hc : t.clear = true) (hd9 : t.dep ≤ 20) :
    Calls w loose mean mg mb 5 382 [.ref rl, bv, kv, v] news (fun n' r => (∀ p ∈ news, p ∈ n') ∧ ToldIs n' r (findP (atL rows bs ks) t.chain 0)) := by
  refine hide fun hG9 => ?_
  have hT' := hT
  obtain @⟨a0, n0, t0, r0, m0⟩ := hT.head
  obtain @⟨bd, bo, bkv, hB1, hB2, hB3, hB4⟩ := hB.split
  obtain @⟨kd, ko, kkv, hK1, hK2, hK3, hK4⟩ := hK.split
  clear hB1 hB2 hB3 hB4 hK1 hK2 hK3 hK4
  refine hG9 ?_
  clear hG9
  refine Calls.of ?_
  k_fill
  intro dp un gd cn cs a' ccd cl outer A₀ base h₀ L m' shh sgg sdd skk soo Q E B F X N T hk hd hu hret
  refine wpAny_call ?_
  k_dflt ktr_enter
  refine let_ae ?_
  intro nk ak Q0 hQ0
  (rename Fr _ _ _ _ => F1)
  replace F1 : Fr _ _ _ (fun y => List.lookup y [(("told" : Str), _), (("kinds" : Str), _), (("bounds" : Str), _), (("rows" : Str), _)]) := F1
  k_steps
  rename (∀ p ∈ news, _ < _) => lS
  refine ⟨?_⟩
  intro vs9 v9 u9 ep9 h9 tk9 T9 n9 w9 F9 N9
  have nS : AllNe _ news := allNe_of fun p hp => Nat.ne_of_lt (lS p hp)
  have hcl := chain_len t
  have hv9 : vs9.length ≤ 21 := by omega
  rcases T9.split with @⟨a2, k2, t2, m2, x2, u2, rfl, h2, g2⟩ | @⟨a2, k2, t2, x2, u2, rfl, h2, g2⟩ | @⟨a2, k2, t2, r2, e2, h2, f2⟩
  · obtain @⟨a3, n3, t3, r3, m3⟩ := g2.head
    (try refine hideB fun G8 hG8 => ?_)
    k_steps
    exact StEnd.intro (vs := vs9 ++ [.ref a2]) (by k_asm) (by k_asm) (by k_extra "m subs") g2 (by simp only [Ty.dep]; omega) (by simp only [Ty.chain, List.length_append, List.length_cons, List.length_nil] at n9 ⊢; omega) (fun ws hw => by rw [List.append_assoc]; exact w9 _ (.cons T9 hw))
  · obtain @⟨a3, n3, t3, r3, m3⟩ := g2.head
    (try refine hideB fun G8 hG8 => ?_)
    k_steps
    exact StEnd.intro (vs := vs9 ++ [.ref a2]) (by k_asm) (by k_asm) (by k_extra "m subs") g2 (by simp only [Ty.dep]; omega) (by simp only [Ty.chain, List.length_append, List.length_cons, List.length_nil] at n9 ⊢; omega) (fun ws hw => by rw [List.append_assoc]; exact w9 _ (.cons T9 hw))
  · have t8 := w9 [.ref a2] (by rw [e2]; exact .cons T9 .nil)
    have hl8 := t8.length
    have hwl : (vs9 ++ [Value.ref a2]).length ≤ 22 := by simp only [List.length_append, List.length_cons, List.length_nil]; omega
    clear w9 n9 hv9
    have hrl := hR.length
    have hr8 : rows.length ≤ 8 := by omega
    (try refine hideB fun G8 hG8 => ?_)
    k_steps
    generalize vs9 ++ [Value.ref a2] = ws at *
    refine fix_ind ["many", "here", "word", "receiver", "found"] (FindAt (atL rows bs ks) t.chain) (List.range _) (FindAt.start hl8) ?_ ?_
    · intro a r u v' h tk o hP z98 F9 ho N9
      refine hide fun hG9 => ?_
      obtain ⟨tt, rfl⟩ := z98
      obtain ⟨q1, q2, q3⟩ := hP.step
      obtain ⟨vd, td, e1, e2, e3, e4⟩ := t8.at (d := a) (by omega)
      obtain @⟨ad, nd, tkd, rd, md⟩ := e3.head
      have c1 := chain_clear hc td e4
      have c2 := chain_dep hd9 td e4
      refine hG9 ?_
      clear hG9
      (try refine hideB fun G8 hG8 => ?_)
      k_steps
      rename (_ = List.map _ _) => ex
      subst ex
      refine recv_ind ["word", "receiver", "found"] (atL rows bs ks) a (recvs td) (recv_start (by k_mem) (by k_mem) (by k_mem) (by k_mem) (by k_mem) (e3.mono (by k_extra "m subs")) c1 c2) ?_ ?_
      · intro D av k aa c b r' ps u' h' tk' o' m1 m2 m3 m4 m5 m6 m7 F9 ho' N9
        (try refine hideB fun G8 hG8 => ?_)
        k_steps
        all_goals try (exfalso; first | exact two_lt (by assumption) | exact one_lt (by assumption) | exact emp_t (by assumption))
        all_goals (rename (∀ p ∈ _ :: _, p ∈ _) => s6)
        · exact hret _ _ _ _ (by k_asm) (by k_asm) ⟨sub_tl (sub_trans s6 (by k_extra "m subs")), by rw [← q2, e2, findP_some (clear_ne c1) (m7.symm.trans (tryR_fault (by assumption)))]; exact .fault⟩
        · exact hret _ _ _ _ (by k_asm) (by k_asm) ⟨sub_tl (sub_tl (sub_tl (sub_trans s6 (by k_extra "m subs")))), by rw [← q2, e2, findP_some (clear_ne c1) (m7.symm.trans (tryR_imp (by assumption)))]; exact .imp (.head _) m2⟩
        · refine unrEndTop (by k_asm) (by k_asm) (by k_extra "m ne") ⟨⟨by assumption, trivial⟩, ?_⟩
          (try refine hideB fun G8 hG8 => ?_)
          k_steps
          refine unrEndTop (by k_asm) (by k_asm) (by k_extra "m ne") ⟨⟨by assumption, trivial⟩, ?_⟩
          (try refine hideB fun G8 hG8 => ?_)
          k_steps
          exact fix_end (by k_asm) (by k_asm) s6 (by k_extra "m ne") ⟨.head _, trivial⟩ (by k_extra "m agr") ⟨ps, m6, by rw [← m7, tryR_no (by assumption)]⟩
        · refine unrEndTop (by k_asm) (by k_asm) (by k_extra "m ne") ⟨⟨by assumption, trivial⟩, ?_⟩
          (try refine hideB fun G8 hG8 => ?_)
          k_steps
          all_goals try (exfalso; first | exact two_lt (by assumption) | exact one_lt (by assumption) | exact emp_t (by assumption))
          exact hret _ _ _ _ (by k_asm) (by k_asm) ⟨sub_tl (sub_tl (sub_tl (sub_trans s6 (by k_extra "m subs")))), by rw [← q2, e2, findP_some (clear_ne c1) (m7.symm.trans (tryR_tr (by assumption)))]; exact .tr (.head _) m2⟩
        · refine unrEndTop (by k_asm) (by k_asm) (by k_extra "m ne") ⟨⟨by assumption, trivial⟩, ?_⟩
          (try refine hideB fun G8 hG8 => ?_)
          k_steps
          all_goals try (exfalso; first | exact two_lt (by assumption) | exact one_lt (by assumption) | exact emp_t (by assumption))
          exact hret _ _ _ _ (by k_asm) (by k_asm) ⟨sub_tl (sub_trans s6 (by k_extra "m subs")), by rw [← q2, e2, findP_some (clear_ne c1) (m7.symm.trans (tryR_fault (by assumption)))]; exact .fault⟩
      · intro u' h' tk' m7 F9 N9
        (try refine hideB fun G8 hG8 => ?_)
        k_steps
        exact fix_end (by k_asm) (by k_asm) (by k_extra "m subs") (by k_extra "m ne") trivial (agree_over2 (by k_extra "m agr") (by decide)) (q3 td e2 (findP_none (clear_ne c1) m7))
    · rintro u h tk hP F9 N9
      (try refine hideB fun G8 hG8 => ?_)
      k_steps
      exact hret _ _ _ _ (by k_asm) (by k_asm) ⟨by k_extra "m subs", by rw [hP.end]; exact .no⟩
end
theorem kw20_0 : True := by
  k_with_none
  (k_with "m k_mem" => first | (first | ktr_member | (with_reducible apply mem_hd) | ((with_reducible apply mem_tl); k_mem) | exact mem_via (by assumption) (by assumption)) | fail)
  (k_with "ite" => first | (first | refine ite_t (by with_reducible assumption) ?_ | refine ite_f (by with_reducible assumption) ?_) | fail)
  (k_with "m lt" => first | (first | assumption | (apply PySem.W.allLt_of; assumption) | (apply allLt_tl; assumption) | (apply allLt_tl2; assumption) | with_reducible (k_extra "m pk") | (simp only [AllLt, and_true] at *; first | assumption | omega)) | fail)
  (k_with "m k_all" => first | (first | assumption | (apply ne_of_allNe; k_extra "m ne") | (apply ne_of_allLt; k_extra "m lt")) | fail)
  (k_with "m call" => first | (k_here; k_dflt (refine' Calls.use' (by k_asm) (by k_asm) (by k_asm) (by k_asm) (by k_asm) (by first | exact rfl | assumption) (by k_extra "m con") (by first | omega | (dsimp only [ktrTop]; omega)) (by k_extra "m un") ?_; k_whole); ((intro zzG9 zzhG9; k_dflt (k_extra "m out")) <;> (refine zzhG9 _ _ ?_; intro zzh9 zztk9 zzF9 zzN9; (try k_sweep)))) | fail)
  (k_with "m out" => first | (intro zzn9 zzr9 zzo9; (first | (obtain ⟨zze1, zze2⟩ := zzo9; subst zze1; subst zze2) | (obtain ⟨zze1, zzt9, zze2⟩ := zzo9; subst zze1; subst zze2) | (obtain ⟨zzl9, zze9, zze2, zze1, zzq9⟩ := zzo9; subst zze1; subst zze2; (simp only [AllLt, and_true] at zzq9)) | (obtain ⟨zzl9, zze9, zzp9, zzm9, zzx9, zzy9, zze2, zze1, zzq1, zzq2, zzq3, zzq4⟩ := zzo9; subst zze1; subst zze2; (simp only [AllLt, and_true] at zzq3); obtain ⟨zza8, zzn8, zzt8, zzr8, zze8, zzm8⟩ := Mine.TyIn.head zzq1; subst zze8; obtain ⟨zza7, zzn7, zzt7, zzr7, zze7, zzm7⟩ := Mine.TyIn.head zzq2; subst zze7) | (rcases zzo9 with ⟨zze3, zze1, zzt9, zze2⟩ | ⟨zze3, zze1, zzt9, zze2⟩ <;> (subst zze1; subst zze2)))) | fail)
  (k_with "m un" => first | ((try dsimp +zetaDelta only); (have zzhcl9 := cLine_is); (try simp only [units_in1, units_deeper, Around.mark_units, units_caller]); (try dsimp only [ktrTop]); omega) | fail)
  (k_with "m dp" => first | (first | assumption | (simp only [Ty.dep]; omega) | decide) | fail)
  (k_with "m k_room" => first | ((try dsimp +zetaDelta only); (try simp only [depth_under_make, depth_under_kw, depth_in1, depth_deeper, depth_caller]); (try dsimp only [ktrTop]); have zzhrl9 : recursionLimit = 1000 := rfl; omega) | fail)
  (k_with "eval Name" => first | (k_here; (fail_if_success with_reducible show wpAny _ _ (eval _ (compEnvC _ _ _ _)) _ _ _); k_dflt (refine' nameX_L (by k_asm) (by exact @rfl _ (some _)) ?_ (by kernel_rfl) (rfl) (by kernel_rfl); k_whole)) | fail)
  (k_with "ite" => first | (k_closed; first | refine ite_t (by decide +kernel) ?_ | refine ite_f (by decide +kernel) ?_) | fail)
  (k_with "m for" => first | (k_here; (rename Fr _ _ _ _ => zzlF'); (with_unfolding_all refine' For_turns zzlF' ?_; k_whole)) | fail)
  (k_with "m pick" => first | (with_reducible (k_extra "m pk")) | fail)
  (k_with "m ne" => first | (first | with_reducible (first | assumption | (apply allNe_of; assumption) | (apply allNe_off; assumption) | (apply allNe_lt; apply PySem.W.allLt_of; assumption)) | ((with_reducible apply allNe_cons); k_ne; k_extra "m ne") | with_reducible (k_extra "m pkq") | (apply allNe_lt; with_reducible (k_extra "m pkq")) | with_reducible (k_extra "m pk") | (apply allNe_lt; with_reducible (k_extra "m pk")) | (apply allNe_off; with_reducible (k_extra "m pk")) | (apply allNe_lt; apply allLt_tl; assumption) | (with_reducible apply allNe_nil)) | fail)
  (k_with "m subh" => first | (with_reducible (apply sub_hd; first | assumption | (apply sub_hd; first | assumption | (apply sub_hd; first | assumption | (apply sub_hd; first | assumption | (apply sub_hd; first | assumption | (apply sub_hd; first | assumption | (apply sub_hd; first | assumption | (apply sub_hd; first | assumption | (apply sub_hd; assumption)))))))))) | fail)
  (k_with "m subs" => first | (first | (with_reducible apply sub_refl) | assumption | ((with_reducible apply subs_cons); k_mem; k_extra "m subs") | ((with_reducible apply sub_tl); k_extra "m subs") | (with_reducible apply List.forall_mem_nil) | k_extra "m subh") | fail)
  (k_with "m agr" => first | (first | assumption | exact agree_over | exact agree_refl | (refine agree_store ?_ (by decide); k_extra "m agr")) | fail)
  (k_with "m sub" => first | (first | assumption | ((with_reducible apply sub_tl); k_extra "m sub") | k_extra "m subh") | fail)
  (k_with "execs cons" => first | (k_here; (try dsimp only); (refine' exec_cons_h ?_); intro zztk' zzG' zzhG'; (try (rename PyProof.Rows.News _ _ _ _ => zznN'; dsimp only at zznN'))) | fail)
  (k_with "m leave" => first | (k_end; first | ((try dsimp only); (refine' gnext_cons (by with_reducible assumption) ?_); intro zztk' zzG' zzhG'; (try (rename PyProof.Rows.News _ _ _ _ => zznN'; dsimp only at zznN'))) | (refine gnext (by with_reducible assumption) ?_) | (refine gout (by with_reducible assumption) ?_ ?_; (exact True.intro); (try (refine qout (by with_reducible assumption) ?_)))) | fail)
  (k_with "m k_steps" => first | (repeat' (first | k_extra "m leave" | (k_unfold; (try dsimp only)) | (k_end; wrow_close) | walk1 | (dsimp only; walk1) | (leave1; walk_say "STEP leave1"; try dsimp only) | fail "no step")) | fail)
  (k_with "m pkq" => first | (first | assumption | (apply And.left; first | assumption | (apply And.right; first | assumption | (apply And.right; first | assumption | (apply And.right; first | assumption | (apply And.right; first | assumption | (apply And.right; assumption))))))) | fail)
  (k_with "m pkr" => first | (first | assumption | (apply And.right; first | assumption | (apply And.right; first | assumption | (apply And.right; first | assumption | (apply And.right; first | assumption | (apply And.right; first | assumption | (apply And.right; first | assumption | (apply And.right; first | assumption | (apply And.right; first | assumption | (apply And.right; first | assumption | (apply And.right; first | assumption | (apply And.right; first | assumption | (apply And.right; first | assumption | (apply And.right; first | assumption | (apply And.right; first | assumption | (apply And.right; assumption)))))))))))))))) | fail)
  (k_with "m pk" => first | (first | assumption | (apply And.left; k_extra "m pkr") | (apply And.right; k_extra "m pkr")) | fail)
  (k_with "m omega" => first | (first | ((with_reducible apply neL); with_reducible (k_extra "m pkq")) | ((with_reducible apply neG); with_reducible (k_extra "m pkq")) | ((with_reducible apply neL); with_reducible (k_extra "m pk")) | ((with_reducible apply neG); with_reducible (k_extra "m pk")) | ((with_reducible apply neS); with_reducible (k_extra "m pk")) | ((with_reducible apply lin2); assumption; exact @rfl Bool true) | ((with_reducible apply lin1); assumption; exact @rfl Bool true) | ((with_reducible apply lin0); assumption; exact @rfl Bool true) | ((with_reducible apply lin3); assumption; exact @rfl Bool true) | ((with_reducible apply lin1e); assumption; exact @rfl Bool true) | ((with_reducible apply lin2e); assumption; exact @rfl Bool true) | ((with_reducible apply Nat.le_of_ble_eq_true); exact @rfl Bool true) | ((with_reducible apply om_w); assumption; exact @rfl Bool true) | ((with_reducible apply om_p3); assumption) | ((with_reducible apply om_p2); assumption) | ((with_reducible apply om_p3e); assumption) | (with_reducible apply om_p3r) | ((with_reducible apply om_p4); assumption; exact @rfl Bool true) | ((with_reducible apply om_s); assumption; exact @rfl Bool true) | ((with_reducible apply om_s1); assumption; exact @rfl Bool true) | ((with_reducible apply om_s2); assumption; exact @rfl Bool true) | ((with_reducible apply om_i); assumption; decide +kernel) | ((with_reducible apply om_i2); assumption; assumption; decide +kernel) | ((with_reducible apply om_n); decide +kernel) | (with_reducible apply Int.natCast_nonneg) | ((with_reducible apply om_k); assumption; decide +kernel) | with_reducible (k_extra "m pk")) | fail)
  (k_with "m k_ne" => first | ((with_reducible apply PySem.W.neN); (try dsimp only); omega) | fail)
  (k_with "spliced" => first | (k_here; (with_reducible show wpAny _ _ (spliced (backTo _ (starEach (PySem.Expr.Name _ _ :: _) _))) _ _ _); k_dflt (refine' args_nm (by exact rfl) (by k_asm) (by exact @rfl _ (some _)) (by kernel_rfl) (by exact rfl) (by kernel_rfl) ?_; k_whole)) | fail)
  (k_with "eval Subscript" => first | (k_here; (with_reducible show wpAny _ _ (eval (PySem.Expr.Subscript (PySem.Expr.Name _ _) _ _) _) _ _ _); k_dflt (refine' sub_nm (by exact rfl) (by k_asm) (by exact @rfl _ (some _)) (by kernel_rfl) (by exact rfl) (by kernel_rfl) ?_; k_whole)) | fail)
  (k_with "isTrue Compare" => first | (k_here; (with_reducible show wpAny _ _ (isTrue (PySem.Expr.Compare (PySem.Expr.Name _ _) [_] [_] _) _ _) _ _ _); k_dflt (refine' cmp_nm (by exact rfl) (by k_asm) (by exact @rfl _ (some _)) (by kernel_rfl) (by exact rfl) (by kernel_rfl) (by with_unfolding_all rfl) ?_; k_whole)) | fail)
  (k_with "m k_upd" => first | (first | ((with_reducible apply PySem.W.Upd.head); k_all) | ((with_reducible apply PySem.W.Upd.tail); k_ne; k_upd)) | fail)
  (k_with "m k_updF" => first | (first | ((with_reducible apply PySem.W.UpdF.head); k_all) | ((with_reducible apply PySem.W.UpdF.tail); k_ne; k_updF)) | fail)
  (k_with "spliced" => first | (k_here; (with_reducible show wpAny _ _ (spliced (backTo _ (starEach (PySem.Expr.Constant (PySem.Const.str _) _ _ :: _) _))) _ _ _); k_dflt (refine' args_str ?_; k_whole)) | fail)
  (k_with "eval Subscript" => first | (k_here; (with_reducible show wpAny _ _ (eval (PySem.Expr.Subscript (PySem.Expr.Name _ _) (PySem.Expr.Constant (PySem.Const.int _) _ _) _) _) _ _ _); k_dflt (refine' sub_it (by exact rfl) (by k_asm) (by exact @rfl _ (some _)) (by kernel_rfl) (by exact rfl) (by kernel_rfl) (by k_asm) (by k_mem) (by exact @rfl _ (some _)) ?_; k_whole)) | fail)
  (k_with "exec Assign" => first | (k_here; (with_reducible show wpAny _ _ (exec (PySem.Stmt.Assign [PySem.Expr.Attribute (PySem.Expr.Name _ _) _ _] (PySem.Expr.Name _ _) _) _) _ _ _); k_dflt (refine' set_nm (by exact rfl) (by k_asm) (by exact @rfl _ (some _)) (by exact @rfl _ (some _)) (by kernel_rfl) (by exact rfl) (by exact rfl) (by kernel_rfl) (by kernel_rfl) (by k_asm) (by k_asm) (by k_inst) (by exact rfl) (by k_is) (by k_is) (by k_is) (by k_is) (by k_get) (by k_put) (by k_upd) (by exact Nat.le_of_ble_eq_true rfl) (by exact rfl) ?_; k_whole); intro zzh' zzF' zzN'; (try k_sweep)) | fail)
  (k_with "spliced" => first | (k_here; (with_reducible show wpAny _ _ (spliced (backTo _ (starEach [] _))) (fun vs s₂ => wpAny _ _ (newTuple _) _ _ s₂) _ _); with_reducible refine' nil_tup (by k_dflt k_asm) (by k_dflt k_asm) (by k_dflt (exact Nat.le_of_ble_eq_true rfl)) ?_; k_whole; intro zzD' zzh' zzF' zzN' zzl1; (try k_lt zzl1); (try k_sweep)) | fail)
  (k_with "spliced" => first | (k_here; (with_reducible show wpAny _ _ (spliced (backTo _ (starEach [] _))) (fun vs s₂ => wpAny _ _ (newList _) _ _ s₂) _ _); with_reducible refine' nil_lst (by k_dflt k_asm) (by k_dflt k_asm) (by k_dflt (exact Nat.le_of_ble_eq_true rfl)) ?_; k_whole; intro zzl' zzh' zzF' zzN' zzl1; (try k_lt zzl1); (try k_sweep)) | fail)
  exact trivial
section
variable {w : World} {loose : List Str} {mean : ExcName → Option Value} {mg mb : Str → Option Value} {fz news : Led}
theorem kw20_1 : True := by
  (k_with "m omega" => first | (first | ((with_reducible apply om_m3); decide +kernel; decide +kernel) | ((with_reducible apply om_m3n); decide +kernel; decide +kernel) | ((with_reducible apply om_m0); decide +kernel; decide +kernel) | ((with_reducible apply om_m0n); decide +kernel; decide +kernel) | ((with_reducible apply om_lo); assumption; decide +kernel) | ((with_reducible apply om_hi); assumption; decide +kernel)) | fail)
  exact trivial
theorem pool_c {sa : Addr} {vs : List Value} {ns : List Int} {k : Int} {kt : Tok} (hk9 : k = 0 ∨ k = 1) (hI : IntsAre vs ns) (hlay : (PyData.list (ns.map PyData.int)).layable0 = true) :
    CallsH (fun h => h.IsList sa vs.toArray) w loose mean mg mb 3 335 [.ref sa, .int k kt] news (fun n' r => ∃ l o, r = .ref l ∧ n' = (l, o) :: news ∧ SrcO o ∧ AllLt l news) := by
  refine CallsH.of ?_
  k_fill
  intro dp un gd cn cs a' ccd cl outer A₀ base h₀ L m' shh sgg sdd skk soo Q E hS B F X N T hk hd hu hret
  refine wpAny_call ?_
  k_dflt ktr_enter
  refine let_ae ?_
  intro nk ak Q0 hQ0
  (rename Fr _ _ _ _ => F1)
  replace F1 : Fr _ _ _ (fun y => List.lookup y [(("k" : Str), _), (("script" : Str), _)]) := F1
  rename Fr h₀ L _ m' => FG'
  replace hS := islist_keep FG' hS
  rcases hk9 with rfl | rfl
  all_goals k_steps
  all_goals exact hret _ _ _ _ (by k_asm) (by k_asm) ⟨_, _, rfl, rfl, ⟨_, _, _, _, _, rfl, pool_x _ _, fmod_lo _, fmod_hi _⟩, PySem.W.allLt_of (by assumption)⟩
end
theorem kw21_0 : True := by
  k_with_none
  (k_with "m k_mem" => first | (first | ktr_member | (with_reducible apply mem_hd) | ((with_reducible apply mem_tl); k_mem) | exact mem_via (by assumption) (by assumption)) | fail)
  (k_with "subscriptTail Name Constant ref int" => first | (k_here; (with_reducible show wpAny _ _ (subscriptTail _ _ (Value.ref _) (Value.int _ _)) _ _ _); k_dflt (refine' tup_item (by k_asm) (by k_mem) (by decide) (by decide) (by exact rfl) (by exact rfl) ?_ (by with_unfolding_all rfl); k_whole)) | fail)
  (k_with "ite" => first | (first | refine ite_t (by with_reducible assumption) ?_ | refine ite_f (by with_reducible assumption) ?_) | fail)
  (k_with "m lt" => first | (first | assumption | (apply PySem.W.allLt_of; assumption) | (apply allLt_tl; assumption) | (apply allLt_tl2; assumption) | with_reducible (k_extra "m pk") | (simp only [AllLt, and_true] at *; first | assumption | omega)) | fail)
  (k_with "m k_all" => first | (first | assumption | (apply ne_of_allNe; k_extra "m ne") | (apply ne_of_allLt; k_extra "m lt")) | fail)
  (k_with "m call" => first | (k_here; k_dflt (refine' Calls.use' (by k_asm) (by k_asm) (by k_asm) (by k_asm) (by k_asm) (by first | exact rfl | assumption) (by k_extra "m con") (by first | omega | (dsimp only [ktrTop]; omega)) (by k_extra "m un") ?_; k_whole); ((intro zzG9 zzhG9; k_dflt (k_extra "m out")) <;> (refine zzhG9 _ _ ?_; intro zzh9 zztk9 zzF9 zzN9; (try k_sweep)))) | fail)
  (k_with "m out" => first | (intro zzn9 zzr9 zzo9; (first | (obtain ⟨zze1, zze2⟩ := zzo9; subst zze1; subst zze2) | (obtain ⟨zze1, zzt9, zze2⟩ := zzo9; subst zze1; subst zze2) | (obtain ⟨zzl9, zze9, zze2, zze1, zzq9⟩ := zzo9; subst zze1; subst zze2; (simp only [AllLt, and_true] at zzq9)) | (obtain ⟨zzl9, zze9, zzp9, zzm9, zzx9, zzy9, zze2, zze1, zzq1, zzq2, zzq3, zzq4⟩ := zzo9; subst zze1; subst zze2; (simp only [AllLt, and_true] at zzq3); obtain ⟨zza8, zzn8, zzt8, zzr8, zze8, zzm8⟩ := Mine.TyIn.head zzq1; subst zze8; obtain ⟨zza7, zzn7, zzt7, zzr7, zze7, zzm7⟩ := Mine.TyIn.head zzq2; subst zze7) | (rcases zzo9 with ⟨zze3, zze1, zzt9, zze2⟩ | ⟨zze3, zze1, zzt9, zze2⟩ <;> (subst zze1; subst zze2)))) | fail)
  (k_with "call ref" => first | (k_extra "m call") | fail)
  (k_with "m un" => first | ((try dsimp +zetaDelta only); (have zzhcl9 := cLine_is); (try simp only [units_in1, units_deeper, Around.mark_units, units_caller]); (try dsimp only [ktrTop]); omega) | fail)
  (k_with "m dp" => first | (first | assumption | (simp only [Ty.dep]; omega) | decide) | fail)
  (k_with "m k_room" => first | ((try dsimp +zetaDelta only); (try simp only [depth_under_make, depth_under_kw, depth_in1, depth_deeper, depth_caller]); (try dsimp only [ktrTop]); have zzhrl9 : recursionLimit = 1000 := rfl; omega) | fail)
  (k_with "eval Name" => first | (k_here; (fail_if_success with_reducible show wpAny _ _ (eval _ (compEnvC _ _ _ _)) _ _ _); k_dflt (refine' nameX_L (by k_asm) (by exact @rfl _ (some _)) ?_ (by kernel_rfl) (rfl) (by kernel_rfl); k_whole)) | fail)
  (k_with "ite" => first | (k_closed; first | refine ite_t (by decide +kernel) ?_ | refine ite_f (by decide +kernel) ?_) | fail)
  (k_with "m for" => first | (k_here; (rename Fr _ _ _ _ => zzlF'); (with_unfolding_all refine' For_turns zzlF' ?_; k_whole)) | fail)
  (k_with "m pick" => first | (with_reducible (k_extra "m pk")) | fail)
  (k_with "m ne" => first | (first | with_reducible (first | assumption | (apply allNe_of; assumption) | (apply allNe_off; assumption) | (apply allNe_lt; apply PySem.W.allLt_of; assumption)) | ((with_reducible apply allNe_cons); k_ne; k_extra "m ne") | with_reducible (k_extra "m pkq") | (apply allNe_lt; with_reducible (k_extra "m pkq")) | with_reducible (k_extra "m pk") | (apply allNe_lt; with_reducible (k_extra "m pk")) | (apply allNe_off; with_reducible (k_extra "m pk")) | (apply allNe_lt; apply allLt_tl; assumption) | (with_reducible apply allNe_nil)) | fail)
  (k_with "m subh" => first | (with_reducible (apply sub_hd; first | assumption | (apply sub_hd; first | assumption | (apply sub_hd; first | assumption | (apply sub_hd; first | assumption | (apply sub_hd; first | assumption | (apply sub_hd; first | assumption | (apply sub_hd; first | assumption | (apply sub_hd; first | assumption | (apply sub_hd; assumption)))))))))) | fail)
  (k_with "m subs" => first | (first | (with_reducible apply sub_refl) | assumption | ((with_reducible apply subs_cons); k_mem; k_extra "m subs") | ((with_reducible apply sub_tl); k_extra "m subs") | (with_reducible apply List.forall_mem_nil) | k_extra "m subh") | fail)
  (k_with "subscriptTail" => first | (k_here; (with_reducible show wpAny _ _ (subscriptTail _ _ (Value.ref _) (Value.str _ _)) _ _ _); k_dflt (refine' kda_item (knd := PySem.strKind _ _) (by k_asm) (by k_mem) (by k_asm) (strKind_is _ _ _ _) (by first | assumption | exact rfl) ?_ (by with_unfolding_all rfl) (by intro zzr; with_unfolding_all rfl); k_whole)) | fail)
  (k_with "m agr" => first | (first | assumption | exact agree_over | exact agree_refl | (refine agree_store ?_ (by decide); k_extra "m agr")) | fail)
  (k_with "m sub" => first | (first | assumption | ((with_reducible apply sub_tl); k_extra "m sub") | k_extra "m subh") | fail)
  (k_with "execs cons" => first | (k_here; (try dsimp only); (refine' exec_cons_h ?_); intro zztk' zzG' zzhG'; (try (rename PyProof.Rows.News _ _ _ _ => zznN'; dsimp only at zznN'))) | fail)
  (k_with "execs nil" => first | (k_here; (refine' exec_nil_g ?_); intro zztk'; (try (refine qout (by with_reducible assumption) ?_))) | fail)
  (k_with "m leave" => first | (k_end; first | ((try dsimp only); (refine' gnext_cons (by with_reducible assumption) ?_); intro zztk' zzG' zzhG'; (try (rename PyProof.Rows.News _ _ _ _ => zznN'; dsimp only at zznN'))) | (refine gnext (by with_reducible assumption) ?_) | (refine gout (by with_reducible assumption) ?_ ?_; (exact True.intro); (try (refine qout (by with_reducible assumption) ?_)))) | fail)
  (k_with "m k_steps" => first | (repeat' (first | k_extra "m leave" | (k_unfold; (try dsimp only)) | (k_end; wrow_close) | walk1 | (dsimp only; walk1) | (leave1; walk_say "STEP leave1"; try dsimp only) | fail "no step")) | fail)
  (k_with "m pkq" => first | (first | assumption | (apply And.left; first | assumption | (apply And.right; first | assumption | (apply And.right; first | assumption | (apply And.right; first | assumption | (apply And.right; first | assumption | (apply And.right; assumption))))))) | fail)
  (k_with "m pkr" => first | (first | assumption | (apply And.right; first | assumption | (apply And.right; first | assumption | (apply And.right; first | assumption | (apply And.right; first | assumption | (apply And.right; first | assumption | (apply And.right; first | assumption | (apply And.right; first | assumption | (apply And.right; first | assumption | (apply And.right; first | assumption | (apply And.right; first | assumption | (apply And.right; first | assumption | (apply And.right; first | assumption | (apply And.right; first | assumption | (apply And.right; first | assumption | (apply And.right; assumption)))))))))))))))) | fail)
  (k_with "m pk" => first | (first | assumption | (apply And.left; k_extra "m pkr") | (apply And.right; k_extra "m pkr")) | fail)
  (k_with "m omega" => first | (first | ((with_reducible apply neL); with_reducible (k_extra "m pkq")) | ((with_reducible apply neG); with_reducible (k_extra "m pkq")) | ((with_reducible apply neL); with_reducible (k_extra "m pk")) | ((with_reducible apply neG); with_reducible (k_extra "m pk")) | ((with_reducible apply neS); with_reducible (k_extra "m pk")) | ((with_reducible apply lin2); assumption; exact @rfl Bool true) | ((with_reducible apply lin1); assumption; exact @rfl Bool true) | ((with_reducible apply lin0); assumption; exact @rfl Bool true) | ((with_reducible apply lin3); assumption; exact @rfl Bool true) | ((with_reducible apply lin1e); assumption; exact @rfl Bool true) | ((with_reducible apply lin2e); assumption; exact @rfl Bool true) | ((with_reducible apply Nat.le_of_ble_eq_true); exact @rfl Bool true) | ((with_reducible apply om_w); assumption; exact @rfl Bool true) | ((with_reducible apply om_p3); assumption) | ((with_reducible apply om_p2); assumption) | ((with_reducible apply om_p3e); assumption) | (with_reducible apply om_p3r) | ((with_reducible apply om_p4); assumption; exact @rfl Bool true) | ((with_reducible apply om_s); assumption; exact @rfl Bool true) | ((with_reducible apply om_s1); assumption; exact @rfl Bool true) | ((with_reducible apply om_s2); assumption; exact @rfl Bool true) | ((with_reducible apply om_i); assumption; decide +kernel) | ((with_reducible apply om_i2); assumption; assumption; decide +kernel) | ((with_reducible apply om_n); decide +kernel) | (with_reducible apply Int.natCast_nonneg) | ((with_reducible apply om_k); assumption; decide +kernel) | with_reducible (k_extra "m pk")) | fail)
  (k_with "m k_ne" => first | ((with_reducible apply PySem.W.neN); (try dsimp only); omega) | fail)
  (k_with "spliced" => first | (k_here; (with_reducible show wpAny _ _ (spliced (backTo _ (starEach (PySem.Expr.Name _ _ :: _) _))) _ _ _); k_dflt (refine' args_nm (by exact rfl) (by k_asm) (by exact @rfl _ (some _)) (by kernel_rfl) (by exact rfl) (by kernel_rfl) ?_; k_whole)) | fail)
  (k_with "eval Subscript" => first | (k_here; (with_reducible show wpAny _ _ (eval (PySem.Expr.Subscript (PySem.Expr.Name _ _) _ _) _) _ _ _); k_dflt (refine' sub_nm (by exact rfl) (by k_asm) (by exact @rfl _ (some _)) (by kernel_rfl) (by exact rfl) (by kernel_rfl) ?_; k_whole)) | fail)
  (k_with "isTrue Compare" => first | (k_here; (with_reducible show wpAny _ _ (isTrue (PySem.Expr.Compare (PySem.Expr.Name _ _) [_] [_] _) _ _) _ _ _); k_dflt (refine' cmp_nm (by exact rfl) (by k_asm) (by exact @rfl _ (some _)) (by kernel_rfl) (by exact rfl) (by kernel_rfl) (by with_unfolding_all rfl) ?_; k_whole)) | fail)
  (k_with "m k_upd" => first | (first | ((with_reducible apply PySem.W.Upd.head); k_all) | ((with_reducible apply PySem.W.Upd.tail); k_ne; k_upd)) | fail)
  (k_with "m k_updF" => first | (first | ((with_reducible apply PySem.W.UpdF.head); k_all) | ((with_reducible apply PySem.W.UpdF.tail); k_ne; k_updF)) | fail)
  (k_with "spliced" => first | (k_here; (with_reducible show wpAny _ _ (spliced (backTo _ (starEach (PySem.Expr.Constant (PySem.Const.str _) _ _ :: _) _))) _ _ _); k_dflt (refine' args_str ?_; k_whole)) | fail)
  (k_with "eval Subscript" => first | (k_here; (with_reducible show wpAny _ _ (eval (PySem.Expr.Subscript (PySem.Expr.Name _ _) (PySem.Expr.Constant (PySem.Const.int _) _ _) _) _) _ _ _); k_dflt (refine' sub_it (by exact rfl) (by k_asm) (by exact @rfl _ (some _)) (by kernel_rfl) (by exact rfl) (by kernel_rfl) (by k_asm) (by k_mem) (by exact @rfl _ (some _)) ?_; k_whole)) | fail)
  (k_with "exec If" => first | (k_here; (with_reducible show wpAny _ _ (exec (PySem.Stmt.If (PySem.Expr.Compare (PySem.Expr.Name _ _) [_] [_] _) _ _ _) _) _ _ _); k_dflt (refine' if_nm (by exact rfl) (by k_asm) (by exact @rfl _ (some _)) (by kernel_rfl) (by exact rfl) (by kernel_rfl) (by with_unfolding_all rfl) ?_; k_whole)) | fail)
  (k_with "exec Assign" => first | (k_here; (with_reducible show wpAny _ _ (exec (PySem.Stmt.Assign [PySem.Expr.Attribute (PySem.Expr.Name _ _) _ _] (PySem.Expr.Name _ _) _) _) _ _ _); k_dflt (refine' set_nm (by exact rfl) (by k_asm) (by exact @rfl _ (some _)) (by exact @rfl _ (some _)) (by kernel_rfl) (by exact rfl) (by exact rfl) (by kernel_rfl) (by kernel_rfl) (by k_asm) (by k_asm) (by k_inst) (by exact rfl) (by k_is) (by k_is) (by k_is) (by k_is) (by k_get) (by k_put) (by k_upd) (by exact Nat.le_of_ble_eq_true rfl) (by exact rfl) ?_; k_whole); intro zzh' zzF' zzN'; (try k_sweep)) | fail)
  (k_with "spliced" => first | (k_here; (with_reducible show wpAny _ _ (spliced (backTo _ (starEach [] _))) (fun vs s₂ => wpAny _ _ (newTuple _) _ _ s₂) _ _); with_reducible refine' nil_tup (by k_dflt k_asm) (by k_dflt k_asm) (by k_dflt (exact Nat.le_of_ble_eq_true rfl)) ?_; k_whole; intro zzD' zzh' zzF' zzN' zzl1; (try k_lt zzl1); (try k_sweep)) | fail)
  (k_with "spliced" => first | (k_here; (with_reducible show wpAny _ _ (spliced (backTo _ (starEach [] _))) (fun vs s₂ => wpAny _ _ (newList _) _ _ s₂) _ _); with_reducible refine' nil_lst (by k_dflt k_asm) (by k_dflt k_asm) (by k_dflt (exact Nat.le_of_ble_eq_true rfl)) ?_; k_whole; intro zzl' zzh' zzF' zzN' zzl1; (try k_lt zzl1); (try k_sweep)) | fail)
  exact trivial
section
variable {w : World} {loose : List Str} {mean : ExcName → Option Value} {mg mb : Str → Option Value} {news rest : Led}
theorem kw21_1 : True := by
  (k_with "m omega" => first | (first | ((with_reducible apply om_m3); decide +kernel; decide +kernel) | ((with_reducible apply om_m3n); decide +kernel; decide +kernel) | ((with_reducible apply om_m0); decide +kernel; decide +kernel) | ((with_reducible apply om_m0n); decide +kernel; decide +kernel) | ((with_reducible apply om_lo); assumption; decide +kernel) | ((with_reducible apply om_hi); assumption; decide +kernel)) | fail)
  (k_with "subscriptTail Name Constant ref int" => first | (k_here; (with_reducible show wpAny _ _ (subscriptTail _ _ (Value.ref _) (Value.int _ _)) _ _ _); k_dflt (refine' lst_item (by k_asm) (by k_mem) (by decide) (by decide) (by exact rfl) (by exact rfl) ?_ (by with_unfolding_all rfl); k_whole)) | fail)
  exact trivial
set_option maxHeartbeats 1000000 in
theorem take_c {sa : Addr} {so : Obj} {top : Int} {tt : Tok} (hm : (sa, so) ∈ news) (ho : SrcO so) (hr : ∀ p ∈ rest, p ∈ news) (hne : AllNe sa rest) (h1 : 1 ≤ top) (h2 : top ≤ 8) :
    Calls w loose mean mg mb 1 342 [.ref sa, .int top tt] news (fun n' r => ∃ d t o, r = .int d t ∧ 0 ≤ d ∧ d < top ∧ SrcO o ∧ n' = (sa, o) :: rest) := by
  refine hide fun hG9 => ?_
  obtain ⟨x, y, tx, ty, ep, rfl, hx, hy, hy2⟩ := ho
  refine hG9 ?_
  clear hG9
  refine Calls.of ?_
  k_fill
  intro dp un gd cn cs a' ccd cl outer A₀ base h₀ L m' shh sgg sdd skk soo Q E B F X N T hk hd hu hret
  replace N := newsSub N (List.forall_mem_cons.mpr ⟨hm, hr⟩)
  clear hm hr
  refine wpAny_call ?_
  k_dflt ktr_enter
  refine let_ae ?_
  intro nk ak Q0 hQ0
  (rename Fr _ _ _ _ => F1)
  replace F1 : Fr _ _ _ (fun y => List.lookup y [(("top" : Str), _), (("source" : Str), _)]) := F1
  k_steps
  · exact hret _ _ _ _ (by k_asm) (by k_asm) ⟨_, _, _, rfl, Int.fmod_nonneg_of_pos _ (by omega), Int.fmod_lt_of_pos _ (by omega), ⟨_, _, _, _, _, rfl, Int.fdiv_nonneg hx (by omega), hy, hy2⟩, rfl⟩
  · exact hret _ _ _ _ (by k_asm) (by k_asm) ⟨_, _, _, rfl, Int.fmod_nonneg_of_pos _ (by omega), Int.fmod_lt_of_pos _ (by omega), ⟨_, _, _, _, _, rfl, hx, fmod_lo _, fmod_hi _⟩, rfl⟩
end
section
variable {w : World} {loose : List Str} {mean : ExcName → Option Value} {mg mb : Str → Option Value} {news rest : Led}
theorem kw21_2 : True := by
  (k_with "call builtin:len" => first | (k_here; (with_reducible show wpAny _ _ (call (Value.builtin "len") [Value.ref _]) _ _ _); k_dflt (refine' len_lst (by k_asm) (by exact .tail _ (by assumption)) (by omega) ?_; k_whole); intro zzt' zztk') | fail)
  (k_with "m con" => first | (exact take_c (w := w) (.head _) (by assumption) (fun p hp => .tail _ hp) (by assumption) (by omega) (by omega)) | fail)
  (k_with "m out" => first | (intro zzn9 zzr9 zzo9; (obtain ⟨zzd9, zzt9, zzo9, zze1, zzq1, zzq2, zzq3, zze2⟩ := zzo9; subst zze1; subst zze2; obtain ⟨zzv9, zzg1, zzg2⟩ := Mine.nth_of zzq1 zzq2)) | fail)
  (k_with "subscriptTail" => first | (k_here; (with_reducible show wpAny _ _ (subscriptTail _ _ (Value.ref _) (Value.int _ _)) _ _ _); k_dflt (refine' lst_item (by k_asm) (by exact .tail _ (by assumption)) (by assumption) (by omega) (by exact rfl) (by assumption) ?_ (by with_unfolding_all rfl); k_whole)) | fail)
  exact trivial
set_option maxHeartbeats 1000000 in
theorem one_c {sa tl : Addr} {so : Obj} {vs : List Value} {ep : Nat} (hl : (tl, listOf vs.toArray ep) ∈ rest) (h1 : 1 ≤ vs.length) (h2 : vs.length ≤ 8) (hm : (sa, so) ∈ news) (ho : SrcO so) (hr : ∀ p ∈ rest, p ∈ news) (hne : AllNe sa rest) :
    Calls w loose mean mg mb 2 349 [.ref sa, .ref tl] news (fun n' r => ∃ o, r ∈ vs ∧ SrcO o ∧ n' = (sa, o) :: rest) := by
  refine Calls.of ?_
  k_fill
  intro dp un gd cn cs a' ccd cl outer A₀ base h₀ L m' shh sgg sdd skk soo Q E B F X N T hk hd hu hret
  replace N := newsSub N (List.forall_mem_cons.mpr ⟨hm, hr⟩)
  clear hm hr
  refine wpAny_call ?_
  k_dflt ktr_enter
  refine let_ae ?_
  intro nk ak Q0 hQ0
  (rename Fr _ _ _ _ => F1)
  replace F1 : Fr _ _ _ (fun y => List.lookup y [(("things" : Str), _), (("source" : Str), _)]) := F1
  k_steps
  exact hret _ _ _ _ (by k_asm) (by k_asm) ⟨_, by assumption, by assumption, rfl⟩
end
section
variable {w : World} {loose : List Str} {mean : ExcName → Option Value} {mg mb : Str → Option Value} {news rest : Led}
theorem take_p {sa : Addr} {so : Obj} {top : Int} {tt : Tok} (hp : Pull sa so news rest) (hne : AllNe sa rest) (ho : SrcO so) (h1 : 1 ≤ top) (h2 : top ≤ 8) :
    Calls w loose mean mg mb 1 342 [.ref sa, .int top tt] news (fun n' r => ∃ d t o, r = .int d t ∧ 0 ≤ d ∧ d < top ∧ SrcO o ∧ n' = (sa, o) :: rest) := take_c hp.mem ho hp.sub hne h1 h2
theorem one_r {sa tl : Addr} {so : Obj} {vs : List Value} {ep : Nat} (R : Led → Value → Prop) (hp : Pull sa so news rest) (hne : AllNe sa rest) (hl : (tl, listOf vs.toArray ep) ∈ rest) (ho : SrcO so) (hv : ∀ v ∈ vs, R rest v) (h1 : 1 ≤ vs.length) (h2 : vs.length ≤ 8) :
    Calls w loose mean mg mb 2 349 [.ref sa, .ref tl] news (fun n' r => ∃ o, R rest r ∧ SrcO o ∧ n' = (sa, o) :: rest) :=
  (one_c hl h1 h2 hp.mem ho hp.sub hne).imp fun n r ⟨o, a, b, c⟩ => ⟨o, hv r a, b, c⟩
end
theorem kw23_0 : True := by
  k_with_none
  (k_with "m k_mem" => first | (first | ktr_member | (with_reducible apply mem_hd) | ((with_reducible apply mem_tl); k_mem) | exact mem_via (by assumption) (by assumption)) | fail)
  (k_with "m lt" => first | (first | assumption | (apply PySem.W.allLt_of; assumption) | (apply allLt_tl; assumption) | (apply allLt_tl2; assumption) | with_reducible (k_extra "m pk") | (simp only [AllLt, and_true] at *; first | assumption | omega)) | fail)
  (k_with "m k_all" => first | (first | assumption | (apply ne_of_allNe; k_extra "m ne") | (apply ne_of_allLt; k_extra "m lt")) | fail)
  (k_with "m call" => first | (k_here; k_dflt (refine' Calls.use' (by k_asm) (by k_asm) (by k_asm) (by k_asm) (by k_asm) (by first | exact rfl | assumption) (by k_extra "m con") (by first | omega | (dsimp only [ktrTop]; omega)) (by k_extra "m un") ?_; k_whole); ((intro zzG9 zzhG9; k_dflt (k_extra "m out")) <;> (refine zzhG9 _ _ ?_; intro zzh9 zztk9 zzF9 zzN9; (try k_sweep)))) | fail)
  (k_with "m out" => first | (intro zzn9 zzr9 zzo9; (first | (obtain ⟨zze1, zze2⟩ := zzo9; subst zze1; subst zze2) | (obtain ⟨zze1, zzt9, zze2⟩ := zzo9; subst zze1; subst zze2) | (obtain ⟨zzl9, zze9, zze2, zze1, zzq9⟩ := zzo9; subst zze1; subst zze2; (simp only [AllLt, and_true] at zzq9)) | (obtain ⟨zzl9, zze9, zzp9, zzm9, zzx9, zzy9, zze2, zze1, zzq1, zzq2, zzq3, zzq4⟩ := zzo9; subst zze1; subst zze2; (simp only [AllLt, and_true] at zzq3); obtain ⟨zza8, zzn8, zzt8, zzr8, zze8, zzm8⟩ := Mine.TyIn.head zzq1; subst zze8; obtain ⟨zza7, zzn7, zzt7, zzr7, zze7, zzm7⟩ := Mine.TyIn.head zzq2; subst zze7) | (rcases zzo9 with ⟨zze3, zze1, zzt9, zze2⟩ | ⟨zze3, zze1, zzt9, zze2⟩ <;> (subst zze1; subst zze2)))) | fail)
  (k_with "call ref" => first | (k_extra "m call") | fail)
  (k_with "m un" => first | ((try dsimp +zetaDelta only); (have zzhcl9 := cLine_is); (try simp only [units_in1, units_deeper, Around.mark_units, units_caller]); (try dsimp only [ktrTop]); omega) | fail)
  (k_with "m dp" => first | (first | assumption | (simp only [Ty.dep]; omega) | decide) | fail)
  (k_with "m k_room" => first | ((try dsimp +zetaDelta only); (try simp only [depth_under_make, depth_under_kw, depth_in1, depth_deeper, depth_caller]); (try dsimp only [ktrTop]); have zzhrl9 : recursionLimit = 1000 := rfl; omega) | fail)
  (k_with "eval Name" => first | (k_here; (fail_if_success with_reducible show wpAny _ _ (eval _ (compEnvC _ _ _ _)) _ _ _); k_dflt (refine' nameX_L (by k_asm) (by exact @rfl _ (some _)) ?_ (by kernel_rfl) (rfl) (by kernel_rfl); k_whole)) | fail)
  (k_with "exec For Name Call cons nil" => first | (k_extra "m for") | fail)
  (k_with "m for" => first | (k_here; (rename Fr _ _ _ _ => zzlF'); (with_unfolding_all refine' For_turns zzlF' ?_; k_whole)) | fail)
  (k_with "m pick" => first | (with_reducible (k_extra "m pk")) | fail)
  (k_with "m ne" => first | (first | with_reducible (first | assumption | (apply allNe_of; assumption) | (apply allNe_off; assumption) | (apply allNe_lt; apply PySem.W.allLt_of; assumption)) | ((with_reducible apply allNe_cons); k_ne; k_extra "m ne") | with_reducible (k_extra "m pkq") | (apply allNe_lt; with_reducible (k_extra "m pkq")) | with_reducible (k_extra "m pk") | (apply allNe_lt; with_reducible (k_extra "m pk")) | (apply allNe_off; with_reducible (k_extra "m pk")) | (apply allNe_lt; apply allLt_tl; assumption) | (with_reducible apply allNe_nil)) | fail)
  (k_with "m subh" => first | (with_reducible (apply sub_hd; first | assumption | (apply sub_hd; first | assumption | (apply sub_hd; first | assumption | (apply sub_hd; first | assumption | (apply sub_hd; first | assumption | (apply sub_hd; first | assumption | (apply sub_hd; first | assumption | (apply sub_hd; first | assumption | (apply sub_hd; assumption)))))))))) | fail)
  (k_with "m subs" => first | (first | (with_reducible apply sub_refl) | assumption | ((with_reducible apply subs_cons); k_mem; k_extra "m subs") | ((with_reducible apply sub_tl); k_extra "m subs") | (with_reducible apply List.forall_mem_nil) | k_extra "m subh") | fail)
  (k_with "m agr" => first | (first | assumption | exact agree_over | exact agree_refl | (refine agree_store ?_ (by decide); k_extra "m agr")) | fail)
  (k_with "m sub" => first | (first | assumption | ((with_reducible apply sub_tl); k_extra "m sub") | k_extra "m subh") | fail)
  (k_with "execs cons" => first | (k_here; (try dsimp only); (refine' exec_cons_h ?_); intro zztk' zzG' zzhG'; (try (rename PyProof.Rows.News _ _ _ _ => zznN'; dsimp only at zznN'))) | fail)
  (k_with "execs nil" => first | (k_here; (refine' exec_nil_g ?_); intro zztk'; (try (refine qout (by with_reducible assumption) ?_))) | fail)
  (k_with "m leave" => first | (k_end; first | ((try dsimp only); (refine' gnext_cons (by with_reducible assumption) ?_); intro zztk' zzG' zzhG'; (try (rename PyProof.Rows.News _ _ _ _ => zznN'; dsimp only at zznN'))) | (refine gnext (by with_reducible assumption) ?_) | (refine gout (by with_reducible assumption) ?_ ?_; (exact True.intro); (try (refine qout (by with_reducible assumption) ?_)))) | fail)
  (k_with "m k_steps" => first | (repeat' (first | k_extra "m leave" | (k_unfold; (try dsimp only)) | (k_end; wrow_close) | walk1 | (dsimp only; walk1) | (leave1; walk_say "STEP leave1"; try dsimp only) | fail "no step")) | fail)
  (k_with "m pkq" => first | (first | assumption | (apply And.left; first | assumption | (apply And.right; first | assumption | (apply And.right; first | assumption | (apply And.right; first | assumption | (apply And.right; first | assumption | (apply And.right; assumption))))))) | fail)
  (k_with "m pkr" => first | (first | assumption | (apply And.right; first | assumption | (apply And.right; first | assumption | (apply And.right; first | assumption | (apply And.right; first | assumption | (apply And.right; first | assumption | (apply And.right; first | assumption | (apply And.right; first | assumption | (apply And.right; first | assumption | (apply And.right; first | assumption | (apply And.right; first | assumption | (apply And.right; first | assumption | (apply And.right; first | assumption | (apply And.right; first | assumption | (apply And.right; first | assumption | (apply And.right; assumption)))))))))))))))) | fail)
  (k_with "m pk" => first | (first | assumption | (apply And.left; k_extra "m pkr") | (apply And.right; k_extra "m pkr")) | fail)
  (k_with "m omega" => first | (first | ((with_reducible apply neL); with_reducible (k_extra "m pkq")) | ((with_reducible apply neG); with_reducible (k_extra "m pkq")) | ((with_reducible apply neL); with_reducible (k_extra "m pk")) | ((with_reducible apply neG); with_reducible (k_extra "m pk")) | ((with_reducible apply neS); with_reducible (k_extra "m pk")) | ((with_reducible apply lin2); assumption; exact @rfl Bool true) | ((with_reducible apply lin1); assumption; exact @rfl Bool true) | ((with_reducible apply lin0); assumption; exact @rfl Bool true) | ((with_reducible apply lin3); assumption; exact @rfl Bool true) | ((with_reducible apply lin1e); assumption; exact @rfl Bool true) | ((with_reducible apply lin2e); assumption; exact @rfl Bool true) | ((with_reducible apply Nat.le_of_ble_eq_true); exact @rfl Bool true) | ((with_reducible apply om_w); assumption; exact @rfl Bool true) | ((with_reducible apply om_p3); assumption) | ((with_reducible apply om_p2); assumption) | ((with_reducible apply om_p3e); assumption) | (with_reducible apply om_p3r) | ((with_reducible apply om_p4); assumption; exact @rfl Bool true) | ((with_reducible apply om_s); assumption; exact @rfl Bool true) | ((with_reducible apply om_s1); assumption; exact @rfl Bool true) | ((with_reducible apply om_s2); assumption; exact @rfl Bool true) | ((with_reducible apply om_i); assumption; decide +kernel) | ((with_reducible apply om_i2); assumption; assumption; decide +kernel) | ((with_reducible apply om_n); decide +kernel) | (with_reducible apply Int.natCast_nonneg) | ((with_reducible apply om_k); assumption; decide +kernel) | with_reducible (k_extra "m pk")) | fail)
  (k_with "m k_ne" => first | ((with_reducible apply PySem.W.neN); (try dsimp only); omega) | fail)
  (k_with "spliced" => first | (k_here; (with_reducible show wpAny _ _ (spliced (backTo _ (starEach (PySem.Expr.Name _ _ :: _) _))) _ _ _); k_dflt (refine' args_nm (by exact rfl) (by k_asm) (by exact @rfl _ (some _)) (by kernel_rfl) (by exact rfl) (by kernel_rfl) ?_; k_whole)) | fail)
  (k_with "m k_upd" => first | (first | ((with_reducible apply PySem.W.Upd.head); k_all) | ((with_reducible apply PySem.W.Upd.tail); k_ne; k_upd)) | fail)
  (k_with "m k_updF" => first | (first | ((with_reducible apply PySem.W.UpdF.head); k_all) | ((with_reducible apply PySem.W.UpdF.tail); k_ne; k_updF)) | fail)
  (k_with "spliced" => first | (k_here; (with_reducible show wpAny _ _ (spliced (backTo _ (starEach (PySem.Expr.Constant (PySem.Const.str _) _ _ :: _) _))) _ _ _); k_dflt (refine' args_str ?_; k_whole)) | fail)
  (k_with "exec Assign" => first | (k_here; (with_reducible show wpAny _ _ (exec (PySem.Stmt.Assign [PySem.Expr.Attribute (PySem.Expr.Name _ _) _ _] (PySem.Expr.Name _ _) _) _) _ _ _); k_dflt (refine' set_nm (by exact rfl) (by k_asm) (by exact @rfl _ (some _)) (by exact @rfl _ (some _)) (by kernel_rfl) (by exact rfl) (by exact rfl) (by kernel_rfl) (by kernel_rfl) (by k_asm) (by k_asm) (by k_inst) (by exact rfl) (by k_is) (by k_is) (by k_is) (by k_is) (by k_get) (by k_put) (by k_upd) (by exact Nat.le_of_ble_eq_true rfl) (by exact rfl) ?_; k_whole); intro zzh' zzF' zzN'; (try k_sweep)) | fail)
  (k_with "spliced" => first | (k_here; (with_reducible show wpAny _ _ (spliced (backTo _ (starEach [] _))) (fun vs s₂ => wpAny _ _ (newTuple _) _ _ s₂) _ _); with_reducible refine' nil_tup (by k_dflt k_asm) (by k_dflt k_asm) (by k_dflt (exact Nat.le_of_ble_eq_true rfl)) ?_; k_whole; intro zzD' zzh' zzF' zzN' zzl1; (try k_lt zzl1); (try k_sweep)) | fail)
  (k_with "spliced" => first | (k_here; (with_reducible show wpAny _ _ (spliced (backTo _ (starEach [] _))) (fun vs s₂ => wpAny _ _ (newList _) _ _ s₂) _ _); with_reducible refine' nil_lst (by k_dflt k_asm) (by k_dflt k_asm) (by k_dflt (exact Nat.le_of_ble_eq_true rfl)) ?_; k_whole; intro zzl' zzh' zzF' zzN' zzl1; (try k_lt zzl1); (try k_sweep)) | fail)
  exact trivial
section
variable {w : World} {loose : List Str} {mean : ExcName → Option Value} {mg mb : Str → Option Value} {news rest : Led}
theorem one_r2 {sa tl I : Addr} {so oI : Obj} {vs : List Value} {ep : Nat} {nf : Led} (R : Led → Value → Prop) (_ : Mark I) (hp : Pull sa so news rest) (hp2 : Pull I oI rest nf) (hne : AllNe sa rest) (hl : (tl, listOf vs.toArray ep) ∈ nf) (ho : SrcO so) (hv : ∀ v ∈ vs, R nf v) (h1 : 1 ≤ vs.length) (h2 : vs.length ≤ 8) :
    Calls w loose mean mg mb 2 349 [.ref sa, .ref tl] news (fun n' r => ∃ o, R nf r ∧ SrcO o ∧ n' = (sa, o) :: rest) :=
  (one_r (w := w) (fun _ v => R nf v) hp hne (hp2.sub _ hl) ho hv h1 h2).imp fun n r ⟨o, a, b, c⟩ => ⟨o, a, b, c⟩
theorem kw23_1 : True := by
  (k_with "m pull" => first | (first | exact Pull.here | exact Pull.there (by k_extra "m pull")) | fail)
  (k_with "m con" => first | (first | ((with_reducible show Mine.Calls _ _ _ _ _ _ 342 _ _ _); exact take_p (w := w) (by k_extra "m pull") (by k_extra "m ne") (by assumption) (by decide) (by decide)) | ((with_reducible show Mine.Calls _ _ _ _ _ _ 349 _ _ _); (rename TyIn _ _ _ => zzq9); exact one_r2 (w := w) (vs := [_, _, _]) (fun n v => ∃ a ty, v = .ref a ∧ TyIn n (.ref a) ty ∧ ty.clear = true ∧ ty.dep ≤ _) (by assumption) (by k_extra "m pull") (by k_extra "m pull") (by k_extra "m ne") (by k_mem) (by assumption) (List.forall_mem_cons.mpr ⟨⟨_, .ref false _, rfl, .ref (by k_mem) (TyIn.mono (by assumption) (by k_extra "m subs")), by assumption, Nat.le_refl _⟩, List.forall_mem_cons.mpr ⟨⟨_, .ref true _, rfl, .ref (by k_mem) (TyIn.mono (by assumption) (by k_extra "m subs")), by assumption, Nat.le_refl _⟩, List.forall_mem_cons.mpr ⟨⟨_, .box _, rfl, .box (by k_mem) (TyIn.mono (by assumption) (by k_extra "m subs")), by assumption, Nat.le_refl _⟩, List.forall_mem_nil _⟩⟩⟩) (by exact Nat.le_of_ble_eq_true rfl) (by exact Nat.le_of_ble_eq_true rfl)) | exact one_r (w := w) (vs := [_, _, _, _, _]) (fun n v => ∃ a ty, v = .ref a ∧ TyIn n (.ref a) ty ∧ ty.clear = true ∧ ty.dep ≤ 0) (by k_extra "m pull") (by k_extra "m ne") (by k_mem) (by assumption) (List.forall_mem_cons.mpr ⟨⟨_, .int, rfl, .int (by k_mem), rfl, Nat.le_refl _⟩, List.forall_mem_cons.mpr ⟨⟨_, .adt, rfl, .adt (by k_mem) (by k_mem) (by k_mem), rfl, Nat.le_refl _⟩, List.forall_mem_cons.mpr ⟨⟨_, .adt, rfl, .adt (by k_mem) (by k_mem) (by k_mem), rfl, Nat.le_refl _⟩, List.forall_mem_cons.mpr ⟨⟨_, .par, rfl, .par (by k_mem), rfl, Nat.le_refl _⟩, List.forall_mem_cons.mpr ⟨⟨_, .bool, rfl, .bool (by k_mem), rfl, Nat.le_refl _⟩, List.forall_mem_nil _⟩⟩⟩⟩⟩) (by exact Nat.le_of_ble_eq_true rfl) (by exact Nat.le_of_ble_eq_true rfl)) | fail)
  (k_with "m out" => first | (intro zzn9 zzr9 zzo9; first | (obtain ⟨zzo9, ⟨zza9, zzy9, zze1, zzq1, zzq2, zzq3⟩, zzq4, zze2⟩ := zzo9; subst zze1; subst zze2) | (obtain ⟨zzd9, zzt9, zzo9, zze1, zzq1, zzq2, zzq3, zze2⟩ := zzo9; subst zze1; subst zze2; obtain ⟨zzk9, zze3⟩ := Int.eq_ofNat_of_zero_le zzq1; subst zze3)) | fail)
  (k_with "call type:range" => first | (k_here; (with_reducible show wpAny _ _ (call (Value.type "range") [Value.int _ _]) (fun xv s₁ => wpAny _ _ (pyIter xv) (fun it s₂ => TurnsAt _ _ _ _ _ _ _ _ _ it s₂) _ s₁) _ _); k_dflt (refine' rng_for (by exact rfl) (by k_asm) (by k_asm) (by omega) ?_; k_whole); intro zzi' zzl1; (try k_lt zzl1)) | fail)
  (k_with "m agr" => first | (first | assumption | exact agree_over | exact agree_refl | (refine agree_store ?_ (by decide); k_extra "m agr") | (refine agree_over2 ?_ (by decide); k_extra "m agr")) | fail)
  exact trivial
set_option maxHeartbeats 6000000 in
theorem type_c {sa : Addr} {so : Obj} (hp : Pull sa so news rest) (hne : AllNe sa rest) (ho : SrcO so) :
    Calls w loose mean mg mb 4 396 [.ref sa] news (fun n' r => ∃ nf o ty a, r = .ref a ∧ n' = (sa, o) :: nf ∧ (∀ p ∈ rest, p ∈ nf) ∧ AllNe sa nf ∧ SrcO o ∧ TyIn nf (.ref a) ty ∧ ty.clear = true ∧ ty.dep ≤ 2) := by
  refine Calls.of ?_
  k_fill
  intro dp un gd cn cs a' ccd cl outer A₀ base h₀ L m' shh sgg sdd skk soo Q E B F X N T hk hd hu hret
  replace N := newsSub N (List.forall_mem_cons.mpr ⟨hp.mem, hp.sub⟩)
  clear hp
  refine wpAny_call ?_
  k_dflt ktr_enter
  refine let_ae ?_
  intro nk ak Q0 hQ0
  (rename Fr _ _ _ _ => F1)
  replace F1 : Fr _ _ _ (fun y => List.lookup y [(("source" : Str), _)]) := F1
  k_steps
  rename (TyIn _ _ _) => hT1
  refine wrap_loop (rest := rest) (by k_extra "m subs") (by k_extra "m ne") (by k_extra "m ne") (by assumption) hT1 (by assumption) (by omega) rfl ?_ ?_
  · intro a r o v ty nf u h tk oI t mk g1 g2 g3 g4 g5 g6 g7 F9 N9
    (try refine hideB fun G8 hG8 => ?_)
    k_steps
    rename (TyIn _ _ _) => hT9
    rename (Ty.dep _ ≤ _) => hd9
    simp only [Ty.dep] at hd9
    exact wrap_end (hT := hT9) (by k_asm) (by k_asm) (by k_extra "m subs") (by k_ne) (by assumption) (by k_extra "m ne") (by k_extra "m ne") (by k_extra "m subs") (by k_extra "m agr") rfl (by assumption) (by omega)
  · intro o v ty nf u h tk g1 g2 g4 g5 g6 g7 F9 N9
    (try refine hideB fun G8 hG8 => ?_)
    k_steps
    exact hret _ _ _ _ (by k_asm) (by k_asm) ⟨nf, o, ty, v, rfl, rfl, g4, g2, g1, g5, g6, g7⟩
end
theorem kw22_0 : True := by
  k_with_none
  (k_with "m k_mem" => first | (first | ktr_member | (with_reducible apply mem_hd) | ((with_reducible apply mem_tl); k_mem) | exact mem_via (by assumption) (by assumption)) | fail)
  (k_with "m lt" => first | (first | assumption | (apply PySem.W.allLt_of; assumption) | (apply allLt_tl; assumption) | (apply allLt_tl2; assumption) | with_reducible (k_extra "m pk") | (simp only [AllLt, and_true] at *; first | assumption | omega)) | fail)
  (k_with "m k_all" => first | (first | assumption | (apply ne_of_allNe; k_extra "m ne") | (apply ne_of_allLt; k_extra "m lt")) | fail)
  (k_with "m call" => first | (k_here; k_dflt (refine' Calls.use' (by k_asm) (by k_asm) (by k_asm) (by k_asm) (by k_asm) (by first | exact rfl | assumption) (by k_extra "m con") (by first | omega | (dsimp only [ktrTop]; omega)) (by k_extra "m un") ?_; k_whole); ((intro zzG9 zzhG9; k_dflt (k_extra "m out")) <;> (refine zzhG9 _ _ ?_; intro zzh9 zztk9 zzF9 zzN9; (try k_sweep)))) | fail)
  (k_with "m out" => first | (intro zzn9 zzr9 zzo9; (first | (obtain ⟨zze1, zze2⟩ := zzo9; subst zze1; subst zze2) | (obtain ⟨zze1, zzt9, zze2⟩ := zzo9; subst zze1; subst zze2) | (obtain ⟨zzl9, zze9, zze2, zze1, zzq9⟩ := zzo9; subst zze1; subst zze2; (simp only [AllLt, and_true] at zzq9)) | (obtain ⟨zzl9, zze9, zzp9, zzm9, zzx9, zzy9, zze2, zze1, zzq1, zzq2, zzq3, zzq4⟩ := zzo9; subst zze1; subst zze2; (simp only [AllLt, and_true] at zzq3); obtain ⟨zza8, zzn8, zzt8, zzr8, zze8, zzm8⟩ := Mine.TyIn.head zzq1; subst zze8; obtain ⟨zza7, zzn7, zzt7, zzr7, zze7, zzm7⟩ := Mine.TyIn.head zzq2; subst zze7) | (rcases zzo9 with ⟨zze3, zze1, zzt9, zze2⟩ | ⟨zze3, zze1, zzt9, zze2⟩ <;> (subst zze1; subst zze2)))) | fail)
  (k_with "call ref" => first | (k_extra "m call") | fail)
  (k_with "m un" => first | ((try dsimp +zetaDelta only); (have zzhcl9 := cLine_is); (try simp only [units_in1, units_deeper, Around.mark_units, units_caller]); (try dsimp only [ktrTop]); omega) | fail)
  (k_with "m dp" => first | (first | assumption | (simp only [Ty.dep]; omega) | decide) | fail)
  (k_with "m k_room" => first | ((try dsimp +zetaDelta only); (try simp only [depth_under_make, depth_under_kw, depth_in1, depth_deeper, depth_caller]); (try dsimp only [ktrTop]); have zzhrl9 : recursionLimit = 1000 := rfl; omega) | fail)
  (k_with "eval Name" => first | (k_here; (fail_if_success with_reducible show wpAny _ _ (eval _ (compEnvC _ _ _ _)) _ _ _); k_dflt (refine' nameX_L (by k_asm) (by exact @rfl _ (some _)) ?_ (by kernel_rfl) (rfl) (by kernel_rfl); k_whole)) | fail)
  (k_with "m for" => first | (k_here; (rename Fr _ _ _ _ => zzlF'); (with_unfolding_all refine' For_turns zzlF' ?_; k_whole)) | fail)
  (k_with "m pick" => first | (with_reducible (k_extra "m pk")) | fail)
  (k_with "m ne" => first | (first | with_reducible (first | assumption | (apply allNe_of; assumption) | (apply allNe_off; assumption) | (apply allNe_lt; apply PySem.W.allLt_of; assumption)) | ((with_reducible apply allNe_cons); k_ne; k_extra "m ne") | with_reducible (k_extra "m pkq") | (apply allNe_lt; with_reducible (k_extra "m pkq")) | with_reducible (k_extra "m pk") | (apply allNe_lt; with_reducible (k_extra "m pk")) | (apply allNe_off; with_reducible (k_extra "m pk")) | (apply allNe_lt; apply allLt_tl; assumption) | (with_reducible apply allNe_nil)) | fail)
  (k_with "m subh" => first | (with_reducible (apply sub_hd; first | assumption | (apply sub_hd; first | assumption | (apply sub_hd; first | assumption | (apply sub_hd; first | assumption | (apply sub_hd; first | assumption | (apply sub_hd; first | assumption | (apply sub_hd; first | assumption | (apply sub_hd; first | assumption | (apply sub_hd; assumption)))))))))) | fail)
  (k_with "m subs" => first | (first | (with_reducible apply sub_refl) | assumption | ((with_reducible apply subs_cons); k_mem; k_extra "m subs") | ((with_reducible apply sub_tl); k_extra "m subs") | (with_reducible apply List.forall_mem_nil) | k_extra "m subh") | fail)
  (k_with "m agr" => first | (first | assumption | exact agree_over | exact agree_refl | (refine agree_store ?_ (by decide); k_extra "m agr")) | fail)
  (k_with "m sub" => first | (first | assumption | ((with_reducible apply sub_tl); k_extra "m sub") | k_extra "m subh") | fail)
  (k_with "execs cons" => first | (k_here; (try dsimp only); (refine' exec_cons_h ?_); intro zztk' zzG' zzhG'; (try (rename PyProof.Rows.News _ _ _ _ => zznN'; dsimp only at zznN'))) | fail)
  (k_with "execs nil" => first | (k_here; (refine' exec_nil_g ?_); intro zztk'; (try (refine qout (by with_reducible assumption) ?_))) | fail)
  (k_with "m leave" => first | (k_end; first | ((try dsimp only); (refine' gnext_cons (by with_reducible assumption) ?_); intro zztk' zzG' zzhG'; (try (rename PyProof.Rows.News _ _ _ _ => zznN'; dsimp only at zznN'))) | (refine gnext (by with_reducible assumption) ?_) | (refine gout (by with_reducible assumption) ?_ ?_; (exact True.intro); (try (refine qout (by with_reducible assumption) ?_)))) | fail)
  (k_with "m k_steps" => first | (repeat' (first | k_extra "m leave" | (k_unfold; (try dsimp only)) | (k_end; wrow_close) | walk1 | (dsimp only; walk1) | (leave1; walk_say "STEP leave1"; try dsimp only) | fail "no step")) | fail)
  (k_with "m pkq" => first | (first | assumption | (apply And.left; first | assumption | (apply And.right; first | assumption | (apply And.right; first | assumption | (apply And.right; first | assumption | (apply And.right; first | assumption | (apply And.right; assumption))))))) | fail)
  (k_with "m pkr" => first | (first | assumption | (apply And.right; first | assumption | (apply And.right; first | assumption | (apply And.right; first | assumption | (apply And.right; first | assumption | (apply And.right; first | assumption | (apply And.right; first | assumption | (apply And.right; first | assumption | (apply And.right; first | assumption | (apply And.right; first | assumption | (apply And.right; first | assumption | (apply And.right; first | assumption | (apply And.right; first | assumption | (apply And.right; first | assumption | (apply And.right; first | assumption | (apply And.right; assumption)))))))))))))))) | fail)
  (k_with "m pk" => first | (first | assumption | (apply And.left; k_extra "m pkr") | (apply And.right; k_extra "m pkr")) | fail)
  (k_with "m omega" => first | (first | ((with_reducible apply neL); with_reducible (k_extra "m pkq")) | ((with_reducible apply neG); with_reducible (k_extra "m pkq")) | ((with_reducible apply neL); with_reducible (k_extra "m pk")) | ((with_reducible apply neG); with_reducible (k_extra "m pk")) | ((with_reducible apply neS); with_reducible (k_extra "m pk")) | ((with_reducible apply lin2); assumption; exact @rfl Bool true) | ((with_reducible apply lin1); assumption; exact @rfl Bool true) | ((with_reducible apply lin0); assumption; exact @rfl Bool true) | ((with_reducible apply lin3); assumption; exact @rfl Bool true) | ((with_reducible apply lin1e); assumption; exact @rfl Bool true) | ((with_reducible apply lin2e); assumption; exact @rfl Bool true) | ((with_reducible apply Nat.le_of_ble_eq_true); exact @rfl Bool true) | ((with_reducible apply om_w); assumption; exact @rfl Bool true) | ((with_reducible apply om_p3); assumption) | ((with_reducible apply om_p2); assumption) | ((with_reducible apply om_p3e); assumption) | (with_reducible apply om_p3r) | ((with_reducible apply om_p4); assumption; exact @rfl Bool true) | ((with_reducible apply om_s); assumption; exact @rfl Bool true) | ((with_reducible apply om_s1); assumption; exact @rfl Bool true) | ((with_reducible apply om_s2); assumption; exact @rfl Bool true) | ((with_reducible apply om_i); assumption; decide +kernel) | ((with_reducible apply om_i2); assumption; assumption; decide +kernel) | ((with_reducible apply om_n); decide +kernel) | (with_reducible apply Int.natCast_nonneg) | ((with_reducible apply om_k); assumption; decide +kernel) | with_reducible (k_extra "m pk")) | fail)
  (k_with "m k_ne" => first | ((with_reducible apply PySem.W.neN); (try dsimp only); omega) | fail)
  (k_with "spliced" => first | (k_here; (with_reducible show wpAny _ _ (spliced (backTo _ (starEach (PySem.Expr.Name _ _ :: _) _))) _ _ _); k_dflt (refine' args_nm (by exact rfl) (by k_asm) (by exact @rfl _ (some _)) (by kernel_rfl) (by exact rfl) (by kernel_rfl) ?_; k_whole)) | fail)
  (k_with "m k_upd" => first | (first | ((with_reducible apply PySem.W.Upd.head); k_all) | ((with_reducible apply PySem.W.Upd.tail); k_ne; k_upd)) | fail)
  (k_with "m k_updF" => first | (first | ((with_reducible apply PySem.W.UpdF.head); k_all) | ((with_reducible apply PySem.W.UpdF.tail); k_ne; k_updF)) | fail)
  (k_with "spliced" => first | (k_here; (with_reducible show wpAny _ _ (spliced (backTo _ (starEach (PySem.Expr.Constant (PySem.Const.str _) _ _ :: _) _))) _ _ _); k_dflt (refine' args_str ?_; k_whole)) | fail)
  (k_with "exec Assign" => first | (k_here; (with_reducible show wpAny _ _ (exec (PySem.Stmt.Assign [PySem.Expr.Attribute (PySem.Expr.Name _ _) _ _] (PySem.Expr.Name _ _) _) _) _ _ _); k_dflt (refine' set_nm (by exact rfl) (by k_asm) (by exact @rfl _ (some _)) (by exact @rfl _ (some _)) (by kernel_rfl) (by exact rfl) (by exact rfl) (by kernel_rfl) (by kernel_rfl) (by k_asm) (by k_asm) (by k_inst) (by exact rfl) (by k_is) (by k_is) (by k_is) (by k_is) (by k_get) (by k_put) (by k_upd) (by exact Nat.le_of_ble_eq_true rfl) (by exact rfl) ?_; k_whole); intro zzh' zzF' zzN'; (try k_sweep)) | fail)
  (k_with "spliced" => first | (k_here; (with_reducible show wpAny _ _ (spliced (backTo _ (starEach [] _))) (fun vs s₂ => wpAny _ _ (newTuple _) _ _ s₂) _ _); with_reducible refine' nil_tup (by k_dflt k_asm) (by k_dflt k_asm) (by k_dflt (exact Nat.le_of_ble_eq_true rfl)) ?_; k_whole; intro zzD' zzh' zzF' zzN' zzl1; (try k_lt zzl1); (try k_sweep)) | fail)
  (k_with "spliced" => first | (k_here; (with_reducible show wpAny _ _ (spliced (backTo _ (starEach [] _))) (fun vs s₂ => wpAny _ _ (newList _) _ _ s₂) _ _); with_reducible refine' nil_lst (by k_dflt k_asm) (by k_dflt k_asm) (by k_dflt (exact Nat.le_of_ble_eq_true rfl)) ?_; k_whole; intro zzl' zzh' zzF' zzN' zzl1; (try k_lt zzl1); (try k_sweep)) | fail)
  exact trivial
section
variable {w : World} {loose : List Str} {mean : ExcName → Option Value} {mg mb : Str → Option Value} {news : Led}
theorem kw22_1 : True := by
  (k_with "m k_handed" => first | (exact KdIs.handed (by assumption)) | fail)
  exact trivial
theorem sig_c {p : Str} {tp : Tok} {kv : Value} {k : Slf} (hK : KdIs kv k) :
    Calls w loose mean mg mb 3 356 [.str p tp, kv] news (fun n' r => ∃ x dx od, r = .ref x ∧ n' = (x, instObj 252 dx) :: (dx, od) :: news ∧ SigIn w [(x, instObj 252 dx), (dx, od)] x k ∧ AllLt dx news ∧ AllLt x ((dx, od) :: news)) := by
  refine Calls.of ?_
  k_fill
  intro dp un gd cn cs a' ccd cl outer A₀ base h₀ L m' shh sgg sdd skk soo Q E B F X N T hk hd hu hret
  refine wpAny_call ?_
  k_dflt ktr_enter
  refine let_ae ?_
  intro nk ak Q0 hQ0
  (rename Fr _ _ _ _ => F1)
  replace F1 : Fr _ _ _ (fun y => List.lookup y [(("self_kind" : Str), _), (("path" : Str), _)]) := F1
  k_steps
  rename (_ ∧ _ ∧ _ ∧ _ ∧ _ ∧ _ ∧ AllLt _ _) => g1
  rename (@LT.lt _ _ _ _) => g2
  have g3 := g1.2.2.2.2.2.2
  exact hret _ ((_, instObj 252 _) :: (_, _) :: news) _ _ (by k_asm) (newsSub (by k_asm) (by k_extra "m subs")) ⟨_, _, _, rfl, rfl, .mk (.head _) (.tail _ (.head _)) hK, g3, g2, allLt_up g2 g3⟩
end
theorem kw25_0 : True := by
  k_with_none
  (k_with "m k_mem" => first | (first | ktr_member | (with_reducible apply mem_hd) | ((with_reducible apply mem_tl); k_mem) | exact mem_via (by assumption) (by assumption)) | fail)
  (k_with "m lt" => first | (first | assumption | (apply PySem.W.allLt_of; assumption) | (apply allLt_tl; assumption) | (apply allLt_tl2; assumption) | with_reducible (k_extra "m pk") | (simp only [AllLt, and_true] at *; first | assumption | omega)) | fail)
  (k_with "m k_all" => first | (first | assumption | (apply ne_of_allNe; k_extra "m ne") | (apply ne_of_allLt; k_extra "m lt")) | fail)
  (k_with "m call" => first | (k_here; k_dflt (refine' Calls.use' (by k_asm) (by k_asm) (by k_asm) (by k_asm) (by k_asm) (by first | exact rfl | assumption) (by k_extra "m con") (by first | omega | (dsimp only [ktrTop]; omega)) (by k_extra "m un") ?_; k_whole); ((intro zzG9 zzhG9; k_dflt (k_extra "m out")) <;> (refine zzhG9 _ _ ?_; intro zzh9 zztk9 zzF9 zzN9; (try k_sweep)))) | fail)
  (k_with "m out" => first | (intro zzn9 zzr9 zzo9; (first | (obtain ⟨zze1, zze2⟩ := zzo9; subst zze1; subst zze2) | (obtain ⟨zze1, zzt9, zze2⟩ := zzo9; subst zze1; subst zze2) | (obtain ⟨zzl9, zze9, zze2, zze1, zzq9⟩ := zzo9; subst zze1; subst zze2; (simp only [AllLt, and_true] at zzq9)) | (obtain ⟨zzl9, zze9, zzp9, zzm9, zzx9, zzy9, zze2, zze1, zzq1, zzq2, zzq3, zzq4⟩ := zzo9; subst zze1; subst zze2; (simp only [AllLt, and_true] at zzq3); obtain ⟨zza8, zzn8, zzt8, zzr8, zze8, zzm8⟩ := Mine.TyIn.head zzq1; subst zze8; obtain ⟨zza7, zzn7, zzt7, zzr7, zze7, zzm7⟩ := Mine.TyIn.head zzq2; subst zze7) | (rcases zzo9 with ⟨zze3, zze1, zzt9, zze2⟩ | ⟨zze3, zze1, zzt9, zze2⟩ <;> (subst zze1; subst zze2)))) | fail)
  (k_with "call ref" => first | (k_extra "m call") | fail)
  (k_with "m un" => first | ((try dsimp +zetaDelta only); (have zzhcl9 := cLine_is); (try simp only [units_in1, units_deeper, Around.mark_units, units_caller]); (try dsimp only [ktrTop]); omega) | fail)
  (k_with "m dp" => first | (first | assumption | (simp only [Ty.dep]; omega) | decide) | fail)
  (k_with "m k_room" => first | ((try dsimp +zetaDelta only); (try simp only [depth_under_make, depth_under_kw, depth_in1, depth_deeper, depth_caller]); (try dsimp only [ktrTop]); have zzhrl9 : recursionLimit = 1000 := rfl; omega) | fail)
  (k_with "m for" => first | (k_here; (rename Fr _ _ _ _ => zzlF'); (with_unfolding_all refine' For_turns zzlF' ?_; k_whole)) | fail)
  (k_with "m pick" => first | (with_reducible (k_extra "m pk")) | fail)
  (k_with "m ne" => first | (first | with_reducible (first | assumption | (apply allNe_of; assumption) | (apply allNe_off; assumption) | (apply allNe_lt; apply PySem.W.allLt_of; assumption)) | ((with_reducible apply allNe_cons); k_ne; k_extra "m ne") | with_reducible (k_extra "m pkq") | (apply allNe_lt; with_reducible (k_extra "m pkq")) | with_reducible (k_extra "m pk") | (apply allNe_lt; with_reducible (k_extra "m pk")) | (apply allNe_off; with_reducible (k_extra "m pk")) | (apply allNe_lt; apply allLt_tl; assumption) | (with_reducible apply allNe_nil)) | fail)
  (k_with "m subh" => first | (with_reducible (apply sub_hd; first | assumption | (apply sub_hd; first | assumption | (apply sub_hd; first | assumption | (apply sub_hd; first | assumption | (apply sub_hd; first | assumption | (apply sub_hd; first | assumption | (apply sub_hd; first | assumption | (apply sub_hd; first | assumption | (apply sub_hd; assumption)))))))))) | fail)
  (k_with "m subs" => first | (first | (with_reducible apply sub_refl) | assumption | ((with_reducible apply subs_cons); k_mem; k_extra "m subs") | ((with_reducible apply sub_tl); k_extra "m subs") | (with_reducible apply List.forall_mem_nil) | k_extra "m subh") | fail)
  (k_with "m agr" => first | (first | assumption | exact agree_over | exact agree_refl | (refine agree_store ?_ (by decide); k_extra "m agr")) | fail)
  (k_with "m sub" => first | (first | assumption | ((with_reducible apply sub_tl); k_extra "m sub") | k_extra "m subh") | fail)
  (k_with "execs cons" => first | (k_here; (try dsimp only); (refine' exec_cons_h ?_); intro zztk' zzG' zzhG'; (try (rename PyProof.Rows.News _ _ _ _ => zznN'; dsimp only at zznN'))) | fail)
  (k_with "execs nil" => first | (k_here; (refine' exec_nil_g ?_); intro zztk'; (try (refine qout (by with_reducible assumption) ?_))) | fail)
  (k_with "m leave" => first | (k_end; first | ((try dsimp only); (refine' gnext_cons (by with_reducible assumption) ?_); intro zztk' zzG' zzhG'; (try (rename PyProof.Rows.News _ _ _ _ => zznN'; dsimp only at zznN'))) | (refine gnext (by with_reducible assumption) ?_) | (refine gout (by with_reducible assumption) ?_ ?_; (exact True.intro); (try (refine qout (by with_reducible assumption) ?_)))) | fail)
  (k_with "m k_steps" => first | (repeat' (first | k_extra "m leave" | (k_unfold; (try dsimp only)) | (k_end; wrow_close) | walk1 | (dsimp only; walk1) | (leave1; walk_say "STEP leave1"; try dsimp only) | fail "no step")) | fail)
  (k_with "m pkq" => first | (first | assumption | (apply And.left; first | assumption | (apply And.right; first | assumption | (apply And.right; first | assumption | (apply And.right; first | assumption | (apply And.right; first | assumption | (apply And.right; assumption))))))) | fail)
  (k_with "m pkr" => first | (first | assumption | (apply And.right; first | assumption | (apply And.right; first | assumption | (apply And.right; first | assumption | (apply And.right; first | assumption | (apply And.right; first | assumption | (apply And.right; first | assumption | (apply And.right; first | assumption | (apply And.right; first | assumption | (apply And.right; first | assumption | (apply And.right; first | assumption | (apply And.right; first | assumption | (apply And.right; first | assumption | (apply And.right; first | assumption | (apply And.right; first | assumption | (apply And.right; assumption)))))))))))))))) | fail)
  (k_with "m pk" => first | (first | assumption | (apply And.left; k_extra "m pkr") | (apply And.right; k_extra "m pkr")) | fail)
  (k_with "m omega" => first | (first | ((with_reducible apply neL); with_reducible (k_extra "m pkq")) | ((with_reducible apply neG); with_reducible (k_extra "m pkq")) | ((with_reducible apply neL); with_reducible (k_extra "m pk")) | ((with_reducible apply neG); with_reducible (k_extra "m pk")) | ((with_reducible apply neS); with_reducible (k_extra "m pk")) | ((with_reducible apply lin2); assumption; exact @rfl Bool true) | ((with_reducible apply lin1); assumption; exact @rfl Bool true) | ((with_reducible apply lin0); assumption; exact @rfl Bool true) | ((with_reducible apply lin3); assumption; exact @rfl Bool true) | ((with_reducible apply lin1e); assumption; exact @rfl Bool true) | ((with_reducible apply lin2e); assumption; exact @rfl Bool true) | ((with_reducible apply Nat.le_of_ble_eq_true); exact @rfl Bool true) | ((with_reducible apply om_w); assumption; exact @rfl Bool true) | ((with_reducible apply om_p3); assumption) | ((with_reducible apply om_p2); assumption) | ((with_reducible apply om_p3e); assumption) | (with_reducible apply om_p3r) | ((with_reducible apply om_p4); assumption; exact @rfl Bool true) | ((with_reducible apply om_s); assumption; exact @rfl Bool true) | ((with_reducible apply om_s1); assumption; exact @rfl Bool true) | ((with_reducible apply om_s2); assumption; exact @rfl Bool true) | ((with_reducible apply om_i); assumption; decide +kernel) | ((with_reducible apply om_i2); assumption; assumption; decide +kernel) | ((with_reducible apply om_n); decide +kernel) | (with_reducible apply Int.natCast_nonneg) | ((with_reducible apply om_k); assumption; decide +kernel) | with_reducible (k_extra "m pk")) | fail)
  (k_with "m k_ne" => first | ((with_reducible apply PySem.W.neN); (try dsimp only); omega) | fail)
  (k_with "m k_upd" => first | (first | ((with_reducible apply PySem.W.Upd.head); k_all) | ((with_reducible apply PySem.W.Upd.tail); k_ne; k_upd)) | fail)
  (k_with "m k_updF" => first | (first | ((with_reducible apply PySem.W.UpdF.head); k_all) | ((with_reducible apply PySem.W.UpdF.tail); k_ne; k_updF)) | fail)
  (k_with "exec Assign" => first | (k_here; (with_reducible show wpAny _ _ (exec (PySem.Stmt.Assign [PySem.Expr.Attribute (PySem.Expr.Name _ _) _ _] (PySem.Expr.Name _ _) _) _) _ _ _); k_dflt (refine' set_nm (by exact rfl) (by k_asm) (by exact @rfl _ (some _)) (by exact @rfl _ (some _)) (by kernel_rfl) (by exact rfl) (by exact rfl) (by kernel_rfl) (by kernel_rfl) (by k_asm) (by k_asm) (by k_inst) (by exact rfl) (by k_is) (by k_is) (by k_is) (by k_is) (by k_get) (by k_put) (by k_upd) (by exact Nat.le_of_ble_eq_true rfl) (by exact rfl) ?_; k_whole); intro zzh' zzF' zzN'; (try k_sweep)) | fail)
  exact trivial
section
variable {w : World} {loose : List Str} {mean : ExcName → Option Value} {mg mb : Str → Option Value} {news : Led}
theorem TrIs.handed {v : Value} {o : Option Tr} (h : TrIs v o) : handedIn v = true := by cases h <;> rfl
theorem kw25_1 : True := by
  (k_with "m k_handed" => first | (exact TrIs.handed (by assumption)) | fail)
  exact trivial
inductive RowOut (w : World) (n : Int) (tn : Tok) (rg ps : Addr) (trv : Value) (ta sb md : Addr) (news : Led) : Led → Value → Prop
  | mk {x dx t1 t2 t3 t4 t5 t6 t7 t8 sp} : AllLt dx news → @LT.lt Nat _ dx x → AllLt x news → RowOut w n tn rg ps trv ta sb md news ((x, instObj 295 dx) :: (dx, dictOf [en w "number" t1 (.int n tn), en w "regions" t2 (.ref rg), en w "params" t3 (.ref ps), en w "trait" t4 trv, en w "trait_args" t5 (.ref ta), en w "self_type" t6 (.ref sb), en w "methods" t7 (.ref md), en w "spot" t8 sp] 8) :: news) (.ref x)
set_option maxHeartbeats 700000 in
theorem implrow_c {n : Int} {tn : Tok} {rg ps ta sb md : Addr} {trv : Value} {o : Option Tr} (hT : TrIs trv o) :
    Calls w loose mean mg mb 3 295 [.int n tn, .ref rg, .ref ps, trv, .ref ta, .ref sb, .ref md] news (RowOut w n tn rg ps trv ta sb md news) := by
  refine Calls.of ?_
  k_fill
  intro dp un gd cn cs a' ccd cl outer A₀ base h₀ L m' shh sgg sdd skk soo Q E B F X N T hk hd hu hret
  rcases cs with ⟨kd9, nms9, ig9, ic9, mo9⟩
  have hk' : kd9 = .function := hk
  subst hk'
  k_steps
  rename (∀ p ∈ news, _ < _) => g1
  rename (@LT.lt _ _ _ _) => g2
  exact hret _ _ _ _ (by k_asm) (by k_asm) (.mk (PySem.W.allLt_of g1) g2 (allLt_up g2 (PySem.W.allLt_of g1)))
end
theorem kw30_0 : True := by
  k_with_none
  (k_with "m k_mem" => first | (first | ktr_member | (with_reducible apply mem_hd) | ((with_reducible apply mem_tl); k_mem) | exact mem_via (by assumption) (by assumption)) | fail)
  (k_with "m lt" => first | (first | assumption | (apply PySem.W.allLt_of; assumption) | (apply allLt_tl; assumption) | (apply allLt_tl2; assumption) | with_reducible (k_extra "m pk") | (simp only [AllLt, and_true] at *; first | assumption | omega)) | fail)
  (k_with "m k_all" => first | (first | assumption | (apply ne_of_allNe; k_extra "m ne") | (apply ne_of_allLt; k_extra "m lt")) | fail)
  (k_with "m call" => first | (k_here; k_dflt (refine' Calls.use' (by k_asm) (by k_asm) (by k_asm) (by k_asm) (by k_asm) (by first | exact rfl | assumption) (by k_extra "m con") (by first | omega | (dsimp only [ktrTop]; omega)) (by k_extra "m un") ?_; k_whole); ((intro zzG9 zzhG9; k_dflt (k_extra "m out")) <;> (refine zzhG9 _ _ ?_; intro zzh9 zztk9 zzF9 zzN9; (try k_sweep)))) | fail)
  (k_with "m out" => first | (intro zzn9 zzr9 zzo9; (first | (obtain ⟨zze1, zze2⟩ := zzo9; subst zze1; subst zze2) | (obtain ⟨zze1, zzt9, zze2⟩ := zzo9; subst zze1; subst zze2) | (obtain ⟨zzl9, zze9, zze2, zze1, zzq9⟩ := zzo9; subst zze1; subst zze2; (simp only [AllLt, and_true] at zzq9)) | (obtain ⟨zzl9, zze9, zzp9, zzm9, zzx9, zzy9, zze2, zze1, zzq1, zzq2, zzq3, zzq4⟩ := zzo9; subst zze1; subst zze2; (simp only [AllLt, and_true] at zzq3); obtain ⟨zza8, zzn8, zzt8, zzr8, zze8, zzm8⟩ := Mine.TyIn.head zzq1; subst zze8; obtain ⟨zza7, zzn7, zzt7, zzr7, zze7, zzm7⟩ := Mine.TyIn.head zzq2; subst zze7) | (rcases zzo9 with ⟨zze3, zze1, zzt9, zze2⟩ | ⟨zze3, zze1, zzt9, zze2⟩ <;> (subst zze1; subst zze2)))) | fail)
  (k_with "call ref" => first | (k_extra "m call") | fail)
  (k_with "m un" => first | ((try dsimp +zetaDelta only); (have zzhcl9 := cLine_is); (try simp only [units_in1, units_deeper, Around.mark_units, units_caller]); (try dsimp only [ktrTop]); omega) | fail)
  (k_with "m dp" => first | (first | assumption | (simp only [Ty.dep]; omega) | decide) | fail)
  (k_with "m k_room" => first | ((try dsimp +zetaDelta only); (try simp only [depth_under_make, depth_under_kw, depth_in1, depth_deeper, depth_caller]); (try dsimp only [ktrTop]); have zzhrl9 : recursionLimit = 1000 := rfl; omega) | fail)
  (k_with "eval Name" => first | (k_here; (fail_if_success with_reducible show wpAny _ _ (eval _ (compEnvC _ _ _ _)) _ _ _); k_dflt (refine' nameX_L (by k_asm) (by exact @rfl _ (some _)) ?_ (by kernel_rfl) (rfl) (by kernel_rfl); k_whole)) | fail)
  (k_with "m for" => first | (k_here; (rename Fr _ _ _ _ => zzlF'); (with_unfolding_all refine' For_turns zzlF' ?_; k_whole)) | fail)
  (k_with "m pick" => first | (with_reducible (k_extra "m pk")) | fail)
  (k_with "m ne" => first | (first | with_reducible (first | assumption | (apply allNe_of; assumption) | (apply allNe_off; assumption) | (apply allNe_lt; apply PySem.W.allLt_of; assumption)) | ((with_reducible apply allNe_cons); k_ne; k_extra "m ne") | with_reducible (k_extra "m pkq") | (apply allNe_lt; with_reducible (k_extra "m pkq")) | with_reducible (k_extra "m pk") | (apply allNe_lt; with_reducible (k_extra "m pk")) | (apply allNe_off; with_reducible (k_extra "m pk")) | (apply allNe_lt; apply allLt_tl; assumption) | (with_reducible apply allNe_nil)) | fail)
  (k_with "m subh" => first | (with_reducible (apply sub_hd; first | assumption | (apply sub_hd; first | assumption | (apply sub_hd; first | assumption | (apply sub_hd; first | assumption | (apply sub_hd; first | assumption | (apply sub_hd; first | assumption | (apply sub_hd; first | assumption | (apply sub_hd; first | assumption | (apply sub_hd; assumption)))))))))) | fail)
  (k_with "m subs" => first | (first | (with_reducible apply sub_refl) | assumption | ((with_reducible apply subs_cons); k_mem; k_extra "m subs") | ((with_reducible apply sub_tl); k_extra "m subs") | (with_reducible apply List.forall_mem_nil) | k_extra "m subh") | fail)
  (k_with "m agr" => first | (first | assumption | exact agree_over | exact agree_refl | (refine agree_store ?_ (by decide); k_extra "m agr")) | fail)
  (k_with "m sub" => first | (first | assumption | ((with_reducible apply sub_tl); k_extra "m sub") | k_extra "m subh") | fail)
  (k_with "execs cons" => first | (k_here; (try dsimp only); (refine' exec_cons_h ?_); intro zztk' zzG' zzhG'; (try (rename PyProof.Rows.News _ _ _ _ => zznN'; dsimp only at zznN'))) | fail)
  (k_with "execs nil" => first | (k_here; (refine' exec_nil_g ?_); intro zztk'; (try (refine qout (by with_reducible assumption) ?_))) | fail)
  (k_with "m leave" => first | (k_end; first | ((try dsimp only); (refine' gnext_cons (by with_reducible assumption) ?_); intro zztk' zzG' zzhG'; (try (rename PyProof.Rows.News _ _ _ _ => zznN'; dsimp only at zznN'))) | (refine gnext (by with_reducible assumption) ?_) | (refine gout (by with_reducible assumption) ?_ ?_; (exact True.intro); (try (refine qout (by with_reducible assumption) ?_)))) | fail)
  (k_with "m k_steps" => first | (repeat' (first | k_extra "m leave" | (k_unfold; (try dsimp only)) | (k_end; wrow_close) | walk1 | (dsimp only; walk1) | (leave1; walk_say "STEP leave1"; try dsimp only) | fail "no step")) | fail)
  (k_with "m pkq" => first | (first | assumption | (apply And.left; first | assumption | (apply And.right; first | assumption | (apply And.right; first | assumption | (apply And.right; first | assumption | (apply And.right; first | assumption | (apply And.right; assumption))))))) | fail)
  (k_with "m pkr" => first | (first | assumption | (apply And.right; first | assumption | (apply And.right; first | assumption | (apply And.right; first | assumption | (apply And.right; first | assumption | (apply And.right; first | assumption | (apply And.right; first | assumption | (apply And.right; first | assumption | (apply And.right; first | assumption | (apply And.right; first | assumption | (apply And.right; first | assumption | (apply And.right; first | assumption | (apply And.right; first | assumption | (apply And.right; first | assumption | (apply And.right; first | assumption | (apply And.right; assumption)))))))))))))))) | fail)
  (k_with "m pk" => first | (first | assumption | (apply And.left; k_extra "m pkr") | (apply And.right; k_extra "m pkr")) | fail)
  (k_with "m omega" => first | (first | ((with_reducible apply neL); with_reducible (k_extra "m pkq")) | ((with_reducible apply neG); with_reducible (k_extra "m pkq")) | ((with_reducible apply neL); with_reducible (k_extra "m pk")) | ((with_reducible apply neG); with_reducible (k_extra "m pk")) | ((with_reducible apply neS); with_reducible (k_extra "m pk")) | ((with_reducible apply lin2); assumption; exact @rfl Bool true) | ((with_reducible apply lin1); assumption; exact @rfl Bool true) | ((with_reducible apply lin0); assumption; exact @rfl Bool true) | ((with_reducible apply lin3); assumption; exact @rfl Bool true) | ((with_reducible apply lin1e); assumption; exact @rfl Bool true) | ((with_reducible apply lin2e); assumption; exact @rfl Bool true) | ((with_reducible apply Nat.le_of_ble_eq_true); exact @rfl Bool true) | ((with_reducible apply om_w); assumption; exact @rfl Bool true) | ((with_reducible apply om_p3); assumption) | ((with_reducible apply om_p2); assumption) | ((with_reducible apply om_p3e); assumption) | (with_reducible apply om_p3r) | ((with_reducible apply om_p4); assumption; exact @rfl Bool true) | ((with_reducible apply om_s); assumption; exact @rfl Bool true) | ((with_reducible apply om_s1); assumption; exact @rfl Bool true) | ((with_reducible apply om_s2); assumption; exact @rfl Bool true) | ((with_reducible apply om_i); assumption; decide +kernel) | ((with_reducible apply om_i2); assumption; assumption; decide +kernel) | ((with_reducible apply om_n); decide +kernel) | (with_reducible apply Int.natCast_nonneg) | ((with_reducible apply om_k); assumption; decide +kernel) | with_reducible (k_extra "m pk")) | fail)
  (k_with "m k_ne" => first | ((with_reducible apply PySem.W.neN); (try dsimp only); omega) | fail)
  (k_with "spliced" => first | (k_here; (with_reducible show wpAny _ _ (spliced (backTo _ (starEach (PySem.Expr.Name _ _ :: _) _))) _ _ _); k_dflt (refine' args_nm (by exact rfl) (by k_asm) (by exact @rfl _ (some _)) (by kernel_rfl) (by exact rfl) (by kernel_rfl) ?_; k_whole)) | fail)
  (k_with "m k_upd" => first | (first | ((with_reducible apply PySem.W.Upd.head); k_all) | ((with_reducible apply PySem.W.Upd.tail); k_ne; k_upd)) | fail)
  (k_with "m k_updF" => first | (first | ((with_reducible apply PySem.W.UpdF.head); k_all) | ((with_reducible apply PySem.W.UpdF.tail); k_ne; k_updF)) | fail)
  (k_with "spliced" => first | (k_here; (with_reducible show wpAny _ _ (spliced (backTo _ (starEach (PySem.Expr.Constant (PySem.Const.str _) _ _ :: _) _))) _ _ _); k_dflt (refine' args_str ?_; k_whole)) | fail)
  (k_with "exec Assign" => first | (k_here; (with_reducible show wpAny _ _ (exec (PySem.Stmt.Assign [PySem.Expr.Attribute (PySem.Expr.Name _ _) _ _] (PySem.Expr.Name _ _) _) _) _ _ _); k_dflt (refine' set_nm (by exact rfl) (by k_asm) (by exact @rfl _ (some _)) (by exact @rfl _ (some _)) (by kernel_rfl) (by exact rfl) (by exact rfl) (by kernel_rfl) (by kernel_rfl) (by k_asm) (by k_asm) (by k_inst) (by exact rfl) (by k_is) (by k_is) (by k_is) (by k_is) (by k_get) (by k_put) (by k_upd) (by exact Nat.le_of_ble_eq_true rfl) (by exact rfl) ?_; k_whole); intro zzh' zzF' zzN'; (try k_sweep)) | fail)
  (k_with "spliced" => first | (k_here; (with_reducible show wpAny _ _ (spliced (backTo _ (starEach [] _))) (fun vs s₂ => wpAny _ _ (newTuple _) _ _ s₂) _ _); with_reducible refine' nil_tup (by k_dflt k_asm) (by k_dflt k_asm) (by k_dflt (exact Nat.le_of_ble_eq_true rfl)) ?_; k_whole; intro zzD' zzh' zzF' zzN' zzl1; (try k_lt zzl1); (try k_sweep)) | fail)
  (k_with "spliced" => first | (k_here; (with_reducible show wpAny _ _ (spliced (backTo _ (starEach [] _))) (fun vs s₂ => wpAny _ _ (newList _) _ _ s₂) _ _); with_reducible refine' nil_lst (by k_dflt k_asm) (by k_dflt k_asm) (by k_dflt (exact Nat.le_of_ble_eq_true rfl)) ?_; k_whole; intro zzl' zzh' zzF' zzN' zzl1; (try k_lt zzl1); (try k_sweep)) | fail)
  exact trivial
section
variable {w : World} {loose : List Str} {mean : ExcName → Option Value} {mg mb : Str → Option Value} {news : Led}
inductive WNew (w : World) (news : Led) : Led → Value → Prop
  | mk {x dx sg tr im so to od t1 t2 t3 t4 t5 t6 t7 t8 v1 v2 v3 v7 v8} : (sg == sysModules) = false → SD w so [] → (tr == sysModules) = false → SD w to [] → AllLt dx news → AllLt x news → @LT.lt Nat _ dx x → AllLt sg news → @LT.lt Nat _ x sg → AllLt tr news → @LT.lt Nat _ sg tr → AllLt im news → @LT.lt Nat _ tr im → od = dictOf [en w "modules" t1 v1, en w "adts" t2 v2, en w "variants" t3 v3, en w "sigs" t4 (.ref sg), en w "traits" t5 (.ref tr), en w "impls" t6 (.ref im), en w "consts" t7 v7, en w "bodies" t8 v8] 8 →
    WNew w news ((im, listOf #[] 0) :: (tr, to) :: (sg, so) :: (x, instObj 324 dx) :: (dx, od) :: news) (.ref x)
set_option maxHeartbeats 1600000 in
theorem wnew_c : Calls w loose mean mg mb 3 324 [.none] news (WNew w news) := by
  refine Calls.of ?_
  k_fill
  intro dp un gd cn cs a' ccd cl outer A₀ base h₀ L m' shh sgg sdd skk soo Q E B F X N T hk hd hu hret
  rcases cs with ⟨kd9, nms9, ig9, ic9, mo9⟩
  have hk' : kd9 = .function := hk
  subst hk'
  k_steps
  have zzB' := trivial; have zzD' := trivial; have zzF' := trivial; have zzF9 := trivial; have zzG' := trivial; have zzG9 := trivial; have zzN' := trivial; have zzN9 := trivial; have zzZ' := trivial; have zza7 := trivial; have zza8 := trivial; have zzb' := trivial; have zze' := trivial; have zze1 := trivial; have zze2 := trivial; have zze3 := trivial; have zze7 := trivial; have zze8 := trivial; have zze9 := trivial; have zzep' := trivial; have zzg' := trivial; have zzh' := trivial; have zzh9 := trivial; have zzhG' := trivial; have zzhG9 := trivial; have zzhcl9 := trivial; have zzhrl9 := trivial; have zzi' := trivial; have zzl' := trivial; have zzl1 := trivial; have zzl1' := trivial; have zzl9 := trivial; have zzlF' := trivial; have zzm7 := trivial; have zzm8 := trivial; have zzm9 := trivial; have zzn7 := trivial; have zzn8 := trivial; have zzn9 := trivial; have zznN' := trivial; have zzo9 := trivial; have zzp9 := trivial; have zzq' := trivial; have zzq1 := trivial; have zzq2 := trivial; have zzq3 := trivial; have zzq4 := trivial; have zzq9 := trivial; have zzr := trivial; have zzr7 := trivial; have zzr8 := trivial; have zzr9 := trivial; have zzt7 := trivial; have zzt8 := trivial; have zzt9 := trivial; have zztk' := trivial; have zztk9 := trivial; have zzvs' := trivial; have zzx9 := trivial; have zzy9 := trivial
  rename_i x dx _ _ _ l7 l8 _ _ _ _ _ _ _ _ _ _ _ _ _ _ d5 _ o5 lo5 hs5 _ _ _ l5 _ _ _ _ d4 _ o4 lo4 hs4 _ _ _ l4 _ _ _ _ sg _ so losg hssg _ _ _ lsg _ _ _ _ tr _ to lotr hstr _ _ _ ltr _ _ _ _ im _ lim _ _ _ _ d1 _ o1 lo1 hs1 _ _ _ ld1 _ _ _ _ d0 _ o0 lo0 hs0 _ _ _ l0 _ _ Nz _ kF kN _ _
  have m7 : AllLt dx news := PySem.W.allLt_of l7
  refine' hret _ _ _ _ kF (newsSub kN ?_) (.mk losg hssg lotr hstr m7 (allLt_up l8 m7) l8 lsg.2.2.2.2 lsg.2.2.1 ltr.2.2.2.2.2 ltr.1 lim.2.2.2.2.2.2 lim.1 rfl)
  exact List.forall_mem_cons.mpr ⟨.tail _ (.tail _ (.head _)), List.forall_mem_cons.mpr ⟨.tail _ (.tail _ (.tail _ (.head _))), List.forall_mem_cons.mpr ⟨.tail _ (.tail _ (.tail _ (.tail _ (.head _)))), fun p hp => .tail _ (.tail _ (.tail _ (.tail _ (.tail _ (.tail _ (.tail _ hp))))))⟩⟩⟩
end
theorem kw27_0 : True := by
  k_with_none
  (k_with "m k_mem" => first | (first | ktr_member | (with_reducible apply mem_hd) | ((with_reducible apply mem_tl); k_mem) | exact mem_via (by assumption) (by assumption)) | fail)
  (k_with "m lt" => first | (first | assumption | (apply PySem.W.allLt_of; assumption) | (apply allLt_tl; assumption) | (apply allLt_tl2; assumption) | with_reducible (k_extra "m pk") | (simp only [AllLt, and_true] at *; first | assumption | omega)) | fail)
  (k_with "m k_all" => first | (first | assumption | (apply ne_of_allNe; k_extra "m ne") | (apply ne_of_allLt; k_extra "m lt")) | fail)
  (k_with "m call" => first | (k_here; k_dflt (refine' Calls.use' (by k_asm) (by k_asm) (by k_asm) (by k_asm) (by k_asm) (by first | exact rfl | assumption) (by k_extra "m con") (by first | omega | (dsimp only [ktrTop]; omega)) (by k_extra "m un") ?_; k_whole); ((intro zzG9 zzhG9; k_dflt (k_extra "m out")) <;> (refine zzhG9 _ _ ?_; intro zzh9 zztk9 zzF9 zzN9; (try k_sweep)))) | fail)
  (k_with "m out" => first | (intro zzn9 zzr9 zzo9; (first | (obtain ⟨zze1, zze2⟩ := zzo9; subst zze1; subst zze2) | (obtain ⟨zze1, zzt9, zze2⟩ := zzo9; subst zze1; subst zze2) | (obtain ⟨zzl9, zze9, zze2, zze1, zzq9⟩ := zzo9; subst zze1; subst zze2; (simp only [AllLt, and_true] at zzq9)) | (obtain ⟨zzl9, zze9, zzp9, zzm9, zzx9, zzy9, zze2, zze1, zzq1, zzq2, zzq3, zzq4⟩ := zzo9; subst zze1; subst zze2; (simp only [AllLt, and_true] at zzq3); obtain ⟨zza8, zzn8, zzt8, zzr8, zze8, zzm8⟩ := Mine.TyIn.head zzq1; subst zze8; obtain ⟨zza7, zzn7, zzt7, zzr7, zze7, zzm7⟩ := Mine.TyIn.head zzq2; subst zze7) | (rcases zzo9 with ⟨zze3, zze1, zzt9, zze2⟩ | ⟨zze3, zze1, zzt9, zze2⟩ <;> (subst zze1; subst zze2)))) | fail)
  (k_with "call ref" => first | (k_extra "m call") | fail)
  (k_with "m un" => first | ((try dsimp +zetaDelta only); (have zzhcl9 := cLine_is); (try simp only [units_in1, units_deeper, Around.mark_units, units_caller]); (try dsimp only [ktrTop]); omega) | fail)
  (k_with "m dp" => first | (first | assumption | (simp only [Ty.dep]; omega) | decide) | fail)
  (k_with "m k_room" => first | ((try dsimp +zetaDelta only); (try simp only [depth_under_make, depth_under_kw, depth_in1, depth_deeper, depth_caller]); (try dsimp only [ktrTop]); have zzhrl9 : recursionLimit = 1000 := rfl; omega) | fail)
  (k_with "m for" => first | (k_here; (rename Fr _ _ _ _ => zzlF'); (with_unfolding_all refine' For_turns zzlF' ?_; k_whole)) | fail)
  (k_with "m pick" => first | (with_reducible (k_extra "m pk")) | fail)
  (k_with "m ne" => first | (first | with_reducible (first | assumption | (apply allNe_of; assumption) | (apply allNe_off; assumption) | (apply allNe_lt; apply PySem.W.allLt_of; assumption)) | ((with_reducible apply allNe_cons); k_ne; k_extra "m ne") | with_reducible (k_extra "m pkq") | (apply allNe_lt; with_reducible (k_extra "m pkq")) | with_reducible (k_extra "m pk") | (apply allNe_lt; with_reducible (k_extra "m pk")) | (apply allNe_off; with_reducible (k_extra "m pk")) | (apply allNe_lt; apply allLt_tl; assumption) | (with_reducible apply allNe_nil)) | fail)
  (k_with "m subh" => first | (with_reducible (apply sub_hd; first | assumption | (apply sub_hd; first | assumption | (apply sub_hd; first | assumption | (apply sub_hd; first | assumption | (apply sub_hd; first | assumption | (apply sub_hd; first | assumption | (apply sub_hd; first | assumption | (apply sub_hd; first | assumption | (apply sub_hd; assumption)))))))))) | fail)
  (k_with "m subs" => first | (first | (with_reducible apply sub_refl) | assumption | ((with_reducible apply subs_cons); k_mem; k_extra "m subs") | ((with_reducible apply sub_tl); k_extra "m subs") | (with_reducible apply List.forall_mem_nil) | k_extra "m subh") | fail)
  (k_with "m agr" => first | (first | assumption | exact agree_over | exact agree_refl | (refine agree_store ?_ (by decide); k_extra "m agr")) | fail)
  (k_with "m sub" => first | (first | assumption | ((with_reducible apply sub_tl); k_extra "m sub") | k_extra "m subh") | fail)
  (k_with "execs cons" => first | (k_here; (try dsimp only); (refine' exec_cons_h ?_); intro zztk' zzG' zzhG'; (try (rename PyProof.Rows.News _ _ _ _ => zznN'; dsimp only at zznN'))) | fail)
  (k_with "execs nil" => first | (k_here; (refine' exec_nil_g ?_); intro zztk'; (try (refine qout (by with_reducible assumption) ?_))) | fail)
  (k_with "m leave" => first | (k_end; first | ((try dsimp only); (refine' gnext_cons (by with_reducible assumption) ?_); intro zztk' zzG' zzhG'; (try (rename PyProof.Rows.News _ _ _ _ => zznN'; dsimp only at zznN'))) | (refine gnext (by with_reducible assumption) ?_) | (refine gout (by with_reducible assumption) ?_ ?_; (exact True.intro); (try (refine qout (by with_reducible assumption) ?_)))) | fail)
  (k_with "m k_steps" => first | (repeat' (first | k_extra "m leave" | (k_unfold; (try dsimp only)) | (k_end; wrow_close) | walk1 | (dsimp only; walk1) | (leave1; walk_say "STEP leave1"; try dsimp only) | fail "no step")) | fail)
  (k_with "m pkq" => first | (first | assumption | (apply And.left; first | assumption | (apply And.right; first | assumption | (apply And.right; first | assumption | (apply And.right; first | assumption | (apply And.right; first | assumption | (apply And.right; assumption))))))) | fail)
  (k_with "m pkr" => first | (first | assumption | (apply And.right; first | assumption | (apply And.right; first | assumption | (apply And.right; first | assumption | (apply And.right; first | assumption | (apply And.right; first | assumption | (apply And.right; first | assumption | (apply And.right; first | assumption | (apply And.right; first | assumption | (apply And.right; first | assumption | (apply And.right; first | assumption | (apply And.right; first | assumption | (apply And.right; first | assumption | (apply And.right; first | assumption | (apply And.right; first | assumption | (apply And.right; assumption)))))))))))))))) | fail)
  (k_with "m pk" => first | (first | assumption | (apply And.left; k_extra "m pkr") | (apply And.right; k_extra "m pkr")) | fail)
  (k_with "m omega" => first | (first | ((with_reducible apply neL); with_reducible (k_extra "m pkq")) | ((with_reducible apply neG); with_reducible (k_extra "m pkq")) | ((with_reducible apply neL); with_reducible (k_extra "m pk")) | ((with_reducible apply neG); with_reducible (k_extra "m pk")) | ((with_reducible apply neS); with_reducible (k_extra "m pk")) | ((with_reducible apply lin2); assumption; exact @rfl Bool true) | ((with_reducible apply lin1); assumption; exact @rfl Bool true) | ((with_reducible apply lin0); assumption; exact @rfl Bool true) | ((with_reducible apply lin3); assumption; exact @rfl Bool true) | ((with_reducible apply lin1e); assumption; exact @rfl Bool true) | ((with_reducible apply lin2e); assumption; exact @rfl Bool true) | ((with_reducible apply Nat.le_of_ble_eq_true); exact @rfl Bool true) | ((with_reducible apply om_w); assumption; exact @rfl Bool true) | ((with_reducible apply om_p3); assumption) | ((with_reducible apply om_p2); assumption) | ((with_reducible apply om_p3e); assumption) | (with_reducible apply om_p3r) | ((with_reducible apply om_p4); assumption; exact @rfl Bool true) | ((with_reducible apply om_s); assumption; exact @rfl Bool true) | ((with_reducible apply om_s1); assumption; exact @rfl Bool true) | ((with_reducible apply om_s2); assumption; exact @rfl Bool true) | ((with_reducible apply om_i); assumption; decide +kernel) | ((with_reducible apply om_i2); assumption; assumption; decide +kernel) | ((with_reducible apply om_n); decide +kernel) | (with_reducible apply Int.natCast_nonneg) | ((with_reducible apply om_k); assumption; decide +kernel) | with_reducible (k_extra "m pk")) | fail)
  (k_with "m k_ne" => first | ((with_reducible apply PySem.W.neN); (try dsimp only); omega) | fail)
  (k_with "m k_upd" => first | (first | ((with_reducible apply PySem.W.Upd.head); k_all) | ((with_reducible apply PySem.W.Upd.tail); k_ne; k_upd)) | fail)
  (k_with "m k_updF" => first | (first | ((with_reducible apply PySem.W.UpdF.head); k_all) | ((with_reducible apply PySem.W.UpdF.tail); k_ne; k_updF)) | fail)
  (k_with "exec Assign" => first | (k_here; (with_reducible show wpAny _ _ (exec (PySem.Stmt.Assign [PySem.Expr.Attribute (PySem.Expr.Name _ _) _ _] (PySem.Expr.Name _ _) _) _) _ _ _); k_dflt (refine' set_nm (by exact rfl) (by k_asm) (by exact @rfl _ (some _)) (by exact @rfl _ (some _)) (by kernel_rfl) (by exact rfl) (by exact rfl) (by kernel_rfl) (by kernel_rfl) (by k_asm) (by k_asm) (by k_inst) (by exact rfl) (by k_is) (by k_is) (by k_is) (by k_is) (by k_get) (by k_put) (by k_upd) (by exact Nat.le_of_ble_eq_true rfl) (by exact rfl) ?_; k_whole); intro zzh' zzF' zzN'; (try k_sweep)) | fail)
  exact trivial
section
variable {w : World} {loose : List Str} {mean : ExcName → Option Value} {mg mb : Str → Option Value} {news : Led}
inductive TRow (w : World) (p : Str) (tp : Tok) (pa md df : Addr) (news : Led) : Led → Value → Prop
  | mk {x dx t1 t2 t3 t4} : AllLt dx news → @LT.lt Nat _ dx x → AllLt x news → TRow w p tp pa md df news ((x, instObj 273 dx) :: (dx, dictOf [en w "path" t1 (.str p tp), en w "params" t2 (.ref pa), en w "methods" t3 (.ref md), en w "defaults" t4 (.ref df)] 4) :: news) (.ref x)
set_option maxHeartbeats 700000 in
theorem trrow_c {p : Str} {tp : Tok} {pa md df : Addr} :
    Calls w loose mean mg mb 3 273 [.str p tp, .ref pa, .ref md, .ref df] news (TRow w p tp pa md df news) := by
  refine Calls.of ?_
  k_fill
  intro dp un gd cn cs a' ccd cl outer A₀ base h₀ L m' shh sgg sdd skk soo Q E B F X N T hk hd hu hret
  rcases cs with ⟨kd9, nms9, ig9, ic9, mo9⟩
  have hk' : kd9 = .function := hk
  subst hk'
  k_steps
  rename (∀ p ∈ news, _ < _) => g1
  rename (@LT.lt _ _ _ _) => g2
  exact hret _ _ _ _ (by k_asm) (by k_asm) (.mk (PySem.W.allLt_of g1) g2 (allLt_up g2 (PySem.W.allLt_of g1)))
end
theorem kw24_0 : True := by
  k_with_none
  (k_with "m k_mem" => first | (first | ktr_member | (with_reducible apply mem_hd) | ((with_reducible apply mem_tl); k_mem) | exact mem_via (by assumption) (by assumption)) | fail)
  (k_with "subscriptTail Name Constant ref int" => first | (k_here; (with_reducible show wpAny _ _ (subscriptTail _ _ (Value.ref _) (Value.int _ _)) _ _ _); k_dflt (refine' tup_item (by k_asm) (by k_mem) (by decide) (by decide) (by exact rfl) (by exact rfl) ?_ (by with_unfolding_all rfl); k_whole)) | fail)
  (k_with "ite" => first | (first | refine ite_t (by with_reducible assumption) ?_ | refine ite_f (by with_reducible assumption) ?_) | fail)
  (k_with "m lt" => first | (first | assumption | (apply PySem.W.allLt_of; assumption) | (apply allLt_tl; assumption) | (apply allLt_tl2; assumption) | with_reducible (k_extra "m pk") | (simp only [AllLt, and_true] at *; first | assumption | omega)) | fail)
  (k_with "m k_all" => first | (first | assumption | (apply ne_of_allNe; k_extra "m ne") | (apply ne_of_allLt; k_extra "m lt")) | fail)
  (k_with "m call" => first | (k_here; k_dflt (refine' Calls.use' (by k_asm) (by k_asm) (by k_asm) (by k_asm) (by k_asm) (by first | exact rfl | assumption) (by k_extra "m con") (by first | omega | (dsimp only [ktrTop]; omega)) (by k_extra "m un") ?_; k_whole); ((intro zzG9 zzhG9; k_dflt (k_extra "m out")) <;> (refine zzhG9 _ _ ?_; intro zzh9 zztk9 zzF9 zzN9; (try k_sweep)))) | fail)
  (k_with "m out" => first | (intro zzn9 zzr9 zzo9; (first | (obtain ⟨zze1, zze2⟩ := zzo9; subst zze1; subst zze2) | (obtain ⟨zze1, zzt9, zze2⟩ := zzo9; subst zze1; subst zze2) | (obtain ⟨zzl9, zze9, zze2, zze1, zzq9⟩ := zzo9; subst zze1; subst zze2; (simp only [AllLt, and_true] at zzq9)) | (obtain ⟨zzl9, zze9, zzp9, zzm9, zzx9, zzy9, zze2, zze1, zzq1, zzq2, zzq3, zzq4⟩ := zzo9; subst zze1; subst zze2; (simp only [AllLt, and_true] at zzq3); obtain ⟨zza8, zzn8, zzt8, zzr8, zze8, zzm8⟩ := Mine.TyIn.head zzq1; subst zze8; obtain ⟨zza7, zzn7, zzt7, zzr7, zze7, zzm7⟩ := Mine.TyIn.head zzq2; subst zze7) | (rcases zzo9 with ⟨zze3, zze1, zzt9, zze2⟩ | ⟨zze3, zze1, zzt9, zze2⟩ <;> (subst zze1; subst zze2)))) | fail)
  (k_with "call ref" => first | (k_extra "m call") | fail)
  (k_with "m un" => first | ((try dsimp +zetaDelta only); (have zzhcl9 := cLine_is); (try simp only [units_in1, units_deeper, Around.mark_units, units_caller]); (try dsimp only [ktrTop]); omega) | fail)
  (k_with "m dp" => first | (first | assumption | (simp only [Ty.dep]; omega) | decide) | fail)
  (k_with "m k_room" => first | ((try dsimp +zetaDelta only); (try simp only [depth_under_make, depth_under_kw, depth_in1, depth_deeper, depth_caller]); (try dsimp only [ktrTop]); have zzhrl9 : recursionLimit = 1000 := rfl; omega) | fail)
  (k_with "eval Name" => first | (k_here; (fail_if_success with_reducible show wpAny _ _ (eval _ (compEnvC _ _ _ _)) _ _ _); k_dflt (refine' nameX_L (by k_asm) (by exact @rfl _ (some _)) ?_ (by kernel_rfl) (rfl) (by kernel_rfl); k_whole)) | fail)
  (k_with "ite" => first | (k_closed; first | refine ite_t (by decide +kernel) ?_ | refine ite_f (by decide +kernel) ?_) | fail)
  (k_with "exec For Name Call cons nil" => first | (k_extra "m for") | fail)
  (k_with "exec For Name List cons nil" => first | (k_extra "m for") | fail)
  (k_with "m for" => first | (k_here; (rename Fr _ _ _ _ => zzlF'); (with_unfolding_all refine' For_turns zzlF' ?_; k_whole)) | fail)
  (k_with "binaryOp Add ref ref" => first | (k_here; (with_reducible show wpAny _ _ (binaryOp _ (Value.ref _) (Value.ref _)) _ _ _); k_dflt (refine' kde_addT0 (by k_asm) (by k_asm) (Mine.tup_of (by k_asm) (by k_mem)) (Mine.tup_of (by k_asm) (by k_mem)) (by exact rfl) (by exact Nat.le_of_ble_eq_true rfl) ?_; k_whole)) | fail)
  (k_with "m pick" => first | (with_reducible (k_extra "m pk")) | fail)
  (k_with "m ne" => first | (first | with_reducible (first | assumption | (apply allNe_of; assumption) | (apply allNe_off; assumption) | (apply allNe_lt; apply PySem.W.allLt_of; assumption)) | ((with_reducible apply allNe_cons); k_ne; k_extra "m ne") | with_reducible (k_extra "m pkq") | (apply allNe_lt; with_reducible (k_extra "m pkq")) | with_reducible (k_extra "m pk") | (apply allNe_lt; with_reducible (k_extra "m pk")) | (apply allNe_off; with_reducible (k_extra "m pk")) | (apply allNe_lt; apply allLt_tl; assumption) | (with_reducible apply allNe_nil)) | fail)
  (k_with "m subh" => first | (with_reducible (apply sub_hd; first | assumption | (apply sub_hd; first | assumption | (apply sub_hd; first | assumption | (apply sub_hd; first | assumption | (apply sub_hd; first | assumption | (apply sub_hd; first | assumption | (apply sub_hd; first | assumption | (apply sub_hd; first | assumption | (apply sub_hd; assumption)))))))))) | fail)
  (k_with "m subs" => first | (first | (with_reducible apply sub_refl) | assumption | ((with_reducible apply subs_cons); k_mem; k_extra "m subs") | ((with_reducible apply sub_tl); k_extra "m subs") | (with_reducible apply List.forall_mem_nil) | k_extra "m subh") | fail)
  (k_with "getMethod ref" => first | (k_here; (with_reducible show wpAny _ _ (getMethod (Value.ref _) (Str.ofString "get") _) _ _ _); k_dflt (refine' kdg_method (knd := PySem.strKind _ _) (by k_asm) (by k_mem) (by k_asm) ?_; k_whole)) | fail)
  (k_with "pyIter ref" => first | (k_here; (with_reducible show wpAny _ _ (pyIter (Value.ref _)) (fun it s₂ => TurnsAt _ _ _ _ _ _ _ _ _ it s₂) _ _); k_dflt (refine' iter_listTurns (by exact rfl) (by k_asm) (by k_asm) (by k_mem) (by exact rfl) (by exact rfl) ?_; k_whole); intro zzi' zzl1; (try k_lt zzl1)) | fail)
  (k_with "m agr" => first | (first | assumption | exact agree_over | exact agree_refl | (refine agree_store ?_ (by decide); k_extra "m agr")) | fail)
  (k_with "m sub" => first | (first | assumption | ((with_reducible apply sub_tl); k_extra "m sub") | k_extra "m subh") | fail)
  (k_with "execs cons" => first | (k_here; (try dsimp only); (refine' exec_cons_h ?_); intro zztk' zzG' zzhG'; (try (rename PyProof.Rows.News _ _ _ _ => zznN'; dsimp only at zznN'))) | fail)
  (k_with "execs nil" => first | (k_here; (refine' exec_nil_g ?_); intro zztk'; (try (refine qout (by with_reducible assumption) ?_))) | fail)
  (k_with "m leave" => first | (k_end; first | ((try dsimp only); (refine' gnext_cons (by with_reducible assumption) ?_); intro zztk' zzG' zzhG'; (try (rename PyProof.Rows.News _ _ _ _ => zznN'; dsimp only at zznN'))) | (refine gnext (by with_reducible assumption) ?_) | (refine gout (by with_reducible assumption) ?_ ?_; (exact True.intro); (try (refine qout (by with_reducible assumption) ?_)))) | fail)
  (k_with "m k_steps" => first | (repeat' (first | k_extra "m leave" | (k_unfold; (try dsimp only)) | (k_end; wrow_close) | walk1 | (dsimp only; walk1) | (leave1; walk_say "STEP leave1"; try dsimp only) | fail "no step")) | fail)
  (k_with "m pkq" => first | (first | assumption | (apply And.left; first | assumption | (apply And.right; first | assumption | (apply And.right; first | assumption | (apply And.right; first | assumption | (apply And.right; first | assumption | (apply And.right; assumption))))))) | fail)
  (k_with "m pkr" => first | (first | assumption | (apply And.right; first | assumption | (apply And.right; first | assumption | (apply And.right; first | assumption | (apply And.right; first | assumption | (apply And.right; first | assumption | (apply And.right; first | assumption | (apply And.right; first | assumption | (apply And.right; first | assumption | (apply And.right; first | assumption | (apply And.right; first | assumption | (apply And.right; first | assumption | (apply And.right; first | assumption | (apply And.right; first | assumption | (apply And.right; first | assumption | (apply And.right; assumption)))))))))))))))) | fail)
  (k_with "m pk" => first | (first | assumption | (apply And.left; k_extra "m pkr") | (apply And.right; k_extra "m pkr")) | fail)
  (k_with "m omega" => first | (first | ((with_reducible apply neL); with_reducible (k_extra "m pkq")) | ((with_reducible apply neG); with_reducible (k_extra "m pkq")) | ((with_reducible apply neL); with_reducible (k_extra "m pk")) | ((with_reducible apply neG); with_reducible (k_extra "m pk")) | ((with_reducible apply neS); with_reducible (k_extra "m pk")) | ((with_reducible apply lin2); assumption; exact @rfl Bool true) | ((with_reducible apply lin1); assumption; exact @rfl Bool true) | ((with_reducible apply lin0); assumption; exact @rfl Bool true) | ((with_reducible apply lin3); assumption; exact @rfl Bool true) | ((with_reducible apply lin1e); assumption; exact @rfl Bool true) | ((with_reducible apply lin2e); assumption; exact @rfl Bool true) | ((with_reducible apply Nat.le_of_ble_eq_true); exact @rfl Bool true) | ((with_reducible apply om_w); assumption; exact @rfl Bool true) | ((with_reducible apply om_p3); assumption) | ((with_reducible apply om_p2); assumption) | ((with_reducible apply om_p3e); assumption) | (with_reducible apply om_p3r) | ((with_reducible apply om_p4); assumption; exact @rfl Bool true) | ((with_reducible apply om_s); assumption; exact @rfl Bool true) | ((with_reducible apply om_s1); assumption; exact @rfl Bool true) | ((with_reducible apply om_s2); assumption; exact @rfl Bool true) | ((with_reducible apply om_i); assumption; decide +kernel) | ((with_reducible apply om_i2); assumption; assumption; decide +kernel) | ((with_reducible apply om_n); decide +kernel) | (with_reducible apply Int.natCast_nonneg) | ((with_reducible apply om_k); assumption; decide +kernel) | with_reducible (k_extra "m pk")) | fail)
  (k_with "m k_ne" => first | ((with_reducible apply PySem.W.neN); (try dsimp only); omega) | fail)
  (k_with "spliced" => first | (k_here; (with_reducible show wpAny _ _ (spliced (backTo _ (starEach (PySem.Expr.Name _ _ :: _) _))) _ _ _); k_dflt (refine' args_nm (by exact rfl) (by k_asm) (by exact @rfl _ (some _)) (by kernel_rfl) (by exact rfl) (by kernel_rfl) ?_; k_whole)) | fail)
  (k_with "eval Subscript" => first | (k_here; (with_reducible show wpAny _ _ (eval (PySem.Expr.Subscript (PySem.Expr.Name _ _) _ _) _) _ _ _); k_dflt (refine' sub_nm (by exact rfl) (by k_asm) (by exact @rfl _ (some _)) (by kernel_rfl) (by exact rfl) (by kernel_rfl) ?_; k_whole)) | fail)
  (k_with "isTrue Compare" => first | (k_here; (with_reducible show wpAny _ _ (isTrue (PySem.Expr.Compare (PySem.Expr.Name _ _) [_] [_] _) _ _) _ _ _); k_dflt (refine' cmp_nm (by exact rfl) (by k_asm) (by exact @rfl _ (some _)) (by kernel_rfl) (by exact rfl) (by kernel_rfl) (by with_unfolding_all rfl) ?_; k_whole)) | fail)
  (k_with "eval Attribute Name" => first | (k_here; (with_reducible show wpAny _ _ (eval (PySem.Expr.Attribute (PySem.Expr.Name _ _) _ _) _) _ _ _); k_dflt (refine' att_nm (by exact rfl) (by k_asm) (by exact @rfl _ (some _)) (by kernel_rfl) (by exact rfl) (by kernel_rfl) ?_; k_whole)) | fail)
  (k_with "m k_upd" => first | (first | ((with_reducible apply PySem.W.Upd.head); k_all) | ((with_reducible apply PySem.W.Upd.tail); k_ne; k_upd)) | fail)
  (k_with "m k_updF" => first | (first | ((with_reducible apply PySem.W.UpdF.head); k_all) | ((with_reducible apply PySem.W.UpdF.tail); k_ne; k_updF)) | fail)
  (k_with "spliced" => first | (k_here; (with_reducible show wpAny _ _ (spliced (backTo _ (starEach (PySem.Expr.Constant (PySem.Const.str _) _ _ :: _) _))) _ _ _); k_dflt (refine' args_str ?_; k_whole)) | fail)
  (k_with "eval Subscript" => first | (k_here; (with_reducible show wpAny _ _ (eval (PySem.Expr.Subscript (PySem.Expr.Name _ _) (PySem.Expr.Constant (PySem.Const.int _) _ _) _) _) _ _ _); k_dflt (refine' sub_it (by exact rfl) (by k_asm) (by exact @rfl _ (some _)) (by kernel_rfl) (by exact rfl) (by kernel_rfl) (by k_asm) (by k_mem) (by exact @rfl _ (some _)) ?_; k_whole)) | fail)
  (k_with "eval Constant str" => first | (k_here; (with_reducible show wpAny _ _ (eval (PySem.Expr.Constant (PySem.Const.str _) _ _) _) (fun b s₂ => wpAny _ _ (compareOp CmpOp.Eq (Value.str _ _) b) (fun c s₃ => wpAny _ _ (truthy c) _ _ s₃) _ s₂) _ _); (with_reducible refine' eq_cst ?_); k_whole) | fail)
  (k_with "exec Assign" => first | (k_here; (with_reducible show wpAny _ _ (exec (PySem.Stmt.Assign [PySem.Expr.Attribute (PySem.Expr.Name _ _) _ _] (PySem.Expr.Name _ _) _) _) _ _ _); k_dflt (refine' set_nm (by exact rfl) (by k_asm) (by exact @rfl _ (some _)) (by exact @rfl _ (some _)) (by kernel_rfl) (by exact rfl) (by exact rfl) (by kernel_rfl) (by kernel_rfl) (by k_asm) (by k_asm) (by k_inst) (by exact rfl) (by k_is) (by k_is) (by k_is) (by k_is) (by k_get) (by k_put) (by k_upd) (by exact Nat.le_of_ble_eq_true rfl) (by exact rfl) ?_; k_whole); intro zzh' zzF' zzN'; (try k_sweep)) | fail)
  (k_with "spliced" => first | (k_here; (with_reducible show wpAny _ _ (spliced (backTo _ (starEach [] _))) (fun vs s₂ => wpAny _ _ (newTuple _) _ _ s₂) _ _); with_reducible refine' nil_tup (by k_dflt k_asm) (by k_dflt k_asm) (by k_dflt (exact Nat.le_of_ble_eq_true rfl)) ?_; k_whole; intro zzD' zzh' zzF' zzN' zzl1; (try k_lt zzl1); (try k_sweep)) | fail)
  (k_with "spliced" => first | (k_here; (with_reducible show wpAny _ _ (spliced (backTo _ (starEach [] _))) (fun vs s₂ => wpAny _ _ (newList _) _ _ s₂) _ _); with_reducible refine' nil_lst (by k_dflt k_asm) (by k_dflt k_asm) (by k_dflt (exact Nat.le_of_ble_eq_true rfl)) ?_; k_whole; intro zzl' zzh' zzF' zzN' zzl1; (try k_lt zzl1); (try k_sweep)) | fail)
  exact trivial
section
variable {w : World} {loose : List Str} {mean : ExcName → Option Value} {mg mb : Str → Option Value} {news rest : Led}
theorem kw24_1 : True := by
  (k_with "m k_mem" => first | (first | with_reducible assumption | exact mem_via2 (by with_reducible assumption) (by with_reducible assumption)) | fail)
  (k_with "m k_handed" => first | (first | exact KdIs.handed (by assumption) | exact KdIs.handed (Mine.KdF.is_ (by assumption) _) | exact TrIs.handed (by assumption)) | fail)
  (k_with "m pull" => first | (first | exact Pull.here | exact Pull.there (by k_extra "m pull")) | fail)
  exact trivial
theorem one_kd {sa tl : Addr} {so : Obj} {t1 t2 t3 : Tok} {ep : Nat} (hp : Pull sa so news rest) (hne : AllNe sa rest) (hl : (tl, listOf (List.toArray [.str "ref" t1, .str "value" t2, .str "mut" t3]) ep) ∈ rest) (ho : SrcO so) :
    Calls w loose mean mg mb 2 349 [.ref sa, .ref tl] news (fun n' r => ∃ o, (∃ k, KdIs r k) ∧ SrcO o ∧ n' = (sa, o) :: rest) :=
  one_r (fun _ r => ∃ k, KdIs r k) hp hne hl ho (List.forall_mem_cons.mpr ⟨⟨_, .rd⟩, List.forall_mem_cons.mpr ⟨⟨_, .value⟩, List.forall_mem_cons.mpr ⟨⟨_, .wr⟩, List.forall_mem_nil _⟩⟩⟩) (Nat.le_of_ble_eq_true rfl) (Nat.le_of_ble_eq_true rfl)
theorem kw24_2 : True := by
  (k_with "m con" => first | (first | ((with_reducible show Mine.Calls _ _ _ _ _ _ 342 _ _ _); exact take_p (w := w) (by k_extra "m pull") (by k_extra "m ne") (by assumption) (by decide) (by decide)) | ((with_reducible show Mine.Calls _ _ _ _ _ _ 356 _ _ _); first | exact sig_c (w := w) (by assumption) | exact sig_c (w := w) (Mine.KdF.is_ (by assumption) _)) | ((with_reducible show Mine.Calls _ _ _ _ _ _ 295 _ _ _); exact implrow_c (w := w) (by assumption)) | ((with_reducible show Mine.Calls _ _ _ _ _ _ 324 _ _ _); exact wnew_c (w := w)) | ((with_reducible show Mine.Calls _ _ _ _ _ _ 273 _ _ _); exact trrow_c (w := w)) | ((with_reducible show Mine.Calls _ _ _ _ _ _ 349 _ _ _); (rename Mine.Stage _ _ _ _ _ => zzq9); exact one_kd (w := w) (by k_extra "m pull") (by k_extra "m ne") (by k_mem) (by assumption)) | ((with_reducible show Mine.Calls _ _ _ _ _ _ 349 _ _ _); k_extra "m con9")) | fail)
  exact trivial
theorem one_k4 {sa tl : Addr} {so : Obj} {t1 t2 t3 : Tok} {ep : Nat} (hp : Pull sa so news rest) (hne : AllNe sa rest) (hl : (tl, listOf (List.toArray [.str "ref" t1, .str "value" t2, .str "mut" t3, .none]) ep) ∈ rest) (ho : SrcO so) :
    Calls w loose mean mg mb 2 349 [.ref sa, .ref tl] news (fun n' r => ∃ o, (∃ k, KdIs r k) ∧ SrcO o ∧ n' = (sa, o) :: rest) :=
  one_r (fun _ r => ∃ k, KdIs r k) hp hne hl ho (List.forall_mem_cons.mpr ⟨⟨_, .rd⟩, List.forall_mem_cons.mpr ⟨⟨_, .value⟩, List.forall_mem_cons.mpr ⟨⟨_, .wr⟩, List.forall_mem_cons.mpr ⟨⟨_, .non⟩, List.forall_mem_nil _⟩⟩⟩⟩) (Nat.le_of_ble_eq_true rfl) (Nat.le_of_ble_eq_true rfl)
theorem one_t4 {sa tl : Addr} {so : Obj} {t1 t2 : Tok} {ep : Nat} (hp : Pull sa so news rest) (hne : AllNe sa rest) (hl : (tl, listOf (List.toArray [.none, .none, .str "A" t1, .str "B" t2]) ep) ∈ rest) (ho : SrcO so) :
    Calls w loose mean mg mb 2 349 [.ref sa, .ref tl] news (fun n' r => ∃ o, (∃ k, TrIs r k) ∧ SrcO o ∧ n' = (sa, o) :: rest) :=
  one_r (fun _ r => ∃ k, TrIs r k) hp hne hl ho (List.forall_mem_cons.mpr ⟨⟨_, .no⟩, List.forall_mem_cons.mpr ⟨⟨_, .no⟩, List.forall_mem_cons.mpr ⟨⟨_, .a⟩, List.forall_mem_cons.mpr ⟨⟨_, .b⟩, List.forall_mem_nil _⟩⟩⟩⟩) (Nat.le_of_ble_eq_true rfl) (Nat.le_of_ble_eq_true rfl)
theorem one_m6 {sa tl b1 b2 b3 b4 b5 : Addr} {so : Obj} {ep : Nat} (hp : Pull sa so news rest) (hne : AllNe sa rest) (hl : (tl, listOf (List.toArray [.ref b1, .ref b2, .ref b3, .ref b4, .ref b2, .ref b5]) ep) ∈ rest) (ho : SrcO so) :
    Calls w loose mean mg mb 2 349 [.ref sa, .ref tl] news (fun n' r => ∃ o, (∃ b, r = .ref b ∧ .ref b ∈ ([.ref b1, .ref b2, .ref b3, .ref b4, .ref b2, .ref b5] : List Value)) ∧ SrcO o ∧ n' = (sa, o) :: rest) :=
  (one_r (fun _ r => r ∈ ([.ref b1, .ref b2, .ref b3, .ref b4, .ref b2, .ref b5] : List Value)) hp hne hl ho (fun _ h => h) (Nat.le_of_ble_eq_true rfl) (Nat.le_of_ble_eq_true rfl)).imp fun n r ⟨o, a, b, c⟩ => by
    obtain ⟨x, rfl⟩ := refs_ref (as := [b1, b2, b3, b4, b2, b5]) a
    exact ⟨o, ⟨x, rfl, a⟩, b, c⟩
theorem kw24_3 : True := by
  (k_with "m con9" => first | (first | ((rename Mine.TrIs _ _ => zzq9); exact one_k4 (w := w) (by k_extra "m pull") (by k_extra "m ne") (by k_mem) (by assumption)) | ((rename ((_ : Value) ∈ (_ : List Value)) => zzq9); exact one_t4 (w := w) (by k_extra "m pull") (by k_extra "m ne") (by k_mem) (by assumption)) | exact one_m6 (w := w) (by k_extra "m pull") (by k_extra "m ne") (by k_mem) (by assumption)) | fail)
  (k_with "m out" => first | (intro zzn9 zzr9 zzo9; first | (obtain ⟨zzo9, ⟨zzy9, zze1, zzq1⟩, zzq4, zze2⟩ := zzo9; subst zze1; subst zze2) | (obtain ⟨zzo9, ⟨zzy9, zzq1⟩, zzq4, zze2⟩ := zzo9; subst zze2) | (obtain ⟨zzx9, zzdx9, zzod9, zze1, zze2, zzq1, zzq2, zzq3⟩ := zzo9; subst zze1; subst zze2; (simp only [AllLt, and_true] at zzq2 zzq3)) | ((have zzo8 : Mine.TRow _ _ _ _ _ _ _ _ _ := zzo9); clear zzo9; rcases zzo8 with @⟨zzx9, zzdx9, zzs1, zzs2, zzs3, zzs4, zzq1, zzq2, zzq3⟩; (simp only [AllLt, and_true] at zzq1 zzq3)) | ((have zzo8 : Mine.WNew _ _ _ _ := zzo9); clear zzo9; rcases zzo8 with @⟨zzx9, zzdx9, zzsg9, zztr9, zzim9, zzso9, zzto9, zzod8, zzt1, zzt2, zzt3, zzt4, zzt5, zzt6, zzt7, zzt8, zzv1, zzv2, zzv3, zzv7, zzv8, zzg1, zzg2, zzg3, zzg4, zzq1, zzq2, zzq3, zzq4, zzq5, zzq6, zzq7, zzq8, zzq9, zzq0⟩; (simp only [AllLt, and_true] at zzq1 zzq2 zzq4 zzq6 zzq8)) | ((have zzo8 : Mine.RowOut _ _ _ _ _ _ _ _ _ _ _ _ := zzo9); clear zzo9; rcases zzo8 with @⟨zzx9, zzdx9, zzs1, zzs2, zzs3, zzs4, zzs5, zzs6, zzs7, zzs8, zzsp, zzq1, zzq2, zzq3⟩; (simp only [AllLt, and_true] at zzq1 zzq3)) | (obtain ⟨zzd9, zzt9, zzo9, zze1, zzq1, zzq2, zzq3, zze2⟩ := zzo9; subst zze1; subst zze2; obtain ⟨zzk9, zze3⟩ := Int.eq_ofNat_of_zero_le zzq1; subst zze3)) | fail)
  (k_with "call type:range" => first | (k_here; (with_reducible show wpAny _ _ (call (Value.type "range") [Value.int _ _]) (fun xv s₁ => wpAny _ _ (pyIter xv) (fun it s₂ => TurnsAt _ _ _ _ _ _ _ _ _ it s₂) _ s₁) _ _); k_dflt (refine' rng_for (by exact rfl) (by k_asm) (by k_asm) (by omega) ?_; k_whole); intro zzi' zzl1; (try k_lt zzl1)) | fail)
  (k_with "subscriptTail" => first | (k_here; (with_reducible show wpAny _ _ (subscriptTail _ _ (Value.ref _) (Value.str _ _)) _ _ _); k_dflt (refine' kda_item (knd := PySem.strKind _ _) (by k_asm) (by k_mem) (by k_asm) (strKind_is _ _ _ _) (by first | assumption | exact valueAt_snoc (by assumption) | exact KdF.at_ (by assumption) _ | exact rfl) ?_ (by with_unfolding_all rfl) (by intro zzr; with_unfolding_all rfl); k_whole); (try dsimp only)) | fail)
  (k_with "subscriptTail Name Name ref str" => first | (k_here; (with_reducible show wpAny _ _ (subscriptTail _ _ (Value.ref _) (Value.str _ _)) _ _ _); k_dflt (refine' kda_item (knd := PySem.strKind _ _) (by k_asm) (by k_mem) (by k_asm) (strKind_is _ _ _ _) (by first | assumption | exact valueAt_snoc (by assumption) | exact KdF.at_ (by assumption) _ | exact rfl) ?_ (by with_unfolding_all rfl) (by intro zzr; with_unfolding_all rfl); k_whole); (try dsimp only)) | fail)
  (k_with "subscriptTail Name ref str" => first | (k_here; (with_reducible show wpAny _ _ (subscriptTail _ _ (Value.ref _) (Value.str _ _)) _ _ _); k_dflt (refine' kda_item (knd := PySem.strKind _ _) (by k_asm) (by k_mem) (by k_asm) (strKind_is _ _ _ _) (by first | assumption | exact valueAt_snoc (by assumption) | exact KdF.at_ (by assumption) _ | exact rfl) ?_ (by with_unfolding_all rfl) (by intro zzr; with_unfolding_all rfl); k_whole); (try dsimp only)) | fail)
  (k_with "setItem ref str" => first | (k_here; (with_reducible show wpAny _ _ (setItem (Value.ref _) (Value.str _ _) _) _ _ _); k_dflt (refine' set_sd (by k_asm) (by k_asm) (by k_updF) (by first | with_reducible assumption | exact sd_empty | k_asm) (by first | exact Nat.le_of_ble_eq_true rfl | omega) (by first | exact stored_nil | exact stored_one (by decide) | exact stored_new (by assumption)) ?_; k_whole); intro zzh' zzo' zzF' zzN' zzhd'; (try dsimp only at zzN'); (try k_sweep)) | fail)
  (k_with "pyIter ref" => first | (k_here; (with_reducible show wpAny _ _ (pyIter (Value.ref _)) (fun it s₂ => TurnsAt _ _ _ _ _ _ _ _ _ it s₂) _ _); k_dflt (refine' lst_src (vs := [_, _]) (by exact rfl) (by k_asm) (by k_asm) (by k_mem) ?_; k_whole); intro zzi' zzl1; (try k_lt zzl1); intro zzxs' zzex') | fail)
  (k_with "eval IfExp" => first | (k_here; (with_reducible show wpAny _ _ (eval (PySem.Expr.IfExp _ _ _ _) _) _ _ _); (fail_if_success (have zzzw9 : Mine.Wait True := by with_reducible assumption)); refine Wait.get ?_) | fail)
  (k_with "m ne7" => first | (first | exact List.forall_mem_nil _ | (refine List.forall_mem_cons.mpr ⟨by k_extra "m ne", ?_⟩; k_extra "m ne7")) | fail)
  (k_with "binaryOp Add ref ref" => first | (k_here; (with_reducible show wpAny _ _ (binaryOp _ (Value.ref _) (Value.ref _)) _ _ _); k_dflt (refine' lst_add (xs := [_, _, _, _]) (ys := [_, _]) (by k_asm) (by k_asm) (by k_mem) (by k_mem) (by exact Nat.le_of_ble_eq_true rfl) ?_; k_whole); intro zzD' zzh' zzF' zzN' zzl1; (try dsimp only [List.cons_append, List.nil_append] at zzN'); (try k_lt zzl1)) | fail)
  (k_with "subscriptTail Name Constant ref int" => first | (k_here; (with_reducible show wpAny _ _ (subscriptTail _ _ (Value.ref _) (Value.int _ _)) _ _ _); k_dflt (refine' lst_item (l := [_, _, _, _]) (by k_asm) (by k_mem) (by decide) (by decide) (by exact rfl) (by exact rfl) ?_ (by with_unfolding_all rfl); k_whole)) | fail)
  (k_with "call type:str" => first | (k_here; (with_reducible show wpAny _ _ (call (Value.type "str") [Value.int _ _]) _ _ _); k_dflt (refine' PySem.Calls.str_of_int (Mine.small_log (by assumption)) ?_; k_whole)) | fail)
  (k_with "call builtin:list.append" => first | (k_here; (with_reducible show wpAny _ _ (call (Value.builtin _) [Value.ref _, _]) _ _ _); k_dflt (refine' append_K (by k_asm) (by k_asm) (by k_upd) ?_ (by first | size_fits | (simp only [List.size_toArray]; rw [sizeLine_eq]; omega)); k_whole); intro zzh' zzF' zzN'; (try dsimp only at zzN'); (try rw [List.push_toArray] at zzN'); (try k_sweep)) | fail)
  (k_with "m mm" => first | (first | (with_reducible apply mem_hd) | ((with_reducible apply mem_tl); k_extra "m mm")) | fail)
  exact trivial
theorem mem_eq {l : Led} {a : Addr} {o o' : Obj} (e : o = o') (m : (a, o) ∈ l) : (a, o') ∈ l := e ▸ m
set_option maxHeartbeats 12000000 in
theorem world_c {sa : Addr} {so : Obj} (hp : Pull sa so news rest) (hne : AllNe sa rest) (ho : SrcO so) :
    Calls w loose mean mg mb 5 363 [.ref sa] news (WOut w sa rest) := by
  refine Calls.of ?_
  k_fill
  intro dp un gd cn cs a' ccd cl outer A₀ base h₀ L m' shh sgg sdd skk soo Q E B F X N T hk hd hu hret
  replace N := newsSub N (List.forall_mem_cons.mpr ⟨hp.mem, hp.sub⟩)
  clear hp
  refine wpAny_call ?_
  k_dflt ktr_enter
  refine let_ae ?_
  intro nk ak Q0 hQ0
  (rename Fr _ _ _ _ => F1)
  replace F1 : Fr _ _ _ (fun y => List.lookup y [(("source" : Str), _)]) := F1
  k_steps
  have zzB' := trivial; have zzD' := trivial; have zzF' := trivial; have zzF9 := trivial; have zzG' := trivial; have zzG9 := trivial; have zzN' := trivial; have zzN9 := trivial; have zzZ' := trivial; have zza7 := trivial; have zza8 := trivial; have zzb' := trivial; have zzd9 := trivial; have zzdx9 := trivial; have zze' := trivial; have zze1 := trivial; have zze2 := trivial; have zze3 := trivial; have zze7 := trivial; have zze8 := trivial; have zze9 := trivial; have zzep' := trivial; have zzex' := trivial; have zzg' := trivial; have zzg1 := trivial; have zzg2 := trivial; have zzg3 := trivial; have zzg4 := trivial; have zzh' := trivial; have zzh9 := trivial; have zzhG' := trivial; have zzhG9 := trivial; have zzhcl9 := trivial; have zzhd' := trivial; have zzhrl9 := trivial; have zzi' := trivial; have zzim9 := trivial; have zzk9 := trivial; have zzl' := trivial; have zzl1 := trivial; have zzl1' := trivial; have zzl9 := trivial; have zzlF' := trivial; have zzm7 := trivial; have zzm8 := trivial; have zzm9 := trivial; have zzn7 := trivial; have zzn8 := trivial; have zzn9 := trivial; have zznN' := trivial; have zzo' := trivial; have zzo8 := trivial; have zzo9 := trivial; have zzod8 := trivial; have zzod9 := trivial; have zzp9 := trivial; have zzq' := trivial; have zzq0 := trivial; have zzq1 := trivial; have zzq2 := trivial; have zzq3 := trivial; have zzq4 := trivial; have zzq5 := trivial; have zzq6 := trivial; have zzq7 := trivial; have zzq8 := trivial; have zzq9 := trivial; have zzr := trivial; have zzr7 := trivial; have zzr8 := trivial; have zzr9 := trivial; have zzs1 := trivial; have zzs2 := trivial; have zzs3 := trivial; have zzs4 := trivial; have zzs5 := trivial; have zzs6 := trivial; have zzs7 := trivial; have zzs8 := trivial; have zzsg9 := trivial; have zzso9 := trivial; have zzsp := trivial; have zzt1 := trivial; have zzt2 := trivial; have zzt3 := trivial; have zzt4 := trivial; have zzt5 := trivial; have zzt6 := trivial; have zzt7 := trivial; have zzt8 := trivial; have zzt9 := trivial; have zztk' := trivial; have zztk9 := trivial; have zzto9 := trivial; have zztr9 := trivial; have zzv1 := trivial; have zzv2 := trivial; have zzv3 := trivial; have zzv7 := trivial; have zzv8 := trivial; have zzvs' := trivial; have zzx9 := trivial; have zzxs' := trivial; have zzy9 := trivial; have zzzw9 := trivial
  rename_i _ L1 _ _ B1 X1 T1 _ _ _ _ _ x wd d4 d3 im o4 o3 od8 t1 t2 t3 t4 t5 t6 t7 t8 v1 v2 v3 v7 v8 lo4 hs4 lo3 hs3 wq1 wq2 wq3 wq4 wq5 wq6 wq7 wq8 wq9 hod _ _ rl _ lrl D _ lD _ _ _ _ _ _ kd _ ko loK hsK fsK hiK fiK lkd _ tk0 _ _ X9 _ F0 N0 lX9 I lI xs ex
  subst ex
  have wl1 := Nat.lt_trans wq3 wq5
  have wl2 := Nat.lt_trans wl1 wq7
  have wl3 := Nat.lt_trans wl2 wq9
  have wl4 := Nat.lt_trans wq5 wq7
  have wl5 := Nat.lt_trans wl4 wq9
  have wl6 := Nat.lt_trans wq7 wq9
  clear hiK fiK fsK
  refine items_sub (news' := (sa, so) :: (kd, ko) :: (d3, o3) :: ([(d4, o4), (im, _), (rl, _)] ++ ((X9, _) :: (x, _) :: (wd, _) :: rest))) (by simp only [List.cons_append, List.nil_append]; k_extra "m subs") ?_
  have hN7 : Ne7 (I :: sa :: kd :: d3 :: [(d4, o4), (im, listOf #[] 0), (rl, listOf #[] 0)].map (fun p : Addr × Obj => p.1)) ((X9, listOf (List.toArray [Value.str "A" tk0, Value.str "B" (tk0 + 1)]) 0) :: (x, instObj 324 wd) :: (wd, od8) :: rest) := by
    show ∀ a ∈ [I, sa, kd, d3, d4, im, rl], AllNe a _
    k_extra "m ne7"
  refine traits_loop (E3 := [(d4, o4), (im, _), (rl, _)]) ho hsK hs3 hN7 ?_ ?_
  · intro tr tt r o ko to kvs tes nf u h tk oI mk q1 q2 q3 q4 q5 q6 F9 N9
    simp only [List.cons_append, List.nil_append] at N9
    have e1 : AllNe I nf := q6 _ (.head _)
    have e2 : AllNe sa nf := q6 _ (.tail _ (.head _))
    have e3 : AllNe kd nf := q6 _ (.tail _ (.tail _ (.head _)))
    have e4 : AllNe d3 nf := q6 _ (.tail _ (.tail _ (.tail _ (.head _))))
    have e5 : AllNe d4 nf := q6 _ (.tail _ (.tail _ (.tail _ (.tail _ (.head _)))))
    have e6 : AllNe im nf := q6 _ (.tail _ (.tail _ (.tail _ (.tail _ (.tail _ (.head _))))))
    have e7 : AllNe rl nf := q6 _ (.tail _ (.tail _ (.tail _ (.tail _ (.tail _ (.tail _ (.head _)))))))
    have m1 := q5 _ (.tail _ (.head _))
    have m2 := mem_eq hod (q5 _ (.tail _ (.tail _ (.head _))))
    obtain ⟨p1, p2, p3, p4⟩ := q1.new
    have hlen : tr.nm.length ≤ 8 := by cases tr <;> decide
    refine hideB fun G8 hG8 => ?_
    k_steps
    have zzB' := trivial; have zzD' := trivial; have zzF' := trivial; have zzF9 := trivial; have zzG' := trivial; have zzG9 := trivial; have zzN' := trivial; have zzN9 := trivial; have zzZ' := trivial; have zza7 := trivial; have zza8 := trivial; have zzb' := trivial; have zzd9 := trivial; have zzdx9 := trivial; have zze' := trivial; have zze1 := trivial; have zze2 := trivial; have zze3 := trivial; have zze7 := trivial; have zze8 := trivial; have zze9 := trivial; have zzep' := trivial; have zzex' := trivial; have zzg' := trivial; have zzg1 := trivial; have zzg2 := trivial; have zzg3 := trivial; have zzg4 := trivial; have zzh' := trivial; have zzh9 := trivial; have zzhG' := trivial; have zzhG9 := trivial; have zzhcl9 := trivial; have zzhd' := trivial; have zzhrl9 := trivial; have zzi' := trivial; have zzim9 := trivial; have zzk9 := trivial; have zzl' := trivial; have zzl1 := trivial; have zzl1' := trivial; have zzl9 := trivial; have zzlF' := trivial; have zzm7 := trivial; have zzm8 := trivial; have zzm9 := trivial; have zzn7 := trivial; have zzn8 := trivial; have zzn9 := trivial; have zznN' := trivial; have zzo' := trivial; have zzo8 := trivial; have zzo9 := trivial; have zzod8 := trivial; have zzod9 := trivial; have zzp9 := trivial; have zzq' := trivial; have zzq0 := trivial; have zzq1 := trivial; have zzq2 := trivial; have zzq3 := trivial; have zzq4 := trivial; have zzq5 := trivial; have zzq6 := trivial; have zzq7 := trivial; have zzq8 := trivial; have zzq9 := trivial; have zzr := trivial; have zzr7 := trivial; have zzr8 := trivial; have zzr9 := trivial; have zzs1 := trivial; have zzs2 := trivial; have zzs3 := trivial; have zzs4 := trivial; have zzs5 := trivial; have zzs6 := trivial; have zzs7 := trivial; have zzs8 := trivial; have zzsg9 := trivial; have zzso9 := trivial; have zzsp := trivial; have zzt1 := trivial; have zzt2 := trivial; have zzt3 := trivial; have zzt4 := trivial; have zzt5 := trivial; have zzt6 := trivial; have zzt7 := trivial; have zzt8 := trivial; have zzt9 := trivial; have zztk' := trivial; have zztk9 := trivial; have zzto9 := trivial; have zztr9 := trivial; have zzv1 := trivial; have zzv2 := trivial; have zzv3 := trivial; have zzv7 := trivial; have zzv8 := trivial; have zzvs' := trivial; have zzx9 := trivial; have zzxs' := trivial; have zzy9 := trivial; have zzzw9 := trivial
    rename_i r9 o9 y9 hKd hSrc h9a tk9a h11 ko' hdK tk6 _ _ D10 h10 l13 md h9b mo0 loM0 hdM0 l12 t9 k9 a9 _ _ sx sdx sod hSig g2 g3 h9c tk9c h8 mo hdM dd h7 oo lod hsd fsd hid fid l11 _ _ xt dt _ _ _ _ lq1 lq2 lq3 h6 tk5 h0x to' F0x N0x hdT tk0x
    clear fsd hid fid hsd
    refine unrEnd1 (news := (sa, o9) :: (kd, ko') :: (d3, to') :: ([(d4, o4), (im, _), (rl, _)] ++ ((xt, instObj 273 dt) :: (dt, _) :: (md, mo) :: (sx, instObj 252 sdx) :: (sdx, sod) :: nf))) F0x N0x (by simp only [List.cons_append, List.nil_append]; k_extra "m subs") (by simp only [List.cons_append, List.nil_append]; k_extra "m ne") ⟨⟨?_, trivial⟩, .mk hSrc hdK hdT ((q1.mono (fun p hp => .tail _ (.tail _ (.tail _ (.tail _ (.tail _ hp)))))).step hKd (.mk (.head _) (.tail _ (.head _)) (.tail _ (.tail _ (.head _))) hdM loM0 (hSig.mono (List.forall_mem_cons.mpr ⟨.tail _ (.tail _ (.tail _ (.head _))), List.forall_mem_cons.mpr ⟨.tail _ (.tail _ (.tail _ (.tail _ (.head _)))), List.forall_mem_nil _⟩⟩)))) (fun p hp => .tail _ (.tail _ (.tail _ (.tail _ (.tail _ (q5 p hp)))))) ?_ (by k_extra "m agr")⟩
    · exact .tail _ (.tail _ (.tail _ (.tail _ (.tail _ (.tail _ (.tail _ (.tail _ (.tail _ (.tail _ (.tail _ (q5 _ (.head _))))))))))))
    · show ∀ a ∈ [I, sa, kd, d3, d4, im, rl], AllNe a _
      k_extra "m ne7"
  · intro o ko to nf u h tk vA kA xA vB kB xB q1 q2 q3 q4 q5 q6 q7 q8 q9 F9 N9
    simp only [List.cons_append, List.nil_append] at N9
    have e1 : AllNe I nf := q9 _ (.head _)
    have e2 : AllNe sa nf := q9 _ (.tail _ (.head _))
    have e3 : AllNe kd nf := q9 _ (.tail _ (.tail _ (.head _)))
    have e4 : AllNe d3 nf := q9 _ (.tail _ (.tail _ (.tail _ (.head _))))
    have e5 : AllNe d4 nf := q9 _ (.tail _ (.tail _ (.tail _ (.tail _ (.head _)))))
    have e6 : AllNe im nf := q9 _ (.tail _ (.tail _ (.tail _ (.tail _ (.tail _ (.head _))))))
    have e7 : AllNe rl nf := q9 _ (.tail _ (.tail _ (.tail _ (.tail _ (.tail _ (.tail _ (.head _)))))))
    k_steps
    have zzB' := trivial; have zzD' := trivial; have zzF' := trivial; have zzF9 := trivial; have zzG' := trivial; have zzG9 := trivial; have zzN' := trivial; have zzN9 := trivial; have zzZ' := trivial; have zza7 := trivial; have zza8 := trivial; have zzb' := trivial; have zzd9 := trivial; have zzdx9 := trivial; have zze' := trivial; have zze1 := trivial; have zze2 := trivial; have zze3 := trivial; have zze7 := trivial; have zze8 := trivial; have zze9 := trivial; have zzep' := trivial; have zzex' := trivial; have zzg' := trivial; have zzg1 := trivial; have zzg2 := trivial; have zzg3 := trivial; have zzg4 := trivial; have zzh' := trivial; have zzh9 := trivial; have zzhG' := trivial; have zzhG9 := trivial; have zzhcl9 := trivial; have zzhd' := trivial; have zzhrl9 := trivial; have zzi' := trivial; have zzim9 := trivial; have zzk9 := trivial; have zzl' := trivial; have zzl1 := trivial; have zzl1' := trivial; have zzl9 := trivial; have zzlF' := trivial; have zzm7 := trivial; have zzm8 := trivial; have zzm9 := trivial; have zzn7 := trivial; have zzn8 := trivial; have zzn9 := trivial; have zznN' := trivial; have zzo' := trivial; have zzo8 := trivial; have zzo9 := trivial; have zzod8 := trivial; have zzod9 := trivial; have zzp9 := trivial; have zzq' := trivial; have zzq0 := trivial; have zzq1 := trivial; have zzq2 := trivial; have zzq3 := trivial; have zzq4 := trivial; have zzq5 := trivial; have zzq6 := trivial; have zzq7 := trivial; have zzq8 := trivial; have zzq9 := trivial; have zzr := trivial; have zzr7 := trivial; have zzr8 := trivial; have zzr9 := trivial; have zzs1 := trivial; have zzs2 := trivial; have zzs3 := trivial; have zzs4 := trivial; have zzs5 := trivial; have zzs6 := trivial; have zzs7 := trivial; have zzs8 := trivial; have zzsg9 := trivial; have zzso9 := trivial; have zzsp := trivial; have zzt1 := trivial; have zzt2 := trivial; have zzt3 := trivial; have zzt4 := trivial; have zzt5 := trivial; have zzt6 := trivial; have zzt7 := trivial; have zzt8 := trivial; have zzt9 := trivial; have zztk' := trivial; have zztk9 := trivial; have zzto9 := trivial; have zztr9 := trivial; have zzv1 := trivial; have zzv2 := trivial; have zzv3 := trivial; have zzv7 := trivial; have zzv8 := trivial; have zzvs' := trivial; have zzx9 := trivial; have zzxs' := trivial; have zzy9 := trivial; have zzzw9 := trivial
    rename_i D5 h8 l17 D4 h7 l16 D3 h6 Fz Nz l15 h5 tkb _ _ D2 h4 l14 D1 h3 l13 D0 h2 l12 ol h1 l11 h0b tkc _ _ _ _ t9d o9 hSrc k9 r1 r2 h9d tk9d F9d N9d I2 lI2
    refine items_sub (news' := (sa, o9) :: (d4, o4) :: (im, _) :: (rl, _) :: ((ol, _) :: (D0, _) :: (D1, _) :: (D2, _) :: (D3, _) :: (D4, _) :: (D5, _) :: (kd, ko) :: (d3, to) :: nf)) (by k_extra "m subs") ?_
    refine imps_loop (NS := ["number", "told", "trait", "path", "self_kind"]) (ks := fun t => match t with | .A => kA | .B => kB) hSrc hs4 (by (show ∀ a ∈ [I2, sa, d4, im, rl], AllNe a _); k_extra "m ne7") (by omega) ?_ ?_
    · intro a r o so es vs ep rvs rep imps nf2 u h tk oI t mk ha3 hW hSo hnf hN7 F9 N9 fin
      have e1 : AllNe I2 nf2 := hN7 _ (.head _)
      have e2 : AllNe sa nf2 := hN7 _ (.tail _ (.head _))
      have e3 : AllNe d4 nf2 := hN7 _ (.tail _ (.tail _ (.head _)))
      have e4 : AllNe im nf2 := hN7 _ (.tail _ (.tail _ (.tail _ (.head _))))
      have e5 : AllNe rl nf2 := hN7 _ (.tail _ (.tail _ (.tail _ (.tail _ (.head _)))))
      have mo1 := hnf _ (.head _)
      have mo2 := hnf _ (.tail _ (.head _))
      have mo3 := hnf _ (.tail _ (.tail _ (.head _)))
      have mo4 := hnf _ (.tail _ (.tail _ (.tail _ (.head _))))
      have mo5 := hnf _ (.tail _ (.tail _ (.tail _ (.tail _ (.head _)))))
      have mo6 := hnf _ (.tail _ (.tail _ (.tail _ (.tail _ (.tail _ (.head _))))))
      have mo7 := hnf _ (.tail _ (.tail _ (.tail _ (.tail _ (.tail _ (.tail _ (.head _)))))))
      have mo8 := hnf _ (.tail _ (.tail _ (.tail _ (.tail _ (.tail _ (.tail _ (.tail _ (.head _))))))))
      have hq : ∀ p ∈ nf, p ∈ nf2 := fun p hp => hnf p (.tail _ (.tail _ (.tail _ (.tail _ (.tail _ (.tail _ (.tail _ (.tail _ (.tail _ hp)))))))))
      have m1 := hq _ (q8 _ (.tail _ (.head _)))
      have m2 := mem_eq hod (hq _ (q8 _ (.tail _ (.tail _ (.head _)))))
      have y1 : TyIn nf2 (.ref D2) .int := .int mo4
      have y2 : TyIn nf2 (.ref D3) .adt := .adt mo5 mo7 mo6
      have y3 : TyIn nf2 (.ref D1) (.box .adt) := .box mo3 y2
      have y4 : TyIn nf2 (.ref D0) (.ref false .adt) := .ref mo2 y2
      obtain ⟨fv, hkf⟩ : ∃ fv, KdF ([("A", vA), ("B", vB)] : List (Str × Value)) fv (fun t => match t with | .A => kA | .B => kB) := ⟨fun t => match t with | .A => vA | .B => vB, ⟨fun t => by cases t <;> rfl, fun t => by cases t <;> assumption⟩⟩
      have hnew := hW.new a (Nat.le_refl _) (Nat.le_trans ha3 (by decide))
      have hvl : vs.length ≤ 4 := Nat.le_trans (Nat.le_of_eq (hW.ins.length.trans hW.len)) (Nat.le_succ_of_le ha3)
      have hrl : rvs.length ≤ 4 := Nat.le_trans (Nat.le_of_eq (hW.rows.length.trans hW.len)) (Nat.le_succ_of_le ha3)
      have hel : es.length ≤ 4 := Nat.le_trans hW.el (Nat.le_succ_of_le ha3)
      have ha8 : a ≤ 8 := Nat.le_trans ha3 (by decide)
      have hsd := hW.sd
      refine hideB fun G8 hG8 => ?_
      k_steps
      refine Wait.mk ?_
      rename Mine.TrIs _ _ => hT1
      have zzB' := trivial; have zzD' := trivial; have zzF' := trivial; have zzF9 := trivial; have zzG' := trivial; have zzG9 := trivial; have zzN' := trivial; have zzN9 := trivial; have zzZ' := trivial; have zza7 := trivial; have zza8 := trivial; have zzb' := trivial; have zzd9 := trivial; have zzdx9 := trivial; have zze' := trivial; have zze1 := trivial; have zze2 := trivial; have zze3 := trivial; have zze7 := trivial; have zze8 := trivial; have zze9 := trivial; have zzep' := trivial; have zzex' := trivial; have zzg' := trivial; have zzg1 := trivial; have zzg2 := trivial; have zzg3 := trivial; have zzg4 := trivial; have zzh' := trivial; have zzh9 := trivial; have zzhG' := trivial; have zzhG9 := trivial; have zzhcl9 := trivial; have zzhd' := trivial; have zzhrl9 := trivial; have zzi' := trivial; have zzim9 := trivial; have zzk9 := trivial; have zzl' := trivial; have zzl1 := trivial; have zzl1' := trivial; have zzl9 := trivial; have zzlF' := trivial; have zzm7 := trivial; have zzm8 := trivial; have zzm9 := trivial; have zzn7 := trivial; have zzn8 := trivial; have zzn9 := trivial; have zznN' := trivial; have zzo' := trivial; have zzo8 := trivial; have zzo9 := trivial; have zzod8 := trivial; have zzod9 := trivial; have zzp9 := trivial; have zzq' := trivial; have zzq0 := trivial; have zzq1 := trivial; have zzq2 := trivial; have zzq3 := trivial; have zzq4 := trivial; have zzq5 := trivial; have zzq6 := trivial; have zzq7 := trivial; have zzq8 := trivial; have zzq9 := trivial; have zzr := trivial; have zzr7 := trivial; have zzr8 := trivial; have zzr9 := trivial; have zzs1 := trivial; have zzs2 := trivial; have zzs3 := trivial; have zzs4 := trivial; have zzs5 := trivial; have zzs6 := trivial; have zzs7 := trivial; have zzs8 := trivial; have zzsg9 := trivial; have zzso9 := trivial; have zzsp := trivial; have zzt1 := trivial; have zzt2 := trivial; have zzt3 := trivial; have zzt4 := trivial; have zzt5 := trivial; have zzt6 := trivial; have zzt7 := trivial; have zzt8 := trivial; have zzt9 := trivial; have zztk' := trivial; have zztk9 := trivial; have zzto9 := trivial; have zztr9 := trivial; have zzv1 := trivial; have zzv2 := trivial; have zzv3 := trivial; have zzv7 := trivial; have zzv8 := trivial; have zzvs' := trivial; have zzx9 := trivial; have zzxs' := trivial; have zzy9 := trivial; have zzzw9 := trivial
      rename_i _ _ _ _ Dn _ lDn L1 _ lL1 Dl _ lDl _ _ _ bt hbt so1 _ _ _ _ _ _ L2 _ lL2 _ _ trv so0 trk hSo0 _ _ t2 k2 a2 t1 k1 a1 Dp _ lDp _ _ _ Fj Nj _ _ _
      refine join_k (so := so0) (rest := (Dn, _) :: (I2, oI) :: (d4, so) :: (im, _) :: (rl, _) :: nf2) (ks := fun t => match t with | .A => kA | .B => kB) hT1 Fj Nj (by k_extra "m subs") ?_ ?_
      · clear Nj
        intro G9 zw N9 hG9
        refine hide fun hG7 => ?_
        rcases hT1.split with ⟨e3, e4⟩ | ⟨p3, t3, e3, e4⟩
        · subst e4
          subst e3
          refine hG7 ?_
          k_steps
          exact hG9 _ _ _ _ (.mk (by assumption) (by assumption) (fun _ e => nomatch e)) (by k_asm) (newsSub (by k_asm) (List.forall_mem_cons.mpr ⟨.head _, fun p hp => .tail _ (.tail _ hp)⟩))
        · subst e4
          subst e3
          refine hG7 ?_
          k_steps
          exact hG9 _ _ _ _ (.mk hSo0 (hkf.is_ p3) (fun _ e => by cases e; rfl)) (by k_asm) (by k_asm)
      · clear Nj lL1 lDl lL2 lDp
        intro sk o9 h9 tk9 q9 F9 N9
        refine hide fun hG7 => ?_
        cases q9 with
        | mk so2 hkk hkt =>
        refine hG7 ?_
        clear hG7
        k_steps
        have zzB' := trivial; have zzD' := trivial; have zzF' := trivial; have zzF9 := trivial; have zzG' := trivial; have zzG9 := trivial; have zzN' := trivial; have zzN9 := trivial; have zzZ' := trivial; have zza7 := trivial; have zza8 := trivial; have zzb' := trivial; have zzd9 := trivial; have zzdx9 := trivial; have zze' := trivial; have zze1 := trivial; have zze2 := trivial; have zze3 := trivial; have zze7 := trivial; have zze8 := trivial; have zze9 := trivial; have zzep' := trivial; have zzex' := trivial; have zzg' := trivial; have zzg1 := trivial; have zzg2 := trivial; have zzg3 := trivial; have zzg4 := trivial; have zzh' := trivial; have zzh9 := trivial; have zzhG' := trivial; have zzhG9 := trivial; have zzhcl9 := trivial; have zzhd' := trivial; have zzhrl9 := trivial; have zzi' := trivial; have zzim9 := trivial; have zzk9 := trivial; have zzl' := trivial; have zzl1 := trivial; have zzl1' := trivial; have zzl9 := trivial; have zzlF' := trivial; have zzm7 := trivial; have zzm8 := trivial; have zzm9 := trivial; have zzn7 := trivial; have zzn8 := trivial; have zzn9 := trivial; have zznN' := trivial; have zzo' := trivial; have zzo8 := trivial; have zzo9 := trivial; have zzod8 := trivial; have zzod9 := trivial; have zzp9 := trivial; have zzq' := trivial; have zzq0 := trivial; have zzq1 := trivial; have zzq2 := trivial; have zzq3 := trivial; have zzq4 := trivial; have zzq5 := trivial; have zzq6 := trivial; have zzq7 := trivial; have zzq8 := trivial; have zzq9 := trivial; have zzr := trivial; have zzr7 := trivial; have zzr8 := trivial; have zzr9 := trivial; have zzs1 := trivial; have zzs2 := trivial; have zzs3 := trivial; have zzs4 := trivial; have zzs5 := trivial; have zzs6 := trivial; have zzs7 := trivial; have zzs8 := trivial; have zzsg9 := trivial; have zzso9 := trivial; have zzsp := trivial; have zzt1 := trivial; have zzt2 := trivial; have zzt3 := trivial; have zzt4 := trivial; have zzt5 := trivial; have zzt6 := trivial; have zzt7 := trivial; have zzt8 := trivial; have zzt9 := trivial; have zztk' := trivial; have zztk9 := trivial; have zzto9 := trivial; have zztr9 := trivial; have zzv1 := trivial; have zzv2 := trivial; have zzv3 := trivial; have zzv7 := trivial; have zzv8 := trivial; have zzvs' := trivial; have zzx9 := trivial; have zzxs' := trivial; have zzy9 := trivial; have zzzw9 := trivial
        rename_i kk _ _ _ _ _ _ xs xd od hsig q2a q3a _ _ _ sgo' hsg' _ _ _ Dq _ l4 lp _ l3 Dr h4 l2 h3 md lo hmd hf ap l1 _ _ xi xid s1 s2 s3 s4 s5 s6 s7 s8 sp q1b q2b q3b _ _ _ _ _ _ Dt _ l0 _ Ff Nf tk0
        have hmd' : SD w md [("go", .str (pathOf a) t1)] := hmd
        have hsg2 : SD w sgo' (es ++ [(pathOf a, Value.ref xs)]) := hsg'
        refine' turn_end (Dn := Dn) (Dt := Dt) (xi := xi) (xid := xid) (md := h4.objs.size) (lp := lp) (Dr := Dr) (xs := xs) (xd := xd) fin hW ha3 hnf Ff Nf ?pI ?p1 ?p2 ?p3 ?p4 ?hs y1 y2 y3 y4 ?hDn hbt ?hDt ?hxi ?hxid ?hps ?hta ?hmd hmd' lo ?hx1 ?hx2 hsig hkk hT1 hkt hsg2 hnew so2 ?ne lI2.1 lI2.2.2.2.2.2.2.2.2.2.2.1 lI2.2.2.2.2.2.2.2.2.2.2.2.1 lI2.2.2.2.2.2.2.2.2.2.2.2.2.1 ?hag
        (case pI => k_extra "m pull")
        (case p1 => k_extra "m pull")
        (case p2 => k_extra "m pull")
        (case p3 => k_extra "m pull")
        (case p4 => k_extra "m pull")
        (case hs => k_extra "m subs")
        (case hDn => k_extra "m mm")
        (case hDt => k_extra "m mm")
        (case hxi => k_extra "m mm")
        (case hxid => k_extra "m mm")
        (case hps => k_extra "m mm")
        (case hta => k_extra "m mm")
        (case hmd => k_extra "m mm")
        (case hx1 => k_extra "m mm")
        (case hx2 => k_extra "m mm")
        (case hag => k_extra "m agr")
        (case ne => exact (Dsc.ne ((((((((((Dsc.start (as := [I2, sa, d4, im, rl]) (List.forall_mem_cons.mpr ⟨lDn.1, List.forall_mem_cons.mpr ⟨lDn.2.1, List.forall_mem_cons.mpr ⟨lDn.2.2.1, List.forall_mem_cons.mpr ⟨lDn.2.2.2.1, List.forall_mem_cons.mpr ⟨lDn.2.2.2.2.1, List.forall_mem_nil _⟩⟩⟩⟩⟩) hN7).step q2a.2.1).step q3a.1).step l4.1).step l3.1).step l2.1).step l1.1).step q1b.1).step q2b).step l0.1)))
    · intro o so es vs ep rvs rep imps nf2 u h tk hW hSo hnf hN7 F9 N9
      have hq : ∀ p ∈ nf, p ∈ nf2 := fun p hp => hnf p (.tail _ (.tail _ (.tail _ (.tail _ (.tail _ (.tail _ (.tail _ (.tail _ (.tail _ hp)))))))))
      have m1' := hq _ (q8 _ (.tail _ (.head _)))
      have m2' := mem_eq hod (hq _ (q8 _ (.tail _ (.tail _ (.head _)))))
      have hrs : ∀ p ∈ rest, p ∈ nf2 := fun p hp => hq _ (q8 _ (.tail _ (.tail _ (.tail _ hp))))
      k_steps
      rename (@LT.lt _ _ sa _ ∧ @LT.lt _ _ d4 _ ∧ _) => lD9
      rename News h₀ L _ _ => kN
      rename Fr h₀ L _ _ => kF
      exact hret _ _ _ _ kF (newsSub kN mem_swap) (world_out (ks := fun t => match t with | .A => kA | .B => kB) hW (by omega) hSo m1' m2' (hnf _ (.tail _ (.tail _ (.tail _ (.tail _ (.tail _ (.tail _ (.tail _ (.tail _ (.head _)))))))))) q3 lo4 lo3 (q6.mono hq) (q7.mono hq) (hN7 _ (.tail _ (.head _))) (Nat.ne_of_gt lD9.1) (Nat.ne_of_gt wq4.1) (Nat.ne_of_gt wq8.1) (Nat.ne_of_gt lrl.2.2.2.2.2.1) hrs)
end
theorem kw26_0 : True := by
  k_with_none
  (k_with "m k_mem" => first | (first | ktr_member | (with_reducible apply mem_hd) | ((with_reducible apply mem_tl); k_mem) | exact mem_via (by assumption) (by assumption)) | fail)
  (k_with "m lt" => first | (first | assumption | (apply PySem.W.allLt_of; assumption) | (apply allLt_tl; assumption) | (apply allLt_tl2; assumption) | with_reducible (k_extra "m pk") | (simp only [AllLt, and_true] at *; first | assumption | omega)) | fail)
  (k_with "m k_all" => first | (first | assumption | (apply ne_of_allNe; k_extra "m ne") | (apply ne_of_allLt; k_extra "m lt")) | fail)
  (k_with "m call" => first | (k_here; k_dflt (refine' Calls.use' (by k_asm) (by k_asm) (by k_asm) (by k_asm) (by k_asm) (by first | exact rfl | assumption) (by k_extra "m con") (by first | omega | (dsimp only [ktrTop]; omega)) (by k_extra "m un") ?_; k_whole); ((intro zzG9 zzhG9; k_dflt (k_extra "m out")) <;> (refine zzhG9 _ _ ?_; intro zzh9 zztk9 zzF9 zzN9; (try k_sweep)))) | fail)
  (k_with "m out" => first | (intro zzn9 zzr9 zzo9; (first | (obtain ⟨zze1, zze2⟩ := zzo9; subst zze1; subst zze2) | (obtain ⟨zze1, zzt9, zze2⟩ := zzo9; subst zze1; subst zze2) | (obtain ⟨zzl9, zze9, zze2, zze1, zzq9⟩ := zzo9; subst zze1; subst zze2; (simp only [AllLt, and_true] at zzq9)) | (obtain ⟨zzl9, zze9, zzp9, zzm9, zzx9, zzy9, zze2, zze1, zzq1, zzq2, zzq3, zzq4⟩ := zzo9; subst zze1; subst zze2; (simp only [AllLt, and_true] at zzq3); obtain ⟨zza8, zzn8, zzt8, zzr8, zze8, zzm8⟩ := Mine.TyIn.head zzq1; subst zze8; obtain ⟨zza7, zzn7, zzt7, zzr7, zze7, zzm7⟩ := Mine.TyIn.head zzq2; subst zze7) | (rcases zzo9 with ⟨zze3, zze1, zzt9, zze2⟩ | ⟨zze3, zze1, zzt9, zze2⟩ <;> (subst zze1; subst zze2)))) | fail)
  (k_with "m un" => first | ((try dsimp +zetaDelta only); (have zzhcl9 := cLine_is); (try simp only [units_in1, units_deeper, Around.mark_units, units_caller]); (try dsimp only [ktrTop]); omega) | fail)
  (k_with "m dp" => first | (first | assumption | (simp only [Ty.dep]; omega) | decide) | fail)
  (k_with "m k_room" => first | ((try dsimp +zetaDelta only); (try simp only [depth_under_make, depth_under_kw, depth_in1, depth_deeper, depth_caller]); (try dsimp only [ktrTop]); have zzhrl9 : recursionLimit = 1000 := rfl; omega) | fail)
  (k_with "m for" => first | (k_here; (rename Fr _ _ _ _ => zzlF'); (with_unfolding_all refine' For_turns zzlF' ?_; k_whole)) | fail)
  (k_with "m pick" => first | (with_reducible (k_extra "m pk")) | fail)
  (k_with "m ne" => first | (first | with_reducible (first | assumption | (apply allNe_of; assumption) | (apply allNe_off; assumption) | (apply allNe_lt; apply PySem.W.allLt_of; assumption)) | ((with_reducible apply allNe_cons); k_ne; k_extra "m ne") | with_reducible (k_extra "m pkq") | (apply allNe_lt; with_reducible (k_extra "m pkq")) | with_reducible (k_extra "m pk") | (apply allNe_lt; with_reducible (k_extra "m pk")) | (apply allNe_off; with_reducible (k_extra "m pk")) | (apply allNe_lt; apply allLt_tl; assumption) | (with_reducible apply allNe_nil)) | fail)
  (k_with "m subh" => first | (with_reducible (apply sub_hd; first | assumption | (apply sub_hd; first | assumption | (apply sub_hd; first | assumption | (apply sub_hd; first | assumption | (apply sub_hd; first | assumption | (apply sub_hd; first | assumption | (apply sub_hd; first | assumption | (apply sub_hd; first | assumption | (apply sub_hd; assumption)))))))))) | fail)
  (k_with "m subs" => first | (first | (with_reducible apply sub_refl) | assumption | ((with_reducible apply subs_cons); k_mem; k_extra "m subs") | ((with_reducible apply sub_tl); k_extra "m subs") | (with_reducible apply List.forall_mem_nil) | k_extra "m subh") | fail)
  (k_with "m agr" => first | (first | assumption | exact agree_over | exact agree_refl | (refine agree_store ?_ (by decide); k_extra "m agr")) | fail)
  (k_with "m sub" => first | (first | assumption | ((with_reducible apply sub_tl); k_extra "m sub") | k_extra "m subh") | fail)
  (k_with "m leave" => first | (k_end; first | ((try dsimp only); (refine' gnext_cons (by with_reducible assumption) ?_); intro zztk' zzG' zzhG'; (try (rename PyProof.Rows.News _ _ _ _ => zznN'; dsimp only at zznN'))) | (refine gnext (by with_reducible assumption) ?_) | (refine gout (by with_reducible assumption) ?_ ?_; (exact True.intro); (try (refine qout (by with_reducible assumption) ?_)))) | fail)
  (k_with "m k_steps" => first | (repeat' (first | k_extra "m leave" | (k_unfold; (try dsimp only)) | (k_end; wrow_close) | walk1 | (dsimp only; walk1) | (leave1; walk_say "STEP leave1"; try dsimp only) | fail "no step")) | fail)
  (k_with "m pkq" => first | (first | assumption | (apply And.left; first | assumption | (apply And.right; first | assumption | (apply And.right; first | assumption | (apply And.right; first | assumption | (apply And.right; first | assumption | (apply And.right; assumption))))))) | fail)
  (k_with "m pkr" => first | (first | assumption | (apply And.right; first | assumption | (apply And.right; first | assumption | (apply And.right; first | assumption | (apply And.right; first | assumption | (apply And.right; first | assumption | (apply And.right; first | assumption | (apply And.right; first | assumption | (apply And.right; first | assumption | (apply And.right; first | assumption | (apply And.right; first | assumption | (apply And.right; first | assumption | (apply And.right; first | assumption | (apply And.right; first | assumption | (apply And.right; first | assumption | (apply And.right; assumption)))))))))))))))) | fail)
  (k_with "m pk" => first | (first | assumption | (apply And.left; k_extra "m pkr") | (apply And.right; k_extra "m pkr")) | fail)
  (k_with "m omega" => first | (first | ((with_reducible apply neL); with_reducible (k_extra "m pkq")) | ((with_reducible apply neG); with_reducible (k_extra "m pkq")) | ((with_reducible apply neL); with_reducible (k_extra "m pk")) | ((with_reducible apply neG); with_reducible (k_extra "m pk")) | ((with_reducible apply neS); with_reducible (k_extra "m pk")) | ((with_reducible apply lin2); assumption; exact @rfl Bool true) | ((with_reducible apply lin1); assumption; exact @rfl Bool true) | ((with_reducible apply lin0); assumption; exact @rfl Bool true) | ((with_reducible apply lin3); assumption; exact @rfl Bool true) | ((with_reducible apply lin1e); assumption; exact @rfl Bool true) | ((with_reducible apply lin2e); assumption; exact @rfl Bool true) | ((with_reducible apply Nat.le_of_ble_eq_true); exact @rfl Bool true) | ((with_reducible apply om_w); assumption; exact @rfl Bool true) | ((with_reducible apply om_p3); assumption) | ((with_reducible apply om_p2); assumption) | ((with_reducible apply om_p3e); assumption) | (with_reducible apply om_p3r) | ((with_reducible apply om_p4); assumption; exact @rfl Bool true) | ((with_reducible apply om_s); assumption; exact @rfl Bool true) | ((with_reducible apply om_s1); assumption; exact @rfl Bool true) | ((with_reducible apply om_s2); assumption; exact @rfl Bool true) | ((with_reducible apply om_i); assumption; decide +kernel) | ((with_reducible apply om_i2); assumption; assumption; decide +kernel) | ((with_reducible apply om_n); decide +kernel) | (with_reducible apply Int.natCast_nonneg) | ((with_reducible apply om_k); assumption; decide +kernel) | with_reducible (k_extra "m pk")) | fail)
  (k_with "m k_ne" => first | ((with_reducible apply PySem.W.neN); (try dsimp only); omega) | fail)
  (k_with "m k_upd" => first | (first | ((with_reducible apply PySem.W.Upd.head); k_all) | ((with_reducible apply PySem.W.Upd.tail); k_ne; k_upd)) | fail)
  (k_with "m k_updF" => first | (first | ((with_reducible apply PySem.W.UpdF.head); k_all) | ((with_reducible apply PySem.W.UpdF.tail); k_ne; k_updF)) | fail)
  exact trivial
section
variable {w : World} {loose : List Str} {mean : ExcName → Option Value} {mg mb : Str → Option Value} {fz fz2 news rest : Led}
inductive BT (n : Led) (b : Addr) : List Tr → Prop
  | zero {k} : (b, tupOf [] k) ∈ n → BT n b []
  | one {k t} : (b, tupOf [.str "A" t] k) ∈ n → BT n b [.A]
  | two {k t u} : (b, tupOf [.str "A" t, .str "B" u] k) ∈ n → BT n b [.A, .B]
theorem BT.bnd {n : Led} {b d : Addr} {o : Obj} {bs : List Tr} (h : BT n b bs) (hs : ∀ p ∈ n, p ∈ fz) (hd : (d, o) ∈ fz) (ho : SD w o [("X", .ref b)]) (lo : (d == sysModules) = false) : BndIn w fz (.ref d) bs := by
  cases h with
  | zero h => exact .zero hd ho lo (hs _ h)
  | one h => exact .one hd ho lo (hs _ h)
  | two h => exact .two hd ho lo (hs _ h)
theorem one_b {sa tl b1 b2 b3 : Addr} {so : Obj} {ep k1 k2 k3 : Nat} {t1 t2 t3 : Tok} (hp : Pull sa so news rest) (hne : AllNe sa rest) (hl : (tl, listOf (List.toArray [.ref b1, .ref b2, .ref b3]) ep) ∈ rest) (h1 : (b1, tupOf [] k1) ∈ rest) (h2 : (b2, tupOf [.str "A" t1] k2) ∈ rest) (h3 : (b3, tupOf [.str "A" t2, .str "B" t3] k3) ∈ rest) (ho : SrcO so) :
    Calls w loose mean mg mb 2 349 [.ref sa, .ref tl] news (fun n' r => ∃ o b bs, r = .ref b ∧ BT [(b1, tupOf [] k1), (b2, tupOf [.str "A" t1] k2), (b3, tupOf [.str "A" t2, .str "B" t3] k3)] b bs ∧ SrcO o ∧ AllNe sa rest ∧ n' = (sa, o) :: rest) :=
  (one_r (fun _ r => ∃ b bs, r = .ref b ∧ BT [(b1, tupOf [] k1), (b2, tupOf [.str "A" t1] k2), (b3, tupOf [.str "A" t2, .str "B" t3] k3)] b bs) hp hne hl ho (List.forall_mem_cons.mpr ⟨⟨_, _, rfl, .zero (.head _)⟩, List.forall_mem_cons.mpr ⟨⟨_, _, rfl, .one (.tail _ (.head _))⟩, List.forall_mem_cons.mpr ⟨⟨_, _, rfl, .two (.tail _ (.tail _ (.head _)))⟩, List.forall_mem_nil _⟩⟩⟩) (Nat.le_of_ble_eq_true rfl) (Nat.le_of_ble_eq_true rfl)).imp
    fun n r ⟨o, ⟨b, bs, e, a⟩, c, d⟩ => ⟨o, b, bs, e, a, c, hne, d⟩
theorem CallsT.imp {ℓ : Nat} {f : Addr} {vs : List Value} {Out Out' : Led → Value → Prop} (C : CallsT w loose mean mg mb ℓ f vs news Out) (h : ∀ n r, Out n r → Out' n r) : CallsT w loose mean mg mb ℓ f vs news Out' := by
  intro dp un gd cn cs a ccd cl A₀ base h₀ L m s Q E B F X N T XB TB hk hd hu k
  exact C _ _ _ _ _ _ _ _ _ _ _ _ _ _ _ _ B F X N T XB TB hk hd hu fun r n h' t F' N' o => k r n h' t F' N' (h _ _ o)
theorem chain_cu {t : Ty} (hc : t.clear = true) (hd : t.dep ≤ 2) : ∀ u ∈ t.chain, u = .var ∨ (u.clear = true ∧ u.dep ≤ 20) := fun u hu => .inr ⟨chain_clear hc u hu, Nat.le_trans (chain_dep hd u hu) (by decide)⟩
theorem told_g {wv v bv : Value} {imps : List Imp} {ks : Tr → Slf} {bs : List Tr} {t : Ty} (hW : WorldIn w fz wv imps [(.A, ks .A), (.B, ks .B)]) (hB : BndIn w fz bv bs) (hs : ∀ p ∈ fz, p ∈ news) (hT : TyIn fz2 v t) (hs2 : ∀ p ∈ fz2, p ∈ news) (hc : t.clear = true) (hd : t.dep ≤ 2) (hnum : ∀ i ∈ imps, i.num ≤ 8) (hk : ∀ i ∈ imps, ∀ t, i.trait = some t → i.kind = ks t) :
    CallsT w loose mean mg mb 11 389 [wv, v, bv] news (fun n' r => (∀ p ∈ news, p ∈ n') ∧ (∀ p ∈ fz, p ∈ n') ∧ ToldIs n' r (findP (atL imps bs ks) t.chain 0)) := by
  rw [← at_eq hk]
  exact (told_c (fz := news) (fun _ h => h) (hW.mono hs) (hB.mono hs) (hT.mono hs2) (Nat.le_trans (chain_len t) (by omega)) (chain_cu hc hd) hnum).imp fun n r ⟨a, b⟩ => ⟨a, sub_trans a hs, b⟩
theorem told_v {wv bv : Value} {imps : List Imp} {trs : List (Tr × Slf)} {bs : List Tr} {a : Addr} {k : Nat} {t1 t2 : Tok} (hW : WorldIn w fz wv imps trs) (hB : BndIn w fz bv bs) (hs : ∀ p ∈ fz, p ∈ news) (ha : (a, tupOf [.str "var" t1, .int 0 t2] k) ∈ news) (hnum : ∀ i ∈ imps, i.num ≤ 8) :
    CallsT w loose mean mg mb 11 389 [wv, .ref a, bv] news (fun n' r => (∀ p ∈ news, p ∈ n') ∧ (∀ p ∈ fz, p ∈ n') ∧ ToldIs n' r .unk) :=
  CallsT.imp (told_c (t := .var) (fz := news) (fun _ h => h) (hW.mono hs) (hB.mono hs) (.var ha) (by decide) (fun u hu => .inl (List.mem_singleton.mp hu)) hnum) fun n r ⟨a, b⟩ => ⟨a, sub_trans a hs, b⟩
theorem find_b {wv bv : Value} {imps : List Imp} {trs : List (Tr × Slf)} {bs : List Tr} {a : Addr} {k : Nat} {t1 tn : Tok} (hW : WorldIn w fz wv imps trs) (hB : BndIn w fz bv bs) (hs : ∀ p ∈ fz, p ∈ news) (ha : (a, tupOf [.str "bool" t1] k) ∈ news) :
    CallsX w loose mean mg mb 10 235 [wv, .ref a, .str "come" tn, bv] news (fun n' r => (∀ p ∈ news, p ∈ n') ∧ (∀ p ∈ fz, p ∈ n') ∧ r = .none) (fun _ => False) := by
  have h := find_c (w := w) (loose := loose) (mean := mean) (mg := mg) (mb := mb) (nm := "come") (tn := tn) (t := .bool) (fz := news) (news := news) (fun _ h => h) (hW.mono hs) (hB.mono hs) (.inr rfl) (.bool ha) (by decide) (fun u hu => .inr (by rw [List.mem_singleton.mp hu]; exact ⟨rfl, by decide⟩))
  rw [come_find] at h
  intro dp un gd cn cs a ccd cl outer A₀ base h₀ L m s Q E B F X N T hk hd hu k kx
  refine h _ _ _ _ _ _ _ _ _ _ _ _ _ _ _ _ _ B F X N T hk hd hu (fun r n h' tk F' N' o => k r n h' tk F' N' ⟨o.1, sub_trans o.1 hs, ?_⟩) (fun g e cls h' tk' c => ?_)
  · cases o.2.split with
    | no _ => rfl
    | imp e => exact nomatch e
    | tr e => exact nomatch e
    | non e => exact nomatch e
  · rcases c with ⟨_, e⟩ | ⟨_, e⟩ <;> exact nomatch e
theorem due_g {rl : Addr} {vs : List Value} {ep : Nat} {bv kv v : Value} {rows : List Imp} {bs : List Tr} {ks : Tr → Slf} {t : Ty} (hl : (rl, listOf vs.toArray ep) ∈ fz) (hR : RowsIn fz vs rows) (hz : rows.length ≤ 4) (hB : BndIn w fz bv bs) (hK : KindsIn w fz kv ks) (hs : ∀ p ∈ fz, p ∈ news) (hT : TyIn fz2 v t) (hs2 : ∀ p ∈ fz2, p ∈ news) (hc : t.clear = true) (hd : t.dep ≤ 2) :
    Calls w loose mean mg mb 5 382 [.ref rl, bv, kv, v] news (fun n' r => (∀ p ∈ news, p ∈ n') ∧ (∀ p ∈ fz, p ∈ n') ∧ ToldIs n' r (findP (atL rows bs ks) t.chain 0)) := by
  refine Calls.imp (?_ : Calls w loose mean mg mb 5 382 [.ref rl, bv, kv, v] news (fun n' r => (∀ p ∈ news, p ∈ n') ∧ ToldIs n' r (findP (atL rows bs ks) t.chain 0))) fun n r ⟨a, b⟩ => ⟨a, sub_trans a hs, b⟩
  exact ldue_c (w := w) (loose := loose) (mean := mean) (mg := mg) (mb := mb) (fz := news) (news := news) (fun _ h => h) (hs _ hl) (by have := hR.length; omega) (hR.mono hs) (hB.mono hs) (hK.mono hs) (hT.mono hs2) hc (Nat.le_trans hd (by decide))
theorem pack {h₀ h : Heap} {L : Addr} {all nf : Led} {sa i c x rl dB dK b b1 b2 b3 : Addr} {o1 o2 o3 oB oK oI oc so : Obj} {rvs : List Value} {rep : Nat} {imps : List Imp} {ks : Tr → Slf} {bs : List Tr} {va vb : Value} (_ : News h₀ L h ((sa, so) :: all)) (_ : Mark i) {x₀ : Option Value} (_ : oc.data = .cell x₀) (hW : WorldIn w nf (.ref x) imps [(.A, ks .A), (.B, ks .B)]) (hR : RowsIn nf rvs imps) (hrl : (rl, listOf (List.toArray rvs) rep) ∈ nf)
    (hBT : BT [(b1, o1), (b2, o2), (b3, o3)] b bs) (hB : SD w oB [("X", .ref b)]) (loB : (dB == sysModules) = false) (hK : SD w oK [("A", va), ("B", vb)]) (loK : (dK == sysModules) = false) (kA : KdIs va (ks .A)) (kB : KdIs vb (ks .B))
    (m1 : (b1, o1) ∈ all) (m2 : (b2, o2) ∈ all) (m3 : (b3, o3) ∈ all) (mB : (dB, oB) ∈ all) (mK : (dK, oK) ∈ all) (mI : (i, oI) ∈ all) (mc : (c, oc) ∈ all) (mn : ∀ p ∈ nf, p ∈ all) (ne : AllNe sa all) :
    ∃ RR : Led, (∀ p ∈ RR, p ∈ all) ∧ WorldIn w RR (.ref x) imps [(.A, ks .A), (.B, ks .B)] ∧ BndIn w RR (.ref dB) bs ∧ KindsIn w RR (.ref dK) ks ∧ (rl, listOf (List.toArray rvs) rep) ∈ RR ∧ RowsIn RR rvs imps ∧ (i, oI) ∈ RR ∧ (c, oc) ∈ RR ∧ AllNe sa RR :=
  ⟨all, fun _ h => h, hW.mono mn, hBT.bnd (List.forall_mem_cons.mpr ⟨m1, List.forall_mem_cons.mpr ⟨m2, List.forall_mem_cons.mpr ⟨m3, List.forall_mem_nil _⟩⟩⟩) mB hB loB, .mk mK hK loK kA kB, mn _ hrl, hR.mono mn, mI, mc, ne⟩
end
theorem kw28_0 : True := by
  k_with_none
  (k_with "m k_mem" => first | (first | ktr_member | (with_reducible apply mem_hd) | ((with_reducible apply mem_tl); k_mem) | exact mem_via (by assumption) (by assumption)) | fail)
  (k_with "m lt" => first | (first | assumption | (apply PySem.W.allLt_of; assumption) | (apply allLt_tl; assumption) | (apply allLt_tl2; assumption) | with_reducible (k_extra "m pk") | (simp only [AllLt, and_true] at *; first | assumption | omega)) | fail)
  (k_with "m k_all" => first | (first | assumption | (apply ne_of_allNe; k_extra "m ne") | (apply ne_of_allLt; k_extra "m lt")) | fail)
  (k_with "m call" => first | (k_here; k_dflt (refine' Calls.use' (by k_asm) (by k_asm) (by k_asm) (by k_asm) (by k_asm) (by first | exact rfl | assumption) (by k_extra "m con") (by first | omega | (dsimp only [ktrTop]; omega)) (by k_extra "m un") ?_; k_whole); ((intro zzG9 zzhG9; k_dflt (k_extra "m out")) <;> (refine zzhG9 _ _ ?_; intro zzh9 zztk9 zzF9 zzN9; (try k_sweep)))) | fail)
  (k_with "m out" => first | (intro zzn9 zzr9 zzo9; (first | (obtain ⟨zze1, zze2⟩ := zzo9; subst zze1; subst zze2) | (obtain ⟨zze1, zzt9, zze2⟩ := zzo9; subst zze1; subst zze2) | (obtain ⟨zzl9, zze9, zze2, zze1, zzq9⟩ := zzo9; subst zze1; subst zze2; (simp only [AllLt, and_true] at zzq9)) | (obtain ⟨zzl9, zze9, zzp9, zzm9, zzx9, zzy9, zze2, zze1, zzq1, zzq2, zzq3, zzq4⟩ := zzo9; subst zze1; subst zze2; (simp only [AllLt, and_true] at zzq3); obtain ⟨zza8, zzn8, zzt8, zzr8, zze8, zzm8⟩ := Mine.TyIn.head zzq1; subst zze8; obtain ⟨zza7, zzn7, zzt7, zzr7, zze7, zzm7⟩ := Mine.TyIn.head zzq2; subst zze7) | (rcases zzo9 with ⟨zze3, zze1, zzt9, zze2⟩ | ⟨zze3, zze1, zzt9, zze2⟩ <;> (subst zze1; subst zze2)))) | fail)
  (k_with "m un" => first | ((try dsimp +zetaDelta only); (have zzhcl9 := cLine_is); (try simp only [units_in1, units_deeper, Around.mark_units, units_caller]); (try dsimp only [ktrTop]); omega) | fail)
  (k_with "m dp" => first | (first | assumption | (simp only [Ty.dep]; omega) | decide) | fail)
  (k_with "m k_room" => first | ((try dsimp +zetaDelta only); (try simp only [depth_under_make, depth_under_kw, depth_in1, depth_deeper, depth_caller]); (try dsimp only [ktrTop]); have zzhrl9 : recursionLimit = 1000 := rfl; omega) | fail)
  (k_with "m for" => first | (k_here; (rename Fr _ _ _ _ => zzlF'); (with_unfolding_all refine' For_turns zzlF' ?_; k_whole)) | fail)
  (k_with "m pick" => first | (with_reducible (k_extra "m pk")) | fail)
  (k_with "m ne" => first | (first | with_reducible (first | assumption | (apply allNe_of; assumption) | (apply allNe_off; assumption) | (apply allNe_lt; apply PySem.W.allLt_of; assumption)) | ((with_reducible apply allNe_cons); k_ne; k_extra "m ne") | with_reducible (k_extra "m pkq") | (apply allNe_lt; with_reducible (k_extra "m pkq")) | with_reducible (k_extra "m pk") | (apply allNe_lt; with_reducible (k_extra "m pk")) | (apply allNe_off; with_reducible (k_extra "m pk")) | (apply allNe_lt; apply allLt_tl; assumption) | (with_reducible apply allNe_nil)) | fail)
  (k_with "m subh" => first | (with_reducible (apply sub_hd; first | assumption | (apply sub_hd; first | assumption | (apply sub_hd; first | assumption | (apply sub_hd; first | assumption | (apply sub_hd; first | assumption | (apply sub_hd; first | assumption | (apply sub_hd; first | assumption | (apply sub_hd; first | assumption | (apply sub_hd; assumption)))))))))) | fail)
  (k_with "m subs" => first | (first | (with_reducible apply sub_refl) | assumption | ((with_reducible apply subs_cons); k_mem; k_extra "m subs") | ((with_reducible apply sub_tl); k_extra "m subs") | (with_reducible apply List.forall_mem_nil) | k_extra "m subh") | fail)
  (k_with "m agr" => first | (first | assumption | exact agree_over | exact agree_refl | (refine agree_store ?_ (by decide); k_extra "m agr")) | fail)
  (k_with "m sub" => first | (first | assumption | ((with_reducible apply sub_tl); k_extra "m sub") | k_extra "m subh") | fail)
  (k_with "m leave" => first | (k_end; first | ((try dsimp only); (refine' gnext_cons (by with_reducible assumption) ?_); intro zztk' zzG' zzhG'; (try (rename PyProof.Rows.News _ _ _ _ => zznN'; dsimp only at zznN'))) | (refine gnext (by with_reducible assumption) ?_) | (refine gout (by with_reducible assumption) ?_ ?_; (exact True.intro); (try (refine qout (by with_reducible assumption) ?_)))) | fail)
  (k_with "m k_steps" => first | (repeat' (first | k_extra "m leave" | (k_unfold; (try dsimp only)) | (k_end; wrow_close) | walk1 | (dsimp only; walk1) | (leave1; walk_say "STEP leave1"; try dsimp only) | fail "no step")) | fail)
  (k_with "m pkq" => first | (first | assumption | (apply And.left; first | assumption | (apply And.right; first | assumption | (apply And.right; first | assumption | (apply And.right; first | assumption | (apply And.right; first | assumption | (apply And.right; assumption))))))) | fail)
  (k_with "m pkr" => first | (first | assumption | (apply And.right; first | assumption | (apply And.right; first | assumption | (apply And.right; first | assumption | (apply And.right; first | assumption | (apply And.right; first | assumption | (apply And.right; first | assumption | (apply And.right; first | assumption | (apply And.right; first | assumption | (apply And.right; first | assumption | (apply And.right; first | assumption | (apply And.right; first | assumption | (apply And.right; first | assumption | (apply And.right; first | assumption | (apply And.right; first | assumption | (apply And.right; assumption)))))))))))))))) | fail)
  (k_with "m pk" => first | (first | assumption | (apply And.left; k_extra "m pkr") | (apply And.right; k_extra "m pkr")) | fail)
  (k_with "m omega" => first | (first | ((with_reducible apply neL); with_reducible (k_extra "m pkq")) | ((with_reducible apply neG); with_reducible (k_extra "m pkq")) | ((with_reducible apply neL); with_reducible (k_extra "m pk")) | ((with_reducible apply neG); with_reducible (k_extra "m pk")) | ((with_reducible apply neS); with_reducible (k_extra "m pk")) | ((with_reducible apply lin2); assumption; exact @rfl Bool true) | ((with_reducible apply lin1); assumption; exact @rfl Bool true) | ((with_reducible apply lin0); assumption; exact @rfl Bool true) | ((with_reducible apply lin3); assumption; exact @rfl Bool true) | ((with_reducible apply lin1e); assumption; exact @rfl Bool true) | ((with_reducible apply lin2e); assumption; exact @rfl Bool true) | ((with_reducible apply Nat.le_of_ble_eq_true); exact @rfl Bool true) | ((with_reducible apply om_w); assumption; exact @rfl Bool true) | ((with_reducible apply om_p3); assumption) | ((with_reducible apply om_p2); assumption) | ((with_reducible apply om_p3e); assumption) | (with_reducible apply om_p3r) | ((with_reducible apply om_p4); assumption; exact @rfl Bool true) | ((with_reducible apply om_s); assumption; exact @rfl Bool true) | ((with_reducible apply om_s1); assumption; exact @rfl Bool true) | ((with_reducible apply om_s2); assumption; exact @rfl Bool true) | ((with_reducible apply om_i); assumption; decide +kernel) | ((with_reducible apply om_i2); assumption; assumption; decide +kernel) | ((with_reducible apply om_n); decide +kernel) | (with_reducible apply Int.natCast_nonneg) | ((with_reducible apply om_k); assumption; decide +kernel) | with_reducible (k_extra "m pk")) | fail)
  (k_with "m k_ne" => first | ((with_reducible apply PySem.W.neN); (try dsimp only); omega) | fail)
  (k_with "m k_upd" => first | (first | ((with_reducible apply PySem.W.Upd.head); k_all) | ((with_reducible apply PySem.W.Upd.tail); k_ne; k_upd)) | fail)
  (k_with "m k_updF" => first | (first | ((with_reducible apply PySem.W.UpdF.head); k_all) | ((with_reducible apply PySem.W.UpdF.tail); k_ne; k_updF)) | fail)
  exact trivial
section
variable {w : World} {loose : List Str} {mean : ExcName → Option Value} {mg mb : Str → Option Value} {news : Led}
theorem path1 : ("impl#1::go" : Str) = pathOf 1 := by decide +kernel
theorem both_find : findP (atI "go" [⟨some .A, 0, .adt, .rm false⟩, ⟨none, 1, .adt, .rm false⟩] [(.A, .rm false)] []) Ty.adt.chain 0 = .hit (.imp 1) 0 (some false) := by decide +kernel
theorem both_told {x dx sg tr im xs e1 xt dxt mt xts e2 x1 dx1 x2 dx2 ps1 ta1 md1 ps2 ta2 md2 rg1 rg2 own b c d : Addr} {so to mo o1 o2 mo2 od : Obj} {t1 t2 t3 t4 t5 t6 t7 t8 a1 a2 a3 a4 c1 c2 c3 c4 c5 c6 c7 c8 c9 cA f1 f2 f3 f4 f5 f6 f7 f8 f9 fA u1 u2 : Tok} {v1 v2 v3 v7 v8 z1 z2 z4 y1 y2 : Value} {n0 n1 n2 n3 n4 n5 n6 n7 : Nat}
    (h1 : (x, instObj 324 dx) ∈ news) (h2 : (dx, dictOf [en w "modules" t1 v1, en w "adts" t2 v2, en w "variants" t3 v3, en w "sigs" t4 (.ref sg), en w "traits" t5 (.ref tr), en w "impls" t6 (.ref im), en w "consts" t7 v7, en w "bodies" t8 v8] 8) ∈ news)
    (h3 : (sg, so) ∈ news) (h4 : SD w so [("impl#1::go", .ref xs)]) (h5 : (sg == sysModules) = false) (h6 : SigIn w [(xs, instObj 252 e1), (e1, o1)] xs (.rm false)) (h7 : (xs, instObj 252 e1) ∈ news) (h8 : (e1, o1) ∈ news)
    (h9 : (tr, to) ∈ news) (g1 : SD w to [("A", .ref xt)]) (g2 : (tr == sysModules) = false) (g3 : (xt, instObj 273 dxt) ∈ news) (g4 : (dxt, dictOf [en w "path" a1 z1, en w "params" a2 z2, en w "methods" a3 (.ref mt), en w "defaults" a4 z4] 4) ∈ news) (g5 : (mt, mo) ∈ news) (g6 : SD w mo [("go", .ref xts)]) (g7 : (mt == sysModules) = false)
    (g8 : SigIn w [(xts, instObj 252 e2), (e2, o2)] xts (.rm false)) (g9 : (xts, instObj 252 e2) ∈ news) (k0 : (e2, o2) ∈ news) (k1 : (im, listOf (List.toArray [.ref x1, .ref x2]) n0) ∈ news)
    (k2 : (x1, instObj 295 dx1) ∈ news) (k3 : (dx1, dictOf [en w "number" c1 (.int 0 c9), en w "regions" c2 (.ref rg1), en w "params" c3 (.ref ps1), en w "trait" c4 (.str "A" cA), en w "trait_args" c5 (.ref ta1), en w "self_type" c6 (.ref own), en w "methods" c7 (.ref md1), en w "spot" c8 y1] 8) ∈ news) (k4 : (ps1, listOf #[] n1) ∈ news) (k5 : (ta1, tupOf [] n2) ∈ news)
    (k6 : (x2, instObj 295 dx2) ∈ news) (k7 : (dx2, dictOf [en w "number" f1 (.int 1 f9), en w "regions" f2 (.ref rg2), en w "params" f3 (.ref ps2), en w "trait" f4 .none, en w "trait_args" f5 (.ref ta2), en w "self_type" f6 (.ref own), en w "methods" f7 (.ref md2), en w "spot" f8 y2] 8) ∈ news) (k8 : (ps2, listOf #[] n3) ∈ news) (k9 : (ta2, tupOf [] n4) ∈ news)
    (j1 : (md2, mo2) ∈ news) (j2 : SD w mo2 [("go", .str "impl#1::go" fA)]) (j3 : (md2 == sysModules) = false) (j4 : (own, tupOf [.str "adt" u1, .str "S" u2, .ref b, .ref c] n5) ∈ news) (j5 : (b, tupOf [] n6) ∈ news) (j6 : (c, tupOf [] n7) ∈ news) (j7 : (d, od) ∈ news) (j8 : SD w od []) (j9 : (d == sysModules) = false) :
    CallsT w loose mean mg mb 11 389 [.ref x, .ref own, .ref d] news (fun n' r => (∀ p ∈ news, p ∈ n') ∧ ToldIs n' r (.hit (.imp 1) 0 (some false))) := by
  have own' : TyIn news (.ref own) .adt := .adt j4 j5 j6
  have i1 : ImpIn w news [("impl#1::go", .ref xs)] (.ref x1) ⟨some .A, 0, .adt, .rm false⟩ := .mk (tp := c9) (sx := x1) (mo := so) (i := ⟨some .A, 0, .adt, .rm false⟩) k2 k3 k4 k5 .a own' .adt fun e => nomatch e
  have i2 : ImpIn w news [("impl#1::go", .ref xs)] (.ref x2) ⟨none, 1, .adt, .rm false⟩ := .mk (i := ⟨none, 1, .adt, .rm false⟩) k6 k7 k8 k9 .no own' .adt fun _ => ⟨j1, path1 ▸ j2, j3, by
    show valueAt [(("impl#1::go" : Str), Value.ref xs)] (pathOf 1) = some (.ref xs)
    rw [← path1]; simp [valueAt], h6.mono (List.forall_mem_cons.mpr ⟨h7, List.forall_mem_cons.mpr ⟨h8, List.forall_mem_nil _⟩⟩)⟩
  have hW : WorldIn w news (.ref x) [⟨some .A, 0, .adt, .rm false⟩, ⟨none, 1, .adt, .rm false⟩] [(.A, .rm false)] := .mk h1 h2 h3 h4 h5 h9 g1 g2 (.one (.mk g3 g4 g5 g6 g7 (g8.mono (List.forall_mem_cons.mpr ⟨g9, List.forall_mem_cons.mpr ⟨k0, List.forall_mem_nil _⟩⟩)))) k1 (.cons i1 (.cons i2 .nil)) (by simp)
  have h := told_c (w := w) (loose := loose) (mean := mean) (mg := mg) (mb := mb) (t := .adt) (fz := news) (news := news) (fun _ h => h) hW (.none j7 j8 j9) own' (by decide) (fun u hu => .inr (by rw [List.mem_singleton.mp hu]; exact ⟨rfl, by decide⟩)) (fun i hi => by
    rcases List.mem_cons.mp hi with rfl | hi
    · exact Nat.zero_le _
    · rw [List.mem_singleton.mp hi]; exact Nat.le_of_ble_eq_true rfl)
  rw [both_find] at h
  exact h
end
theorem kw29_0 : True := by
  k_with_none
  (k_with "m k_mem" => first | (first | ktr_member | (with_reducible apply mem_hd) | ((with_reducible apply mem_tl); k_mem) | exact mem_via (by assumption) (by assumption)) | fail)
  (k_with "ite" => first | (first | refine ite_t (by with_reducible assumption) ?_ | refine ite_f (by with_reducible assumption) ?_) | fail)
  (k_with "m lt" => first | (first | assumption | (apply PySem.W.allLt_of; assumption) | (apply allLt_tl; assumption) | (apply allLt_tl2; assumption) | with_reducible (k_extra "m pk") | (simp only [AllLt, and_true] at *; first | assumption | omega)) | fail)
  (k_with "m k_all" => first | (first | assumption | (apply ne_of_allNe; k_extra "m ne") | (apply ne_of_allLt; k_extra "m lt")) | fail)
  (k_with "m call" => first | (k_here; k_dflt (refine' Calls.use' (by k_asm) (by k_asm) (by k_asm) (by k_asm) (by k_asm) (by first | exact rfl | assumption) (by k_extra "m con") (by first | omega | (dsimp only [ktrTop]; omega)) (by k_extra "m un") ?_; k_whole); ((intro zzG9 zzhG9; k_dflt (k_extra "m out")) <;> (refine zzhG9 _ _ ?_; intro zzh9 zztk9 zzF9 zzN9; (try k_sweep)))) | fail)
  (k_with "m out" => first | (intro zzn9 zzr9 zzo9; (first | (obtain ⟨zze1, zze2⟩ := zzo9; subst zze1; subst zze2) | (obtain ⟨zze1, zzt9, zze2⟩ := zzo9; subst zze1; subst zze2) | (obtain ⟨zzl9, zze9, zze2, zze1, zzq9⟩ := zzo9; subst zze1; subst zze2; (simp only [AllLt, and_true] at zzq9)) | (obtain ⟨zzl9, zze9, zzp9, zzm9, zzx9, zzy9, zze2, zze1, zzq1, zzq2, zzq3, zzq4⟩ := zzo9; subst zze1; subst zze2; (simp only [AllLt, and_true] at zzq3); obtain ⟨zza8, zzn8, zzt8, zzr8, zze8, zzm8⟩ := Mine.TyIn.head zzq1; subst zze8; obtain ⟨zza7, zzn7, zzt7, zzr7, zze7, zzm7⟩ := Mine.TyIn.head zzq2; subst zze7) | (rcases zzo9 with ⟨zze3, zze1, zzt9, zze2⟩ | ⟨zze3, zze1, zzt9, zze2⟩ <;> (subst zze1; subst zze2)))) | fail)
  (k_with "call ref" => first | (k_extra "m call") | fail)
  (k_with "m un" => first | ((try dsimp +zetaDelta only); (have zzhcl9 := cLine_is); (try simp only [units_in1, units_deeper, Around.mark_units, units_caller]); (try dsimp only [ktrTop]); omega) | fail)
  (k_with "m dp" => first | (first | assumption | (simp only [Ty.dep]; omega) | decide) | fail)
  (k_with "m k_room" => first | ((try dsimp +zetaDelta only); (try simp only [depth_under_make, depth_under_kw, depth_in1, depth_deeper, depth_caller]); (try dsimp only [ktrTop]); have zzhrl9 : recursionLimit = 1000 := rfl; omega) | fail)
  (k_with "eval Name" => first | (k_here; (fail_if_success with_reducible show wpAny _ _ (eval _ (compEnvC _ _ _ _)) _ _ _); k_dflt (refine' nameX_L (by k_asm) (by exact @rfl _ (some _)) ?_ (by kernel_rfl) (rfl) (by kernel_rfl); k_whole)) | fail)
  (k_with "ite" => first | (k_closed; first | refine ite_t (by decide +kernel) ?_ | refine ite_f (by decide +kernel) ?_) | fail)
  (k_with "exec For Name Call cons nil" => first | (k_extra "m for") | fail)
  (k_with "m for" => first | (k_here; (rename Fr _ _ _ _ => zzlF'); (with_unfolding_all refine' For_turns zzlF' ?_; k_whole)) | fail)
  (k_with "eval ListComp" => first | (k_here; (with_reducible show wpAny _ _ (eval (PySem.Expr.ListComp _ [⟨PySem.Expr.Tuple [_, _] _ _, _, _, _⟩] _ _) _) _ _ _); k_dflt (refine' listcomp (xs := [(_, _), (_, _)]) (by k_asm) (by with_unfolding_all rfl) (by decide) (by exact rfl) (by decide) (by decide) (by decide) ?_ (by exact fun _ => rfl); k_whole)) | fail)
  (k_with "eval ListComp" => first | (k_here; (with_reducible show wpAny _ _ (eval (PySem.Expr.ListComp _ [⟨PySem.Expr.Tuple [_, _, _] _ _, _, _, _⟩] _ _) _) _ _ _); k_dflt (refine' listcomp (xs := [(_, _), (_, _), (_, _)]) (by k_asm) (by with_unfolding_all rfl) (by decide) (by exact rfl) (by decide) (by decide) (by decide) ?_ (by exact fun _ => rfl); k_whole)) | fail)
  (k_with "eval ListComp" => first | (k_here; (with_reducible show wpAny _ _ (eval (PySem.Expr.ListComp _ [⟨PySem.Expr.Tuple [_, _, _, _] _ _, _, _, _⟩] _ _) _) _ _ _); k_dflt (refine' listcomp (xs := [(_, _), (_, _), (_, _), (_, _)]) (by k_asm) (by with_unfolding_all rfl) (by decide) (by exact rfl) (by decide) (by decide) (by decide) ?_ (by exact fun _ => rfl); k_whole)) | fail)
  (k_with "m pick" => first | (with_reducible (k_extra "m pk")) | fail)
  (k_with "m ne" => first | (first | with_reducible (first | assumption | (apply allNe_of; assumption) | (apply allNe_off; assumption) | (apply allNe_lt; apply PySem.W.allLt_of; assumption)) | ((with_reducible apply allNe_cons); k_ne; k_extra "m ne") | with_reducible (k_extra "m pkq") | (apply allNe_lt; with_reducible (k_extra "m pkq")) | with_reducible (k_extra "m pk") | (apply allNe_lt; with_reducible (k_extra "m pk")) | (apply allNe_off; with_reducible (k_extra "m pk")) | (apply allNe_lt; apply allLt_tl; assumption) | (with_reducible apply allNe_nil)) | fail)
  (k_with "m subh" => first | (with_reducible (apply sub_hd; first | assumption | (apply sub_hd; first | assumption | (apply sub_hd; first | assumption | (apply sub_hd; first | assumption | (apply sub_hd; first | assumption | (apply sub_hd; first | assumption | (apply sub_hd; first | assumption | (apply sub_hd; first | assumption | (apply sub_hd; assumption)))))))))) | fail)
  (k_with "m subs" => first | (first | (with_reducible apply sub_refl) | assumption | ((with_reducible apply subs_cons); k_mem; k_extra "m subs") | ((with_reducible apply sub_tl); k_extra "m subs") | (with_reducible apply List.forall_mem_nil) | k_extra "m subh") | fail)
  (k_with "m agr" => first | (first | assumption | exact agree_over | exact agree_refl | (refine agree_store ?_ (by decide); k_extra "m agr")) | fail)
  (k_with "m sub" => first | (first | assumption | ((with_reducible apply sub_tl); k_extra "m sub") | k_extra "m subh") | fail)
  (k_with "subscriptTail Attribute" => first | (k_here; (with_reducible show wpAny _ _ (subscriptTail _ _ (Value.ref _) (Value.str _ _)) _ _ _); k_dflt (refine kba_turn (value' := PySem.Expr.Name (PySem.Str.ofString "_") ⟨0, 0, 0, 0⟩) (fun _ => rfl) ?_; refine' kda_item (knd := PySem.strKind _ _) (by k_asm) (by k_mem) (by k_asm) (strKind_is _ _ _ _) (by first | assumption | exact rfl) ?_ (by with_unfolding_all rfl) (by intro zzr; with_unfolding_all rfl); k_whole)) | fail)
  (k_with "execs cons" => first | (k_here; (try dsimp only); (refine' exec_cons_h ?_); intro zztk' zzG' zzhG'; (try (rename PyProof.Rows.News _ _ _ _ => zznN'; dsimp only at zznN'))) | fail)
  (k_with "execs nil" => first | (k_here; (refine' exec_nil_g ?_); intro zztk'; (try (refine qout (by with_reducible assumption) ?_))) | fail)
  (k_with "m leave" => first | (k_end; first | ((try dsimp only); (refine' gnext_cons (by with_reducible assumption) ?_); intro zztk' zzG' zzhG'; (try (rename PyProof.Rows.News _ _ _ _ => zznN'; dsimp only at zznN'))) | (refine gnext (by with_reducible assumption) ?_) | (refine gout (by with_reducible assumption) ?_ ?_; (exact True.intro); (try (refine qout (by with_reducible assumption) ?_)))) | fail)
  (k_with "m k_steps" => first | (repeat' (first | k_extra "m leave" | (k_unfold; (try dsimp only)) | (k_end; wrow_close) | walk1 | (dsimp only; walk1) | (leave1; walk_say "STEP leave1"; try dsimp only) | fail "no step")) | fail)
  (k_with "m pkq" => first | (first | assumption | (apply And.left; first | assumption | (apply And.right; first | assumption | (apply And.right; first | assumption | (apply And.right; first | assumption | (apply And.right; first | assumption | (apply And.right; assumption))))))) | fail)
  (k_with "m pkr" => first | (first | assumption | (apply And.right; first | assumption | (apply And.right; first | assumption | (apply And.right; first | assumption | (apply And.right; first | assumption | (apply And.right; first | assumption | (apply And.right; first | assumption | (apply And.right; first | assumption | (apply And.right; first | assumption | (apply And.right; first | assumption | (apply And.right; first | assumption | (apply And.right; first | assumption | (apply And.right; first | assumption | (apply And.right; first | assumption | (apply And.right; first | assumption | (apply And.right; assumption)))))))))))))))) | fail)
  (k_with "m pk" => first | (first | assumption | (apply And.left; k_extra "m pkr") | (apply And.right; k_extra "m pkr")) | fail)
  (k_with "m omega" => first | (first | ((with_reducible apply neL); with_reducible (k_extra "m pkq")) | ((with_reducible apply neG); with_reducible (k_extra "m pkq")) | ((with_reducible apply neL); with_reducible (k_extra "m pk")) | ((with_reducible apply neG); with_reducible (k_extra "m pk")) | ((with_reducible apply neS); with_reducible (k_extra "m pk")) | ((with_reducible apply lin2); assumption; exact @rfl Bool true) | ((with_reducible apply lin1); assumption; exact @rfl Bool true) | ((with_reducible apply lin0); assumption; exact @rfl Bool true) | ((with_reducible apply lin3); assumption; exact @rfl Bool true) | ((with_reducible apply lin1e); assumption; exact @rfl Bool true) | ((with_reducible apply lin2e); assumption; exact @rfl Bool true) | ((with_reducible apply Nat.le_of_ble_eq_true); exact @rfl Bool true) | ((with_reducible apply om_w); assumption; exact @rfl Bool true) | ((with_reducible apply om_p3); assumption) | ((with_reducible apply om_p2); assumption) | ((with_reducible apply om_p3e); assumption) | (with_reducible apply om_p3r) | ((with_reducible apply om_p4); assumption; exact @rfl Bool true) | ((with_reducible apply om_s); assumption; exact @rfl Bool true) | ((with_reducible apply om_s1); assumption; exact @rfl Bool true) | ((with_reducible apply om_s2); assumption; exact @rfl Bool true) | ((with_reducible apply om_i); assumption; decide +kernel) | ((with_reducible apply om_i2); assumption; assumption; decide +kernel) | ((with_reducible apply om_n); decide +kernel) | (with_reducible apply Int.natCast_nonneg) | ((with_reducible apply om_k); assumption; decide +kernel) | with_reducible (k_extra "m pk")) | fail)
  (k_with "m k_ne" => first | ((with_reducible apply PySem.W.neN); (try dsimp only); omega) | fail)
  (k_with "spliced" => first | (k_here; (with_reducible show wpAny _ _ (spliced (backTo _ (starEach (PySem.Expr.Name _ _ :: _) _))) _ _ _); k_dflt (refine' args_nm (by exact rfl) (by k_asm) (by exact @rfl _ (some _)) (by kernel_rfl) (by exact rfl) (by kernel_rfl) ?_; k_whole)) | fail)
  (k_with "eval Subscript" => first | (k_here; (with_reducible show wpAny _ _ (eval (PySem.Expr.Subscript (PySem.Expr.Name _ _) _ _) _) _ _ _); k_dflt (refine' sub_nm (by exact rfl) (by k_asm) (by exact @rfl _ (some _)) (by kernel_rfl) (by exact rfl) (by kernel_rfl) ?_; k_whole)) | fail)
  (k_with "isTrue Compare" => first | (k_here; (with_reducible show wpAny _ _ (isTrue (PySem.Expr.Compare (PySem.Expr.Name _ _) [_] [_] _) _ _) _ _ _); k_dflt (refine' cmp_nm (by exact rfl) (by k_asm) (by exact @rfl _ (some _)) (by kernel_rfl) (by exact rfl) (by kernel_rfl) (by with_unfolding_all rfl) ?_; k_whole)) | fail)
  (k_with "eval Attribute Name" => first | (k_here; (with_reducible show wpAny _ _ (eval (PySem.Expr.Attribute (PySem.Expr.Name _ _) _ _) _) _ _ _); k_dflt (refine' att_nm (by exact rfl) (by k_asm) (by exact @rfl _ (some _)) (by kernel_rfl) (by exact rfl) (by kernel_rfl) ?_; k_whole)) | fail)
  (k_with "m k_upd" => first | (first | ((with_reducible apply PySem.W.Upd.head); k_all) | ((with_reducible apply PySem.W.Upd.tail); k_ne; k_upd)) | fail)
  (k_with "m k_updF" => first | (first | ((with_reducible apply PySem.W.UpdF.head); k_all) | ((with_reducible apply PySem.W.UpdF.tail); k_ne; k_updF)) | fail)
  (k_with "spliced" => first | (k_here; (with_reducible show wpAny _ _ (spliced (backTo _ (starEach (PySem.Expr.Constant (PySem.Const.str _) _ _ :: _) _))) _ _ _); k_dflt (refine' args_str ?_; k_whole)) | fail)
  (k_with "eval Subscript" => first | (k_here; (with_reducible show wpAny _ _ (eval (PySem.Expr.Subscript (PySem.Expr.Name _ _) (PySem.Expr.Constant (PySem.Const.int _) _ _) _) _) _ _ _); k_dflt (refine' sub_it (by exact rfl) (by k_asm) (by exact @rfl _ (some _)) (by kernel_rfl) (by exact rfl) (by kernel_rfl) (by k_asm) (by k_mem) (by exact @rfl _ (some _)) ?_; k_whole)) | fail)
  (k_with "exec If" => first | (k_here; (with_reducible show wpAny _ _ (exec (PySem.Stmt.If (PySem.Expr.Compare (PySem.Expr.Name _ _) [_] [_] _) _ _ _) _) _ _ _); k_dflt (refine' if_nm (by exact rfl) (by k_asm) (by exact @rfl _ (some _)) (by kernel_rfl) (by exact rfl) (by kernel_rfl) (by with_unfolding_all rfl) ?_; k_whole)) | fail)
  (k_with "eval Constant str" => first | (k_here; (with_reducible show wpAny _ _ (eval (PySem.Expr.Constant (PySem.Const.str _) _ _) _) (fun b s₂ => wpAny _ _ (compareOp CmpOp.Eq (Value.str _ _) b) (fun c s₃ => wpAny _ _ (truthy c) _ _ s₃) _ s₂) _ _); (with_reducible refine' eq_cst ?_); k_whole) | fail)
  (k_with "exec Assign" => first | (k_here; (with_reducible show wpAny _ _ (exec (PySem.Stmt.Assign [PySem.Expr.Attribute (PySem.Expr.Name _ _) _ _] (PySem.Expr.Name _ _) _) _) _ _ _); k_dflt (refine' set_nm (by exact rfl) (by k_asm) (by exact @rfl _ (some _)) (by exact @rfl _ (some _)) (by kernel_rfl) (by exact rfl) (by exact rfl) (by kernel_rfl) (by kernel_rfl) (by k_asm) (by k_asm) (by k_inst) (by exact rfl) (by k_is) (by k_is) (by k_is) (by k_is) (by k_get) (by k_put) (by k_upd) (by exact Nat.le_of_ble_eq_true rfl) (by exact rfl) ?_; k_whole); intro zzh' zzF' zzN'; (try k_sweep)) | fail)
  (k_with "spliced" => first | (k_here; (with_reducible show wpAny _ _ (spliced (backTo _ (starEach [] _))) (fun vs s₂ => wpAny _ _ (newTuple _) _ _ s₂) _ _); with_reducible refine' nil_tup (by k_dflt k_asm) (by k_dflt k_asm) (by k_dflt (exact Nat.le_of_ble_eq_true rfl)) ?_; k_whole; intro zzD' zzh' zzF' zzN' zzl1; (try k_lt zzl1); (try k_sweep)) | fail)
  (k_with "spliced" => first | (k_here; (with_reducible show wpAny _ _ (spliced (backTo _ (starEach [] _))) (fun vs s₂ => wpAny _ _ (newList _) _ _ s₂) _ _); with_reducible refine' nil_lst (by k_dflt k_asm) (by k_dflt k_asm) (by k_dflt (exact Nat.le_of_ble_eq_true rfl)) ?_; k_whole; intro zzl' zzh' zzF' zzN' zzl1; (try k_lt zzl1); (try k_sweep)) | fail)
  exact trivial
section
theorem split_fin {M : Model} {A : Around} {E : Value → Shared → Prop} {env : Env} {body : List Stmt} {h : Heap} {g : Array GenState} {d : Drawn} {X : Nat} {os : OsState} {Q : Flow → Shared → Prop} (R : Heap → Prop) (fin : ∀ h' tk, R h' → Q (.ret (.bool true)) ⟨h', g, d, tk, os⟩)
    (k : let nk := env; let ak := A.deeper nk; ∀ G : Flow → Shared → Prop, (∀ h' tk, R h' → G (.ret (.bool true)) ⟨h', g, d, tk, os⟩) → Into Q G → wpAny M ak (execs body nk) G E ⟨h, g, d, X, os⟩) : wpAny M (A.deeper env) (execs body env) Q E ⟨h, g, d, X, os⟩ := k Q fin fun _ _ x => x
section
variable {h₀ h : Heap} {L : Addr} {l r : Led} {P : Prop} {a b c : Addr} {oa ob oc : Obj}
theorem frz3 (N : News h₀ L h l) (hs : ∀ p ∈ (a, oa) :: (b, ob) :: (c, oc) :: r, p ∈ l) (n1 : AllNe a r) (n2 : AllNe b r) (n3 : AllNe c r) (k : ∀ nf, News h₀ L h ((a, oa) :: (b, ob) :: (c, oc) :: nf) → (∀ p ∈ r, p ∈ nf) → AllNe a nf → AllNe b nf → AllNe c nf → P) : P := k r (newsSub N hs) (fun _ h => h) n1 n2 n3
theorem frz2 (N : News h₀ L h l) (hs : ∀ p ∈ (a, oa) :: (b, ob) :: r, p ∈ l) (n1 : AllNe a r) (n2 : AllNe b r) (k : ∀ nf, News h₀ L h ((a, oa) :: (b, ob) :: nf) → (∀ p ∈ r, p ∈ nf) → AllNe a nf → AllNe b nf → P) : P := k r (newsSub N hs) (fun _ h => h) n1 n2
theorem frz1 (N : News h₀ L h l) (hs : ∀ p ∈ (a, oa) :: r, p ∈ l) (n1 : AllNe a r) (k : ∀ nf, News h₀ L h ((a, oa) :: nf) → (∀ p ∈ r, p ∈ nf) → AllNe a nf → P) : P := k r (newsSub N hs) (fun _ h => h) n1
end
theorem kw29_1 : True := by
  (k_with "m k_mem" => first | (first | with_reducible assumption | exact mem_via2 (by with_reducible assumption) (by with_reducible assumption)) | fail)
  (k_with "m k_handed" => first | (first | exact KdIs.handed (by assumption) | exact ToldIs.handed (by assumption)) | fail)
  (k_with "m pull" => first | (first | exact Pull.here | exact Pull.there (by k_extra "m pull")) | fail)
  (k_with "l hd" => first | (first | exact Nat.le_of_ble_eq_true rfl | omega | ((try dsimp +zetaDelta only); (try dsimp only [ktrTop]); omega)) | fail)
  (k_with "call type:range" => first | (k_here; (with_reducible show wpAny _ _ (call (Value.type "range") [Value.int _ _]) (fun xv s₁ => wpAny _ _ (pyIter xv) (fun it s₂ => TurnsAt _ _ _ _ _ _ _ _ _ it s₂) _ s₁) _ _); k_dflt (first | (refine' rng_any (b := 2) (by exact rfl) (by k_asm) (by k_asm) (Mine.two_of _) (by decide) ?_; k_whole) | (refine' rng_any (b := 4) (by exact rfl) (by k_asm) (by k_asm) (⟨4, rfl, Nat.le_refl _⟩) (by decide) ?_; k_whole)); intro zzn9 zzhn9 zzi' zzl1; (try k_lt zzl1)) | fail)
  (k_with "l pool" => first | (k_here; (with_reducible show wpAny _ _ (call (Value.ref 335) _) _ _ _); k_dflt (refine' CallsH.use (by k_asm) (by k_asm) (by k_asm) (by k_asm) (by k_asm) (by exact rfl) (by exact pool_c (by assumption) (by assumption) (by assumption)) (by assumption) (by k_extra "l hd") (by k_extra "l hd") ?_; k_whole); intro zzr9 zzn9 zzh9 zztk9 zzF9 zzN9 zzo9; obtain ⟨zzl9, zzo9, zze1, zze2, zzq1, zzq2⟩ := zzo9; subst zze1; subst zze2; (simp only [AllLt, and_true] at zzq2); (try dsimp only); (try k_sweep)) | fail)
  (k_with "CompEnd" => first | (k_dflt (refine comp_end1 (by k_asm) (by k_asm) (by assumption) ⟨by k_ne, by k_ne, by k_ne⟩ (by lcg_src) ?_)) | fail)
  (k_with "call type:dict" => first | (k_here; (with_reducible show wpAny _ _ (call (Value.type "dict") [Value.ref _]) _ _ _); k_dflt (refine' dict_pairs (by exact rfl) (by k_asm) (by k_asm) (by exact Top.nolimit (by k_asm)) (by k_mem) (by k_mem) (by k_mem) (by decide) ?_; k_whole); intro zzd' zzh' zzo' zztk' zzF' zzN' zzl1 zzlo' zzsd'; (try k_lt zzl1)) | fail)
  (k_with "l sub" => first | (first | assumption | exact sub_tl (Mine.sub_tl (fun _ h => h)) | exact sub_tl (by assumption) | exact sub_tl (Mine.sub_tl (by assumption)) | k_extra "m subs") | fail)
  (k_with "l told" => first | (k_here; (with_reducible show wpAny _ _ (call (Value.ref 389) _) _ _ _); k_dflt (refine' CallsT.use (by k_asm) (by k_asm) (by k_asm) (by k_asm) (by k_asm) (by assumption) (by assumption) (by exact rfl) (by first | exact told_g (by assumption) (by assumption) (by k_extra "l sub") (by assumption) (by k_extra "m subs") (by assumption) (by assumption) (by assumption) (by assumption) | exact told_v (by assumption) (by assumption) (by k_extra "l sub") (by k_mem) (by assumption)) (by k_extra "l hd") (by k_extra "l hd") ?_; k_whole); intro zzr9 zzn9 zzh9 zztk9 zzF9 zzN9 zzo9; k_dflt (obtain ⟨zzs9, zzs8, zzq9⟩ := zzo9); (try dsimp only)) | fail)
  (k_with "m agr" => first | (first | assumption | exact agree_over | exact agree_refl | (refine agree_store ?_ (by decide); k_extra "m agr") | (refine agree_over2 ?_ (by decide); k_extra "m agr")) | fail)
  (k_with "l find" => first | (k_here; (with_reducible show wpAny _ _ (call (Value.ref 235) _) _ _ _); k_dflt (refine' CallsX.use (by k_asm) (by k_asm) (by k_asm) (by k_asm) (by k_asm) (by exact rfl) (by exact find_b (by assumption) (by assumption) (by k_extra "l sub") (by k_mem)) (by k_extra "l hd") (by k_extra "l hd") ?_ (by exact fun _ _ _ _ _ c => c.elim); k_whole); intro zzr9 zzn9 zzh9 zztk9 zzF9 zzN9 zzo9; k_dflt (obtain ⟨zzs9, zzs8, zze1⟩ := zzo9); subst zze1; (try dsimp only)) | fail)
  (k_with "eval Name" => first | (k_here; (with_reducible show wpAny _ _ (eval (PySem.Expr.Name (Str.ofString "world") _) (envOfC _ _ _ _ _)) _ _ _); k_dflt (refine' nameX_C (by k_asm) (by exact rfl) (by first | exact List.Mem.tail _ (by assumption) | exact mem_via2 (by assumption) (Mine.sub_tl (by assumption)) | exact mem_via2 (by assumption) (by assumption)) (by assumption) ?_ (by exact rfl) (by exact rfl) (by decide); k_whole)) | fail)
  (k_with "m mm" => first | (first | (with_reducible apply mem_hd) | ((with_reducible apply mem_tl); k_extra "m mm")) | fail)
  (k_with "compareOp NotEq" => first | (k_here; k_dflt (refine' told_ne (by k_asm) (by assumption) (by assumption) (by k_extra "m subs") (by k_extra "m subs") (by k_extra "l hd") ?_; k_whole)) | fail)
  (k_with "compareOp NotEq str" => first | (k_here; k_dflt (refine' told_ne_unk (by k_asm) (by assumption) (by exact fun _ h => h) (by k_extra "l hd") ?_; k_whole)) | fail)
  (k_with "m con" => first | (first | ((with_reducible show Mine.Calls _ _ _ _ _ _ 324 _ _ _); exact wnew_c) | ((with_reducible show Mine.Calls _ _ _ _ _ _ 273 _ _ _); exact trrow_c) | ((with_reducible show Mine.Calls _ _ _ _ _ _ 295 _ _ _); first | exact implrow_c .a | exact implrow_c .no) | ((with_reducible show Mine.Calls _ _ _ _ _ _ 356 _ _ _); exact sig_c .rd) | ((with_reducible show Mine.Calls _ _ _ _ _ _ 349 _ _ _); exact one_b (by k_extra "m pull") (by k_extra "m ne") (by k_mem) (by k_mem) (by k_mem) (by k_mem) (by assumption)) | ((with_reducible show Mine.Calls _ _ _ _ _ _ 396 _ _ _); exact type_c (by k_extra "m pull") (by first | exact ⟨Ne.symm (by assumption), by assumption⟩ | k_extra "m ne") (by assumption)) | ((with_reducible show Mine.Calls _ _ _ _ _ _ 382 _ _ _); exact due_g (by assumption) (by assumption) (by assumption) (by assumption) (by assumption) (by k_extra "l sub") (by assumption) (by k_extra "m subs") (by assumption) (by assumption))) | fail)
  (k_with "m out" => first | (intro zzn9 zzr9 zzo9; first | ((have zzo8 : Mine.WNew _ _ _ _ := zzo9); clear zzo9; rcases zzo8 with @⟨zzx9, zzdx9, zzsg9, zztr9, zzim9, zzso9, zzto9, zzod8, zzt1, zzt2, zzt3, zzt4, zzt5, zzt6, zzt7, zzt8, zzv1, zzv2, zzv3, zzv7, zzv8, zzg1, zzg2, zzg3, zzg4, zzq1, zzq2, zzq3, zzq4, zzq5, zzq6, zzq7, zzq8, zzq9, zzq0⟩; (simp only [AllLt, and_true] at zzq1 zzq2 zzq4 zzq6 zzq8)) | ((have zzo8 : Mine.TRow _ _ _ _ _ _ _ _ _ := zzo9); clear zzo9; rcases zzo8 with @⟨zzx9, zzdx9, zzs1, zzs2, zzs3, zzs4, zzq1, zzq2, zzq3⟩; (simp only [AllLt, and_true] at zzq1 zzq3)) | ((have zzo8 : Mine.RowOut _ _ _ _ _ _ _ _ _ _ _ _ := zzo9); clear zzo9; rcases zzo8 with @⟨zzx9, zzdx9, zzs1, zzs2, zzs3, zzs4, zzs5, zzs6, zzs7, zzs8, zzsp, zzq1, zzq2, zzq3⟩; (simp only [AllLt, and_true] at zzq1 zzq3)) | (obtain ⟨zzx9, zzdx9, zzod9, zze1, zze2, zzq1, zzq2, zzq3⟩ := zzo9; subst zze1; subst zze2; (simp only [AllLt, and_true] at zzq2 zzq3)) | (obtain ⟨zzo9, zzb9, zzbs9, zze1, zzq1, zzq2, zzq3, zze2⟩ := zzo9; subst zze1; subst zze2) | (obtain ⟨zznf9, zzo9, zzty9, zza9, zze1, zze2, zzq1, zzq2, zzq3, zzq4, zzq5, zzq6⟩ := zzo9; subst zze1; subst zze2; (have zzs8 := Mine.sub_hd zzq1); (have zzm8 := zzq1 _ (List.Mem.head _))) | (obtain ⟨zzs9, zzs8, zzq9⟩ := zzo9)) | fail)
  (k_with "m callL" => first | (k_here; k_dflt (refine' Calls.use' (by k_asm) (by k_asm) (by k_asm) (by k_asm) (by k_asm) (by exact rfl) (by k_extra "m con") (by k_extra "l hd") (by k_extra "l hd") ?_; k_whole); ((intro zzG9 zzhG9; k_dflt (k_extra "m out")) <;> (refine zzhG9 _ _ ?_; intro zzh9 zztk9 zzF9 zzN9; (try k_sweep)))) | fail)
  (k_with "l world" => first | (k_here; (with_reducible show wpAny _ _ (call (Value.ref 363) _) _ _ _); k_dflt (refine' Calls.use (by k_asm) (by k_asm) (by k_asm) (by k_asm) (by k_asm) (by exact rfl) (by exact world_c (by k_extra "m pull") (by k_extra "m ne") (by assumption)) (by k_extra "l hd") (by k_extra "l hd") ?_; k_whole); intro zzr9 zzn9 zzh9 zztk9 zzF9 zzN9 zzo9; k_dflt (refine hide fun hG9 => ?_); k_dflt (have zzo8 := Mine.world_cut zzo9 zzN9 (.tail _ (.head _)) (.head _) (by assumption)); clear zzo9 zzN9; k_dflt (rcases zzo8 with @⟨zzp9, zzkp9, zzx9, zzrl9, zzrvs9, zzrep9, zzo9, zznf9, zzimps9, zzks9, zzN9, zzq1, zzq2, zzq3, zzq4, zzq5, zzq0, zzq6, zzq7, zzq8, zzq9, zzq10⟩); k_dflt (rcases zzq0 with @⟨zzwx, zzwtr, zzwto, zzwsg, zzwim, zzwa, zzwb, _, _, _, _, _, _, _, _, _, _, _, _, _, zzw1, zzw2, zzw3, zzw4, zzw5, zzw6, zzw7⟩); k_dflt (rcases zzw6 with @⟨_, _, _, _, _, _, _, _, _, _, _, _, _, _, _, _, _, _, _, _, _, _, _, _, _, _, _, _, zza1, zza2, zza3, zza4, zza5, zza6, zza7, zza8⟩); k_dflt (rcases zzw7 with @⟨_, _, _, _, _, _, _, _, _, _, _, _, _, _, _, _, _, _, _, _, _, _, _, _, _, _, _, _, zzb1, zzb2, zzb3, zzb4, zzb5, zzb6, zzb7, zzb8⟩); k_dflt (refine hG9 ?_); clear hG9; (try dsimp only); (try k_sweep)) | fail)
  (k_with "setItem ref str" => first | (k_here; (with_reducible show wpAny _ _ (setItem (Value.ref _) (Value.str _ _) _) _ _ _); k_dflt (refine' set_sd (by k_asm) (by k_asm) (by k_updF) (by first | with_reducible assumption | exact sd_empty | k_asm) (by first | exact Nat.le_of_ble_eq_true rfl | omega) (by first | exact stored_nil | exact stored_one (by decide) | exact stored_new (by assumption)) ?_; k_whole); intro zzh' zzo' zzF' zzN' zzhd'; (try dsimp only at zzN'); (try k_sweep)) | fail)
  (k_with "call ref" => first | (first | k_extra "m callL" | k_extra "l pool" | k_extra "l world" | k_extra "l told" | k_extra "l find" | ((with_reducible show wpAny _ _ (call (Value.ref 389) _) _ _ _); refine Wait.get ?_)) | fail)
  (k_with "m leave" => first | ((have zzzw9 : Mine.Wait True := by with_reducible assumption); clear zzzw9; k_end; refine gnext (by with_reducible assumption) ?_) | fail)
  (k_with "setAttr ref" => first | (k_here; (have zzzw8 : Mine.Wait (True ∧ True) := by with_reducible assumption); clear zzzw8; refine Wait.get ?_) | fail)
  (k_with "execs cons" => first | (k_here; (have zzzw9 : Mine.Wait True := by with_reducible assumption); refine Wait.get ?_) | fail)
  exact trivial
local macro_rules | `(tactic| k_qdec) => `(tactic| decide +kernel) -- no twin
set_option maxHeartbeats 8000000 in
theorem law_holds : PySem.Challenge.rw_nu0383_01.Holds := by
  refine hd ?_
  k_go0
  all_goals try k_fold
  have zzB' := trivial; have zzD' := trivial; have zzF' := trivial; have zzF9 := trivial; have zzG' := trivial; have zzG9 := trivial; have zzN' := trivial; have zzN9 := trivial; have zzZ' := trivial; have zza1 := trivial; have zza2 := trivial; have zza3 := trivial; have zza4 := trivial; have zza5 := trivial; have zza6 := trivial; have zza7 := trivial; have zza8 := trivial; have zza9 := trivial; have zzb' := trivial; have zzb0 := trivial; have zzb1 := trivial; have zzb2 := trivial; have zzb3 := trivial; have zzb4 := trivial; have zzb5 := trivial; have zzb6 := trivial; have zzb7 := trivial; have zzb8 := trivial; have zzb9 := trivial; have zzbs9 := trivial; have zzc0 := trivial; have zzc1 := trivial; have zzc2 := trivial; have zzc3 := trivial; have zzc4 := trivial; have zzc5 := trivial; have zzd' := trivial; have zzdx9 := trivial; have zze' := trivial; have zze1 := trivial; have zze2 := trivial; have zze3 := trivial; have zze7 := trivial; have zze8 := trivial; have zze9 := trivial; have zzep' := trivial; have zzg' := trivial; have zzg1 := trivial; have zzg2 := trivial; have zzg3 := trivial; have zzg4 := trivial; have zzh' := trivial; have zzh9 := trivial; have zzhG' := trivial; have zzhG9 := trivial; have zzhcl9 := trivial; have zzhd' := trivial; have zzhn9 := trivial; have zzhrl9 := trivial; have zzi' := trivial; have zzim9 := trivial; have zzimps9 := trivial; have zzkp9 := trivial; have zzks9 := trivial; have zzl' := trivial; have zzl1 := trivial; have zzl1' := trivial; have zzl9 := trivial; have zzlF' := trivial; have zzlo' := trivial; have zzm7 := trivial; have zzm8 := trivial; have zzm9 := trivial; have zzn7 := trivial; have zzn8 := trivial; have zzn9 := trivial; have zznN' := trivial; have zznf9 := trivial; have zzo' := trivial; have zzo8 := trivial; have zzo9 := trivial; have zzod8 := trivial; have zzod9 := trivial; have zzp9 := trivial; have zzq' := trivial; have zzq0 := trivial; have zzq1 := trivial; have zzq10 := trivial; have zzq2 := trivial; have zzq3 := trivial; have zzq4 := trivial; have zzq5 := trivial; have zzq6 := trivial; have zzq7 := trivial; have zzq8 := trivial; have zzq9 := trivial; have zzr := trivial; have zzr7 := trivial; have zzr8 := trivial; have zzr9 := trivial; have zzrep9 := trivial; have zzrl9 := trivial; have zzrvs9 := trivial; have zzs1 := trivial; have zzs2 := trivial; have zzs3 := trivial; have zzs4 := trivial; have zzs5 := trivial; have zzs6 := trivial; have zzs7 := trivial; have zzs8 := trivial; have zzs9 := trivial; have zzsd' := trivial; have zzsg9 := trivial; have zzso9 := trivial; have zzsp := trivial; have zzt1 := trivial; have zzt2 := trivial; have zzt3 := trivial; have zzt4 := trivial; have zzt5 := trivial; have zzt6 := trivial; have zzt7 := trivial; have zzt8 := trivial; have zzt9 := trivial; have zztk' := trivial; have zztk9 := trivial; have zzto9 := trivial; have zztr9 := trivial; have zzty9 := trivial; have zzv1 := trivial; have zzv2 := trivial; have zzv3 := trivial; have zzv7 := trivial; have zzv8 := trivial; have zzvs' := trivial; have zzw1 := trivial; have zzw2 := trivial; have zzw3 := trivial; have zzw4 := trivial; have zzw5 := trivial; have zzw6 := trivial; have zzw7 := trivial; have zzwa := trivial; have zzwb := trivial; have zzwim := trivial; have zzwsg := trivial; have zzwto := trivial; have zzwtr := trivial; have zzwx := trivial; have zzx9 := trivial; have zzy9 := trivial; have zzzw8 := trivial; have zzzw9 := trivial
  rename_i w s0 s1 mg mb G Y fa o pm doc ho hg KX X V GL T B TE TW w10 w9 M w8 w7 hcd ns hs hlay0 hL1 hr1 hl2 w5 w4 sa vs w1 hS ra w1w r0 hI hr hc1 hc0 K0 hD h1 tk1 F1 oc oc1 N0 X0
  clear X0 hD hc0 hc1 hr r0 w1w ra hl2 hr1 hlay0 hs hcd M TW TE B GL V X G Y
  replace F1 : Fr s1.heap s1.heap.objs.size h1 (fun y => if y = ("script" : Str) then some (.ref sa) else none) := F1
  replace oc1 : oc.data = Data.cell none := oc1
  replace K0 : Below callerA s1.heap [] s1.heap := K0
  (try dsimp only)
  refine split_fin (fun h' => ∃ m' n', Fr s1.heap s1.heap.objs.size h' m' ∧ News s1.heap s1.heap.objs.size h' n') ?_ ?_
  · intro h' tk z9
    obtain ⟨m', n', F', N'⟩ := z9
    clear F1 N0 K0
    k_steps
  intro nk ak Q0 fin0 hQ0
  k_steps
  refine k_loop (NS := ["k", "source", "rows", "kinds", "bounds", "turn", "told"]) oc1 ?_ ?_
  · intro a r oc x u h tk oI t mk ha hoc F9 N9 fin
    rename (@LT.lt _ _ (s1.heap.objs.size + 1) _) => ltC
    have neC := Nat.ne_of_lt ltC
    have hk9 : ((a : Nat) : Int) = 0 ∨ ((a : Nat) : Int) = 1 := by omega
    refine hideB fun G8 hG8 => ?_
    k_steps
    have zzB' := trivial; have zzD' := trivial; have zzF' := trivial; have zzF9 := trivial; have zzG' := trivial; have zzG9 := trivial; have zzN' := trivial; have zzN9 := trivial; have zzZ' := trivial; have zza1 := trivial; have zza2 := trivial; have zza3 := trivial; have zza4 := trivial; have zza5 := trivial; have zza6 := trivial; have zza7 := trivial; have zza8 := trivial; have zza9 := trivial; have zzb' := trivial; have zzb0 := trivial; have zzb1 := trivial; have zzb2 := trivial; have zzb3 := trivial; have zzb4 := trivial; have zzb5 := trivial; have zzb6 := trivial; have zzb7 := trivial; have zzb8 := trivial; have zzb9 := trivial; have zzbs9 := trivial; have zzc0 := trivial; have zzc1 := trivial; have zzc2 := trivial; have zzc3 := trivial; have zzc4 := trivial; have zzc5 := trivial; have zzd' := trivial; have zzdx9 := trivial; have zze' := trivial; have zze1 := trivial; have zze2 := trivial; have zze3 := trivial; have zze7 := trivial; have zze8 := trivial; have zze9 := trivial; have zzep' := trivial; have zzg' := trivial; have zzg1 := trivial; have zzg2 := trivial; have zzg3 := trivial; have zzg4 := trivial; have zzh' := trivial; have zzh9 := trivial; have zzhG' := trivial; have zzhG9 := trivial; have zzhcl9 := trivial; have zzhd' := trivial; have zzhn9 := trivial; have zzhrl9 := trivial; have zzi' := trivial; have zzim9 := trivial; have zzimps9 := trivial; have zzkp9 := trivial; have zzks9 := trivial; have zzl' := trivial; have zzl1 := trivial; have zzl1' := trivial; have zzl9 := trivial; have zzlF' := trivial; have zzlo' := trivial; have zzm7 := trivial; have zzm8 := trivial; have zzm9 := trivial; have zzn7 := trivial; have zzn8 := trivial; have zzn9 := trivial; have zznN' := trivial; have zznf9 := trivial; have zzo' := trivial; have zzo8 := trivial; have zzo9 := trivial; have zzod8 := trivial; have zzod9 := trivial; have zzp9 := trivial; have zzq' := trivial; have zzq0 := trivial; have zzq1 := trivial; have zzq10 := trivial; have zzq2 := trivial; have zzq3 := trivial; have zzq4 := trivial; have zzq5 := trivial; have zzq6 := trivial; have zzq7 := trivial; have zzq8 := trivial; have zzq9 := trivial; have zzr := trivial; have zzr7 := trivial; have zzr8 := trivial; have zzr9 := trivial; have zzrep9 := trivial; have zzrl9 := trivial; have zzrvs9 := trivial; have zzs1 := trivial; have zzs2 := trivial; have zzs3 := trivial; have zzs4 := trivial; have zzs5 := trivial; have zzs6 := trivial; have zzs7 := trivial; have zzs8 := trivial; have zzs9 := trivial; have zzsd' := trivial; have zzsg9 := trivial; have zzso9 := trivial; have zzsp := trivial; have zzt1 := trivial; have zzt2 := trivial; have zzt3 := trivial; have zzt4 := trivial; have zzt5 := trivial; have zzt6 := trivial; have zzt7 := trivial; have zzt8 := trivial; have zzt9 := trivial; have zztk' := trivial; have zztk9 := trivial; have zzto9 := trivial; have zztr9 := trivial; have zzty9 := trivial; have zzv1 := trivial; have zzv2 := trivial; have zzv3 := trivial; have zzv7 := trivial; have zzv8 := trivial; have zzvs' := trivial; have zzw1 := trivial; have zzw2 := trivial; have zzw3 := trivial; have zzw4 := trivial; have zzw5 := trivial; have zzw6 := trivial; have zzw7 := trivial; have zzwa := trivial; have zzwb := trivial; have zzwim := trivial; have zzwsg := trivial; have zzwto := trivial; have zzwtr := trivial; have zzwx := trivial; have zzx9 := trivial; have zzy9 := trivial; have zzzw8 := trivial; have zzzw9 := trivial
    rename_i dK h8 oK t2 loK sdK lK h7 t1 _ _ dB h6 oB0 loB hdB0 lB D2 h5 lD2 D1 h4 lD1 D0 h3 lD0 lt h2 llt _ _ o9 b9 bs9 hBT hSo hneS h9 tk9 h1 oB hdB h0 lF N0 tk0 _ _ n9 hn9 I2 lI2
    rename WorldIn _ _ _ _ _ => hW
    rename RowsIn _ _ _ => hR
    rename List.length _ ≤ 4 => hl4
    rename (∀ i ∈ _, Imp.num i ≤ 8) => hnum
    rename (∀ i ∈ _, ∀ t, Imp.trait i = some t → Imp.kind i = _) => hkd
    rename (Obj.data _ = .cell (some _)) => hcell
    obtain ⟨RR, hsub, hW', hB', hK', hrl', hR', mI', mc', ne1⟩ := pack (c := s1.heap.objs.size + 1) N0 mk hcell hW hR (by assumption) hBT hdB loB sdK loK (by assumption) (by assumption) (by k_extra "m mm") (by k_extra "m mm") (by k_extra "m mm") (by k_extra "m mm") (by k_extra "m mm") (by k_extra "m mm") (by k_extra "m mm") (fun p hp => .tail _ (.tail _ (.tail _ (.tail _ (.tail _ (.tail _ (.tail _ (.tail _ (.tail _ (.tail _ (.tail _ (.tail _ hp)))))))))))) hneS
    have neI : AllNe I2 RR := allNe_sub (allNe_lt (l := (_, _) :: (_, _) :: (_, _) :: (_, _) :: (_, _) :: (_, _) :: (_, _) :: (_, _) :: (_, _) :: (_, _) :: (_, _) :: (_, _) :: _) lI2.2) hsub
    have neS : @Ne Nat _ I2 := Nat.ne_of_lt lI2.1
    refine items_sub (news' := (_, _) :: RR) (List.forall_mem_cons.mpr ⟨.head _, fun p hp => .tail _ (hsub p hp)⟩) ?_
    refine s_loop (NS := ["turn", "told"]) hSo ?_ ?_
    · intro a2 r2 so2 u2 hp2 tk2 oI2 tt2 mk2 hSo2 F2 N2
      refine hideB fun G7 hG7 => ?_
      k_steps
      have zzB' := trivial; have zzD' := trivial; have zzF' := trivial; have zzF9 := trivial; have zzG' := trivial; have zzG9 := trivial; have zzN' := trivial; have zzN9 := trivial; have zzZ' := trivial; have zza1 := trivial; have zza2 := trivial; have zza3 := trivial; have zza4 := trivial; have zza5 := trivial; have zza6 := trivial; have zza7 := trivial; have zza8 := trivial; have zza9 := trivial; have zzb' := trivial; have zzb0 := trivial; have zzb1 := trivial; have zzb2 := trivial; have zzb3 := trivial; have zzb4 := trivial; have zzb5 := trivial; have zzb6 := trivial; have zzb7 := trivial; have zzb8 := trivial; have zzb9 := trivial; have zzbs9 := trivial; have zzc0 := trivial; have zzc1 := trivial; have zzc2 := trivial; have zzc3 := trivial; have zzc4 := trivial; have zzc5 := trivial; have zzd' := trivial; have zzdx9 := trivial; have zze' := trivial; have zze1 := trivial; have zze2 := trivial; have zze3 := trivial; have zze7 := trivial; have zze8 := trivial; have zze9 := trivial; have zzep' := trivial; have zzg' := trivial; have zzg1 := trivial; have zzg2 := trivial; have zzg3 := trivial; have zzg4 := trivial; have zzh' := trivial; have zzh9 := trivial; have zzhG' := trivial; have zzhG9 := trivial; have zzhcl9 := trivial; have zzhd' := trivial; have zzhn9 := trivial; have zzhrl9 := trivial; have zzi' := trivial; have zzim9 := trivial; have zzimps9 := trivial; have zzkp9 := trivial; have zzks9 := trivial; have zzl' := trivial; have zzl1 := trivial; have zzl1' := trivial; have zzl9 := trivial; have zzlF' := trivial; have zzlo' := trivial; have zzm7 := trivial; have zzm8 := trivial; have zzm9 := trivial; have zzn7 := trivial; have zzn8 := trivial; have zzn9 := trivial; have zznN' := trivial; have zznf9 := trivial; have zzo' := trivial; have zzo8 := trivial; have zzo9 := trivial; have zzod8 := trivial; have zzod9 := trivial; have zzp9 := trivial; have zzq' := trivial; have zzq0 := trivial; have zzq1 := trivial; have zzq10 := trivial; have zzq2 := trivial; have zzq3 := trivial; have zzq4 := trivial; have zzq5 := trivial; have zzq6 := trivial; have zzq7 := trivial; have zzq8 := trivial; have zzq9 := trivial; have zzr := trivial; have zzr7 := trivial; have zzr8 := trivial; have zzr9 := trivial; have zzrep9 := trivial; have zzrl9 := trivial; have zzrvs9 := trivial; have zzs1 := trivial; have zzs2 := trivial; have zzs3 := trivial; have zzs4 := trivial; have zzs5 := trivial; have zzs6 := trivial; have zzs7 := trivial; have zzs8 := trivial; have zzs9 := trivial; have zzsd' := trivial; have zzsg9 := trivial; have zzso9 := trivial; have zzsp := trivial; have zzt1 := trivial; have zzt2 := trivial; have zzt3 := trivial; have zzt4 := trivial; have zzt5 := trivial; have zzt6 := trivial; have zzt7 := trivial; have zzt8 := trivial; have zzt9 := trivial; have zztk' := trivial; have zztk9 := trivial; have zzto9 := trivial; have zztr9 := trivial; have zzty9 := trivial; have zzv1 := trivial; have zzv2 := trivial; have zzv3 := trivial; have zzv7 := trivial; have zzv8 := trivial; have zzvs' := trivial; have zzw1 := trivial; have zzw2 := trivial; have zzw3 := trivial; have zzw4 := trivial; have zzw5 := trivial; have zzw6 := trivial; have zzw7 := trivial; have zzwa := trivial; have zzwb := trivial; have zzwim := trivial; have zzwsg := trivial; have zzwto := trivial; have zzwtr := trivial; have zzwx := trivial; have zzx9 := trivial; have zzy9 := trivial; have zzzw8 := trivial; have zzzw9 := trivial
      rename_i _ _ _ _ _ _ nf9 o9b ty9 a9 q1 q2 q3 q4 q5 q6 s8a m8 _ _ _ _ _ _ r9a n9a h9a tk9a s9a s8b q9a _ _ n9b r9b s9b s8c q9b h9b tk9b F9b N9b tkx tky
      exact s_end F9b N9b (s9b _ (s9a _ (.tail _ m8))) (s9b _ (s9a _ (.head _))) s8c neS neI q3 (by k_extra "m agr")
    · intro so2 u2 hp2 tk2 hSo2 F2 N2
      k_steps
      rename News _ _ _ _ => Nz
      rename Fr _ _ _ _ => Fz
      rename (∀ p ∈ RR, p ∈ _) => s8z
      exact k_end fin Fz Nz (s8z _ mI') (s8z _ mc') neC hcell (by k_extra "m agr")
  · intro oc2 x u h tk hoc F9 N9
    have zw : Wait True := ⟨trivial⟩
    have zs : Wait (True ∧ True) := ⟨trivial, trivial⟩
    k_steps
    refine Wait.mk ?_
    refine exec_cons_h ?_
    intro tk1 G1 hG1
    k_steps
    have zzB' := trivial; have zzD' := trivial; have zzF' := trivial; have zzF9 := trivial; have zzG' := trivial; have zzG9 := trivial; have zzN' := trivial; have zzN9 := trivial; have zzZ' := trivial; have zza1 := trivial; have zza2 := trivial; have zza3 := trivial; have zza4 := trivial; have zza5 := trivial; have zza6 := trivial; have zza7 := trivial; have zza8 := trivial; have zza9 := trivial; have zzb' := trivial; have zzb0 := trivial; have zzb1 := trivial; have zzb2 := trivial; have zzb3 := trivial; have zzb4 := trivial; have zzb5 := trivial; have zzb6 := trivial; have zzb7 := trivial; have zzb8 := trivial; have zzb9 := trivial; have zzbs9 := trivial; have zzc0 := trivial; have zzc1 := trivial; have zzc2 := trivial; have zzc3 := trivial; have zzc4 := trivial; have zzc5 := trivial; have zzd' := trivial; have zzdx9 := trivial; have zze' := trivial; have zze1 := trivial; have zze2 := trivial; have zze3 := trivial; have zze7 := trivial; have zze8 := trivial; have zze9 := trivial; have zzep' := trivial; have zzg' := trivial; have zzg1 := trivial; have zzg2 := trivial; have zzg3 := trivial; have zzg4 := trivial; have zzh' := trivial; have zzh9 := trivial; have zzhG' := trivial; have zzhG9 := trivial; have zzhcl9 := trivial; have zzhd' := trivial; have zzhn9 := trivial; have zzhrl9 := trivial; have zzi' := trivial; have zzim9 := trivial; have zzimps9 := trivial; have zzkp9 := trivial; have zzks9 := trivial; have zzl' := trivial; have zzl1 := trivial; have zzl1' := trivial; have zzl9 := trivial; have zzlF' := trivial; have zzlo' := trivial; have zzm7 := trivial; have zzm8 := trivial; have zzm9 := trivial; have zzn7 := trivial; have zzn8 := trivial; have zzn9 := trivial; have zznN' := trivial; have zznf9 := trivial; have zzo' := trivial; have zzo8 := trivial; have zzo9 := trivial; have zzod8 := trivial; have zzod9 := trivial; have zzp9 := trivial; have zzq' := trivial; have zzq0 := trivial; have zzq1 := trivial; have zzq10 := trivial; have zzq2 := trivial; have zzq3 := trivial; have zzq4 := trivial; have zzq5 := trivial; have zzq6 := trivial; have zzq7 := trivial; have zzq8 := trivial; have zzq9 := trivial; have zzr := trivial; have zzr7 := trivial; have zzr8 := trivial; have zzr9 := trivial; have zzrep9 := trivial; have zzrl9 := trivial; have zzrvs9 := trivial; have zzs1 := trivial; have zzs2 := trivial; have zzs3 := trivial; have zzs4 := trivial; have zzs5 := trivial; have zzs6 := trivial; have zzs7 := trivial; have zzs8 := trivial; have zzs9 := trivial; have zzsd' := trivial; have zzsg9 := trivial; have zzso9 := trivial; have zzsp := trivial; have zzt1 := trivial; have zzt2 := trivial; have zzt3 := trivial; have zzt4 := trivial; have zzt5 := trivial; have zzt6 := trivial; have zzt7 := trivial; have zzt8 := trivial; have zzt9 := trivial; have zztk' := trivial; have zztk9 := trivial; have zzto9 := trivial; have zztr9 := trivial; have zzty9 := trivial; have zzv1 := trivial; have zzv2 := trivial; have zzv3 := trivial; have zzv7 := trivial; have zzv8 := trivial; have zzvs' := trivial; have zzw1 := trivial; have zzw2 := trivial; have zzw3 := trivial; have zzw4 := trivial; have zzw5 := trivial; have zzw6 := trivial; have zzw7 := trivial; have zzwa := trivial; have zzwb := trivial; have zzwim := trivial; have zzwsg := trivial; have zzwto := trivial; have zzwtr := trivial; have zzwx := trivial; have zzx9 := trivial; have zzy9 := trivial; have zzzw8 := trivial; have zzzw9 := trivial
    rename_i _ _ x dx sg tr im so to od t1 t2 t3 t4 t5 t6 t7 t8 v1 v2 v3 v7 v8 g1 g2 g3 g4 q3 q5 q7 q9 hod q1 q2 q4 q6 q8 _ _ Db _ lb Dc _ lc Do _ lo Dt _ lt _ _ _ Fz Nz _
    refine Wait.mk ?_
    refine frz3 (a := tr) (b := sg) (c := dx) (r := (Do, _) :: (Dc, _) :: (Db, _) :: (im, _) :: (x, _) :: []) Nz (by k_extra "m subs") (by k_extra "m ne") (by k_extra "m ne") (by k_extra "m ne") ?_
    clear Nz lb lc lo lt
    intro nf N1 hs1 n1 n2 n3
    subst hod
    have mx : (x, instObj 324 dx) ∈ nf := hs1 _ (by k_extra "m mm")
    have e1 : @Ne Nat sg tr := Nat.ne_of_lt q7
    have e2 : @Ne Nat dx tr := Nat.ne_of_lt (Nat.lt_trans q3 (Nat.lt_trans q5 q7))
    have e3 : @Ne Nat dx sg := Nat.ne_of_lt (Nat.lt_trans q3 q5)
    refine exec_cons_h ?_
    intro tk2 G2 hG2
    k_steps
    have zzB' := trivial; have zzD' := trivial; have zzF' := trivial; have zzF9 := trivial; have zzG' := trivial; have zzG9 := trivial; have zzN' := trivial; have zzN9 := trivial; have zzZ' := trivial; have zza1 := trivial; have zza2 := trivial; have zza3 := trivial; have zza4 := trivial; have zza5 := trivial; have zza6 := trivial; have zza7 := trivial; have zza8 := trivial; have zza9 := trivial; have zzb' := trivial; have zzb0 := trivial; have zzb1 := trivial; have zzb2 := trivial; have zzb3 := trivial; have zzb4 := trivial; have zzb5 := trivial; have zzb6 := trivial; have zzb7 := trivial; have zzb8 := trivial; have zzb9 := trivial; have zzbs9 := trivial; have zzc0 := trivial; have zzc1 := trivial; have zzc2 := trivial; have zzc3 := trivial; have zzc4 := trivial; have zzc5 := trivial; have zzd' := trivial; have zzdx9 := trivial; have zze' := trivial; have zze1 := trivial; have zze2 := trivial; have zze3 := trivial; have zze7 := trivial; have zze8 := trivial; have zze9 := trivial; have zzep' := trivial; have zzg' := trivial; have zzg1 := trivial; have zzg2 := trivial; have zzg3 := trivial; have zzg4 := trivial; have zzh' := trivial; have zzh9 := trivial; have zzhG' := trivial; have zzhG9 := trivial; have zzhcl9 := trivial; have zzhd' := trivial; have zzhn9 := trivial; have zzhrl9 := trivial; have zzi' := trivial; have zzim9 := trivial; have zzimps9 := trivial; have zzkp9 := trivial; have zzks9 := trivial; have zzl' := trivial; have zzl1 := trivial; have zzl1' := trivial; have zzl9 := trivial; have zzlF' := trivial; have zzlo' := trivial; have zzm7 := trivial; have zzm8 := trivial; have zzm9 := trivial; have zzn7 := trivial; have zzn8 := trivial; have zzn9 := trivial; have zznN' := trivial; have zznf9 := trivial; have zzo' := trivial; have zzo8 := trivial; have zzo9 := trivial; have zzod8 := trivial; have zzod9 := trivial; have zzp9 := trivial; have zzq' := trivial; have zzq0 := trivial; have zzq1 := trivial; have zzq10 := trivial; have zzq2 := trivial; have zzq3 := trivial; have zzq4 := trivial; have zzq5 := trivial; have zzq6 := trivial; have zzq7 := trivial; have zzq8 := trivial; have zzq9 := trivial; have zzr := trivial; have zzr7 := trivial; have zzr8 := trivial; have zzr9 := trivial; have zzrep9 := trivial; have zzrl9 := trivial; have zzrvs9 := trivial; have zzs1 := trivial; have zzs2 := trivial; have zzs3 := trivial; have zzs4 := trivial; have zzs5 := trivial; have zzs6 := trivial; have zzs7 := trivial; have zzs8 := trivial; have zzs9 := trivial; have zzsd' := trivial; have zzsg9 := trivial; have zzso9 := trivial; have zzsp := trivial; have zzt1 := trivial; have zzt2 := trivial; have zzt3 := trivial; have zzt4 := trivial; have zzt5 := trivial; have zzt6 := trivial; have zzt7 := trivial; have zzt8 := trivial; have zzt9 := trivial; have zztk' := trivial; have zztk9 := trivial; have zzto9 := trivial; have zztr9 := trivial; have zzty9 := trivial; have zzv1 := trivial; have zzv2 := trivial; have zzv3 := trivial; have zzv7 := trivial; have zzv8 := trivial; have zzvs' := trivial; have zzw1 := trivial; have zzw2 := trivial; have zzw3 := trivial; have zzw4 := trivial; have zzw5 := trivial; have zzw6 := trivial; have zzw7 := trivial; have zzwa := trivial; have zzwb := trivial; have zzwim := trivial; have zzwsg := trivial; have zzwto := trivial; have zzwtr := trivial; have zzwx := trivial; have zzx9 := trivial; have zzy9 := trivial; have zzzw8 := trivial; have zzzw9 := trivial
    rename_i Pa _ lPa mt _ _ lomt _ lmt _ _ xs2 e2 od2 hsg2 _ _ _ _ _ mto hmt df _ dfo lodf _ _ _ _ ldf _ _ xt dxt a1 a2 a3 a4 lxd lxt2 lxt _ _ _ to2 _ Nz hto _
    refine Wait.mk ?_
    refine frz2 (a := sg) (b := dx) (r := (xt, _) :: (dxt, _) :: (xs2, _) :: (e2, _) :: (mt, _) :: (tr, to2) :: nf) Nz (by k_extra "m subs") (by k_extra "m ne") (by k_extra "m ne") ?_
    clear Nz lPa lmt ldf lxd lxt2 lxt
    intro nf2 N2 hs2 n4 n5
    replace mx := hs2 _ (.tail _ (.tail _ (.tail _ (.tail _ (.tail _ (.tail _ mx))))))
    refine exec_cons_h ?_
    intro tk3 G3 hG3
    k_steps
    have zzB' := trivial; have zzD' := trivial; have zzF' := trivial; have zzF9 := trivial; have zzG' := trivial; have zzG9 := trivial; have zzN' := trivial; have zzN9 := trivial; have zzZ' := trivial; have zza1 := trivial; have zza2 := trivial; have zza3 := trivial; have zza4 := trivial; have zza5 := trivial; have zza6 := trivial; have zza7 := trivial; have zza8 := trivial; have zza9 := trivial; have zzb' := trivial; have zzb0 := trivial; have zzb1 := trivial; have zzb2 := trivial; have zzb3 := trivial; have zzb4 := trivial; have zzb5 := trivial; have zzb6 := trivial; have zzb7 := trivial; have zzb8 := trivial; have zzb9 := trivial; have zzbs9 := trivial; have zzc0 := trivial; have zzc1 := trivial; have zzc2 := trivial; have zzc3 := trivial; have zzc4 := trivial; have zzc5 := trivial; have zzd' := trivial; have zzdx9 := trivial; have zze' := trivial; have zze1 := trivial; have zze2 := trivial; have zze3 := trivial; have zze7 := trivial; have zze8 := trivial; have zze9 := trivial; have zzep' := trivial; have zzg' := trivial; have zzg1 := trivial; have zzg2 := trivial; have zzg3 := trivial; have zzg4 := trivial; have zzh' := trivial; have zzh9 := trivial; have zzhG' := trivial; have zzhG9 := trivial; have zzhcl9 := trivial; have zzhd' := trivial; have zzhn9 := trivial; have zzhrl9 := trivial; have zzi' := trivial; have zzim9 := trivial; have zzimps9 := trivial; have zzkp9 := trivial; have zzks9 := trivial; have zzl' := trivial; have zzl1 := trivial; have zzl1' := trivial; have zzl9 := trivial; have zzlF' := trivial; have zzlo' := trivial; have zzm7 := trivial; have zzm8 := trivial; have zzm9 := trivial; have zzn7 := trivial; have zzn8 := trivial; have zzn9 := trivial; have zznN' := trivial; have zznf9 := trivial; have zzo' := trivial; have zzo8 := trivial; have zzo9 := trivial; have zzod8 := trivial; have zzod9 := trivial; have zzp9 := trivial; have zzq' := trivial; have zzq0 := trivial; have zzq1 := trivial; have zzq10 := trivial; have zzq2 := trivial; have zzq3 := trivial; have zzq4 := trivial; have zzq5 := trivial; have zzq6 := trivial; have zzq7 := trivial; have zzq8 := trivial; have zzq9 := trivial; have zzr := trivial; have zzr7 := trivial; have zzr8 := trivial; have zzr9 := trivial; have zzrep9 := trivial; have zzrl9 := trivial; have zzrvs9 := trivial; have zzs1 := trivial; have zzs2 := trivial; have zzs3 := trivial; have zzs4 := trivial; have zzs5 := trivial; have zzs6 := trivial; have zzs7 := trivial; have zzs8 := trivial; have zzs9 := trivial; have zzsd' := trivial; have zzsg9 := trivial; have zzso9 := trivial; have zzsp := trivial; have zzt1 := trivial; have zzt2 := trivial; have zzt3 := trivial; have zzt4 := trivial; have zzt5 := trivial; have zzt6 := trivial; have zzt7 := trivial; have zzt8 := trivial; have zzt9 := trivial; have zztk' := trivial; have zztk9 := trivial; have zzto9 := trivial; have zztr9 := trivial; have zzty9 := trivial; have zzv1 := trivial; have zzv2 := trivial; have zzv3 := trivial; have zzv7 := trivial; have zzv8 := trivial; have zzvs' := trivial; have zzw1 := trivial; have zzw2 := trivial; have zzw3 := trivial; have zzw4 := trivial; have zzw5 := trivial; have zzw6 := trivial; have zzw7 := trivial; have zzwa := trivial; have zzwb := trivial; have zzwim := trivial; have zzwsg := trivial; have zzwto := trivial; have zzwtr := trivial; have zzwx := trivial; have zzx9 := trivial; have zzy9 := trivial; have zzzw8 := trivial; have zzzw9 := trivial
    rename_i _ _ xs1 e1d od1 hsg1 lq2 lq3 _ _ _ so2 _ Nz hso _
    refine Wait.mk ?_
    refine frz1 (a := dx) (r := (xs1, _) :: (e1d, _) :: (sg, so2) :: nf2) Nz (by k_extra "m subs") (by k_extra "m ne") ?_
    clear Nz lq2 lq3
    intro nf3 N3 hs3 n6
    replace mx := hs3 _ (.tail _ (.tail _ (.tail _ mx)))
    refine exec_cons_h ?_
    intro tk4 G4 hG4
    k_steps
    have zzB' := trivial; have zzD' := trivial; have zzF' := trivial; have zzF9 := trivial; have zzG' := trivial; have zzG9 := trivial; have zzN' := trivial; have zzN9 := trivial; have zzZ' := trivial; have zza1 := trivial; have zza2 := trivial; have zza3 := trivial; have zza4 := trivial; have zza5 := trivial; have zza6 := trivial; have zza7 := trivial; have zza8 := trivial; have zza9 := trivial; have zzb' := trivial; have zzb0 := trivial; have zzb1 := trivial; have zzb2 := trivial; have zzb3 := trivial; have zzb4 := trivial; have zzb5 := trivial; have zzb6 := trivial; have zzb7 := trivial; have zzb8 := trivial; have zzb9 := trivial; have zzbs9 := trivial; have zzc0 := trivial; have zzc1 := trivial; have zzc2 := trivial; have zzc3 := trivial; have zzc4 := trivial; have zzc5 := trivial; have zzd' := trivial; have zzdx9 := trivial; have zze' := trivial; have zze1 := trivial; have zze2 := trivial; have zze3 := trivial; have zze7 := trivial; have zze8 := trivial; have zze9 := trivial; have zzep' := trivial; have zzg' := trivial; have zzg1 := trivial; have zzg2 := trivial; have zzg3 := trivial; have zzg4 := trivial; have zzh' := trivial; have zzh9 := trivial; have zzhG' := trivial; have zzhG9 := trivial; have zzhcl9 := trivial; have zzhd' := trivial; have zzhn9 := trivial; have zzhrl9 := trivial; have zzi' := trivial; have zzim9 := trivial; have zzimps9 := trivial; have zzkp9 := trivial; have zzks9 := trivial; have zzl' := trivial; have zzl1 := trivial; have zzl1' := trivial; have zzl9 := trivial; have zzlF' := trivial; have zzlo' := trivial; have zzm7 := trivial; have zzm8 := trivial; have zzm9 := trivial; have zzn7 := trivial; have zzn8 := trivial; have zzn9 := trivial; have zznN' := trivial; have zznf9 := trivial; have zzo' := trivial; have zzo8 := trivial; have zzo9 := trivial; have zzod8 := trivial; have zzod9 := trivial; have zzp9 := trivial; have zzq' := trivial; have zzq0 := trivial; have zzq1 := trivial; have zzq10 := trivial; have zzq2 := trivial; have zzq3 := trivial; have zzq4 := trivial; have zzq5 := trivial; have zzq6 := trivial; have zzq7 := trivial; have zzq8 := trivial; have zzq9 := trivial; have zzr := trivial; have zzr7 := trivial; have zzr8 := trivial; have zzr9 := trivial; have zzrep9 := trivial; have zzrl9 := trivial; have zzrvs9 := trivial; have zzs1 := trivial; have zzs2 := trivial; have zzs3 := trivial; have zzs4 := trivial; have zzs5 := trivial; have zzs6 := trivial; have zzs7 := trivial; have zzs8 := trivial; have zzs9 := trivial; have zzsd' := trivial; have zzsg9 := trivial; have zzso9 := trivial; have zzsp := trivial; have zzt1 := trivial; have zzt2 := trivial; have zzt3 := trivial; have zzt4 := trivial; have zzt5 := trivial; have zzt6 := trivial; have zzt7 := trivial; have zzt8 := trivial; have zzt9 := trivial; have zztk' := trivial; have zztk9 := trivial; have zzto9 := trivial; have zztr9 := trivial; have zzty9 := trivial; have zzv1 := trivial; have zzv2 := trivial; have zzv3 := trivial; have zzv7 := trivial; have zzv8 := trivial; have zzvs' := trivial; have zzw1 := trivial; have zzw2 := trivial; have zzw3 := trivial; have zzw4 := trivial; have zzw5 := trivial; have zzw6 := trivial; have zzw7 := trivial; have zzwa := trivial; have zzwb := trivial; have zzwim := trivial; have zzwsg := trivial; have zzwto := trivial; have zzwtr := trivial; have zzwx := trivial; have zzx9 := trivial; have zzy9 := trivial; have zzzw8 := trivial; have zzzw9 := trivial
    rename_i R1 _ lR1 P1 _ lP1 A1 _ lA1 M1 _ mo1 _ _ _ _ _ lM1 _ _ x1 dx1 c1 c2 c3 c4 c5 c6 c7 c8 y1 lz1 lz2 lz3 _ _ R2 _ lR2 P2 _ lP2 A2 hA2 lA2 _ mo2 lo2 hd2 hf2 ap2 lM2 _ _ x2 dx2 f1 f2 f3 f4 f5 f6 f7 f8 y2 lz4 lz5 lz6 _ _ im2 _ _ Nz lim
    refine Wait.mk ?_
    refine frz1 (a := dx) (r := (im2, _) :: (x2, _) :: (dx2, _) :: (hA2.objs.size, _) :: (A2, _) :: (P2, _) :: (x1, _) :: (dx1, _) :: (A1, _) :: (P1, _) :: nf3) Nz (by k_extra "m subs") (by k_extra "m ne") ?_
    clear Nz lR1 lP1 lA1 lM1 lz1 lz2 lz3 lR2 lP2 lA2 lM2 lz4 lz5 lz6 lim
    intro nf4 N4 hs4 n7
    have u3 : ∀ p ∈ nf3, p ∈ nf4 := fun p hp => hs4 p (.tail _ (.tail _ (.tail _ (.tail _ (.tail _ (.tail _ (.tail _ (.tail _ (.tail _ (.tail _ hp))))))))))
    replace mx := u3 _ mx
    clear zs
    have u2 : ∀ p ∈ nf2, p ∈ nf4 := fun p hp => u3 p (hs3 p (.tail _ (.tail _ (.tail _ hp))))
    have u1 : ∀ p ∈ nf, p ∈ nf4 := fun p hp => u2 p (hs2 p (.tail _ (.tail _ (.tail _ (.tail _ (.tail _ (.tail _ hp)))))))
    k_steps
    refine Wait.mk ?_
    refine exec_cons_h ?_
    intro tk5 G5 hG5
    k_steps
    refine Wait.mk ?_
    refine' CallsT.use ?Bb ?Fb ?Xb ?Nb ?Tb ?XB ?TB ?hkb ?Cb ?hdb ?hub ?_
    (case Bb => k_asm)
    (case Fb => k_asm)
    (case Xb => k_asm)
    (case Nb => k_asm)
    (case Tb => k_asm)
    (case XB => assumption)
    (case TB => assumption)
    (case hkb => exact rfl)
    (case Cb =>
      refine' both_told (.tail _ (.tail _ mx)) (.tail _ (.head _)) (.tail _ (.tail _ (u3 _ (hs3 _ ?zza2)))) hso g1 hsg1 (.tail _ (.tail _ (u3 _ (hs3 _ ?zza3)))) (.tail _ (.tail _ (u3 _ (hs3 _ ?zza4)))) (.tail _ (.tail _ (u2 _ (hs2 _ ?zza5)))) hto g3 (.tail _ (.tail _ (u2 _ (hs2 _ ?zza6)))) (.tail _ (.tail _ (u2 _ (hs2 _ ?zza7)))) (.tail _ (.tail _ (u2 _ (hs2 _ ?zza8)))) hmt lomt hsg2 (.tail _ (.tail _ (u2 _ (hs2 _ ?zza9)))) (.tail _ (.tail _ (u2 _ (hs2 _ ?zzb0)))) (.tail _ (.tail _ (hs4 _ ?zzb1))) (.tail _ (.tail _ (hs4 _ ?zzb2))) (.tail _ (.tail _ (hs4 _ ?zzb3))) (.tail _ (.tail _ (hs4 _ ?zzb4))) (.tail _ (.tail _ (hs4 _ ?zzb5))) (.tail _ (.tail _ (hs4 _ ?zzb6))) (.tail _ (.tail _ (hs4 _ ?zzb7))) (.tail _ (.tail _ (hs4 _ ?zzb8))) (.tail _ (.tail _ (hs4 _ ?zzb9))) (.tail _ (.tail _ (hs4 _ ?zzc0))) hd2 lo2 (.tail _ (.tail _ (u1 _ (hs1 _ ?zzc1)))) (.tail _ (.tail _ (u1 _ (hs1 _ ?zzc2)))) (.tail _ (.tail _ (u1 _ (hs1 _ ?zzc3)))) (.head _) ?zzc4 ?zzc5
      (case zza2 => k_extra "m mm")
      (case zza3 => k_extra "m mm")
      (case zza4 => k_extra "m mm")
      (case zza5 => k_extra "m mm")
      (case zza6 => k_extra "m mm")
      (case zza7 => k_extra "m mm")
      (case zza8 => k_extra "m mm")
      (case zza9 => k_extra "m mm")
      (case zzb0 => k_extra "m mm")
      (case zzb1 => k_extra "m mm")
      (case zzb2 => k_extra "m mm")
      (case zzb3 => k_extra "m mm")
      (case zzb4 => k_extra "m mm")
      (case zzb5 => k_extra "m mm")
      (case zzb6 => k_extra "m mm")
      (case zzb7 => k_extra "m mm")
      (case zzb8 => k_extra "m mm")
      (case zzb9 => k_extra "m mm")
      (case zzc0 => k_extra "m mm")
      (case zzc1 => k_extra "m mm")
      (case zzc2 => k_extra "m mm")
      (case zzc3 => k_extra "m mm")
      (case zzc4 => assumption)
      (case zzc5 => assumption))
    (case hdb => k_extra "l hd")
    (case hub => k_extra "l hd")
    intro r9 n9 h9 tk9 F9 N9 o9
    obtain ⟨s9, q9⟩ := o9
    k_steps
    refine' told_eq_at ?zN ?zx ?zs ?zp ?zu ?_
    (case zN => k_asm)
    (case zx => exact q9)
    (case zs => exact fun p hp => .tail _ hp)
    (case zp => exact .head _)
    (case zu => k_extra "l hd")
    exact gout hG5 True.intro (fin0 _ _ ⟨_, _, by assumption, by assumption⟩)
end
end Mine
end
theorem PySem.Challenge.cw_nu0383_01_holds : PySem.Challenge.rw_nu0383_01.Holds :=
  Mine.law_holds
