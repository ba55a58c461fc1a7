import PyProof.Rows.All
import Wide.All
import OpenK.AllK
import Wide.FinOn
import KE.BytesMake
import KE.BytesMulAny
import KE.KBytesWalk
import KE.KBytesCut
import KE.KRevSl
import Lean
import PySem.Challenge.RW_tk0123_01
open PySem PySem.W PyProof.Rows
set_option Elab.async false
set_option linter.unusedVariables false
set_option genSizeOf false
set_option genInjectivity false
set_option autoImplicit false
set_option maxRecDepth 100000
namespace Mine
abbrev PG : Program := PySem.Challenge.pw_tk0123_01
def VW : Program := view PG [0, 1, 3, 4, 5, 6, 7, 8, 9, 10, 12, 13, 14, 15, 16, 17, 18, 23, 24, 25, 26, 27, 28, 29, 30, 31, 32, 33, 34, 35, 36, 37, 38, 39, 40]
def lse : List Str := ["PressError", "least", "Finder", "TreeFinder", "LayeredFinder", "finder_for"]
local macro_rules | `(tactic| o_head $_) => `(tactic| assumption)
theorem hd (h : PySem.Challenge.rw_tk0123_01.row.Holds) : PySem.Challenge.rw_tk0123_01.row.Holds := by k_head
noncomputable def bootT (P : Params) : BT := .node (boot_o_0 P) (.node (boot_o_1 P) (.node (boot_o_3 P) (.node (boot_o_7 P) .nil .nil) .nil) (.node (boot_o_5 P) (.node (boot_o_9 P) .nil .nil) .nil)) (.node (boot_o_2 P) (.node (boot_o_4 P) (.node (boot_o_8 P) .nil .nil) .nil) (.node (boot_o_6 P) (.node (boot_o_10 P) .nil .nil) .nil))
theorem bootT_abs (P : Params) : absHeap (bootT P) 11 {} = boot_heap P := by rfl
def obsT (as : List Addr) (s : SharedT) : List (Option Obj) := as.map fun a => match Nat.blt a s.n with
 | true => (match s.tree.get a with
  | some o => alive o
  | none => alive default)
 | false => none
theorem obsT_eq (as : List Addr) (s : SharedT) : obsT as s = as.map s.abs.heap.get? := by
 refine List.map_congr_left fun a _ => ?_
 cases e : Nat.blt a s.n with
 | false => exact (abs_get_none fun q => by rw [show Nat.blt a s.n = true from Nat.ble_eq_true_of_le q] at e; cases e).symm
 | true =>
  have lt : a < s.n := Nat.le_of_ble_eq_true e
  cases g : s.tree.get a with
  | some o => exact (abs_get lt g).symm
  | none =>
   show alive default = (absHeap s.tree s.n s.life).get? a
   unfold Heap.get?
   rw [absHeap_at, if_pos lt, g]
   rfl
noncomputable def tgo (S : SharedT → Thread → Option (SharedT × Thread)) (O : Thread → Bool) : Nat → SharedT → Thread → Option (SharedT × Thread)
 | 0, s, t => some (s, t)
 | n + 1, s, t => match through t with
  | true => none
  | false => match O t with
   | false => none
   | true => match S s t with
    | some (s', t') => tgo S O n s' t'
    | none => none
theorem go_of {tb : String → Option Builtin} {p : Program} {w : World} {n₀ : Nat} {ann : Option Value} {N : Nat} : ∀ {n : Nat} {s r : SharedT} {t t' : Thread}, tgo (stepT (denote tb) p w) (stepOk n₀ ann) n s t = some (r, t') → topRun tb p w n₀ ann (n + N) s.abs t = topRun tb p w n₀ ann N r.abs t'
 | 0, _, _, _, _, h => by cases h; rw [Nat.zero_add]
 | n + 1, s, r, t, t', h => by
  unfold tgo at h
  rw [Nat.succ_add]
  conv => lhs; unfold topRun
  cases ht : through t with
  | true => rw [ht] at h; cases h
  | false =>
   rw [ht] at h
   cases hk : stepOk n₀ ann t with
   | false => rw [hk] at h; cases h
   | true =>
    rw [hk] at h
    cases hs : stepT (denote tb) p w s t with
    | none => rw [hs] at h; cases h
    | some q => obtain ⟨s₂, t₂⟩ := q; rw [hs] at h; rw [stepT_spec hs]; exact go_of h
noncomputable def lzT (R : Option (SharedT × Thread)) (i : Nat) : Obj := match R with
 | some (s, _) => (s.tree.get i).getD default
 | none => default
noncomputable def lk (q : Obj) (i : Nat) : Frag → Obj
 | [] => q
 | (a, o) :: l => match Nat.beq a i with
  | true => o
  | false => lk q i l
theorem lk_eq {G : Nat → Obj} {i : Nat} : ∀ {L : Frag}, (∀ p ∈ L, G p.1 = p.2) → lk (G i) i L = G i
 | [], _ => rfl
 | (a, o) :: l, h => by
  unfold lk
  cases e : Nat.beq a i with
  | true => cases Nat.eq_of_beq_eq_true e; exact (h _ (.head _)).symm
  | false => exact lk_eq fun p m => h p (.tail _ m)
noncomputable def mkT (F : Nat → Obj) (n : Nat) : Nat → Nat → Nat → BT
 | 0, _, _ => .nil
 | k + 1, a, b => match Nat.blt b n with
  | true => .node (F b) (mkT F n k (2 * a) (a + b)) (mkT F n k (2 * a) (2 * a + b))
  | false => .nil
noncomputable def cutS (L : Frag) (R : Option (SharedT × Thread)) (n k : Nat) (os : OsState) : SharedT := ⟨mkT (fun i => lk (lzT R i) i L) n 10 1 0, n, {}, Array.mk [], boot_drawn, k, os⟩
noncomputable abbrev okT (R : Option (SharedT × Thread)) (L : Frag) (n k : Nat) (os : OsState) (t : Thread) : Prop :=
 R.map (fun x => (x.2, x.1.n, x.1.life, x.1.gens, x.1.drawn, x.1.toks, x.1.os, L.map fun p => x.1.tree.get p.1)) = some (t, n, {}, Array.mk [], boot_drawn, k, os, L.map fun p => some p.2)
theorem cut_of {R : Option (SharedT × Thread)} {L : Frag} {n k : Nat} {os : OsState} {t₁ : Thread}
 (h : okT R L n k os t₁)
 (hl : ∀ F, (mkT F n 10 1 0).list n = (List.range n).map F) : ∃ r, R = some (r, t₁) ∧ r.abs = (cutS L R n k os).abs := by
 cases R with
 | none => cases h
 | some x =>
  obtain ⟨⟨T, n', l, g, d, k', os'⟩, t⟩ := x
  have e := Option.some.inj h
  simp only [Prod.mk.injEq] at e
  obtain ⟨rfl, rfl, rfl, rfl, rfl, rfl, rfl, e⟩ := e
  refine ⟨_, rfl, ?_⟩
  unfold SharedT.abs cutS absHeap
  dsimp only
  rw [hl]
  unfold BT.list
  congr 3
  exact List.map_congr_left fun i _ => (lk_eq (G := fun i => (T.get i).getD default) fun p m => congrArg (·.getD default) (List.map_inj_left.mp e p m)).symm
theorem run_cut {tb : String → Option Builtin} {p : Program} {w : World} {n₀ : Nat} {ann : Option Value} {N j : Nat} {s : SharedT} {t t₁ : Thread} {L : Frag} {n k : Nat} {os : OsState}
 (h : okT (tgo (stepT (denote tb) p w) (stepOk n₀ ann) j s t) L n k os t₁)
 (hl : ∀ F, (mkT F n 10 1 0).list n = (List.range n).map F) :
 topRun tb p w n₀ ann (j + N) s.abs t = topRun tb p w n₀ ann N (cutS L (tgo (stepT (denote tb) p w) (stepOk n₀ ann) j s t) n k os).abs t₁ := by
 obtain ⟨r, e, e'⟩ := cut_of h hl
 rw [go_of e, e']
abbrev STP := SharedT → Thread → Option (SharedT × Thread)
noncomputable abbrev GO (S : STP) (j : Nat) (s : SharedT) (t : Thread) : Option (SharedT × Thread) := tgo S (stepOk 11 (some (.ref 6))) j s t
noncomputable def tS0 (w : World) (os : OsState) : SharedT := ⟨bootT w.params, 11, {}, Array.mk [], boot_drawn, boot_toks, os⟩
noncomputable def lz0 (S : STP) (w : World) (os : OsState) : Frag := [0, 1, 4, 5, 6, 7, 8, 9, 10, 11, 13, 14].map fun i => (i, lzT (GO S 12 (tS0 w os) (topStub PG)) i)
noncomputable def edT (B K : Frag) (n m : Nat) (x : Str) (k : Nat) : Frag := B ++ K.flatMap fun (i, o) => match Nat.blt i n with
 | false => []
 | true => (i, (match o with
  | ⟨C, d, .dict es e, s⟩ => match Nat.beq i 3 with
   | true => Obj.mk C d (.dict (match es.toList.take m with | e :: l => { e with val := .str x k } :: l | l => l).toArray m) s
   | false => o
  | ⟨C, d, .cls q, s⟩ => Obj.mk C d (.cls { q with subclasses := q.subclasses.filter fun v => match v with | .ref a => Nat.blt a n | _ => true }) s
  | _ => o : Obj)) :: match o.data with
  | .fields v => (match v.toList.drop 11 with
   | .ref a :: _ => [(a, ⟨.none, none, .fields #[], #[]⟩)]
   | _ => [])
  | _ => []
noncomputable def lz2 (S : STP) (w : World) (os : OsState) (c : Nat) : Frag :=
 (12, Obj.mk .none none (.fields (([(1, 20), (5, 27), (10, 48), (14, 60), (19, 67), (21, 74), (41, 114), (50, 121), (72, 157), (87, 164), (92, 171), (97, 178), (115, 214), (149, 256), (202, 347)].take c).flatMap fun (l, a) => [.int l 0, .int 0 0, .ref a]).toArray) #[]) :: lz0 S w os
noncomputable def thT (D : Code → Sem Fin) (j : Nat) (a b c d : Nat) : Thread :=
 let v : Env := { scope := PG.main.scope, locals := mainNs, globals := mainNs, cells := [], code := .ref 13, frame := some 14 }
 ⟨D (.body ((behindTheImports PG).drop j) v), .body (behindTheImports PG) v, ⟨a, b, c, d⟩, [topFrame ⟨0, 0, 0, 0⟩]⟩
noncomputable def tL1 (S : STP) (w : World) (os : OsState) : Frag := edT (lz2 S w os 12) (hd.heap_1 w.params) 209 22 "threepress.parse" 240
noncomputable def tL2 (S : STP) (w : World) (os : OsState) : Frag := edT (lz2 S w os 15) (hd.heap_1 w.params) 383 26 "threepress.matches" 474
noncomputable def tL3 (S : STP) (w : World) (os : OsState) : Frag := edT (lz0 S w os) (hd.heap_1 w.params) 581 46 "law_tk0123_01" 893
noncomputable def tS1 (S : STP) (w : World) (os : OsState) : SharedT := cutS (tL1 S w os) (GO S 1610 (tS0 w os) (topStub PG)) 209 474 os
noncomputable def tS2 (S : STP) (D : Code → Sem Fin) (w : World) (os : OsState) : SharedT := cutS (tL2 S w os) (GO S 1268 (tS1 S w os) (thT D 15 97 0 112 106)) 383 733 os
noncomputable def tt3 : Thread := ⟨.pure (.done (.ret .none)), .builtin "claim.caller" {}, ⟨0, 0, 0, 0⟩, []⟩
noncomputable def tS3 (S : STP) (D : Code → Sem Fin) (w : World) (os : OsState) : SharedT := cutS (tL3 S w os) (GO S 1328 (tS2 S D w os) (thT D 20 202 0 230 20)) 581 1063 os
theorem mkT_eq (F : Nat → Obj) : (mkT F 209 10 1 0).list 209 = (List.range 209).map F ∧ (mkT F 383 10 1 0).list 383 = (List.range 383).map F ∧ (mkT F 581 10 1 0).list 581 = (List.range 581).map F := ⟨by kernel_rfl, by kernel_rfl, by kernel_rfl⟩
theorem tr1 (w : World) (os : OsState) : okT (GO (stepT (denote treeTable) PG w) 1610 (tS0 w os) (topStub PG)) (tL1 (stepT (denote treeTable) PG w) w os) 209 474 os (thT (denote treeTable) 15 97 0 112 106) := by rw [PySem.W.Fast.te10156331382660048174, PySem.W.Fast.te14364793385576792824]; kernel_rfl
theorem tr2 (w : World) (os : OsState) : okT (GO (stepT (denote treeTable) PG w) 1268 (tS1 (stepT (denote treeTable) PG w) w os) (thT (denote treeTable) 15 97 0 112 106)) (tL2 (stepT (denote treeTable) PG w) w os) 383 733 os (thT (denote treeTable) 20 202 0 230 20) := by rw [PySem.W.Fast.te10156331382660048174, PySem.W.Fast.te14364793385576792824]; kernel_rfl
theorem tr3 (w : World) (os : OsState) : okT (GO (stepT (denote treeTable) PG w) 1328 (tS2 (stepT (denote treeTable) PG w) (denote treeTable) w os) (thT (denote treeTable) 20 202 0 230 20)) (tL3 (stepT (denote treeTable) PG w) w os) 581 1063 os tt3 := by rw [PySem.W.Fast.te10156331382660048174, PySem.W.Fast.te14364793385576792824]; kernel_rfl
theorem tr4 (w : World) (os : OsState) : topRun treeTable PG w 11 (some (.ref 6)) 8512 (tS0 w os).abs (topStub PG) = some (tS3 (stepT (denote treeTable) PG w) (denote treeTable) w os).abs :=
 (run_cut (N := 6902) (tr1 w os) fun F => (mkT_eq F).1).trans ((run_cut (N := 5634) (tr2 w os) fun F => (mkT_eq F).2.1).trans (run_cut (N := 4305 + 1) (tr3 w os) fun F => (mkT_eq F).2.2))
set_option maxHeartbeats 0 in
theorem said : PySem.Challenge.rw_tk0123_01.wellSaid = true := by
 unfold OpenLaw.wellSaid OpenRow.wellSaid OpenRow.partSaid looksOpen
 repeat' with_reducible refine look_both ?_ ?_
 all_goals decide +kernel
noncomputable def AS : List Addr := (hd.heap_1 { strHash := fun _ => 0, shareClass := fun _ => 0, mergeTok := id, idOf := fun _ => 0, idOfShared := fun _ _ => 0, followText := fun _ => false, idOfImm := fun _ => 0 }).map (·.1)
theorem AS_eq (P : Params) : AS = (hd.heap_1 P).map (·.1) := by kernel_rfl
noncomputable abbrev HK : Hook := kHook hd.heap_1 AS AS_eq
def XT (s : Shared) : Bool := xlAt VW [] s && recOk (RowW.records PySem.Challenge.rw_tk0123_01.row.toRowW) s
theorem tv1 (w : World) (os : OsState) : (staticsOk (importedModules PG.main.body) (boot_heap w.params) (tS3 (stepT (denote treeTable) PG w) (denote treeTable) w os).abs.heap && namesBound PG (tS3 (stepT (denote treeTable) PG w) (denote treeTable) w os).abs.heap && gensDone (tS3 (stepT (denote treeTable) PG w) (denote treeTable) w os).abs && laidKept (boot_heap w.params) (tS3 (stepT (denote treeTable) PG w) (denote treeTable) w os).abs.heap) = true := by rw [PySem.W.Fast.te10156331382660048174, PySem.W.Fast.te14364793385576792824]; kernel_rfl
theorem tv2 (w : World) (os : OsState) : obsT AS (tS3 (stepT (denote treeTable) PG w) (denote treeTable) w os) = HK.val w := by rw [PySem.W.Fast.te10156331382660048174, PySem.W.Fast.te14364793385576792824]; kernel_rfl
theorem tv3 (w : World) (os : OsState) : openSeen VW lse (importedModules PG.main.body) XT true (tS3 (stepT (denote treeTable) PG w) (denote treeTable) w os).abs = openGood VW lse := by rw [PySem.W.Fast.te10156331382660048174, PySem.W.Fast.te14364793385576792824]; kernel_rfl
theorem lft : LeftO PG VW lse XT HK.obs HK.val 8512 := fun w => by
 obtain ⟨⟨h₀, g', d', k', os⟩, e, e'⟩ := Option.map_eq_some_iff.mp (boot_open (p := PG) (N := 8512) (by kernel_rfl) (by kernel_rfl) (fun s => by kernel_rfl) w)
 obtain ⟨rfl, rfl, rfl, rfl⟩ : h₀ = boot_heap w.params ∧ g' = Array.mk [] ∧ d' = boot_drawn ∧ k' = boot_toks := by simpa using e'
 have t := tr4 w os
 rw [show (tS0 w os).abs = ⟨boot_heap w.params, Array.mk [], boot_drawn, boot_toks, os⟩ by unfold tS0 SharedT.abs; rw [bootT_abs]] at t
 unfold openEnds
 rw [e, Option.bind_some]
 unfold topFrom
 dsimp only
 rw [show ((boot_heap w.params).isNs mainGlobals && (Array.mk [] : Array GenState).size == 0) = true by kernel_rfl, show (boot_heap w.params).objs.size = 11 by kernel_rfl, show (boot_heap w.params).nsMap mainGlobals "__annotations__" = some (.ref 6) by kernel_rfl, t, Option.bind_some, tv1 w os]
 exact congrArg some (looks_pair (tv3 w os) ((obsT_eq _ _).symm.trans (tv2 w os)))
set_option tactic.hygienic false
inductive LX where
 | v (i : Nat) | k (n : Nat) | a (x y : LX) | s (x y : LX) | m (n : Nat) (x : LX) | r (x : LX) (n : Nat) | c (x : LX) | g (x : LX)
noncomputable abbrev lat {α : Type} (d : α) (l : List α) : Nat → α :=
 l.rec (fun _ => d) fun x _ r i => i.rec x fun i _ => r i
noncomputable abbrev LX.dn (ρ : List Nat) (e : LX) : Nat :=
 e.rec (fun i => lat 0 ρ i) (fun n => OfNat.ofNat n) (fun _ _ x y => x + y) (fun _ _ _ _ => 0) (fun n _ x => OfNat.ofNat n * x)
  (fun _ n x => x * OfNat.ofNat n) (fun _ _ => 0) (fun _ _ => 0)
noncomputable abbrev LX.di (ρ : List Nat) (σ : List Int) (e : LX) : Int :=
 e.rec (fun i => lat 0 σ i) (fun n => OfNat.ofNat n) (fun _ _ x y => x + y) (fun _ _ x y => x - y) (fun n _ x => OfNat.ofNat n * x)
  (fun _ n x => x * OfNat.ofNat n) (fun x _ => (x.dn ρ : Int)) (fun _ x => - x)
noncomputable def vadd (z : Int) : List Int → List Int → List Int
 | [], l => l.map (z * ·)
 | l, [] => l
 | x :: l, y :: l' => (x + z * y) :: vadd z l l'
noncomputable def vdot : List Int → List Int → Int
 | [], _ => 0
 | _, [] => 0
 | x :: l, y :: l' => x * y + vdot l l'
noncomputable def vone : Nat → List Int
 | 0 => [1]
 | i + 1 => 0 :: vone i
theorem cong2 {a b c d : Int} (h : a = b) (h' : c = d) : a + c = b + d := h ▸ h' ▸ rfl
theorem iadd4 (a b c d : Int) : a + b + (c + d) = a + c + (b + d) := by rw [Int.add_assoc, Int.add_left_comm b, ← Int.add_assoc]
theorem vdot_map (z : Int) (l : List Int) : ∀ r, vdot (l.map (z * ·)) r = z * vdot l r := by
 induction l with
 | nil => intro r; exact (Int.mul_zero z).symm
 | cons x l ih => intro r; cases r with
  | nil => exact (Int.mul_zero z).symm
  | cons y r => exact (cong2 (Int.mul_assoc z x y) (ih r)).trans (Int.mul_add z (x * y) _).symm
theorem vdot_add (z : Int) (l : List Int) : ∀ l' r, vdot (vadd z l l') r = vdot l r + z * vdot l' r := by
 induction l with
 | nil => intro l' r; rw [vadd, vdot_map]; exact (Int.zero_add _).symm
 | cons x l ih => intro l' r; cases l' with
  | nil => exact (Int.add_zero _).symm.trans (congrArg (_ + ·) (Int.mul_zero z).symm)
  | cons y l' => cases r with
   | nil => exact (Int.zero_add _).symm.trans (congrArg (0 + ·) (Int.mul_zero z).symm)
   | cons w r =>
    show (x + z * y) * w + vdot (vadd z l l') r = x * w + vdot l r + z * (y * w + vdot l' r)
    rw [ih, Int.add_mul, Int.mul_add, Int.mul_assoc]; exact iadd4 ..
theorem vdot_one (i : Nat) : ∀ r, vdot (vone i) r = lat 0 r i := by
 induction i with
 | zero => intro r; cases r with
  | nil => rfl
  | cons y r => exact (cong2 (Int.one_mul y) rfl).trans (Int.add_zero y)
 | succ i ih => intro r; cases r with
  | nil => rfl
  | cons y r => exact (cong2 (Int.zero_mul y) (ih r)).trans (Int.zero_add _)
structure LF where
 n : List Int
 i : List Int
 c : Int
noncomputable def LF.add (z : Int) (p q : LF) : LF := ⟨vadd z p.n q.n, vadd z p.i q.i, p.c + z * q.c⟩
noncomputable def LF.ev (ρ : List Nat) (σ : List Int) (p : LF) : Int := vdot p.n (ρ.map Int.ofNat) + vdot p.i σ + p.c
theorem LF.ev_add (ρ σ z) (p q : LF) : (p.add z q).ev ρ σ = p.ev ρ σ + z * q.ev ρ σ := by
 show vdot (vadd z p.n q.n) _ + vdot (vadd z p.i q.i) _ + (p.c + z * q.c) = (_ + _ + _) + z * (_ + _ + _)
 rw [vdot_add, vdot_add, iadd4 (vdot p.n _), iadd4 (vdot p.n _ + _), Int.mul_add, Int.mul_add]
noncomputable def LF.zero : LF := ⟨[], [], 0⟩
theorem LF.ev_zero (ρ σ) : LF.zero.ev ρ σ = 0 := rfl
noncomputable def LX.fn : LX → LF
 | .v i => ⟨vone i, [], 0⟩
 | .k n => ⟨[], [], n⟩
 | .a x y => x.fn.add 1 y.fn
 | .m n x => LF.zero.add n x.fn
 | .r x n => LF.zero.add n x.fn
 | _ => .zero
noncomputable def LX.fi : LX → LF
 | .v i => ⟨[], vone i, 0⟩
 | .k n => ⟨[], [], n⟩
 | .a x y => x.fi.add 1 y.fi
 | .s x y => x.fi.add (-1) y.fi
 | .m n x => LF.zero.add n x.fi
 | .r x n => LF.zero.add n x.fi
 | .c x => x.fn
 | .g x => LF.zero.add (-1) x.fi
theorem lat_map (ρ : List Nat) : ∀ i, lat 0 (ρ.map Int.ofNat) i = (lat 0 ρ i : Nat) := by
 induction ρ with
 | nil => intro i; rfl
 | cons x l ih => intro i; cases i with
  | zero => rfl
  | succ i => exact ih i
theorem LX.fn_ok (ρ σ) (e : LX) : e.fn.ev ρ σ = (e.dn ρ : Int) := by
 induction e with
 | v i => show vdot (vone i) _ + 0 + 0 = _; rw [vdot_one, lat_map]; rfl
 | k n => exact Int.zero_add _
 | a x y hx hy => show (LF.add 1 _ _).ev _ _ = _; rw [LF.ev_add, hx, hy, Int.one_mul]; rfl
 | m n x hx => show (LF.add _ _ _).ev _ _ = _; rw [LF.ev_add, hx, LF.ev_zero, Int.zero_add]; rfl
 | r x n hx => show (LF.add _ _ _).ev _ _ = _; rw [LF.ev_add, hx, LF.ev_zero, Int.zero_add, Int.mul_comm]; rfl
 | _ => rfl
theorem LX.fi_ok (ρ σ) (e : LX) : e.fi.ev ρ σ = e.di ρ σ := by
 induction e with
 | v i => show 0 + vdot (vone i) _ + 0 = _; rw [vdot_one, Int.add_zero, Int.zero_add]
 | k n => exact Int.zero_add _
 | a x y hx hy => show (LF.add 1 _ _).ev _ _ = _; rw [LF.ev_add, hx, hy, Int.one_mul]
 | s x y hx hy => show (LF.add _ _ _).ev _ _ = _ - _; rw [LF.ev_add, hx, hy, Int.neg_mul, Int.one_mul]; rfl
 | m n x hx => show (LF.add _ _ _).ev _ _ = _; rw [LF.ev_add, hx, LF.ev_zero, Int.zero_add]; rfl
 | r x n hx => show (LF.add _ _ _).ev _ _ = _; rw [LF.ev_add, hx, LF.ev_zero, Int.zero_add, Int.mul_comm]; rfl
 | c x => exact x.fn_ok ρ σ
 | g x hx => show (LF.add _ _ _).ev _ _ = - _; rw [LF.ev_add, hx, LF.ev_zero, Int.zero_add, Int.neg_mul, Int.one_mul]
inductive LO where | le | lt | eq | qe | nle | nlt
structure LC where
 z : Nat
 nat : Bool
 o : LO
 x : LX
 y : LX
noncomputable abbrev LO.den {α : Type} [LE α] [LT α] (o : LO) (x y : α) : Prop :=
 o.rec (x ≤ y) (x < y) (x = y) (x = y) (¬ x ≤ y) (¬ x < y)
noncomputable abbrev LC.den (ρ : List Nat) (σ : List Int) (c : LC) : Prop :=
 c.nat.rec (c.o.den (c.x.di ρ σ) (c.y.di ρ σ)) (c.o.den (c.x.dn ρ) (c.y.dn ρ))
noncomputable def LC.form (c : LC) : LF :=
 let x := cond c.nat c.x.fn c.x.fi
 let y := cond c.nat c.y.fn c.y.fi
 match c.o with
 | .le => y.add (-1) x
 | .lt => (y.add (-1) x).add (-1) ⟨[], [], 1⟩
 | .eq => y.add (-1) x
 | .qe => x.add (-1) y
 | .nle => (x.add (-1) y).add (-1) ⟨[], [], 1⟩
 | .nlt => x.add (-1) y
theorem LF.ev_one (ρ : List Nat) (σ : List Int) : LF.ev ρ σ ⟨[], [], 1⟩ = 1 := rfl
theorem sub_ev (ρ : List Nat) (σ : List Int) (p q : LF) : (p.add (-1) q).ev ρ σ = p.ev ρ σ - q.ev ρ σ := by
 rw [LF.ev_add, Int.neg_mul, Int.one_mul]; rfl
theorem LC.form_ok (ρ σ) (c : LC) (h : c.den ρ σ) : 0 ≤ c.form.ev ρ σ := by
 obtain ⟨z, b, o, x, y⟩ := c
 cases b <;> cases o <;> simp only [LC.form, cond, sub_ev, LX.fn_ok, LX.fi_ok, LF.ev_one, LC.den] at h ⊢ <;> omega
noncomputable abbrev LC.imp (ρ : List Nat) (σ : List Int) (g : LC) (l : List LC) : Prop :=
 l.rec (g.den ρ σ) fun c _ r => c.den ρ σ → r
noncomputable def LC.sum (p : LF) : List LC → LF
 | [] => p
 | c :: l => LC.sum (p.add c.z c.form) l
noncomputable def LC.neg (g : LC) : LC :=
 ⟨g.z, g.nat, match g.o with | .le => .nle | .lt => .nlt | .nle => .le | o => o, g.x, g.y⟩
noncomputable def LF.bad (p : LF) : Bool := p.n.all (fun z => decide (z ≤ 0)) && (p.i.all (fun z => decide (z = 0)) && decide (p.c < 0))
theorem vdot_nat (l : List Int) : l.all (fun z => decide (z ≤ 0)) = true → ∀ ρ : List Nat, vdot l (ρ.map Int.ofNat) ≤ 0 := by
 induction l with
 | nil => intro _ _; exact Int.le_refl 0
 | cons x l ih => intro h ρ; cases ρ with
  | nil => exact Int.le_refl 0
  | cons y ρ =>
   rw [List.all_cons, Bool.and_eq_true] at h
   exact Int.add_le_add (Int.mul_nonpos_of_nonpos_of_nonneg (of_decide_eq_true h.1) (Int.natCast_nonneg y)) (ih h.2 ρ)
theorem vdot_int (l : List Int) : l.all (fun z => decide (z = 0)) = true → ∀ σ : List Int, vdot l σ = 0 := by
 induction l with
 | nil => intro _ _; rfl
 | cons x l ih => intro h σ; cases σ with
  | nil => rfl
  | cons y σ =>
   rw [List.all_cons, Bool.and_eq_true] at h
   show x * y + vdot l σ = 0
   rw [ih h.2, of_decide_eq_true h.1, Int.zero_mul]; rfl
theorem LF.bad_ok (ρ : List Nat) (σ : List Int) (p : LF) (h : p.bad = true) : p.ev ρ σ < 0 := by
 unfold LF.bad at h
 rw [Bool.and_eq_true, Bool.and_eq_true] at h
 have h1 := vdot_nat p.n h.1 ρ
 have h2 := vdot_int p.i h.2.1 σ
 have h3 := of_decide_eq_true h.2.2
 show vdot _ _ + vdot _ _ + p.c < 0
 rw [h2, Int.add_zero]; exact Int.add_neg_of_nonpos_of_neg h1 h3
theorem LC.neg_ok (ρ : List Nat) (σ : List Int) (g : LC) (ho : g.o = .le ∨ g.o = .lt ∨ g.o = .nle) (h : ¬ g.den ρ σ) : g.neg.den ρ σ := by
 obtain ⟨z, b, o, x, y⟩ := g
 rcases ho with ho | ho | ho <;> cases ho <;> cases b <;> first | exact h | exact Classical.byContradiction h
noncomputable def LC.go (g : LC) : Bool := match g.o with | .le => true | .lt => true | .nle => true | _ => false
theorem LC.go_ok (g : LC) (h : g.go = true) : g.o = .le ∨ g.o = .lt ∨ g.o = .nle := by
 obtain ⟨z, b, o, x, y⟩ := g
 cases o <;> first | exact .inl rfl | exact .inr (.inl rfl) | exact .inr (.inr rfl) | cases h
theorem LC.imp_of (ρ σ) (g : LC) (h : g.den ρ σ) (l : List LC) : g.imp ρ σ l := by
 induction l with
 | nil => exact h
 | cons c l ih => exact fun _ => ih
theorem LC.imp_no (ρ σ) (g : LC) (l : List LC) : ∀ p : LF, 0 ≤ p.ev ρ σ → (LC.sum p l).ev ρ σ < 0 → g.imp ρ σ l := by
 induction l with
 | nil => intro p hp h; exact absurd h (Int.not_lt.2 hp)
 | cons c l ih => intro p hp h hc; exact ih _ (by rw [LF.ev_add]; exact Int.add_nonneg hp (Int.mul_nonneg (Int.natCast_nonneg c.z) (LC.form_ok ρ σ c hc))) h
theorem LC.imp_ok (ρ σ) (g : LC) (l : List LC) (hg : g.go = true) (h : (LC.sum (LF.zero.add g.z g.neg.form) l).bad = true) : g.imp ρ σ l :=
 (Classical.em (g.den ρ σ)).elim (fun h' => LC.imp_of ρ σ g h' l) fun h' =>
  LC.imp_no ρ σ g l _ (by rw [LF.ev_add, LF.ev_zero, Int.zero_add]; exact Int.mul_nonneg (Int.natCast_nonneg g.z) (LC.form_ok ρ σ _ (LC.neg_ok ρ σ g (LC.go_ok g hg) h'))) (LF.bad_ok ρ σ _ h)
noncomputable def lread : Nat → Nat → List LX → List LC → List LC
 | 0, _, _, cs => cs
 | f + 1, n, st, cs =>
  match n % 16, st with
  | 1, st => lread f (n / 256) (.v (n / 16 % 16) :: st) cs
  | 2, st => lread f (n / 256) (.k (n / 16 % 16) :: st) cs
  | 3, st => lread f (n / 65536) (.k (n / 16 % 4096) :: st) cs
  | 11, st => lread f (n / 16 ^ 9) (.k (n / 16 % 16 ^ 8) :: st) cs
  | 4, y :: x :: st => lread f (n / 16) (.a x y :: st) cs
  | 5, y :: x :: st => lread f (n / 16) (.s x y :: st) cs
  | 6, x :: st => lread f (n / 256) (.m (n / 16 % 16) x :: st) cs
  | 7, x :: st => lread f (n / 256) (.r x (n / 16 % 16) :: st) cs
  | 8, x :: st => lread f (n / 16) (.c x :: st) cs
  | 9, x :: st => lread f (n / 16) (.g x :: st) cs
  | 10, y :: x :: st => lread f (n / 4096) st (⟨n / 16 % 16, decide (n / 256 % 16 < 6), match n / 256 % 16 % 6 with | 0 => .le | 1 => .lt | 2 => .eq | 3 => .qe | 4 => .nle | _ => .nlt, x, y⟩ :: cs)
  | _, _ => cs
noncomputable abbrev ldec (n : Nat) : List LC := lread 400 n [] []
noncomputable abbrev lden (ρ : List Nat) (σ : List Int) (l : List LC) : Prop :=
 l.rec True fun g l _ => g.imp ρ σ l
noncomputable def lchk : List LC → Bool
 | [] => true
 | g :: l => g.go && (LC.sum (LF.zero.add g.z g.neg.form) l).bad
theorem lin (ρ σ) (n : Nat) (h : lchk (ldec n) = true) : lden ρ σ (ldec n) := by
 cases hl : ldec n with
 | nil => trivial
 | cons g l =>
  rw [hl] at h
  have h := (Bool.and_eq_true _ _ ▸ h : _ ∧ _)
  exact LC.imp_ok ρ σ g l h.1 h.2
theorem sbP {x y : Nat} (h : 1 ≤ x - y) : x - y + y = x := Nat.sub_add_cancel (Nat.le_of_lt (Nat.lt_of_sub_pos h))
theorem sbA (x y : Nat) : x ≤ x - y + y := Nat.sub_le_iff_le_add.1 (Nat.le_refl _)
theorem J00 (n : Nat) (h : lchk (ldec n) = true) : lden [] [] (ldec n) := lin _ _ _ h
theorem J01 {x0 : Int} (n : Nat) (h : lchk (ldec n) = true) : lden [] [x0] (ldec n) := lin _ _ _ h
theorem J02 {x0 x1 : Int} (n : Nat) (h : lchk (ldec n) = true) : lden [] [x0, x1] (ldec n) := lin _ _ _ h
theorem J03 {x0 x1 x2 : Int} (n : Nat) (h : lchk (ldec n) = true) : lden [] [x0, x1, x2] (ldec n) := lin _ _ _ h
theorem J04 {x0 x1 x2 x3 : Int} (n : Nat) (h : lchk (ldec n) = true) : lden [] [x0, x1, x2, x3] (ldec n) := lin _ _ _ h
theorem J05 {x0 x1 x2 x3 x4 : Int} (n : Nat) (h : lchk (ldec n) = true) : lden [] [x0, x1, x2, x3, x4] (ldec n) := lin _ _ _ h
theorem J10 {a0 : Nat} (n : Nat) (h : lchk (ldec n) = true) : lden [a0] [] (ldec n) := lin _ _ _ h
theorem J11 {a0 : Nat} {x0 : Int} (n : Nat) (h : lchk (ldec n) = true) : lden [a0] [x0] (ldec n) := lin _ _ _ h
theorem J12 {a0 : Nat} {x0 x1 : Int} (n : Nat) (h : lchk (ldec n) = true) : lden [a0] [x0, x1] (ldec n) := lin _ _ _ h
theorem J13 {a0 : Nat} {x0 x1 x2 : Int} (n : Nat) (h : lchk (ldec n) = true) : lden [a0] [x0, x1, x2] (ldec n) := lin _ _ _ h
theorem J14 {a0 : Nat} {x0 x1 x2 x3 : Int} (n : Nat) (h : lchk (ldec n) = true) : lden [a0] [x0, x1, x2, x3] (ldec n) := lin _ _ _ h
theorem J15 {a0 : Nat} {x0 x1 x2 x3 x4 : Int} (n : Nat) (h : lchk (ldec n) = true) : lden [a0] [x0, x1, x2, x3, x4] (ldec n) := lin _ _ _ h
theorem J20 {a0 a1 : Nat} (n : Nat) (h : lchk (ldec n) = true) : lden [a0, a1] [] (ldec n) := lin _ _ _ h
theorem J21 {a0 a1 : Nat} {x0 : Int} (n : Nat) (h : lchk (ldec n) = true) : lden [a0, a1] [x0] (ldec n) := lin _ _ _ h
theorem J22 {a0 a1 : Nat} {x0 x1 : Int} (n : Nat) (h : lchk (ldec n) = true) : lden [a0, a1] [x0, x1] (ldec n) := lin _ _ _ h
theorem J23 {a0 a1 : Nat} {x0 x1 x2 : Int} (n : Nat) (h : lchk (ldec n) = true) : lden [a0, a1] [x0, x1, x2] (ldec n) := lin _ _ _ h
theorem J24 {a0 a1 : Nat} {x0 x1 x2 x3 : Int} (n : Nat) (h : lchk (ldec n) = true) : lden [a0, a1] [x0, x1, x2, x3] (ldec n) := lin _ _ _ h
theorem J25 {a0 a1 : Nat} {x0 x1 x2 x3 x4 : Int} (n : Nat) (h : lchk (ldec n) = true) : lden [a0, a1] [x0, x1, x2, x3, x4] (ldec n) := lin _ _ _ h
theorem J30 {a0 a1 a2 : Nat} (n : Nat) (h : lchk (ldec n) = true) : lden [a0, a1, a2] [] (ldec n) := lin _ _ _ h
theorem J31 {a0 a1 a2 : Nat} {x0 : Int} (n : Nat) (h : lchk (ldec n) = true) : lden [a0, a1, a2] [x0] (ldec n) := lin _ _ _ h
theorem J32 {a0 a1 a2 : Nat} {x0 x1 : Int} (n : Nat) (h : lchk (ldec n) = true) : lden [a0, a1, a2] [x0, x1] (ldec n) := lin _ _ _ h
theorem J33 {a0 a1 a2 : Nat} {x0 x1 x2 : Int} (n : Nat) (h : lchk (ldec n) = true) : lden [a0, a1, a2] [x0, x1, x2] (ldec n) := lin _ _ _ h
theorem J34 {a0 a1 a2 : Nat} {x0 x1 x2 x3 : Int} (n : Nat) (h : lchk (ldec n) = true) : lden [a0, a1, a2] [x0, x1, x2, x3] (ldec n) := lin _ _ _ h
theorem J35 {a0 a1 a2 : Nat} {x0 x1 x2 x3 x4 : Int} (n : Nat) (h : lchk (ldec n) = true) : lden [a0, a1, a2] [x0, x1, x2, x3, x4] (ldec n) := lin _ _ _ h
theorem J40 {a0 a1 a2 a3 : Nat} (n : Nat) (h : lchk (ldec n) = true) : lden [a0, a1, a2, a3] [] (ldec n) := lin _ _ _ h
theorem J41 {a0 a1 a2 a3 : Nat} {x0 : Int} (n : Nat) (h : lchk (ldec n) = true) : lden [a0, a1, a2, a3] [x0] (ldec n) := lin _ _ _ h
theorem J42 {a0 a1 a2 a3 : Nat} {x0 x1 : Int} (n : Nat) (h : lchk (ldec n) = true) : lden [a0, a1, a2, a3] [x0, x1] (ldec n) := lin _ _ _ h
theorem J43 {a0 a1 a2 a3 : Nat} {x0 x1 x2 : Int} (n : Nat) (h : lchk (ldec n) = true) : lden [a0, a1, a2, a3] [x0, x1, x2] (ldec n) := lin _ _ _ h
theorem J44 {a0 a1 a2 a3 : Nat} {x0 x1 x2 x3 : Int} (n : Nat) (h : lchk (ldec n) = true) : lden [a0, a1, a2, a3] [x0, x1, x2, x3] (ldec n) := lin _ _ _ h
theorem J45 {a0 a1 a2 a3 : Nat} {x0 x1 x2 x3 x4 : Int} (n : Nat) (h : lchk (ldec n) = true) : lden [a0, a1, a2, a3] [x0, x1, x2, x3, x4] (ldec n) := lin _ _ _ h
theorem J50 {a0 a1 a2 a3 a4 : Nat} (n : Nat) (h : lchk (ldec n) = true) : lden [a0, a1, a2, a3, a4] [] (ldec n) := lin _ _ _ h
theorem J51 {a0 a1 a2 a3 a4 : Nat} {x0 : Int} (n : Nat) (h : lchk (ldec n) = true) : lden [a0, a1, a2, a3, a4] [x0] (ldec n) := lin _ _ _ h
theorem J52 {a0 a1 a2 a3 a4 : Nat} {x0 x1 : Int} (n : Nat) (h : lchk (ldec n) = true) : lden [a0, a1, a2, a3, a4] [x0, x1] (ldec n) := lin _ _ _ h
theorem J53 {a0 a1 a2 a3 a4 : Nat} {x0 x1 x2 : Int} (n : Nat) (h : lchk (ldec n) = true) : lden [a0, a1, a2, a3, a4] [x0, x1, x2] (ldec n) := lin _ _ _ h
theorem J54 {a0 a1 a2 a3 a4 : Nat} {x0 x1 x2 x3 : Int} (n : Nat) (h : lchk (ldec n) = true) : lden [a0, a1, a2, a3, a4] [x0, x1, x2, x3] (ldec n) := lin _ _ _ h
theorem J55 {a0 a1 a2 a3 a4 : Nat} {x0 x1 x2 x3 x4 : Int} (n : Nat) (h : lchk (ldec n) = true) : lden [a0, a1, a2, a3, a4] [x0, x1, x2, x3, x4] (ldec n) := lin _ _ _ h
theorem J60 {a0 a1 a2 a3 a4 a5 : Nat} (n : Nat) (h : lchk (ldec n) = true) : lden [a0, a1, a2, a3, a4, a5] [] (ldec n) := lin _ _ _ h
theorem J61 {a0 a1 a2 a3 a4 a5 : Nat} {x0 : Int} (n : Nat) (h : lchk (ldec n) = true) : lden [a0, a1, a2, a3, a4, a5] [x0] (ldec n) := lin _ _ _ h
theorem J62 {a0 a1 a2 a3 a4 a5 : Nat} {x0 x1 : Int} (n : Nat) (h : lchk (ldec n) = true) : lden [a0, a1, a2, a3, a4, a5] [x0, x1] (ldec n) := lin _ _ _ h
theorem J63 {a0 a1 a2 a3 a4 a5 : Nat} {x0 x1 x2 : Int} (n : Nat) (h : lchk (ldec n) = true) : lden [a0, a1, a2, a3, a4, a5] [x0, x1, x2] (ldec n) := lin _ _ _ h
theorem J64 {a0 a1 a2 a3 a4 a5 : Nat} {x0 x1 x2 x3 : Int} (n : Nat) (h : lchk (ldec n) = true) : lden [a0, a1, a2, a3, a4, a5] [x0, x1, x2, x3] (ldec n) := lin _ _ _ h
theorem J65 {a0 a1 a2 a3 a4 a5 : Nat} {x0 x1 x2 x3 x4 : Int} (n : Nat) (h : lchk (ldec n) = true) : lden [a0, a1, a2, a3, a4, a5] [x0, x1, x2, x3, x4] (ldec n) := lin _ _ _ h
theorem J70 {a0 a1 a2 a3 a4 a5 a6 : Nat} (n : Nat) (h : lchk (ldec n) = true) : lden [a0, a1, a2, a3, a4, a5, a6] [] (ldec n) := lin _ _ _ h
theorem J71 {a0 a1 a2 a3 a4 a5 a6 : Nat} {x0 : Int} (n : Nat) (h : lchk (ldec n) = true) : lden [a0, a1, a2, a3, a4, a5, a6] [x0] (ldec n) := lin _ _ _ h
theorem J72 {a0 a1 a2 a3 a4 a5 a6 : Nat} {x0 x1 : Int} (n : Nat) (h : lchk (ldec n) = true) : lden [a0, a1, a2, a3, a4, a5, a6] [x0, x1] (ldec n) := lin _ _ _ h
theorem J73 {a0 a1 a2 a3 a4 a5 a6 : Nat} {x0 x1 x2 : Int} (n : Nat) (h : lchk (ldec n) = true) : lden [a0, a1, a2, a3, a4, a5, a6] [x0, x1, x2] (ldec n) := lin _ _ _ h
theorem J74 {a0 a1 a2 a3 a4 a5 a6 : Nat} {x0 x1 x2 x3 : Int} (n : Nat) (h : lchk (ldec n) = true) : lden [a0, a1, a2, a3, a4, a5, a6] [x0, x1, x2, x3] (ldec n) := lin _ _ _ h
theorem J75 {a0 a1 a2 a3 a4 a5 a6 : Nat} {x0 x1 x2 x3 x4 : Int} (n : Nat) (h : lchk (ldec n) = true) : lden [a0, a1, a2, a3, a4, a5, a6] [x0, x1, x2, x3, x4] (ldec n) := lin _ _ _ h
theorem J80 {a0 a1 a2 a3 a4 a5 a6 a7 : Nat} (n : Nat) (h : lchk (ldec n) = true) : lden [a0, a1, a2, a3, a4, a5, a6, a7] [] (ldec n) := lin _ _ _ h
theorem J81 {a0 a1 a2 a3 a4 a5 a6 a7 : Nat} {x0 : Int} (n : Nat) (h : lchk (ldec n) = true) : lden [a0, a1, a2, a3, a4, a5, a6, a7] [x0] (ldec n) := lin _ _ _ h
theorem J82 {a0 a1 a2 a3 a4 a5 a6 a7 : Nat} {x0 x1 : Int} (n : Nat) (h : lchk (ldec n) = true) : lden [a0, a1, a2, a3, a4, a5, a6, a7] [x0, x1] (ldec n) := lin _ _ _ h
theorem J83 {a0 a1 a2 a3 a4 a5 a6 a7 : Nat} {x0 x1 x2 : Int} (n : Nat) (h : lchk (ldec n) = true) : lden [a0, a1, a2, a3, a4, a5, a6, a7] [x0, x1, x2] (ldec n) := lin _ _ _ h
theorem J84 {a0 a1 a2 a3 a4 a5 a6 a7 : Nat} {x0 x1 x2 x3 : Int} (n : Nat) (h : lchk (ldec n) = true) : lden [a0, a1, a2, a3, a4, a5, a6, a7] [x0, x1, x2, x3] (ldec n) := lin _ _ _ h
theorem J85 {a0 a1 a2 a3 a4 a5 a6 a7 : Nat} {x0 x1 x2 x3 x4 : Int} (n : Nat) (h : lchk (ldec n) = true) : lden [a0, a1, a2, a3, a4, a5, a6, a7] [x0, x1, x2, x3, x4] (ldec n) := lin _ _ _ h
set_option tactic.hygienic false
noncomputable def run (P : Nat → Bool) : Nat → Nat
 | 0 => 0
 | l + 1 => if P 0 then 1 + run (fun j => P (j + 1)) l else 0
theorem run_le : ∀ (P : Nat → Bool) (l : Nat), run P l ≤ l
 | P, 0 => Nat.le_refl _
 | P, l + 1 => by
  unfold run
  split
  ·have := run_le (fun j => P (j + 1)) l; exact J20 (nat_lit 0x1a412114011201a1101) rfl this
  ·exact J10 (nat_lit 0x1a4120102) rfl
theorem run_true : ∀ (P : Nat → Bool) (l j : Nat), j < run P l → P j = true
 | P, 0, j, h => by simp [run] at h
 | P, l + 1, j, h => by
  unfold run at h
  split at h
  ·rename_i q
   cases j with
   | zero => exact q
   | succ j => exact run_true (fun j => P (j + 1)) l j (by exact J20 (nat_lit 0x11a110111a4111241201) rfl h)
  ·exact (Nat.lt_irrefl 0 (J10 (nat_lit 0x10a020211a0201) rfl h)).elim
theorem run_false : ∀ (P : Nat → Bool) (l : Nat), run P l < l → P (run P l) = false
 | P, 0, h => by simp [run] at h
 | P, l + 1, h => by
  unfold run at h ⊢
  split at h
  ·rename_i q
   rw [if_pos q]
   have := run_false (fun j => P (j + 1)) l (by exact J20 (nat_lit 0x11a110111a4121140112) rfl h)
   rw [Nat.add_comm 1]; exact this
  ·rename_i q
   rw [if_neg q]
   simpa using q
theorem run_uniq {P : Nat → Bool} {l k : Nat} (h1 : k ≤ l) (h2 : ∀ j, j < k → P j = true) (h3 : k < l → P k = false) : run P l = k := by
 rcases Nat.lt_trichotomy (run P l) k with h | h | h
 ·have := run_false P l (by exact J30 (nat_lit 0x11a110101a112111a2101) rfl h1 h)
  rw [h2 _ h] at this; cases this
 ·exact h
 ·have a := run_true P l k h
  have := run_le P l
  rw [h3 (by exact J30 (nat_lit 0x11a110111a210101a1121) rfl h this)] at a; cases a
theorem run_ge {P : Nat → Bool} {l k : Nat} (h1 : k ≤ l) (h2 : ∀ j, j < k → P j = true) : k ≤ run P l := by
 rcases Nat.lt_or_ge (run P l) k with h | h
 ·have := run_false P l (by exact J30 (nat_lit 0x11a110101a112111a2101) rfl h1 h)
  rw [h2 _ h] at this; cases this
 ·exact h
theorem run_congr {P R : Nat → Bool} {l : Nat} (h : ∀ j, j < l → P j = R j) : run P l = run R l := by
 refine run_uniq (run_le _ _) (fun j hj => ?_) fun hk => ?_
 ·rw [h j (Nat.lt_of_lt_of_le hj (run_le _ _))]; exact run_true _ _ _ hj
 ·rw [h _ hk]; exact run_false _ _ hk
noncomputable def lcp (o : Nat → Nat) (p q l : Nat) : Nat := run (fun j => o (p + j) == o (q + j)) l
theorem lcp_le (o : Nat → Nat) (p q l : Nat) : lcp o p q l ≤ l := run_le _ _
theorem wdY {o : Nat → Nat} {p q l j : Nat} (h : j < lcp o p q l) : o (p + j) = o (q + j) := by simpa using run_true _ _ _ h
theorem lcp_ne {o : Nat → Nat} {p q l : Nat} (h : lcp o p q l < l) : o (p + lcp o p q l) ≠ o (q + lcp o p q l) := by
 have := run_false _ _ h
 unfold lcp
 simpa using this
theorem lcp_ge {o : Nat → Nat} {p q l k : Nat} (h1 : k ≤ l) (h2 : ∀ j, j < k → o (p + j) = o (q + j)) : k ≤ lcp o p q l := run_ge h1 fun j hj => by simpa using h2 j hj
theorem lcp_uniq {o : Nat → Nat} {p q l k : Nat} (h1 : k ≤ l) (h2 : ∀ j, j < k → o (p + j) = o (q + j)) (h3 : k < l → o (p + k) ≠ o (q + k)) : lcp o p q l = k :=
 run_uniq h1 (fun j hj => by simpa using h2 j hj) fun hk => by simpa using h3 hk
noncomputable def recs (c : Nat → Nat) : List Nat → Nat → List (Nat × Nat)
 | [], _ => []
 | d :: ds, L => if L < c d then (c d, d) :: recs c ds (c d) else recs c ds L
theorem wjX {c : Nat → Nat} : ∀ {ds : List Nat} {L : Nat}, (∀ d ∈ ds, c d ≤ L) → recs c ds L = []
 | [], _, _ => rfl
 | d :: ds, L, h => by
  unfold recs
  rw [if_neg (Nat.not_lt.mpr (h d (.head _)))]
  exact wjX fun e he => h e (.tail _ he)
theorem wcW {c : Nat → Nat} {d : Nat} {ds : List Nat} {L : Nat} : recs c (d :: ds) L = (if L < c d then [(c d, d)] else []) ++ recs c ds (max L (c d)) := by
 show (if L < c d then _ else _) = _
 split
 ·rename_i h; rw [Nat.max_eq_right (Nat.le_of_lt h)]; rfl
 ·rename_i h; rw [Nat.max_eq_left (Nat.not_lt.mp h)]; rfl
theorem recs_filter {c : Nat → Nat} (P : Nat → Bool) : ∀ (ds : List Nat) (L : Nat), (∀ (i : Nat) d, ds[i]? = some d → P d = false → c d ≤ L ∨ ∃ j e, j < i ∧ ds[j]? = some e ∧ c d ≤ c e) → recs c (ds.filter P) L = recs c ds L
 | [], _, _ => rfl
 | d :: ds, L, h => by
  have ih := recs_filter P ds (max L (c d)) (fun i e he hp => by
   rcases h (i + 1) e he hp with q | ⟨j, x, hj, hx, hc⟩
   ·exact .inl (Nat.le_trans q (Nat.le_max_left _ _))
   ·cases j with
    | zero => simp at hx; subst hx; exact .inl (Nat.le_trans hc (Nat.le_max_right _ _))
    | succ j => exact .inr ⟨j, x, by exact J20 (nat_lit 0x11a110111a4121141201) rfl hj, by simpa using hx, hc⟩)
  rw [wcW]
  rw [List.filter_cons]
  split
  ·rw [wcW, ih]
  ·rename_i hp
   have hp : P d = false := by simpa using hp
   rcases h 0 d rfl hp with q | ⟨j, x, hj, _⟩
   ·rw [if_neg (Nat.not_lt.mpr q), List.nil_append, ← ih, Nat.max_eq_left q]
   ·exact (Nat.lt_irrefl 0 (J10 (nat_lit 0x10a020211a0201) rfl hj)).elim
theorem wjV {c : Nat → Nat} (P : Nat → Bool) (ds : List Nat) (L : Nat) (h : ∀ d ∈ ds, P d = false → c d ≤ L) : recs c (ds.filter P) L = recs c ds L :=
 recs_filter P ds L fun i d hd hp => .inl (h d (List.mem_of_getElem? hd) hp)
theorem recs_congr {c e : Nat → Nat} : ∀ {ds : List Nat} {L : Nat}, (∀ d ∈ ds, c d = e d) → recs c ds L = recs e ds L
 | [], _, _ => rfl
 | d :: ds, L, h => by
  rw [wcW, wcW, h d (.head _), recs_congr fun x hx => h x (.tail _ hx)]
theorem wjW {c : Nat → Nat} : ∀ {ds : List Nat} {L : Nat} {k d : Nat}, (k, d) ∈ recs c ds L → d ∈ ds ∧ k = c d ∧ L < k
 | [], _, _, _, h => by simp [recs] at h
 | e :: ds, L, k, d, h => by
  unfold recs at h
  split at h
  ·rename_i q
   rcases List.mem_cons.mp h with h | h
   ·cases h; exact ⟨.head _, rfl, q⟩
   ·obtain ⟨a, b, cc⟩ := wjW h; exact ⟨.tail _ a, b, by exact J30 (nat_lit 0x11a110111a210111a1121) rfl q cc⟩
  ·obtain ⟨a, b, cc⟩ := wjW h; exact ⟨.tail _ a, b, cc⟩
theorem recs_has {c : Nat → Nat} : ∀ {ds : List Nat} {L : Nat} {d : Nat} (i : Nat), ds[i]? = some d → L < c d → ∃ k e j, (k, e) ∈ recs c ds L ∧ ds[j]? = some e ∧ j ≤ i ∧ c d ≤ k
 | [], _, _, i, h, _ => by simp at h
 | e :: ds, L, d, i, h, hl => by
  rcases Nat.lt_or_ge L (c e) with q | q
  ·rcases Nat.lt_or_ge (c e) (c d) with q2 | q2
   ·cases i with
    | zero => simp at h; subst h; exact (Nat.lt_irrefl 0 (J10 (nat_lit 0x10a020211a0101) rfl q2)).elim
    | succ i =>
     obtain ⟨k, x, j, a, b, cc, dd⟩ := recs_has (L := c e) i (by simpa using h) q2
     exact ⟨k, x, j + 1, by unfold recs; rw [if_pos q]; exact .tail _ a, by simpa using b, by exact J20 (nat_lit 0x1a412114120101a1101) rfl cc, dd⟩
   ·exact ⟨c e, e, 0, by unfold recs; rw [if_pos q]; exact .head _, rfl, Nat.zero_le _, q2⟩
  ·cases i with
   | zero => simp at h; subst h; exact (Nat.lt_irrefl 0 (J20 (nat_lit 0x10a020201a110111a0111) rfl q hl)).elim
   | succ i =>
    obtain ⟨k, x, j, a, b, cc, dd⟩ := recs_has (L := L) i (by simpa using h) hl
    exact ⟨k, x, j + 1, by unfold recs; rw [if_neg (Nat.not_lt.mpr q)]; exact a, by simpa using b, by exact J20 (nat_lit 0x1a412114120101a1101) rfl cc, dd⟩
theorem recs_last {c : Nat → Nat} : ∀ {ds : List Nat} {L : Nat}, (∀ k d, (recs c ds L).getLast? = some (k, d) → ∀ e ∈ ds, c e ≤ k) ∧ ((recs c ds L).getLast? = none → ∀ e ∈ ds, c e ≤ L)
 | [], L => by simp [recs]
 | e :: ds, L => by
  unfold recs
  split
  ·rename_i q
   obtain ⟨h1, h2⟩ := recs_last (c := c) (ds := ds) (L := c e)
   cases hq : (recs c ds (c e)).getLast? with
   | none =>
    have : recs c ds (c e) = [] := List.getLast?_eq_none_iff.mp hq
    rw [this]
    refine ⟨fun k d h x hx => ?_, fun h => by simp at h⟩
    simp at h; obtain ⟨rfl, rfl⟩ := h
    rcases List.mem_cons.mp hx with rfl | hx
    ·exact Nat.le_refl _
    ·exact h2 hq x hx
   | some y =>
    have e2 : ((c e, e) :: recs c ds (c e)).getLast? = some y := by
     rw [List.getLast?_cons, hq]; rfl
    rw [e2]
    refine ⟨fun k d h x hx => ?_, fun h => by simp at h⟩
    cases h
    rcases List.mem_cons.mp hx with rfl | hx
    ·have := wjW (List.mem_of_getLast? hq); exact J20 (nat_lit 0x1a110111a1101) rfl this.2.2
    ·exact h1 k d hq x hx
  ·rename_i q
   obtain ⟨h1, h2⟩ := recs_last (c := c) (ds := ds) (L := L)
   refine ⟨fun k d h x hx => ?_, fun h x hx => ?_⟩
   ·rcases List.mem_cons.mp hx with rfl | hx
    ·have := wjW (List.mem_of_getLast? h); exact J30 (nat_lit 0x1a110151a012111a1121) rfl q this.2.2
    ·exact h1 k d h x hx
   ·rcases List.mem_cons.mp hx with rfl | hx
    ·exact J20 (nat_lit 0x1a110151a0111) rfl q
    ·exact h2 h x hx
noncomputable def down : Nat → List Nat
 | 0 => []
 | k + 1 => k :: down k
theorem zcW : ∀ {k q : Nat}, q ∈ down k ↔ q < k
 | 0, q => by simp [down]
 | k + 1, q => by
  unfold down
  rw [List.mem_cons, zcW]; omega
noncomputable def prev (P : Nat → Bool) : Nat → Int
 | 0 => -1
 | k + 1 => if P k then (k : Int) else prev P k
theorem whW (P : Nat → Bool) : ∀ k, (prev P k = -1 ∧ (down k).filter P = []) ∨ ∃ q, prev P k = (q : Nat) ∧ q < k ∧ P q = true ∧ (down k).filter P = q :: (down q).filter P
 | 0 => .inl ⟨rfl, rfl⟩
 | k + 1 => by
  have ed : down (k + 1) = k :: down k := rfl
  unfold prev
  rw [ed]
  cases h : P k with
  | true => exact .inr ⟨k, by simp, by exact J10 (nat_lit 0x11a4120101) rfl, h, by rw [List.filter_cons, h, if_pos rfl]⟩
  | false =>
   simp only [Bool.false_eq_true, if_false, List.filter_cons, h]
   rcases whW P k with q | ⟨q, a, b, cc, d⟩
   ·exact .inl q
   ·exact .inr ⟨q, a, by exact J20 (nat_lit 0x11a412110111a1101) rfl b, cc, d⟩
theorem prev_lt (P : Nat → Bool) (k : Nat) : prev P k < k := by
 rcases whW P k with ⟨h, _⟩ | ⟨q, h, _⟩ <;> (first | exact J11 (nat_lit 0x71a8010181a91201) rfl h | exact J21 (nat_lit 0x71a8010181a8110111a0111) rfl h right.1)
noncomputable def cnt (o : Nat → Nat) (n most p q : Nat) : Nat := lcp o p q (min most (n - p))
noncomputable def far (w p q : Nat) : Bool := decide (p - q ≤ w)
noncomputable def can (o : Nat → Nat) (n w most p L : Nat) : List (Nat × Nat) := (recs (cnt o n most p) ((down p).filter (far w p)) L).map fun x => (x.1, p - x.2)
noncomputable def key (o : Nat → Nat) (p : Nat) : Nat → Nat
 | 0 => 0
 | s + 1 => key o p s * 256 + o (p + s)
theorem key_inj {o : Nat → Nat} (ho : ∀ i, o i < 256) {p q : Nat} : ∀ {s : Nat}, key o p s = key o q s → ∀ j, j < s → o (p + j) = o (q + j)
 | 0, _, j, h => by exact Nat.le_antisymm (J30 (nat_lit 0xa110111a0221) rfl h) (J30 (nat_lit 0xa110111a0221) rfl h)
 | s + 1, h, j, hj => by
  unfold key at h
  have a := ho (p + s); have b := ho (q + s)
  have e1 : key o p s = key o q s := by omega
  rcases Nat.lt_or_ge j s with g | g
  ·exact key_inj ho e1 j g
  ·have : j = s := by exact Nat.le_antisymm (J20 (nat_lit 0x1a110111a4121101) rfl hj) (J20 (nat_lit 0x1a110101a1101) rfl g)
   subst this; omega
theorem key_of {o : Nat → Nat} {p q : Nat} : ∀ {s : Nat}, (∀ j, j < s → o (p + j) = o (q + j)) → key o p s = key o q s
 | 0, _ => rfl
 | s + 1, h => by
  unfold key
  rw [key_of fun j hj => h j (by exact J20 (nat_lit 0x11a412110111a1101) rfl hj), h s (by exact J10 (nat_lit 0x11a4120101) rfl)]
noncomputable def same (o : Nat → Nat) (n s : Nat) (i : Int) (q : Nat) : Bool := decide (q + s ≤ n) && decide ((key o q s : Int) = i)
theorem can_chain {o : Nat → Nat} (ho : ∀ i, o i < 256) {n w most p s : Nat} (hs : 1 ≤ s) (hp : p + s ≤ n) :
 can o n w most p (s - 1) = (recs (cnt o n most p) (((down p).filter (same o n s (key o p s))).filter (far w p)) (s - 1)).map fun x => (x.1, p - x.2) := by
 unfold can
 congr 1
 rw [List.filter_filter]
 rw [show (fun a => far w p a && same o n s (key o p s) a) = (fun a => same o n s (key o p s) a && far w p a) from funext fun a => Bool.and_comm _ _, ← List.filter_filter]
 symm
 refine wjV _ _ _ fun q hq hsame => ?_
 have hq : q < p := zcW.mp (List.mem_filter.mp hq).1
 unfold same at hsame
 have e : ¬ (key o q s = key o p s) := by
  intro e
  rw [e] at hsame
  simp at hsame; exact Nat.lt_irrefl 0 (J40 (nat_lit 0x10a020201a214110111a013111a4113121) rfl hp hq hsame)
 rcases Nat.lt_or_ge (s - 1) (cnt o n most p q) with g | g
 ·exact absurd (key_of fun j hj => (wdY (o := o) (p := p) (q := q) (l := min most (n - p)) (by unfold cnt at g; exact J40 (nat_lit 0x11a110111a112111a310101a4122131) rfl g hj (sbA _ _))).symm) e
 ·exact g
theorem can_short {o : Nat → Nat} {n w most p s : Nat} (hs : 1 ≤ s) (hp : n < p + s ∨ most < s) : can o n w most p (s - 1) = [] := by
 unfold can
 rw [wjX]; rfl
 intro q _
 have := lcp_le o p q (min most (n - p))
 unfold cnt; omega
set_option tactic.hygienic false
theorem down_sorted : ∀ k : Nat, (down k).Pairwise (· > ·)
 | 0 => .nil
 | k + 1 => .cons (fun q hq => zcW.mp hq) (down_sorted k)
theorem recs_filter_desc {c : Nat → Nat} (P : Nat → Bool) {ds : List Nat} {L : Nat} (hs : ds.Pairwise (· > ·)) (h : ∀ d ∈ ds, P d = false → c d ≤ L ∨ ∃ e ∈ ds, d < e ∧ c d ≤ c e) : recs c (ds.filter P) L = recs c ds L := by
 refine recs_filter P ds L fun i d hd hp => ?_
 rcases h d (List.mem_of_getElem? hd) hp with q | ⟨e, he, hde, hc⟩
 ·exact .inl q
 ·obtain ⟨j, hj⟩ := List.mem_iff_getElem?.mp he
  refine .inr ⟨j, e, ?_, hj, hc⟩
  obtain ⟨h1, e1⟩ := List.getElem?_eq_some_iff.mp hd
  obtain ⟨h2, e2⟩ := List.getElem?_eq_some_iff.mp hj
  rcases Nat.lt_trichotomy j i with g | g | g
  ·exact g
  ·subst g; rw [e1] at e2; exact J30 (nat_lit 0x10a010111a211131a2111) rfl hde e2
  ·have := List.pairwise_iff_getElem.mp hs i j h1 h2 g
   rw [e1, e2] at this; exact J40 (nat_lit 0x10a110111a312111a2131) rfl hde this
theorem down_max {P : Nat → Bool} {q : Nat} : ∀ {p : Nat}, q < p → P q = true → (∀ x, x < p → P x = true → x ≤ q) → (down p).filter P = q :: (down q).filter P
 | 0, h, _, _ => by exact (Nat.lt_irrefl 0 (J10 (nat_lit 0x10a020211a0201) rfl h)).elim
 | p + 1, h, hq, hm => by
  have ed : down (p + 1) = p :: down p := rfl
  rw [ed, List.filter_cons]
  cases hp : P p with
  | true =>
   have := hm p (by exact J10 (nat_lit 0x11a4120101) rfl) hp
   have : p = q := by exact Nat.le_antisymm (J20 (nat_lit 0x1a110101a1101) rfl this) (J20 (nat_lit 0x1a110111a4121101) rfl h)
   subst this; simp
  | false =>
   have : q ≠ p := fun e => by rw [e, hp] at hq; cases hq
   simp only [Bool.false_eq_true, if_false]
   exact down_max (by exact J20 (nat_lit 0x11a110111a1101) rfl (Nat.lt_of_le_of_ne (J20 (nat_lit 0x1a110111a4121101) rfl h) this)) hq fun x hx => hm x (by exact J20 (nat_lit 0x11a412110111a1101) rfl hx)
theorem down_lt {P : Nat → Bool} {q : Nat} : ∀ {p : Nat}, q ≤ p → (∀ x, x < p → P x = true → x < q) → (down p).filter P = (down q).filter P
 | 0, h, _ => by have : q = 0 := by exact Nat.le_antisymm (J10 (nat_lit 0x1a020101a0201) rfl h) (J10 (nat_lit 0x1a0102) rfl)
                 subst this; rfl
 | p + 1, h, hm => by
  rcases Nat.lt_or_ge p q with g | g
  ·have : q = p + 1 := by exact Nat.le_antisymm (J20 (nat_lit 0x1a412110101a4121101) rfl h) (J20 (nat_lit 0x1a114120111a1101) rfl g)
   subst this; rfl
  ·have ed : down (p + 1) = p :: down p := rfl
   have hp : P p = false := by
    cases hp : P p with
    | false => rfl
    | true => have := hm p (by exact J10 (nat_lit 0x11a4120101) rfl) hp; exact (Nat.lt_irrefl 0 (J20 (nat_lit 0x10a020201a110111a0111) rfl g this)).elim
   rw [ed, List.filter_cons, hp]
   simp only [Bool.false_eq_true, if_false]
   exact down_lt g fun x hx => hm x (by exact J20 (nat_lit 0x11a412110111a1101) rfl hx)
inductive Tr where
 | nil
 | node (q : Nat) (l r : Tr)
noncomputable def Tr.has : Tr → Nat → Bool
 | .nil, _ => false
 | .node q l r, x => x == q || l.has x || r.has x
theorem Tr.has_node {q x : Nat} {l r : Tr} : (Tr.node q l r).has x = true ↔ x = q ∨ l.has x = true ∨ r.has x = true := by
 simp [Tr.has, Bool.or_eq_true, or_assoc]
noncomputable def Lt (o : Nat → Nat) (n x q : Nat) : Prop := ∃ j, (∀ i, i < j → o (x + i) = o (q + i)) ∧ x + j < n ∧ q + j < n ∧ o (x + j) < o (q + j)
noncomputable def Ag (o : Nat → Nat) (n x q : Nat) : Prop := ∀ j, j < n - q → o (x + j) = o (q + j)
theorem Lt.trans {o : Nat → Nat} {n a b e : Nat} (h : Lt o n a b) (k : Lt o n b e) : Lt o n a e := by
 obtain ⟨i, i1, i2, i3, i4⟩ := h
 obtain ⟨j, j1, j2, j3, j4⟩ := k
 rcases Nat.lt_trichotomy i j with g | g | g
 ·exact ⟨i, fun x hx => (i1 x hx).trans (j1 x (by exact J30 (nat_lit 0x11a110111a112111a2101) rfl g hx)), by exact J30 (nat_lit 0x11a214110111a2141101) rfl i2, by exact J40 (nat_lit 0x11a214110111a214310111a3111) rfl j3 g, by rw [← j1 i g]; exact i4⟩
 ·subst g; exact ⟨i, fun x hx => (i1 x hx).trans (j1 x hx), by exact J30 (nat_lit 0x11a214110111a2141101) rfl i2, by exact J30 (nat_lit 0x11a214110111a2141101) rfl j3, by exact J30 (nat_lit 0x11a110111a210111a1121) rfl i4 j4⟩
 ·exact ⟨j, fun x hx => (i1 x (by exact J30 (nat_lit 0x11a110111a112111a2101) rfl g hx)).trans (j1 x hx), by exact J40 (nat_lit 0x11a214110111a214310111a3111) rfl i2 g, by exact J30 (nat_lit 0x11a214110111a2141101) rfl j3, by rw [i1 j g]; exact j4⟩
noncomputable def WF (o : Nat → Nat) (n : Nat) : Tr → Prop
 | .nil => True
 | .node q l r => (∀ x, l.has x = true → x < q ∧ (Lt o n x q ∨ Ag o n x q)) ∧ (∀ x, r.has x = true → x < q ∧ (Lt o n q x ∨ Ag o n x q)) ∧ (∀ x, l.has x = true → r.has x = true → False) ∧ WF o n l ∧ WF o n r
noncomputable def walkT (o : Nat → Nat) (n w most p : Nat) : Tr → Nat → List (Nat × Nat)
 | .nil, _ => []
 | .node q l r, L => if far w p q = true ∧ L < min most (n - p) then
  (if L < cnt o n most p q then [(cnt o n most p q, q)] else []) ++
  (if cnt o n most p q < min most (n - p) then (if o (q + cnt o n most p q) < o (p + cnt o n most p q) then walkT o n w most p r (max L (cnt o n most p q)) else walkT o n w most p l (max L (cnt o n most p q))) else [])
  else []
theorem cnt_le {o : Nat → Nat} {n most p q : Nat} : cnt o n most p q ≤ min most (n - p) := lcp_le _ _ _ _
theorem cnt_ag {o : Nat → Nat} {n most p x q : Nat} (hq : q < p) (h : Ag o n x q) : cnt o n most p x ≤ cnt o n most p q := by
 have hl : cnt o n most p x ≤ min most (n - p) := cnt_le
 exact lcp_ge hl fun j hj => (wdY hj).trans (h j (by exact J80 (nat_lit 0x11a110111a312101a514111a410101a615131a714211121a7143161) rfl hq hl hj (Nat.min_le_right _ _) (Nat.sub_add_cancel (J40 (nat_lit 0x1a110111a210121a1142131) rfl hq (sbP (J40 (nat_lit 0x1a011201a211111a113101a0121) rfl hl hj (Nat.min_le_right _ _))))) (Nat.sub_add_cancel (J30 (nat_lit 0x1a110121a1140121) rfl (sbP (J40 (nat_lit 0x1a011201a211111a113101a0121) rfl hl hj (Nat.min_le_right _ _)))))))
theorem cnt_low {o : Nat → Nat} {n most p x q : Nat} (hk : cnt o n most p q < min most (n - p)) (h : Lt o n x q) (ho : o (q + cnt o n most p q) < o (p + cnt o n most p q)) : cnt o n most p x ≤ cnt o n most p q := by
 rcases Nat.lt_or_ge (cnt o n most p q) (cnt o n most p x) with g | g
 ·exfalso
  obtain ⟨j, j1, _, _, j4⟩ := h
  have ex : ∀ i, i ≤ cnt o n most p q → o (p + i) = o (x + i) := fun i hi => wdY (Nat.lt_of_le_of_lt hi g)
  rcases Nat.lt_trichotomy j (cnt o n most p q) with h1 | h1 | h1
  ·have a : o (p + j) = o (q + j) := wdY h1
   have := ex j (by exact J20 (nat_lit 0x1a110111a1101) rfl h1); exact Nat.lt_irrefl 0 (J30 (nat_lit 0x10a020211a110131a112121a0121) rfl j4 a this)
  ·subst h1; have := ex _ (Nat.le_refl _); exact Nat.lt_irrefl 0 (J30 (nat_lit 0x10a020211a110111a012121a2111) rfl ho j4 this)
  ·have := ex _ (Nat.le_refl _); have := j1 _ h1; exact Nat.lt_irrefl 0 (J30 (nat_lit 0x10a020211a110121a211121a0121) rfl ho ‹_› this)
 ·exact g
theorem cnt_high {o : Nat → Nat} {n most p x q : Nat} (hk : cnt o n most p q < min most (n - p)) (h : Lt o n q x) (ho : ¬ o (q + cnt o n most p q) < o (p + cnt o n most p q)) : cnt o n most p x ≤ cnt o n most p q := by
 have ne : o (p + cnt o n most p q) ≠ o (q + cnt o n most p q) := lcp_ne hk
 rcases Nat.lt_or_ge (cnt o n most p q) (cnt o n most p x) with g | g
 ·exfalso
  obtain ⟨j, j1, _, _, j4⟩ := h
  have ex : ∀ i, i ≤ cnt o n most p q → o (p + i) = o (x + i) := fun i hi => wdY (Nat.lt_of_le_of_lt hi g)
  rcases Nat.lt_trichotomy j (cnt o n most p q) with h1 | h1 | h1
  ·have a : o (p + j) = o (q + j) := wdY h1
   have := ex j (by exact J20 (nat_lit 0x1a110111a1101) rfl h1); exact Nat.lt_irrefl 0 (J30 (nat_lit 0x10a020211a110121a012131a1121) rfl j4 a this)
  ·subst h1; have := ex _ (Nat.le_refl _); exact Nat.lt_irrefl 0 (J30 (nat_lit 0x10a020251a110111a210131a2111) rfl ho j4 this)
  ·have := ex _ (Nat.le_refl _); have := j1 _ h1; exact Nat.lt_irrefl 0 (J30 (nat_lit 0x10a020231a110121a112111a2101) rfl ‹_› this (Nat.lt_of_le_of_ne (J30 (nat_lit 0x1a110121a210131a2111) rfl ‹_› this) ne))
 ·exact g
theorem walk_ok {o : Nat → Nat} {n w most p : Nat} : ∀ {t : Tr} {L : Nat}, WF o n t → (∀ x, t.has x = true → x < p) → walkT o n w most p t L = recs (cnt o n most p) (((down p).filter t.has).filter (far w p)) L
 | .nil, L, _, _ => by
  have e : (down p).filter Tr.nil.has = [] := List.filter_eq_nil_iff.mpr fun x _ => by simp [Tr.has]
  rw [e]; rfl
 | .node q l r, L, ⟨hl, hr, hd, wl, wr⟩, hp => by
  have hq : q < p := hp q (Tr.has_node.mpr (.inl rfl))
  have e1 : (down p).filter (Tr.node q l r).has = q :: (down q).filter (Tr.node q l r).has := by
   refine down_max hq (Tr.has_node.mpr (.inl rfl)) fun x _ hx => ?_
   rcases Tr.has_node.mp hx with h | h | h
   ·exact J20 (nat_lit 0x1a110121a1101) rfl h
   ·exact Nat.le_of_lt (hl x h).1
   ·exact Nat.le_of_lt (hr x h).1
  unfold walkT
  split
  ·rename_i h0
   rw [e1, List.filter_cons, h0.1, if_pos rfl, wcW]
   congr 1
   have sub : ∀ x ∈ ((down q).filter (Tr.node q l r).has).filter (far w p), x < q ∧ (l.has x = true ∨ r.has x = true) ∧ far w p x = true := fun x hx => by
    have h1 := List.mem_filter.mp hx
    have h2 := List.mem_filter.mp h1.1
    have h3 := zcW.mp h2.1
    refine ⟨h3, ?_, h1.2⟩
    rcases Tr.has_node.mp h2.2 with h | h
    ·exact (Nat.lt_irrefl 0 (J20 (nat_lit 0x10a020211a110131a1101) rfl h3 h)).elim
    ·exact h
   split
   ·rename_i hk
    have part : ∀ (u : Tr), (∀ x, u.has x = true → x < q ∧ (Tr.node q l r).has x = true) → (((down q).filter (Tr.node q l r).has).filter (far w p)).filter u.has = ((down p).filter u.has).filter (far w p) := by
     intro u hu
     rw [down_lt (P := u.has) (Nat.le_of_lt hq) fun x _ hx => (hu x hx).1, List.filter_filter, List.filter_filter, List.filter_filter]
     refine List.filter_congr fun x _ => ?_
     cases hx : u.has x with
     | true => rw [(hu x hx).2]; simp
     | false => simp
    split
    ·rename_i ho
     rw [walk_ok wr fun x hx => hp x (Tr.has_node.mpr (.inr (.inr hx))), ← part r fun x hx => ⟨(hr x hx).1, Tr.has_node.mpr (.inr (.inr hx))⟩]
     refine wjV _ _ _ fun x hx hnr => ?_
     obtain ⟨h1, h2, _⟩ := sub x hx
     have h2 : l.has x = true := h2.resolve_right (by rw [hnr]; simp)
     refine Nat.le_trans ?_ (Nat.le_max_right _ _)
     rcases (hl x h2).2 with g | g
     ·exact cnt_low hk g ho
     ·exact cnt_ag hq g
    ·rename_i ho
     rw [walk_ok wl fun x hx => hp x (Tr.has_node.mpr (.inr (.inl hx))), ← part l fun x hx => ⟨(hl x hx).1, Tr.has_node.mpr (.inr (.inl hx))⟩]
     refine wjV _ _ _ fun x hx hnl => ?_
     obtain ⟨h1, h2, _⟩ := sub x hx
     have h2 : r.has x = true := h2.resolve_left (by rw [hnl]; simp)
     refine Nat.le_trans ?_ (Nat.le_max_right _ _)
     rcases (hr x h2).2 with g | g
     ·exact cnt_high hk g ho
     ·exact cnt_ag hq g
   ·rename_i hk
    rw [wjX]
    intro x _
    have := cnt_le (o := o) (n := n) (most := most) (p := p) (q := x)
    exact J40 (nat_lit 0x1a110151a312101a310101a1121) rfl hk this (Nat.le_max_right _ _)
  ·rename_i h0
   by_cases hf : far w p q = true
   ·rw [wjX]
    intro x _
    have := cnt_le (o := o) (n := n) (most := most) (p := p) (q := x)
    have : ¬ L < min most (n - p) := fun g => h0 ⟨hf, g⟩
    exact J30 (nat_lit 0x1a110101a210151a2111) rfl ‹_› this
   ·have : ((down p).filter (Tr.node q l r).has).filter (far w p) = [] := by
     rw [e1]
     refine List.filter_eq_nil_iff.mpr fun x hx => ?_
     have hx : x ≤ q := by
      rcases List.mem_cons.mp hx with h | h
      ·exact J20 (nat_lit 0x1a110121a1101) rfl h
      ·exact Nat.le_of_lt (zcW.mp (List.mem_filter.mp h).1)
     unfold far at hf ⊢
     simp at hf ⊢; exact J40 (nat_lit 0x11a214110101a311111a2143101) rfl hx hf
    rw [this]; rfl
noncomputable def split (o : Nat → Nat) (n w k : Nat) : Tr → Tr × Tr
 | .nil => (.nil, .nil)
 | .node q l r => if k - q ≤ w then
  (if lcp o k q (n - k) = n - k then (l, r)
   else if o (q + lcp o k q (n - k)) < o (k + lcp o k q (n - k)) then (.node q l (split o n w k r).1, (split o n w k r).2)
   else ((split o n w k l).1, .node q (split o n w k l).2 r))
  else (.nil, .nil)
theorem low_trans {o : Nat → Nat} {n x q k : Nat} (hqk : q < k) (h : Lt o n x q ∨ Ag o n x q) (hxq : x < q) (hc : lcp o k q (n - k) < n - k) (ho : o (q + lcp o k q (n - k)) < o (k + lcp o k q (n - k))) : Lt o n x k := by
 have e : ∀ i, i < lcp o k q (n - k) → o (q + i) = o (k + i) := fun i hi => (wdY hi).symm
 have L : Lt o n q k := ⟨_, e, by exact J50 (nat_lit 0x11a214110111a310111a411121a2143141) rfl hqk hc (Nat.sub_add_cancel (J30 (nat_lit 0x1a110121a1140121) rfl (sbP (J20 (nat_lit 0x1a011211a0111) rfl hc)))), by exact J40 (nat_lit 0x11a214110111a311121a2140131) rfl hc (Nat.sub_add_cancel (J30 (nat_lit 0x1a110121a1140121) rfl (sbP (J20 (nat_lit 0x1a011211a0111) rfl hc)))), ho⟩
 rcases h with h | h
 ·exact h.trans L
 ·refine ⟨lcp o k q (n - k), fun i hi => (h i (by exact J70 (nat_lit 0x11a110111a312111a514111a410121a614315131a6142111) rfl hqk hc hi (Nat.sub_add_cancel (J30 (nat_lit 0x1a110121a1140121) rfl (sbP (J20 (nat_lit 0x1a011211a0111) rfl hc)))) (Nat.sub_add_cancel (J40 (nat_lit 0x1a110111a210121a1142131) rfl hqk (sbP (J20 (nat_lit 0x1a011211a0111) rfl hc)))))).trans (e i hi), by exact J60 (nat_lit 0x11a214110111a413111a310111a511121a2144151) rfl hqk hxq hc (Nat.sub_add_cancel (J30 (nat_lit 0x1a110121a1140121) rfl (sbP (J20 (nat_lit 0x1a011211a0111) rfl hc)))), by exact J40 (nat_lit 0x11a214110111a311121a2140131) rfl hc (Nat.sub_add_cancel (J30 (nat_lit 0x1a110121a1140121) rfl (sbP (J20 (nat_lit 0x1a011211a0111) rfl hc)))), ?_⟩
  rw [h _ (by exact J60 (nat_lit 0x11a110111a312111a410121a514314131a5142111) rfl hqk hc (Nat.sub_add_cancel (J30 (nat_lit 0x1a110121a1140121) rfl (sbP (J20 (nat_lit 0x1a011211a0111) rfl hc)))) (Nat.sub_add_cancel (J40 (nat_lit 0x1a110111a210121a1142131) rfl hqk (sbP (J20 (nat_lit 0x1a011211a0111) rfl hc)))))]; exact ho
theorem high_trans {o : Nat → Nat} {n x q k : Nat} (hqk : q < k) (h : Lt o n q x ∨ Ag o n x q) (hxq : x < q) (hc : lcp o k q (n - k) < n - k) (ho : ¬ o (q + lcp o k q (n - k)) < o (k + lcp o k q (n - k))) : Lt o n k x := by
 have e : ∀ i, i < lcp o k q (n - k) → o (k + i) = o (q + i) := fun i hi => wdY hi
 have ne := lcp_ne hc
 have L : Lt o n k q := ⟨_, e, by exact J40 (nat_lit 0x11a214110111a311121a2140131) rfl hc (Nat.sub_add_cancel (J30 (nat_lit 0x1a110121a1140121) rfl (sbP (J20 (nat_lit 0x1a011211a0111) rfl hc)))), by exact J50 (nat_lit 0x11a214110111a310111a411121a2143141) rfl hqk hc (Nat.sub_add_cancel (J30 (nat_lit 0x1a110121a1140121) rfl (sbP (J20 (nat_lit 0x1a011211a0111) rfl hc)))), by exact J20 (nat_lit 0x11a110111a1101) rfl (Nat.lt_of_le_of_ne (J20 (nat_lit 0x1a110151a0111) rfl ho) ne)⟩
 rcases h with h | h
 ·exact L.trans h
 ·refine ⟨lcp o k q (n - k), fun i hi => (e i hi).trans (h i (by exact J70 (nat_lit 0x11a110111a312111a514111a410121a614315131a6142111) rfl hqk hc hi (Nat.sub_add_cancel (J30 (nat_lit 0x1a110121a1140121) rfl (sbP (J20 (nat_lit 0x1a011211a0111) rfl hc)))) (Nat.sub_add_cancel (J40 (nat_lit 0x1a110111a210121a1142131) rfl hqk (sbP (J20 (nat_lit 0x1a011211a0111) rfl hc)))))).symm, by exact J40 (nat_lit 0x11a214110111a311121a2140131) rfl hc (Nat.sub_add_cancel (J30 (nat_lit 0x1a110121a1140121) rfl (sbP (J20 (nat_lit 0x1a011211a0111) rfl hc)))), by exact J60 (nat_lit 0x11a214110111a413111a310111a511121a2144151) rfl hqk hxq hc (Nat.sub_add_cancel (J30 (nat_lit 0x1a110121a1140121) rfl (sbP (J20 (nat_lit 0x1a011211a0111) rfl hc)))), ?_⟩
  rw [h _ (by exact J60 (nat_lit 0x11a110111a312111a410121a514314131a5142111) rfl hqk hc (Nat.sub_add_cancel (J30 (nat_lit 0x1a110121a1140121) rfl (sbP (J20 (nat_lit 0x1a011211a0111) rfl hc)))) (Nat.sub_add_cancel (J40 (nat_lit 0x1a110111a210121a1142131) rfl hqk (sbP (J20 (nat_lit 0x1a011211a0111) rfl hc)))))]; exact J20 (nat_lit 0x11a110111a1101) rfl (Nat.lt_of_le_of_ne (J20 (nat_lit 0x1a110151a0111) rfl ho) ne)
theorem all_low {o : Nat → Nat} {n x q k : Nat} (hqk : q < k) (h : Lt o n x q ∨ Ag o n x q) (hxq : x < q) (hc : lcp o k q (n - k) = n - k) : Lt o n x k ∨ Ag o n x k := by
 have e : ∀ i, i < n - k → o (q + i) = o (k + i) := fun i hi => (wdY (l := n - k) (p := k) (q := q) (by exact J30 (nat_lit 0x11a110131a211111a2101) rfl hc hi)).symm
 rcases h with ⟨j, j1, j2, j3, j4⟩ | h
 ·rcases Nat.lt_or_ge j (n - k) with g | g
  ·exact .inl ⟨j, fun i hi => (j1 i hi).trans (e i (by exact J30 (nat_lit 0x11a110111a112111a2101) rfl g hi)), by exact J30 (nat_lit 0x11a214110111a2141101) rfl j2, by exact J40 (nat_lit 0x11a214110111a311121a2140131) rfl g (Nat.sub_add_cancel (J30 (nat_lit 0x1a110121a1140121) rfl (sbP (J20 (nat_lit 0x1a011211a0111) rfl g)))), by rw [← e j g]; exact j4⟩
  ·exact .inr fun i hi => (j1 i (by exact J30 (nat_lit 0x11a110101a112111a2101) rfl g hi)).trans (e i hi)
 ·exact .inr fun i hi => (h i (by exact J60 (nat_lit 0x11a110111a312111a410121a514314131a5142111) rfl hqk hi (Nat.sub_add_cancel (J30 (nat_lit 0x1a110121a1140121) rfl (sbP (J20 (nat_lit 0x1a011211a0111) rfl hi)))) (Nat.sub_add_cancel (J40 (nat_lit 0x1a110111a210121a1142131) rfl hqk (sbP (J20 (nat_lit 0x1a011211a0111) rfl hi)))))).trans (e i hi)
theorem all_high {o : Nat → Nat} {n x q k : Nat} (hqk : q < k) (h : Lt o n q x ∨ Ag o n x q) (hxq : x < q) (hc : lcp o k q (n - k) = n - k) : Lt o n k x ∨ Ag o n x k := by
 have e : ∀ i, i < n - k → o (q + i) = o (k + i) := fun i hi => (wdY (l := n - k) (p := k) (q := q) (by exact J30 (nat_lit 0x11a110131a211111a2101) rfl hc hi)).symm
 rcases h with ⟨j, j1, j2, j3, j4⟩ | h
 ·rcases Nat.lt_or_ge j (n - k) with g | g
  ·exact .inl ⟨j, fun i hi => (e i (by exact J30 (nat_lit 0x11a110111a112111a2101) rfl g hi)).symm.trans (j1 i hi), by exact J40 (nat_lit 0x11a214110111a311121a2140131) rfl g (Nat.sub_add_cancel (J30 (nat_lit 0x1a110121a1140121) rfl (sbP (J20 (nat_lit 0x1a011211a0111) rfl g)))), by exact J30 (nat_lit 0x11a214110111a2141101) rfl j3, by rw [← e j g]; exact j4⟩
  ·exact .inr fun i hi => (j1 i (by exact J30 (nat_lit 0x11a110101a112111a2101) rfl g hi)).symm.trans (e i hi)
 ·exact .inr fun i hi => (h i (by exact J60 (nat_lit 0x11a110111a312111a410121a514314131a5142111) rfl hqk hi (Nat.sub_add_cancel (J30 (nat_lit 0x1a110121a1140121) rfl (sbP (J20 (nat_lit 0x1a011211a0111) rfl hi)))) (Nat.sub_add_cancel (J40 (nat_lit 0x1a110111a210121a1142131) rfl hqk (sbP (J20 (nat_lit 0x1a011211a0111) rfl hi)))))).trans (e i hi)
structure SplitOk (o : Nat → Nat) (n w k : Nat) (t : Tr) : Prop where
 low : ∀ x, (split o n w k t).1.has x = true → t.has x = true ∧ (Lt o n x k ∨ Ag o n x k)
 high : ∀ x, (split o n w k t).2.has x = true → t.has x = true ∧ (Lt o n k x ∨ Ag o n x k)
 wl : WF o n (split o n w k t).1
 wh : WF o n (split o n w k t).2
 all : ∀ x, t.has x = true → (split o n w k t).1.has x = true ∨ (split o n w k t).2.has x = true ∨ w < k - x ∨ Ag o n x k
 dis : ∀ x, (split o n w k t).1.has x = true → (split o n w k t).2.has x = true → False
theorem split_ok {o : Nat → Nat} {n w k : Nat} : ∀ {t : Tr}, WF o n t → (∀ x, t.has x = true → x < k) → SplitOk o n w k t
 | .nil, _, _ => ⟨fun x h => (by cases h), fun x h => (by cases h), trivial, trivial, fun x h => (by cases h), fun x h => (by cases h)⟩
 | .node q l r, ⟨hl, hr, hd, wl, wr⟩, hp => by
  have hq : q < k := hp q (Tr.has_node.mpr (.inl rfl))
  have il := split_ok (w := w) wl fun x hx => hp x (Tr.has_node.mpr (.inr (.inl hx)))
  have ir := split_ok (w := w) wr fun x hx => hp x (Tr.has_node.mpr (.inr (.inr hx)))
  have hc := lcp_le o k q (n - k)
  by_cases h1 : k - q ≤ w
  ·by_cases h2 : lcp o k q (n - k) = n - k
   ·have e : split o n w k (.node q l r) = (l, r) := by unfold split; rw [if_pos h1, if_pos h2]
    have agq : Ag o n q k := fun i hi => (wdY (l := n - k) (p := k) (q := q) (by exact J30 (nat_lit 0x11a110131a211111a2101) rfl h2 hi)).symm
    refine ⟨?_, ?_, ?_, ?_, ?_, ?_⟩ <;> rw [e]
    ·exact fun x h => ⟨Tr.has_node.mpr (.inr (.inl h)), all_low hq (hl x h).2 (hl x h).1 h2⟩
    ·exact fun x h => ⟨Tr.has_node.mpr (.inr (.inr h)), all_high hq (hr x h).2 (hr x h).1 h2⟩
    ·exact wl
    ·exact wr
    ·intro x h
     rcases Tr.has_node.mp h with h | h | h
     ·subst h; exact .inr (.inr (.inr agq))
     ·exact .inl h
     ·exact .inr (.inl h)
    ·exact hd
   ·by_cases h3 : o (q + lcp o k q (n - k)) < o (k + lcp o k q (n - k))
    ·have e : split o n w k (.node q l r) = (.node q l (split o n w k r).1, (split o n w k r).2) := by
      show (if k - q ≤ w then _ else _) = _
      rw [if_pos h1, if_neg h2, if_pos h3]
     have hlt : lcp o k q (n - k) < n - k := by exact J20 (nat_lit 0x11a110111a1101) rfl (Nat.lt_of_le_of_ne (J20 (nat_lit 0x1a110101a1101) rfl hc) h2)
     have Lq : Lt o n q k := ⟨lcp o k q (n - k), fun i hi => (wdY hi).symm, by exact J50 (nat_lit 0x11a214110111a310111a411121a2143141) rfl hq hlt (Nat.sub_add_cancel (J30 (nat_lit 0x1a110121a1140121) rfl (sbP (J20 (nat_lit 0x1a011211a0111) rfl hlt)))), by exact J40 (nat_lit 0x11a214110111a311121a2140131) rfl hlt (Nat.sub_add_cancel (J30 (nat_lit 0x1a110121a1140121) rfl (sbP (J20 (nat_lit 0x1a011211a0111) rfl hlt)))), h3⟩
     refine ⟨?_, ?_, ?_, ?_, ?_, ?_⟩ <;> rw [e]
     ·intro x h
      rcases Tr.has_node.mp h with h | h | h
      ·subst h; exact ⟨Tr.has_node.mpr (.inl rfl), .inl Lq⟩
      ·exact ⟨Tr.has_node.mpr (.inr (.inl h)), .inl (low_trans hq (hl x h).2 (hl x h).1 hlt h3)⟩
      ·exact ⟨Tr.has_node.mpr (.inr (.inr (ir.low x h).1)), (ir.low x h).2⟩
     ·exact fun x h => ⟨Tr.has_node.mpr (.inr (.inr (ir.high x h).1)), (ir.high x h).2⟩
     ·exact ⟨hl, fun x h => hr x (ir.low x h).1, fun x a b => hd x a (ir.low x b).1, wl, ir.wl⟩
     ·exact ir.wh
     ·intro x h
      rcases Tr.has_node.mp h with h | h | h
      ·exact .inl (Tr.has_node.mpr (.inl h))
      ·exact .inl (Tr.has_node.mpr (.inr (.inl h)))
      ·rcases ir.all x h with g | g | g
       ·exact .inl (Tr.has_node.mpr (.inr (.inr g)))
       ·exact .inr (.inl g)
       ·exact .inr (.inr g)
     ·intro x a b
      rcases Tr.has_node.mp a with h | h | h
      ·subst h; exact Nat.lt_irrefl _ (hr _ (ir.high _ b).1).1
      ·exact hd x h (ir.high x b).1
      ·exact ir.dis x h b
    ·have e : split o n w k (.node q l r) = ((split o n w k l).1, .node q (split o n w k l).2 r) := by
      show (if k - q ≤ w then _ else _) = _
      rw [if_pos h1, if_neg h2, if_neg h3]
     have hlt : lcp o k q (n - k) < n - k := by exact J20 (nat_lit 0x11a110111a1101) rfl (Nat.lt_of_le_of_ne (J20 (nat_lit 0x1a110101a1101) rfl hc) h2)
     have ne := lcp_ne hlt
     have Lq : Lt o n k q := ⟨lcp o k q (n - k), fun i hi => wdY hi, by exact J40 (nat_lit 0x11a214110111a311121a2140131) rfl hlt (Nat.sub_add_cancel (J30 (nat_lit 0x1a110121a1140121) rfl (sbP (J20 (nat_lit 0x1a011211a0111) rfl hlt)))), by exact J50 (nat_lit 0x11a214110111a310111a411121a2143141) rfl hq hlt (Nat.sub_add_cancel (J30 (nat_lit 0x1a110121a1140121) rfl (sbP (J20 (nat_lit 0x1a011211a0111) rfl hlt)))), by exact J20 (nat_lit 0x11a110111a1101) rfl (Nat.lt_of_le_of_ne (J20 (nat_lit 0x1a110151a0111) rfl h3) ne)⟩
     refine ⟨?_, ?_, ?_, ?_, ?_, ?_⟩ <;> rw [e]
     ·exact fun x h => ⟨Tr.has_node.mpr (.inr (.inl (il.low x h).1)), (il.low x h).2⟩
     ·intro x h
      rcases Tr.has_node.mp h with h | h | h
      ·subst h; exact ⟨Tr.has_node.mpr (.inl rfl), .inl Lq⟩
      ·exact ⟨Tr.has_node.mpr (.inr (.inl (il.high x h).1)), (il.high x h).2⟩
      ·exact ⟨Tr.has_node.mpr (.inr (.inr h)), .inl (high_trans hq (hr x h).2 (hr x h).1 hlt h3)⟩
     ·exact il.wl
     ·exact ⟨fun x h => hl x (il.high x h).1, hr, fun x a b => hd x (il.high x a).1 b, il.wh, wr⟩
     ·intro x h
      rcases Tr.has_node.mp h with h | h | h
      ·exact .inr (.inl (Tr.has_node.mpr (.inl h)))
      ·rcases il.all x h with g | g | g
       ·exact .inl g
       ·exact .inr (.inl (Tr.has_node.mpr (.inr (.inl g))))
       ·exact .inr (.inr g)
      ·exact .inr (.inl (Tr.has_node.mpr (.inr (.inr h))))
     ·intro x a b
      rcases Tr.has_node.mp b with h | h | h
      ·subst h; exact Nat.lt_irrefl _ (hl _ (il.low _ a).1).1
      ·exact il.dis x a h
      ·exact hd x (il.low x a).1 h
  ·have e : split o n w k (.node q l r) = (.nil, .nil) := by unfold split; rw [if_neg h1]
   refine ⟨?_, ?_, ?_, ?_, ?_, ?_⟩ <;> rw [e]
   ·intro x h; cases h
   ·intro x h; cases h
   ·trivial
   ·trivial
   ·intro x h
    have hx : x ≤ q := by
     rcases Tr.has_node.mp h with h | h | h
     ·exact J20 (nat_lit 0x1a110121a1101) rfl h
     ·exact Nat.le_of_lt (hl x h).1
     ·exact Nat.le_of_lt (hr x h).1
    exact .inr (.inr (.inl (by exact J60 (nat_lit 0x11a110141a012101a413121a514412131a5143111) rfl h1 hx (Nat.sub_add_cancel (J20 (nat_lit 0x1a110111a1101) rfl hq)) (Nat.sub_add_cancel (J30 (nat_lit 0x1a110111a112101a2101) rfl hq hx)))))
   ·intro x h; cases h
noncomputable def Comp (o : Nat → Nat) (n s w : Nat) (t : Tr) (k : Nat) (i : Int) : Prop := ∀ x, x < k → same o n s i x = true → t.has x = true ∨ x + w + 1 < k ∨ ∃ y, x < y ∧ y < k ∧ Ag o n x y
theorem Comp.other {o : Nat → Nat} {n s w k : Nat} {t : Tr} {i : Int} (h : Comp o n s w t k i) (hk : same o n s i k = false) : Comp o n s w t (k + 1) i := fun x hx hs => by
 rcases Nat.lt_or_ge x k with g | g
 ·rcases h x g hs with a | a | ⟨y, a, b, cc⟩
  ·exact .inl a
  ·exact .inr (.inl (by exact J30 (nat_lit 0x11a412214124110111a2141241101) rfl a))
  ·exact .inr (.inr ⟨y, a, by exact J20 (nat_lit 0x11a412110111a1101) rfl b, cc⟩)
 ·have : x = k := by exact Nat.le_antisymm (J20 (nat_lit 0x1a110111a4121101) rfl hx) (J20 (nat_lit 0x1a110101a1101) rfl g)
  subst this; rw [hk] at hs; cases hs
theorem Comp.put {o : Nat → Nat} {n s w k : Nat} {t : Tr} {i : Int} (h : Comp o n s w t k i) (ok : SplitOk o n w k t) : Comp o n s w (.node k (split o n w k t).1 (split o n w k t).2) (k + 1) i := fun x hx hs => by
 rcases Nat.lt_or_ge x k with g | g
 ·rcases h x g hs with a | a | ⟨y, a, b, cc⟩
  ·rcases ok.all x a with q | q | q | q
   ·exact .inl (Tr.has_node.mpr (.inr (.inl q)))
   ·exact .inl (Tr.has_node.mpr (.inr (.inr q)))
   ·exact .inr (.inl (by exact J40 (nat_lit 0x11a412214124110111a311121a2140131) rfl q (Nat.sub_add_cancel (J20 (nat_lit 0x1a110111a1101) rfl g))))
   ·exact .inr (.inr ⟨k, g, by exact J10 (nat_lit 0x11a4120101) rfl, q⟩)
  ·exact .inr (.inl (by exact J30 (nat_lit 0x11a412214124110111a2141241101) rfl a))
  ·exact .inr (.inr ⟨y, a, by exact J20 (nat_lit 0x11a412110111a1101) rfl b, cc⟩)
 ·exact .inl (Tr.has_node.mpr (.inl (by exact Nat.le_antisymm (J20 (nat_lit 0x1a110111a4121101) rfl hx) (J20 (nat_lit 0x1a110101a1101) rfl g))))
theorem can_tree {o : Nat → Nat} (ho : ∀ i, o i < 256) {n w most p s : Nat} {t : Tr} (hs : 1 ≤ s) (hp : p + s ≤ n) (hw : WF o n t) (ht : ∀ x, t.has x = true → x < p) (hc : Comp o n s w t p (key o p s)) :
 can o n w most p (s - 1) = (walkT o n w most p t (s - 1)).map fun x => (x.1, p - x.2) := by
 unfold can
 rw [walk_ok hw ht]
 congr 1
 rw [List.filter_filter, show (fun a => far w p a && t.has a) = (fun a => t.has a && far w p a) from funext fun a => Bool.and_comm _ _, ← List.filter_filter]
 symm
 refine recs_filter_desc _ ((down_sorted p).filter _) fun x hx hn => ?_
 have hx1 := List.mem_filter.mp hx
 have hxp := zcW.mp hx1.1
 have hxw : p - x ≤ w := by have := hx1.2; unfold far at this; simpa using this
 by_cases e : same o n s (key o p s) x = true
 ·rcases hc x hxp e with a | a | ⟨y, a, b, cc⟩
  ·rw [a] at hn; cases hn
  ·exact (Nat.lt_irrefl 0 (J40 (nat_lit 0x10a020201a110111a314124112101a4210131) rfl hxw a (sbA _ _))).elim
  ·refine .inr ⟨y, List.mem_filter.mpr ⟨zcW.mpr b, ?_⟩, a, cnt_ag b cc⟩
   unfold far; simp; exact J50 (nat_lit 0x1a421110101a113111a214101a4413101) rfl hxw a (sbA _ _)
 ·refine .inl ?_
  rcases Nat.lt_or_ge (s - 1) (cnt o n most p x) with g | g
  ·exfalso; apply e
   have := key_of (o := o) (p := p) (q := x) (s := s) fun j hj => (wdY (l := min most (n - p)) (by unfold cnt at g; exact J40 (nat_lit 0x11a110111a112111a310101a4122131) rfl g hj (sbA _ _)))
   unfold same
   simp; exact ⟨by exact J40 (nat_lit 0x1a214110101a214113111a3101) rfl hp hxp, by rw [this]⟩
  ·exact g
set_option tactic.hygienic false
noncomputable abbrev Arr := Nat × Bool → Int
noncomputable def putA (a : Arr) (s : Nat × Bool) (v : Int) : Arr := fun z => if z = s then v else a z
theorem putA_self (a : Arr) (s : Nat × Bool) (v : Int) : putA a s v s = v := by simp [putA]
theorem zdY (a : Arr) {s z : Nat × Bool} (v : Int) (h : z ≠ s) : putA a s v z = a z := by simp [putA, h]
noncomputable def TrAt (a : Arr) : Int → Tr → Prop
 | i, .nil => i = -1
 | i, .node q l r => i = (q : Nat) ∧ TrAt a (a (q, false)) l ∧ TrAt a (a (q, true)) r
theorem TrAt.frame {a b : Arr} : ∀ {t : Tr} {i : Int}, TrAt a i t → (∀ x f, t.has x = true → b (x, f) = a (x, f)) → TrAt b i t
 | .nil, _, h, _ => h
 | .node q l r, _, ⟨h1, h2, h3⟩, hf => by
  have e1 := hf q false (Tr.has_node.mpr (.inl rfl))
  have e2 := hf q true (Tr.has_node.mpr (.inl rfl))
  refine ⟨h1, ?_, ?_⟩
  ·rw [e1]; exact h2.frame fun x f hx => hf x f (Tr.has_node.mpr (.inr (.inl hx)))
  ·rw [e2]; exact h3.frame fun x f hx => hf x f (Tr.has_node.mpr (.inr (.inr hx)))
theorem TrAt.nil_of {a : Arr} {t : Tr} (h : TrAt a (-1) t) : t = .nil := by
 cases t with
 | nil => rfl
 | node q l r => have := h.1; exact (Nat.lt_irrefl 0 (J10 (nat_lit 0x10a020291a801912) rfl this)).elim
theorem TrAt.node_of {a : Arr} {t : Tr} {i : Int} (h : TrAt a i t) (hi : i ≠ -1) : ∃ q l r, t = .node q l r ∧ i = (q : Nat) ∧ TrAt a (a (q, false)) l ∧ TrAt a (a (q, true)) r := by
 cases t with
 | nil => exact absurd h hi
 | node q l r => exact ⟨q, l, r, rfl, h.1, h.2.1, h.2.2⟩
noncomputable def Abv (o : Nat → Nat) (k : Nat) (t : Tr) (c : Nat) : Prop := ∀ x, t.has x = true → ∀ j, (∀ i, i < j → o (x + i) = o (k + i)) → j < c → o (k + j) ≤ o (x + j)
noncomputable def Blw (o : Nat → Nat) (k : Nat) (t : Tr) (c : Nat) : Prop := ∀ x, t.has x = true → ∀ j, (∀ i, i < j → o (x + i) = o (k + i)) → j < c → o (x + j) ≤ o (k + j)
theorem known_le {o : Nat → Nat} {k q lc hc l : Nat} {t : Tr} (ha : Abv o k t lc) (hb : Blw o k t hc) (hq : t.has q = true) (hl : min lc hc ≤ l) : min lc hc ≤ lcp o k q l := by
 rcases Nat.lt_or_ge (lcp o k q l) (min lc hc) with g | g
 ·exfalso
  have ne := lcp_ne (o := o) (p := k) (q := q) (l := l) (by exact J30 (nat_lit 0x11a110101a112111a2101) rfl hl g)
  have e : ∀ i, i < lcp o k q l → o (q + i) = o (k + i) := fun i hi => (wdY hi).symm
  have a := ha q hq _ e (by exact J30 (nat_lit 0x11a110111a210101a1121) rfl g (Nat.min_le_left _ _))
  have b := hb q hq _ e (by exact J30 (nat_lit 0x11a110111a210101a1121) rfl g (Nat.min_le_right _ _))
  exact Nat.lt_irrefl 0 (J20 (nat_lit 0x10a020201a110111a0111) rfl b (Nat.lt_of_le_of_ne (J20 (nat_lit 0x1a110101a1101) rfl a) ne))
 ·exact g
theorem abv_step {o : Nat → Nat} {n k q c : Nat} {l r : Tr} (w : WF o n (.node q l r)) (hq : q < k) (hc : c ≤ n - k) (e : ∀ i, i < c → o (q + i) = o (k + i)) : Abv o k r c := by
 intro x hx j hj hjc
 rcases Nat.lt_or_ge (o (x + j)) (o (k + j)) with g | g
 ·exfalso
  have ej := e j hjc
  rcases (w.2.1 x hx).2 with ⟨m, m1, m2, m3, m4⟩ | ag
  ·rcases Nat.lt_trichotomy m j with h | h | h
   ·have := e m (by exact J30 (nat_lit 0x11a110111a112111a2101) rfl hjc h); have := hj m h; exact Nat.lt_irrefl 0 (J30 (nat_lit 0x10a020211a110131a210121a2111) rfl m4 ‹_› this)
   ·subst h; exact Nat.lt_irrefl 0 (J30 (nat_lit 0x10a020211a110111a211131a2101) rfl m4 g ej)
   ·have := m1 j h; exact Nat.lt_irrefl 0 (J30 (nat_lit 0x10a020211a110131a112121a0121) rfl g ej this)
  ·have := ag j (by exact J70 (nat_lit 0x11a110111a312101a514111a410121a614315131a6142111) rfl hq hc hjc (Nat.sub_add_cancel (J30 (nat_lit 0x1a110121a1140121) rfl (sbP (J30 (nat_lit 0x1a011201a011111a1121) rfl hc hjc)))) (Nat.sub_add_cancel (J40 (nat_lit 0x1a110111a210121a1142131) rfl hq (sbP (J30 (nat_lit 0x1a011201a011111a1121) rfl hc hjc))))); exact Nat.lt_irrefl 0 (J30 (nat_lit 0x10a020211a110131a112131a2101) rfl g ej this)
 ·exact g
theorem blw_step {o : Nat → Nat} {n k q c : Nat} {l r : Tr} (w : WF o n (.node q l r)) (hq : q < k) (hc : c ≤ n - k) (e : ∀ i, i < c → o (q + i) = o (k + i)) : Blw o k l c := by
 intro x hx j hj hjc
 rcases Nat.lt_or_ge (o (k + j)) (o (x + j)) with g | g
 ·exfalso
  have ej := e j hjc
  rcases (w.1 x hx).2 with ⟨m, m1, m2, m3, m4⟩ | ag
  ·rcases Nat.lt_trichotomy m j with h | h | h
   ·have := e m (by exact J30 (nat_lit 0x11a110111a112111a2101) rfl hjc h); have := hj m h; exact Nat.lt_irrefl 0 (J30 (nat_lit 0x10a020211a110121a211131a2101) rfl m4 ‹_› this)
   ·subst h; exact Nat.lt_irrefl 0 (J30 (nat_lit 0x10a020211a110111a012121a2111) rfl m4 g ej)
   ·have := m1 j h; exact Nat.lt_irrefl 0 (J30 (nat_lit 0x10a020211a110121a012121a2111) rfl g ej this)
  ·have := ag j (by exact J70 (nat_lit 0x11a110111a312101a514111a410121a614315131a6142111) rfl hq hc hjc (Nat.sub_add_cancel (J30 (nat_lit 0x1a110121a1140121) rfl (sbP (J30 (nat_lit 0x1a011201a011111a1121) rfl hc hjc)))) (Nat.sub_add_cancel (J40 (nat_lit 0x1a110111a210121a1142131) rfl hq (sbP (J30 (nat_lit 0x1a011201a011111a1121) rfl hc hjc))))); exact Nat.lt_irrefl 0 (J30 (nat_lit 0x10a020211a110121a012121a2111) rfl g ej this)
 ·exact g
theorem Abv.sub {o : Nat → Nat} {k c : Nat} {t u : Tr} (h : Abv o k t c) (s : ∀ x, u.has x = true → t.has x = true) : Abv o k u c := fun x hx => h x (s x hx)
theorem Blw.sub {o : Nat → Nat} {k c : Nat} {t u : Tr} (h : Blw o k t c) (s : ∀ x, u.has x = true → t.has x = true) : Blw o k u c := fun x hx => h x (s x hx)
structure Parts (o : Nat → Nat) (n w k : Nat) (t0 : Tr) (a0 a : Arr) (lo hi : Nat × Bool) (lc hc : Nat) (other : Int) (t : Tr) : Prop where
 here : TrAt a other t
 wf : WF o n t
 lt : ∀ x, t.has x = true → x < k
 sub : ∀ x, t.has x = true → t0.has x = true
 lo1 : t.has lo.1 = false
 hi1 : t.has hi.1 = false
 lo2 : lo.1 = k ∨ t0.has lo.1 = true
 hi2 : hi.1 = k ∨ t0.has hi.1 = true
 ne : lo ≠ hi
 fr : ∀ s : Nat × Bool, s.1 ≠ k → t0.has s.1 = false → a s = a0 s
 lcn : lc ≤ n - k
 hcn : hc ≤ n - k
 abv : Abv o k t lc
 blw : Blw o k t hc
 cps : ∃ F G : Tr → Tr, split o n w k t0 = (F (split o n w k t).1, G (split o n w k t).2) ∧
  ∀ (b : Arr) A B, (∀ s : Nat × Bool, s ≠ lo → s ≠ hi → t.has s.1 = false → b s = a s) → TrAt b (b lo) A → TrAt b (b hi) B → TrAt b (b (k, false)) (F A) ∧ TrAt b (b (k, true)) (G B)
theorem Parts.init {o : Nat → Nat} {n w k : Nat} {t : Tr} {a : Arr} {i : Int} (h : TrAt a i t) (wf : WF o n t) (lt : ∀ x, t.has x = true → x < k) : Parts o n w k t a a (k, false) (k, true) 0 0 i t := by
 have nk : t.has k = false := by
  cases q : t.has k with
  | false => rfl
  | true => exact absurd (lt k q) (Nat.lt_irrefl _)
 exact ⟨h, wf, lt, fun _ h => h, nk, nk, .inl rfl, .inl rfl, by simp, fun _ _ _ => rfl, Nat.zero_le _, Nat.zero_le _, fun _ _ _ _ h => absurd h (Nat.not_lt_zero _), fun _ _ _ _ h => absurd h (Nat.not_lt_zero _),
  id, id, rfl, fun b A B _ h1 h2 => ⟨h1, h2⟩⟩
theorem weQ {t : Tr} {x : Nat} (h : t.has x = true → False) : t.has x = false := by
 cases q : t.has x with
 | false => rfl
 | true => exact (h q).elim
theorem weZ {q x : Nat} {l r : Tr} (h : (Tr.node q l r).has x = false) : x ≠ q ∧ l.has x = false ∧ r.has x = false := by
 refine ⟨fun e => ?_, weQ fun e => ?_, weQ fun e => ?_⟩
 ·have : (Tr.node q l r).has x = true := Tr.has_node.mpr (.inl e); rw [h] at this; cases this
 ·have : (Tr.node q l r).has x = true := Tr.has_node.mpr (.inr (.inl e)); rw [h] at this; cases this
 ·have : (Tr.node q l r).has x = true := Tr.has_node.mpr (.inr (.inr e)); rw [h] at this; cases this
section
variable {o : Nat → Nat} {n w k q : Nat} {t0 l r : Tr} {a0 a : Arr} {lo hi : Nat × Bool} {lc hc : Nat} {other : Int}
theorem Parts.low (J : Parts o n w k t0 a0 a lo hi lc hc other (.node q l r)) (h1 : k - q ≤ w) (h2 : lcp o k q (n - k) ≠ n - k) (h3 : o (q + lcp o k q (n - k)) < o (k + lcp o k q (n - k))) :
 Parts o n w k t0 a0 (putA a lo other) (q, true) hi (lcp o k q (n - k)) hc (putA a lo other (q, true)) r := by
 obtain ⟨hq, hl, hr⟩ := J.here
 obtain ⟨wl0, wr0, wd, wl, wr⟩ := id J.wf
 obtain ⟨lo1, lo2, lo3⟩ := weZ J.lo1
 obtain ⟨hi1, hi2, hi3⟩ := weZ J.hi1
 have hqk : q < k := J.lt q (Tr.has_node.mpr (.inl rfl))
 have hc' := lcp_le o k q (n - k)
 have rq : r.has q = false := weQ fun e => Nat.lt_irrefl _ (wr0 q e).1
 have lq : l.has q = false := weQ fun e => Nat.lt_irrefl _ (wl0 q e).1
 have nlo : ∀ (x : Nat) (f : Bool), x ≠ lo.1 → (x, f) ≠ lo := fun x f h e => h (by rw [← e])
 have nhi : ∀ (x : Nat) (f : Bool), x ≠ hi.1 → (x, f) ≠ hi := fun x f h e => h (by rw [← e])
 have e1 : putA a lo other (q, true) = a (q, true) := zdY _ _ (nlo q true (Ne.symm lo1))
 refine ⟨?_, wr, fun x hx => J.lt x (Tr.has_node.mpr (.inr (.inr hx))), fun x hx => J.sub x (Tr.has_node.mpr (.inr (.inr hx))), rq, hi3, .inr (J.sub q (Tr.has_node.mpr (.inl rfl))), J.hi2, fun e => ?_, fun s hs1 hs2 => ?_, hc', J.hcn, ?_, J.blw.sub fun x hx => Tr.has_node.mpr (.inr (.inr hx)), ?_⟩
 ·rw [e1]
  exact hr.frame fun x f hx => zdY _ _ (nlo x f fun e => by rw [e] at hx; rw [lo3] at hx; cases hx)
 ·rw [← e] at hi1; exact hi1 rfl
 ·have : s ≠ lo := fun e => by
   rcases J.lo2 with g | g
   ·exact hs1 (by rw [e]; exact g)
   ·rw [e, g] at hs2; cases hs2
  rw [zdY _ _ this]; exact J.fr s hs1 hs2
 ·exact abv_step J.wf hqk hc' fun i hi => (wdY hi).symm
 ·obtain ⟨F, G, hs, hF⟩ := J.cps
  refine ⟨fun A => F (.node q l A), G, ?_, fun b A B hb hA hB => ?_⟩
  ·rw [hs]
   have e : split o n w k (.node q l r) = (.node q l (split o n w k r).1, (split o n w k r).2) := by
    show (if k - q ≤ w then _ else _) = _
    rw [if_pos h1, if_neg h2, if_pos h3]
   rw [e]
  ·have blo : b lo = other := by
    rw [hb lo (fun e => lo1 (by rw [e])) J.ne lo3, putA_self]
   refine hF b _ B (fun s s1 s2 s3 => ?_) ?_ hB
   ·obtain ⟨g1, g2, g3⟩ := weZ s3
    rw [hb s (fun e => g1 (by rw [e])) s2 g3, zdY _ _ s1]
   ·rw [blo]
    refine ⟨hq, ?_, hA⟩
    have e2 : b (q, false) = a (q, false) := by
     rw [hb (q, false) (by simp) (nhi q false (Ne.symm hi1)) rq, zdY _ _ (nlo q false (Ne.symm lo1))]
    rw [e2]
    refine hl.frame fun x f hx => ?_
    have x1 : x ≠ lo.1 := fun e => by rw [e, lo2] at hx; cases hx
    have x2 : x ≠ hi.1 := fun e => by rw [e, hi2] at hx; cases hx
    have x3 : x ≠ q := fun e => by rw [e, lq] at hx; cases hx
    rw [hb (x, f) (fun e => x3 (by cases e; rfl)) (nhi x f x2) (weQ fun e => wd x hx e), zdY _ _ (nlo x f x1)]
theorem Parts.high (J : Parts o n w k t0 a0 a lo hi lc hc other (.node q l r)) (h1 : k - q ≤ w) (h2 : lcp o k q (n - k) ≠ n - k) (h3 : ¬ o (q + lcp o k q (n - k)) < o (k + lcp o k q (n - k))) :
 Parts o n w k t0 a0 (putA a hi other) lo (q, false) lc (lcp o k q (n - k)) (putA a hi other (q, false)) l := by
 obtain ⟨hq, hl, hr⟩ := J.here
 obtain ⟨wl0, wr0, wd, wl, wr⟩ := id J.wf
 obtain ⟨lo1, lo2, lo3⟩ := weZ J.lo1
 obtain ⟨hi1, hi2, hi3⟩ := weZ J.hi1
 have hqk : q < k := J.lt q (Tr.has_node.mpr (.inl rfl))
 have hc' := lcp_le o k q (n - k)
 have rq : r.has q = false := weQ fun e => Nat.lt_irrefl _ (wr0 q e).1
 have lq : l.has q = false := weQ fun e => Nat.lt_irrefl _ (wl0 q e).1
 have nlo : ∀ (x : Nat) (f : Bool), x ≠ lo.1 → (x, f) ≠ lo := fun x f h e => h (by rw [← e])
 have nhi : ∀ (x : Nat) (f : Bool), x ≠ hi.1 → (x, f) ≠ hi := fun x f h e => h (by rw [← e])
 have e1 : putA a hi other (q, false) = a (q, false) := zdY _ _ (nhi q false (Ne.symm hi1))
 refine ⟨?_, wl, fun x hx => J.lt x (Tr.has_node.mpr (.inr (.inl hx))), fun x hx => J.sub x (Tr.has_node.mpr (.inr (.inl hx))), lo2, lq, J.lo2, .inr (J.sub q (Tr.has_node.mpr (.inl rfl))), fun e => ?_, fun s hs1 hs2 => ?_, J.lcn, hc', J.abv.sub fun x hx => Tr.has_node.mpr (.inr (.inl hx)), ?_, ?_⟩
 ·rw [e1]
  exact hl.frame fun x f hx => zdY _ _ (nhi x f fun e => by rw [e] at hx; rw [hi2] at hx; cases hx)
 ·rw [e] at lo1; exact lo1 rfl
 ·have : s ≠ hi := fun e => by
   rcases J.hi2 with g | g
   ·exact hs1 (by rw [e]; exact g)
   ·rw [e, g] at hs2; cases hs2
  rw [zdY _ _ this]; exact J.fr s hs1 hs2
 ·exact blw_step J.wf hqk hc' fun i hi => (wdY hi).symm
 ·obtain ⟨F, G, hs, hF⟩ := J.cps
  refine ⟨F, fun B => G (.node q B r), ?_, fun b A B hb hA hB => ?_⟩
  ·rw [hs]
   have e : split o n w k (.node q l r) = ((split o n w k l).1, .node q (split o n w k l).2 r) := by
    show (if k - q ≤ w then _ else _) = _
    rw [if_pos h1, if_neg h2, if_neg h3]
   rw [e]
  ·have bhi : b hi = other := by
    rw [hb hi (Ne.symm J.ne) (fun e => hi1 (by rw [e])) hi2, putA_self]
   refine hF b A _ (fun s s1 s2 s3 => ?_) hA ?_
   ·obtain ⟨g1, g2, g3⟩ := weZ s3
    rw [hb s s1 (fun e => g1 (by rw [e])) g2, zdY _ _ s2]
   ·rw [bhi]
    refine ⟨hq, hB, ?_⟩
    have e2 : b (q, true) = a (q, true) := by
     rw [hb (q, true) (nlo q true (Ne.symm lo1)) (by simp) lq, zdY _ _ (nhi q true (Ne.symm hi1))]
    rw [e2]
    refine hr.frame fun x f hx => ?_
    have x1 : x ≠ lo.1 := fun e => by rw [e, lo3] at hx; cases hx
    have x2 : x ≠ hi.1 := fun e => by rw [e, hi3] at hx; cases hx
    have x3 : x ≠ q := fun e => by rw [e, rq] at hx; cases hx
    rw [hb (x, f) (nlo x f x1) (fun e => x3 (by cases e; rfl)) (weQ fun e => wd x e hx), zdY _ _ (nhi x f x2)]
noncomputable def Parted (o : Nat → Nat) (n w k : Nat) (t0 : Tr) (a0 b : Arr) : Prop :=
 TrAt b (k : Nat) (.node k (split o n w k t0).1 (split o n w k t0).2) ∧ ∀ s : Nat × Bool, s.1 ≠ k → t0.has s.1 = false → b s = a0 s
theorem Parts.put2 {t : Tr} (J : Parts o n w k t0 a0 a lo hi lc hc other t) (v u : Int) : ∀ s : Nat × Bool, s.1 ≠ k → t0.has s.1 = false → putA (putA a lo v) hi u s = a0 s := fun s hs1 hs2 => by
 have g1 : s ≠ lo := fun e => by
  rcases J.lo2 with g | g
  ·exact hs1 (by rw [e]; exact g)
  ·rw [e, g] at hs2; cases hs2
 have g2 : s ≠ hi := fun e => by
  rcases J.hi2 with g | g
  ·exact hs1 (by rw [e]; exact g)
  ·rw [e, g] at hs2; cases hs2
 rw [zdY _ _ g2, zdY _ _ g1]; exact J.fr s hs1 hs2
theorem Parts.done {t : Tr} (J : Parts o n w k t0 a0 a lo hi lc hc other t) (h : t = .nil ∨ ∃ q l r, t = .node q l r ∧ w < k - q) : Parted o n w k t0 a0 (putA (putA a lo (-1)) hi (-1)) := by
 refine ⟨?_, J.put2 _ _⟩
 obtain ⟨F, G, hs, hF⟩ := J.cps
 have e : split o n w k t = (.nil, .nil) := by
  rcases h with h | ⟨q, l, r, h, hw⟩
  ·subst h; rfl
  ·subst h; unfold split; rw [if_neg (by exact fun hq => Nat.lt_irrefl 0 (J20 (nat_lit 0x10a020211a110101a0111) rfl hw hq))]
 have := hF (putA (putA a lo (-1)) hi (-1)) .nil .nil (fun s s1 s2 _ => by rw [zdY _ _ s2, zdY _ _ s1]) (by rw [zdY _ _ J.ne, putA_self]; rfl) (by rw [putA_self]; rfl)
 rw [hs, e]
 exact ⟨rfl, this.1, this.2⟩
theorem Parts.full (J : Parts o n w k t0 a0 a lo hi lc hc other (.node q l r)) (h1 : k - q ≤ w) (h2 : lcp o k q (n - k) = n - k) : Parted o n w k t0 a0 (putA (putA a lo (a (q, false))) hi (putA a lo (a (q, false)) (q, true))) := by
 refine ⟨?_, J.put2 _ _⟩
 obtain ⟨F, G, hs, hF⟩ := J.cps
 obtain ⟨hq, hl, hr⟩ := J.here
 obtain ⟨lo1, lo2, lo3⟩ := weZ J.lo1
 obtain ⟨hi1, hi2, hi3⟩ := weZ J.hi1
 have nlo : ∀ (x : Nat) (f : Bool), x ≠ lo.1 → (x, f) ≠ lo := fun x f h e => h (by rw [← e])
 have nhi : ∀ (x : Nat) (f : Bool), x ≠ hi.1 → (x, f) ≠ hi := fun x f h e => h (by rw [← e])
 have e : split o n w k (.node q l r) = (l, r) := by unfold split; rw [if_pos h1, if_pos h2]
 have fr : ∀ (v u : Int) (x : Nat) (f : Bool), x ≠ lo.1 → x ≠ hi.1 → putA (putA a lo v) hi u (x, f) = a (x, f) := fun v u x f x1 x2 => by
  rw [zdY _ _ (nhi x f x2), zdY _ _ (nlo x f x1)]
 have := hF (putA (putA a lo (a (q, false))) hi (putA a lo (a (q, false)) (q, true))) l r (fun s s1 s2 _ => by rw [zdY _ _ s2, zdY _ _ s1])
  (by
   rw [zdY _ _ J.ne, putA_self]
   exact hl.frame fun x f hx => fr _ _ x f (fun e => by rw [e, lo2] at hx; cases hx) (fun e => by rw [e, hi2] at hx; cases hx))
  (by
   rw [putA_self, zdY _ _ (nlo q true (Ne.symm lo1))]
   exact hr.frame fun x f hx => fr _ _ x f (fun e => by rw [e, lo3] at hx; cases hx) (fun e => by rw [e, hi3] at hx; cases hx))
 rw [hs, e]
 exact ⟨rfl, this.1, this.2⟩
end
structure Trees (o : Nat → Nat) (n s w : Nat) (k : Nat) (root : Int → Int) (a : Arr) (f : Int → Tr) : Prop where
 here : ∀ i, TrAt a (root i) (f i)
 wf : ∀ i, WF o n (f i)
 keyd : ∀ i x, (f i).has x = true → x < k ∧ same o n s i x = true
 comp : ∀ i, Comp o n s w (f i) k i
theorem Trees.init {o : Nat → Nat} {n s w : Nat} {a : Arr} : Trees o n s w 0 (fun _ => -1) a (fun _ => .nil) :=
 ⟨fun _ => rfl, fun _ => trivial, fun i x h => (by cases h), fun i x h => absurd h (Nat.not_lt_zero _)⟩
theorem Trees.skip {o : Nat → Nat} {n s w k : Nat} {root : Int → Int} {a : Arr} {f : Int → Tr} (T : Trees o n s w k root a f) (h : n < k + s) : Trees o n s w (k + 1) root a f :=
 ⟨T.here, T.wf, fun i x hx => ⟨Nat.lt_succ_of_lt (T.keyd i x hx).1, (T.keyd i x hx).2⟩, fun i => (T.comp i).other (by unfold same; simp; intro h2; exact fun hq => Nat.lt_irrefl 0 (J30 (nat_lit 0x10a020211a421110101a0142111) rfl h h2))⟩
theorem same_key {o : Nat → Nat} {n s k : Nat} (h : k + s ≤ n) : same o n s (key o k s) k = true := by unfold same; simp [h]
theorem Trees.put {o : Nat → Nat} {n s w k : Nat} {root : Int → Int} {a b : Arr} {f : Int → Tr} (T : Trees o n s w k root a f) (h : k + s ≤ n) (P : Parted o n w k (f (key o k s)) a b) :
 ∃ g, Trees o n s w (k + 1) (fun i => if i = key o k s then (k : Int) else root i) b g := by
 have ok := split_ok (w := w) (T.wf (key o k s)) fun x hx => (T.keyd _ x hx).1
 refine ⟨fun i => if i = key o k s then .node k (split o n w k (f (key o k s))).1 (split o n w k (f (key o k s))).2 else f i, fun i => ?_, fun i => ?_, fun i x hx => ?_, fun i => ?_⟩ <;> by_cases e : i = key o k s
 ·simp only [e, if_true]; exact P.1
 ·simp only [e, if_false]
  refine (T.here i).frame fun x ff hx => P.2 (x, ff) (Nat.ne_of_lt (T.keyd i x hx).1) (weQ fun hx' => e ?_)
  have h1 := (T.keyd i x hx).2; have h2 := (T.keyd _ x hx').2
  unfold same at h1 h2
  simp at h1 h2; rw [← h1.2, ← h2.2]
 ·simp only [e, if_true]
  refine ⟨fun x hx => ⟨(T.keyd _ x (ok.low x hx).1).1, (ok.low x hx).2⟩, fun x hx => ⟨(T.keyd _ x (ok.high x hx).1).1, (ok.high x hx).2⟩, ok.dis, ok.wl, ok.wh⟩
 ·simp only [e, if_false]; exact T.wf i
 ·simp only [e, if_true] at hx ⊢
  rcases Tr.has_node.mp hx with g | g | g
  ·subst g; exact ⟨Nat.lt_succ_self _, same_key h⟩
  ·have := T.keyd _ x (ok.low x g).1; exact ⟨Nat.lt_succ_of_lt this.1, this.2⟩
  ·have := T.keyd _ x (ok.high x g).1; exact ⟨Nat.lt_succ_of_lt this.1, this.2⟩
 ·simp only [e, if_false] at hx
  have := T.keyd i x hx; exact ⟨Nat.lt_succ_of_lt this.1, this.2⟩
 ·simp only [e, if_true]; exact (T.comp _).put ok
 ·simp only [e, if_false]
  refine (T.comp i).other ?_
  unfold same; simp; intro _ h2; exact e h2.symm
noncomputable def above : List (Nat × Nat) → Nat → List (Nat × Nat)
 | [], _ => []
 | (k, d) :: r, L => if L < k then (k, d) :: above r k else above r L
theorem above_recs {c : Nat → Nat} : ∀ {ds : List Nat} {L1 L2 : Nat}, above (recs c ds L1) L2 = recs c ds (max L1 L2)
 | [], _, _ => rfl
 | d :: ds, L1, L2 => by
  unfold recs
  by_cases h1 : L1 < c d
  ·rw [if_pos h1]
   unfold above
   by_cases h2 : L2 < c d
   ·rw [if_pos h2, if_pos (by omega), above_recs, Nat.max_self]
   ·rw [if_neg h2, if_neg (by exact fun hq => Nat.lt_irrefl 0 (J30 (nat_lit 0x10a020251a110111a112101a2101) rfl h2 hq (Nat.le_max_right _ _))), above_recs, Nat.max_eq_right (by exact J20 (nat_lit 0x1a110151a0111) rfl h2), Nat.max_eq_right (by exact J30 (nat_lit 0x1a110111a210151a2111) rfl h1 h2)]
  ·rw [if_neg h1, if_neg (by exact fun hq => Nat.lt_irrefl 0 (J30 (nat_lit 0x10a020251a110111a112101a2101) rfl h1 hq (Nat.le_max_left _ _))), above_recs]
theorem above_map {g : Nat → Nat} : ∀ {l : List (Nat × Nat)} {L : Nat}, above (l.map fun x => (x.1, g x.2)) L = (above l L).map fun x => (x.1, g x.2)
 | [], _ => rfl
 | (k, d) :: r, L => by
  simp only [List.map_cons, above]
  split
  ·rw [List.map_cons, above_map]
  ·exact above_map
theorem recs_newest {o : Nat → Nat} {n w most p L s : Nat} (hs : 1 ≤ s) (hL : s - 1 ≤ L) (hp : p + s ≤ n) :
 (∀ q : Nat, prev (same o n s (key o p s)) p = (q : Nat) → p - q ≤ w → recs (cnt o n most p) ((down p).filter (far w p)) L = (if L < cnt o n most p q then [(cnt o n most p q, q)] else []) ++ recs (cnt o n most p) ((down p).filter (far w p)) (max L (cnt o n most p q))) ∧
 ((prev (same o n s (key o p s)) p = -1 ∨ ∃ q : Nat, prev (same o n s (key o p s)) p = (q : Nat) ∧ w < p - q) → ∀ x ∈ (down p).filter (far w p), cnt o n most p x ≤ s - 1) := by
 have small : ∀ x, x < p → same o n s (key o p s) x = false → cnt o n most p x ≤ s - 1 := fun x hx hs' => by
  rcases Nat.lt_or_ge (s - 1) (cnt o n most p x) with g | g
  ·exfalso
   have := key_of (o := o) (p := p) (q := x) (s := s) fun j hj => (wdY (l := min most (n - p)) (by unfold cnt at g; exact J40 (nat_lit 0x11a110111a112111a310101a4122131) rfl g hj (sbA _ _)))
   have : same o n s (key o p s) x = true := by unfold same; simp; exact ⟨by exact J40 (nat_lit 0x1a214110101a214113111a3101) rfl hp hx, by rw [this]⟩
   rw [this] at hs'; cases hs'
  ·exact g
 rcases whW (same o n s (key o p s)) p with ⟨h, hf⟩ | ⟨q, h, hq, hsq, hf⟩
 ·refine ⟨fun q hq => by rw [h] at hq; exact fun hq => (Nat.lt_irrefl 0 (J10 (nat_lit 0x10a020291a801912) rfl ‹_›)).elim, fun _ x hx => ?_⟩
  have hxp := zcW.mp (List.mem_filter.mp hx).1
  refine small x hxp ?_
  cases e : same o n s (key o p s) x with
  | false => rfl
  | true => have : x ∈ (down p).filter (same o n s (key o p s)) := List.mem_filter.mpr ⟨zcW.mpr hxp, e⟩
            rw [hf] at this; cases this
 ·have nearer : ∀ x, x < p → q < x → same o n s (key o p s) x = false := fun x hx hqx => by
   cases e : same o n s (key o p s) x with
   | false => rfl
   | true =>
    have : x ∈ (down p).filter (same o n s (key o p s)) := List.mem_filter.mpr ⟨zcW.mpr hx, e⟩
    rw [hf] at this
    rcases List.mem_cons.mp this with h | h
    ·exact (Nat.lt_irrefl 0 (J20 (nat_lit 0x10a020211a110121a0111) rfl hqx h)).elim
    ·have := zcW.mp (List.mem_filter.mp h).1; exact (Nat.lt_irrefl 0 (J20 (nat_lit 0x10a020211a110111a0111) rfl hqx this)).elim
  refine ⟨fun q' hq' hw => ?_, fun hh x hx => ?_⟩
  ·have : q' = q := by rw [h] at hq'; exact Nat.le_antisymm (J20 (nat_lit 0x1a110191a801811) rfl hq') (J20 (nat_lit 0x1a110181a811801) rfl hq')
   subst this
   have cut : ∀ L', s - 1 ≤ L' → recs (cnt o n most p) ((down p).filter (far w p)) L' = recs (cnt o n most p) (q' :: (down q').filter (far w p)) L' := by
    intro L' hL'
    have e : ((down p).filter (far w p)).filter (fun x => decide (x ≤ q')) = q' :: (down q').filter (far w p) := by
     rw [List.filter_filter]
     rw [down_max (q := q') hq (by unfold far; simp; exact J40 (nat_lit 0x1a421110101a113101a4213101) rfl hw (sbA _ _)) fun x _ hx => by simp at hx; exact J20 (nat_lit 0x1a110101a1101) rfl hx.1]
     congr 1
     refine List.filter_congr fun x hx => ?_
     have := zcW.mp hx
     simp; exact fun hq => J20 (nat_lit 0x1a110111a1101) rfl this
    rw [← e]
    symm
    refine wjV _ _ _ fun x hx hn => ?_
    have hxp := zcW.mp (List.mem_filter.mp hx).1
    have := small x hxp (nearer x hxp (by simpa using hn))
    exact J30 (nat_lit 0x1a110101a112101a2101) rfl hL' this
   rw [cut L hL, wcW]
   congr 1
   rw [cut _ (by exact J30 (nat_lit 0x1a110101a210101a1121) rfl hL (Nat.le_max_left _ _)), wcW, if_neg (by exact fun hq => Nat.lt_irrefl 0 (J20 (nat_lit 0x10a020211a110101a0111) rfl hq (Nat.le_max_right _ _))), List.nil_append]
   congr 1; omega
  ·have hxp := zcW.mp (List.mem_filter.mp hx).1
   have hxw := (List.mem_filter.mp hx).2
   unfold far at hxw
   simp at hxw
   rcases hh with g | ⟨q', g, hw⟩
   ·rw [h] at g; exact J30 (nat_lit 0xa110181a912821) rfl g
   ·have : q' = q := by rw [h] at g; exact Nat.le_antisymm (J20 (nat_lit 0x1a110191a801811) rfl g) (J20 (nat_lit 0x1a110181a811801) rfl g)
    subst this
    exact small x hxp (nearer x hxp (by exact J50 (nat_lit 0x11a110101a411312111a413121a2140141) rfl hxw hw (Nat.sub_add_cancel (J20 (nat_lit 0x1a110111a1101) rfl hq))))
set_option tactic.hygienic false
noncomputable def waW (o : Nat → Nat) (n s p : Nat) : Int := if p + s ≤ n then prev (same o n s (key o p s)) p else -1
noncomputable def layF (o : Nat → Nat) (n w most p s L : Nat) : List (Nat × Nat) :=
 if 0 ≤ waW o n s p ∧ p - (waW o n s p).toNat ≤ w then (if L < cnt o n most p (waW o n s p).toNat then [(cnt o n most p (waW o n s p).toNat, (waW o n s p).toNat)] else []) else []
noncomputable def layL (o : Nat → Nat) (n w most p s L : Nat) : Nat :=
 if 0 ≤ waW o n s p ∧ p - (waW o n s p).toNat ≤ w then max L (cnt o n most p (waW o n s p).toNat) else L
theorem lay_step {o : Nat → Nat} (ho : ∀ i, o i < 256) {n w most p s L : Nat} (hs : 1 ≤ s) (hL : s - 1 ≤ L) (hm : 2 ≤ most) :
 recs (cnt o n most p) ((down p).filter (far w p)) L = layF o n w most p s L ++ recs (cnt o n most p) ((down p).filter (far w p)) (layL o n w most p s L) ∧
 (s ≤ layL o n w most p s L ∨ ∀ x ∈ (down p).filter (far w p), cnt o n most p x ≤ layL o n w most p s L) := by
 by_cases hp : p + s ≤ n
 ·obtain ⟨h1, h2⟩ := recs_newest (o := o) (n := n) (w := w) (most := most) (p := p) hs hL hp
  have ev : waW o n s p = prev (same o n s (key o p s)) p := by unfold waW; rw [if_pos hp]
  rcases whW (same o n s (key o p s)) p with ⟨hq, _⟩ | ⟨q, hq, hqp, hqs, _⟩
  ·have e : ¬ (0 ≤ waW o n s p ∧ p - (waW o n s p).toNat ≤ w) := by rw [ev, hq]; exact fun hq => Nat.lt_irrefl 0 (J00 (nat_lit 0x10a020261a91202) rfl hq.1)
   unfold layF layL
   rw [if_neg e, if_neg e]
   refine ⟨rfl, .inr fun x hx => ?_⟩
   have := h2 (.inl hq) x hx; exact J30 (nat_lit 0x1a110101a112101a2101) rfl hL this
  ·have en : waW o n s p = (q : Int) := by rw [ev, hq]
   have et : (waW o n s p).toNat = q := by rw [en]; rfl
   by_cases hw : p - q ≤ w
   ·have e : 0 ≤ waW o n s p ∧ p - (waW o n s p).toNat ≤ w := by rw [et, en]; exact ⟨J20 (nat_lit 0x61a8010221a0111) rfl et, J20 (nat_lit 0x1a110101a1101) rfl hw⟩
    unfold layF layL
    rw [if_pos e, if_pos e, et]
    refine ⟨h1 q hq hw, ?_⟩
    by_cases hl : s ≤ min most (n - p)
    ·left
     have : s ≤ cnt o n most p q := by
      refine lcp_ge hl fun j hj => ?_
      unfold same at hqs; simp at hqs
      exact (key_inj ho (Int.ofNat.inj hqs.2) j hj).symm
     exact J30 (nat_lit 0x1a110101a210101a1121) rfl this (Nat.le_max_right _ _)
    ·right
     intro x _
     have := cnt_le (o := o) (n := n) (most := most) (p := p) (q := x)
     exact J60 (nat_lit 0x1a110101a312141a514101a510101a412214101a1131) rfl hL hl this (sbA _ _) (Nat.le_max_left _ _)
   ·have e : ¬ (0 ≤ waW o n s p ∧ p - (waW o n s p).toNat ≤ w) := by rw [et]; exact fun hq => Nat.lt_irrefl 0 (J20 (nat_lit 0x10a020241a110101a1101) rfl hw hq.2)
    unfold layF layL
    rw [if_neg e, if_neg e]
    refine ⟨rfl, .inr fun x hx => ?_⟩
    have := h2 (.inr ⟨q, hq, by exact J20 (nat_lit 0x11a110141a0111) rfl hw⟩) x hx; exact J30 (nat_lit 0x1a110101a112101a2101) rfl hL this
 ·have en : waW o n s p = -1 := by unfold waW; rw [if_neg hp]
  have e : ¬ (0 ≤ waW o n s p ∧ p - (waW o n s p).toNat ≤ w) := by rw [en]; exact fun hq => Nat.lt_irrefl 0 (J00 (nat_lit 0x10a020261a91202) rfl hq.1)
  unfold layF layL
  rw [if_neg e, if_neg e]
  refine ⟨rfl, .inr fun x _ => ?_⟩
  have := cnt_le (o := o) (n := n) (most := most) (p := p) (q := x)
  omega
theorem lay_none {o : Nat → Nat} {n w most p s L : Nat} (h : ∀ x ∈ (down p).filter (far w p), cnt o n most p x ≤ L) : layF o n w most p s L = [] ∧ layL o n w most p s L = L := by
 unfold layF layL
 by_cases e : 0 ≤ waW o n s p ∧ p - (waW o n s p).toNat ≤ w
 ·have hq : (waW o n s p).toNat < p := by
   have : waW o n s p < p := by
    unfold waW
    split
    ·exact prev_lt _ _
    ·exact J10 (nat_lit 0x71a801912) rfl
   exact J21 (nat_lit 0x11a110171a8110181a01801) rfl this (Int.toNat_of_nonneg (J01 (nat_lit 0x61a010261a0102) rfl e.1))
  have := h _ (List.mem_filter.mpr ⟨zcW.mpr hq, by unfold far; simpa using e.2⟩)
  rw [if_pos e, if_pos e, if_neg (by exact fun hq => Nat.lt_irrefl 0 (J20 (nat_lit 0x10a020201a110111a0111) rfl this hq)), Nat.max_eq_left this]
  exact ⟨rfl, rfl⟩
 ·rw [if_neg e, if_neg e]; exact ⟨rfl, rfl⟩
noncomputable def toD (p : Nat) (x : Nat × Nat) : Nat × Nat := (x.1, p - x.2)
theorem can_eq {o : Nat → Nat} {n w most p L : Nat} : can o n w most p L = (recs (cnt o n most p) ((down p).filter (far w p)) L).map (toD p) := rfl
theorem can_layers {o : Nat → Nat} (ho : ∀ i, o i < 256) {n w most p : Nat} (hm : 2 ≤ most) :
 can o n w most p 1 = (layF o n w most p 2 1).map (toD p) ++ ((layF o n w most p 3 (layL o n w most p 2 1)).map (toD p) ++ above (can o n w most p 3) (layL o n w most p 3 (layL o n w most p 2 1))) := by
 obtain ⟨a1, a2⟩ := lay_step ho (n := n) (w := w) (p := p) (s := 2) (L := 1) (by exact J00 (nat_lit 0x1a2212) rfl) (by exact J10 (nat_lit 0x1a120121a2241201) rfl (Nat.sub_add_cancel (J00 (nat_lit 0x1a2212) rfl))) hm
 have b : recs (cnt o n most p) ((down p).filter (far w p)) (layL o n w most p 2 1) = layF o n w most p 3 (layL o n w most p 2 1) ++ recs (cnt o n most p) ((down p).filter (far w p)) (layL o n w most p 3 (layL o n w most p 2 1)) ∧
  (3 ≤ layL o n w most p 3 (layL o n w most p 2 1) ∨ ∀ x ∈ (down p).filter (far w p), cnt o n most p x ≤ layL o n w most p 3 (layL o n w most p 2 1)) := by
  rcases a2 with h | h
  ·exact lay_step ho (by exact J00 (nat_lit 0x1a3212) rfl) (by exact J20 (nat_lit 0x1a110101a112221a3241201) rfl h (Nat.sub_add_cancel (J00 (nat_lit 0x1a3212) rfl))) hm
  ·obtain ⟨c1, c2⟩ := lay_none (s := 3) h
   rw [c1, c2]
   exact ⟨rfl, .inr h⟩
 obtain ⟨b1, b2⟩ := b
 rw [can_eq, can_eq, a1, b1]
 show _ = _ ++ (_ ++ above ((recs (cnt o n most p) ((down p).filter (far w p)) 3).map (fun x => (x.1, (fun q => p - q) x.2))) _)
 rw [above_map, above_recs, List.map_append, List.map_append]
 congr 2
 show List.map (toD p) _ = List.map (toD p) _
 congr 1
 rcases b2 with h | h
 ·rw [Nat.max_eq_right h]
 ·rw [wjX h, wjX fun x hx => Nat.le_trans (h x hx) (Nat.le_max_right _ _)]
noncomputable def sz (s : Nat × Nat) : Nat := if s.1 = 0 then 1 else s.1
theorem whU (s : Nat × Nat) : 1 ≤ sz s := by unfold sz; split <;> (first | exact J00 (nat_lit 0x1a1212) rfl | exact J10 (nat_lit 0x1a011211a0102) rfl (Nat.lt_of_le_of_ne (J10 (nat_lit 0x1a0102) rfl) (Ne.symm ‹_›)))
noncomputable def StepOk (o : Nat → Nat) (n w most p : Nat) (s : Nat × Nat) : Prop :=
 (s.1 = 0 ∧ p < n ∧ s.2 = o p) ∨ (2 ≤ s.1 ∧ s.1 ≤ most ∧ 1 ≤ s.2 ∧ s.2 ≤ w ∧ s.2 ≤ p ∧ p + s.1 ≤ n ∧ ∀ j, j < s.1 → o (p + j) = o (p + j - s.2))
noncomputable def Par (o : Nat → Nat) (n w most : Nat) : Nat → List (Nat × Nat) → Nat → Prop
 | p, [], e => p = e
 | p, s :: r, e => StepOk o n w most p s ∧ Par o n w most (p + sz s) r e
theorem StepOk.le {o : Nat → Nat} {n w most p : Nat} {s : Nat × Nat} (h : StepOk o n w most p s) : p + sz s ≤ n := by
 unfold sz
 rcases h with ⟨h, h2, _⟩ | ⟨h, _, _, _, _, h2, _⟩
 ·rw [if_pos h]; exact J20 (nat_lit 0x1a114120111a1101) rfl h2
 ·rw [if_neg (by exact fun hq => Nat.lt_irrefl 0 (J10 (nat_lit 0x10a020201a012221a0201) rfl h hq))]; exact h2
theorem Par.app {o : Nat → Nat} {n w most : Nat} : ∀ {a b : List (Nat × Nat)} {p e f : Nat}, Par o n w most p a e → Par o n w most e b f → Par o n w most p (a ++ b) f
 | [], _, _, _, _, h, k => by cases h; exact k
 | _ :: _, _, _, _, _, ⟨h, h2⟩, k => ⟨h, h2.app k⟩
theorem Par.le {o : Nat → Nat} {n w most : Nat} : ∀ {a : List (Nat × Nat)} {p e : Nat}, Par o n w most p a e → p ≤ e
 | [], _, _, h => Nat.le_of_eq h
 | s :: _, _, _, ⟨_, h2⟩ => by have := h2.le; have := whU s; exact J30 (nat_lit 0x1a110101a114210101a2112) rfl ‹_› this
theorem can_step {o : Nat → Nat} {n w most p L : Nat} {x : Nat × Nat} (hL : 1 ≤ L) (h : x ∈ can o n w most p L) : ∀ l, 2 ≤ l → l ≤ x.1 → StepOk o n w most p (l, x.2) := by
 intro l h2 hl
 obtain ⟨y, hy, rfl⟩ := List.mem_map.mp h
 obtain ⟨k, q⟩ := y
 obtain ⟨hq, rfl, hk⟩ := wjW hy
 have h1 := zcW.mp (List.mem_filter.mp hq).1
 have h3 : p - q ≤ w := by have := (List.mem_filter.mp hq).2; unfold far at this; simpa using this
 have hc := cnt_le (o := o) (n := n) (most := most) (p := p) (q := q)
 have hl : l ≤ cnt o n most p q := hl
 refine .inr ⟨h2, ?_, ?_, h3, ?_, ?_, fun j hj => ?_⟩
 ·show l ≤ most; exact J40 (nat_lit 0x1a110101a210101a312101a1131) rfl ‹_› hc (Nat.min_le_left _ _)
 ·show 1 ≤ p - q; exact J30 (nat_lit 0x1a011211a211101a4110121) rfl h1 (sbA _ _)
 ·show p - q ≤ p; exact J20 (nat_lit 0x1a110101a1101) rfl (Nat.sub_le _ _)
 ·show p + l ≤ n; exact J60 (nat_lit 0x1a214110101a311101a413101a514121a2140151) rfl ‹_› hc (Nat.min_le_right _ _) (Nat.sub_add_cancel (J30 (nat_lit 0x1a110121a1140121) rfl (sbP (J40 (nat_lit 0x1a011201a111211a211101a312101a0131) rfl hL hk hc (Nat.min_le_right _ _)))))
 ·have e : o (p + j) = o (q + j) := wdY (Nat.lt_of_lt_of_le hj hl)
  rw [e]; congr 1; show q + j = p + j - (p - q); exact Nat.le_antisymm (J50 (nat_lit 0x1a214110131a411414312121a4140131) rfl (Nat.sub_add_cancel (J30 (nat_lit 0x1a421110101a1101) rfl (Nat.sub_le _ _))) (Nat.sub_add_cancel (J20 (nat_lit 0x1a110111a1101) rfl h1))) (J50 (nat_lit 0x1a421110121a421414310131a4141131) rfl (Nat.sub_add_cancel (J30 (nat_lit 0x1a421110101a1101) rfl (Nat.sub_le _ _))) (Nat.sub_add_cancel (J20 (nat_lit 0x1a110111a1101) rfl h1)))
theorem can_has {o : Nat → Nat} {n w most p : Nat} {s : Nat × Nat} (h : StepOk o n w most p s) (hs : s.1 ≠ 0) : ∃ x ∈ can o n w most p 1, s.1 ≤ x.1 ∧ x.2 ≤ s.2 := by
 obtain ⟨l, d⟩ := s
 rcases h with ⟨h, _⟩ | ⟨h2, h3, h4, h5, h6, h7, h8⟩
 ·exact absurd h hs
 ·have h2 : 2 ≤ l := h2
  have h3 : l ≤ most := h3
  have h4 : 1 ≤ d := h4
  have h5 : d ≤ w := h5
  have h6 : d ≤ p := h6
  have h7 : p + l ≤ n := h7
  have hc : l ≤ cnt o n most p (p - d) := by
   refine lcp_ge (by omega) fun j hj => ?_
   rw [h8 j hj]; congr 1; show p + j - d = p - d + j; exact Nat.le_antisymm (J50 (nat_lit 0x1a421110121a421414310131a4143111) rfl (Nat.sub_add_cancel (J30 (nat_lit 0x1a421110101a1101) rfl ‹_›)) (Nat.sub_add_cancel (J20 (nat_lit 0x1a110101a1101) rfl ‹_›))) (J50 (nat_lit 0x1a214110131a411414312121a4143101) rfl (Nat.sub_add_cancel (J30 (nat_lit 0x1a421110101a1101) rfl ‹_›)) (Nat.sub_add_cancel (J20 (nat_lit 0x1a110101a1101) rfl ‹_›)))
  have hm : p - d ∈ (down p).filter (far w p) := List.mem_filter.mpr ⟨zcW.mpr (by exact J30 (nat_lit 0x11a110101a211221a1142101) rfl ‹_› (Nat.sub_add_cancel (J20 (nat_lit 0x1a110101a1101) rfl ‹_›))), by unfold far; simp; exact J40 (nat_lit 0x1a421110101a113101a4312101) rfl ‹_› (sbA _ _)⟩
  obtain ⟨i, hi⟩ := List.mem_iff_getElem?.mp hm
  obtain ⟨k, e, j, hk, hj, hji, hle⟩ := recs_has (c := cnt o n most p) (L := 1) i hi (by exact J20 (nat_lit 0x11a011201a112201a0111) rfl ‹_› hc)
  refine ⟨(k, p - e), List.mem_map.mpr ⟨(k, e), hk, rfl⟩, by show l ≤ k; exact J30 (nat_lit 0x1a110101a210101a1121) rfl hc hle, ?_⟩
  have hs := (down_sorted p).filter (far w p)
  obtain ⟨a1, a2⟩ := List.getElem?_eq_some_iff.mp hi
  obtain ⟨b1, b2⟩ := List.getElem?_eq_some_iff.mp hj
  show p - e ≤ d
  rcases Nat.lt_or_ge j i with g | g
  ·have := List.pairwise_iff_getElem.mp hs j i b1 a1 g
   rw [a2, b2] at this; omega
  ·have : j = i := by exact Nat.le_antisymm (J20 (nat_lit 0x1a110101a1101) rfl hji) (J20 (nat_lit 0x1a110101a1101) rfl g)
   subst this; rw [a2] at b2; exact J50 (nat_lit 0x1a110121a312131a414112121a4143101) rfl b2 (Nat.sub_add_cancel (J20 (nat_lit 0x1a110101a1101) rfl ‹_›)) (Nat.sub_add_cancel (J30 (nat_lit 0x1a110131a012101a1121) rfl b2 (Nat.sub_le _ _)))
noncomputable def wgW (o : Nat → Nat) (n w most p : Nat) : Nat × Nat := (can o n w most p 1).getLast?.getD (0, 0)
noncomputable def wfZ (o : Nat → Nat) (n w most p : Nat) : Nat × Nat := if wgW o n w most p = (0, 0) then (0, o p) else wgW o n w most p
theorem best_cases (o : Nat → Nat) (n w most p : Nat) : (wgW o n w most p = (0, 0) ∧ can o n w most p 1 = []) ∨ (wgW o n w most p ∈ can o n w most p 1 ∧ 2 ≤ (wgW o n w most p).1) := by
 unfold wgW
 cases h : (can o n w most p 1).getLast? with
 | none => exact .inl ⟨rfl, List.getLast?_eq_none_iff.mp h⟩
 | some x =>
  have hx := List.mem_of_getLast? h
  refine .inr ⟨hx, ?_⟩
  obtain ⟨y, hy, rfl⟩ := List.mem_map.mp hx
  have := wjW (k := y.1) (d := y.2) hy
  show 2 ≤ y.1; exact J10 (nat_lit 0x1a012211a0112) rfl this.2.2
theorem gstep_ok {o : Nat → Nat} {n w most p : Nat} (hp : p < n) : StepOk o n w most p (wfZ o n w most p) := by
 unfold wfZ
 rcases best_cases o n w most p with ⟨h, _⟩ | ⟨h, h2⟩
 ·rw [if_pos h]; exact .inl ⟨rfl, hp, rfl⟩
 ·rw [if_neg (fun e => by rw [e] at h2; simp at h2)]
  exact can_step (by exact J00 (nat_lit 0x1a1212) rfl) h _ h2 (Nat.le_refl _)
theorem gstep_far {o : Nat → Nat} {n w most p : Nat} {s : Nat × Nat} (h : StepOk o n w most p s) : sz s ≤ sz (wfZ o n w most p) := by
 by_cases hs : s.1 = 0
 ·have : sz s = 1 := by unfold sz; rw [if_pos hs]
  have := whU (wfZ o n w most p); exact J20 (nat_lit 0x1a110121a120101a1112) rfl ‹_› this
 ·obtain ⟨x, hx, hl, _⟩ := can_has h hs
  have e : sz s = s.1 := by unfold sz; rw [if_neg hs]
  rcases best_cases o n w most p with ⟨_, h2⟩ | ⟨h1, h2⟩
  ·rw [h2] at hx; cases hx
  ·have eg : wfZ o n w most p = wgW o n w most p := by unfold wfZ; rw [if_neg (fun e => by rw [e] at h2; simp at h2)]
   have es : sz (wfZ o n w most p) = (wgW o n w most p).1 := by rw [eg]; unfold sz; rw [if_neg (by exact fun hq => Nat.lt_irrefl 0 (J10 (nat_lit 0x10a020201a012221a0201) rfl h2 hq))]
   rw [es, e]
   have hl2 : x.1 ≤ (wgW o n w most p).1 := by
    unfold wgW at h1 ⊢
    cases hlast : (can o n w most p 1).getLast? with
    | none => rw [List.getLast?_eq_none_iff.mp hlast] at hx; cases hx
    | some y =>
     rw [can_eq] at hlast hx
     rw [List.getLast?_map] at hlast
     obtain ⟨z, hz, rfl⟩ := Option.map_eq_some_iff.mp hlast
     obtain ⟨u, hu, rfl⟩ := List.mem_map.mp hx
     have m := wjW (k := u.1) (d := u.2) hu
     have := recs_last.1 z.1 z.2 hz u.2 m.1
     show u.1 ≤ z.1
     exact J30 (nat_lit 0x1a110121a210101a1121) rfl m.2.1 this
   exact J30 (nat_lit 0x1a110101a210101a1121) rfl hl hl2
noncomputable def gr (o : Nat → Nat) (n w most : Nat) : Nat → Nat → List (Nat × Nat)
 | 0, _ => []
 | f + 1, p => if p < n then wfZ o n w most p :: gr o n w most f (p + sz (wfZ o n w most p)) else []
theorem gr_par {o : Nat → Nat} {n w most : Nat} : ∀ {f p : Nat}, n ≤ p + f → p ≤ n → Par o n w most p (gr o n w most f p) n
 | 0, p, h, h2 => by show p = n; exact Nat.le_antisymm (J20 (nat_lit 0x1a110101a1101) rfl h2) (J20 (nat_lit 0x1a110101a4021101) rfl h)
 | f + 1, p, h, h2 => by
  unfold gr
  split
  ·rename_i hp
   have ok := gstep_ok (o := o) (w := w) (most := most) hp
   have := whU (wfZ o n w most p)
   exact ⟨ok, gr_par (by exact J40 (nat_lit 0x1a431421110101a441231110101a2112) rfl h this) ok.le⟩
  ·show p = n; exact Nat.le_antisymm (J20 (nat_lit 0x1a110101a1101) rfl h2) (J20 (nat_lit 0x1a110151a0111) rfl ‹_›)
theorem cut_step {o : Nat → Nat} {n w most p p' : Nat} {s : Nat × Nat} (h : StepOk o n w most p s) (hp : p ≤ p') (h2 : p' + 2 ≤ p + sz s) : StepOk o n w most p' (p + sz s - p', s.2) := by
 rcases h with ⟨h, _⟩ | ⟨h2', h3, h4, h5, h6, h7, h8⟩
 ·have : sz s = 1 := by unfold sz; rw [if_pos h]
  exact (Nat.lt_irrefl 0 (J30 (nat_lit 0x10a020201a110101a421014221121a1221) rfl hp h2 this)).elim
 ·have e : sz s = s.1 := by unfold sz; rw [if_neg (by exact fun hq => Nat.lt_irrefl 0 (J10 (nat_lit 0x10a020201a012221a0201) rfl h2' hq))]
  rw [e] at h2 ⊢
  refine .inr ⟨?_, ?_, h4, h5, by show s.2 ≤ p'; exact J30 (nat_lit 0x1a110101a112101a2101) rfl hp h6, ?_, fun j hj => ?_⟩
  ·show 2 ≤ p + s.1 - p'; exact J40 (nat_lit 0x1a012201a431214221101a4110143121) rfl h2 (sbA _ _)
  ·show p + s.1 - p' ≤ most; exact J50 (nat_lit 0x1a110101a312101a114121a4412143101) rfl hp h3 (Nat.sub_add_cancel (J30 (nat_lit 0x1a421110101a4211142201) rfl h2))
  ·show p' + (p + s.1 - p') ≤ n; exact J50 (nat_lit 0x1a214110101a214413121a4413140111) rfl h7 (Nat.sub_add_cancel (J30 (nat_lit 0x1a421110101a4211142201) rfl h2))
  ·have hj : j < p + s.1 - p' := hj
   have := h8 (p' - p + j) (by omega)
   rw [show p + (p' - p + j) = p' + j by exact Nat.le_antisymm (J40 (nat_lit 0x1a421314421110121a3140111) rfl (Nat.sub_add_cancel (J20 (nat_lit 0x1a110101a1101) rfl hp))) (J40 (nat_lit 0x1a441131214110101a4213101) rfl (sbA _ _))] at this; exact this
theorem gr_least {o : Nat → Nat} {n w most : Nat} : ∀ {steps : List (Nat × Nat)} {p p' f : Nat}, Par o n w most p steps n → p ≤ p' → (gr o n w most f p').length ≤ steps.length
 | [], p, p', f, h, hp => by
  have h : p = n := h
  cases f with
  | zero => exact Nat.le_refl _
  | succ f => unfold gr; rw [if_neg (by exact fun hq => Nat.lt_irrefl 0 (J30 (nat_lit 0x10a020201a110131a210111a2111) rfl hp h hq))]; exact Nat.le_refl _
 | s :: r, p, p', 0, h, hp => Nat.zero_le _
 | s :: r, p, p', f + 1, ⟨h, hr⟩, hp => by
  unfold gr
  split
  ·rename_i hp'
   rw [List.length_cons, List.length_cons]
   refine Nat.succ_le_succ (gr_least hr ?_)
   have := whU (wfZ o n w most p')
   rcases Nat.lt_or_ge (p' + 1) (p + sz s) with g | g
   ·have := gstep_far (cut_step h hp (by exact J30 (nat_lit 0x1a421114220111a4211141201) rfl g))
    have e : sz (p + sz s - p', s.2) = p + sz s - p' := by unfold sz; rw [if_neg (by show ¬ (p + sz s - p' = 0); exact fun hq => Nat.lt_irrefl 0 (J40 (nat_lit 0x10a020211a421114120121a023101a4013142111) rfl g hq (sbA _ _)))]
    exact J60 (nat_lit 0x1a431214110101a314131a514101a4215141101) rfl this e (sbA _ _)
   ·exact J40 (nat_lit 0x1a431214110101a311201a4122141101) rfl this g
  ·exact Nat.zero_le _
set_option tactic.hygienic false
noncomputable def updN {α : Type} (f : Nat → α) (i : Nat) (v : α) : Nat → α := fun j => if j = i then v else f j
theorem wfU {α : Type} (f : Nat → α) (i : Nat) (v : α) : updN f i v i = v := by simp [updN]
theorem wdU {α : Type} (f : Nat → α) {i j : Nat} (v : α) (h : j ≠ i) : updN f i v j = f j := by simp [updN, h]
structure Wy where
 C : Nat → Option Int
 S : Nat → Option (Nat × Nat)
noncomputable def better (old : Option Int) (whole : Int) : Bool := match old with
 | none => true
 | some v => decide (whole < v)
noncomputable def offer (n : Nat) (y : Wy) (i : Nat) (s : Nat × Nat) (cost : Int) : Wy :=
 if n < i + sz s then y
 else if better (y.C (i + sz s)) ((y.C i).getD 0 + cost) then ⟨updN y.C (i + sz s) (some ((y.C i).getD 0 + cost)), updN y.S (i + sz s) (some s)⟩ else y
noncomputable def wkV (m : Nat × Nat) : List (Nat × Nat) := (List.range (m.1 - 1)).map fun k => (k + 2, m.2)
noncomputable def whQ (lit : Nat → Nat) (cn : Nat → List (Nat × Nat)) (i : Nat) : List (Nat × Nat) := (0, lit i) :: (cn i).flatMap wkV
noncomputable def costOf (pl : Int) (pm : Nat → Nat → Int) (s : Nat × Nat) : Int := if s.1 = 0 then pl else pm s.1 s.2
noncomputable def offerAll (n : Nat) (cost : Nat × Nat → Int) (i : Nat) (y : Wy) (l : List (Nat × Nat)) : Wy := l.foldl (fun y s => offer n y i s (cost s)) y
noncomputable def wy0 : Wy := ⟨fun j => if j = 0 then some 0 else none, fun _ => none⟩
noncomputable def wyTo (n : Nat) (cost : Nat × Nat → Int) (lit : Nat → Nat) (cn : Nat → List (Nat × Nat)) : Nat → Wy
 | 0 => wy0
 | i + 1 => offerAll n cost i (wyTo n cost lit cn i) (whQ lit cn i)
noncomputable def back (S : Nat → Option (Nat × Nat)) : Nat → Nat → List (Nat × Nat)
 | 0, _ => []
 | f + 1, at_ => if at_ = 0 then [] else back S f (at_ - sz ((S at_).getD (0, 0))) ++ [(S at_).getD (0, 0)]
noncomputable def tot (cost : Nat × Nat → Int) (l : List (Nat × Nat)) : Int := (l.map cost).sum
theorem tot_cons {cost : Nat × Nat → Int} {s : Nat × Nat} {l : List (Nat × Nat)} : tot cost (s :: l) = cost s + tot cost l := by simp [tot]
theorem tot_app {cost : Nat × Nat → Int} {a b : List (Nat × Nat)} : tot cost (a ++ b) = tot cost a + tot cost b := by simp [tot]
structure WyOk (n : Nat) (cost : Nat × Nat → Int) (off : Nat → List (Nat × Nat)) (at_ : Nat) (done : List (Nat × Nat)) (y : Wy) : Prop where
 zero : y.C 0 = some 0
 filled : ∀ j, j ≤ at_ → j ≤ n → (y.C j).isSome = true
 from_ : ∀ j v, 1 ≤ j → y.C j = some v → ∃ s u, y.S j = some s ∧ sz s ≤ j ∧ s ∈ off (j - sz s) ∧ j - sz s ≤ at_ ∧ y.C (j - sz s) = some u ∧ v = u + cost s
 low : ∀ i s, (i < at_ ∧ s ∈ off i ∨ i = at_ ∧ s ∈ done) → i + sz s ≤ n → ∃ v u, y.C (i + sz s) = some v ∧ y.C i = some u ∧ v ≤ u + cost s
theorem WyOk.offer {n : Nat} {cost : Nat × Nat → Int} {off : Nat → List (Nat × Nat)} {at_ : Nat} {done : List (Nat × Nat)} {y : Wy} {s : Nat × Nat} (W : WyOk n cost off at_ done y) (hat : at_ < n) (hs : s ∈ off at_) :
 WyOk n cost off at_ (done ++ [s]) (offer n y at_ s (cost s)) := by
 have sp := whU s
 obtain ⟨u0, hu0⟩ := Option.isSome_iff_exists.mp (W.filled at_ (Nat.le_refl _) (by exact J20 (nat_lit 0x1a110111a1101) rfl hat))
 have eg : (y.C at_).getD 0 = u0 := by rw [hu0]; rfl
 unfold Mine.offer
 rw [eg]
 by_cases h1 : n < at_ + sz s
 ·rw [if_pos h1]
  refine ⟨W.zero, W.filled, W.from_, fun i z hz hn => ?_⟩
  rcases hz with hz | ⟨h, hz⟩
  ·exact W.low i z (.inl hz) hn
  ·rcases List.mem_append.mp hz with hz | hz
   ·exact W.low i z (.inr ⟨h, hz⟩) hn
   ·rw [List.mem_singleton] at hz; subst h hz; exact (Nat.lt_irrefl 0 (J30 (nat_lit 0x10a020201a214110111a4110121) rfl hn h1)).elim
 ·rw [if_neg h1]
  by_cases h2 : better (y.C (at_ + sz s)) (u0 + cost s) = true
  ·rw [if_pos h2]
   have ne : ∀ j, j ≤ at_ → j ≠ at_ + sz s := fun j hj => by exact fun hq => Nat.lt_irrefl 0 (J30 (nat_lit 0x10a020201a011201a211131a4012111) rfl sp hj hq)
   refine ⟨?_, ?_, ?_, ?_⟩
   ·show updN _ _ _ 0 = _
    rw [wdU _ _ (ne 0 (Nat.zero_le _))]; exact W.zero
   ·intro j hj hn
    show (updN y.C (at_ + sz s) (some (u0 + cost s)) j).isSome = true
    rw [wdU _ _ (ne j hj)]; exact W.filled j hj hn
   ·intro j v hj hv
    by_cases e : j = at_ + sz s
    ·subst e
     have hv : updN y.C (at_ + sz s) (some (u0 + cost s)) (at_ + sz s) = some v := hv
     rw [wfU] at hv; cases hv
     refine ⟨s, u0, wfU _ _ _, by exact J20 (nat_lit 0x1a4011101) rfl, by rw [Nat.add_sub_cancel]; exact hs, by exact J30 (nat_lit 0x1a110121a4211142101) rfl (Nat.sub_add_cancel (J20 (nat_lit 0x1a4011101) rfl)), ?_, rfl⟩
     show updN _ _ _ _ = _
     rw [Nat.add_sub_cancel, wdU _ _ (ne _ (Nat.le_refl _))]; exact hu0
    ·have hv : updN y.C (at_ + sz s) (some (u0 + cost s)) j = some v := hv
     rw [wdU _ _ e] at hv
     obtain ⟨z, u, a, b, c, d, f, g⟩ := W.from_ j v hj hv
     refine ⟨z, u, ?_, b, c, d, ?_, g⟩
     ·show updN _ _ _ _ = _
      rw [wdU _ _ e]; exact a
     ·show updN _ _ _ _ = _
      rw [wdU _ _ (ne _ d)]; exact f
   ·intro i z hz hn
    have hi : i ≤ at_ := by rcases hz with ⟨h, _⟩ | ⟨h, _⟩ <;> (first | exact J20 (nat_lit 0x1a110111a1101) rfl h | exact J20 (nat_lit 0x1a110121a1101) rfl h)
    have main : z = s ∧ i = at_ ∨ ∃ v u, y.C (i + sz z) = some v ∧ y.C i = some u ∧ v ≤ u + cost z := by
     rcases hz with hz | ⟨h, hz⟩
     ·exact .inr (W.low i z (.inl hz) hn)
     ·rcases List.mem_append.mp hz with hz | hz
      ·exact .inr (W.low i z (.inr ⟨h, hz⟩) hn)
      ·rw [List.mem_singleton] at hz; exact .inl ⟨hz, h⟩
    rcases main with ⟨rfl, rfl⟩ | ⟨v, u, a, b, c⟩
    ·exact ⟨u0 + cost z, u0, wfU _ _ _, (wdU _ _ (ne _ (Nat.le_refl _))).trans hu0, Int.le_refl _⟩
    ·by_cases e : i + sz z = at_ + sz s
     ·refine ⟨u0 + cost s, u, ?_, (wdU _ _ (ne _ hi)).trans b, ?_⟩
      ·show updN _ _ _ _ = _
       rw [e, wfU]
      ·rw [← e, a] at h2
       have : u0 + cost s < v := by simpa [better] using h2
       exact J05 (nat_lit 0x61a431214110161a431214171a4141101) rfl c this
     ·exact ⟨v, u, (wdU _ _ e).trans a, (wdU _ _ (ne _ hi)).trans b, c⟩
  ·rw [if_neg h2]
   refine ⟨W.zero, W.filled, W.from_, fun i z hz hn => ?_⟩
   rcases hz with hz | ⟨h, hz⟩
   ·exact W.low i z (.inl hz) hn
   ·rcases List.mem_append.mp hz with hz | hz
    ·exact W.low i z (.inr ⟨h, hz⟩) hn
    ·rw [List.mem_singleton] at hz
     subst h hz
     cases hv : y.C (i + sz z) with
     | none => rw [hv] at h2; exact absurd rfl h2
     | some v =>
      rw [hv] at h2
      have : ¬ (u0 + cost z < v) := by simpa [better] using h2
      exact ⟨v, u0, rfl, hu0, by exact J03 (nat_lit 0x61a4211101b1a0142111) rfl this⟩
theorem WyOk.offerAll {n : Nat} {cost : Nat × Nat → Int} {off : Nat → List (Nat × Nat)} {at_ : Nat} : ∀ {l done : List (Nat × Nat)} {y : Wy}, WyOk n cost off at_ done y → at_ < n → (∀ s ∈ l, s ∈ off at_) → WyOk n cost off at_ (done ++ l) (offerAll n cost at_ y l)
 | [], done, y, W, _, _ => by rw [List.append_nil]; exact W
 | s :: l, done, y, W, h, hl => by
  have := (W.offer h (hl s (.head _))).offerAll (l := l) h fun z hz => hl z (.tail _ hz)
  rw [List.append_assoc] at this; exact this
theorem wyTo_ok {n : Nat} {cost : Nat × Nat → Int} {lit : Nat → Nat} {cn : Nat → List (Nat × Nat)} : ∀ {i : Nat}, i ≤ n → WyOk n cost (whQ lit cn) i [] (wyTo n cost lit cn i)
 | 0, _ => by
  refine ⟨rfl, fun j hj _ => ?_, fun j v hj hv => ?_, fun i s h => ?_⟩
  ·have : j = 0 := by exact Nat.le_antisymm (J10 (nat_lit 0x1a020101a0201) rfl hj) (J10 (nat_lit 0x1a0102) rfl)
   subst this; rfl
  ·have hv : (if j = 0 then some (0 : Int) else none) = some v := hv
   rw [if_neg (by exact fun hq => Nat.lt_irrefl 0 (J10 (nat_lit 0x10a020201a011221a0201) rfl hj hq))] at hv; cases hv
  ·rcases h with ⟨h, _⟩ | ⟨_, h⟩
   ·exact fun hq => (Nat.lt_irrefl 0 (J10 (nat_lit 0x10a020211a0201) rfl h)).elim
   ·cases h
 | i + 1, h => by
  have W := (wyTo_ok (n := n) (cost := cost) (lit := lit) (cn := cn) (i := i) (by exact J20 (nat_lit 0x1a110101a1141201) rfl h)).offerAll (l := whQ lit cn i) (by exact J20 (nat_lit 0x11a110101a1141201) rfl h) fun s hs => hs
  rw [List.nil_append] at W
  refine ⟨W.zero, fun j hj hn => ?_, fun j v hj hv => ?_, fun k s hs hn => ?_⟩
  ·rcases Nat.lt_or_ge i j with g | g
   ·have : j = i + 1 := by exact Nat.le_antisymm (J20 (nat_lit 0x1a412110101a4121101) rfl hj) (J20 (nat_lit 0x1a114120111a1101) rfl g)
    subst this
    have := W.low i (0, lit i) (.inr ⟨rfl, .head _⟩) (by show i + 1 ≤ n; omega)
    obtain ⟨v, u, a, _⟩ := this
    have a : (Mine.offerAll n cost i (wyTo n cost lit cn i) (whQ lit cn i)).C (i + 1) = some v := a
    show ((Mine.offerAll n cost i (wyTo n cost lit cn i) (whQ lit cn i)).C (i + 1)).isSome = true
    rw [a]; rfl
   ·exact W.filled j g hn
  ·obtain ⟨s, u, a, b, c, d, e, f⟩ := W.from_ j v hj hv
   exact ⟨s, u, a, b, c, by exact J20 (nat_lit 0x1a412110101a1101) rfl d, e, f⟩
  ·rcases hs with ⟨h1, h2⟩ | ⟨_, h2⟩
   ·rcases Nat.lt_or_ge k i with g | g
    ·exact W.low k s (.inl ⟨g, h2⟩) hn
    ·have : k = i := by exact Nat.le_antisymm (J20 (nat_lit 0x1a110111a4121101) rfl h1) (J20 (nat_lit 0x1a110101a1101) rfl g)
     subst this
     exact W.low k s (.inr ⟨rfl, h2⟩) hn
   ·cases h2
theorem wy_least {o : Nat → Nat} {n w most : Nat} {cost : Nat × Nat → Int} {y : Wy} (W : WyOk n cost (whQ o fun p => can o n w most p 1) n [] y)
 (hc : ∀ l d d', d' ≤ d → 2 ≤ l → cost (l, d') ≤ cost (l, d)) (hl : ∀ a b, cost (0, a) = cost (0, b)) : ∀ {steps : List (Nat × Nat)} {p : Nat} {u : Int}, Par o n w most p steps n → y.C p = some u → ∃ v, y.C n = some v ∧ v ≤ u + tot cost steps
 | [], p, u, h, hu => by
  have h : p = n := h
  subst h; exact ⟨u, hu, by simp [tot]⟩
 | s :: r, p, u, ⟨hs, hr⟩, hu => by
  have hle := hs.le
  have sp := whU s
  have : ∃ z, z ∈ whQ o (fun p => can o n w most p 1) p ∧ sz z = sz s ∧ cost z ≤ cost s := by
   by_cases h0 : s.1 = 0
   ·refine ⟨(0, o p), .head _, by unfold sz; rw [if_pos h0]; rfl, ?_⟩
    have : s = (0, s.2) := by rw [← h0]
    rw [this, hl (o p) s.2]; exact Int.le_refl _
   ·obtain ⟨x, hx, h1, h2⟩ := can_has hs h0
    have hs2 : 2 ≤ s.1 := by
     rcases hs with ⟨h, _⟩ | ⟨h, _⟩
     ·exact absurd h h0
     ·exact h
    refine ⟨(s.1, x.2), .tail _ (List.mem_flatMap.mpr ⟨x, hx, List.mem_map.mpr ⟨s.1 - 2, List.mem_range.mpr (by exact J40 (nat_lit 0x11a110101a312121a214220131a3141211) rfl h1 (Nat.sub_add_cancel (J10 (nat_lit 0x1a012201a0122) rfl hs2)) (Nat.sub_add_cancel (J20 (nat_lit 0x1a011201a011101a1122) rfl h1 hs2))), ?_⟩⟩), rfl, hc s.1 s.2 x.2 h2 hs2⟩
    show (s.1 - 2 + 2, x.2) = (s.1, x.2)
    congr 1; exact Nat.le_antisymm (J20 (nat_lit 0x1a114220121a1142201) rfl (Nat.sub_add_cancel (J10 (nat_lit 0x1a012201a0122) rfl hs2))) (J20 (nat_lit 0x1a422110101a4221101) rfl (sbA _ _))
  obtain ⟨z, hz, ez, cz⟩ := this
  obtain ⟨v, u', a, b, c⟩ := W.low p z (.inl ⟨by exact J30 (nat_lit 0x11a110101a114210101a2112) rfl hle sp, hz⟩) (by exact J40 (nat_lit 0x1a214110101a214310121a3111) rfl hle ez)
  rw [hu] at b; cases b
  rw [ez] at a
  obtain ⟨v', e, f⟩ := wy_least W hc hl hr a
  exact ⟨v', e, by rw [tot_cons]; omega⟩
theorem offers_ok {o : Nat → Nat} {n w most p : Nat} {s : Nat × Nat} (hp : p < n) (h : s ∈ whQ o (fun p => can o n w most p 1) p) : StepOk o n w most p s := by
 rcases List.mem_cons.mp h with h | h
 ·subst h; exact .inl ⟨rfl, hp, rfl⟩
 ·obtain ⟨x, hx, h⟩ := List.mem_flatMap.mp h
  obtain ⟨k, hk, rfl⟩ := List.mem_map.mp h
  have := List.mem_range.mp hk
  exact can_step (by exact J00 (nat_lit 0x1a1212) rfl) hx (k + 2) (by exact J10 (nat_lit 0x1a4220122) rfl) (by exact J30 (nat_lit 0x1a114220111a210121a1141221) rfl this (Nat.sub_add_cancel (J30 (nat_lit 0x1a011211a211101a0121) rfl this (Nat.sub_le _ _))))
theorem back_ok {o : Nat → Nat} {n w most : Nat} {cost : Nat × Nat → Int} {y : Wy} (W : WyOk n cost (whQ o fun p => can o n w most p 1) n [] y) : ∀ {f j : Nat} {v : Int}, j ≤ f → j ≤ n → y.C j = some v → Par o n w most 0 (back y.S f j) j ∧ tot cost (back y.S f j) = v
 | 0, j, v, h, hn, hv => by
  have : j = 0 := by exact Nat.le_antisymm (J10 (nat_lit 0x1a020101a0201) rfl h) (J10 (nat_lit 0x1a0102) rfl)
  subst this
  rw [W.zero] at hv; cases hv
  exact ⟨rfl, rfl⟩
 | f + 1, j, v, h, hn, hv => by
  unfold back
  by_cases h0 : j = 0
  ·subst h0
   rw [W.zero] at hv; cases hv
   rw [if_pos rfl]; exact ⟨rfl, rfl⟩
  ·rw [if_neg h0]
   obtain ⟨s, u, a, b, c, d, e, g⟩ := W.from_ j v (by exact J10 (nat_lit 0x1a011211a0102) rfl (Nat.lt_of_le_of_ne (J10 (nat_lit 0x1a0102) rfl) (Ne.symm h0))) hv
   rw [a, Option.getD_some]
   have sp := whU s
   obtain ⟨h1, h2⟩ := back_ok W (f := f) (j := j - sz s) (by exact J40 (nat_lit 0x1a110101a412112101a311221a2143101) rfl h sp (Nat.sub_add_cancel (J20 (nat_lit 0x1a110101a1101) rfl b))) (by exact J20 (nat_lit 0x1a110101a1101) rfl d) e
   refine ⟨h1.app ⟨offers_ok (by exact J40 (nat_lit 0x11a110101a112101a311221a2143101) rfl hn sp (Nat.sub_add_cancel (J20 (nat_lit 0x1a110101a1101) rfl b))) c, ?_⟩, ?_⟩
   ·show _ + sz s = j; exact Nat.le_antisymm (J30 (nat_lit 0x1a214110121a2141101) rfl (Nat.sub_add_cancel (J20 (nat_lit 0x1a110101a1101) rfl b))) (J30 (nat_lit 0x1a421110101a4211101) rfl (sbA _ _))
   ·rw [tot_app, h2, g]; simp [tot]
theorem back_fuel {S : Nat → Option (Nat × Nat)} : ∀ {f g j : Nat}, j ≤ f → j ≤ g → back S f j = back S g j
 | 0, 0, _, _, _ => rfl
 | 0, g + 1, j, h, _ => by
  have : j = 0 := by exact Nat.le_antisymm (J10 (nat_lit 0x1a020101a0201) rfl h) (J10 (nat_lit 0x1a0102) rfl)
  subst this; unfold back; rw [if_pos rfl]
 | f + 1, 0, j, _, h => by
  have : j = 0 := by exact Nat.le_antisymm (J10 (nat_lit 0x1a020101a0201) rfl h) (J10 (nat_lit 0x1a0102) rfl)
  subst this; unfold back; rw [if_pos rfl]
 | f + 1, g + 1, j, h1, h2 => by
  unfold back
  split
  ·rfl
  ·have := whU ((S j).getD (0, 0))
   rw [back_fuel (f := f) (g := g) (by omega) (by omega)]
noncomputable def leastF (o : Nat → Nat) (n w most : Nat) (cost : Nat × Nat → Int) : List (Nat × Nat) := back (wyTo n cost o (fun p => can o n w most p 1) n).S n n
theorem leastF_ok {o : Nat → Nat} {n w most : Nat} {cost : Nat × Nat → Int} : Par o n w most 0 (leastF o n w most cost) n := by
 have W := wyTo_ok (n := n) (cost := cost) (lit := o) (cn := fun p => can o n w most p 1) (i := n) (Nat.le_refl _)
 obtain ⟨v, hv⟩ := Option.isSome_iff_exists.mp (W.filled n (Nat.le_refl _) (Nat.le_refl _))
 exact (back_ok W (Nat.le_refl _) (Nat.le_refl _) hv).1
theorem leastF_le {o : Nat → Nat} {n w most : Nat} {cost : Nat × Nat → Int} (hc : ∀ l d d', d' ≤ d → 2 ≤ l → cost (l, d') ≤ cost (l, d)) (hl : ∀ a b, cost (0, a) = cost (0, b)) {steps : List (Nat × Nat)} (h : Par o n w most 0 steps n) : tot cost (leastF o n w most cost) ≤ tot cost steps := by
 have W := wyTo_ok (n := n) (cost := cost) (lit := o) (cn := fun p => can o n w most p 1) (i := n) (Nat.le_refl _)
 obtain ⟨v, hv⟩ := Option.isSome_iff_exists.mp (W.filled n (Nat.le_refl _) (Nat.le_refl _))
 have e := (back_ok W (Nat.le_refl _) (Nat.le_refl _) hv).2
 obtain ⟨v', hv', hle⟩ := wy_least W hc hl h W.zero
 rw [hv] at hv'; cases hv'
 unfold leastF
 rw [e]; exact J02 (nat_lit 0x61a110161a4110201) rfl hle
noncomputable def relit (o : Nat → Nat) (j : Nat) (s : Nat × Nat) : Nat × Nat := if s.1 = 0 then (0, o (j - 1)) else s
theorem relit_sz {o : Nat → Nat} {j : Nat} {s : Nat × Nat} : sz (relit o j s) = sz s := by
 unfold relit sz
 by_cases h : s.1 = 0
 ·rw [if_pos h, if_pos h]; rfl
 ·rw [if_neg h, if_neg h]
noncomputable def Relit (o : Nat → Nat) (y z : Wy) : Prop := y.C = z.C ∧ ∀ j, z.S j = (y.S j).map (relit o j)
theorem Relit.offer {o : Nat → Nat} {n i : Nat} {y z : Wy} {s : Nat × Nat} {cost : Int} (h : Relit o y z) : Relit o (offer n y i s cost) (offer n z i (relit o (i + sz s) s) cost) := by
 unfold Mine.offer
 rw [relit_sz, ← h.1]
 split
 ·exact h
 ·split
  ·refine ⟨rfl, fun j => ?_⟩
   by_cases e : j = i + sz s
   ·subst e
    show updN _ _ _ _ = Option.map _ (updN _ _ _ _)
    rw [wfU, wfU]; rfl
   ·show updN _ _ _ _ = Option.map _ (updN _ _ _ _)
    rw [wdU _ _ e, wdU _ _ e]; exact h.2 j
  ·exact h
theorem Relit.offerAll {o : Nat → Nat} {n i : Nat} {cost : Nat × Nat → Int} (hl : ∀ a b, cost (0, a) = cost (0, b)) : ∀ {l : List (Nat × Nat)} {y z : Wy}, Relit o y z → Relit o (offerAll n cost i y l) (offerAll n cost i z (l.map fun s => relit o (i + sz s) s))
 | [], _, _, h => h
 | s :: l, y, z, h => by
  have e : cost (relit o (i + sz s) s) = cost s := by
   unfold relit
   by_cases h0 : s.1 = 0
   ·rw [if_pos h0]
    have : s = (0, s.2) := by rw [← h0]
    rw [this]; exact hl _ _
   ·rw [if_neg h0]
  have := Relit.offerAll (n := n) (i := i) hl (l := l) (h.offer (n := n) (i := i) (s := s) (cost := cost s))
  show Relit o (Mine.offerAll n cost i _ l) (Mine.offerAll n cost i (Mine.offer n z i _ (cost (relit o (i + sz s) s))) _)
  rw [e]; exact this
theorem offers_relit {o a : Nat → Nat} {cn : Nat → List (Nat × Nat)} {i : Nat} (h2 : ∀ x ∈ cn i, 2 ≤ x.1) : whQ o cn i = (whQ a cn i).map fun s => relit o (i + sz s) s := by
 unfold whQ
 rw [List.map_cons]
 congr 1
 rw [show (List.flatMap wkV (cn i)).map (fun s => relit o (i + sz s) s) = List.flatMap wkV (cn i) from ?_]
 conv => rhs; rw [← List.map_id (List.flatMap wkV (cn i))]
 refine List.map_congr_left fun s hs => ?_
 obtain ⟨x, hx, hs⟩ := List.mem_flatMap.mp hs
 obtain ⟨k, _, rfl⟩ := List.mem_map.mp hs
 unfold relit
 rw [if_neg (by show ¬ (k + 2 = 0); exact fun hq => Nat.lt_irrefl 0 (J10 (nat_lit 0x10a020221a0242201) rfl hq))]; rfl
theorem wyTo_relit {o a : Nat → Nat} {n : Nat} {cost : Nat × Nat → Int} {cn : Nat → List (Nat × Nat)} (hl : ∀ a b, cost (0, a) = cost (0, b)) (h2 : ∀ i, ∀ x ∈ cn i, 2 ≤ x.1) : ∀ i, Relit o (wyTo n cost a cn i) (wyTo n cost o cn i)
 | 0 => ⟨rfl, fun _ => rfl⟩
 | i + 1 => by
  show Relit o (Mine.offerAll n cost i _ (whQ a cn i)) (Mine.offerAll n cost i _ (whQ o cn i))
  rw [offers_relit (o := o) (a := a) (h2 i)]
  exact (wyTo_relit hl h2 i).offerAll hl
noncomputable def mapS (o : Nat → Nat) : Nat → List (Nat × Nat) → List (Nat × Nat)
 | _, [] => []
 | p, s :: r => (if s.1 = 0 then (0, o p) else s) :: mapS o (p + sz s) r
theorem mapS_app {o : Nat → Nat} : ∀ {a b : List (Nat × Nat)} {p e : Nat}, (p + (a.map sz).sum = e) → mapS o p (a ++ b) = mapS o p a ++ mapS o e b
 | [], b, p, e, h => by
  have h : p + 0 = e := h
  rw [Nat.add_zero] at h; subst h; rfl
 | s :: a, b, p, e, h => by
  show _ :: mapS o (p + sz s) (a ++ b) = _ :: (mapS o (p + sz s) a ++ mapS o e b)
  rw [mapS_app (a := a) (b := b) (e := e) (by simp at h; exact Nat.le_antisymm (J40 (nat_lit 0x1a314214110121a3144211101) rfl h) (J40 (nat_lit 0x1a431421110131a0144312111) rfl h))]
theorem back_relit {o : Nat → Nat} {y z : Wy} (h : Relit o y z) : ∀ {f j : Nat}, (∀ i, 1 ≤ i → i ≤ j → ∃ s, y.S i = some s ∧ sz s ≤ i) → j ≤ f → back z.S f j = mapS o 0 (back y.S f j) ∧ ((back y.S f j).map sz).sum = j
 | 0, j, hs, hf => by
  have : j = 0 := by exact Nat.le_antisymm (J10 (nat_lit 0x1a020101a0201) rfl hf) (J10 (nat_lit 0x1a0102) rfl)
  subst this; exact ⟨rfl, rfl⟩
 | f + 1, j, hs, hf => by
  unfold back
  by_cases h0 : j = 0
  ·subst h0; rw [if_pos rfl, if_pos rfl]; exact ⟨rfl, rfl⟩
  ·rw [if_neg h0, if_neg h0]
   obtain ⟨s, h1, h2⟩ := hs j (by exact J10 (nat_lit 0x1a011211a0102) rfl (Nat.lt_of_le_of_ne (J10 (nat_lit 0x1a0102) rfl) (Ne.symm h0))) (Nat.le_refl _)
   rw [h.2 j, h1]
   show back z.S f (j - sz (relit o j s)) ++ [relit o j s] = mapS o 0 (back y.S f (j - sz s) ++ [s]) ∧ _
   rw [relit_sz]
   have sp := whU s
   obtain ⟨g1, g2⟩ := back_relit h (f := f) (j := j - sz s) (fun i a b => hs i a (by exact J30 (nat_lit 0x1a110101a210101a1121) rfl b (Nat.sub_le _ _))) (by exact J40 (nat_lit 0x1a110101a412112101a311221a2143101) rfl hf sp (Nat.sub_add_cancel (J20 (nat_lit 0x1a110101a1101) rfl h2)))
   refine ⟨?_, ?_⟩
   ·rw [mapS_app (e := j - sz s) (by exact Nat.le_antisymm (J20 (nat_lit 0x1a114010221a1101) rfl g2) (J20 (nat_lit 0x1a411020131a0111) rfl g2)), g1]
    congr 1
    show [relit o j s] = [if s.1 = 0 then (0, o (j - sz s)) else s]
    unfold relit
    by_cases q : s.1 = 0
    ·have : sz s = 1 := by unfold sz; rw [if_pos q]
     rw [if_pos q, if_pos q, this]
    ·rw [if_neg q, if_neg q]
   ·show ((back y.S f (j - sz s) ++ [s]).map sz).sum = j
    rw [List.map_append, List.sum_append, g2]; simp; exact Nat.le_antisymm (J30 (nat_lit 0x1a214110121a2141101) rfl (Nat.sub_add_cancel (J20 (nat_lit 0x1a110101a1101) rfl h2))) (J30 (nat_lit 0x1a421110101a4211101) rfl (sbA _ _))
theorem can_two {o : Nat → Nat} {n w most p : Nat} : ∀ x ∈ can o n w most p 1, 2 ≤ x.1 := fun x hx => by
 obtain ⟨y, hy, rfl⟩ := List.mem_map.mp hx
 have := wjW (k := y.1) (d := y.2) hy
 show 2 ≤ y.1; exact J10 (nat_lit 0x1a012211a0112) rfl this.2.2
theorem can_pattern {o a : Nat → Nat} {n w most p L : Nat} (h : ∀ i j, i < n → j < n → (o i = o j ↔ a i = a j)) (hp : p < n) : can o n w most p L = can a n w most p L := by
 unfold can
 congr 1
 refine recs_congr fun q hq => ?_
 have hq := zcW.mp (List.mem_filter.mp hq).1
 refine run_congr fun j hj => ?_
 have := h (p + j) (q + j) (by exact J50 (nat_lit 0x11a214110111a311101a413121a2140141) rfl hj (Nat.min_le_right _ _) (Nat.sub_add_cancel (J20 (nat_lit 0x1a110111a1101) rfl hp))) (by exact J60 (nat_lit 0x11a214110111a310111a411101a514121a2143151) rfl hq hj (Nat.min_le_right _ _) (Nat.sub_add_cancel (J20 (nat_lit 0x1a110111a1101) rfl hp)))
 rw [Bool.eq_iff_iff]; simp [this]
theorem gr_pattern {o a : Nat → Nat} {n w most : Nat} (h : ∀ i j, i < n → j < n → (o i = o j ↔ a i = a j)) : ∀ {f p : Nat}, gr o n w most f p = mapS o p (gr a n w most f p)
 | 0, _ => rfl
 | f + 1, p => by
  unfold gr
  split
  ·rename_i hp
   have eb : wgW o n w most p = wgW a n w most p := by unfold wgW; rw [can_pattern h hp]
   have eg : wfZ o n w most p = (if (wfZ a n w most p).1 = 0 then (0, o p) else wfZ a n w most p) := by
    unfold wfZ
    rw [eb]
    rcases best_cases a n w most p with ⟨h1, _⟩ | ⟨_, h2⟩
    ·rw [if_pos h1, if_pos h1]; rfl
    ·have : wgW a n w most p ≠ (0, 0) := fun e => by rw [e] at h2; simp at h2
     rw [if_neg this, if_neg this, if_neg (by exact fun hq => Nat.lt_irrefl 0 (J10 (nat_lit 0x10a020201a012221a0201) rfl h2 hq))]
   have es : sz (wfZ o n w most p) = sz (wfZ a n w most p) := by
    rw [eg]
    by_cases q : (wfZ a n w most p).1 = 0
    ·rw [if_pos q]; unfold sz; rw [if_pos q]; rfl
    ·rw [if_neg q]
   rw [es, gr_pattern h]
   show _ :: _ = _ :: _
   rw [eg]
  ·rfl
theorem leastF_pattern {o a : Nat → Nat} {n w most : Nat} {cost : Nat × Nat → Int} (h : ∀ i j, i < n → j < n → (o i = o j ↔ a i = a j)) (hl : ∀ a b, cost (0, a) = cost (0, b)) : leastF o n w most cost = mapS o 0 (leastF a n w most cost) := by
 have ec : ∀ i, i ≤ n → wyTo n cost o (fun p => can o n w most p 1) i = wyTo n cost o (fun p => can a n w most p 1) i := by
  intro i
  induction i with
  | zero => intro _; rfl
  | succ i ih =>
   intro hi
   show offerAll n cost i _ _ = offerAll n cost i _ _
   rw [ih (by exact J20 (nat_lit 0x1a110101a1141201) rfl hi)]
   unfold whQ
   simp only []
   rw [can_pattern (p := i) h (by exact J20 (nat_lit 0x11a110101a1141201) rfl hi)]
 unfold leastF
 rw [ec n (Nat.le_refl _)]
 have W := wyTo_ok (n := n) (cost := cost) (lit := a) (cn := fun p => can a n w most p 1) (i := n) (Nat.le_refl _)
 refine (back_relit (wyTo_relit (o := o) (a := a) hl (fun i => can_two) n) (fun i h1 h2 => ?_) (Nat.le_refl _)).1
 obtain ⟨v, hv⟩ := Option.isSome_iff_exists.mp (W.filled i h2 h2)
 obtain ⟨s, u, a1, b, _⟩ := W.from_ i v h1 hv
 exact ⟨s, a1, b⟩
set_option tactic.hygienic false
noncomputable def bits (v : Nat) : Nat := if v > 3 then bits (v / 2) + 1 else 0
termination_by v
decreasing_by exact J30 (nat_lit 0x12a110111a113221a114212601) rfl ‹_› (Nat.div_add_mod _ _)
theorem bits_small {v : Nat} (h : v ≤ 3) : bits v = 0 := by rw [bits, if_neg (by exact fun hq => Nat.lt_irrefl 0 (J10 (nat_lit 0x10a020201a320111a0132) rfl h hq))]
theorem bits_big {v : Nat} (h : 3 < v) : bits v = bits (v / 2) + 1 := by rw [bits, if_pos h]
theorem bits_mono : ∀ (v u : Nat), u ≤ v → bits u ≤ bits v := by
 intro v
 induction v using Nat.strongRecOn with
 | ind v ih =>
  intro u h
  rcases Nat.lt_or_ge 3 u with g | g
  ·rw [bits_big g, bits_big (v := v) (by exact J20 (nat_lit 0x11a013201a011111a1132) rfl h g)]
   have := ih (v / 2) (by exact J40 (nat_lit 0x12a110101a112111a213221a114312601) rfl h g (Nat.div_add_mod _ _)) (u / 2) (Nat.div_le_div_right h)
   exact J20 (nat_lit 0x1a412114120101a1101) rfl this
  ·rw [bits_small g]; exact Nat.zero_le _
theorem log2_half {v : Nat} (h : 2 ≤ v) : Nat.log2 v = Nat.log2 (v / 2) + 1 := by
 rw [Nat.log2_def, if_pos h]
theorem bits_log : ∀ v : Nat, 4 ≤ v → bits v + 1 = Nat.log2 v := by
 intro v
 induction v using Nat.strongRecOn with
 | ind v ih =>
  intro h
  rw [bits_big (by exact J10 (nat_lit 0x11a013201a0142) rfl h), log2_half (by exact J10 (nat_lit 0x1a012201a0142) rfl h)]
  rcases Nat.lt_or_ge 3 (v / 2) with g | g
  ·rw [ih (v / 2) (by exact J30 (nat_lit 0x11a110111a013221a114212601) rfl g (Nat.div_add_mod _ _)) (by exact J10 (nat_lit 0x1a014211a0132) rfl g)]
  ·rw [bits_small g, log2_half (v := v / 2) (by exact J30 (nat_lit 0x2a012201a114231a11421260111a2221) rfl h (Nat.div_add_mod _ _) (Nat.mod_lt _ (by decide)))]
   have : v / 2 / 2 = 1 := by exact Nat.le_antisymm (J30 (nat_lit 0x2a120101a321121a114212601) rfl g (Nat.div_add_mod _ _)) (J50 (nat_lit 0x4a011201a114211a222112a223131a11421264132a414312601) rfl h (Nat.mod_lt _ (by decide)) (Nat.mod_lt _ (by decide)) (Nat.div_add_mod _ _) (Nat.div_add_mod _ _))
   rw [this]; rfl
noncomputable def pmF (p1 p2 : Int) (l d : Nat) : Int := p1 + p2 * ((bits (l - 2) : Int) + (bits (d - 1) : Int))
noncomputable def wdW (p0 p1 p2 : Int) : Nat × Nat → Int := costOf p0 (pmF p1 p2)
theorem cost_lit {p0 p1 p2 : Int} (a b : Nat) : wdW p0 p1 p2 (0, a) = wdW p0 p1 p2 (0, b) := rfl
theorem cost_mono {p0 p1 p2 : Int} (h : 0 ≤ p2) (l d d' : Nat) (hd : d' ≤ d) (hl : 2 ≤ l) : wdW p0 p1 p2 (l, d') ≤ wdW p0 p1 p2 (l, d) := by
 unfold wdW costOf
 rw [if_neg (by show ¬ (l = 0); exact fun hq => Nat.lt_irrefl 0 (J10 (nat_lit 0x10a020201a012221a0201) rfl hl hq)), if_neg (by show ¬ (l = 0); exact fun hq => Nat.lt_irrefl 0 (J10 (nat_lit 0x10a020201a012221a0201) rfl hl hq))]
 unfold pmF
 have := bits_mono (d - 1) (d' - 1) (by omega)
 have := Int.mul_le_mul_of_nonneg_left (show (bits (l - 2) : Int) + (bits (d' - 1) : Int) ≤ (bits (l - 2) : Int) + (bits (d - 1) : Int) by exact J30 (nat_lit 0x61a4821801481180101a2111) rfl this) h
 show p1 + p2 * ((bits (l - 2) : Int) + (bits (d' - 1) : Int)) ≤ p1 + p2 * ((bits (l - 2) : Int) + (bits (d - 1) : Int))
 exact J03 (nat_lit 0x61a421014110161a2111) rfl this
theorem cost_match {p0 p1 p2 : Int} {l d : Nat} (h : l ≠ 0) : wdW p0 p1 p2 (l, d) = pmF p1 p2 l d := by unfold wdW costOf; rw [if_neg h]
noncomputable def WayOf (z w p : Nat) (p0 p1 p2 : Int) (kd : Nat → Nat) (wd : Nat → Nat → Nat) (v : Int) : Prop :=
 v = (z : Int) * p0 ∨ (z = 3 ∧ wd (kd p) 1 = wd (kd p) 0 ∧ wd (kd p) 2 = wd (kd p) 0 ∧ v = p0 + p1) ∨
 (1 < z ∧ ∃ b, 1 ≤ b ∧ b ≤ p ∧ b ≤ w ∧ kd (p - b) = kd p ∧ v = pmF p1 p2 z (z * b))
noncomputable def Due (z w : Nat) (p0 p1 p2 : Int) (kd : Nat → Nat) (wd : Nat → Nat → Nat) : Nat → List (Nat × Nat) → Int → Prop
 | _, [], v => v = 0
 | p, s :: r, v => ∃ a b, v = a + b ∧ (if s.1 = 0 then WayOf z w p p0 p1 p2 kd wd a else a = pmF p1 p2 (z * s.1) (z * s.2)) ∧ Due z w p0 p1 p2 kd wd (p + sz s) r b
theorem lits_par {o : Nat → Nat} {n w most : Nat} : ∀ (k p : Nat), p + k ≤ n → Par o n w most p ((List.range k).map fun j => (0, o (p + j))) (p + k)
 | 0, p, _ => rfl
 | k + 1, p, h => by
  rw [List.range_succ, List.map_append]
  refine (lits_par k p (by exact J30 (nat_lit 0x1a214110101a2144121101) rfl h)).app ⟨.inl ⟨rfl, by exact J30 (nat_lit 0x11a214110101a2144121101) rfl h, rfl⟩, rfl⟩
theorem lits_tot {o : Nat → Nat} {p0 p1 p2 : Int} {p : Nat} : ∀ (k : Nat), tot (wdW p0 p1 p2) ((List.range k).map fun j => (0, o (p + j))) = (k : Int) * p0
 | 0 => by simp [tot]
 | k + 1 => by
  rw [List.range_succ, List.map_append, tot_app, lits_tot k]
  have : tot (wdW p0 p1 p2) (List.map (fun j => (0, o (p + j))) [k]) = p0 := by simp [tot, wdW, costOf]
  rw [this, Int.natCast_add, Int.add_mul]; simp
section
variable {o o' : Nat → Nat} {m z w most : Nat} {kd : Nat → Nat} {wd : Nat → Nat → Nat} {p0 p1 p2 : Int}
theorem word_match {p l d : Nat} (h' : ∀ p, p < m → ∀ j, j < z → o' (z * p + j) = wd (kd p) j) (hz : 1 ≤ z) (hd : d ≤ p) (hl : p + l ≤ m) (e : ∀ a, a < l → kd (p + a) = kd (p + a - d)) : ∀ j, j < z * l → o' (z * p + j) = o' (z * p + j - z * d) := by
 intro j hj
 have hb : j % z < z := Nat.mod_lt _ hz
 have ha : j / z < l := by rw [Nat.div_lt_iff_lt_mul hz, Nat.mul_comm]; exact hj
 have ej : j = z * (j / z) + j % z := (Nat.div_add_mod j z).symm
 generalize j / z = a at ha ej
 generalize j % z = b at hb ej
 have e1 : z * p + j = z * (p + a) + b := by rw [Nat.mul_add]; exact Nat.le_antisymm (J40 (nat_lit 0x1a431421014110121a4312111) rfl ej) (J40 (nat_lit 0x1a431014214110131a4211131) rfl ej)
 have e2 : z * p + j - z * d = z * (p + a - d) + b := by
  rw [e1, Nat.mul_sub]
  have : z * d ≤ z * (p + a) := Nat.mul_le_mul_left _ (by exact J30 (nat_lit 0x1a421110101a1101) rfl hd)
  exact Nat.le_antisymm (J50 (nat_lit 0x1a421110121a421414310131a4143111) rfl (Nat.sub_add_cancel (J30 (nat_lit 0x1a421110101a1101) rfl this)) (Nat.sub_add_cancel (J20 (nat_lit 0x1a110101a1101) rfl this))) (J50 (nat_lit 0x1a214110131a411414312121a4143101) rfl (Nat.sub_add_cancel (J30 (nat_lit 0x1a421110101a1101) rfl this)) (Nat.sub_add_cancel (J20 (nat_lit 0x1a110101a1101) rfl this)))
 rw [e2, e1, h' (p + a - d) (by exact J50 (nat_lit 0x11a110101a114312111a314101a4412101) rfl hl ha (Nat.sub_le _ _)) (b) hb, h' (p + a) (by exact J40 (nat_lit 0x11a214110101a214310111a3111) rfl hl ha) (b) hb, e _ ha]
theorem due_par (hz : 1 ≤ z) (hw : 1 ≤ w) (hm : 2 ≤ most) (h : ∀ i j, i < m → j < m → o i = o j → kd i = kd j) (h' : ∀ p, p < m → ∀ j, j < z → o' (z * p + j) = wd (kd p) j) :
 ∀ {steps : List (Nat × Nat)} {p : Nat} {v : Int}, Par o m w most p steps m → Due z w p0 p1 p2 kd wd p steps v → ∃ steps', Par o' (z * m) (z * w) (z * most) (z * p) steps' (z * m) ∧ tot (wdW p0 p1 p2) steps' = v
 | [], p, v, hp, hv => by
  have hp : p = m := hp
  subst hp
  exact ⟨[], rfl, hv.symm⟩
 | s :: r, p, v, ⟨hs, hr⟩, ⟨a, b, hv, hab, hd⟩ => by
  obtain ⟨st, h1, h2⟩ := due_par hz hw hm h h' hr hd
  have zm : z * 2 ≤ z * most := Nat.mul_le_mul_left _ hm
  have zw : z * 1 ≤ z * w := Nat.mul_le_mul_left _ hw
  have : ∃ pre, Par o' (z * m) (z * w) (z * most) (z * p) pre (z * (p + sz s)) ∧ tot (wdW p0 p1 p2) pre = a := by
   rcases hs with ⟨h0, hp, hb⟩ | ⟨g2, g3, g4, g5, g6, g7, g8⟩
   ·have es : sz s = 1 := by unfold sz; rw [if_pos h0]
    rw [if_pos h0] at hab
    rw [es]
    have zp : z * (p + 1) ≤ z * m := Nat.mul_le_mul_left _ (by exact J20 (nat_lit 0x1a114120111a1101) rfl hp)
    have zp1 : z * (p + 1) = z * p + z := by rw [Nat.mul_add, Nat.mul_one]
    rcases hab with hab | ⟨e3, c1, c2, hab⟩ | ⟨c1, bk, c2, c3, c4, c5, hab⟩
    ·refine ⟨(List.range z).map fun j => (0, o' (z * p + j)), ?_, ?_⟩
     ·rw [zp1]; exact lits_par z (z * p) (by exact J40 (nat_lit 0x1a214110101a213131a4110131) rfl zp zp1)
     ·rw [lits_tot, hab]
    ·subst e3
     refine ⟨[(0, o' (3 * p)), (2, 1)], ⟨.inl ⟨rfl, by exact J20 (nat_lit 0x11a3611360113a1101) rfl hp, rfl⟩, .inr ⟨Nat.le_refl _, ?_, Nat.le_refl _, ?_, ?_, ?_, fun j hj => ?_⟩, ?_⟩, ?_⟩
     ·show 2 ≤ 3 * most; exact J10 (nat_lit 0x1a36012203a0122) rfl hm
     ·show 1 ≤ 3 * w; exact J10 (nat_lit 0x1a36011203a0112) rfl hw
     ·show 1 ≤ 3 * p + 1; exact J10 (nat_lit 0x1a412360112) rfl
     ·show 3 * p + 1 + 2 ≤ 3 * m; omega
     ·have hj : j < 2 := hj
      have q0 := h' p hp 0 (by exact J00 (nat_lit 0x11a3202) rfl)
      have q1 := h' p hp 1 (by exact J00 (nat_lit 0x11a3212) rfl)
      have q2 := h' p hp 2 (by exact J00 (nat_lit 0x11a3222) rfl)
      show o' (3 * p + 1 + j) = o' (3 * p + 1 + j - 1)
      match j, hj with
      | 0, _ => show o' (3 * p + 1) = o' (3 * p + 0); rw [q1, q0, c1]
      | 1, _ => show o' (3 * p + 2) = o' (3 * p + 1); rw [q2, q1, c1, c2]
     ·show 3 * p + 1 + 2 = 3 * (p + 1); exact Nat.le_antisymm (J10 (nat_lit 0x1a36412014224123601) rfl) (J10 (nat_lit 0x1a42241236013641201) rfl)
     ·simp [tot, wdW, costOf, pmF, bits_small]; exact Int.le_antisymm (J03 (nat_lit 0x61a214110191a4110121) rfl hab) (J03 (nat_lit 0x61a421110181a4211101) rfl hab)
    ·refine ⟨[(z, z * bk)], ⟨.inr ⟨by show 2 ≤ z; exact J10 (nat_lit 0x1a012211a0112) rfl c1, ?_, ?_, Nat.mul_le_mul_left _ c4, Nat.mul_le_mul_left _ c3, by show z * p + z ≤ z * m; exact J40 (nat_lit 0x1a214110101a213131a4110131) rfl zp zp1, fun j hj => ?_⟩, ?_⟩, ?_⟩
     ·show z ≤ z * most; exact J20 (nat_lit 0x1a110101a11270111a0112) rfl zm c1
     ·show 1 ≤ z * bk; exact Nat.mul_pos hz c2
     ·refine word_match h' hz c3 (l := 1) (by exact J20 (nat_lit 0x1a114120111a1101) rfl hp) (fun a ha => ?_) j (by rw [Nat.mul_one]; exact hj)
      have : a = 0 := by exact Nat.le_antisymm (J10 (nat_lit 0x1a020111a1201) rfl ha) (J10 (nat_lit 0x1a0102) rfl)
      subst this; exact c5.symm
     ·show z * p + sz (z, z * bk) = _
      unfold sz; rw [if_neg (by show ¬ (z = 0); exact fun hq => Nat.lt_irrefl 0 (J10 (nat_lit 0x10a020211a011221a0201) rfl c1 hq)), zp1]
     ·rw [hab]; simp [tot]; exact cost_match (by exact fun hq => Nat.lt_irrefl 0 (J10 (nat_lit 0x10a020211a011221a0201) rfl c1 hq))
   ·have h0 : ¬ s.1 = 0 := by exact fun hq => Nat.lt_irrefl 0 (J10 (nat_lit 0x10a020201a012221a0201) rfl g2 hq)
    have es : sz s = s.1 := by unfold sz; rw [if_neg h0]
    rw [if_neg h0] at hab
    rw [es]
    have zl : z * 2 ≤ z * s.1 := Nat.mul_le_mul_left _ g2
    have zpl : z * (p + s.1) = z * p + z * s.1 := Nat.mul_add _ _ _
    have zpm : z * (p + s.1) ≤ z * m := Nat.mul_le_mul_left _ g7
    refine ⟨[(z * s.1, z * s.2)], ⟨.inr ⟨by show 2 ≤ z * s.1; exact J20 (nat_lit 0x1a012202a111201a012711) rfl hz zl, Nat.mul_le_mul_left _ g3, Nat.mul_pos hz g4, Nat.mul_le_mul_left _ g5, Nat.mul_le_mul_left _ g6, by show z * p + z * s.1 ≤ z * m; exact J40 (nat_lit 0x1a214110131a411013101a2131) rfl zpl zpm, ?_⟩, ?_⟩, ?_⟩
    ·exact word_match h' hz g6 g7 fun a ha => h _ _ (by exact J40 (nat_lit 0x11a214110101a214310111a3111) rfl g7 ha) (by exact J50 (nat_lit 0x11a110101a114312111a314101a4412101) rfl g7 ha (Nat.sub_le _ _)) (g8 a ha)
    ·show z * p + sz (z * s.1, z * s.2) = _
     unfold sz; rw [if_neg (by show ¬ (z * s.1 = 0); exact fun hq => Nat.lt_irrefl 0 (J20 (nat_lit 0x10a020202a011201a11270121a0211) rfl hz zl hq)), zpl]
    ·rw [hab]; simp [tot]; exact cost_match (by exact fun hq => Nat.lt_irrefl 0 (J20 (nat_lit 0x10a020202a011201a11270121a0211) rfl hz zl hq))
  obtain ⟨pre, h3, h4⟩ := this
  exact ⟨pre ++ st, h3.app h1, by rw [tot_app, h4, h2, hv]⟩
end
theorem tot_ones : ∀ {l : List (Nat × Nat)}, tot (wdW 1 1 0) l = (l.length : Int)
 | [] => rfl
 | s :: l => by
  rw [tot_cons, tot_ones]
  have : wdW 1 1 0 s = 1 := by
   unfold wdW costOf pmF
   split
   ·rfl
   ·simp
  rw [this, List.length_cons]; exact Int.le_antisymm (J10 (nat_lit 0x61a841201480112) rfl) (J10 (nat_lit 0x61a480112841201) rfl)
theorem trunc {o1 o2 : Nat → Nat} {z n w most : Nat} (hz : z ≤ n) (e : ∀ i, i < z → o2 i = o1 i) : ∀ {steps : List (Nat × Nat)} {p : Nat}, Par o2 n w most p steps n → p ≤ z → ∃ steps', Par o1 z w most p steps' z ∧ steps'.length ≤ steps.length
 | [], p, h, hp => by
  have h : p = n := h
  exact ⟨[], by show p = z; exact Nat.le_antisymm (J20 (nat_lit 0x1a110101a1101) rfl hp) (J30 (nat_lit 0x1a110101a210131a2111) rfl hz h), Nat.le_refl _⟩
 | s :: r, p, ⟨hs, hr⟩, hp => by
  rcases Nat.lt_or_ge p z with g | g
  ·rcases Nat.lt_or_ge z (p + sz s) with g2 | g2
   ·-- the step goes past the end
    rcases Nat.lt_or_ge (p + 1) z with g3 | g3
    ·rcases hs with ⟨h0, _⟩ | ⟨a2, a3, a4, a5, a6, a7, a8⟩
     ·have : sz s = 1 := by unfold sz; rw [if_pos h0]
      exact (Nat.lt_irrefl 0 (J30 (nat_lit 0x10a020211a421110111a014121121a1221) rfl g2 g3 this)).elim
     ·have es : sz s = s.1 := by unfold sz; rw [if_neg (by exact fun hq => Nat.lt_irrefl 0 (J10 (nat_lit 0x10a020201a012221a0201) rfl a2 hq))]
      rw [es] at g2
      refine ⟨[(z - p, s.2)], ⟨.inr ⟨by show 2 ≤ z - p; exact J30 (nat_lit 0x1a012211a214121101a4110121) rfl g3 (sbA _ _), by show z - p ≤ most; exact J50 (nat_lit 0x1a110111a441312101a114121a2143101) rfl g2 a3 (Nat.sub_add_cancel (J20 (nat_lit 0x1a110111a1141201) rfl g3)), a4, a5, a6, by show p + (z - p) ≤ z; exact J30 (nat_lit 0x1a214110121a2140111) rfl (Nat.sub_add_cancel (J20 (nat_lit 0x1a110111a1141201) rfl g3)), fun j hj => ?_⟩, ?_⟩, by simp⟩
      ·have hj : j < z - p := hj
       show o1 (p + j) = o1 (p + j - s.2)
       rw [← e _ (by omega), ← e _ (by omega)]; exact a8 j (by omega)
      ·show p + sz (z - p, s.2) = z
       unfold sz; rw [if_neg (by show ¬ (z - p = 0); exact fun hq => Nat.lt_irrefl 0 (J30 (nat_lit 0x10a020211a114120121a022101a4012111) rfl g3 hq (sbA _ _)))]; show p + (z - p) = z; exact Nat.le_antisymm (J30 (nat_lit 0x1a214110121a2140111) rfl (Nat.sub_add_cancel (J20 (nat_lit 0x1a110111a1141201) rfl g3))) (J30 (nat_lit 0x1a421110101a4112101) rfl (sbA _ _))
    ·exact ⟨[(0, o1 p)], ⟨.inl ⟨rfl, g, rfl⟩, by show p + 1 = z; exact Nat.le_antisymm (J20 (nat_lit 0x1a114120111a1101) rfl g) (J20 (nat_lit 0x1a412110101a4121101) rfl g3)⟩, by simp⟩
   ·obtain ⟨st, h1, h2⟩ := trunc hz e hr g2
    refine ⟨s :: st, ⟨?_, h1⟩, by simp; exact h2⟩
    rcases hs with ⟨h0, hpn, hb⟩ | ⟨a2, a3, a4, a5, a6, a7, a8⟩
    ·exact .inl ⟨h0, g, by rw [hb]; exact e p g⟩
    ·have es : sz s = s.1 := by unfold sz; rw [if_neg (by exact fun hq => Nat.lt_irrefl 0 (J10 (nat_lit 0x10a020201a012221a0201) rfl a2 hq))]
     rw [es] at g2
     refine .inr ⟨a2, a3, a4, a5, a6, g2, fun j hj => ?_⟩
     rw [← e _ (by exact J40 (nat_lit 0x11a214110101a214310111a3111) rfl g2 hj), ← e _ (by exact J50 (nat_lit 0x11a110101a114312111a314101a4412101) rfl g2 hj (Nat.sub_le _ _))]; exact a8 j hj
  ·exact ⟨[], by show p = z; exact Nat.le_antisymm (J20 (nat_lit 0x1a110101a1101) rfl hp) (J20 (nat_lit 0x1a110101a1101) rfl g), Nat.zero_le _⟩
theorem ceil_step {r m : Nat} (hm : 1 ≤ m) (h : m ≤ r) : (r - m + m - 1) / m + 1 = (r + m - 1) / m := by
 have : r + m - 1 = (r - m + m - 1) + m := by exact Nat.le_antisymm (J50 (nat_lit 0x1a421110121a421314120131a421414121131a3142141) rfl (Nat.sub_add_cancel (J20 (nat_lit 0x1a411011202a111201a0111) rfl hm h)) (Nat.sub_add_cancel (J20 (nat_lit 0x1a411011201a1112) rfl hm)) (Nat.sub_add_cancel (J20 (nat_lit 0x1a110101a1101) rfl h))) (J50 (nat_lit 0x1a214110131a411314122121a411414120121a3141141) rfl (Nat.sub_add_cancel (J20 (nat_lit 0x1a411011202a111201a0111) rfl hm h)) (Nat.sub_add_cancel (J20 (nat_lit 0x1a411011201a1112) rfl hm)) (Nat.sub_add_cancel (J20 (nat_lit 0x1a110101a1101) rfl h)))
 rw [this, Nat.add_div_right _ hm]
theorem chunk {o : Nat → Nat} {n w most z : Nat} (hm : 2 ≤ most) (hz : 1 ≤ z) (hw : z ≤ w) (per : ∀ i, z ≤ i → i < n → o i = o (i - z)) : ∀ (rest p : Nat), z ≤ p → p + rest = n → ∃ steps, Par o n w most p steps n ∧ steps.length ≤ (rest + most - 1) / most := by
 intro rest
 induction rest using Nat.strongRecOn with
 | ind rest ih =>
  intro p hp hn
  by_cases h0 : rest = 0
  ·subst h0; exact ⟨[], hn, Nat.zero_le _⟩
  ·by_cases h1 : rest = 1
   ·subst h1
    refine ⟨[(0, o p)], ⟨.inl ⟨rfl, by exact J20 (nat_lit 0x11a110121a1141201) rfl hn, rfl⟩, hn⟩, ?_⟩
    show 1 ≤ (1 + most - 1) / most
    rw [Nat.le_div_iff_mul_le (by exact J10 (nat_lit 0x11a010201a0122) rfl hm)]; exact J20 (nat_lit 0x1a11160101a4121140112) rfl (sbA _ _)
   ·have ok : ∀ l, 2 ≤ l → l ≤ most → l ≤ rest → StepOk o n w most p (l, z) := fun l h2 h3 h4 =>
     .inr ⟨h2, h3, hz, hw, hp, by show p + l ≤ n; exact J40 (nat_lit 0x1a214110121a214310101a3111) rfl hn h4, fun j hj => per _ (by exact J30 (nat_lit 0x1a421110101a1101) rfl hp) (by have hj : j < l := hj; exact J50 (nat_lit 0x11a214110121a214310101a314111a4111) rfl hn h4 ‹_›)⟩
    rcases Nat.lt_or_ge rest most with g | g
    ·refine ⟨[(rest, z)], ⟨ok rest (by exact J10 (nat_lit 0x1a012211a0112) rfl (Nat.lt_of_le_of_ne (J10 (nat_lit 0x1a011211a0102) rfl (Nat.lt_of_le_of_ne (J10 (nat_lit 0x1a0102) rfl) (Ne.symm h0))) (Ne.symm h1))) (by exact J20 (nat_lit 0x1a110111a1101) rfl g) (Nat.le_refl _), ?_⟩, ?_⟩
     ·show p + sz (rest, z) = n
      unfold sz; rw [if_neg h0]; exact hn
     ·show 1 ≤ (rest + most - 1) / most
      rw [Nat.le_div_iff_mul_le (by exact J10 (nat_lit 0x11a010201a0122) rfl hm)]; exact J30 (nat_lit 0x1a11160111a210231a4012141211) rfl (Nat.lt_of_le_of_ne (J10 (nat_lit 0x1a0102) rfl) (Ne.symm h0)) (Nat.sub_add_cancel (J30 (nat_lit 0x1a411011221a4110141221) rfl (Nat.sub_add_cancel (J20 (nat_lit 0x1a411011211a1101) rfl g))))
    ·obtain ⟨st, h3, h4⟩ := ih (rest - most) (by exact J30 (nat_lit 0x11a110101a212221a1142101) rfl hm (Nat.sub_add_cancel (J20 (nat_lit 0x1a110101a1101) rfl g))) (p + most) (by exact J30 (nat_lit 0x1a421110101a212201a1101) rfl hm hp) (by exact Nat.le_antisymm (J50 (nat_lit 0x1a314214110121a314410121a4141121) rfl hn (Nat.sub_add_cancel (J20 (nat_lit 0x1a110101a1101) rfl g))) (J50 (nat_lit 0x1a431421110131a014411101a4213141) rfl hn (sbA _ _)))
     refine ⟨(most, z) :: st, ⟨ok most hm (Nat.le_refl _) g, ?_⟩, ?_⟩
     ·have : sz (most, z) = most := by unfold sz; rw [if_neg (by show ¬ (most = 0); exact fun hq => Nat.lt_irrefl 0 (J10 (nat_lit 0x10a020201a012221a0201) rfl hm hq))]
      rw [this]; exact h3
     ·rw [List.length_cons, ← ceil_step (by exact J10 (nat_lit 0x1a011201a0122) rfl hm) g]; exact J20 (nat_lit 0x1a412114120101a1101) rfl h4
theorem again_len {o1 o2 : Nat → Nat} {z n w most t : Nat} (hm : 2 ≤ most) (hz : 1 ≤ z) (hw : z ≤ w) (hn : n = z * t) (ht : 1 ≤ t) (e : ∀ i, i < z → o2 i = o1 i) (per : ∀ i, z ≤ i → i < n → o2 i = o2 (i - z)) :
 (gr o1 z w most z 0).length ≤ (gr o2 n w most n 0).length ∧ (gr o2 n w most n 0).length ≤ (gr o1 z w most z 0).length + (z * (t - 1) + most - 1) / most := by
 have hzn : z ≤ n := by rw [hn]; exact Nat.le_mul_of_pos_right _ ht
 have P1 : Par o1 z w most 0 (gr o1 z w most z 0) z := gr_par (by exact J10 (nat_lit 0x1a4010201) rfl) (Nat.zero_le _)
 have P2 : Par o2 n w most 0 (gr o2 n w most n 0) n := gr_par (by exact J10 (nat_lit 0x1a4010201) rfl) (Nat.zero_le _)
 refine ⟨?_, ?_⟩
 ·obtain ⟨st, h1, h2⟩ := trunc hzn e P2 (Nat.zero_le _)
  exact Nat.le_trans (gr_least h1 (Nat.le_refl _)) h2
 ·obtain ⟨st, h1, h2⟩ := chunk hm hz hw per (n - z) z (Nat.le_refl _) (by exact Nat.le_antisymm (J30 (nat_lit 0x1a214110121a2140111) rfl (Nat.sub_add_cancel (J20 (nat_lit 0x1a110101a1101) rfl hzn))) (J30 (nat_lit 0x1a421110101a4112101) rfl (sbA _ _)))
  have : n - z = z * (t - 1) := by rw [hn, Nat.mul_sub, Nat.mul_one]
  rw [this] at h2
  have lift : ∀ {steps : List (Nat × Nat)} {p : Nat}, Par o1 z w most p steps z → Par o2 n w most p steps z := by
   intro steps
   induction steps with
   | nil => intro p h; exact h
   | cons s r ih =>
    intro p ⟨hs, hr⟩
    refine ⟨?_, ih hr⟩
    rcases hs with ⟨h0, hpn, hb⟩ | ⟨a2, a3, a4, a5, a6, a7, a8⟩
    ·exact .inl ⟨h0, by exact J30 (nat_lit 0x11a110101a112111a2101) rfl hzn hpn, by rw [hb]; exact (e p hpn).symm⟩
    ·refine .inr ⟨a2, a3, a4, a5, a6, by exact J40 (nat_lit 0x1a214110101a213101a3141101) rfl hzn a7, fun j hj => ?_⟩
     rw [e _ (by exact J40 (nat_lit 0x11a214110101a214310111a3111) rfl a7 hj), e _ (by exact J50 (nat_lit 0x11a110101a114312111a314101a4412101) rfl a7 hj (Nat.sub_le _ _))]; exact a8 j hj
  have := gr_least (f := n) ((lift P1).app h1) (Nat.le_refl 0)
  rw [List.length_append] at this
  exact J40 (nat_lit 0x1a421110101a213101a4311101) rfl h2 this
noncomputable def oneF (oct most : Nat) : Nat → Nat → List (Nat × Nat)
 | 0, _ => []
 | f + 1, rest => if 1 < rest then (min most rest, 1) :: oneF oct most f (rest - min most rest) else List.replicate rest (0, oct)
theorem can_one {o : Nat → Nat} {oct n w most p : Nat} (ho : ∀ i, i < n → o i = oct) (hw : 1 ≤ w) (hm : 2 ≤ most) (hp : 1 ≤ p) (hpn : p < n) : can o n w most p 1 = if 1 < n - p then [(min most (n - p), 1)] else [] := by
 obtain ⟨k, rfl⟩ : ∃ k, p = k + 1 := ⟨p - 1, by exact Nat.le_antisymm (J20 (nat_lit 0x1a412110101a4121101) rfl (sbA _ _)) (J20 (nat_lit 0x1a114120121a1141201) rfl (Nat.sub_add_cancel (J10 (nat_lit 0x1a011201a0112) rfl hp)))⟩
 have ec : cnt o n most (k + 1) k = min most (n - (k + 1)) := lcp_uniq (Nat.le_refl _) (fun j hj => by rw [ho _ (by exact J50 (nat_lit 0x11a214114120111a311101a413121a2144120141) rfl hj (Nat.min_le_right _ _) (Nat.sub_add_cancel (J20 (nat_lit 0x1a114120111a1141201) rfl hpn))), ho _ (by exact J50 (nat_lit 0x11a214110111a311101a413121a2144120141) rfl hj (Nat.min_le_right _ _) (Nat.sub_add_cancel (J20 (nat_lit 0x1a114120111a1141201) rfl hpn)))]) fun h => absurd h (Nat.lt_irrefl _)
 have ed : (down (k + 1)).filter (far w (k + 1)) = k :: (down k).filter (far w (k + 1)) := by
  show List.filter _ (k :: down k) = _
  rw [List.filter_cons, if_pos (by unfold far; simp; exact J10 (nat_lit 0x1a011201a0112) rfl hw)]
 rw [can_eq, ed, wcW, ec, wjX fun x _ => Nat.le_trans cnt_le (Nat.le_max_right _ _), List.append_nil]
 by_cases h : 1 < n - (k + 1)
 ·rw [if_pos (by omega), if_pos h]
  show [(min most (n - (k + 1)), k + 1 - k)] = _
  congr 2; exact Nat.le_antisymm (J20 (nat_lit 0x1a120121a4121141101) rfl (Nat.sub_add_cancel (J10 (nat_lit 0x1a4120101) rfl))) (J20 (nat_lit 0x1a011201a4110141211) rfl (sbA _ _))
 ·rw [if_neg (by exact fun hq => Nat.lt_irrefl 0 (J20 (nat_lit 0x10a020251a011211a111201a0111) rfl h hq (Nat.min_le_right _ _))), if_neg h]; rfl
theorem gr_one {o : Nat → Nat} {oct n w most : Nat} (ho : ∀ i, i < n → o i = oct) (hw : 1 ≤ w) (hm : 2 ≤ most) : ∀ (f g p : Nat), 1 ≤ p → p ≤ n → n ≤ p + f → n ≤ p + g → gr o n w most f p = oneF oct most g (n - p)
 | 0, 0, p, h1, h2, h3, h4 => rfl
 | 0, g + 1, p, h1, h2, h3, h4 => by
  have : n - p = 0 := by exact Nat.le_antisymm (J30 (nat_lit 0x1a020101a402211121a1142101) rfl h3 (Nat.sub_add_cancel (J20 (nat_lit 0x1a110101a1101) rfl h2))) (J10 (nat_lit 0x1a0102) rfl)
  rw [this]; unfold oneF; rw [if_neg (by exact fun hq => Nat.lt_irrefl 0 (J00 (nat_lit 0x10a020211a0212) rfl hq))]; rfl
 | f + 1, 0, p, h1, h2, h3, h4 => by unfold gr; rw [if_neg (by exact fun hq => Nat.lt_irrefl 0 (J20 (nat_lit 0x10a020201a402110111a0111) rfl h4 hq))]; rfl
 | f + 1, g + 1, p, h1, h2, h3, h4 => by
  unfold gr oneF
  by_cases hp : p < n
  ·rw [if_pos hp]
   have hc := can_one (w := w) (most := most) ho hw hm h1 hp
   by_cases h : 1 < n - p
   ·rw [if_pos h] at hc
    have eb : wgW o n w most p = (min most (n - p), 1) := by unfold wgW; rw [hc]; rfl
    have eg : wfZ o n w most p = (min most (n - p), 1) := by unfold wfZ; rw [eb, if_neg (by simp)]
    have es : sz (min most (n - p), 1) = min most (n - p) := by unfold sz; rw [if_neg (by show ¬ (min most (n - p) = 0); omega)]
    rw [if_pos h, eg, es, gr_one ho hw hm f g _ (by exact J30 (nat_lit 0x1a411011201a011221a1121) rfl h1 es) (by exact J40 (nat_lit 0x1a214110101a311121a2140131) rfl (Nat.min_le_right _ _) (Nat.sub_add_cancel (J20 (nat_lit 0x1a110111a1101) rfl hp))) (by omega) (by omega)]
    congr 2; omega
   ·rw [if_neg h] at hc
    have eb : wgW o n w most p = (0, 0) := by unfold wgW; rw [hc]; rfl
    have eg : wfZ o n w most p = (0, oct) := by unfold wfZ; rw [eb, if_pos rfl, ho p hp]
    have e1 : n - p = 1 := by exact Nat.le_antisymm (J10 (nat_lit 0x1a120151a0112) rfl h) (J30 (nat_lit 0x1a011211a211101a4110121) rfl hp (sbA _ _))
    rw [if_neg h, eg, e1]
    show (0, oct) :: gr o n w most f (p + 1) = [(0, oct)]
    congr 1
    cases f with
    | zero => rfl
    | succ f => unfold gr; rw [if_neg (by exact fun hq => Nat.lt_irrefl 0 (J30 (nat_lit 0x10a020221a120111a214121101a4110121) rfl e1 hq (sbA _ _)))]
  ·have : n - p = 0 := by exact Nat.le_antisymm (J30 (nat_lit 0x1a020151a211121a2141101) rfl hp (Nat.sub_add_cancel (J20 (nat_lit 0x1a110101a1101) rfl h2))) (J10 (nat_lit 0x1a0102) rfl)
   rw [if_neg hp, this, if_neg (by exact fun hq => Nat.lt_irrefl 0 (J00 (nat_lit 0x10a020211a0212) rfl hq))]; rfl
theorem gr_oct {o : Nat → Nat} {oct n w most : Nat} (ho : ∀ i, i < n → o i = oct) (hn : 1 ≤ n) (hw : 1 ≤ w) (hm : 2 ≤ most) (g : Nat) (hg : n ≤ g + 1) : gr o n w most n 0 = (0, oct) :: oneF oct most g (n - 1) := by
 obtain ⟨k, rfl⟩ : ∃ k, n = k + 1 := ⟨n - 1, by exact Nat.le_antisymm (J20 (nat_lit 0x1a412110101a4121101) rfl (sbA _ _)) (J20 (nat_lit 0x1a114120121a1141201) rfl (Nat.sub_add_cancel (J10 (nat_lit 0x1a011201a0112) rfl hn)))⟩
 have hc : can o (k + 1) w most 0 1 = [] := rfl
 have eb : wgW o (k + 1) w most 0 = (0, 0) := by unfold wgW; rw [hc]; rfl
 have eg : wfZ o (k + 1) w most 0 = (0, oct) := by unfold wfZ; rw [eb, if_pos rfl, ho 0 (by exact J10 (nat_lit 0x11a412010201a4120112) rfl hn)]
 unfold gr
 rw [if_pos (by exact J10 (nat_lit 0x11a412010201a4120112) rfl hn), eg]
 congr 1
 exact gr_one ho hw hm k g 1 (Nat.le_refl _) (by exact J10 (nat_lit 0x1a412011201a4120112) rfl hn) (by exact J10 (nat_lit 0x1a4011241201) rfl) (by exact J20 (nat_lit 0x1a411124120101a4121141201) rfl hg)
set_option tactic.hygienic false
noncomputable abbrev KK (P : Params) : Frag := hd.heap_1 P
inductive V where
 | none
 | bool (b : Bool)
 | int (i : Int)
 | str (s : Str)
 | bytes (l : List UInt8)
 | ref (a : Addr)
 | pr (i j : Int)
 | rng (i j : Int)
inductive O where
 | list (vs : List V)
 | inst (C dx : Addr)
 | fields (N : List Str) (vals : List V)
 | idict (n : Nat) (d : Int → Option Int)
noncomputable abbrev AH := Addr → Option O
noncomputable def upd (H : AH) (a : Addr) (o : O) : AH := fun b => if b = a then some o else H b
@[simp] theorem uS (H : AH) (a : Addr) (o : O) : upd H a o a = some o := by simp [upd]
theorem zbX (H : AH) {a b : Addr} (o : O) (h : b ≠ a) : upd H a o b = H b := by simp [upd, h]
theorem wcU (H : AH) (a : Addr) (o o' : O) : upd (upd H a o) a o' = upd H a o' := by
 funext b; by_cases h : b = a <;> simp [upd, h]
noncomputable def tupObj (i j : Int) (t u : Tok) (ep : Nat) : Obj := { cls := .type "tuple", data := .seq #[.int i t, .int j u] ep }
noncomputable def rngObj (i j : Int) (t1 t2 t3 : Tok) : Obj := { cls := .type "range", data := .fields #[.int i t1, .int j t2, .int 1 t3] }
noncomputable def Rep (h : Heap) (v : Value) : V → Prop
 | .none => v = .none
 | .bool b => v = .bool b
 | .int i => ∃ t, v = .int i t
 | .str s => ∃ t, v = .str s t
 | .bytes l => ∃ t, v = .bytes l.toArray t
 | .ref a => v = .ref a
 | .pr i j => ∃ a t u ep, v = .ref a ∧ h.get? a = some (tupObj i j t u ep)
 | .rng i j => ∃ a t1 t2 t3, v = .ref a ∧ h.get? a = some (rngObj i j t1 t2 t3)
noncomputable def wjY (o : Obj) : Prop := (o.cls = .type "tuple" ∧ ∃ xs n, o.data = .seq xs n) ∨ (o.cls = .type "range" ∧ ∃ fs, o.data = .fields fs)
theorem Rep.mono {h h' : Heap} {v : Value} {X : V} (k : ∀ a o, h.get? a = some o → wjY o → h'.get? a = some o) (r : Rep h v X) : Rep h' v X := by
 cases X with
 | pr i j => obtain ⟨a, t, u, ep, e, g⟩ := r; exact ⟨a, t, u, ep, e, k _ _ g (.inl ⟨rfl, _, _, rfl⟩)⟩
 | rng i j => obtain ⟨a, t1, t2, t3, e, g⟩ := r; exact ⟨a, t1, t2, t3, e, k _ _ g (.inr ⟨rfl, _, rfl⟩)⟩
 | _ => exact r
noncomputable def RepL (h : Heap) : List Value → List V → Prop
 | [], [] => True
 | v :: vs, X :: Xs => Rep h v X ∧ RepL h vs Xs
 | _, _ => False
theorem RepL.ind {h : Heap} {p : List Value → List V → Prop} (n : p [] []) (c : ∀ v vs X Xs, Rep h v X → RepL h vs Xs → p vs Xs → p (v :: vs) (X :: Xs)) (vs : List Value) : ∀ {Xs : List V}, RepL h vs Xs → p vs Xs := by
 induction vs with
 | nil => intro Xs r; cases Xs with
  | nil => exact n
  | cons X Xs => exact r.elim
 | cons v vs ih => intro Xs r; cases Xs with
  | nil => exact r.elim
  | cons X Xs => exact c v vs X Xs r.1 r.2 (ih r.2)
theorem RepL.mono {h h' : Heap} (k : ∀ a o, h.get? a = some o → wjY o → h'.get? a = some o) {vs : List Value} {Xs : List V} (r : RepL h vs Xs) : RepL h' vs Xs :=
 RepL.ind (p := RepL h') trivial (fun _ _ _ _ a _ b => ⟨a.mono k, b⟩) vs r
theorem RepL.len {h : Heap} {vs : List Value} {Xs : List V} (r : RepL h vs Xs) : vs.length = Xs.length :=
 RepL.ind (p := fun vs Xs => vs.length = Xs.length) rfl (fun _ _ _ _ _ _ b => congrArg (· + 1) b) vs r
theorem RepL.get {h : Heap} {vs : List Value} {Xs : List V} {i : Nat} {X : V} (r : RepL h vs Xs) : Xs[i]? = some X → ∃ v, vs[i]? = some v ∧ Rep h v X :=
 RepL.ind (p := fun vs Xs => ∀ i : Nat, Xs[i]? = some X → ∃ v, vs[i]? = some v ∧ Rep h v X) (fun _ e => nomatch e)
  (fun v _ _ _ a _ b i e => by
   cases i with
   | zero => exact ⟨v, rfl, Option.some.inj e ▸ a⟩
   | succ i => exact b i e) vs r i
theorem RepL.set {h : Heap} {vs : List Value} {Xs : List V} {i : Nat} {v : Value} {X : V} (r : RepL h vs Xs) (q : Rep h v X) : RepL h (vs.set i v) (Xs.set i X) :=
 RepL.ind (p := fun vs Xs => ∀ i : Nat, RepL h (vs.set i v) (Xs.set i X)) (fun _ => trivial)
  (fun _ _ _ _ a b c i => by
   cases i with
   | zero => exact ⟨q, b⟩
   | succ i => exact ⟨a, c i⟩) vs r i
theorem RepL.app {h : Heap} {vs ws : List Value} {Xs Ys : List V} (r : RepL h vs Xs) (q : RepL h ws Ys) : RepL h (vs ++ ws) (Xs ++ Ys) :=
 RepL.ind (p := fun vs Xs => RepL h (vs ++ ws) (Xs ++ Ys)) q (fun _ _ _ _ a _ b => ⟨a, b⟩) vs r
theorem RepL.take {h : Heap} {vs : List Value} {Xs : List V} {n : Nat} (r : RepL h vs Xs) : RepL h (vs.take n) (Xs.take n) :=
 RepL.ind (p := fun vs Xs => ∀ n : Nat, RepL h (vs.take n) (Xs.take n)) (fun n => by cases n <;> trivial)
  (fun _ _ _ _ a _ c n => by
   cases n with
   | zero => trivial
   | succ n => exact ⟨a, c n⟩) vs r n
theorem RepL.drop {h : Heap} {vs : List Value} {Xs : List V} {n : Nat} (r : RepL h vs Xs) : RepL h (vs.drop n) (Xs.drop n) :=
 RepL.ind (p := fun vs Xs => ∀ n : Nat, RepL h (vs.drop n) (Xs.drop n)) (fun n => by cases n <;> trivial)
  (fun _ _ _ _ a b c n => by
   cases n with
   | zero => exact ⟨a, b⟩
   | succ n => exact c n) vs r n
theorem RepL.rev {h : Heap} {vs : List Value} {Xs : List V} (r : RepL h vs Xs) : RepL h vs.reverse Xs.reverse :=
 RepL.ind (p := fun vs Xs => RepL h vs.reverse Xs.reverse) trivial
  (fun _ _ _ _ a _ b => by rw [List.reverse_cons, List.reverse_cons]; exact b.app ⟨a, trivial⟩) vs r
section
variable {h : Heap}
theorem RepL.ex0 {vs : List Value} (r : RepL h vs []) : vs = [] := by
 cases vs with
 | nil => rfl
 | cons _ _ => exact r.elim
theorem RepL.exc {vs : List Value} {X : V} {Xs : List V} (r : RepL h vs (X :: Xs)) : ∃ v us, vs = v :: us ∧ RepL h us Xs := by
 cases vs with
 | nil => exact r.elim
 | cons v us => exact ⟨v, us, rfl, r.2⟩
theorem RepL.ex1 {vs : List Value} {X : V} (r : RepL h vs [X]) : ∃ v, vs = [v] := r.exc.elim fun v ⟨us, e, r⟩ => ⟨v, by rw [e, r.ex0]⟩
theorem RepL.ex2 {vs : List Value} {X Y : V} (r : RepL h vs [X, Y]) : ∃ v u, vs = [v, u] := r.exc.elim fun v ⟨us, e, r⟩ => r.ex1.elim fun u e' => ⟨v, u, by rw [e, e']⟩
theorem RepL.ex3 {vs : List Value} {X Y Z : V} (r : RepL h vs [X, Y, Z]) : ∃ v u t, vs = [v, u, t] := r.exc.elim fun v ⟨us, e, r⟩ => r.ex2.elim fun u ⟨t, e'⟩ => ⟨v, u, t, by rw [e, e']⟩
theorem RepL.ex4 {vs : List Value} {X Y Z W : V} (r : RepL h vs [X, Y, Z, W]) : ∃ v u t s, vs = [v, u, t, s] := r.exc.elim fun v ⟨us, e, r⟩ => r.ex3.elim fun u ⟨t, s, e'⟩ => ⟨v, u, t, s, by rw [e, e']⟩
theorem RepL.ex5 {vs : List Value} {X Y Z W U : V} (r : RepL h vs [X, Y, Z, W, U]) : ∃ v u t s q, vs = [v, u, t, s, q] := r.exc.elim fun v ⟨us, e, r⟩ => r.ex4.elim fun u ⟨t, s, q, e'⟩ => ⟨v, u, t, s, q, by rw [e, e']⟩
end
noncomputable def FR (h : Heap) : List DictEntry → List Str → List V → Prop
 | [], _, [] => True
 | e :: es, x :: N, X :: Xs => (∃ t, e.key = .str x t) ∧ Rep h e.val X ∧ FR h es N Xs
 | _, _, _ => False
theorem FR.ind {h : Heap} {p : List DictEntry → List Str → List V → Prop} (n : ∀ N, p [] N [])
 (c : ∀ e es y N Y Xs, (∃ t, e.key = .str y t) → Rep h e.val Y → FR h es N Xs → p es N Xs → p (e :: es) (y :: N) (Y :: Xs)) (es : List DictEntry) : ∀ {N : List Str} {Xs : List V}, FR h es N Xs → p es N Xs := by
 induction es with
 | nil => intro N Xs r; cases Xs with
  | nil => exact n N
  | cons X Xs => exact r.elim
 | cons e es ih => intro N Xs r; cases N with
  | nil => exact r.elim
  | cons y N => cases Xs with
   | nil => exact r.elim
   | cons X Xs => exact c e es y N X Xs r.1 r.2.1 r.2.2 (ih r.2.2)
theorem FR.mono {h h' : Heap} (k : ∀ a o, h.get? a = some o → wjY o → h'.get? a = some o) {es : List DictEntry} {N : List Str} {Xs : List V} (r : FR h es N Xs) : FR h' es N Xs :=
 FR.ind (p := FR h') (fun _ => trivial) (fun _ _ _ _ _ _ a b _ c => ⟨a, b.mono k, c⟩) es r
noncomputable def Conc (w : World) (h : Heap) (a : Addr) : O → Prop
 | .list vs => ∃ items n, IsL h a items n ∧ RepL h items.toList vs
 | .inst C dx => h.get? a = some (instObj C dx)
 | .fields N vals => ∃ es n, h.get? a = some (dictOf es n) ∧ FR h es N vals
 | .idict n d => (∃ f, h.MapOf (intKind PG w) a f ∧ ∀ k, match d k with | none => f k = none | some j => ∃ t, f k = some (.int j t)) ∧ h.DictLe a n
theorem Conc.mono {w : World} {h h' : Heap} {a : Addr} {o : O} (ka : ∀ ob, h.get? a = some ob → h'.get? a = some ob) (k : ∀ a o, h.get? a = some o → wjY o → h'.get? a = some o)
 (c : Conc w h a o) : Conc w h' a o := by
 cases o with
 | list vs => obtain ⟨items, n, e, r⟩ := c; exact ⟨items, n, ka _ e, r.mono k⟩
 | inst C dx => exact ka _ c
 | fields N vals => obtain ⟨es, n, e, r⟩ := c; exact ⟨es, n, ka _ e, r.mono k⟩
 | idict n d =>
  obtain ⟨⟨f, ⟨ob, es, ep, ho, r⟩, hf⟩, hl⟩ := c
  exact ⟨⟨f, ⟨ob, es, ep, ka _ ho, r⟩, hf⟩, hl.of_same ho (ka _ ho)⟩
theorem Conc.there {w : World} {h : Heap} {a : Addr} {o : O} (c : Conc w h a o) : ∃ ob, h.get? a = some ob ∧ ¬ wjY ob ∧ (∀ v, ob.data ≠ .cell v) := by
 cases o with
 | list vs => obtain ⟨items, n, e, r⟩ := c; exact ⟨_, e, by rintro (⟨q, _⟩ | ⟨q, _⟩) <;> simp at q, fun v q => by cases q⟩
 | inst C dx => exact ⟨_, c, by rintro (⟨q, _⟩ | ⟨q, _⟩) <;> simp at q, fun v q => by cases q⟩
 | fields N vals => obtain ⟨es, n, e, r⟩ := c; exact ⟨_, e, by rintro (⟨q, _⟩ | ⟨q, _⟩) <;> simp at q, fun v q => by cases q⟩
 | idict n d =>
  obtain ⟨⟨f, ⟨ob, es, ep, ho, hx, hd, r⟩, hf⟩, hl⟩ := c
  exact ⟨ob, ho, by rintro (⟨q, _⟩ | ⟨q, _⟩) <;> rw [hx.1] at q <;> simp at q, fun v q => by rw [hd] at q; cases q⟩
structure Gd where
 w : World
 h₀ : Heap
 os₀ : OsState
 KI : (KK w.params).In h₀
 mg : Str → Option Value
 mb : Str → Option Value
 g : h₀.Ns mainGlobals mg
 b : h₀.Ns builtinsNs mb
 lim : h₀.NoLimit
 bi : ∀ x : Str, x ≠ "__name__" → mb x = bootBuiltins x
 sc : Addr
 ns : List Int
 scItems : List Value
 scL : h₀.IsList sc scItems.toArray
 scI : IntsAre scItems ns
structure Inv (G : Gd) (H : AH) (s : Shared) : Prop where
 gens : s.gens = #[]
 os : s.os = G.os₀
 base : ∀ a o, G.h₀.get? a = some o → s.heap.get? a = some o
 free : ∀ a o, G.h₀.get? a = some o → H a = none
 own : ∀ a o, H a = some o → Conc G.w s.heap a o
 hi : ∀ a o, H a = some o → 1 < a
noncomputable def FrM (own : Addr → Prop) (H : AH) (h : Heap) (H' : AH) (h' : Heap) : Prop :=
 ∀ a o, h.get? a = some o → H a = none → ¬ own a → h'.get? a = some o ∧ H' a = none
noncomputable abbrev no : Addr → Prop := fun _ => False
theorem FrM.refl {own : Addr → Prop} {H : AH} {h : Heap} : FrM own H h H h := fun _ _ e n _ => ⟨e, n⟩
theorem FrM.trans {own : Addr → Prop} {H H1 H2 : AH} {h h1 h2 : Heap} (a : FrM own H h H1 h1) (b : FrM own H1 h1 H2 h2) : FrM own H h H2 h2 :=
 fun x o e n m => let ⟨e1, n1⟩ := a x o e n m; b x o e1 n1 m
theorem FrM.wide {own : Addr → Prop} {H H' : AH} {h h' : Heap} (a : FrM no H h H' h') : FrM own H h H' h' := fun x o e n _ => a x o e n id
theorem Inv.imm {G : Gd} {H : AH} {s : Shared} (I : Inv G H s) {a : Addr} {o : Obj} (e : s.heap.get? a = some o) (i : wjY o) : H a = none := by
 cases q : H a with
 | none => rfl
 | some ob => obtain ⟨o', e', ni, _⟩ := (I.own a ob q).there; rw [e] at e'; cases e'; exact (ni i).elim
theorem FrM.imm {G : Gd} {H H' : AH} {s : Shared} {h' : Heap} (I : Inv G H s) (f : FrM no H s.heap H' h') : ∀ a o, s.heap.get? a = some o → wjY o → h'.get? a = some o :=
 fun a o e i => (f a o e (I.imm e i) id).1
theorem Inv.size {G : Gd} {H : AH} {s : Shared} (I : Inv G H s) {a : Addr} (h : s.heap.objs.size ≤ a) : H a = none := by
 cases q : H a with
 | none => rfl
 | some ob => obtain ⟨o', e', _⟩ := (I.own a ob q).there; exact absurd (Heap.lt_size e') (Nat.not_lt.mpr h)
theorem Inv.grow {G : Gd} {H : AH} {s : Shared} {h' : Heap} {tk : Nat} (I : Inv G H s) (k : ∀ a o, s.heap.get? a = some o → h'.get? a = some o) : Inv G H { s with heap := h', toks := tk } :=
 ⟨I.gens, I.os, fun a o e => k a o (I.base a o e), I.free, fun a o e => (I.own a o e).mono (fun ob x => k a ob x) fun b ob x _ => k b ob x, I.hi⟩
theorem FrM.grow {own : Addr → Prop} {H : AH} {h h' : Heap} (k : ∀ a o, h.get? a = some o → h'.get? a = some o) : FrM own H h H h' := fun a o e n _ => ⟨k a o e, n⟩
theorem Inv.toks {G : Gd} {H : AH} {s : Shared} {tk : Nat} (I : Inv G H s) : Inv G H { s with toks := tk } := I.grow (h' := s.heap) fun _ _ e => e
theorem zbQ (h : Heap) (o : Obj) : ∀ a ob, h.get? a = some ob → (h.push o).get? a = some ob := fun _ _ e => Heap.get?_push_of_some o e
theorem Inv.alloc {G : Gd} {H : AH} {s : Shared} {h' : Heap} {tk : Nat} {a : Addr} {ob : O} (I : Inv G H s) (k : ∀ a o, s.heap.get? a = some o → h'.get? a = some o)
 (hn : s.heap.objs.size ≤ a) (c : Conc G.w h' a ob) : Inv G (upd H a ob) { s with heap := h', toks := tk } := by
 refine ⟨I.gens, I.os, fun a o e => k a o (I.base a o e), fun b o e => ?_, fun b o e => ?_, fun b o e => ?_⟩
 ·have : b ≠ a := fun q => by subst q; exact absurd (Heap.lt_size (I.base _ _ e)) (Nat.not_lt.mpr hn)
  rw [zbX _ _ this]; exact I.free b o e
 ·by_cases q : b = a
  ·subst q; rw [uS] at e; cases e; exact c
  ·rw [zbX _ _ q] at e; exact (I.own b o e).mono (fun ob x => k b ob x) fun d ob x _ => k d ob x
 ·by_cases q : b = a
  ·subst q
   obtain ⟨mc, ⟨o, es, ep, ho, _⟩, _⟩ := G.lim
   have h2 : 2 < s.heap.objs.size := Heap.lt_size (a := 2) (I.base _ _ ho)
   exact Nat.lt_of_lt_of_le (Nat.lt_of_succ_lt h2) hn
  ·rw [zbX _ _ q] at e; exact I.hi b o e
theorem FrM.alloc {own : Addr → Prop} {H : AH} {h h' : Heap} {a : Addr} {ob : O} (k : ∀ a o, h.get? a = some o → h'.get? a = some o) (hn : h.objs.size ≤ a) : FrM own H h (upd H a ob) h' :=
 fun b o e n _ => ⟨k b o e, by rw [zbX]; exact n; rintro rfl; exact absurd (Heap.lt_size e) (Nat.not_lt.mpr hn)⟩
theorem Inv.store {G : Gd} {H : AH} {s : Shared} {h' : Heap} {tk : Nat} {a : Addr} {o₀ ob : O} (I : Inv G H s) (e₀ : H a = some o₀) (k : ∀ b, b ≠ a → h'.get? b = s.heap.get? b)
 (c : Conc G.w h' a ob) : Inv G (upd H a ob) { s with heap := h', toks := tk } := by
 have na : ∀ b o, G.h₀.get? b = some o → b ≠ a := fun b o e q => by subst q; rw [I.free b o e] at e₀; cases e₀
 have ki : ∀ b o, s.heap.get? b = some o → wjY o → h'.get? b = some o := fun b o e i => by
  rw [k b]; exact e
  rintro rfl; rw [I.imm e i] at e₀; cases e₀
 refine ⟨I.gens, I.os, fun b o e => (k b (na b o e)).trans (I.base b o e), fun b o e => ?_, fun b o e => ?_, fun b o e => ?_⟩
 ·rw [zbX _ _ (na b o e)]; exact I.free b o e
 ·by_cases q : b = a
  ·subst q; rw [uS] at e; cases e; exact c
  ·rw [zbX _ _ q] at e; exact (I.own b o e).mono (fun ob x => (k b q).trans x) ki
 ·by_cases q : b = a
  ·subst q; exact I.hi b _ e₀
  ·rw [zbX _ _ q] at e; exact I.hi b o e
theorem FrM.store {own : Addr → Prop} {H : AH} {h h' : Heap} {a : Addr} {o₀ ob : O} (e₀ : H a = some o₀) (k : ∀ b, b ≠ a → h'.get? b = h.get? b) : FrM own H h (upd H a ob) h' :=
 fun b o e n _ => by
  have q : b ≠ a := fun q => by subst q; rw [n] at e₀; cases e₀
  exact ⟨(k b q).trans e, by rw [zbX _ _ q]; exact n⟩
theorem Inv.other {G : Gd} {H : AH} {s : Shared} {h' : Heap} {tk : Nat} {a : Addr} (I : Inv G H s) (e₀ : H a = none) (hb : G.h₀.get? a = none) (hi : ∀ o, s.heap.get? a = some o → ¬ wjY o)
 (k : ∀ b, b ≠ a → h'.get? b = s.heap.get? b) : Inv G H { s with heap := h', toks := tk } := by
 have ki : ∀ b o, s.heap.get? b = some o → wjY o → h'.get? b = some o := fun b o e i => by
  rw [k b]; exact e
  rintro rfl; exact hi _ e i
 refine ⟨I.gens, I.os, fun b o e => ?_, I.free, fun b o e => ?_, I.hi⟩
 ·have q : b ≠ a := fun q => by subst q; rw [e] at hb; cases hb
  exact (k b q).trans (I.base b o e)
 ·have q : b ≠ a := fun q => by subst q; rw [e] at e₀; cases e₀
  exact (I.own b o e).mono (fun ob x => (k b q).trans x) ki
theorem FrM.other {own : Addr → Prop} {H : AH} {h h' : Heap} {a : Addr} (ho : own a) (k : ∀ b, b ≠ a → h'.get? b = h.get? b) : FrM own H h H h' :=
 fun b o e n m => ⟨(k b (fun q => by subst q; exact m ho)).trans e, n⟩
structure AOk (k : Nat) (A : Around) : Prop where
 handled : A.handled = none
 depth : A.depth + 3 * k ≤ 900
 units : A.units + 10 * k ≤ 9000
theorem AOk.le {k k' : Nat} {A : Around} (x : AOk k A) (h : k' ≤ k) : AOk k' A := ⟨x.1, by have := x.2; omega, by have := x.3; omega⟩
inductive VP (G : Gd) (H : AH) (h : Heap) (Q : V → AH → Prop) (v : Value) (s' : Shared) : Prop
 | mk (X : V) (H' : AH) (rv : Rep s'.heap v X) (I : Inv G H' s') (f : FrM no H h H' s'.heap) (q : Q X H')
inductive LP (G : Gd) (H : AH) (h : Heap) (Q : List V → AH → Prop) (vs : List Value) (s' : Shared) : Prop
 | mk (Xs : List V) (H' : AH) (rv : RepL s'.heap vs Xs) (I : Inv G H' s') (f : FrM no H h H' s'.heap) (q : Q Xs H')
inductive BP (G : Gd) (H : AH) (h : Heap) (Q : Bool → AH → Prop) (b : Bool) (s' : Shared) : Prop
 | mk (H' : AH) (I : Inv G H' s') (f : FrM no H h H' s'.heap) (q : Q b H')
inductive RP (G : Gd) (H : AH) (h : Heap) (Q : V → AH → Prop) (r : Result) (s' : Shared) : Prop
 | mk (v : Value) (X : V) (H' : AH) (e : r = .ok (.ret v)) (rv : Rep s'.heap v X) (I : Inv G H' s') (f : FrM no H h H' s'.heap) (q : Q X H')
noncomputable def TV (G : Gd) (A : Around) (H : AH) (s : Shared) (t : Sem Value) (Q : V → AH → Prop) : Prop :=
 wpAny (model PG G.w) A t (VP G H s.heap Q) (fun _ _ => False) s
noncomputable def wgV (G : Gd) (k : Nat) (f : Value) (args : List V) (H : AH) (Q : V → AH → Prop) : Prop :=
 ∀ A s vs, AOk k A → Inv G H s → RepL s.heap vs args → TV G A H s (call f vs []) Q
noncomputable def VR (G : Gd) (H : AH) (s : Shared) (Q : V → AH → Prop) : Result → Shared → Prop := RP G H s.heap Q
noncomputable def waX (G : Gd) (k : Nat) (f : Value) (args : List V) (H : AH) (Q : V → AH → Prop) : Prop :=
 ∀ A s vs, AOk k A → Inv G H s → RepL s.heap vs args → codeAny (model PG G.w) A (.call f ⟨vs, []⟩) (VR G H s Q) s
theorem waX.call {G : Gd} {k : Nat} {f : Value} {args : List V} {H : AH} {Q : V → AH → Prop} (x : waX G k f args H Q) : wgV G k f args H Q :=
 fun A s vs a i r => wpAny_call (codeAny_mono (x A s vs a i r) fun res s' h => by
  obtain ⟨v, X, H', rfl, a, b, f, q⟩ := h
  exact ⟨X, H', a, b, f, q⟩)
theorem waX.mono {G : Gd} {k : Nat} {f : Value} {args : List V} {H : AH} {Q Q' : V → AH → Prop} (x : waX G k f args H Q) (h : ∀ X H', Q X H' → Q' X H') : waX G k f args H Q' :=
 fun A s vs a i r => codeAny_mono (x A s vs a i r) fun _ _ ⟨v, X, H', e, a, b, c, d⟩ => ⟨v, X, H', e, a, b, c, h X H' d⟩
theorem waX.le {G : Gd} {k k' : Nat} {f : Value} {args : List V} {H : AH} {Q : V → AH → Prop} (x : waX G k f args H Q) (h : k ≤ k') : waX G k' f args H Q :=
 fun A s vs a i r => x A s vs (a.le h) i r
theorem TV.mono {G : Gd} {A : Around} {H : AH} {s : Shared} {t : Sem Value} {Q Q' : V → AH → Prop} (x : TV G A H s t Q) (h : ∀ X H', Q X H' → Q' X H') : TV G A H s t Q' :=
 wpAny_mono x (fun _ _ ⟨X, H', a, b, c, d⟩ => ⟨X, H', a, b, c, h X H' d⟩) fun _ _ e => e
structure EnvS (env : Env) (names gl cv : List Str) : Prop where
 kind : env.scope.kind = .function
 globals : env.globals = mainGlobals
 builtins : env.builtins = builtinsNs
 nodup : names.Nodup
 var : ∀ x ∈ names, env.kindOf x = some .local ∨ (env.kindOf x = some .cell ∧ ∃ c, env.cells.lookup x = some c)
 apart : ∀ x y c, env.cells.lookup x = some c → env.cells.lookup y = some c → x = y
 glob : ∀ x ∈ gl, env.kindOf x = some .globalImplicit
 cellv : ∀ x ∈ cv, env.kindOf x = some .cell
structure Cx where
 G : Gd
 A : Around
 env : Env
 names : List Str
 gl : List Str
 cv : List Str
 k : Nat
 aok : AOk k A
 es : EnvS env names gl cv
noncomputable abbrev Loc := List (Option V)
noncomputable def VarAt (env : Env) (m : Str → Option Value) (h : Heap) (x : Str) (v : Value) : Prop :=
 (env.kindOf x = some .local ∧ m x = some v) ∨ (env.kindOf x = some .cell ∧ ∃ c, env.cells.lookup x = some c ∧ h.IsCell c (some v))
structure ER (c : Cx) (r : Loc) (H : AH) (h : Heap) (m : Str → Option Value) : Prop where
 ns : h.Ns c.env.locals m
 lo : H c.env.locals = none
 lb : c.G.h₀.get? c.env.locals = none
 cl : ∀ x a, c.env.cells.lookup x = some a → H a = none ∧ c.G.h₀.get? a = none ∧ a ≠ c.env.locals ∧ ∃ v, h.IsCell a v
 vars : ∀ (i : Nat) x X, c.names[i]? = some x → (r : List (Option V))[i]? = some (some X) → ∃ v, Rep h v X ∧ VarAt c.env m h x v
noncomputable def ownE (env : Env) (a : Addr) : Prop := a = env.locals ∨ ∃ x, env.cells.lookup x = some a
theorem ER.mono {c : Cx} {r : Loc} {H H' : AH} {s : Shared} {h' : Heap} {m : Str → Option Value} (I : Inv c.G H s) (E : ER c r H s.heap m) (f : FrM no H s.heap H' h') : ER c r H' h' m := by
 obtain ⟨o, es, ep, ho, q⟩ := E.ns
 refine ⟨⟨o, es, ep, (f _ _ ho E.lo id).1, q⟩, (f _ _ ho E.lo id).2, E.lb, fun x a e => ?_, fun i x X e1 e2 => ?_⟩
 ·obtain ⟨c1, c2, c3, v, oc, hoc, hd⟩ := E.cl x a e
  exact ⟨(f _ _ hoc c1 id).2, c2, c3, v, oc, (f _ _ hoc c1 id).1, hd⟩
 ·obtain ⟨v, hv, ha⟩ := E.vars i x X e1 e2
  refine ⟨v, hv.mono (f.imm I), ?_⟩
  rcases ha with ha | ⟨hk, a, hl, oc, hoc, hd⟩
  ·exact .inl ha
  ·exact .inr ⟨hk, a, hl, oc, (f _ _ hoc (E.cl x a hl).1 id).1, hd⟩
noncomputable def WE (c : Cx) (r : Loc) (H : AH) (e : Expr) (Q : V → AH → Prop) : Prop :=
 ∀ s m, Inv c.G H s → ER c r H s.heap m → TV c.G c.A H s (eval e c.env) Q
inductive Fl where
 | next | brk | cont
 | ret (X : V)
noncomputable def FlRep (h : Heap) : Flow → Fl → Prop
 | .next, .next => True
 | .brk, .brk => True
 | .cont, .cont => True
 | .ret v, .ret X => Rep h v X
 | _, _ => False
inductive FP (c : Cx) (H : AH) (h : Heap) (Q : Fl → Loc → AH → Prop) (fl : Flow) (s' : Shared) : Prop
 | mk (X : Fl) (r' : Loc) (H' : AH) (m' : Str → Option Value) (a : FlRep s'.heap fl X) (I : Inv c.G H' s') (E : ER c r' H' s'.heap m') (f : FrM (ownE c.env) H h H' s'.heap) (q : Q X r' H')
noncomputable def TS (c : Cx) (H : AH) (s : Shared) (t : Sem Flow) (Q : Fl → Loc → AH → Prop) : Prop :=
 wpAny (model PG c.G.w) c.A t (FP c H s.heap Q) (fun _ _ => False) s
noncomputable def WSs (c : Cx) (r : Loc) (H : AH) (st : List Stmt) (Q : Fl → Loc → AH → Prop) : Prop :=
 ∀ s m, Inv c.G H s → ER c r H s.heap m → TS c H s (execs st c.env) Q
noncomputable def WS (c : Cx) (r : Loc) (H : AH) (st : Stmt) (Q : Fl → Loc → AH → Prop) : Prop :=
 ∀ s m, Inv c.G H s → ER c r H s.heap m → TS c H s (exec st c.env) Q
theorem TS.mono {c : Cx} {H : AH} {s : Shared} {t : Sem Flow} {Q Q' : Fl → Loc → AH → Prop} (x : TS c H s t Q) (h : ∀ X r H', Q X r H' → Q' X r H') : TS c H s t Q' :=
 wpAny_mono x (fun _ _ ⟨X, r, H', m, a, b, c, d, e⟩ => ⟨X, r, H', m, a, b, c, d, h X r H' e⟩) fun _ _ e => e
noncomputable def WL (c : Cx) (r : Loc) (H : AH) (es : List Expr) (Q : List V → AH → Prop) : Prop :=
 ∀ s m p, Inv c.G H s → ER c r H s.heap m →
  wpAny (model PG c.G.w) c.A (spliced (backTo p (starEach es c.env))) (LP c.G H s.heap Q) (fun _ _ => False) s
noncomputable def TB (G : Gd) (A : Around) (H : AH) (s : Shared) (t : Sem Bool) (Q : Bool → AH → Prop) : Prop :=
 wpAny (model PG G.w) A t (BP G H s.heap Q) (fun _ _ => False) s
noncomputable def WT (c : Cx) (r : Loc) (H : AH) (e : Expr) (Q : Bool → AH → Prop) : Prop :=
 ∀ s m, Inv c.G H s → ER c r H s.heap m → TB c.G c.A H s (isTrue e c.env (eval e c.env)) Q
section
variable {c : Cx} {r : Loc} {H : AH} {s : Shared} {m : Str → Option Value} {Er : Value → Shared → Prop}
theorem WE.thn {e : Expr} {Q : V → AH → Prop} {R : Value → Shared → Prop} (w : WE c r H e Q) (I : Inv c.G H s) (E : ER c r H s.heap m)
 (k : ∀ v s2 X H2, Rep s2.heap v X → Inv c.G H2 s2 → FrM no H s.heap H2 s2.heap → ER c r H2 s2.heap m → Q X H2 → R v s2) : wpAny (model PG c.G.w) c.A (eval e c.env) R Er s :=
 wpAny_mono (w s m I E) (fun v s2 ⟨X, H2, a, b, f, q⟩ => k v s2 X H2 a b f (E.mono I f) q) fun _ _ e => e.elim
theorem WT.thn {e : Expr} {Q : Bool → AH → Prop} {R : Bool → Shared → Prop} (w : WT c r H e Q) (I : Inv c.G H s) (E : ER c r H s.heap m)
 (k : ∀ z s2 H2, Inv c.G H2 s2 → FrM no H s.heap H2 s2.heap → ER c r H2 s2.heap m → Q z H2 → R z s2) : wpAny (model PG c.G.w) c.A (isTrue e c.env (eval e c.env)) R Er s :=
 wpAny_mono (w s m I E) (fun z s2 ⟨H2, b, f, q⟩ => k z s2 H2 b f (E.mono I f) q) fun _ _ e => e.elim
theorem WL.thn {es : List Expr} {p : Pos} {Q : List V → AH → Prop} {R : List Value → Shared → Prop} (w : WL c r H es Q) (I : Inv c.G H s) (E : ER c r H s.heap m)
 (k : ∀ vs s2 Xs H2, RepL s2.heap vs Xs → Inv c.G H2 s2 → FrM no H s.heap H2 s2.heap → ER c r H2 s2.heap m → Q Xs H2 → R vs s2) : wpAny (model PG c.G.w) c.A (spliced (backTo p (starEach es c.env))) R Er s :=
 wpAny_mono (w s m p I E) (fun v s2 ⟨X, H2, a, b, f, q⟩ => k v s2 X H2 a b f (E.mono I f) q) fun _ _ e => e.elim
theorem WSs.thn {st : List Stmt} {Q : Fl → Loc → AH → Prop} {R : Flow → Shared → Prop} (w : WSs c r H st Q) (I : Inv c.G H s) (E : ER c r H s.heap m)
 (k : ∀ fl s2 X r2 H2 m2, FlRep s2.heap fl X → Inv c.G H2 s2 → ER c r2 H2 s2.heap m2 → FrM (ownE c.env) H s.heap H2 s2.heap → Q X r2 H2 → R fl s2) : wpAny (model PG c.G.w) c.A (execs st c.env) R Er s :=
 wpAny_mono (w s m I E) (fun v s2 ⟨X, r2, H2, m2, a, b, e, f, q⟩ => k v s2 X r2 H2 m2 a b e f q) fun _ _ e => e.elim
end
theorem Inv.past {G : Gd} {H : AH} {s : Shared} {h' : Heap} {tk : Nat} {ia : Addr} {oi : Obj} (I : Inv G H s) (hn : H ia = none) (hb : G.h₀.get? ia = none) (hoi : s.heap.get? ia = some oi) (im : ¬ wjY oi)
 (k : ∀ b o, b ≠ ia → s.heap.get? b = some o → h'.get? b = some o) : Inv G H { s with heap := h', toks := tk } :=
 ⟨I.gens, I.os, fun a o e => k a o (fun q => by subst q; rw [hb] at e; cases e) (I.base a o e), I.free,
  fun a o e => (I.own a o e).mono (fun ob x => k a ob (fun q => by subst q; rw [hn] at e; cases e) x) fun b ob x i => k b ob (fun q => by subst q; rw [hoi] at x; cases x; exact im i) x, I.hi⟩
theorem ER.past {c : Cx} {r : Loc} {H : AH} {h h' : Heap} {m : Str → Option Value} {ia : Addr} {oi : Obj} (E : ER c r H h m) (hno : ¬ ownE c.env ia) (hoi : h.get? ia = some oi) (im : ¬ wjY oi)
 (k : ∀ b o, b ≠ ia → h.get? b = some o → h'.get? b = some o) : ER c r H h' m := by
 obtain ⟨o, es, ep, ho, q⟩ := E.ns
 refine ⟨⟨o, es, ep, k _ _ (fun q => hno (.inl q.symm)) ho, q⟩, E.lo, E.lb, fun x a e => ?_, fun i x X e1 e2 => ?_⟩
 ·obtain ⟨c1, c2, c3, v, oc, hoc, hd⟩ := E.cl x a e
  exact ⟨c1, c2, c3, v, oc, k a _ (fun q => by subst q; exact hno (.inr ⟨x, e⟩)) hoc, hd⟩
 ·obtain ⟨u, hu, ha⟩ := E.vars i x X e1 e2
  refine ⟨u, hu.mono fun b ob x i => k b ob (fun q => by subst q; rw [hoi] at x; cases x; exact im i) x, ?_⟩
  rcases ha with ha | ⟨hk, a, hl, oc, hoc, hd⟩
  ·exact .inl ha
  ·exact .inr ⟨hk, a, hl, oc, k a _ (fun q => by subst q; exact hno (.inr ⟨x, hl⟩)) hoc, hd⟩
theorem ER.fresh {c : Cx} {r : Loc} {H : AH} {h : Heap} {m : Str → Option Value} {ia : Addr} (E : ER c r H h m) (hia : h.objs.size ≤ ia) : ¬ ownE c.env ia := by
 rintro (rfl | ⟨x, q⟩)
 ·obtain ⟨_, _, _, ho, _⟩ := E.ns
  exact absurd (Heap.lt_size ho) (Nat.not_lt.mpr hia)
 ·obtain ⟨_, _, _, _, _, ho, _⟩ := E.cl x ia q
  exact absurd (Heap.lt_size ho) (Nat.not_lt.mpr hia)
theorem Inv.none0 {G : Gd} {H : AH} {s : Shared} {ia : Addr} (I : Inv G H s) (hia : s.heap.objs.size ≤ ia) : G.h₀.get? ia = none := by
 cases q : G.h₀.get? ia with
 | none => rfl
 | some o => exact absurd (Heap.lt_size (I.base _ _ q)) (Nat.not_lt.mpr hia)
theorem FrM.past {own : Addr → Prop} {H H1 H2 : AH} {h h1 h' h2 : Heap} {ia : Addr} (f1 : FrM no H h H1 h1) (g : ∀ b o, h1.get? b = some o → h'.get? b = some o) (hia : h1.objs.size ≤ ia) (f2 : FrM (fun b => own b ∨ b = ia) H1 h' H2 h2) : FrM own H h H2 h2 :=
 fun b o e n mm => f2 b o (g b o (f1 b o e n id).1) (f1 b o e n id).2 fun q => q.elim mm fun q => by subst q; exact absurd (Heap.lt_size (f1 _ o e n id).1) (Nat.not_lt.mpr hia)
set_option tactic.hygienic false
section
variable {c : Cx} {r : Loc} {H : AH} {Q : V → AH → Prop}
theorem rInt {h : Heap} {i : Int} {t : Tok} : Rep h (.int i t) (.int i) := ⟨t, rfl⟩
theorem rNone {h : Heap} : Rep h .none .none := rfl
theorem rBool {h : Heap} {b : Bool} : Rep h (.bool b) (.bool b) := rfl
theorem rStr {h : Heap} {x : Str} {t : Tok} : Rep h (.str x t) (.str x) := ⟨t, rfl⟩
theorem rBytes {h : Heap} {l : List UInt8} {t : Tok} : Rep h (.bytes l.toArray t) (.bytes l) := ⟨t, rfl⟩
theorem rRef {h : Heap} {a : Addr} : Rep h (.ref a) (.ref a) := rfl
theorem TV.now {G : Gd} {s s' : Shared} {H : AH} {v : Value} {X : V} (I : Inv G H s') (hv : Rep s'.heap v X) (f : FrM no H s.heap H s'.heap) (h : Q X H) :
 VP G H s.heap Q v s' := ⟨X, H, hv, I, f, h⟩
theorem WE_int {i : Int} {k : Nat} {p : Pos} (h : Q (.int i) H) : WE c r H (.Constant (.int i) k p) Q :=
 fun _ _ I _ => wpAny_Constant_int (TV.now I.toks rInt FrM.refl h)
theorem WE_none {k : Nat} {p : Pos} (h : Q .none H) : WE c r H (.Constant .none k p) Q := fun _ _ I _ => wpAny_pure (TV.now I rNone FrM.refl h)
theorem WE_bool {b : Bool} {k : Nat} {p : Pos} (h : Q (.bool b) H) : WE c r H (.Constant (.bool b) k p) Q := fun _ _ I _ => wpAny_pure (TV.now I rBool FrM.refl h)
theorem WE_str {x : Str} {k : Nat} {p : Pos} (h : Q (.str x) H) : WE c r H (.Constant (.str x) k p) Q :=
 fun _ _ I _ => Calls.Constant_str (TV.now I.toks rStr FrM.refl h)
theorem WE_bytes {b : List UInt8} {k : Nat} {p : Pos} (h : Q (.bytes b) H) : WE c r H (.Constant (.bytes b) k p) Q :=
 fun s _ I _ => by
  show wpAny _ _ (mkTextBytes b.toArray) _ _ s
  exact fun _ _ _ => TV.now I.toks rBytes FrM.refl h
theorem WE_loc (i : Nat) {x : Str} {p : Pos} {X : V} (hn : c.names[i]? = some x) (hv : (r : List (Option V))[i]? = some (some X)) (hd : (x == ("__debug__" : Str)) = false) (h : Q X H) :
 WE c r H (.Name x p) Q := fun s m I E => by
 obtain ⟨v, hr, ha⟩ := E.vars i x X hn hv
 refine wpAny_Name ?_ hd
 rcases ha with ⟨hk, hm⟩ | ⟨hk, a, hl, hc⟩
 ·exact wpAny_loadName_local c.es.kind hk E.ns hm (TV.now I hr FrM.refl h)
 ·exact wpAny_loadName_cell c.es.kind hk hl hc (TV.now I hr FrM.refl h)
theorem name_top {s : Shared} {m : Str → Option Value} {x : Str} {p : Pos} {v : Value} {R : Value → Shared → Prop} {E' : Value → Shared → Prop} (I : Inv c.G H s)
 (hx : x ∈ c.gl) (e : nsIn (KK c.G.w.params) mainGlobals x = some (some v)) (hd : (x == ("__debug__" : Str)) = false) (h : R v s) :
 wpAny (model PG c.G.w) c.A (eval (.Name x p) c.env) R E' s := by
 refine Calls.Name_function_global c.es.kind (c.es.glob x hx) (Calls.loadGlobal_global ?_ (mg_of c.G.KI c.G.g e) h) hd
 rw [c.es.globals]; exact c.G.g.keeps I.base
theorem name_boot {s : Shared} {m : Str → Option Value} {x : Str} {p : Pos} {v : Value} {R : Value → Shared → Prop} {E' : Value → Shared → Prop} (I : Inv c.G H s)
 (hx : x ∈ c.gl) (e : nsIn (KK c.G.w.params) mainGlobals x = some none) (hb : bootBuiltins x = some v) (hn : x ≠ "__name__") (hd : (x == ("__debug__" : Str)) = false) (h : R v s) :
 wpAny (model PG c.G.w) c.A (eval (.Name x p) c.env) R E' s := by
 refine Calls.Name_function_global c.es.kind (c.es.glob x hx) (Calls.loadGlobal_builtin (mg := c.G.mg) (mb := c.G.mb) ?_ (mg_none_of c.G.KI c.G.g e) ?_ ((c.G.bi x hn).trans hb) h) hd
 ·rw [c.es.globals]; exact c.G.g.keeps I.base
 ·rw [c.es.builtins]; exact c.G.b.keeps I.base
inductive Nam (w : World) (x : Str) (v : Value) : Prop where
 | top (e : nsIn (KK w.params) mainGlobals x = some (some v)) (hd : (x == ("__debug__" : Str)) = false)
 | boot (e : nsIn (KK w.params) mainGlobals x = some none) (hb : bootBuiltins x = some v) (hn : x ≠ "__name__") (hd : (x == ("__debug__" : Str)) = false)
theorem name_any {s : Shared} {x : Str} {p : Pos} {v : Value} {R : Value → Shared → Prop} {E' : Value → Shared → Prop} (I : Inv c.G H s)
 (hx : x ∈ c.gl) (e : Nam c.G.w x v) (h : R v s) : wpAny (model PG c.G.w) c.A (eval (.Name x p) c.env) R E' s := by
 cases e with
 | top e hd => exact name_top (m := fun _ => none) I hx e hd h
 | boot e hb hn hd => exact name_boot (m := fun _ => none) I hx e hb hn hd h
theorem WE_glob (j : Nat) {x : Str} {p : Pos} {v : Value} {X : V} (hg : c.gl[j]? = some x) (e : Nam c.G.w x v) (hv : ∀ h, Rep h v X) (h : Q X H) : WE c r H (.Name x p) Q :=
 fun s _ I _ => name_any I (List.mem_of_getElem? hg) e (TV.now I (hv _) FrM.refl h)
noncomputable def BO (G : Gd) (op : Operator) (a b : V) (H : AH) (Q : V → AH → Prop) : Prop :=
 ∀ A s v u, AOk 0 A → Inv G H s → Rep s.heap v a → Rep s.heap u b → TV G A H s (binaryOp op v u) Q
noncomputable def IO (G : Gd) (op : Operator) (a b : V) (H : AH) (Q : V → AH → Prop) : Prop :=
 ∀ A s v u, AOk 0 A → Inv G H s → Rep s.heap v a → Rep s.heap u b → TV G A H s (inplaceOp op v u) Q
noncomputable def CO (G : Gd) (op : CmpOp) (a b : V) (H : AH) (Q : Bool → AH → Prop) : Prop :=
 ∀ A s v u, AOk 0 A → Inv G H s → Rep s.heap v a → Rep s.heap u b → TV G A H s (compareOp op v u) (fun X H' => ∃ b, X = .bool b ∧ Q b H')
theorem TV.then {G : Gd} {A : Around} {H H₀ : AH} {s s₁ : Shared} {t : Sem Value} {Q : V → AH → Prop} (f : FrM no H₀ s.heap H s₁.heap)
 (x : TV G A H s₁ t Q) : wpAny (model PG G.w) A t (VP G H₀ s.heap Q) (fun _ _ => False) s₁ :=
 wpAny_mono x (fun _ _ ⟨X, H', a, b, d, e⟩ => ⟨X, H', a, b, f.trans d, e⟩) fun _ _ e => e
theorem WE_bin {l rr : Expr} {op : Operator} {p : Pos} (h : WE c r H l (fun a H1 => WE c r H1 rr (fun b H2 => BO c.G op a b H2 Q))) : WE c r H (.BinOp l op rr p) Q :=
 fun s m I E => by
  refine wpAny_BinOp (h.thn I E fun v s₁ a H1 ra I1 f1 Ef1 h1 => ?_)
  refine wpAny_mono (h1 s₁ m I1 Ef1) (fun u s₂ h₂ => ?_) fun _ _ e => e
  obtain ⟨b, H2, rb, I2, f2, h2⟩ := h₂
  exact TV.then (f1.trans f2) (h2 c.A s₂ v u (c.aok.le (Nat.zero_le _)) I2 (ra.mono (f2.imm I1)) rb)
theorem WE_cmp {l rr : Expr} {op : CmpOp} {p : Pos} (h : WE c r H l (fun a H1 => WE c r H1 rr (fun b H2 => CO c.G op a b H2 (fun b => Q (.bool b)))))
 (hm : behindInMarks op rr = false := by with_unfolding_all rfl) : WE c r H (.Compare l [op] [rr] p) Q :=
 fun s m I E => by
  refine wpAny_Compare1 (hm := hm) (h.thn I E fun v s₁ a H1 ra I1 f1 Ef1 h1 => ?_)
  refine wpAny_mono (h1 s₁ m I1 Ef1) (fun u s₂ h₂ => ?_) fun _ _ e => e
  obtain ⟨b, H2, rb, I2, f2, h2⟩ := h₂
  refine TV.then (f1.trans f2) ((h2 c.A s₂ v u (c.aok.le (Nat.zero_le _)) I2 (ra.mono (f2.imm I1)) rb).mono ?_)
  rintro X H' ⟨b, rfl, q⟩; exact q
theorem WT_cmp {l rr : Expr} {op : CmpOp} {p : Pos} {Q : Bool → AH → Prop} (h : WE c r H l (fun a H1 => WE c r H1 rr (fun b H2 => CO c.G op a b H2 Q)))
 (hm : behindInMarks op rr = false := by with_unfolding_all rfl) : WT c r H (.Compare l [op] [rr] p) Q :=
 fun s m I E => by
  refine wpAny_isTrue_Compare1 (hm := hm) (h.thn I E fun v s₁ a H1 ra I1 f1 Ef1 h1 => ?_)
  refine wpAny_mono (h1 s₁ m I1 Ef1) (fun u s₂ h₂ => ?_) fun _ _ e => e
  obtain ⟨b, H2, rb, I2, f2, h2⟩ := h₂
  refine wpAny_mono (h2 c.A s₂ v u (c.aok.le (Nat.zero_le _)) I2 (ra.mono (f2.imm I1)) rb) (fun x s₃ h₃ => ?_) fun _ _ e => e
  obtain ⟨X, H3, rx, I3, f3, b', rfl, q⟩ := h₃
  cases rx
  exact wpAny_truthy_bool ⟨H3, I3, (f1.trans f2).trans f3, q⟩
variable {G : Gd} {i j : Int}
theorem BO_int {op : Operator} {z : Int} (h : Q (.int z) H)
 (k : ∀ (A : Around) (s : Shared) (t u : Tok) (R : Value → Shared → Prop), s.heap.NoLimit → R (.int z s.toks) { s with toks := s.toks + 1 } → wpAny (model PG G.w) A (binaryOp op (.int i t) (.int j u)) R (fun _ _ => False) s) :
 BO G op (.int i) (.int j) H Q := fun A s v u _ I rv ru => by
 obtain ⟨t, rfl⟩ := rv; obtain ⟨t', rfl⟩ := ru
 exact k A s t t' _ (G.lim.keeps I.base) (TV.now I.toks rInt FrM.refl h)
theorem BO_add (h : Q (.int (i + j)) H) : BO G .Add (.int i) (.int j) H Q := BO_int h fun _ _ _ _ _ _ h => P.add_int h
theorem BO_sub (h : Q (.int (i - j)) H) : BO G .Sub (.int i) (.int j) H Q := BO_int h fun _ _ _ _ _ _ h => P.sub_int h
theorem bits60 {x : Int} (h : x.natAbs < 2 ^ 60) : Builtin.Int.intBits x ≤ 64 := by
 unfold Builtin.Int.intBits
 split
 ·omega
 ·rename_i h0
  have hx : x.natAbs ≠ 0 := fun e => h0 (by simpa using Int.natAbs_eq_zero.mp e)
  have := (Nat.log2_lt hx).mpr (Nat.lt_of_lt_of_le h (by decide : 2 ^ 60 ≤ 2 ^ 60))
  omega
theorem wkY (hm : i.natAbs < 2 ^ 60 ∨ j.natAbs < 2 ^ 60) (h : Q (.int (i * j)) H) : BO G .Mult (.int i) (.int j) H Q :=
 BO_int h fun _ _ _ _ _ _ h => P.mul_int h (hm.elim (fun e => .of_left (bits60 e)) fun e => .of_right (bits60 e))
theorem BO_mod (hb : 0 < j) (h : Q (.int (i % j)) H) : BO G .Mod (.int i) (.int j) H Q :=
 BO_int h fun _ _ _ _ _ _ h => by
  refine mod_int' (by omega) ?_
  rw [Int.fmod_eq_emod_of_nonneg _ (Int.le_of_lt hb)]; exact h
theorem BO_div (hb : 0 < j) (hs : j < 1073741824) (h : Q (.int (i / j)) H) : BO G .FloorDiv (.int i) (.int j) H Q :=
 BO_int h fun _ _ _ _ _ _ h => by
  refine floordiv_int (by omega) ?_ (.inl (PyProof.noPylong_small (by omega)))
  rw [Int.fdiv_eq_ediv_of_nonneg _ (Int.le_of_lt hb)]; exact h
theorem BO_shr (hb : 0 ≤ j) (h : Q (.int (i / 2 ^ j.toNat)) H) : BO G .RShift (.int i) (.int j) H Q :=
 BO_int h fun _ _ _ _ _ _ h => by
  refine rshift_int hb ?_
  rw [Int.fdiv_eq_ediv_of_nonneg _ (Int.le_of_lt (Int.pow_pos (by decide)))]; exact h
theorem BO_and (h : Q (.int (Builtin.bitAnd i j)) H) : BO G .BitAnd (.int i) (.int j) H Q := BO_int h fun _ _ _ _ _ _ h => and_int h
theorem BO_pow (hb : 0 ≤ j) (hz : (Builtin.Int.intBits i : Int) * j ≤ 2 ^ 27) (h : Q (.int (i ^ j.toNat)) H) : BO G .Pow (.int i) (.int j) H Q := BO_int h fun _ _ _ _ _ _ h => pow_int hb hz h
theorem IO_add (h : Q (.int (i + j)) H) : IO G .Add (.int i) (.int j) H Q := fun A s v u _ I rv ru => by
 obtain ⟨t, rfl⟩ := rv; obtain ⟨t', rfl⟩ := ru
 exact P.iadd_int (TV.now I.toks rInt FrM.refl h)
theorem CO_of {op : CmpOp} {a b : V} {z : Bool} {Q : Bool → AH → Prop} (h : Q z H)
 (k : ∀ (A : Around) (s : Shared) (v u : Value) (R : Value → Shared → Prop), AOk 0 A → Inv G H s → Rep s.heap v a → Rep s.heap u b → R (.bool z) s → wpAny (model PG G.w) A (compareOp op v u) R (fun _ _ => False) s) : CO G op a b H Q :=
 fun A s v u o I rv ru => k A s v u _ o I rv ru (TV.now I rBool FrM.refl ⟨z, rfl, h⟩)
section
variable {Q : Bool → AH → Prop}
theorem CO_int {op : CmpOp} {z : Bool} (h : Q z H)
 (k : ∀ (A : Around) (s : Shared) (t u : Tok) (R : Value → Shared → Prop), R (.bool z) s → wpAny (model PG G.w) A (compareOp op (.int i t) (.int j u)) R (fun _ _ => False) s) :
 CO G op (.int i) (.int j) H Q := CO_of h fun A s v u R _ _ rv ru h => by
 obtain ⟨t, rfl⟩ := rv; obtain ⟨t', rfl⟩ := ru
 exact k A s t t' R h
theorem CO_eq (h : Q (decide (i = j)) H) : CO G .Eq (.int i) (.int j) H Q := CO_int h fun _ _ _ _ _ h => P.eq_int (by rw [show (i == j) = decide (i = j) by rw [Bool.eq_iff_iff]; simp]; exact h)
theorem CO_ne (h : Q (decide (i ≠ j)) H) : CO G .NotEq (.int i) (.int j) H Q := CO_int h fun _ _ _ _ _ h => P.ne_int (by rw [show (i != j) = decide (i ≠ j) by rw [Bool.eq_iff_iff]; simp]; exact h)
theorem CO_lt (h : Q (decide (i < j)) H) : CO G .Lt (.int i) (.int j) H Q := CO_int h fun _ _ _ _ _ h => P.lt_int h
theorem CO_le (h : Q (decide (i ≤ j)) H) : CO G .LtE (.int i) (.int j) H Q := CO_int h fun _ _ _ _ _ h => P.le_int h
theorem CO_gt (h : Q (decide (j < i)) H) : CO G .Gt (.int i) (.int j) H Q := CO_int h fun _ _ _ _ _ h => P.gt_int h
theorem CO_ge (h : Q (decide (j ≤ i)) H) : CO G .GtE (.int i) (.int j) H Q := CO_int h fun _ _ _ _ _ h => P.ge_int h
theorem CO_isnone {X : V} {z : Bool} (hz : z = (match X with | .none => true | _ => false)) (h : Q z H) : CO G .Is X .none H Q := CO_of h fun A s v u R _ _ rv ru h => by
 cases ru
 cases X <;> (first | (cases rv; subst hz; first | exact wpAny_is_self rfl h | exact wpAny_is_other rfl (fun e => nomatch e) h) | (obtain ⟨t, rfl⟩ := rv; subst hz; exact wpAny_is_other rfl (fun e => nomatch e) h) | (obtain ⟨a, _, _, _, rfl, _⟩ := rv; subst hz; exact wpAny_is_other rfl (fun e => nomatch e) h))
theorem CO_isntnone {X : V} {z : Bool} (hz : z = (match X with | .none => false | _ => true)) (h : Q z H) : CO G .IsNot X .none H Q := CO_of h fun A s v u R _ _ rv ru h => by
 cases ru
 cases X <;> (first | (cases rv; subst hz; first | exact wpAny_isNot_self rfl h | exact wpAny_isNot_other rfl (fun e => nomatch e) h) | (obtain ⟨t, rfl⟩ := rv; subst hz; exact wpAny_isNot_other rfl (fun e => nomatch e) h) | (obtain ⟨a, _, _, _, rfl, _⟩ := rv; subst hz; exact wpAny_isNot_other rfl (fun e => nomatch e) h))
theorem CO_eqbytes {l l' : List UInt8} (h : Q (decide (l = l')) H) : CO G .Eq (.bytes l) (.bytes l') H Q := CO_of h fun A s v u R _ _ rv ru h => by
 obtain ⟨t, rfl⟩ := rv; obtain ⟨t', rfl⟩ := ru
 refine eq_bytes ?_
 rw [show (l.toArray.toList == l'.toArray.toList) = decide (l = l') by rw [Bool.eq_iff_iff]; simp]; exact h
theorem CO_eqstr {x y : Str} (h : Q (x == y) H) : CO G .Eq (.str x) (.str y) H Q := CO_of h fun A s v u R _ _ rv ru h => by
 obtain ⟨t, rfl⟩ := rv; obtain ⟨t', rfl⟩ := ru
 exact eq_str h
end
end
set_option tactic.hygienic false
section
variable {c : Cx} {r : Loc} {H : AH} {Q : V → AH → Prop}
theorem wp_release {M : Model} {A : Around} {E : Value → Shared → Prop} {s : Shared} {vs ks : List Value} {R : Unit → Shared → Prop} (h : R () s) : wpAny M A (release vs ks) R E s :=
 fun Γ p hΓ => by rw [Sem.wp_release]; exact h
theorem wp_operate {M : Model} {A : Around} {E : Value → Shared → Prop} {s : Shared} {vs : List Value} {t : Sem Value} {R : Value → Shared → Prop} (h : wpAny M A t R E s) : wpAny M A (operate vs t) R E s :=
 fun Γ p hΓ => by rw [Sem.wp_operate]; exact h Γ p hΓ
section
variable {Q : Bool → AH → Prop}
theorem TB.then {G : Gd} {A : Around} {H H₀ : AH} {s s₁ : Shared} {t : Sem Bool} {Q : Bool → AH → Prop} (f : FrM no H₀ s.heap H s₁.heap)
 (x : TB G A H s₁ t Q) : wpAny (model PG G.w) A t (BP G H₀ s.heap Q) (fun _ _ => False) s₁ :=
 wpAny_mono x (fun _ _ ⟨H', b, d, e⟩ => ⟨H', b, f.trans d, e⟩) fun _ _ e => e
theorem WT_not {x : Expr} {p : Pos} (h : WT c r H x (fun b => Q (!b))) : WT c r H (.UnaryOp .Not x p) Q := fun s m I E => isTrue_not (h.thn I E fun z s2 H2 b f _ q => ⟨H2, b, f, q⟩)
theorem WT_and_nil {p : Pos} (h : Q true H) : WT c r H (.BoolOp .And [] p) Q := fun s m I E => isTrue_and_nil ⟨H, I, FrM.refl, h⟩
theorem WT_or_nil {p : Pos} (h : Q false H) : WT c r H (.BoolOp .Or [] p) Q := fun s m I E => isTrue_or_nil ⟨H, I, FrM.refl, h⟩
theorem WT_and {x : Expr} {rest : List Expr} {p : Pos} (h : WT c r H x (fun b H1 => if b then WT c r H1 (.BoolOp .And rest p) Q else Q false H1)) : WT c r H (.BoolOp .And (x :: rest) p) Q :=
 fun s m I E => isTrue_and (wpAny_mono (h s m I E) (fun b s₁ h₁ => by
  obtain ⟨H1, I1, f1, h1⟩ := h₁
  cases b with
  | true => exact TB.then f1 (h1 s₁ m I1 (E.mono I f1))
  | false => exact ⟨H1, I1, f1, h1⟩) fun _ _ e => e)
theorem WT_or {x : Expr} {rest : List Expr} {p : Pos} (h : WT c r H x (fun b H1 => if b then Q true H1 else WT c r H1 (.BoolOp .Or rest p) Q)) : WT c r H (.BoolOp .Or (x :: rest) p) Q :=
 fun s m I E => isTrue_or (wpAny_mono (h s m I E) (fun b s₁ h₁ => by
  obtain ⟨H1, I1, f1, h1⟩ := h₁
  cases b with
  | false => exact TB.then f1 (h1 s₁ m I1 (E.mono I f1))
  | true => exact ⟨H1, I1, f1, h1⟩) fun _ _ e => e)
theorem WT_plain {e : Expr} (h : WE c r H e (fun X H1 => ∃ b, X = .bool b ∧ Q b H1))
 (he : isTrue e c.env (eval e c.env) = (do let v ← eval e c.env; standAt e.pos; holding [v] (truthy v)) := by rfl) : WT c r H e Q :=
 fun s m I E => isTrue_plain (wpAny_mono (h s m I E) (fun v s₁ h₁ => by
  obtain ⟨X, H1, rv, I1, f1, b, rfl, q⟩ := h₁
  cases rv
  exact wpAny_truthy_bool ⟨H1, I1, f1, q⟩) fun _ _ e => e) he
theorem WT_chain2 {l e1 e2 : Expr} {o1 o2 : CmpOp} {p : Pos}
 (h : WE c r H l (fun a H1 => WE c r H1 e1 (fun b H2 => CO c.G o1 a b H2 (fun z H3 => if z then WE c r H3 e2 (fun d H4 => CO c.G o2 b d H4 Q) else Q false H3))))
 (hm : lastMarks [o1, o2] [e1, e2] = false := by with_unfolding_all rfl) : WT c r H (.Compare l [o1, o2] [e1, e2] p) Q :=
 fun s m I E => by
  refine isTrue_chain (ops := []) (rs := []) (hm := hm) (h.thn I E fun v s₁ a H1 ra I1 f1 Ef1 h1 => ?_)
  show wpAny _ _ (do
   let rv ← holding [v] (eval e1 c.env)
   standAt p
   let z ← holding [v, rv] (compareOp o1 v rv)
   release [v, rv] [z]
   if ← holding [z, rv] (truthy z) then testChain p rv [o2] [eval e2 c.env] else pure false) _ _ _
  refine wpAny_bind (wpAny_holding (wpAny_mono (h1 s₁ m I1 Ef1) (fun u s₂ h₂ => ?_) fun _ _ e => e))
  obtain ⟨b, H2, rb, I2, f2, h2⟩ := h₂
  refine wpAny_bind (wpAny_standAt (wpAny_bind (wpAny_holding (wpAny_mono (h2 c.A s₂ v u (c.aok.le (Nat.zero_le _)) I2 (ra.mono (f2.imm I1)) rb) (fun x s₃ h₃ => ?_) fun _ _ e => e))))
  obtain ⟨X, H3, rx, I3, f3, z, rfl, q⟩ := h₃
  cases rx
  have f03 := (f1.trans f2).trans f3
  refine wpAny_bind (wp_release ?_)
  refine wpAny_bind (wpAny_holding (wpAny_truthy_bool ?_))
  cases z with
  | false => exact wpAny_pure ⟨H3, I3, f03, q⟩
  | true =>
   show wpAny _ _ (do
    let rv ← holding [u] (eval e2 c.env)
    standAt p
    let z ← operate [u, rv] (compareOp o2 u rv)
    holding [z] (truthy z)) _ _ _
   refine wpAny_bind (wpAny_holding (q.thn I3 (E.mono I f03) fun w s₄ d H4 rd I4 f4 Ef4 h4 => ?_))
   refine wpAny_bind (wpAny_standAt (wpAny_bind (wp_operate ?_)))
   refine wpAny_mono (h4 c.A s₄ u w (c.aok.le (Nat.zero_le _)) I4 (rb.mono ((f3.trans f4).imm I2)) rd) (fun x s₅ h₅ => ?_) fun _ _ e => e
   obtain ⟨X, H5, rx, I5, f5, z, rfl, q⟩ := h₅
   cases rx
   exact wpAny_holding (wpAny_truthy_bool ⟨H5, I5, (f03.trans f4).trans f5, q⟩)
end
theorem WE_ifexp {t a b : Expr} {p : Pos} (h : WT c r H t (fun z H1 => if z then WE c r H1 a Q else WE c r H1 b Q)) : WE c r H (.IfExp t a b p) Q :=
 fun s m I E => by
  show wpAny _ _ (do if ← isTrue t c.env (eval t c.env) then eval a c.env else eval b c.env) _ _ s
  refine wpAny_bind (h.thn I E fun z s₁ H1 I1 f1 Ef1 h1 => ?_)
  cases z with
  | true => exact TV.then f1 (h1 s₁ m I1 Ef1)
  | false => exact TV.then f1 (h1 s₁ m I1 Ef1)
theorem WE_neg {x : Expr} {p : Pos} (h : WE c r H x (fun X H1 => ∃ i, X = .int i ∧ Q (.int (-i)) H1)) : WE c r H (.UnaryOp .USub x p) Q :=
 fun s m I E => by
  show wpAny _ _ (do let v ← eval x c.env; standAt p; holding [v] (unaryOp .USub v)) _ _ s
  refine wpAny_bind (h.thn I E fun v s₁ X H1 rv I1 f1 Ef1 q0 => ?_)
  obtain ⟨i, rfl, q⟩ := q0
  obtain ⟨t, rfl⟩ := rv
  exact wpAny_bind (wpAny_standAt (wpAny_holding (P.neg_int ⟨_, H1, rInt, I1.toks, f1, q⟩)))
theorem WE_and2 {a b : Expr} {p : Pos} (h : WE c r H a (fun X H1 => ∃ z, X = .bool z ∧ if z then WE c r H1 b Q else Q (.bool false) H1)) : WE c r H (.BoolOp .And [a, b] p) Q :=
 fun s m I E => by
  show wpAny _ _ (do
   let v ← eval a c.env
   standAt p
   let t ← holding [v] (truthy v)
   match BoolOp.And, t with
   | .And, false | .Or, true => pure v
   | _, _ => boolOp p .And [eval b c.env]) _ _ s
  refine wpAny_bind (h.thn I E fun v s₁ X H1 rv I1 f1 Ef1 q0 => ?_)
  obtain ⟨z, rfl, q⟩ := q0
  cases rv
  refine wpAny_bind (wpAny_standAt (wpAny_bind (wpAny_holding (wpAny_truthy_bool ?_))))
  cases z with
  | false => exact wpAny_pure ⟨_, H1, rBool, I1, f1, q⟩
  | true => exact TV.then f1 (q s₁ m I1 Ef1)
theorem WE_or2 {a b : Expr} {p : Pos} (h : WE c r H a (fun X H1 => ∃ z, X = .bool z ∧ if z then Q (.bool true) H1 else WE c r H1 b Q)) : WE c r H (.BoolOp .Or [a, b] p) Q :=
 fun s m I E => by
  show wpAny _ _ (do
   let v ← eval a c.env
   standAt p
   let t ← holding [v] (truthy v)
   match BoolOp.Or, t with
   | .And, false | .Or, true => pure v
   | _, _ => boolOp p .Or [eval b c.env]) _ _ s
  refine wpAny_bind (h.thn I E fun v s₁ X H1 rv I1 f1 Ef1 q0 => ?_)
  obtain ⟨z, rfl, q⟩ := q0
  cases rv
  refine wpAny_bind (wpAny_standAt (wpAny_bind (wpAny_holding (wpAny_truthy_bool ?_))))
  cases z with
  | true => exact wpAny_pure ⟨_, H1, rBool, I1, f1, q⟩
  | false => exact TV.then f1 (q s₁ m I1 Ef1)
theorem WL_nil {Q : List V → AH → Prop} (h : Q [] H) : WL c r H [] Q := fun s m p I E => Calls.spliced_nil ⟨[], H, trivial, I, FrM.refl, h⟩
theorem WL_cons {e : Expr} {es : List Expr} {Q : List V → AH → Prop} (h : WE c r H e (fun X H1 => WL c r H1 es (fun Xs => Q (X :: Xs))))
 (he : starEach (e :: es) c.env = (false, eval e c.env) :: starEach es c.env := by rfl) : WL c r H (e :: es) Q := fun s m p I E => by
 rw [he]
 refine Calls.spliced_cons (h.thn I E fun v s₁ X H1 rv I1 f1 Ef1 h1 => ?_)
 refine wpAny_mono (h1 s₁ m p I1 Ef1) (fun vs s₂ h₂ => ?_) fun _ _ e => e
 obtain ⟨Xs, H2, rvs, I2, f2, h2⟩ := h₂
 exact ⟨X :: Xs, H2, ⟨rv.mono (f2.imm I1), rvs⟩, I2, f1.trans f2, h2⟩
noncomputable def szL : Nat := 16777216
theorem szL_eq : szL = sizeLine := sizeLine_eq.symm
theorem new_list {G : Gd} {A : Around} {s : Shared} {vs : List Value} {Xs : List V} (I : Inv G H s) (rv : RepL s.heap vs Xs) (hz : Xs.length ≤ szL) (h : ∀ a, H a = none → Q (.ref a) (upd H a (.list Xs))) :
 TV G A H s (newList vs) Q := by
 refine wpAny_newObj_type ?_ (by show vs.toArray.size ≤ sizeLine; rw [List.size_toArray, rv.len, ← szL_eq]; exact hz)
 have k := zbQ s.heap { cls := .type "list", data := .seq vs.toArray }
 exact ⟨.ref s.heap.objs.size, _, rRef, I.alloc (ob := .list Xs) (tk := s.toks) k (Nat.le_refl _) ⟨vs.toArray, 0, IsL.new _ _, rv.mono fun a o e _ => k a o e⟩, FrM.alloc k (Nat.le_refl _), h _ (I.size (Nat.le_refl _))⟩
theorem WE_list {es : List Expr} {p : Pos} (h : WL c r H es (fun Xs H1 => Xs.length ≤ szL ∧ ∀ a, H1 a = none → Q (.ref a) (upd H1 a (.list Xs)))) : WE c r H (.List es p) Q := fun s m I E => by
 refine List_ (h.thn I E fun vs s₁ Xs H1 rv I1 f1 Ef1 q0 => ?_)
 obtain ⟨hz, q⟩ := q0
 exact TV.then f1 (new_list I1 rv hz q)
theorem WE_pair {es : List Expr} {k : Nat} {p : Pos} (h : WL c r H es (fun Xs H1 => ∃ i j, Xs = [.int i, .int j] ∧ Q (.pr i j) H1)) : WE c r H (.Tuple es k p) Q := fun s m I E => by
 refine Tuple_ (h.thn I E fun vs s₁ Xs H1 rv I1 f1 Ef1 q0 => ?_)
 obtain ⟨i, j, rfl, q⟩ := q0
 obtain ⟨v, u, rfl⟩ := rv.ex2
 obtain ⟨⟨t, e1⟩, ⟨t', e2⟩, _⟩ := rv
 subst e1 e2
 refine wpAny_newObj_type ?_ (by show 2 ≤ sizeLine; rw [sizeLine_eq]; decide)
 have k := zbQ s₁.heap { cls := .type "tuple", data := .seq [Value.int i t, Value.int j t'].toArray }
 exact ⟨.pr i j, H1, ⟨_, t, t', 0, rfl, Heap.get?_push_size _ rfl⟩, I1.grow k, f1.trans (FrM.grow k), q⟩
theorem handed_rep {h : Heap} {v : Value} {X : V} (rv : Rep h v X) : handedIn v = true := by
 cases X <;> (first | (cases rv; rfl) | (obtain ⟨t, rfl⟩ := rv; rfl) | (obtain ⟨a, _, _, _, rfl, _⟩ := rv; rfl))
theorem key_is {e : DictEntry} {y : Str} (hk : ∃ t, e.key = .str y t) : e.key.isStr y = true := by
 obtain ⟨t, hk⟩ := hk; rw [hk]; simp [Value.isStr]
theorem key_no {e : DictEntry} {y x : Str} (hk : ∃ t, e.key = .str y t) (hne : y ≠ x) : e.key.isStr x = false := by
 obtain ⟨t, hk⟩ := hk; rw [hk]; simp [Value.isStr, hne]
theorem key_ref {e : DictEntry} {y : Str} (hk : ∃ t, e.key = .str y t) : e.refKey = false := by
 obtain ⟨t, hk⟩ := hk; unfold DictEntry.refKey; rw [hk]
theorem getL_skip {e : DictEntry} {es : List DictEntry} {y x : Str} (hk : ∃ t, e.key = .str y t) (hne : y ≠ x) : getL x (e :: es) = getL x es := by
 unfold getL; simp only [List.find?_cons, key_no hk hne, List.any_cons, key_ref hk, Bool.false_or]
theorem nd_ne {y x : Str} {N : List Str} {i : Nat} (nd : (y :: N).Nodup) (e1 : N[i]? = some x) : y ≠ x := fun q => (List.nodup_cons.mp nd).1 (q ▸ List.mem_of_getElem? e1)
theorem FR.get {h : Heap} {es : List DictEntry} {N : List Str} {Xs : List V} {i : Nat} {x : Str} {X : V} (r : FR h es N Xs) : N.Nodup → N[i]? = some x → Xs[i]? = some X → ∃ v, getL x es = some (some v) ∧ Rep h v X :=
 FR.ind (p := fun es N Xs => ∀ i : Nat, N.Nodup → N[i]? = some x → Xs[i]? = some X → ∃ v, getL x es = some (some v) ∧ Rep h v X) (fun _ _ _ _ e => nomatch e)
  (fun e es y N Y Xs hk b _ cc i nd e1 e2 => by
   cases i with
   | zero =>
    cases Option.some.inj e1; cases Option.some.inj e2
    exact ⟨e.val, by simp only [getL, List.find?_cons, key_is hk], b⟩
   | succ i => rw [getL_skip hk (nd_ne nd e1)]; exact cc i (List.nodup_cons.mp nd).2 e1 e2) es r i
theorem FR.miss {h : Heap} {es : List DictEntry} {N : List Str} {Xs : List V} {x : Str} (r : FR h es N Xs) : x ∉ N → getL x es = some none :=
 FR.ind (p := fun es N _ => x ∉ N → getL x es = some none) (fun _ _ => rfl)
  (fun e es y N Y Xs hk _ _ cc nm => by
   rw [getL_skip hk fun q => nm (q ▸ .head _)]; exact cc fun q => nm (.tail _ q)) es r
theorem FR.len {h : Heap} {es : List DictEntry} {N : List Str} {Xs : List V} (r : FR h es N Xs) : es.length = Xs.length :=
 FR.ind (p := fun es _ Xs => es.length = Xs.length) (fun _ => rfl) (fun _ _ _ _ _ _ _ _ _ c => congrArg (· + 1) c) es r
theorem FR.put {h : Heap} {hs : Int} {tk : Tok} {v : Value} {X : V} (rv : Rep h v X) {es : List DictEntry} {N : List Str} {Xs : List V} {i : Nat} {x : Str} (r : FR h es N Xs) : N.Nodup → N[i]? = some x → i < Xs.length →
 FR h (putL x hs (.str x tk) v es) N (Xs.set i X) :=
 FR.ind (p := fun es N Xs => ∀ i : Nat, N.Nodup → N[i]? = some x → i < Xs.length → FR h (putL x hs (.str x tk) v es) N (Xs.set i X)) (fun _ _ _ _ e => absurd e (Nat.not_lt_zero _))
  (fun e es y N Y Xs hk b f cc i nd e1 e2 => by
   cases i with
   | zero =>
    cases Option.some.inj e1
    simp only [putL, key_is hk, if_true, List.set_cons_zero]
    exact ⟨hk, rv, f⟩
   | succ i =>
    simp only [putL, key_no hk (nd_ne nd e1), Bool.false_eq_true, if_false, List.set_cons_succ]
    exact ⟨hk, b, cc i (List.nodup_cons.mp nd).2 e1 (Nat.lt_of_succ_lt_succ e2)⟩) es r i
theorem FR.new {h : Heap} {hs : Int} {tk : Tok} {v : Value} {X : V} (rv : Rep h v X) {es : List DictEntry} {N : List Str} {Xs : List V} {x : Str} (r : FR h es N Xs) : N.Nodup → N[Xs.length]? = some x →
 FR h (putL x hs (.str x tk) v es) N (Xs ++ [X]) :=
 FR.ind (p := fun es N Xs => N.Nodup → N[Xs.length]? = some x → FR h (putL x hs (.str x tk) v es) N (Xs ++ [X]))
  (fun N _ e1 => by
   cases N with
   | nil => cases e1
   | cons y N => cases Option.some.inj e1; exact ⟨⟨tk, rfl⟩, rv, trivial⟩)
  (fun e es y N Y Xs hk b f cc nd e1 => by
   have e1 : N[Xs.length]? = some x := e1
   simp only [putL, key_no hk (nd_ne nd e1), Bool.false_eq_true, if_false, List.cons_append]
   exact ⟨hk, b, cc (List.nodup_cons.mp nd).2 e1⟩) es r
structure ClsF (P : Params) (C : Addr) (N : List Str) : Prop where
 hg : plainGet (KK P) C "" = true
 hh : hasDictIn (KK P) C = true
 hs : findIn (KK P) (.ref C) "__setattr__" = some (some (.builtin "object.__setattr__"))
 hp : plainOver (KK P) C = true
 nd : N.Nodup
 free : ∀ x ∈ N, findIn (KK P) (.ref C) x = some none
theorem instAt_of {w : World} {h : Heap} {a C dx : Addr} {es : List DictEntry} {n : Nat} (c1 : h.get? a = some (instObj C dx)) (c2 : h.get? dx = some (dictOf es n)) :
 InstAt h a (instObj C dx) C (some (dictOf es n)) := ⟨c1, rfl, rfl, c2⟩
theorem TV_getattr {G : Gd} {A : Around} {s : Shared} {a C dx : Addr} {N : List Str} {Xs : List V} {i : Nat} {x : Str} {X : V} {ex : Bool} (I : Inv G H s) (h1 : H a = some (.inst C dx)) (h2 : H dx = some (.fields N Xs))
 (F : ClsF G.w.params C N) (e1 : N[i]? = some x) (e2 : Xs[i]? = some X) (h : Q X H) : TV G A H s (getAttr (.ref a) x ex) Q := by
 obtain ⟨es, n, hd, fr⟩ := I.own dx _ h2
 obtain ⟨v, hl, rv⟩ := fr.get F.nd e1 e2
 exact get_value (G.KI.keeps I.base) (instAt_of (w := G.w) (I.own a _ h1) hd) (plainGet_of F.hg).1 (findObj_own F.hh (F.free x (List.mem_of_getElem? e1)) rfl hl) (handed_rep rv) (TV.now I.toks rv FrM.refl h)
theorem wp_setattr {G : Gd} {A : Around} {s : Shared} {a C dx : Addr} {N : List Str} {Xs Xs' : List V} {x : Str} {v : Value} {R : Unit → Shared → Prop} (I : Inv G H s) (h1 : H a = some (.inst C dx)) (h2 : H dx = some (.fields N Xs))
 (F : ClsF G.w.params C N) (hx : x ∈ N) (hz : Xs.length ≤ 100)
 (hput : ∀ es hs tk, FR s.heap es N Xs → FR s.heap (putL x hs (.str x tk) v es) N Xs') (hz' : Xs'.length ≤ 101)
 (h : ∀ h' tk, Inv G (upd H dx (.fields N Xs')) { s with heap := h', toks := tk } → FrM no H s.heap (upd H dx (.fields N Xs')) h' → R () { s with heap := h', toks := tk }) :
 wpAny (model PG G.w) A (setAttr (.ref a) x v) R (fun _ _ => False) s := by
 obtain ⟨es, n, hd, fr⟩ := I.own dx _ h2
 have hi := I.own a _ h1
 have X := G.KI.keeps I.base
 refine set_plain X (instAt_of (w := G.w) hi hd) F.hs ?_
 refine osa_open (s := { s with toks := s.toks + 1 }) X (instAt_of (w := G.w) hi hd) F.hp (r := none) (by unfold takerIn; rw [F.free x hx]; rfl) fun b => ?_
 obtain ⟨cd, hc, hd'⟩ := any_some F.hh
 refine wpAny_bind (wpAny_pure (wpAny_bind (wpAny_bind (wpAny_loadPart (o := instObj C dx) hi (wpAny_bind ((looks_clsIn X hc).at ?_))))))
 rw [hd']
 refine wpAny_pure (a := some dx) (wpAny_bind (wpAny_pure (wpAny_bind ?_)))
 unfold nsSet
 refine wpAny_bind (wpAny_bind (wpAny_askSetting (wpAny_pure (wpAny_bind (wpAny_mkText (wpAny_bind (wpAny_loadPart (o := dictOf es n) hd ?_)))))))
 dsimp only
 have cond : aRefKeyMayBeTheName x es.toArray = false := by
  rw [aRefKeyMayBeTheName_at]
  have : es.toArray.any (·.refKey) = false := by
   rw [← Array.any_toList]
   have : ∀ (es : List DictEntry) (N : List Str) (Xs : List V), FR s.heap es N Xs → es.any (·.refKey) = false := by
    intro es
    induction es with
    | nil => intro _ _ _; rfl
    | cons e es ih =>
     intro N Xs q
     match N, Xs, q with
     | y :: N, Y :: Xs, ⟨⟨t, hk⟩, _, cc⟩ =>
      have h2 : e.refKey = false := by unfold DictEntry.refKey; rw [hk]
      simp only [List.any_cons, h2, ih N Xs cc, Bool.or_false]
   exact this es N Xs fr
  rw [this, Bool.and_false]
 rw [cond]
 have hes := hput es (PyData.keyHash G.w.params x) (s.toks + 1) fr
 refine wpAny_updatePart hd ?_
 have hself : (s.heap.update dx (Obj.putName x (PyData.keyHash G.w.params x) (.str x (s.toks + 1)) v)).get? dx = some (dictOf (putL x (PyData.keyHash G.w.params x) (.str x (s.toks + 1)) v es) (putN x es n)) := by
  have := Heap.get?_update_self (Obj.putName x (PyData.keyHash G.w.params x) (.str x (s.toks + 1)) v) hd (by rw [putName_dict]; rfl)
  rw [putName_dict] at this; exact this
 refine wpAny_bind (wpAny_lookBehind hself (pastItsLine_dict (by rw [List.size_toArray, hes.len, sizeLine_eq]; omega)) ?_)
 have k : ∀ b, b ≠ dx → (s.heap.update dx (Obj.putName x (PyData.keyHash G.w.params x) (.str x (s.toks + 1)) v)).get? b = s.heap.get? b := fun b hb => Heap.get?_update_other _ _ (Ne.symm hb)
 refine wpAny_pure (h _ _ (I.store (tk := _) h2 k (show Conc G.w _ dx (.fields N Xs') from ⟨_, _, hself, hes.mono fun b o e i => ?_⟩)) (FrM.store h2 k))
 exact (k b (fun q => by subst q; rw [I.imm e i] at h2; cases h2)).trans e
end
set_option tactic.hygienic false
section
variable {c : Cx} {r : Loc} {H : AH} {Q : Fl → Loc → AH → Prop}
noncomputable def setL (r : Loc) (i : Nat) (X : V) : Loc := List.set r i (some X)
theorem wp_store (i : Nat) {s : Shared} {m : Str → Option Value} {x : Str} {v : Value} {X : V} {R : Unit → Shared → Prop} (I : Inv c.G H s) (E : ER c r H s.heap m) (hn : c.names[i]? = some x) (rv : Rep s.heap v X)
 (h : ∀ h' tk m', Inv c.G H { s with heap := h', toks := tk } → ER c (setL r i X) H h' m' → FrM (ownE c.env) H s.heap H h' → (∀ a o, s.heap.get? a = some o → wjY o → h'.get? a = some o) → R () { s with heap := h', toks := tk }) :
 wpAny (model PG c.G.w) c.A (storeName c.env x v) R (fun _ _ => False) s := by
 have hx := List.mem_of_getElem? hn
 obtain ⟨oL, esL, epL, hoL, hdL, _⟩ := id E.ns
 have other : ∀ (j : Nat) y Y, c.names[j]? = some y → (setL r i X : List (Option V))[j]? = some (some Y) → (j = i ∧ y = x ∧ Y = X) ∨ (y ≠ x ∧ (r : List (Option V))[j]? = some (some Y)) := by
  intro j y Y e1 e2
  by_cases q : j = i
  ·subst q
   rw [hn] at e1; cases e1
   refine .inl ⟨rfl, rfl, ?_⟩
   unfold setL at e2
   rw [List.getElem?_set] at e2
   simp only [if_true] at e2
   split at e2
   ·cases e2; rfl
   ·cases e2
  ·refine .inr ⟨fun e => ?_, ?_⟩
   ·subst e
    have h1 := (List.getElem?_eq_some_iff.mp e1)
    have h2 := (List.getElem?_eq_some_iff.mp hn)
    obtain ⟨l1, e1'⟩ := h1; obtain ⟨l2, e2'⟩ := h2
    exact q ((List.getElem_inj c.es.nodup).mp (e1'.trans e2'.symm))
   ·unfold setL at e2
    rwa [List.getElem?_set_ne (fun e => q e.symm)] at e2
 rcases c.es.var x hx with hk | ⟨hk, cc, hl⟩
 ·refine wpAny_storeName_local hk E.ns (fun h' hn' hs => ?_) (by rw [c.es.kind]; rfl)
  have hb : ∀ b, b ≠ c.env.locals → h'.get? b = s.heap.get? b := hs.2
  have imm : ∀ a o, s.heap.get? a = some o → wjY o → h'.get? a = some o := fun a o e i => by
   rw [hb a]; exact e
   rintro rfl; rw [hoL] at e; cases e
   rcases i with ⟨_, _, _, q⟩ | ⟨_, _, q⟩ <;> rw [hdL] at q <;> cases q
  refine h h' _ _ (I.other E.lo E.lb (fun o e i => ?_) hb) ⟨hn', E.lo, E.lb, fun y a e => ?_, fun j y Y e1 e2 => ?_⟩ (FrM.other (.inl rfl) hb) imm
  ·rw [hoL] at e; cases e
   rcases i with ⟨_, _, _, q⟩ | ⟨_, _, q⟩ <;> rw [hdL] at q <;> cases q
  ·obtain ⟨c1, c2, c3, v0, hc⟩ := E.cl y a e
   exact ⟨c1, c2, c3, v0, hc.sameBut hs c3⟩
  ·rcases other j y Y e1 e2 with ⟨_, rfl, rfl⟩ | ⟨hne, e2'⟩
   ·exact ⟨v, rv.mono imm, .inl ⟨hk, by simp⟩⟩
   ·obtain ⟨u, hu, ha⟩ := E.vars j y Y e1 e2'
    refine ⟨u, hu.mono imm, ?_⟩
    rcases ha with ⟨hk', hm⟩ | ⟨hk', a, hl', hc⟩
    ·exact .inl ⟨hk', by simp [hne, hm]⟩
    ·exact .inr ⟨hk', a, hl', hc.sameBut hs (E.cl y a hl').2.2.1⟩
 ·obtain ⟨c1, c2, c3, v0, hc⟩ := E.cl x cc hl
  refine wpAny_storeName_cell c.es.kind hk hl hc (fun h' hc' hs => ?_)
  have hb : ∀ b, b ≠ cc → h'.get? b = s.heap.get? b := hs.2
  obtain ⟨oc, hoc, hdc⟩ := id hc
  have imm : ∀ a o, s.heap.get? a = some o → wjY o → h'.get? a = some o := fun a o e i => by
   rw [hb a]; exact e
   rintro rfl; rw [hoc] at e; cases e
   rcases i with ⟨_, _, _, q⟩ | ⟨_, _, q⟩ <;> rw [hdc] at q <;> cases q
  refine h h' s.toks m (I.other c1 c2 (fun o e i => ?_) hb) ⟨E.ns.sameBut hs (Ne.symm c3), E.lo, E.lb, fun y a e => ?_, fun j y Y e1 e2 => ?_⟩ (FrM.other (.inr ⟨x, hl⟩) hb) imm
  ·rw [hoc] at e; cases e
   rcases i with ⟨_, _, _, q⟩ | ⟨_, _, q⟩ <;> rw [hdc] at q <;> cases q
  ·obtain ⟨d1, d2, d3, v1, hd⟩ := E.cl y a e
   refine ⟨d1, d2, d3, ?_⟩
   by_cases q : a = cc
   ·subst q; exact ⟨_, hc'⟩
   ·exact ⟨v1, hd.sameBut hs q⟩
  ·rcases other j y Y e1 e2 with ⟨_, rfl, rfl⟩ | ⟨hne, e2'⟩
   ·exact ⟨v, rv.mono imm, .inr ⟨hk, cc, hl, hc'⟩⟩
   ·obtain ⟨u, hu, ha⟩ := E.vars j y Y e1 e2'
    refine ⟨u, hu.mono imm, ?_⟩
    rcases ha with ⟨hk', hm⟩ | ⟨hk', a, hl', hcy⟩
    ·exact .inl ⟨hk', hm⟩
    ·exact .inr ⟨hk', a, hl', hcy.sameBut hs (fun q => by subst q; exact hne (c.es.apart y x a hl' hl))⟩
theorem TS.then {H₀ : AH} {s s₁ : Shared} {t : Sem Flow} (f : FrM (ownE c.env) H₀ s.heap H s₁.heap) (x : TS c H s₁ t Q) :
 wpAny (model PG c.G.w) c.A t (FP c H₀ s.heap Q) (fun _ _ => False) s₁ :=
 wpAny_mono x (fun _ _ ⟨X, r, H', m, a, b, d, e, g⟩ => ⟨X, r, H', m, a, b, d, f.trans e, g⟩) fun _ _ e => e
theorem WSs_nil (h : Q .next r H) : WSs c r H [] Q := fun s m I E => wpAny_execs_nil ⟨.next, r, H, m, trivial, I, E, FrM.refl, h⟩
noncomputable def SeqQ (c : Cx) (rest : List Stmt) (Q : Fl → Loc → AH → Prop) (fl : Fl) (r : Loc) (H : AH) : Prop := match fl with
 | .next => WSs c r H rest Q
 | fl => Q fl r H
theorem seq_next {rest : List Stmt} (h : WSs c r H rest Q) : SeqQ c rest Q .next r H := h
theorem zcQ {st : Stmt} {rest : List Stmt} (h : WS c r H st (SeqQ c rest Q)) : WSs c r H (st :: rest) Q := fun s m I E =>
 wpAny_execs_cons (wpAny_mono (h s m I E) (fun fl s₁ h₁ => by
  obtain ⟨X, r1, H1, m1, a, I1, E1, f1, q⟩ := h₁
  cases fl <;> cases X <;> first | exact a.elim | skip
  ·exact TS.then f1 (q s₁ m1 I1 E1)
  ·exact ⟨.brk, r1, H1, m1, trivial, I1, E1, f1, q⟩
  ·exact ⟨.cont, r1, H1, m1, trivial, I1, E1, f1, q⟩
  ·exact ⟨.ret _, r1, H1, m1, a, I1, E1, f1, q⟩) fun _ _ e => e)
theorem WS_assign (i : Nat) {x : Str} {p p' : Pos} {value : Expr} (hn : c.names[i]? = some x) (h : WE c r H value (fun X H1 => Q .next (setL r i X) H1))
 (hs : swapsWith value (some (.Name x p')) p.line c.env = pure false := by rfl) : WS c r H (.Assign [.Name x p'] value p) Q := fun s m I E =>
 wpAny_Assign_Name (hs := hs) (wpAny_mono (h s m I E) (fun v s₁ h₁ => by
  obtain ⟨X, H1, rv, I1, f1, q⟩ := h₁
  refine wp_store i I1 (E.mono I f1) hn rv fun h' tk m' I2 E2 f2 _ => ?_
  exact ⟨.next, _, H1, m', trivial, I2, E2, f1.wide.trans f2, q⟩) fun _ _ e => e)
theorem WS_ret {e : Expr} {p : Pos} (h : WE c r H e (fun X H1 => Q (.ret X) r H1)) : WS c r H (.Return (some e) p) Q := fun s m I E =>
 wpAny_Return_some (wpAny_mono (h s m I E) (fun v s₁ h₁ => by
  obtain ⟨X, H1, rv, I1, f1, q⟩ := h₁
  exact ⟨.ret X, r, H1, m, rv, I1, E.mono I f1, f1.wide, q⟩) fun _ _ e => e)
theorem WS_ret0 {p : Pos} (h : Q (.ret .none) r H) : WS c r H (.Return none p) Q := fun s m I E => wpAny_Return_none ⟨.ret .none, r, H, m, rNone (h := s.heap), I, E, FrM.refl, h⟩
theorem WS_if {t : Expr} {a b : List Stmt} {p : Pos} (h : WT c r H t (fun z H1 => if z then WSs c r H1 a Q else WSs c r H1 b Q)) : WS c r H (.If t a b p) Q := fun s m I E =>
 wpAny_If (wpAny_mono (h s m I E) (fun z s₁ h₁ => by
  obtain ⟨H1, I1, f1, q⟩ := h₁
  cases z with
  | true => exact TS.then f1.wide (q s₁ m I1 (E.mono I f1))
  | false => exact TS.then f1.wide (q s₁ m I1 (E.mono I f1))) fun _ _ e => e)
theorem WS_expr {e : Expr} {p : Pos} (h : WE c r H e (fun X H1 => X = .none ∧ Q .next r H1)) (hk : c.env.scope.kind = .function := by exact c.es.kind) (hs : swapsWith e none p.line c.env = pure false := by rfl) : WS c r H (.Expr e p) Q := fun s m I E =>
 wpAny_Expr (hi := by unfold interactive; rw [hk]; rfl) (hs := hs) (wpAny_mono (h s m I E) (fun v s₁ h₁ => by
  obtain ⟨X, H1, rv, I1, f1, rfl, q⟩ := h₁
  cases rv
  exact ⟨.next, r, H1, m, trivial, I1, E.mono I f1, f1.wide, q⟩) fun _ _ e => e)
theorem WS_pass {p : Pos} (h : Q .next r H) : WS c r H (.Pass p) Q := fun s m I E => wpAny_Pass ⟨.next, r, H, m, trivial, I, E, FrM.refl, h⟩
theorem WS_brk {p : Pos} (h : Q .brk r H) : WS c r H (.Break p) Q := fun s m I E => by
 show wpAny _ _ (do standAt p; pure Flow.brk) _ _ s
 exact wpAny_bind (wpAny_standAt (wpAny_pure ⟨.brk, r, H, m, trivial, I, E, FrM.refl, h⟩))
theorem WS_cont {p : Pos} (h : Q .cont r H) : WS c r H (.Continue p) Q := fun s m I E => by
 show wpAny _ _ (do standAt p; pure Flow.cont) _ _ s
 exact wpAny_bind (wpAny_standAt (wpAny_pure ⟨.cont, r, H, m, trivial, I, E, FrM.refl, h⟩))
theorem WS_aug (i : Nat) {x : Str} {p p' : Pos} {op : Operator} {value : Expr} {X : V} (hn : c.names[i]? = some x) (hv : (r : List (Option V))[i]? = some (some X))
 (h : WE c r H value (fun Y H1 => IO c.G op X Y H1 (fun Z H2 => Q .next (setL r i Z) H2))) : WS c r H (.AugAssign (.Name x p') op value p) Q := fun s m I E => by
 obtain ⟨v, hr, ha⟩ := E.vars i x X hn hv
 refine wpAny_AugAssign_Name ?_
 have go : wpAny (model PG c.G.w) c.A (eval value c.env) (fun u s₂ => wpAny (model PG c.G.w) c.A (inplaceOp op v u) (fun z s₃ => wpAny (model PG c.G.w) c.A (storeName c.env x z) (fun _ s' => FP c H s.heap Q .next s') (fun _ _ => False) s₃) (fun _ _ => False) s₂) (fun _ _ => False) s := by
  refine h.thn I E fun u s₂ Y H1 ru I1 f1 Ef1 q => ?_
  refine wpAny_mono (q c.A s₂ v u (c.aok.le (Nat.zero_le _)) I1 (hr.mono (f1.imm I)) ru) (fun z s₃ h₃ => ?_) fun _ _ e => e
  obtain ⟨Z, H2, rz, I2, f2, q⟩ := h₃
  refine wp_store i I2 (Ef1.mono I1 f2) hn rz fun h' tk m' I3 E3 f3 _ => ?_
  exact ⟨.next, _, H2, m', trivial, I3, E3, (f1.trans f2).wide.trans f3, q⟩
 rcases ha with ⟨hk, hm⟩ | ⟨hk, a, hl, hc⟩
 ·exact wpAny_loadName_local c.es.kind hk E.ns hm go
 ·exact wpAny_loadName_cell c.es.kind hk hl hc go
noncomputable def fdIn (K : Frag) (f : Addr) : FuncData := match K.lookup f with
 | some ⟨_, _, .func fd, _⟩ => fd
 | _ => default
noncomputable def bodyOf (fd : FuncData) : List Stmt := match fd.body with
 | .stmts b => b
 | _ => []
noncomputable def fnChk (K : Frag) (f : Addr) (names gl : List Str) : Bool :=
 fnIn K f && (match (fdIn K f).body with | .stmts _ => true | _ => false) && codeIn K (fdIn K f).code (fdIn K f).qualname && !(fdIn K f).scope.isCoroutine && !(fdIn K f).scope.isGenerator &&
 decide ((fdIn K f).scope.kind = .function) && (fdIn K f).globals == mainGlobals && (fdIn K f).builtins == builtinsNs && (fdIn K f).closure.isEmpty &&
 ((fdIn K f).scope.names.all fun x => x.2 != .cell) && (names.all fun x => (fdIn K f).scope.names.lookup x == some .local) && (gl.all fun x => (fdIn K f).scope.names.lookup x == some .globalImplicit) && decide names.Nodup
structure FnOk (P : Params) (f : Addr) (names gl : List Str) : Prop where
 look : ∃ oc od osl, (KK P).lookup f = some ⟨oc, od, .func (fdIn (KK P) f), osl⟩
 body : (fdIn (KK P) f).body = .stmts (bodyOf (fdIn (KK P) f))
 code : codeIn (KK P) (fdIn (KK P) f).code (fdIn (KK P) f).qualname = true
 co : (fdIn (KK P) f).scope.isCoroutine = false
 gen : (fdIn (KK P) f).scope.isGenerator = false
 kind : (fdIn (KK P) f).scope.kind = .function
 globals : (fdIn (KK P) f).globals = mainGlobals
 builtins : (fdIn (KK P) f).builtins = builtinsNs
 closure : (fdIn (KK P) f).closure = []
 cell : ((fdIn (KK P) f).scope.names.all fun x => x.2 != .cell) = true
 vars : (names.all fun x => (fdIn (KK P) f).scope.names.lookup x == some .local) = true
 globs : (gl.all fun x => (fdIn (KK P) f).scope.names.lookup x == some .globalImplicit) = true
 nodup : decide names.Nodup = true
theorem FnOk.of {P : Params} {f : Addr} {names gl : List Str} (e : fnChk (KK P) f names gl = true) : FnOk P f names gl := by
 unfold fnChk at e
 simp only [Bool.and_eq_true, Bool.not_eq_true', beq_iff_eq, decide_eq_true_eq] at e
 obtain ⟨⟨⟨⟨⟨⟨⟨⟨⟨⟨⟨⟨e1, e2⟩, e3⟩, e4⟩, e5⟩, e6⟩, e7⟩, e8⟩, e9⟩, e10⟩, e11⟩, e12⟩, e13⟩ := e
 refine ⟨?_, ?_, e3, e4, e5, e6, e7, e8, List.isEmpty_iff.mp e9, e10, e11, e12, decide_eq_true e13⟩
 ·unfold fnIn at e1
  split at e1
  ·rename_i q
   unfold fdIn
   rw [q]; exact ⟨_, _, _, rfl⟩
  ·cases e1
 ·unfold bodyOf
  split at e2
  ·rename_i q; rw [q]
  ·cases e2
theorem zip_miss : ∀ {ps : List Str} {vs : List Value} {x : Str}, x ∉ ps → (ps.zip vs).reverse.lookup x = none
 | [], vs, x, _ => by simp
 | p :: ps, [], x, _ => by simp
 | p :: ps, v :: vs, x, h => by
  have h1 : (x == p) = false := beq_eq_false_iff_ne.mpr fun e => h (e ▸ .head _)
  rw [List.zip_cons_cons, List.reverse_cons, List.lookup_append, zip_miss (fun q => h (.tail _ q)), List.lookup_cons, h1]; rfl
theorem zip_lookup : ∀ {ps : List Str} {vs : List Value} {i : Nat} {x : Str} {v : Value}, ps.Nodup → ps[i]? = some x → vs[i]? = some v → (ps.zip vs).reverse.lookup x = some v
 | [], _, _, _, _, _, e, _ => by simp at e
 | _ :: _, [], _, _, _, _, _, e => by simp at e
 | p :: ps, w :: vs, 0, x, v, nd, e1, e2 => by
  simp at e1 e2; subst e1 e2
  rw [List.zip_cons_cons, List.reverse_cons, List.lookup_append, zip_miss (List.nodup_cons.mp nd).1, List.lookup_cons, beq_self_eq_true]; rfl
 | p :: ps, w :: vs, i + 1, x, v, nd, e1, e2 => by
  simp at e1 e2
  rw [List.zip_cons_cons, List.reverse_cons, List.lookup_append, zip_lookup (List.nodup_cons.mp nd).2 e1 e2]; rfl
theorem WCode_def {G : Gd} {lv : Nat} {f : Addr} {names gl ps : List Str} {args : List V} {H : AH} {Q : V → AH → Prop} {extra : List V} (ok : FnOk G.w.params f names gl)
 (hps : names.take ps.length = ps) (hlen : (args ++ extra).length = ps.length)
 (hbind : ∀ s vs, (KK G.w.params).In s.heap → RepL s.heap vs args → ∃ us, RepL s.heap us extra ∧ BindsTo s (fdIn (KK G.w.params) f) ⟨vs, []⟩ (ps.zip (vs ++ us)))
 (h : ∀ A env (aok : AOk lv A) (es : EnvS env names gl []), WSs ⟨G, A, env, names, gl, [], lv, aok, es⟩ ((args ++ extra).map some ++ List.replicate (names.length - ps.length) none) H (bodyOf (fdIn (KK G.w.params) f))
  (fun fl _ H1 => match fl with | .ret X => Q X H1 | .next => Q .none H1 | _ => False)) : waX G (lv + 1) (.ref f) args H Q := by
 intro A s vs aok I rv
 obtain ⟨oc, od, osl, hl⟩ := ok.look
 obtain ⟨us, ru, hb⟩ := hbind s vs (G.KI.keeps I.base) rv
 have hroom : A.depth < recursionLimit := by have := aok.depth; show A.depth < 1000; omega
 have nd : names.Nodup := of_decide_eq_true ok.nodup
 have lks : ∀ x ∈ names, (fdIn (KK G.w.params) f).scope.names.lookup x = some .local := fun x hx => beq_iff_eq.mp (List.all_eq_true.mp ok.vars x hx)
 have subps : ∀ x ∈ ps, x ∈ names := fun x hx => by rw [← hps] at hx; exact List.mem_of_mem_take hx
 have ndp : ps.Nodup := by rw [← hps]; exact nd.sublist (List.take_sublist _ _)
 refine codeAny_call_def (fd := fdIn (KK G.w.params) f) hroom (I.base f _ (G.KI f _ hl)) rfl (G.lim.keeps I.base) (codeRec_of (G.KI.keeps I.base) ok.code) ok.body hb ?_ ?_ ?_ ok.co ok.gen ok.kind
 ·intro x hx; simpa using List.all_eq_true.mp ok.cell x hx
 ·intro x hx; exact lks _ (subps _ (List.of_mem_zip hx).1)
 ·intro h₀ hns hk
  have es : EnvS (callEnv (fdIn (KK G.w.params) f) s.heap.objs.size f) names gl [] := by
   refine ⟨ok.kind, ok.globals, ok.builtins, nd, fun x hx => .inl (lks x hx), fun x y cc e => ?_, fun x hx => beq_iff_eq.mp (List.all_eq_true.mp ok.globs x hx), fun x hx => nomatch hx⟩
   have : (fdIn (KK G.w.params) f).closure.lookup x = some cc := e
   rw [ok.closure] at this; cases this
  have aok' : AOk lv (A.deeper (callEnv (fdIn (KK G.w.params) f) s.heap.objs.size f)) := ⟨aok.handled, by show A.depth + 1 + 3 * lv ≤ 900; have := aok.depth; omega, by show A.units + 3 + 10 * lv ≤ 9000; have := aok.units; omega⟩
  have I' : Inv G H { s with heap := h₀, toks := s.toks + (ps.zip (vs ++ us)).length } := I.grow hk
  have ki : ∀ a o, s.heap.get? a = some o → wjY o → h₀.get? a = some o := fun a o e _ => hk a o e
  have rvu : RepL h₀ (vs ++ us) (args ++ extra) := (rv.app ru).mono ki
  have E : ER ⟨G, _, _, names, gl, [], lv, aok', es⟩ ((args ++ extra).map some ++ List.replicate (names.length - ps.length) none) H h₀ (fun x => (ps.zip (vs ++ us)).reverse.lookup x) := by
   refine ⟨hns, I.size (Nat.le_refl _), ?_, fun x a e => ?_, fun i x X e1 e2 => ?_⟩
   ·cases q : G.h₀.get? (callEnv (fdIn (KK G.w.params) f) s.heap.objs.size f).locals with
    | none => rfl
    | some o => exact absurd (Heap.lt_size (I.base _ _ q)) (Nat.lt_irrefl _)
   ·have : (fdIn (KK G.w.params) f).closure.lookup x = some a := e
    rw [ok.closure] at this; cases this
   ·have hi : i < (args ++ extra).length := by
     rcases Nat.lt_or_ge i (args ++ extra).length with q | q
     ·exact q
     ·rw [List.getElem?_append_right (by rw [List.length_map]; exact q)] at e2
      obtain ⟨_, e⟩ := List.getElem?_eq_some_iff.mp e2
      rw [List.getElem_replicate] at e; cases e
    rw [List.getElem?_append_left (by rw [List.length_map]; exact hi), List.getElem?_map] at e2
    obtain ⟨Y, hY, hY'⟩ := Option.map_eq_some_iff.mp e2
    cases hY'
    obtain ⟨v, hv, rv'⟩ := rvu.get hY
    have hpx : ps[i]? = some x := by
     rw [← hps, List.getElem?_take_of_lt (by rw [← hlen]; exact hi)]; exact e1
    exact ⟨v, rv', .inl ⟨lks x (List.mem_of_getElem? e1), zip_lookup ndp hpx hv⟩⟩
  refine wpAny_mono (h _ _ aok' es _ _ I' E) (fun fl s' h' => ?_) fun _ _ e => e.elim
  obtain ⟨X, r', H', m', a, I1, E1, f1, q⟩ := h'
  have fr : FrM no H s.heap H' s'.heap := fun b o e n _ => f1 b o (hk b o e) n (by
   rintro (q | ⟨x, q⟩)
   ·exact absurd (Heap.lt_size e) (by rw [q]; exact Nat.lt_irrefl _)
   ·have : (fdIn (KK G.w.params) f).closure.lookup x = some b := q
    rw [ok.closure] at this; cases this)
  cases fl <;> cases X <;> first | exact a.elim | exact q.elim | skip
  ·exact ⟨_, .none, H', rfl, rNone (h := s'.heap), I1, fr, q⟩
  ·exact ⟨_, _, H', rfl, a, I1, fr, q⟩
noncomputable def Ret (Q : V → AH → Prop) (fl : Fl) (r : Loc) (H : AH) : Prop := match fl with
 | .ret X => Q X H
 | .next => Q .none H
 | _ => False
theorem waY {G : Gd} {lv : Nat} {f : Addr} {names gl ps : List Str} {args : List V} {H : AH} {Q : V → AH → Prop} {extra : List V}
 {name qual : Str} {params : Arguments} {body : List Stmt} {scope : Scope} {dV kV doc pm cdv ct oc : Value} {an od : Option Addr} {osl : Array (Option Value)}
 (ho : (hd.heap_1 G.w.params).lookup f = some ⟨oc, od, .func (fnOf name qual params body scope dV kV doc pm an cdv ct), osl⟩) (ok : FnOk G.w.params f names gl)
 (hps : names.take ps.length = ps) (hlen : (args ++ extra).length = ps.length)
 (hbind : ∀ s vs, (KK G.w.params).In s.heap → RepL s.heap vs args → ∃ us, RepL s.heap us extra ∧ BindsTo s (fnOf name qual params body scope dV kV doc pm an cdv ct) ⟨vs, []⟩ (ps.zip (vs ++ us)))
 (h : ∀ c : Cx, c.names = names → c.gl = gl → c.k = lv → c.G = G → WSs c ((args ++ extra).map some ++ List.replicate (names.length - ps.length) none) H body (Ret Q)) : waX G (lv + 1) (.ref f) args H Q := by
 have e : bodyOf (fdIn (KK G.w.params) f) = body := by unfold bodyOf fdIn KK; rw [ho]
 have e2 : fdIn (KK G.w.params) f = fnOf name qual params body scope dV kV doc pm an cdv ct := by unfold fdIn KK; rw [ho]
 exact WCode_def ok hps hlen (by rw [e2]; exact hbind) (by rw [e]; exact fun A env aok es => h _ rfl rfl rfl rfl)
end
set_option tactic.hygienic false
section
variable {c : Cx} {r : Loc} {H : AH} {Q : V → AH → Prop} {G : Gd}
noncomputable def GI (G : Gd) (o i : V) (H : AH) (Q : V → AH → Prop) : Prop :=
 ∀ A s v u, AOk 0 A → Inv G H s → Rep s.heap v o → Rep s.heap u i → ∃ T id, s.TypeIs v T ∧ typeLookup (.type T) "__getitem__" = pure (some (.builtin id)) ∧ TV G A H s (getItem v u) Q
theorem wp_subscripted {M : Model} {A : Around} {E : Value → Shared → Prop} {s : Shared} {sl : Expr} {o i : Value} {R : Value → Shared → Prop} (h : wpAny M A (getItem o i) R E s) : wpAny M A (subscripted sl false o i) R E s := by
 have k1 : wpAny M A (operate [o, i] (getItem o i)) R E s := wp_operate h
 cases sl with
 | Slice lo hi st p => cases st <;> first | exact k1 | exact wp_operate h
 | _ => exact k1
theorem WE_sub {value slice : Expr} {p : Pos} (h : WE c r H value (fun o H1 => WE c r H1 slice (fun i H2 => GI c.G o i H2 Q))) : WE c r H (.Subscript value slice p) Q := fun s m I E => by
 rw [eval_Subscript]
 refine wpAny_bind (h.thn I E fun v s₁ o H1 rv I1 f1 Ef1 h1 => ?_)
 refine wpAny_bind (wpAny_holding (wpAny_mono (h1 s₁ m I1 Ef1) (fun u s₂ h₂ => ?_) fun _ _ e => e))
 obtain ⟨i, H2, ru, I2, f2, h2⟩ := h₂
 obtain ⟨T, id, hT, hl, hg⟩ := h2 c.A s₂ v u (c.aok.le (Nat.zero_le _)) I2 (rv.mono (f2.imm I1)) ru
 refine wpAny_bind (wpAny_standAt (wpAny_bind ?_))
 rw [getitemInPython_of_ne hT.not_modules]
 refine wpAny_bind (wpAny_specialOf hT hl (wpAny_pure (wpAny_bind (wp_subscripted (wpAny_mono hg (fun x s₃ h₃ => ?_) fun _ _ e => e)))))
 obtain ⟨X, H3, rx, I3, f3, q⟩ := h₃
 exact wpAny_bind (wpAny_letTemporaryGo (wpAny_pure ⟨X, H3, rx, I3, (f1.trans f2).trans f3, q⟩))
theorem zaU {l : Addr} {vs : List V} {k : Int} {X : V} (hl : H l = some (.list vs)) (h0 : 0 ≤ k) (hk : k < 1000000000) (hx : vs[k.toNat]? = some X) (h : Q X H) : GI G (.ref l) (.int k) H Q := fun A s v u _ I rv ru => by
 cases rv
 obtain ⟨t, rfl⟩ := ru
 obtain ⟨items, n, hi, rl⟩ := I.own l _ hl
 obtain ⟨x, hx', rx⟩ := rl.get hx
 exact ⟨"list", _, hi.isList.typeIs, slot_list_getitem.lookup, wpAny_getItem_list hi.isList h0 (by omega) (by simpa using hx') (TV.now I rx FrM.refl h)⟩
theorem GI_listneg {l : Addr} {vs : List V} {k : Int} {X : V} (hl : H l = some (.list vs)) (h0 : k < 0) (hk : -(vs.length : Int) ≤ k) (hz : vs.length ≤ szL) (hx : vs[(k + vs.length).toNat]? = some X) (h : Q X H) : GI G (.ref l) (.int k) H Q := fun A s v u _ I rv ru => by
 cases rv
 obtain ⟨t, rfl⟩ := ru
 obtain ⟨items, n, hi, rl⟩ := I.own l _ hl
 obtain ⟨x, hx', rx⟩ := rl.get hx
 have hs : items.size = vs.length := by rw [← rl.len, Array.length_toList]
 refine ⟨"list", _, hi.isList.typeIs, slot_list_getitem.lookup, wpAny_getItem_list_neg hi.isList h0 (by omega) ?_ (by rw [hs]; simpa using hx') (TV.now I rx FrM.refl h)⟩
 unfold szL at hz; omega
theorem GI_bytes {l : List UInt8} {k : Int} {b : UInt8} (h0 : 0 ≤ k) (hz : l.length ≤ szL) (hx : l[k.toNat]? = some b) (h : Q (.int b.toNat) H) : GI G (.bytes l) (.int k) H Q := fun A s v u _ I rv ru => by
 obtain ⟨t, rfl⟩ := rv
 obtain ⟨t', rfl⟩ := ru
 obtain ⟨hlt, e⟩ := List.getElem?_eq_some_iff.mp hx
 refine ⟨"bytes", _, typeIs_bytes _ _ _, FB.slot_bytes_getitem.lookup, getItem_bytes (by unfold szL at hz; omega) h0 (by omega) (TV.now I.toks rInt FrM.refl ?_)⟩
 have : l.getD k.toNat 0 = b := by rw [List.getD_eq_getElem?_getD, hx]; rfl
 rw [this]; exact h
theorem GI_pr0 {i j : Int} (h : Q (.int i) H) : GI G (.pr i j) (.int 0) H Q := fun A s v u _ I rv ru => by
 obtain ⟨a, t, t', ep, rfl, hg⟩ := rv
 obtain ⟨t2, rfl⟩ := ru
 have ht : IsTup s.heap a #[.int i t, .int j t'] := ⟨_, hg, rfl, _, rfl⟩
 exact ⟨"tuple", _, ht.typeIs, slot_tuple_getitem.lookup, getItem_tuple (j := 0) ht (by decide) (by decide) rfl rfl (TV.now I rInt FrM.refl h)⟩
theorem GI_pr1 {i j : Int} (h : Q (.int j) H) : GI G (.pr i j) (.int 1) H Q := fun A s v u _ I rv ru => by
 obtain ⟨a, t, t', ep, rfl, hg⟩ := rv
 obtain ⟨t2, rfl⟩ := ru
 have ht : IsTup s.heap a #[.int i t, .int j t'] := ⟨_, hg, rfl, _, rfl⟩
 exact ⟨"tuple", _, ht.typeIs, slot_tuple_getitem.lookup, getItem_tuple (j := 1) ht (by decide) (by decide) rfl rfl (TV.now I rInt FrM.refl h)⟩
theorem wp_setItem_list {A : Around} {E : Value → Shared → Prop} {s : Shared} {l : Addr} {items : Array Value} {n : Nat} {k : Int} {t : Tok} {v : Value} {R : Unit → Shared → Prop} (hl : IsL s.heap l items n)
 (h0 : 0 ≤ k) (hn : k < items.size) (hz : k < 1000000000)
 (hQ : R () { s with heap := s.heap.update l (Obj.mapSeq (·.setIfInBounds k.toNat v)) }) : wpAny (model PG G.w) A (setItem (.ref l) (.int k t) v) R E s := by
 have hT := hl.isList.typeIs
 unfold setItem
 try with_reducible refine wpAny_holding ?_
 first | refine wpAny_bind (wpAny_pure ?_) | skip
 refine wpAny_bind (wpAny_sequenceKey hT (by decide) ?_)
 refine wpAny_bind (wpAny_callSpecial?_slot (name := Str.ofString "__setitem__") hT slot_list_setitem (wpAny_call_entry slot_list_setitem hT entry_list_setitem ?_ (args_list_setitem _ _ _)))
 show wpAny _ _ (Builtin.List.listSubscript? (.int k t) >>= _) _ _ s
 refine wpAny_bind (wpAny_listSubscript_int (fitsIndex_of h0 (by omega)) ?_)
 obtain ⟨j, rfl⟩ := Int.eq_ofNat_of_zero_le h0
 have hj : j < items.size := by omega
 have hx' : items[j]? = some items[j] := Array.getElem?_eq_getElem hj
 show wpAny _ _ ((seqItemAt l j >>= fun r => pure (r.map (j, ·))) >>= _) _ _ s
 refine wpAny_bind (wpAny_bind (wpAny_seqItemAt hl rfl (wpAny_pure ?_)))
 rw [hx']
 show wpAny _ _ (setSeqItemAt l j v >>= _) _ _ s
 refine wpAny_bind (wpAny_setSeqItemAt hl rfl ?_)
 first
  | exact wpAny_bind (wpAny_pure (wpAny_pure ⟨.none, rfl, wpAny_pure hQ⟩))
  | exact wpAny_pure ⟨.none, rfl, wpAny_pure hQ⟩
inductive SP (G : Gd) (H : AH) (h : Heap) (Q : AH → Prop) (s' : Shared) : Prop
 | mk (H' : AH) (I : Inv G H' s') (f : FrM no H h H' s'.heap) (q : Q H')
noncomputable def SI (G : Gd) (o i X : V) (H : AH) (Q : AH → Prop) : Prop :=
 ∀ A s v u x, AOk 0 A → Inv G H s → Rep s.heap v o → Rep s.heap u i → Rep s.heap x X →
  wpAny (model PG G.w) A (setItem v u x) (fun _ s' => SP G H s.heap Q s') (fun _ _ => False) s
theorem SI_list {l : Addr} {vs : List V} {k : Int} {X : V} {Q : AH → Prop} (hl : H l = some (.list vs)) (h0 : 0 ≤ k) (hn : k < vs.length) (hz : k < 1000000000) (h : Q (upd H l (.list (vs.set k.toNat X)))) : SI G (.ref l) (.int k) X H Q := fun A s v u x _ I rv ru rx => by
 cases rv
 obtain ⟨t, rfl⟩ := ru
 obtain ⟨items, n, hi, rl⟩ := I.own l _ hl
 have hs : items.size = vs.length := by rw [← rl.len, Array.length_toList]
 refine wp_setItem_list hi h0 (by omega) hz ?_
 have k1 : ∀ b, b ≠ l → (s.heap.update l (Obj.mapSeq (·.setIfInBounds k.toNat x))).get? b = s.heap.get? b := fun b hb => Heap.get?_update_other _ _ (Ne.symm hb)
 have ki : ∀ a o, s.heap.get? a = some o → wjY o → (s.heap.update l (Obj.mapSeq (·.setIfInBounds k.toNat x))).get? a = some o := fun a o e i => by
  rw [k1 a]; exact e
  rintro rfl; rw [I.imm e i] at hl; cases hl
 have cc : Conc G.w (s.heap.update l (Obj.mapSeq (·.setIfInBounds k.toNat x))) l (.list (vs.set k.toNat X)) :=
  ⟨_, _, hi.update _, by rw [Array.toList_setIfInBounds]; exact (rl.set rx).mono ki⟩
 exact ⟨_, I.store (tk := s.toks) hl k1 cc, FrM.store hl k1, h⟩
theorem wp_dictSet_int {A : Around} {E : Value → Shared → Prop} {s : Shared} {d : Addr} {f : Int → Option Value} {n : Nat} {k : Int} {t : Tok} {v : Value} {R : Unit → Shared → Prop} (hm : s.heap.MapOf (intKind PG G.w) d f) (hz : s.heap.DictLe d n) (hn : n ≤ 1000000)
 (hQ : ∀ h', h'.MapOf (intKind PG G.w) d (fun x => if x = k then some v else f x) → h'.DictLe d (n + 1) → (∀ b, b ≠ d → h'.get? b = s.heap.get? b) → R () { s with heap := h', toks := s.toks + 1 }) :
 wpAny (model PG G.w) A (dictSet d (.int k t) v) R E s := by
 obtain ⟨o, es, ep, ho, hc, hd, hk, hf⟩ := hm
 have hkey := intKind_is PG G.w k t
 have hsz := hz o es ep ho hd
 unfold dictSet
 try with_reducible refine wpAny_holding ?_
 refine wpAny_bind ((intKind PG G.w).pyHash hkey ?_)
 unfold dictSetHashed
 try with_reducible refine wpAny_holding ?_
 refine wpAny_bind (wpAny_dictFind_of (s := { s with toks := s.toks + 1 }) hkey ho hd hk ?_)
 cases hi : es.findIdx? fun e => (intKind PG G.w).is k e.key with
 | some i =>
  have hself := Heap.get?_update_self (Obj.mapDict (·.modify i fun e => { e with val := v })) ho (Obj.isFreed_of_dict (Obj.data_mapDict hd _))
  refine wpAny_bind (wpAny_rule (wpAny_bind (wpAny_updateDict (s := { s with toks := s.toks + 1 }) ho hd (wpAny_point (hQ _ ⟨_, _, ep, hself, hc.mapDict _, Obj.data_mapDict hd _, hk.modify _ _, fun x => ?_⟩ ?_ fun b hb => Heap.get?_update_other _ _ (Ne.symm hb))))))
  ·rw [findBy_modify (intKind PG G.w).is (intKind PG G.w).inj es k x v i hi, hf]
  ·intro o' es' ep' ho' hd'
   rw [hself] at ho'; cases ho'
   rw [Obj.data_mapDict hd] at hd'; cases hd'
   rw [Array.size_modify]; omega
 | none =>
  have hself := Heap.get?_update_self (Obj.mapDictKeys (·.push ⟨(intKind PG G.w).hash k, .int k t, v⟩)) ho (Obj.isFreed_of_dict (Obj.data_mapDictKeys hd _))
  refine wpAny_bind (wpAny_rule (wpAny_updateDictKeys (hz := by rw [sizeLine_eq]; omega) (s := { s with toks := s.toks + 1 }) ho hd (hQ _ ⟨_, _, ep + 1, hself, hc.mapDictKeys _, Obj.data_mapDictKeys hd _, hk.push hkey _, fun x => ?_⟩ ?_ fun b hb => Heap.get?_update_other _ _ (Ne.symm hb))))
  ·rw [findBy_push (intKind PG G.w).is es k x _ _ v (KeyKind.is_eq_decide hkey) hi, hf]
  ·intro o' es' ep' ho' hd'
   rw [hself] at ho'; cases ho'
   rw [Obj.data_mapDictKeys hd] at hd'; cases hd'
   rw [Array.size_push]; omega
theorem SI_dict {l : Addr} {n : Nat} {d : Int → Option Int} {k j : Int} {Q : AH → Prop} (hl : H l = some (.idict n d)) (hz : n ≤ 1000000) (h : Q (upd H l (.idict (n + 1) (fun x => if x = k then some j else d x)))) : SI G (.ref l) (.int k) (.int j) H Q := fun A s v u x _ I rv ru rx => by
 cases rv
 obtain ⟨t, rfl⟩ := ru
 obtain ⟨t', rfl⟩ := rx
 obtain ⟨⟨f, hm, hf⟩, hle⟩ := I.own l _ hl
 have hT : s.TypeIs (.ref l) "dict" := hm.typeIs
 unfold setItem
 try with_reducible refine wpAny_holding ?_
 first | refine wpAny_bind (wpAny_pure ?_) | skip
 refine wpAny_bind (wpAny_sequenceKey hT (by decide) ?_)
 refine wpAny_bind (wpAny_callSpecial?_slot (name := Str.ofString "__setitem__") hT slot_dict_setitem (wpAny_call_entry slot_dict_setitem hT entry_dict_setitem ?_ (args_dict_setitem _ _ _)))
 show wpAny _ _ (Builtin.Dict.notOrdered "__setitem__" ⟨[.ref l, .int k t, .int j t'], []⟩ >>= _) _ _ s
 refine wpAny_bind (wpAny_notOrdered_dict hT ?_)
 show wpAny _ _ (dictSet l (.int k t) (.int j t') >>= _) _ _ s
 refine wpAny_bind (wp_dictSet_int hm hle hz fun h' hm' hle' hs => wpAny_pure ⟨.none, rfl, wpAny_pure ?_⟩)
 refine ⟨_, I.store (ob := .idict (n + 1) (fun x => if x = k then some j else d x)) hl hs ⟨⟨_, hm', fun y => ?_⟩, hle'⟩, FrM.store hl hs, h⟩
 by_cases e : y = k
 ·simp only [e, if_true]; exact ⟨t', rfl⟩
 ·simp only [e, if_false]; exact hf y
theorem evalArgs_WL {A : Around} {s : Shared} {f : Value} {es : List Expr} {p : Pos} {R : Args → Shared → Prop} {M : Model} {E : Value → Shared → Prop} {env : Env}
 (h : wpAny M A (spliced (backTo p (starEach es env))) (fun vs s' => R ⟨vs, []⟩ s') E s) (he : (starEach es env).all (fun x => !x.1) = true) : wpAny M A (evalArgs f true (backTo p (starEach es env)) []) R E s := by
 generalize hq : starEach es env = l at h he
 match l with
 | [] =>
  unfold evalArgs
  show wpAny M A (spliced [] >>= _) R E s
  refine wpAny_bind (wpAny_mono h (fun vs s' h' => ?_) fun _ _ x => x)
  refine wpAny_holding ?_
  exact wpAny_bind (wpAny_pure (wpAny_bind (wpAny_pure (wpAny_pure h'))))
 | (true, x) :: rest => simp at he
 | (false, x) :: rest => exact Calls.evalArgs_plain h
theorem starPlain : ∀ {es : List Expr} {env : Env} {p : Pos}, (starEach es env).all (fun x => !x.1) = true → (backTo p (starEach es env)).any (·.1) = false := by
 intro es env p h
 unfold backTo
 rw [List.any_map, List.any_eq_false]
 intro x hx
 simpa using List.all_eq_true.mp h x hx
noncomputable def Kep (P : Params) : Value → Prop
 | .ref a => keepIn (KK P) (.ref a) = true
 | _ => True
theorem kep_looks {M : Model} {P : Params} {f : Value} (k : Kep P f) (h : Heap) (X : (KK P).In h) : ∃ k, (k = Keeper.frame ∨ k = Keeper.machine ∨ k = Keeper.boundFrame) ∧ Looks M h (keeperOf f) k := by
 cases f with
 | ref a => exact keeps_K k h X
 | _ => exact ⟨.machine, .inr (.inl rfl), Looks.of_pure rfl⟩
theorem callWith_WL {s : Shared} {m : Str → Option Value} {f : Value} {first : List Value} {es : List Expr} {p : Pos} (I : Inv c.G H s) (E : ER c r H s.heap m) (k : Kep c.G.w.params f) (he : (starEach es c.env).all (fun x => !x.1) = true) {Fs : List V} (rf : RepL s.heap first Fs)
 (h : WL c r H es (fun Xs H1 => wgV c.G c.k f (Fs ++ Xs) H1 Q)) : TV c.G c.A H s (callWith p f first (backTo p (starEach es c.env)) []) Q := by
 refine callWith_of (by simp [starPlain he]) (fun h X => kep_looks k h X) (P := fun h => (KK c.G.w.params).In h) (evalArgs_WL (wpAny_mono (h s m p I E) (fun vs s₁ h₁ => ?_) fun _ _ e => e) he)
 obtain ⟨Xs, H1, rv, I1, f1, q⟩ := h₁
 exact ⟨c.G.KI.keeps I1.base, TV.then f1 (q c.A s₁ _ c.aok I1 ((rf.mono (f1.imm I)).app rv))⟩
theorem WE_call (j : Nat) {x : Str} {np p : Pos} {es : List Expr} {f : Value} (hg : c.gl[j]? = some x) (e : Nam c.G.w x f) (k : Kep c.G.w.params f)
 (h : WL c r H es (fun Xs H1 => wgV c.G c.k f Xs H1 Q)) (he : (starEach es c.env).all (fun x => !x.1) = true := by rfl) : WE c r H (.Call (.Name x np) es [] p) Q := fun s m I E => by
 rw [arm_eval_Call_Name']
 exact wpAny_bind (name_any I (List.mem_of_getElem? hg) e (callWith_WL I E k he (Fs := []) trivial h))
structure wbV (P : Params) (C : Addr) (N : List Str) (x : Str) (f : Addr) : Prop where
 cls : ClsF P C N
 hf : findIn (KK P) (.ref C) x = some (some (.ref f))
 ht : isFn (KK P) (.ref f) = true
 kp : keepIn (KK P) (.ref f) = true
 nm : x ∉ N
structure NewF (P : Params) (C : Addr) (fI : Addr) : Prop where
 made : makesIn (KK P) C = true
 hi : findIn (KK P) (.ref C) "__init__" = some (some (.ref fI))
 hf : typeIn (KK P) (.ref fI) = some (.type "function")
theorem wiW {lv : Nat} {C fI : Addr} {args : List V} (N : List Str) (F : NewF G.w.params C fI)
 (h : ∀ a dx, H a = none → H dx = none → a ≠ dx → waX G lv (.ref fI) (.ref a :: args) (upd (upd H dx (.fields N [])) a (.inst C dx)) (fun X H1 => X = .none ∧ Q (.ref a) H1)) : waX G (lv + 1) (.ref C) args H Q := fun A s vs aok I rv => by
 obtain ⟨hh, g, d, t, os⟩ := s
 have X := G.KI.keeps I.base
 have k1 := zbQ hh emptyDict
 have k2 := zbQ (hh.push emptyDict) (instObj C hh.objs.size)
 have kk : ∀ a o, hh.get? a = some o → ((hh.push emptyDict).push (instObj C hh.objs.size)).get? a = some o := fun a o e => k2 a o (k1 a o e)
 have I1 : Inv G (upd H hh.objs.size (.fields N [])) ⟨hh.push emptyDict, g, d, t, os⟩ := I.alloc (ob := .fields N []) (tk := t) k1 (Nat.le_refl _) ⟨[], 0, Heap.get?_push_size _ rfl, trivial⟩
 have I2 : Inv G (upd (upd H hh.objs.size (.fields N [])) (hh.objs.size + 1) (.inst C hh.objs.size)) ⟨(hh.push emptyDict).push (instObj C hh.objs.size), g, d, t, os⟩ :=
  I1.alloc (ob := .inst C hh.objs.size) (tk := t) k2 (by show (hh.push emptyDict).objs.size ≤ _; rw [Heap.size_push]; exact Nat.le_refl _) (by
   have := Heap.get?_push_size (hh.push emptyDict) (o := instObj C hh.objs.size) rfl
   rw [Heap.size_push] at this; exact this)
 refine make_core (makes_of X F.made) (looks_findIn X F.hi) (fun self => bind_fn X self F.hf) (.inl rfl) ?_
 have hw := h (hh.objs.size + 1) hh.objs.size (I.size (Nat.le_succ _)) (I.size (Nat.le_refl _)) (Nat.succ_ne_self _)
 have aok' : AOk lv (A.under (.builtin "type.__call__" ⟨.ref C :: vs, []⟩)) := by
  refine ⟨aok.handled, ?_, ?_⟩
  ·have hd := aok.depth
   have : (Code.builtin "type.__call__" ⟨.ref C :: vs, []⟩).weight = 1 := by kernel_rfl
   show A.depth + _ + 3 * lv ≤ 900
   omega
  ·have hu := aok.units
   have : (Code.builtin "type.__call__" ⟨.ref C :: vs, []⟩).cUnits = 1 := by kernel_rfl
   show A.units + _ + 10 * lv ≤ 9000
   omega
 have fin := hw _ ⟨(hh.push emptyDict).push (instObj C hh.objs.size), g, d, t, os⟩ (.ref (hh.objs.size + 1) :: vs) aok' I2 ⟨rfl, rv.mono fun a o e _ => kk a o e⟩
 refine codeAny_mono fin fun r s' hr => ?_
 obtain ⟨v, X', H', rfl, rv', I', f', rfl, q⟩ := hr
 cases rv'
 refine ⟨rfl, ?_⟩
 refine ⟨_, .ref (hh.objs.size + 1), H', rfl, rfl, I', ?_, q⟩
 intro b o e n _
 refine f' b o (kk b o e) ?_ id
 have hlt := Heap.lt_size e
 rw [zbX _ _ (Nat.ne_of_lt (Nat.lt_succ_of_lt hlt)), zbX _ _ (Nat.ne_of_lt hlt)]
 exact n
end
set_option tactic.hygienic false
section
variable {c : Cx} {r : Loc} {H : AH} {Q : Fl → Loc → AH → Prop} {G : Gd}
theorem WS_setitem {o i value : Expr} {p' p : Pos} (h : WE c r H value (fun X H1 => WE c r H1 o (fun ov H2 => WE c r H2 i (fun iv H3 => SI c.G ov iv X H3 (fun H4 => Q .next r H4)))))
 (hs : swapsWith value (some (.Subscript o i p')) p.line c.env = pure false := by rfl) : WS c r H (.Assign [.Subscript o i p'] value p) Q := fun s m I E => by
 refine wpAny_Assign_Subscript (hs := hs) (h.thn I E fun x s₁ X H1 rx I1 f1 Ef1 h1 => ?_)
 refine wpAny_mono (h1 s₁ m I1 Ef1) (fun v s₂ h₂ => ?_) fun _ _ e => e
 obtain ⟨ov, H2, rv, I2, f2, h2⟩ := h₂
 refine wpAny_mono (h2 s₂ m I2 (E.mono I (f1.trans f2))) (fun u s₃ h₃ => ?_) fun _ _ e => e
 obtain ⟨iv, H3, ru, I3, f3, h3⟩ := h₃
 refine wpAny_mono (h3 c.A s₃ v u x (c.aok.le (Nat.zero_le _)) I3 (rv.mono (f3.imm I2)) ru (rx.mono ((f2.trans f3).imm I1))) (fun _ s₄ h₄ => ?_) fun _ _ e => e
 obtain ⟨H4, I4, f4, q⟩ := h₄
 have f := ((f1.trans f2).trans f3).trans f4
 exact ⟨.next, r, H4, m, trivial, I4, E.mono I f, f.wide, q⟩
noncomputable def setAll : Loc → List Nat → List V → Loc
 | r, i :: is, X :: Xs => setAll (setL r i X) is Xs
 | r, _, _ => r
theorem wp_storeAll (ts : List (Value → Sem Unit)) : ∀ (is : List Nat) (xs : List Str) (vs : List Value) (Xs : List V) {r : Loc} {s : Shared} {m : Str → Option Value} {R : Unit → Shared → Prop},
 ts.length = xs.length → is.length = xs.length → vs.length = xs.length → RepL s.heap vs Xs →
 (∀ (k : Nat) i x, is[k]? = some i → xs[k]? = some x → c.names[i]? = some x) →
 (∀ (k : Nat) (t : Value → Sem Unit) x, ts[k]? = some t → xs[k]? = some x → ∀ v s R, wpAny (model PG c.G.w) c.A (storeName c.env x v) R (fun _ _ => False) s → wpAny (model PG c.G.w) c.A (t v) R (fun _ _ => False) s) →
 Inv c.G H s → ER c r H s.heap m →
 (∀ h' tk m', Inv c.G H { s with heap := h', toks := tk } → ER c (setAll r is Xs) H h' m' → FrM (ownE c.env) H s.heap H h' → R () { s with heap := h', toks := tk }) →
 wpAny (model PG c.G.w) c.A (assignInOrder ts vs) R (fun _ _ => False) s := by
 induction ts with
 | nil =>
  intro is xs vs Xs r s m R l1 l2 l3 rv hn ht I E h
  have hx : xs = [] := List.length_eq_zero_iff.mp l1.symm
  subst hx
  have hi : is = [] := List.length_eq_zero_iff.mp l2
  have hv : vs = [] := List.length_eq_zero_iff.mp l3
  subst hi hv
  exact wpAny_pure (h s.heap s.toks m I E FrM.refl)
 | cons t ts ih =>
  intro is xs vs Xs r s m R l1 l2 l3 rv hn ht I E h
  cases xs with
  | nil => simp at l1
  | cons x xs =>
   cases is with
   | nil => simp at l2
   | cons i is =>
    cases vs with
    | nil => simp at l3
    | cons v vs =>
     cases Xs with
     | nil => exact rv.elim
     | cons X Xs =>
      obtain ⟨rv, rvs⟩ := rv
      unfold assignInOrder
      refine wpAny_bind (wpAny_holding (ht 0 t x rfl rfl v s _ (wp_store i I E (hn 0 i x rfl rfl) rv fun h' tk m' I1 E1 f1 im => ?_)))
      refine ih is xs vs Xs (by simpa using l1) (by simpa using l2) (by simpa using l3) (rvs.mono im) (fun k => hn (k + 1)) (fun k => ht (k + 1)) I1 E1 fun h2 tk2 m2 I2 E2 f2 => ?_
      exact h h2 tk2 m2 I2 E2 (f1.trans f2)
inductive Tgs : List Expr → List Str → Prop where
 | nil : Tgs [] []
 | cons {x p es xs} : Tgs es xs → Tgs (.Name x p :: es) (x :: xs)
theorem Tgs.len {es : List Expr} {xs : List Str} (t : Tgs es xs) : (assignEach es c.env).length = xs.length := by
 induction t with
 | nil => rfl
 | cons _ ih => show (_ :: _).length = _; simp [ih]
theorem Tgs.star {es : List Expr} {xs : List Str} (t : Tgs es xs) : (assignEach es c.env).findIdx? (·.1) = none := by
 induction t with
 | nil => rfl
 | @cons x p es xs _ ih =>
  show ((false, assign (.Name x p) c.env) :: assignEach es c.env).findIdx? (·.1) = none
  rw [List.findIdx?_cons]; simp [ih]
theorem Tgs.at {es : List Expr} {xs : List Str} (t : Tgs es xs) : ∀ (k : Nat) (f : Value → Sem Unit) x, ((assignEach es c.env).map (·.2))[k]? = some f → xs[k]? = some x → ∀ v s R, wpAny (model PG c.G.w) c.A (storeName c.env x v) R (fun _ _ => False) s → wpAny (model PG c.G.w) c.A (f v) R (fun _ _ => False) s := by
 induction t with
 | nil => intro k f x e; simp [assignEach] at e
 | @cons y p es xs _ ih =>
  intro k f x e1 e2 v s R h
  cases k with
  | zero =>
   have e1 : some (assign (.Name y p) c.env) = some f := e1
   cases e1
   simp at e2; subst e2
   exact assign_Name h
  | succ k => exact ih k f x e1 (by simpa using e2) v s R h
theorem weW {es : List Expr} {xs : List Str} (is : List Nat) {k : Nat} {tp : Pos} {a : Addr} {vs : List Value} {Xs : List V} {s : Shared} {m : Str → Option Value} {R : Unit → Shared → Prop} (T : Tgs es xs)
 (hi : is.length = xs.length) (hl : vs.length = xs.length) (hn : ∀ (k : Nat) i x, is[k]? = some i → xs[k]? = some x → c.names[i]? = some x)
 (ht : s.heap.IsTuple a vs.toArray) (rv : RepL s.heap vs Xs) (I : Inv c.G H s) (E : ER c r H s.heap m)
 (h : ∀ h' tk m', Inv c.G H { s with heap := h', toks := tk } → ER c (setAll r is Xs) H h' m' → FrM (ownE c.env) H s.heap H h' → R () { s with heap := h', toks := tk }) :
 wpAny (model PG c.G.w) c.A (assign (.Tuple es k tp) c.env (.ref a)) R (fun _ _ => False) s := by
 refine wpAny_assign_Tuple c.aok.handled ht (by rw [T.len]; simp [hl]) T.star fun h₁ he => ?_
 have g : ∀ b o, s.heap.get? b = some o → h₁.get? b = some o := fun b o e => he b o (Nat.ne_of_lt (Heap.lt_size e)) e
 refine wp_storeAll _ is xs vs Xs (by simp [T.len]) hi hl (rv.mono fun b o e _ => g b o e) hn T.at (I.grow (tk := s.toks) g) (E.mono I (FrM.grow g)) fun h2 tk2 m2 I2 E2 f2 => ?_
 exact h h2 tk2 m2 I2 E2 ((FrM.grow g).trans f2)
theorem setL_comm {i j : Nat} {X Y : V} (h : i ≠ j) : setL (setL r i X) j Y = setL (setL r j Y) i X := by
 unfold setL; exact List.set_comm _ _ h
noncomputable def wfW : List Expr → Bool := fun vs => vs.any fun | .Starred .. => true | _ => false
noncomputable def namesL (env : Env) (line : Nat) (ts : List Expr) : List Str := ts.filterMap fun
 | .Name id pos => if env.kindOf id == some .local && pos.line == line then some id else none
 | _ => none
theorem sw_eq {ts vs : List Expr} {k k' : Nat} {tp vp : Pos} {env : Env} (hb : env.blockKind = .function) (hl : ts.length = 2 ∨ ts.length = 3) (hv : vs.length = ts.length) (hst : wfW vs = false) :
 swappedStores [.Tuple ts k tp] (.Tuple vs k' vp) env = if (namesL env ((ts.head?.map (·.pos.line)).getD 0) ts).length != ts.length || (namesL env ((ts.head?.map (·.pos.line)).getD 0) ts).eraseDups.length != (namesL env ((ts.head?.map (·.pos.line)).getD 0) ts).length then pure none
  else if vs.all (foldedForSure 8) then pure none else if vs.all (constantsAlone 8) then unsupported "assign.tuple-of-constant-expressions:order-of-the-stores" else pure (some (namesL env ((ts.head?.map (·.pos.line)).getD 0) ts)) := by
 have h1 : (!(ts.length == 2 || ts.length == 3) || vs.length != ts.length || env.blockKind != .function) = false := by
  rw [hb, hv]; rcases hl with h | h <;> rw [h] <;> rfl
 show (if (!(ts.length == 2 || ts.length == 3) || vs.length != ts.length || env.blockKind != .function) = true then _ else if wfW vs = true then _ else _) = _
 rw [h1, hst]
 rfl
theorem namesL_le {env : Env} {l : Nat} : ∀ ts : List Expr, (namesL env l ts).length ≤ ts.length := fun ts => List.length_filterMap_le _ _
theorem namesL_all {env : Env} {l : Nat} {ts : List Expr} {xs : List Str} (T : Tgs ts xs) : (namesL env l ts).length = ts.length → namesL env l ts = xs := by
 induction T with
 | nil => intro _; rfl
 | @cons x p es xs _ ih =>
  intro h
  have e : namesL env l (.Name x p :: es) = (if (env.kindOf x == some .local && p.line == l) = true then x :: namesL env l es else namesL env l es) := by
   unfold namesL
   rw [List.filterMap_cons]
   by_cases q : (env.kindOf x == some .local && p.line == l) = true
   ·simp only [q, if_true]
   ·simp only [q, if_false, Bool.false_eq_true]
  rw [e] at h ⊢
  have := namesL_le (env := env) (l := l) es
  split at h
  ·rename_i q; rw [if_pos q, ih (by simpa using h)]
  ·rw [List.length_cons] at h; omega
theorem sw_any {ts vs : List Expr} {xs : List Str} {k k' : Nat} {tp vp : Pos} (T : Tgs ts xs) (hl : ts.length = 2 ∨ ts.length = 3) (hv : vs.length = ts.length) (hst : wfW vs = false) (hca : vs.all (constantsAlone 8) = false) :
 swappedStores [.Tuple ts k tp] (.Tuple vs k' vp) c.env = pure none ∨ swappedStores [.Tuple ts k tp] (.Tuple vs k' vp) c.env = pure (some xs) := by
 rw [sw_eq (by unfold Env.blockKind; rw [c.es.kind]; rfl) hl hv hst]
 split
 ·exact .inl rfl
 ·rename_i q
  simp only [Bool.or_eq_true, not_or, Bool.not_eq_true, bne_eq_false_iff_eq] at q
  rw [namesL_all T q.1, hca]
  split
  ·exact .inl rfl
  ·exact .inr rfl
theorem setAll_rev2 {i j : Nat} {X Y : V} (h : i ≠ j) : setAll r [j, i] [Y, X] = setAll r [i, j] [X, Y] := setL_comm (r := r) (Ne.symm h)
theorem setAll_rev3 {i j k : Nat} {X Y Z : V} (h1 : i ≠ j) (h2 : i ≠ k) (h3 : j ≠ k) : setAll r [k, j, i] [Z, Y, X] = setAll r [i, j, k] [X, Y, Z] := by
 show setL (setL (setL r k Z) j Y) i X = setL (setL (setL r i X) j Y) k Z
 rw [setL_comm (r := r) h3.symm, setL_comm (r := setL r j Y) h2.symm, setL_comm (r := r) h1.symm]
theorem lenS {α : Type} {l : List α} {n : Nat} (h : l.length = n + 1) : ∃ a t, l = a :: t ∧ t.length = n := by
 cases l with
 | nil => cases h
 | cons a t => exact ⟨a, t, rfl, Nat.succ.inj h⟩
theorem len2 {α : Type} {l : List α} (h : l.length = 2) : ∃ a b, l = [a, b] := by
 obtain ⟨a, _, rfl, h1⟩ := lenS h; obtain ⟨b, _, rfl, h2⟩ := lenS h1; exact ⟨a, b, by rw [List.eq_nil_of_length_eq_zero h2]⟩
theorem len3 {α : Type} {l : List α} (h : l.length = 3) : ∃ a b c, l = [a, b, c] := by
 obtain ⟨a, _, rfl, h1⟩ := lenS h; obtain ⟨b, c, rfl⟩ := len2 h1; exact ⟨a, b, c, rfl⟩
theorem setAll_rev {is : List Nat} {Xs : List V} (nd : is.Nodup) (hl : is.length = 2 ∨ is.length = 3) (hx : Xs.length = is.length) : setAll r is.reverse Xs.reverse = setAll r is Xs := by
 rcases hl with hl | hl
 ·obtain ⟨i, j, rfl⟩ := len2 hl
  obtain ⟨X, Y, rfl⟩ := len2 (hx.trans hl)
  exact setAll_rev2 fun e => (List.nodup_cons.1 nd).1 (e ▸ .head _)
 ·obtain ⟨i, j, k, rfl⟩ := len3 hl
  obtain ⟨X, Y, Z, rfl⟩ := len3 (hx.trans hl)
  exact setAll_rev3 (fun e => (List.nodup_cons.1 nd).1 (e ▸ .head _)) (fun e => (List.nodup_cons.1 nd).1 (e ▸ .tail _ (.head _))) (fun e => (List.nodup_cons.1 (List.nodup_cons.1 nd).2).1 (e ▸ .head _))
theorem Tgs.len' {es : List Expr} {xs : List Str} (t : Tgs es xs) : es.length = xs.length := by
 induction t with
 | nil => rfl
 | cons _ ih => simp [ih]
theorem WS_tuple {ts vs : List Expr} {xs : List Str} (is : List Nat) {k k' : Nat} {tp vp p : Pos} (T : Tgs ts xs) (hi : is.length = xs.length) (hn : ∀ (k : Nat) i x, is[k]? = some i → xs[k]? = some x → c.names[i]? = some x)
 (hl : ts.length = 2 ∨ ts.length = 3) (hv : vs.length = ts.length) (hst : wfW vs = false) (hca : vs.all (constantsAlone 8) = false) (nd : is.Nodup)
 (h : WL c r H vs (fun Xs H1 => Xs.length = is.length ∧ Q .next (setAll r is Xs) H1)) : WS c r H (.Assign [.Tuple ts k tp] (.Tuple vs k' vp) p) Q := fun s m I E => by
 have lx : ts.length = xs.length := T.len'
 have evalT : ∀ (R : Value → Shared → Prop), (∀ us Xs H1 s₁ a, us.length = xs.length → Xs.length = is.length → RepL s₁.heap us Xs → Inv c.G H1 s₁ → FrM no H s.heap H1 s₁.heap → s₁.heap.IsTuple a us.toArray → Q .next (setAll r is Xs) H1 → R (.ref a) s₁) → wpAny (model PG c.G.w) c.A (eval (.Tuple vs k' vp) c.env) R (fun _ _ => False) s := by
  intro R hR
  refine Tuple_ (wpAny_mono (h s m vp I E) (fun us s₁ h₁ => ?_) fun _ _ e => e)
  obtain ⟨Xs, H1, rv, I1, f1, lX, q⟩ := h₁
  have hz : us.length = xs.length := by rw [rv.len, lX, hi]
  refine wpAny_newObj_type ?_ (by show us.toArray.size ≤ sizeLine; rw [List.size_toArray, hz, ← lx, sizeLine_eq]; omega)
  have kp := zbQ s₁.heap { cls := .type "tuple", data := .seq us.toArray }
  exact hR us Xs H1 _ _ hz lX (rv.mono fun a o e _ => kp a o e) (I1.grow (tk := s₁.toks) kp) (f1.trans (FrM.grow kp)) ⟨_, Heap.get?_push_size _ rfl, rfl, 0, rfl⟩ q
 rcases sw_any (c := c) (k := k) (k' := k') (tp := tp) (vp := vp) T hl hv hst hca with hw | hw
 ·refine Assign_Tuple (hs := rfl) (hw := hw) (evalT _ fun us Xs H1 s₁ a hz lX rv I1 f1 ht q => ?_)
  refine weW is T hi hz hn ht rv I1 (E.mono I f1) fun h' tk m' I2 E2 f2 => ?_
  exact ⟨.next, _, H1, m', trivial, I2, E2, f1.wide.trans f2, q⟩
 ·refine Assign_Tuple_swapped (names := xs) (hs := rfl) (hw := hw) (evalT _ fun us Xs H1 s₁ a hz lX rv I1 f1 ht q => ?_)
  have hsz : xs.length = us.toArray.size := by simp [hz]
  rw [hsz]
  refine wpAny_unpackItems_tuple c.aok.handled ht fun h₁ he => ?_
  have g : ∀ b o, s₁.heap.get? b = some o → h₁.get? b = some o := fun b o e => he b o (Nat.ne_of_lt (Heap.lt_size e)) e
  have rv' : RepL h₁ us Xs := rv.mono fun b o e _ => g b o e
  have rr : RepL h₁ us.toArray.toList.reverse Xs.reverse := rv'.rev
  refine wp_storeAll (c := c) (H := H1) _ is.reverse xs.reverse us.toArray.toList.reverse Xs.reverse (by simp) (by simp [hi]) (by simp [hz]) rr (fun kk i x e1 e2 => ?_) (fun kk t x e1 e2 v s R hh => ?_) (I1.grow (tk := s₁.toks) g) ((E.mono I f1).mono I1 (FrM.grow g)) fun h2 tk2 m2 I2 E2 f2 => ?_
  ·have hk : kk < is.length := by have := (List.getElem?_eq_some_iff.mp e1).1; simpa using this
   rw [List.getElem?_reverse hk] at e1
   rw [List.getElem?_reverse (by rw [← hi]; exact hk), ← hi] at e2
   exact hn _ i x e1 e2
  ·rw [List.getElem?_map, e2] at e1
   cases e1
   exact bindName_ hh
  ·rw [setAll_rev nd (by rw [hi, ← lx]; exact hl) lX] at E2
   exact ⟨.next, _, H1, m2, trivial, I2, E2, ((f1.wide.trans (FrM.grow g)).trans f2), q⟩
theorem WS_unpair {ts : List Expr} {x y : Str} (i j : Nat) {k : Nat} {tp p : Pos} {value : Expr} (T : Tgs ts [x, y]) (h1 : c.names[i]? = some x) (h2 : c.names[j]? = some y)
 (h : WE c r H value (fun X H1 => ∃ a b, X = .pr a b ∧ Q .next (setL (setL r i (.int a)) j (.int b)) H1))
 (hs : swapsWithSole [.Tuple ts k tp] value p.line c.env = pure false := by rfl) (hw : swappedStores [.Tuple ts k tp] value c.env = pure none := by rfl) : WS c r H (.Assign [.Tuple ts k tp] value p) Q := fun s m I E => by
 refine Assign_Tuple (hs := hs) (hw := hw) (h.thn I E fun v s₁ X H1 rv I1 f1 Ef1 q0 => ?_)
 obtain ⟨a, b, rfl, q⟩ := q0
 obtain ⟨ad, t, u, ep, rfl, hg⟩ := rv
 refine weW [i, j] T rfl (vs := [.int a t, .int b u]) (Xs := [.int a, .int b]) rfl (fun kk ii z e1 e2 => ?_) ⟨_, hg, rfl, _, rfl⟩ ⟨rInt, rInt, trivial⟩ I1 Ef1 fun h' tk m' I2 E2 f2 => ?_
 ·match kk with
  | 0 => simp at e1 e2; subst e1 e2; exact h1
  | 1 => simp at e1 e2; subst e1 e2; exact h2
  | _ + 2 => simp at e1
 ·exact ⟨.next, _, H1, m', trivial, I2, E2, f1.wide.trans f2, q⟩
theorem mark_none (A : Around) : A.mark none = A := by unfold Around.mark; cases A; simp
theorem whY {t : Expr} {body : List Stmt} {p : Pos} (inv : Nat → Loc → AH → Prop) (n : Nat) (h0 : inv n r H)
 (h : ∀ n r' H', inv n r' H' → WT c r' H' t (fun z H1 => if z then WSs c r' H1 body (fun fl r2 H2 => match fl with | .next | .cont => ∃ k, k < n ∧ inv k r2 H2 | .brk => Q .next r2 H2 | .ret X => Q (.ret X) r2 H2) else Q .next r' H1)) :
 WS c r H (.While t body [] p) Q := fun s m I E => by
 refine wpAny_While ?_
 refine codeAny_whileLoop (fun n s' => ∃ r' H' m', inv n r' H' ∧ Inv c.G H' s' ∧ ER c r' H' s'.heap m' ∧ FrM (ownE c.env) H s.heap H' s'.heap) (fun n s' hi => ?_) n ⟨r, H, m, h0, I, E, FrM.refl⟩
 obtain ⟨r', H', m', hv, I', E', f'⟩ := hi
 refine wpAny_mono (h n r' H' hv s' m' I' E') (fun z s₁ h₁ => ?_) fun _ _ e => e.elim
 obtain ⟨H1, I1, f1, q⟩ := h₁
 cases z with
 | true =>
  refine wpAny_mono (q s₁ m' I1 (E'.mono I' f1)) (fun fl s₂ h₂ => ?_) fun _ _ e => e.elim
  obtain ⟨X, r2, H2, m2, a, I2, E2, f2, q⟩ := h₂
  have f := (f'.trans f1.wide).trans f2
  cases fl <;> cases X <;> first | exact a.elim | skip
  ·obtain ⟨k, hk, hv'⟩ := q
   exact ⟨k, hk, r2, H2, m2, hv', I2, E2, f⟩
  ·exact ⟨.next, r2, H2, m2, trivial, I2, E2, f, q⟩
  ·obtain ⟨k, hk, hv'⟩ := q
   exact ⟨k, hk, r2, H2, m2, hv', I2, E2, f⟩
  ·exact ⟨.ret _, r2, H2, m2, a, I2, E2, f, q⟩
 | false => exact wpAny_execs_nil ⟨.next, r', H1, m', trivial, I1, E'.mono I' f1, f'.trans f1.wide, q⟩
end
set_option tactic.hygienic false
noncomputable def notOwner (n : String) : Bool := !["enumerate", "zip", "dict_itemiterator", "dict_reverseitemiterator", "odict_iterator", "itertools.zip_longest", "itertools.pairwise"].contains n
structure ItOk (G : Gd) (ia : Addr) (J : Nat → Heap → Prop) (vs : List V) (keep : Shared → Prop) : Prop where
 loc : ∀ i h h', J i h → (∀ o, h.get? ia = some o → h'.get? ia = some o) → J i h'
 here : ∀ i h, J i h → ∃ o n, h.get? ia = some o ∧ o.cls = .type n ∧ notOwner n = true ∧ ¬ wjY o
 next : ∀ i X A s (R : Option Value → Shared → Prop), vs[i]? = some X → AOk 0 A → keep s → J i s.heap →
  (∀ v h' tk, Rep s.heap v X → J (i + 1) h' → (∀ b, b ≠ ia → h'.get? b = s.heap.get? b) → R (some v) { s with heap := h', toks := tk }) → wpAny (model PG G.w) A (pyNext (.ref ia)) R (fun _ _ => False) s
 stop : ∀ A s (R : Option Value → Shared → Prop), AOk 0 A → keep s → J vs.length s.heap →
  (∀ h' tk, (∀ b o, b ≠ ia → s.heap.get? b = some o → h'.get? b = some o) → R none { s with heap := h', toks := tk }) → wpAny (model PG G.w) A (pyNext (.ref ia)) R (fun _ _ => False) s
 self : ∀ i A s (R : Value → Shared → Prop), J i s.heap → R (.ref ia) s → wpAny (model PG G.w) A (pyIter (.ref ia)) R (fun _ _ => False) s
noncomputable def Iter (G : Gd) (o : V) (H : AH) (vs : List V) (kp : AH → Prop) : Prop :=
 ∀ A s v (R : Value → Shared → Prop), AOk 0 A → Inv G H s → Rep s.heap v o →
  (∀ ia J h', (∀ b ob, s.heap.get? b = some ob → h'.get? b = some ob) → s.heap.objs.size ≤ ia → J 0 h' → ItOk G ia J vs (fun s' => ∃ H', kp H' ∧ Inv G H' s') → R (.ref ia) { s with heap := h' }) →
  wpAny (model PG G.w) A (pyIter v) R (fun _ _ => False) s
section
variable {G : Gd} {H : AH}
theorem zcV {l : Addr} {vs : List V} (hl : H l = some (.list vs)) : Iter G (.ref l) H vs (fun H' => H' l = some (.list vs)) := fun A s v R _ I rv h => by
 cases rv
 obtain ⟨items, n, hi, rl⟩ := I.own l _ hl
 refine wpAny_pyIter_list hi.isList ?_
 refine h s.heap.objs.size (fun i hh => hh.IsListIter s.heap.objs.size l i) _ (zbQ _ _) (Nat.le_refl _) ⟨_, Heap.get?_push_size _ rfl, rfl, rfl⟩ ⟨?_, ?_, ?_, ?_, ?_⟩
 ·rintro i h1 h2 ⟨o, ho, q⟩ k; exact ⟨o, k o ho, q⟩
 ·rintro i h1 ⟨o, ho, hc, hd⟩; exact ⟨o, _, ho, hc, by decide +kernel, by rintro (⟨q, _⟩ | ⟨q, _⟩) <;> rw [hc] at q <;> simp at q⟩
 ·intro i X A s' R' hx _ ⟨H', hl', I'⟩ hj hR
  obtain ⟨items', n', hi', rl'⟩ := I'.own l _ hl'
  obtain ⟨x, hx', rx⟩ := rl'.get hx
  exact wpAny_pyNext_list_item hj hi'.isList (by simpa using hx') fun h2 hj2 hs => hR x h2 s'.toks rx hj2 hs.2
 ·intro A s' R' aok ⟨H', hl', I'⟩ hj hR
  obtain ⟨items', n', hi', rl'⟩ := I'.own l _ hl'
  exact wpAny_pyNext_list_end aok.handled hj hi'.isList (by rw [Array.getElem?_eq_none_iff, ← Array.length_toList, rl'.len]; exact Nat.le_refl _) fun h2 he => hR h2 s'.toks fun b o hb e => he b o hb e
 ·intro i A s' R' hj hR
  exact wpAny_pyIter_listiter hj hR
noncomputable def rngL (i j : Int) : List V := (List.range (j - i).toNat).map fun (k : Nat) => .int (i + (k : Int))
theorem size_rng (i j : Int) : Builtin.Range.rangeSize i j 1 = ((j - i).toNat : Int) := by
 unfold Builtin.Range.rangeSize
 simp only [show (1 : Int) > 0 by decide, if_true]
 split <;> omega
theorem small_rng {i j : Int} (h1 : -1000000 ≤ i) (h2 : i ≤ 1000000) (h3 : -1000000 ≤ j) (h4 : j ≤ 1000000) : Builtin.Range.small i j 1 = true := by
 have := size_rng i j
 unfold Builtin.Range.small
 simp only [this, Builtin.Range.rangeFitsLong, Bool.and_eq_true, Bool.or_eq_true, decide_eq_true_eq, show (1 : Int) > 0 by decide, if_true]
 refine ⟨⟨⟨⟨?_, ?_⟩, ?_⟩, ?_⟩, .inr ?_⟩ <;> first | omega | decide
theorem whX {i j : Int} (h1 : -1000000 ≤ i) (h2 : i ≤ 1000000) (h3 : -1000000 ≤ j) (h4 : j ≤ 1000000) : Iter G (.rng i j) H (rngL i j) (fun _ => True) := fun A s v R _ I rv h => by
 obtain ⟨a, t1, t2, t3, rfl, hg⟩ := rv
 refine wpAny_pyIter_range (a := i) (b := j) (c := 1) hg (small_rng h1 h2 h3 h4) ?_
 rw [size_rng]
 refine h s.heap.objs.size (fun k hh => IsRangeIter hh s.heap.objs.size (i + k) (((j - i).toNat : Int) - k) 1) _ (zbQ _ _) (Nat.le_refl _) ?_ ⟨?_, ?_, ?_, ?_, ?_⟩
 ·simpa using Heap.get?_push_size _ rfl
 ·intro k x y e q; exact q _ e
 ·intro k x e; exact ⟨_, _, e, rfl, by decide +kernel, by rintro (⟨q, _⟩ | ⟨q, _⟩) <;> simp at q⟩
 ·intro k X A s' R' hx _ _ hj hR
  have hk : k < (j - i).toNat := by have := (List.getElem?_eq_some_iff.mp hx).1; simpa [rngL] using this
  have hX : X = .int (i + k) := by
   have := (List.getElem?_eq_some_iff.mp hx).2
   simp [rngL] at this; exact this.symm
  subst hX
  refine wpAny_pyNext_range_item hj (by omega) fun h2 hj2 hs => hR _ h2 _ rInt ?_ hs.2
  have e1 : i + ((k + 1 : Nat) : Int) = i + (k : Int) + 1 := by omega
  have e2 : ((j - i).toNat : Int) - ((k + 1 : Nat) : Int) = ((j - i).toNat : Int) - (k : Int) - 1 := by omega
  rw [e1, e2]; exact hj2
 ·intro A s' R' aok _ hj hR
  refine wpAny_pyNext_range_end aok.handled hj (by simp [rngL]) fun h2 he => hR h2 s'.toks fun b o hb e => he b o hb e
 ·intro k A s' R' hj hR
  exact wpAny_pyIter_rangeiter hj hR
theorem Iter_bytes {l : List UInt8} : Iter G (.bytes l) H (l.map fun b => .int b.toNat) (fun _ => True) := fun A s v R _ I rv h => by
 obtain ⟨t, rfl⟩ := rv
 refine KBw.pyIter_bytes ?_
 refine h s.heap.objs.size (fun k hh => KBw.IsBytesIter hh s.heap.objs.size l.toArray t k) _ (zbQ _ _) (Nat.le_refl _) ⟨_, Heap.get?_push_size _ rfl, rfl, rfl⟩ ⟨?_, ?_, ?_, ?_, ?_⟩
 ·rintro i h1 h2 ⟨o, ho, q⟩ k; exact ⟨o, k o ho, q⟩
 ·rintro i h1 ⟨o, ho, hc, hd⟩; exact ⟨o, _, ho, hc, by decide +kernel, by rintro (⟨q, _⟩ | ⟨q, _⟩) <;> rw [hc] at q <;> simp at q⟩
 ·intro k X A s' R' hx _ _ hj hR
  rw [List.getElem?_map] at hx
  obtain ⟨b, hb, rfl⟩ := Option.map_eq_some_iff.mp hx
  exact KBw.next_item hj (c := b) (by simpa using hb) fun h2 hj2 hs => hR _ h2 _ rInt hj2 hs.2
 ·intro A s' R' aok _ hj hR
  refine KBw.next_end aok.handled hj (by simp) fun h2 he => hR h2 s'.toks fun b o hb e => he b o hb e
 ·intro k A s' R' hj hR
  exact KBw.pyIter_self hj hR
theorem Iter_tup {a : Addr} {items : List Value} {Xs : List V} {n : Nat} {dd : Option Addr} {sl : Array (Option Value)} (hl : (KK G.w.params).lookup a = some ⟨.type "tuple", dd, .seq items.toArray n, sl⟩) (hx : ∀ h, RepL h items Xs) : Iter G (.ref a) H Xs (fun _ => True) := fun A s v R _ I rv h => by
 cases rv
 have ht : ∀ s' H', Inv G H' s' → s'.heap.IsTuple a items.toArray := fun s' H' I' => ⟨_, I'.base _ _ (G.KI _ _ hl), rfl, n, rfl⟩
 refine wpAny_pyIter_tuple (ht s H I) ?_
 refine h s.heap.objs.size (fun i hh => hh.IsTupleIter s.heap.objs.size a i) _ (zbQ _ _) (Nat.le_refl _) ⟨_, Heap.get?_push_size _ rfl, rfl, rfl⟩ ⟨?_, ?_, ?_, ?_, ?_⟩
 ·rintro i h1 h2 ⟨o, ho, q⟩ k; exact ⟨o, k o ho, q⟩
 ·rintro i h1 ⟨o, ho, hc, hd⟩; exact ⟨o, _, ho, hc, by decide +kernel, by rintro (⟨q, _⟩ | ⟨q, _⟩) <;> rw [hc] at q <;> simp at q⟩
 ·intro i X A s' R' hX _ ⟨H', _, I'⟩ hj hR
  obtain ⟨x, hx', rx⟩ := (hx s'.heap).get hX
  exact wpAny_pyNext_tuple_item hj (ht s' H' I') (by simpa using hx') fun h2 hj2 hs => hR x h2 s'.toks rx hj2 hs.2
 ·intro A s' R' aok ⟨H', _, I'⟩ hj hR
  exact wpAny_pyNext_tuple_end aok.handled hj (ht s' H' I') (by rw [Array.getElem?_eq_none_iff, List.size_toArray, (hx s'.heap).len]; exact Nat.le_refl _) fun h2 he => hR h2 s'.toks fun b o hb e => he b o hb e
 ·intro i A s' R' hj hR
  exact wpAny_pyIter_tupleiter hj hR
end
section
variable {c : Cx} {r : Loc} {H : AH} {Q : Fl → Loc → AH → Prop}
noncomputable def WA (c : Cx) (r : Loc) (H : AH) (t : Expr) (X : V) (K : Loc → Prop) : Prop :=
 ∀ s m v (R : Unit → Shared → Prop), Inv c.G H s → ER c r H s.heap m → Rep s.heap v X →
  (∀ r2 h' tk m', K r2 → Inv c.G H { s with heap := h', toks := tk } → ER c r2 H h' m' → FrM (ownE c.env) H s.heap H h' → R () { s with heap := h', toks := tk }) →
  wpAny (model PG c.G.w) c.A (assign t c.env v) R (fun _ _ => False) s
theorem WA_name (i : Nat) {x : Str} {p : Pos} {X : V} {K : Loc → Prop} (hn : c.names[i]? = some x) (h : K (setL r i X)) : WA c r H (.Name x p) X K := fun s m v R I E rv hR =>
 assign_Name (wp_store i I E hn rv fun h' tk m' I1 E1 f1 _ => hR _ h' tk m' h I1 E1 f1)
theorem WA_pair (i j : Nat) {ts : List Expr} {x y : Str} {k : Nat} {tp : Pos} {a b : Int} {K : Loc → Prop} (T : Tgs ts [x, y]) (h1 : c.names[i]? = some x) (h2 : c.names[j]? = some y) (h : K (setL (setL r i (.int a)) j (.int b))) :
 WA c r H (.Tuple ts k tp) (.pr a b) K := fun s m v R I E rv hR => by
 obtain ⟨ad, t, u, ep, rfl, hg⟩ := rv
 refine weW [i, j] T rfl (vs := [.int a t, .int b u]) (Xs := [.int a, .int b]) rfl (fun kk ii z e1 e2 => ?_) ⟨_, hg, rfl, _, rfl⟩ ⟨rInt, rInt, trivial⟩ I E fun h' tk m' I2 E2 f2 => hR _ h' tk m' h I2 E2 f2
 match kk with
 | 0 => simp at e1 e2; subst e1 e2; exact h1
 | 1 => simp at e1 e2; subst e1 e2; exact h2
 | _ + 2 => simp at e1
theorem wp_letOwned {M : Model} {A : Around} {E : Value → Shared → Prop} {s : Shared} {t : Expr} {ia : Addr} {v : Value} {o : Obj} {n : String} {R : Unit → Shared → Prop} (ho : s.heap.get? ia = some o) (hc : o.cls = .type n) (hn : notOwner n = true) (h : R () s) : wpAny M A (letOwnedTupleGo t (.ref ia) v) R E s := by
 have go : ∀ a, wpAny M A (do
  let o ← load ia
  match o.cls, o.data with
  | .type n, .fields vs =>
   if ["enumerate", "zip", "dict_itemiterator", "dict_reverseitemiterator", "odict_iterator", "itertools.zip_longest", "itertools.pairwise"].contains n && vs[0]? == some (rawInt (a : Nat)) then
    rule "for.unpacks-the-owned-tuple"
    updateField ia 0 .none
  | _, _ => pure ()) R E s := by
  intro a
  refine wpAny_bind (wpAny_load ho ?_)
  rw [hc]
  have hn' : ["enumerate", "zip", "dict_itemiterator", "dict_reverseitemiterator", "odict_iterator", "itertools.zip_longest", "itertools.pairwise"].contains n = false := by
   unfold notOwner at hn; simpa using hn
  cases o.data <;> first | exact wpAny_pure h | skip
  simp only [hn', Bool.false_and, Bool.false_eq_true, if_false]
  exact wpAny_pure h
 have pu : wpAny M A (pure () : Sem Unit) R E s := wpAny_pure h
 cases t with
 | Tuple => cases v <;> first | exact pu | exact go _
 | List => cases v <;> first | exact pu | exact go _
 | _ => exact pu
noncomputable def ForQ (inv : Nat → Loc → AH → Prop) (i : Nat) (Q : Fl → Loc → AH → Prop) (fl : Fl) (r : Loc) (H : AH) : Prop := match fl with
 | .next => inv (i + 1) r H
 | .cont => inv (i + 1) r H
 | .brk => Q .next r H
 | .ret X => Q (.ret X) r H
structure LpS (c : Cx) (ia : Addr) (J : Nat → Heap → Prop) (own : Addr → Prop) (H : AH) (h : Heap) (i : Nat) (r' : Loc) (H' : AH) (s' : Shared) (m' : Str → Option Value) : Prop where
 I : Inv c.G H' s'
 E : ER c r' H' s'.heap m'
 j : J i s'.heap
 n : H' ia = none
 f : FrM (fun b => own b ∨ b = ia) H h H' s'.heap
section
variable {ia : Addr} {J : Nat → Heap → Prop} {vs : List V} {keep : Shared → Prop} {own : Addr → Prop} {h : Heap} {i : Nat} {r1 r2 : Loc} {H1 H2 : AH} {s1 s2 : Shared} {m1 m2 : Str → Option Value} {X : V} {Er : Value → Shared → Prop}
theorem LpS.next {R : Option Value → Shared → Prop} (it : ItOk c.G ia J vs keep) (hb : c.G.h₀.get? ia = none) (hno : ¬ ownE c.env ia) (S : LpS c ia J own H h i r1 H1 s1 m1) (kp : keep s1) (hx : vs[i]? = some X)
 (k : ∀ v s2, Rep s2.heap v X → LpS c ia J own H h (i + 1) r1 H1 s2 m1 → R (some v) s2) : wpAny (model PG c.G.w) c.A (pyNext (.ref ia)) R Er s1 :=
 wpAny_mono (it.next i X c.A s1 R hx (c.aok.le (Nat.zero_le _)) kp S.j fun v h2 tk rv j2 kk => by
  obtain ⟨oi, n, hoi, _, _, im⟩ := it.here i _ S.j
  have k2 : ∀ b o, b ≠ ia → s1.heap.get? b = some o → h2.get? b = some o := fun b o n e => (kk b n).trans e
  exact k v _ (rv.mono fun b o e q => k2 b o (fun x => by subst x; rw [hoi] at e; cases e; exact im q) e) ⟨S.I.past S.n hb hoi im k2, S.E.past hno hoi im k2, j2, S.n, fun b o e n mm => ⟨k2 b o (fun q => mm (.inr q)) (S.f b o e n mm).1, (S.f b o e n mm).2⟩⟩) (fun _ _ x => x) fun _ _ e => e.elim
theorem LpS.stop {R : Option Value → Shared → Prop} (it : ItOk c.G ia J vs keep) (hb : c.G.h₀.get? ia = none) (hno : ¬ ownE c.env ia) (S : LpS c ia J own H h vs.length r1 H1 s1 m1) (kp : keep s1)
 (k : ∀ s2, Inv c.G H1 s2 → ER c r1 H1 s2.heap m1 → FrM (fun b => own b ∨ b = ia) H h H1 s2.heap → R none s2) : wpAny (model PG c.G.w) c.A (pyNext (.ref ia)) R Er s1 :=
 wpAny_mono (it.stop c.A s1 R (c.aok.le (Nat.zero_le _)) kp S.j fun h2 tk k2 => by
  obtain ⟨oi, n, hoi, _, _, im⟩ := it.here _ _ S.j
  exact k _ (S.I.past S.n hb hoi im k2) (S.E.past hno hoi im k2) fun b o e n mm => ⟨k2 b o (fun q => mm (.inr q)) (S.f b o e n mm).1, (S.f b o e n mm).2⟩) (fun _ _ x => x) fun _ _ e => e.elim
theorem LpS.on (it : ItOk c.G ia J vs keep) (S : LpS c ia J own H h i r1 H1 s1 m1) (hno : ¬ own ia) (I2 : Inv c.G H2 s2) (E2 : ER c r2 H2 s2.heap m2) (f : FrM own H1 s1.heap H2 s2.heap) : LpS c ia J own H h i r2 H2 s2 m2 :=
 (it.here i _ S.j).elim fun o ⟨_, ho, _⟩ => ⟨I2, E2, it.loc i _ _ S.j (fun o' e => (f ia o' e S.n hno).1), (f ia o ho S.n hno).2, fun b ob e nb mm => f b ob (S.f b ob e nb mm).1 (S.f b ob e nb mm).2 fun q => mm (.inl q)⟩
theorem LpS.letO {R : Unit → Shared → Prop} {t : Expr} {v : Value} (it : ItOk c.G ia J vs keep) (S : LpS c ia J own H h i r1 H1 s1 m1) (k : R () s1) : wpAny (model PG c.G.w) c.A (letOwnedTupleGo t (.ref ia) v) R Er s1 :=
 (it.here i _ S.j).elim fun _ ⟨_, ho, hc, hn, _⟩ => wp_letOwned ho hc hn k
inductive LpI (c : Cx) (ia : Addr) (J : Nat → Heap → Prop) (own : Addr → Prop) (H : AH) (h : Heap) (n : Nat) (inv : Nat → Loc → AH → Prop) (k : Nat) (s' : Shared) : Prop
 | mk (i : Nat) (r' : Loc) (H' : AH) (m' : Str → Option Value) (e : k = n + 1 - i) (l : i ≤ n) (v : inv i r' H') (S : LpS c ia J own H h i r' H' s' m')
theorem LpI.less {n k : Nat} {inv : Nat → Loc → AH → Prop} (S : LpS c ia J own H h (i + 1) r1 H1 s1 m1) (v : inv (i + 1) r1 H1) (l : i < n) (e : k = n + 1 - i) : ∃ m, m < k ∧ LpI c ia J own H h n inv m s1 :=
 ⟨n - i, by omega, i + 1, r1, H1, m1, (Nat.succ_sub_succ n i).symm, l, v, S⟩
theorem WA.thn {K : Loc → Prop} {R : Unit → Shared → Prop} {t : Expr} {v : Value} (w : WA c r1 H1 t X K) (I : Inv c.G H1 s1) (E : ER c r1 H1 s1.heap m1) (rv : Rep s1.heap v X)
 (k : ∀ r2 s2 m2, K r2 → Inv c.G H1 s2 → ER c r2 H1 s2.heap m2 → FrM (ownE c.env) H1 s1.heap H1 s2.heap → R () s2) : wpAny (model PG c.G.w) c.A (assign t c.env v) R Er s1 :=
 wpAny_mono (w s1 m1 v R I E rv fun r2 _ _ m2 a b d f => k r2 _ m2 a b d f) (fun _ _ x => x) fun _ _ e => e.elim
end
noncomputable def forK (t : Expr) (it : Value) (body : List Stmt) (env : Env) (o : Option Value) : Sem Fin := match o with
 | none => again (.block [] env)
 | some v => do
  letOwnedTupleGo t it v
  assign t env v
  match ← execs body env with
  | .next | .cont => again (.forLoop t it body [] env)
  | .brk => pure (.done .next)
  | .ret v => pure (.done (.ret v))
section
variable {t : Expr} {body : List Stmt} {ia : Addr} {J : Nat → Heap → Prop} {vs : List V} {keep : Shared → Prop} {h : Heap} {inv : Nat → Loc → AH → Prop}
theorem for_turn {i : Nat} {r1 : Loc} {H1 : AH} {s1 : Shared} {m1 : Str → Option Value} {R : Fin → Shared → Prop} {Er : Value → Shared → Prop} (it : ItOk c.G ia J vs keep) (hb : c.G.h₀.get? ia = none) (hno : ¬ ownE c.env ia) (S : LpS c ia J (ownE c.env) H h i r1 H1 s1 m1) (kp : keep s1) (hle : i ≤ vs.length) (hv : inv i r1 H1)
 (hturn : ∀ (i : Nat) X r' H', vs[i]? = some X → inv i r' H' → WA c r' H' t X (fun r2 => WSs c r2 H' body (ForQ inv i Q)))
 (k1 : i < vs.length → ∀ r2 H2 s2 m2, LpS c ia J (ownE c.env) H h (i + 1) r2 H2 s2 m2 → inv (i + 1) r2 H2 → R (.again (.forLoop t (.ref ia) body [] c.env)) s2)
 (k2 : ∀ fl X r2 H2 s2 m2, FlRep s2.heap fl X → Inv c.G H2 s2 → ER c r2 H2 s2.heap m2 → FrM (fun b => ownE c.env b ∨ b = ia) H h H2 s2.heap → Q X r2 H2 → R (.done fl) s2)
 (k3 : inv vs.length r1 H1 → ∀ s2, Inv c.G H1 s2 → ER c r1 H1 s2.heap m1 → FrM (fun b => ownE c.env b ∨ b = ia) H h H1 s2.heap → R (.again (.block [] c.env)) s2) :
 wpAny (model PG c.G.w) c.A (forTurn t (.ref ia) body [] c.env) R Er s1 := by
 refine wpAny_bind (wpAny_standAt (wpAny_bind (f := forK t (.ref ia) body c.env) (wpAny_onRaise ?_)))
 rcases Nat.lt_or_ge i vs.length with hlt | hge
 ·refine S.next it hb hno kp (List.getElem?_eq_getElem hlt) fun v s2 rv S2 => ?_
  refine wpAny_bind (S2.letO it (wpAny_bind ((hturn i _ r1 H1 (List.getElem?_eq_getElem hlt) hv).thn S2.I S2.E rv fun r3 s3 m3 w I3 E3 f3 => ?_)))
  refine wpAny_bind (w.thn I3 E3 fun fl s4 X r4 H4 m4 a I4 E4 f4 q => ?_)
  have S4 := S2.on it hno I4 E4 (f3.trans f4)
  cases fl <;> cases X <;> first | exact a.elim | skip
  ·exact wpAny_pure (k1 hlt r4 H4 s4 m4 S4 q)
  ·exact wpAny_pure (k2 _ .next r4 H4 s4 m4 trivial I4 E4 S4.f q)
  ·exact wpAny_pure (k1 hlt r4 H4 s4 m4 S4 q)
  ·exact wpAny_pure (k2 _ (.ret _) r4 H4 s4 m4 a I4 E4 S4.f q)
 ·cases Nat.le_antisymm hle hge
  exact S.stop it hb hno kp fun s2 I2 E2 f2 => wpAny_pure (k3 hv s2 I2 E2 f2)
theorem for_loop {kp : AH → Prop} {r1 : Loc} {H1 : AH} {s1 : Shared} {m1 : Str → Option Value} {R : Flow → Shared → Prop} {Er : Value → Shared → Prop} (it : ItOk c.G ia J vs (fun s' => ∃ H', kp H' ∧ Inv c.G H' s')) (hb : c.G.h₀.get? ia = none) (hno : ¬ ownE c.env ia) (S : LpS c ia J (ownE c.env) H h 0 r1 H1 s1 m1) (hv : inv 0 r1 H1)
 (hkp : ∀ i r' H', i ≤ vs.length → inv i r' H' → kp H')
 (hturn : ∀ (i : Nat) X r' H', vs[i]? = some X → inv i r' H' → WA c r' H' t X (fun r2 => WSs c r2 H' body (ForQ inv i Q))) (hend : ∀ r' H', inv vs.length r' H' → Q .next r' H')
 (k2 : ∀ fl X r2 H2 s2 m2, FlRep s2.heap fl X → Inv c.G H2 s2 → ER c r2 H2 s2.heap m2 → FrM (fun b => ownE c.env b ∨ b = ia) H h H2 s2.heap → Q X r2 H2 → R fl s2) :
 wpAny (model PG c.G.w) c.A (runOwn (.forLoop t (.ref ia) body [] c.env) c.env) R Er s1 := by
 refine wpAny_runOwn (h := none) ?_
 rw [mark_none]
 refine codeAny_loop' rfl (LpI c ia J (ownE c.env) H h vs.length inv) (fun n s' q => ?_) (vs.length + 1) ⟨0, r1, H1, m1, rfl, Nat.zero_le _, hv, S⟩
 obtain ⟨i, r', H', m', e, hle, hv, S⟩ := q
 exact wpAny_noted (for_turn it hb hno S ⟨H', hkp i r' H' hle hv, S.I⟩ hle hv hturn (fun hlt r2 H2 s2 m2 S2 v2 => .inl ⟨rfl, LpI.less S2 v2 hlt e⟩) (fun fl X r2 H2 s2 m2 a I2 E2 f2 q => k2 fl X r2 H2 s2 m2 a I2 E2 f2 q)
  fun v s2 I2 E2 f2 => .inr ⟨rfl, codeAny_block (wpAny_execs_nil (k2 .next .next _ _ s2 _ trivial I2 E2 f2 (hend _ _ v)))⟩)
end
theorem wp_eqpure {M : Model} {A : Around} {α : Type} {t : Sem α} {x : α} {R : α → Shared → Prop} {E : Value → Shared → Prop} {s : Shared} (e : t = pure x) (h : R x s) : wpAny M A t R E s := by
 subst e; exact wpAny_pure h
inductive ForH (c : Cx) (t : Expr) (body : List Stmt) (r : Loc) (Q : Fl → Loc → AH → Prop) (o : V) (H1 : AH) : Prop
 | mk (vs : List V) (kp : AH → Prop) (inv : Nat → Loc → AH → Prop) (hit : Iter c.G o H1 vs kp) (h0 : inv 0 r H1) (hkp : ∀ i r' H', i ≤ vs.length → inv i r' H' → kp H')
  (hturn : ∀ (i : Nat) X r' H', vs[i]? = some X → inv i r' H' → WA c r' H' t X (fun r2 => WSs c r2 H' body (ForQ inv i Q))) (hend : ∀ r' H', inv vs.length r' H' → Q .next r' H')
theorem WS_for {t iter : Expr} {body : List Stmt} {p : Pos} (h : WE c r H iter (ForH c t body r Q))
 (hf : ∀ x, foldedSetIterable iter c.env x = pure x := by intro x; rfl) : WS c r H (.For t iter body [] p) Q := fun s m I E => by
 show wpAny _ _ (do
  standAt p
  let x ← foldedSetIterable iter c.env (← eval iter c.env)
  standAt iter.pos
  runOwn (.forLoop t (← holding [x] (pyIter x)) body [] c.env) c.env) _ _ s
 refine wpAny_bind (wpAny_standAt (wpAny_bind (h.thn I E fun v s₁ o H1 rv I1 f1 E1 q => wpAny_bind (wp_eqpure (hf v) (wpAny_bind (wpAny_standAt (wpAny_bind (wpAny_holding
  (q.rec fun vs kp inv hit h0 hkp hturn hend => hit c.A s₁ v _ (c.aok.le (Nat.zero_le _)) I1 rv fun ia J h' g hia j0 it => for_loop it (I1.none0 hia) (E1.fresh hia) ⟨I1.grow (tk := s₁.toks) g, E1.mono I1 (FrM.grow g), j0, I1.size hia, FrM.refl⟩ h0 hkp hturn hend
   fun fl X r2 H2 s2 m2 a I2 E2 f2 q => ⟨X, r2, H2, m2, a, I2, E2, f1.past g hia f2, q⟩)))))))))
end
set_option tactic.hygienic false
section
variable {c : Cx} {r : Loc} {H : AH}
noncomputable abbrev ownL (env : Env) (a : Addr) : Prop := a = env.locals
noncomputable def WAc (c : Cx) (r : Loc) (H : AH) (t : Expr) (X : V) (K : Loc → Prop) : Prop :=
 ∀ s m v (R : Unit → Shared → Prop), Inv c.G H s → ER c r H s.heap m → Rep s.heap v X →
  (∀ r2 h' tk m', K r2 → Inv c.G H { s with heap := h', toks := tk } → ER c r2 H h' m' → FrM (ownL c.env) H s.heap H h' → R () { s with heap := h', toks := tk }) →
  wpAny (model PG c.G.w) c.A (assign t c.env v) R (fun _ _ => False) s
theorem wdV (i : Nat) {x : Str} {p : Pos} {X : V} {K : Loc → Prop} (hn : c.names[i]? = some x) (hk : c.env.kindOf x = some .local) (h : K (setL r i X)) : WAc c r H (.Name x p) X K := fun s m v R I E rv hR => by
 refine assign_Name ?_
 obtain ⟨oL, esL, epL, hoL, hdL, _⟩ := id E.ns
 refine wpAny_storeName_local hk E.ns (fun h' hn' hs => ?_) (by rw [c.es.kind]; rfl)
 have hb : ∀ b, b ≠ c.env.locals → h'.get? b = s.heap.get? b := hs.2
 have imm : ∀ a o, s.heap.get? a = some o → wjY o → h'.get? a = some o := fun a o e i => by
  rw [hb a]; exact e
  rintro rfl; rw [hoL] at e; cases e
  rcases i with ⟨_, _, _, q⟩ | ⟨_, _, q⟩ <;> rw [hdL] at q <;> cases q
 refine hR _ h' _ _ h (I.other E.lo E.lb (fun o e i => ?_) hb) ⟨hn', E.lo, E.lb, fun y a e => ?_, fun j y Y e1 e2 => ?_⟩ (FrM.other rfl hb)
 ·rw [hoL] at e; cases e
  rcases i with ⟨_, _, _, q⟩ | ⟨_, _, q⟩ <;> rw [hdL] at q <;> cases q
 ·obtain ⟨c1, c2, c3, v0, hc⟩ := E.cl y a e
  exact ⟨c1, c2, c3, v0, hc.sameBut hs c3⟩
 ·by_cases q : j = i
  ·subst q
   rw [hn] at e1; cases e1
   unfold setL at e2
   rw [List.getElem?_set] at e2
   simp only [if_true] at e2
   split at e2
   ·cases e2; exact ⟨v, rv.mono imm, .inl ⟨hk, by simp⟩⟩
   ·cases e2
  ·have hne : y ≠ x := fun e => by
    subst e
    obtain ⟨l1, e1'⟩ := List.getElem?_eq_some_iff.mp e1; obtain ⟨l2, e2'⟩ := List.getElem?_eq_some_iff.mp hn
    exact q ((List.getElem_inj c.es.nodup).mp (e1'.trans e2'.symm))
   unfold setL at e2
   rw [List.getElem?_set_ne (fun e => q e.symm)] at e2
   obtain ⟨u, hu, ha⟩ := E.vars j y Y e1 e2
   refine ⟨u, hu.mono imm, ?_⟩
   rcases ha with ⟨hk', hm⟩ | ⟨hk', a, hl', hc⟩
   ·exact .inl ⟨hk', by simp [hne, hm]⟩
   ·exact .inr ⟨hk', a, hl', hc.sameBut hs (E.cl y a hl').2.2.1⟩
noncomputable def WB (c : Cx) (r : Loc) (H : AH) (t : Sem Unit) (K : Loc → AH → Prop) : Prop :=
 ∀ s m, Inv c.G H s → ER c r H s.heap m →
  wpAny (model PG c.G.w) c.A t (fun _ s' => ∃ r' H' m', Inv c.G H' s' ∧ ER c r' H' s'.heap m' ∧ FrM (ownL c.env) H s.heap H' s'.heap ∧ K r' H') (fun _ _ => False) s
noncomputable def WIfs (c : Cx) (r : Loc) (H : AH) : List Expr → (Bool → AH → Prop) → Prop
 | [], Q => Q true H
 | [t], Q => WT c r H t Q
 | _, _ => False
inductive WLp (c : Cx) (t : Expr) (ifs : List Expr) (vs : List V) (kp : AH → Prop) (H : AH) (r : Loc) (body : Loc → AH → (Loc → AH → Prop) → Prop) (K : Loc → AH → Prop) : Prop
 | mk (inv : Nat → Loc → AH → Prop) (h0 : inv 0 r H) (hkp : ∀ i r' H', i ≤ vs.length → inv i r' H' → kp H')
  (hturn : ∀ (i : Nat) X r' H', vs[i]? = some X → inv i r' H' → WAc c r' H' t X (fun r2 => WIfs c r2 H' ifs (fun z H2 => if z then body r2 H2 (inv (i + 1)) else inv (i + 1) r2 H2)))
  (hend : ∀ r' H', inv vs.length r' H' → K r' H')
noncomputable def WG (c : Cx) (acc : Addr) (elt : Expr) : List Comprehension → Loc → AH → (Loc → AH → Prop) → Prop
 | [], r, H, K => WE c r H elt (fun Y H2 => ∃ ys, H2 acc = some (.list ys) ∧ ys.length ≤ 100000 ∧ K r (upd H2 acc (.list (ys ++ [Y]))))
 | ⟨t, iter, ifs, _⟩ :: rest, r, H, K => WE c r H iter (fun o H1 => ∃ vs kp, Iter c.G o H1 vs kp ∧ WLp c t ifs vs kp H1 r (WG c acc elt rest) K)
theorem wp_append {G : Gd} {A : Around} {s : Shared} {l : Addr} {vs : List V} {x : Value} {X : V} {R : Value → Shared → Prop} (I : Inv G H s) (hl : H l = some (.list vs)) (rx : Rep s.heap x X) (hz : vs.length ≤ 100000)
 (h : ∀ h', Inv G (upd H l (.list (vs ++ [X]))) { s with heap := h' } → FrM no H s.heap (upd H l (.list (vs ++ [X]))) h' → R .none { s with heap := h' }) :
 wpAny (model PG G.w) A (call (.builtin "list.append") [.ref l, x]) R (fun _ _ => False) s := by
 obtain ⟨items, n, hi, rl⟩ := I.own l _ hl
 refine wpAny_call_entry slot_list_append hi.isList.typeIs entry_list_append ?_ (args_list_append _ _)
 show wpAny _ _ (updateSeq l (·.push x) >>= fun _ => ret .none) _ _ s
 refine wpAny_bind ?_
 have hs : items.size = vs.length := by rw [← rl.len, Array.length_toList]
 refine wpAny_updateSeq (o := _) (xs := items) (n := n) hi rfl (wpAny_pure ⟨.none, rfl, ?_⟩) (by rw [sizeLine_eq]; omega)
 have k1 : ∀ b, b ≠ l → (s.heap.update l (Obj.mapSeq (·.push x))).get? b = s.heap.get? b := fun b hb => Heap.get?_update_other _ _ (Ne.symm hb)
 have ki : ∀ a o, s.heap.get? a = some o → wjY o → (s.heap.update l (Obj.mapSeq (·.push x))).get? a = some o := fun a o e i => by
  rw [k1 a]; exact e
  rintro rfl; rw [I.imm e i] at hl; cases hl
 have cc : Conc G.w (s.heap.update l (Obj.mapSeq (·.push x))) l (.list (vs ++ [X])) :=
  ⟨_, _, hi.update _, by rw [Array.toList_push]; exact (rl.mono ki).app ⟨rx.mono ki, trivial⟩⟩
 exact h _ (I.store (tk := s.toks) hl k1 cc) (FrM.store hl k1)
noncomputable def nextT (elt : Expr) (gens : List Comprehension) (scope : Scope) (pos : Pos) (d : Nat) (acc : Value) (env : Env) : Sem Unit := match gens[d + 1]? with
 | some g' => do
  let x ← eval g'.iter env
  standAt g'.iter.pos
  let x ← if g'.is_async != 0 then foldedIterable g'.iter x else foldedSetIterable g'.iter env x
  let _ ← runOwn (.compStart (.ListComp elt gens scope pos) (d + 1) (← holding [x] (if g'.is_async != 0 then asyncIter x else pyIter x)) acc env) env
 | none => do let _ ← call (.builtin "list.append") [acc, ← eval elt env]
noncomputable def compK (elt : Expr) (gens : List Comprehension) (scope : Scope) (pos : Pos) (d : Nat) (it acc : Value) (env : Env) (t : Expr) (ifs : List Expr) (o : Option Value) : Sem Fin := match o with
 | none => pure (.done .next)
 | some v => letOwnedTupleGo t it v >>= fun _ => assign t env v >>= fun _ =>
  (forIn ifs true fun c r => if r = true then do let ok ← isTrue c env (eval c env); pure (ForInStep.yield ok) else pure (ForInStep.yield r)) >>= fun ok =>
  if ok = true then nextT elt gens scope pos d acc env >>= fun _ => again (.compLoop (.ListComp elt gens scope pos) d it acc env) else again (.compLoop (.ListComp elt gens scope pos) d it acc env)
theorem comp_turn {elt : Expr} {gens : List Comprehension} {scope : Scope} {pos : Pos} {d : Nat} {it acc : Value} {env : Env} {t iter : Expr} {ifs : List Expr} (hg : gens[d]? = some ⟨t, iter, ifs, 0⟩) :
 compTurn (.ListComp elt gens scope pos) d it acc env = (standAt iter.pos >>= fun _ => pyNext it >>= compK elt gens scope pos d it acc env t ifs) := by
 unfold compTurn
 simp only [hg]
 refine bind_congr fun u => bind_congr fun o => ?_
 cases o with
 | none => rfl
 | some v =>
  unfold compK nextT
  cases gens[d + 1]? with
  | none => rfl
  | some g' =>
   refine bind_congr fun u => bind_congr fun u => bind_congr fun ok => ?_
   cases ok with
   | false => rfl
   | true =>
    simp only [bind_assoc]
    refine bind_congr fun x => bind_congr fun u => ?_
    split
    ·simp only [bind_assoc, pure_bind]
    ·simp only [bind_assoc, pure_bind]
theorem wp_ifs {r2 : Loc} {s : Shared} {m : Str → Option Value} {ifs : List Expr} {Q : Bool → AH → Prop} {R : Bool → Shared → Prop} {Er : Value → Shared → Prop} (h : WIfs c r2 H ifs Q) (I : Inv c.G H s) (E : ER c r2 H s.heap m)
 (hR : ∀ z s' H', Inv c.G H' s' → FrM no H s.heap H' s'.heap → Q z H' → R z s') :
 wpAny (model PG c.G.w) c.A (forIn ifs true fun t r => if r = true then do let ok ← isTrue t c.env (eval t c.env); pure (ForInStep.yield ok) else pure (ForInStep.yield r)) R Er s := by
 rcases ifs with _ | ⟨t, _ | ⟨_, _⟩⟩
 ·exact wpAny_tests_nil (hR _ _ _ I FrM.refl h)
 ·exact wpAny_tests_one (WT.thn h I E fun z s' H' I' f _ q => hR z s' H' I' f q)
 ·exact h.elim
theorem WAc.thn {s1 : Shared} {m1 : Str → Option Value} {X : V} {K : Loc → Prop} {R : Unit → Shared → Prop} {Er : Value → Shared → Prop} {t : Expr} {v : Value} (w : WAc c r H t X K) (I : Inv c.G H s1) (E : ER c r H s1.heap m1) (rv : Rep s1.heap v X)
 (k : ∀ r2 s2 m2, K r2 → Inv c.G H s2 → ER c r2 H s2.heap m2 → FrM (ownL c.env) H s1.heap H s2.heap → R () s2) : wpAny (model PG c.G.w) c.A (assign t c.env v) R Er s1 :=
 wpAny_mono (w s1 m1 v R I E rv fun r2 _ _ m2 a b d f => k r2 _ m2 a b d f) (fun _ _ x => x) fun _ _ e => e.elim
theorem WB.thn {s1 : Shared} {m1 : Str → Option Value} {t : Sem Unit} {K : Loc → AH → Prop} {R : Unit → Shared → Prop} {Er : Value → Shared → Prop} (w : WB c r H t K) (I : Inv c.G H s1) (E : ER c r H s1.heap m1)
 (k : ∀ u s2 r2 H2 m2, Inv c.G H2 s2 → ER c r2 H2 s2.heap m2 → FrM (ownL c.env) H s1.heap H2 s2.heap → K r2 H2 → R u s2) : wpAny (model PG c.G.w) c.A t R Er s1 :=
 wpAny_mono (w s1 m1 I E) (fun u s2 ⟨r2, H2, m2, a, b, f, q⟩ => k u s2 r2 H2 m2 a b f q) fun _ _ e => e.elim
section
variable {elt : Expr} {gens : List Comprehension} {scope : Scope} {pos : Pos} {d : Nat} {acc : Value} {t iter : Expr} {ifs : List Expr} {body : Loc → AH → (Loc → AH → Prop) → Prop} {ia : Addr} {J : Nat → Heap → Prop} {vs : List V} {inv : Nat → Loc → AH → Prop}
theorem comp_next {keep : Shared → Prop} {h : Heap} {i : Nat} {r1 : Loc} {H1 : AH} {s1 : Shared} {m1 : Str → Option Value} {R : Fin → Shared → Prop} {Er : Value → Shared → Prop} (hg : gens[d]? = some ⟨t, iter, ifs, 0⟩)
 (hbody : ∀ r H K, body r H K → WB c r H (nextT elt gens scope pos d acc c.env) K) (it : ItOk c.G ia J vs keep) (hb : c.G.h₀.get? ia = none) (hno : ¬ ownE c.env ia) (S : LpS c ia J (ownL c.env) H h i r1 H1 s1 m1) (kp : keep s1) (hle : i ≤ vs.length) (hv : inv i r1 H1)
 (hturn : ∀ (i : Nat) X r' H', vs[i]? = some X → inv i r' H' → WAc c r' H' t X (fun r2 => WIfs c r2 H' ifs (fun z H2 => if z then body r2 H2 (inv (i + 1)) else inv (i + 1) r2 H2)))
 (k1 : i < vs.length → ∀ r2 H2 s2 m2, LpS c ia J (ownL c.env) H h (i + 1) r2 H2 s2 m2 → inv (i + 1) r2 H2 → R (.again (.compLoop (.ListComp elt gens scope pos) d (.ref ia) acc c.env)) s2)
 (k3 : inv vs.length r1 H1 → ∀ s2, Inv c.G H1 s2 → ER c r1 H1 s2.heap m1 → FrM (fun b => ownL c.env b ∨ b = ia) H h H1 s2.heap → R (.done .next) s2) :
 wpAny (model PG c.G.w) c.A (compTurn (.ListComp elt gens scope pos) d (.ref ia) acc c.env) R Er s1 := by
 rw [comp_turn hg]
 refine wpAny_bind (wpAny_standAt (wpAny_bind ?_))
 have hL : ¬ ownL c.env ia := fun q => hno (.inl q)
 rcases Nat.lt_or_ge i vs.length with hlt | hge
 ·refine S.next it hb hno kp (List.getElem?_eq_getElem hlt) fun v s2 rv S2 => ?_
  refine wpAny_bind (S2.letO it (wpAny_bind ((hturn i _ r1 H1 (List.getElem?_eq_getElem hlt) hv).thn S2.I S2.E rv fun r3 s3 m3 w I3 E3 f3 => wpAny_bind (wp_ifs w I3 E3 fun z s5 H5 I5 f5 q => ?_))))
  cases z with
  | false => exact wpAny_pure (k1 hlt r3 H5 s5 m3 (S2.on it hL I5 (E3.mono I3 f5) (f3.trans f5.wide)) q)
  | true => exact wpAny_bind ((hbody _ _ _ q).thn I5 (E3.mono I3 f5) fun u s6 r6 H6 m6 I6 E6 f6 q => wpAny_pure (k1 hlt r6 H6 s6 m6 (S2.on it hL I6 E6 ((f3.trans f5.wide).trans f6)) q))
 ·cases Nat.le_antisymm hle hge
  exact S.stop it hb hno kp fun s2 I2 E2 f2 => wpAny_pure (k3 hv s2 I2 E2 f2)
theorem comp_loop (hg : gens[d]? = some ⟨t, iter, ifs, 0⟩)
 (hbody : ∀ r H K, body r H K → WB c r H (nextT elt gens scope pos d acc c.env) K)
 {kp : AH → Prop} (it : ItOk c.G ia J vs (fun s' => ∃ H', kp H' ∧ Inv c.G H' s'))
 (hkp : ∀ i r' H', i ≤ vs.length → inv i r' H' → kp H')
 (hturn : ∀ (i : Nat) X r' H', vs[i]? = some X → inv i r' H' → WAc c r' H' t X (fun r2 => WIfs c r2 H' ifs (fun z H2 => if z then body r2 H2 (inv (i + 1)) else inv (i + 1) r2 H2)))
 {s : Shared} {m : Str → Option Value} {r : Loc} {H : AH} (I : Inv c.G H s) (E : ER c r H s.heap m) (j0 : J 0 s.heap) (hna : H ia = none) (hbia : c.G.h₀.get? ia = none) (hown : ¬ ownE c.env ia) (h0 : inv 0 r H)
 {R : Result → Shared → Prop}
 (hR : ∀ r' H' s' m', inv vs.length r' H' → Inv c.G H' s' → ER c r' H' s'.heap m' → FrM (fun b => ownL c.env b ∨ b = ia) H s.heap H' s'.heap → R (.ok .next) s') :
 codeAny (model PG c.G.w) c.A (.compLoop (.ListComp elt gens scope pos) d (.ref ia) acc c.env) R s :=
 codeAny_loop rfl (LpI c ia J (ownL c.env) H s.heap vs.length inv) (fun n s' q => q.rec fun i r' H' m' e hle hv S =>
  wpAny_noted (comp_next hg hbody it hbia hown S ⟨H', hkp i r' H' hle hv, S.I⟩ hle hv hturn (fun hlt r2 H2 s2 m2 S2 v2 => ⟨rfl, LpI.less S2 v2 hlt e⟩) fun v s2 I2 E2 f2 => hR r' H' s2 m' v I2 E2 f2))
  (vs.length + 1) ⟨0, r, H, m, rfl, Nat.zero_le _, h0, I, E, j0, hna, FrM.refl⟩
end
theorem comp_start {elt : Expr} {gens : List Comprehension} {scope : Scope} {pos : Pos} {d : Nat} {ia : Addr} {acc : Value} {env : Env} {A : Around} {G : Gd} {s : Shared} {R : Result → Shared → Prop} {t iter : Expr} {ifs : List Expr} (hg : gens[d]? = some ⟨t, iter, ifs, 0⟩)
 (hself : ∀ (R : Value → Shared → Prop), R (.ref ia) s → wpAny (model PG G.w) A (pyIter (.ref ia)) R (fun _ _ => False) s)
 (h : codeAny (model PG G.w) A (.compLoop (.ListComp elt gens scope pos) d (.ref ia) acc env) R s) :
 codeAny (model PG G.w) A (.compStart (.ListComp elt gens scope pos) d (.ref ia) acc env) R s := by
 refine codeAny_of_tree ?_
 show wpAny _ _ ((compStart (.ListComp elt gens scope pos) d (.ref ia) acc env).onRaise (fun x => do noteFrame x env; standAt theWindowsPlace)) _ _ s
 refine wpAny_notedAt ?_
 unfold compStart
 simp only [show clausesOf (.ListComp elt gens scope pos) = gens from rfl, hg]
 show wpAny _ _ (ask >>= _) _ _ s
 refine wpAny_bind (wpAny_askSetting (wpAny_ite ?_))
 split
 ·first
   | exact wpAny_bind (wpAny_pure (wpAny_pure (And.intro rfl h)))
   | exact wpAny_pure (And.intro rfl h)
 ·refine wpAny_bind (wpAny_rule ?_); show wpAny _ _ (standAt iter.pos >>= _) _ _ s
  exact wpAny_bind (wpAny_standAt (wpAny_bind (wpAny_mono (hself (fun v s' => v = Value.ref ia ∧ s' = s) ⟨rfl, rfl⟩) (fun it' s' h' => by
   obtain ⟨rfl, rfl⟩ := h'
   exact wpAny_pure (And.intro rfl h)) fun _ _ x => x.elim)))
noncomputable def plainGen (g : Comprehension) : Bool := g.is_async == 0 && !(Nat.beq g.iter.ctorIdx 7)
theorem plain_folded {g : Comprehension} {env : Env} (h : plainGen g = true) (x : Value) : foldedSetIterable g.iter env x = pure x := by
 obtain ⟨t, iter, ifs, a⟩ := g
 have h := (Bool.and_eq_true_iff.mp h).2
 cases iter <;> first | rfl | cases h
theorem WB_next {elt : Expr} {scope : Scope} {pos : Pos} {acc : Addr} {gens : List Comprehension} (hp : gens.all plainGen = true) : ∀ (rest : List Comprehension) (d : Nat), gens.drop (d + 1) = rest → ∀ {r : Loc} {H : AH} {K : Loc → AH → Prop}, WG c acc elt rest r H K → WB c r H (nextT elt gens scope pos d (.ref acc) c.env) K := by
 intro rest
 induction rest with
 | nil =>
  intro d hd r H K h s m I E
  have hg : gens[d + 1]? = none := by
   rw [List.getElem?_eq_none_iff]; exact List.drop_eq_nil_iff.mp hd
  unfold nextT
  rw [hg]
  exact wpAny_bind (h.thn I E fun v s1 Y H2 rv I1 f1 E1 ⟨ys, ha, hz, q⟩ => wpAny_bind (wp_append I1 ha rv hz fun h' I2 f2 => wpAny_pure ⟨r, _, m, I2, E1.mono I1 f2, (f1.trans f2).wide, q⟩))
 | cons g rest ih =>
  intro d hd r H K h s m I E
  have hg : gens[d + 1]? = some g := by
   have := congrArg (fun l => l[0]?) hd
   simpa using this
  have hgp : plainGen g = true := List.all_eq_true.mp hp g (List.mem_of_getElem? hg)
  have hd' : gens.drop (d + 1 + 1) = rest := by
   have := congrArg (List.drop 1) hd
   rw [List.drop_drop] at this; simpa [Nat.add_comm] using this
  obtain ⟨t, iter, ifs, a⟩ := g
  have ha : a = 0 := beq_iff_eq.mp (Bool.and_eq_true_iff.mp hgp).1
  subst ha
  unfold nextT
  rw [hg]
  refine wpAny_bind (h.thn I E fun v s₁ o H1 rv I1 f1 E1 q => wpAny_bind (wpAny_standAt ?_))
  obtain ⟨vs, kp, hit, inv, h0, hkp, hturn, hend⟩ := q
  refine wpAny_bind (wp_eqpure (plain_folded (g := ⟨t, iter, ifs, 0⟩) hgp v) (wpAny_bind (wpAny_holding (hit c.A s₁ v _ (c.aok.le (Nat.zero_le _)) I1 rv fun ia J h' g hia j0 it => wpAny_bind (wpAny_runOwn (h := none) ?_)))))
  rw [mark_none]
  refine comp_start hg (fun R hR => it.self 0 _ _ R j0 hR) ?_
  refine comp_loop hg (fun r H K h => ih (d + 1) hd' h) it hkp hturn (I1.grow (tk := s₁.toks) g) (E1.mono I1 (FrM.grow g)) j0 (I1.size hia) (I1.none0 hia) (E1.fresh hia) h0 fun r' H' s' m' hv I' E' f' => ?_
  exact wpAny_pure ⟨r', H', m', I', E', f1.past g hia f', hend r' H' hv⟩
noncomputable def closL (env : Env) : List (Str × NameKind) → List (Str × Addr) → List (Str × Addr)
 | [], cs => cs
 | (n, k) :: rest, cs => closL env rest (if k == .free then (n, (env.cells.lookup n).getD 0) :: cs else cs)
theorem closure_eq {scope : Scope} {env : Env} (h : ∀ x ∈ scope.names, x.2 = .free → (env.cells.lookup x.1).isSome = true) : closureFor scope env = pure (closL env scope.names []) := by
 have go : ∀ (names : List (Str × NameKind)) (cs : List (Str × Addr)), (∀ x ∈ names, x.2 = .free → (env.cells.lookup x.1).isSome = true) →
  (forIn names cs fun x cs => match x with | (name, kind) => if (kind == NameKind.free) = true then cellOf env name >>= fun a => pure (ForInStep.yield ((name, a) :: cs)) else pure (ForInStep.yield cs) : Sem (List (Str × Addr))) = pure (closL env names cs) := by
  intro names
  induction names with
  | nil => intro cs _; rfl
  | cons y names ih =>
   intro cs hh
   obtain ⟨n, k⟩ := y
   rw [List.forIn_cons]
   have hr := fun x hx => hh x (List.mem_cons_of_mem _ hx)
   by_cases q : (k == NameKind.free) = true
   ·have hs := hh (n, k) (.head _) (by simpa using q)
    obtain ⟨a, ha⟩ := Option.isSome_iff_exists.mp hs
    have ha' : env.cells.lookup n = some a := ha
    simp only [q, if_true, cellOf, ha', pure_bind, closL, Option.getD_some]
    exact ih _ hr
   ·simp only [q, if_false, pure_bind, closL, Bool.false_eq_true]
    exact ih _ hr
 have := go scope.names [] h
 unfold closureFor
 exact Eq.trans (bind_pure _) this
theorem closL_lookup {env : Env} : ∀ (names : List (Str × NameKind)) (cs : List (Str × Addr)) (x : Str) (a : Addr), (closL env names cs).lookup x = some a → cs.lookup x = some a ∨ ((x, NameKind.free) ∈ names ∧ a = (env.cells.lookup x).getD 0)
 | [], cs, x, a, h => .inl h
 | (n, k) :: names, cs, x, a, h => by
  rcases closL_lookup names _ x a h with h | ⟨h1, h2⟩
  ·split at h
   ·rename_i q
    rw [List.lookup_cons] at h
    cases hx : x == n with
    | true =>
     rw [hx] at h; cases h
     have e1 : x = n := beq_iff_eq.mp hx
     have e2 : k = .free := by simpa using q
     subst e1 e2
     exact .inr ⟨.head _, rfl⟩
    | false => rw [hx] at h; exact .inl h
   ·exact .inl h
  ·exact .inr ⟨.tail _ h1, h2⟩
theorem closL_has {env : Env} : ∀ (names : List (Str × NameKind)) (cs : List (Str × Addr)) (x : Str), ((x, NameKind.free) ∈ names ∨ cs.lookup x = some ((env.cells.lookup x).getD 0)) → (∀ a, cs.lookup x = some a → a = (env.cells.lookup x).getD 0) → (closL env names cs).lookup x = some ((env.cells.lookup x).getD 0)
 | [], cs, x, h, _ => by rcases h with h | h; cases h; exact h
 | (n, k) :: names, cs, x, h, hc => by
  refine closL_has names _ x ?_ ?_
  ·rcases h with h | h
   ·rcases List.mem_cons.mp h with e | h
    ·cases e
     refine .inr ?_
     simp [List.lookup_cons]
    ·exact .inl h
   ·split
    ·rw [List.lookup_cons]
     cases hx : x == n with
     | true => rw [beq_iff_eq.mp hx]; exact .inr rfl
     | false => exact .inr h
    ·exact .inr h
  ·intro a ha
   split at ha
   ·rw [List.lookup_cons] at ha
    cases hx : x == n with
    | true => rw [hx] at ha; cases ha; rw [beq_iff_eq.mp hx]
    | false => rw [hx] at ha; exact hc a ha
   ·exact hc a ha
theorem relabel_lookup {scope : Scope} {env : Env} : ∀ {names : List (Str × NameKind)} {x : Str} {k : NameKind}, names.lookup x = some k →
 (names.map fun (n, k) => if (k == NameKind.free && env.scope.kind == .function && env.kindOf n == some .cell) then (n, NameKind.cell) else (n, k)).lookup x =
  some (if (k == NameKind.free && env.scope.kind == .function && env.kindOf x == some .cell) then .cell else k)
 | [], _, _, h => by simp at h
 | (n, k) :: r, x, k', h => by
  have ih := @relabel_lookup scope env r x k'
  show List.lookup x ((if (k == NameKind.free && env.scope.kind == .function && env.kindOf n == some .cell) = true then (n, NameKind.cell) else (n, k)) :: _) = _
  cases hx : x == n with
  | true =>
   simp only [List.lookup_cons, hx] at h
   cases h
   have e := beq_iff_eq.mp hx
   subst e
   by_cases hc : (k == NameKind.free && env.scope.kind == .function && env.kindOf x == some .cell) = true
   ·rw [if_pos hc, if_pos hc]; simp [List.lookup_cons]
   ·rw [if_neg hc, if_neg hc]; simp [List.lookup_cons]
  | false =>
   simp only [List.lookup_cons, hx] at h
   by_cases hc : (k == NameKind.free && env.scope.kind == .function && env.kindOf n == some .cell) = true
   ·rw [if_pos hc]; simp only [List.lookup_cons, hx]; exact ih h
   ·rw [if_neg hc]; simp only [List.lookup_cons, hx]; exact ih h
noncomputable def compChk (scope : Scope) (locs frees gl : List Str) : Bool :=
 decide (scope.kind = .function) && (scope.names.all fun y => y.2 != .cell) && (locs.all fun x => scope.names.lookup x == some .local) && (frees.all fun x => scope.names.lookup x == some .free) &&
 (gl.all fun x => scope.names.lookup x == some .globalImplicit) && (scope.names.all fun y => y.2 != .local || scope.names.lookup y.1 == some .local) && (scope.names.all fun y => y.2 != .free || frees.contains y.1) && decide (locs ++ frees).Nodup
end
set_option tactic.hygienic false
section
variable {c : Cx} {r : Loc} {H : AH}
structure CompOk (scope : Scope) (locs frees gl : List Str) : Prop where
 kind : scope.kind = .function
 cell : ∀ y ∈ scope.names, y.2 ≠ .cell
 loc : ∀ x ∈ locs, scope.names.lookup x = some .local
 free : ∀ x ∈ frees, scope.names.lookup x = some .free
 glob : ∀ x ∈ gl, scope.names.lookup x = some .globalImplicit
 own : ∀ y ∈ scope.names, y.2 = .local → scope.names.lookup y.1 = some .local
 all : ∀ y ∈ scope.names, y.2 = .free → y.1 ∈ frees
 nd : (locs ++ frees).Nodup
theorem CompOk.of {scope : Scope} {locs frees gl : List Str} (h : compChk scope locs frees gl = true) : CompOk scope locs frees gl := by
 unfold compChk at h
 simp only [Bool.and_eq_true, decide_eq_true_eq, List.all_eq_true, beq_iff_eq, bne_iff_ne, Bool.or_eq_true, List.contains_iff_mem] at h
 obtain ⟨⟨⟨⟨⟨⟨⟨h1, h2⟩, h3⟩, h4⟩, h5⟩, h6⟩, h7⟩, h8⟩ := h
 exact ⟨h1, h2, h3, h4, h5, fun y hy e => (h6 y hy).resolve_left (fun q => q e), fun y hy e => (h7 y hy).resolve_left (fun q => q e), h8⟩
noncomputable def CompH (c : Cx) (r : Loc) (locs frees gl : List Str) (is : List Nat) (elt t : Expr) (ifs : List Expr) (rest : List Comprehension) (Q : V → AH → Prop) (o : V) (H1 : AH) : Prop :=
 ∃ vs kp, Iter c.G o H1 vs kp ∧ ∀ c' : Cx, c'.names = locs ++ frees → c'.gl = gl → c'.cv = frees → c'.k = c.k → c'.G = c.G → (∀ x ∈ locs, c'.env.kindOf x = some .local) → ∀ acc, H1 acc = none →
  WLp c' t ifs vs kp (upd H1 acc (.list [])) (List.replicate locs.length none ++ is.map (fun i => (r[i]?).join)) (WG c' acc elt rest) (fun _ H' => Q (.ref acc) H')
theorem comp_core {elt t iter : Expr} {ifs : List Expr} {rest : List Comprehension} {scope : Scope} {pos p : Pos} {locs frees gl L : List Str} {is : List Nat} {Q : V → AH → Prop} {use : Option (Value → Sem Unit)} {R : Value → Shared → Prop}
 {s : Shared} {m : Str → Option Value} (I : Inv c.G H s) (E : ER c r H s.heap m) (ok : CompOk scope locs frees gl) (hL : c.names = L) (hcv : ∀ x ∈ frees, x ∈ c.cv) (hfr : is.map (fun i => L[i]?) = frees.map some)
 (hp : (⟨t, iter, ifs, 0⟩ :: rest : List Comprehension).all plainGen = true)
 (h : WE c r H iter (CompH c r locs frees gl is elt t ifs rest Q))
 (hR : ∀ acc C s' H' mC, Inv c.G H' s' → FrM no H s.heap H' s'.heap → Q (.ref acc) H' → (∀ o, s.heap.get? C = some o → H C ≠ none) → H' C = none → c.G.h₀.get? C = none → s'.heap.Ns C mC → compPost (model PG c.G.w) c.A (fun _ _ => False) use R (.ref acc) C (.ok .next) s') :
 wpAny (model PG c.G.w) c.A (comprehension (.ListComp elt (⟨t, iter, ifs, 0⟩ :: rest) scope pos) scope c.env p (newList []) false (eval iter c.env) use) R (fun _ _ => False) s := by
 subst hL
 have memL : ∀ x ∈ frees, x ∈ c.names := fun x hx => by
  have : some x ∈ is.map (fun i => c.names[i]?) := by rw [hfr]; exact List.mem_map.mpr ⟨x, hx, rfl⟩
  obtain ⟨i, _, hi⟩ := List.mem_map.mp this
  exact List.mem_of_getElem? hi
 have cellF : ∀ x ∈ frees, c.env.kindOf x = some .cell ∧ ∃ a, c.env.cells.lookup x = some a := fun x hx => by
  have hk := c.es.cellv x (hcv x hx)
  rcases c.es.var x (memL x hx) with q | ⟨_, q⟩
  ·rw [hk] at q; cases q
  ·exact ⟨hk, q⟩
 refine wpAny_comprehension_free (use := use) rfl (plain_folded (List.all_eq_true.mp hp _ (.head _))) (closure_eq fun x hx e => by
  obtain ⟨_, a, ha⟩ := cellF _ (ok.all x hx e)
  rw [ha]; rfl) ok.kind ok.own (h.thn I E fun v s₁ o H1 rv I1 f1 Ef1 q0 => ?_)
 obtain ⟨vs, kp, hit, hw⟩ := q0
 refine hit c.A s₁ v _ (c.aok.le (Nat.zero_le _)) I1 rv fun ia J h' g hia j0 it => ?_
 have I1' : Inv c.G H1 { s₁ with heap := h' } := I1.grow (tk := s₁.toks) g
 have hlia : ia < h'.objs.size := by obtain ⟨o, n, ho, _⟩ := it.here 0 _ j0; exact Heap.lt_size ho
 refine wpAny_newObj_type (wpAny_newFunctionEnv ok.cell (by intro y hy; simp at hy) (fun h₂ hns hsb => ?_) ok.kind)
 dsimp only at hns hsb ⊢
 have g2 : ∀ b o, h'.get? b = some o → h₂.get? b = some o := fun b o e => by
  have e1 := zbQ _ { cls := .type "list", data := .seq ([] : List Value).toArray } b o e
  have e2 := zbQ _ { cls := .type (if (some c.env).isSome = true then "dict" else "frame"), data := .dict #[] } b o e1
  exact hsb.extBut b o (Nat.ne_of_lt (by rw [Heap.size_push]; exact Nat.lt_succ_of_lt (Heap.lt_size e))) e2
 have hsz : (h'.push { cls := .type "list", dict := none, data := .seq ([] : List Value).toArray }).objs.size = h'.objs.size + 1 := by rw [Heap.size_push]
 rw [hsz] at hns hsb
 have hacc : h₂.get? h'.objs.size = some { cls := .type "list", dict := none, data := .seq ([] : List Value).toArray } := by
  refine hsb.extBut _ _ (Nat.ne_of_lt (Nat.lt_succ_self _)) (zbQ _ _ _ _ (Heap.get?_push_size _ rfl))
 have I2 : Inv c.G (upd H1 h'.objs.size (.list [])) { s₁ with heap := h₂, toks := s₁.toks + ([] : List (Str × Value)).length } :=
  I1'.alloc (s := { s₁ with heap := h' }) (ob := .list []) (tk := s₁.toks + ([] : List (Str × Value)).length) g2 (Nat.le_refl _) ⟨_, _, hacc, trivial⟩
 have le1 : s₁.heap.objs.size ≤ h'.objs.size := Nat.le_of_lt (Nat.lt_of_le_of_lt hia hlia)
 have frC : H1 (h'.objs.size + 1) = none := I1.size (Nat.le_succ_of_le le1)
 have frC2 : upd H1 h'.objs.size (.list []) (h'.objs.size + 1) = none := by rw [zbX _ _ (Nat.succ_ne_self _)]; exact frC
 have none0 : ∀ a, h'.objs.size ≤ a → c.G.h₀.get? a = none := fun a ha => by
  cases q : c.G.h₀.get? a with
  | none => rfl
  | some o => exact absurd (Heap.lt_size (I1'.base _ _ q)) (Nat.not_lt.mpr ha)
 have E1 := E.mono I f1
 have E1' : ER c r H1 h' m := E1.mono I1 (FrM.grow g)
 have kindB : ∀ x k, scope.names.lookup x = some k → Env.kindOf (compEnvC scope (closL c.env scope.names []) (h'.objs.size + 1) c.env) x = some (if (k == NameKind.free && c.env.scope.kind == .function && c.env.kindOf x == some .cell) then .cell else k) := fun x k e =>
  relabel_lookup (scope := scope) e
 have kindL : ∀ x ∈ locs, Env.kindOf (compEnvC scope (closL c.env scope.names []) (h'.objs.size + 1) c.env) x = some .local := fun x hx => kindB x _ (ok.loc x hx)
 have kindF : ∀ x ∈ frees, Env.kindOf (compEnvC scope (closL c.env scope.names []) (h'.objs.size + 1) c.env) x = some .cell := fun x hx => by
  rw [kindB x _ (ok.free x hx), c.es.kind, (cellF x hx).1]; rfl
 have lookF : ∀ x ∈ frees, (closL c.env scope.names []).lookup x = some ((c.env.cells.lookup x).getD 0) := fun x hx =>
  closL_has _ _ x (.inl (mem_of_lookup (ok.free x hx))) fun a e => by cases e
 have lookB : ∀ x a, (closL c.env scope.names []).lookup x = some a → c.env.cells.lookup x = some a := fun x a e => by
  rcases closL_lookup _ _ x a e with q | ⟨q1, q2⟩
  ·cases q
  ·obtain ⟨_, a', ha'⟩ := cellF x (ok.all _ q1 rfl)
   rw [ha'] at q2; rw [ha', q2]; rfl
 have es : EnvS (compEnvC scope (closL c.env scope.names []) (h'.objs.size + 1) c.env) (locs ++ frees) gl frees := by
  refine ⟨ok.kind, c.es.globals, c.es.builtins, ok.nd, fun x hx => ?_, fun x y a e1 e2 => c.es.apart x y a (lookB x a e1) (lookB y a e2), fun x hx => kindB x _ (ok.glob x hx), kindF⟩
  rcases List.mem_append.mp hx with hx | hx
  ·exact .inl (kindL x hx)
  ·exact .inr ⟨kindF x hx, _, lookF x hx⟩
 have E2 : ER ⟨c.G, c.A, compEnvC scope (closL c.env scope.names []) (h'.objs.size + 1) c.env, locs ++ frees, gl, frees, c.k, c.aok, es⟩ (List.replicate locs.length none ++ is.map (fun i => (r[i]?).join)) (upd H1 h'.objs.size (.list [])) h₂ (fun x => List.lookup x ([] : List (Str × Value)).reverse) := by
  refine ⟨hns, frC2, none0 _ (Nat.le_succ _), fun x a e => ?_, fun k x X e1 e2 => ?_⟩
  ·obtain ⟨c1, c2, c3, v0, hc⟩ := E1'.cl x a (lookB x a e)
   have := hc.lt
   refine ⟨?_, c2, ?_, v0, hc.keeps g2⟩
   ·rw [zbX _ _ (Nat.ne_of_lt this)]; exact c1
   ·exact Nat.ne_of_lt (Nat.lt_succ_of_lt this)
  ·rcases Nat.lt_or_ge k locs.length with q | q
   ·rw [List.getElem?_append_left (by simpa using q)] at e2
    rw [List.getElem?_replicate] at e2
    split at e2 <;> cases e2
   ·rw [List.getElem?_append_right (by simpa using q), List.length_replicate, List.getElem?_map] at e2
    rw [List.getElem?_append_right q] at e1
    obtain ⟨i, hi, hj⟩ := Option.map_eq_some_iff.mp e2
    have hx : c.names[i]? = some x := by
     have := congrArg (fun l => l[k - locs.length]?) hfr
     simp only [List.getElem?_map, hi, e1, Option.map_some] at this
     exact Option.some.inj this
    obtain ⟨w, hw⟩ : ∃ w, r[i]? = some (some w) ∧ w = X := by
     cases q : r[i]? with
     | none => rw [q] at hj; cases hj
     | some y =>
      rw [q] at hj
      cases y with
      | none => cases hj
      | some w => cases hj; exact ⟨_, rfl, rfl⟩
    obtain ⟨hw, rfl⟩ := hw
    obtain ⟨u, hu, ha⟩ := E1'.vars i x w hx hw
    have hxf := List.mem_of_getElem? e1
    refine ⟨u, hu.mono fun b o e _ => g2 b o e, ?_⟩
    rcases ha with ⟨hk, _⟩ | ⟨hk, a, hl, hc⟩
    ·rw [(cellF x hxf).1] at hk; cases hk
    ·refine .inr ⟨kindF x hxf, a, ?_, hc.keeps g2⟩
     show (closL c.env scope.names []).lookup x = some a
     rw [lookF x hxf, hl]; rfl
 have hnia : ¬ ownE (compEnvC scope (closL c.env scope.names []) (h'.objs.size + 1) c.env) ia := by
  rintro (q | ⟨x, q⟩)
  ·have q : ia = h'.objs.size + 1 := q
   omega
  ·obtain ⟨_, _, _, v0, oc, hoc, _⟩ := E1.cl x ia (lookB x ia q)
   exact absurd (Heap.lt_size hoc) (Nat.not_lt.mpr hia)
 have hbia : c.G.h₀.get? ia = none := by
  cases q : c.G.h₀.get? ia with
  | none => rfl
  | some o => exact absurd (Heap.lt_size (I1.base _ _ q)) (Nat.not_lt.mpr hia)
 obtain ⟨inv, i0, hkp, hturn, hend⟩ := hw ⟨c.G, c.A, compEnvC scope (closL c.env scope.names []) (h'.objs.size + 1) c.env, locs ++ frees, gl, frees, c.k, c.aok, es⟩ rfl rfl rfl rfl rfl kindL h'.objs.size (I1.size le1)
 have j2 : J 0 h₂ := it.loc 0 _ _ j0 fun o e => g2 _ _ e
 have nacc : upd H1 h'.objs.size (.list []) ia = none := by rw [zbX _ _ (Nat.ne_of_lt hlia)]; exact I1.size hia
 rw [hsz]
 refine comp_start (G := c.G) rfl (fun R hR => it.self 0 _ _ R j2 hR) ?_
 refine comp_loop (c := ⟨c.G, c.A, compEnvC scope (closL c.env scope.names []) (h'.objs.size + 1) c.env, locs ++ frees, gl, frees, c.k, c.aok, es⟩) rfl (fun r H K h => WB_next hp rest 0 rfl h) it hkp hturn I2 E2 j2 nacc hbia hnia i0 fun r' H' s' m' hv I' E' f' => ?_
 have fAll : FrM no H s.heap H' s'.heap := by
  intro b o e n _
  have x1 := f1 b o e n id
  have lt := Heap.lt_size x1.1
  have nb : b ≠ h'.objs.size := Nat.ne_of_lt (Nat.lt_of_lt_of_le lt le1)
  refine f' b o (g2 b o (g b o x1.1)) (by rw [zbX _ _ nb]; exact x1.2) ?_
  rintro (q | q)
  ·have q : b = h'.objs.size + 1 := q
   rw [q] at lt
   exact absurd lt (Nat.not_lt.mpr (Nat.le_succ_of_le le1))
  ·subst q; exact absurd lt (Nat.not_lt.mpr hia)
 have hCs : ∀ o, s.heap.get? (h'.objs.size + 1) = some o → H (h'.objs.size + 1) ≠ none := fun o e n =>
  absurd (Heap.lt_size (f1 _ o e n id).1) (Nat.not_lt.mpr (Nat.le_succ_of_le le1))
 exact hR h'.objs.size (h'.objs.size + 1) s' H' m' I' fAll (hend r' H' hv) hCs E'.lo (none0 _ (Nat.le_succ _)) E'.ns
theorem Ns_notImm {h : Heap} {a : Addr} {m : Str → Option Value} (hn : h.Ns a m) : ∀ o, h.get? a = some o → ¬ wjY o := fun o e i => by
 obtain ⟨oL, esL, epL, hoL, hdL, _⟩ := hn
 rw [hoL] at e; cases e
 rcases i with ⟨_, _, _, q⟩ | ⟨_, _, q⟩ <;> rw [hdL] at q <;> cases q
theorem WE_comp {elt t iter : Expr} {ifs : List Expr} {rest : List Comprehension} {scope : Scope} {pos : Pos} {Q : V → AH → Prop} (locs frees gl L : List Str) (is : List Nat) (hok : compChk scope locs frees gl = true) (hL : c.names = L) (hcv : ∀ x ∈ frees, x ∈ c.cv)
 (hfr : is.map (fun i => L[i]?) = frees.map some) (hp : (⟨t, iter, ifs, 0⟩ :: rest : List Comprehension).all plainGen = true)
 (h : WE c r H iter (CompH c r locs frees gl is elt t ifs rest Q)) : WE c r H (.ListComp elt (⟨t, iter, ifs, 0⟩ :: rest) scope pos) Q := fun s m I E => by
 rw [eval_ListComp]
 refine comp_core (Q := Q) I E (.of hok) hL hcv hfr hp h fun acc C s' H' mC I' f q hCs hC hC0 hn => ⟨mC, hn, fun h' hs => ?_⟩
 have hb : ∀ b, b ≠ C → h'.get? b = s'.heap.get? b := hs.2
 refine ⟨.ref acc, H', rRef, I'.other (tk := s'.toks) hC hC0 (Ns_notImm hn) hb, fun b o e n _ => ?_, q⟩
 have x := f b o e n id
 exact ⟨(hb b fun q => by subst q; exact hCs o e n).trans x.1, x.2⟩
theorem WS_assign_comp (i : Nat) {x : Str} {elt t iter : Expr} {ifs : List Expr} {rest : List Comprehension} {scope : Scope} {pos p p' : Pos} {Q : Fl → Loc → AH → Prop} (locs frees gl L : List Str) (is : List Nat) (hok : compChk scope locs frees gl = true) (hn : c.names[i]? = some x) (hL : c.names = L) (hcv : ∀ x ∈ frees, x ∈ c.cv)
 (hfr : is.map (fun i => L[i]?) = frees.map some) (hp : (⟨t, iter, ifs, 0⟩ :: rest : List Comprehension).all plainGen = true)
 (h : WE c r H iter (CompH c r locs frees gl is elt t ifs rest (fun X H1 => Q .next (setL r i X) H1))) : WS c r H (.Assign [.Name x p'] (.ListComp elt (⟨t, iter, ifs, 0⟩ :: rest) scope pos) p) Q := fun s m I E => by
 have hsw : swapsWith (.ListComp elt (⟨t, iter, ifs, 0⟩ :: rest) scope pos) (some (.Name x p')) p.line c.env = pure false ∨ swapsWith (.ListComp elt (⟨t, iter, ifs, 0⟩ :: rest) scope pos) (some (.Name x p')) p.line c.env = pure true := by
  show pure _ = pure false ∨ pure _ = pure true
  generalize (c.env.blockKind == .function && c.env.kindOf x == some .local && p'.line == (Expr.ListComp elt (⟨t, iter, ifs, 0⟩ :: rest) scope pos).pos.line && !(scope.names.any fun (n, k) => n == x && (k == .local || k == .cell))) = b
  cases b
  ·exact .inl rfl
  ·exact .inr rfl
 rcases hsw with hs | hs
 ·exact WS_assign i hn (WE_comp locs frees gl L is hok hL hcv hfr hp h) hs s m I E
 ·rw [exec_Assign_Name_used _ _ _ _ hs]
  refine wpAny_bind (wpAny_standAt (wpAny_bind ?_))
  show wpAny _ _ (do let _ ← comprehension (.ListComp elt (⟨t, iter, ifs, 0⟩ :: rest) scope pos) scope c.env _ (newList []) false (eval iter c.env) (some (assign (.Name x p') c.env))) _ _ s
  refine wpAny_bind (wpAny_mono (comp_core (use := some (assign (.Name x p') c.env)) (Q := fun X H1 => Q .next (setL r i X) H1) (R := fun _ s' => ∃ r' H' m', Inv c.G H' s' ∧ ER c r' H' s'.heap m' ∧ FrM (ownE c.env) H s.heap H' s'.heap ∧ Q .next r' H') I E (.of hok) hL hcv hfr hp h
   fun acc C s' H' mC I' f q hCs hC hC0 hn' => ?_) (fun _ s' h' => ?_) fun _ _ e => e)
  ·show wpAny _ _ (assign (.Name x p') c.env (.ref acc)) _ _ s'
   have E' := E.mono I f
   have hCL : C ≠ c.env.locals := fun q => by
    subst q; obtain ⟨oL, _, _, hoL, _⟩ := E.ns; exact hCs _ hoL E.lo
   have hCown : ∀ a x, c.env.cells.lookup x = some a → a ≠ C := fun a x e q => by
    subst q; obtain ⟨c1, _, _, v, oc, hoc, _⟩ := E.cl x a e; exact hCs _ hoc c1
   refine assign_Name (wp_store i I' E' hn rRef fun h2 tk2 m2 I2 E2 f2 im => ?_)
   have hoC : ∃ oC, s'.heap.get? C = some oC := by obtain ⟨o, _, _, ho, _⟩ := hn'; exact ⟨o, ho⟩
   obtain ⟨oC, hoC⟩ := hoC
   have nown : ¬ ownE c.env C := by rintro (q | ⟨x, q⟩); exact hCL q; exact hCown C x q rfl
   have hC2 := f2 C oC hoC hC nown
   obtain ⟨o3, es3, ep3, ho3, hd3⟩ := hn'
   rw [hoC] at ho3; cases ho3
   have hn2 : h2.Ns C mC := ⟨oC, es3, ep3, hC2.1, hd3⟩
   refine ⟨mC, hn2, fun h3 hs3 => ?_⟩
   have hb : ∀ b, b ≠ C → h3.get? b = h2.get? b := hs3.2
   have I3 : Inv c.G H' { s' with heap := h3, toks := tk2 } := I2.other (tk := tk2) hC hC0 (Ns_notImm hn2) hb
   have ki : ∀ a o, h2.get? a = some o → wjY o → h3.get? a = some o := fun a o e im => by
    rw [hb a]; exact e
    rintro rfl; exact Ns_notImm hn2 o e im
   refine ⟨_, H', m2, I3, ?_, ?_, q⟩
   ·obtain ⟨o, es, ep, ho, qq⟩ := E2.ns
    refine ⟨⟨o, es, ep, (hb _ (Ne.symm hCL)).trans ho, qq⟩, E2.lo, E2.lb, fun y a e => ?_, fun k y Y e1 e2 => ?_⟩
    ·obtain ⟨c1, c2, c3, v0, oc, hoc, hd⟩ := E2.cl y a e
     exact ⟨c1, c2, c3, v0, oc, (hb a (hCown a y e)).trans hoc, hd⟩
    ·obtain ⟨u, hu, ha⟩ := E2.vars k y Y e1 e2
     refine ⟨u, hu.mono ki, ?_⟩
     rcases ha with ha | ⟨hk, a, hl, oc, hoc, hd⟩
     ·exact .inl ha
     ·exact .inr ⟨hk, a, hl, oc, (hb a (hCown a y hl)).trans hoc, hd⟩
   ·intro b o e n mm
    have x1 := f b o e n id
    have x2 := f2 b o x1.1 x1.2 mm
    exact ⟨(hb b fun q => by subst q; exact hCs o e n).trans x2.1, x2.2⟩
  ·obtain ⟨r', H', m', I', E', f', q⟩ := h'
   exact wpAny_pure (wpAny_pure ⟨.next, r', H', m', trivial, I', E', f', q⟩)
end
set_option tactic.hygienic false
noncomputable def fnChkC (K : Frag) (f : Addr) (names gl cv : List Str) : Bool :=
 fnIn K f && (match (fdIn K f).body with | .stmts _ => true | _ => false) && codeIn K (fdIn K f).code (fdIn K f).qualname && !(fdIn K f).scope.isCoroutine && !(fdIn K f).scope.isGenerator &&
 decide ((fdIn K f).scope.kind = .function) && (fdIn K f).globals == mainGlobals && (fdIn K f).builtins == builtinsNs && (fdIn K f).closure.isEmpty &&
 (names.all fun x => (fdIn K f).scope.names.lookup x == some .local || (fdIn K f).scope.names.lookup x == some .cell) && (gl.all fun x => (fdIn K f).scope.names.lookup x == some .globalImplicit) && (cv.all fun x => (fdIn K f).scope.names.lookup x == some .cell) && decide names.Nodup
structure FnOkC (P : Params) (f : Addr) (names gl cv : List Str) : Prop where
 look : ∃ oc od osl, (KK P).lookup f = some ⟨oc, od, .func (fdIn (KK P) f), osl⟩
 body : (fdIn (KK P) f).body = .stmts (bodyOf (fdIn (KK P) f))
 code : codeIn (KK P) (fdIn (KK P) f).code (fdIn (KK P) f).qualname = true
 co : (fdIn (KK P) f).scope.isCoroutine = false
 gen : (fdIn (KK P) f).scope.isGenerator = false
 kind : (fdIn (KK P) f).scope.kind = .function
 globals : (fdIn (KK P) f).globals = mainGlobals
 builtins : (fdIn (KK P) f).builtins = builtinsNs
 closure : (fdIn (KK P) f).closure = []
 vars : (names.all fun x => (fdIn (KK P) f).scope.names.lookup x == some .local || (fdIn (KK P) f).scope.names.lookup x == some .cell) = true
 globs : (gl.all fun x => (fdIn (KK P) f).scope.names.lookup x == some .globalImplicit) = true
 cvs : (cv.all fun x => (fdIn (KK P) f).scope.names.lookup x == some .cell) = true
 nodup : decide names.Nodup = true
theorem FnOkC.of {P : Params} {f : Addr} {names gl cv : List Str} (e : fnChkC (KK P) f names gl cv = true) : FnOkC P f names gl cv := by
 unfold fnChkC at e
 simp only [Bool.and_eq_true, Bool.not_eq_true', beq_iff_eq, decide_eq_true_eq] at e
 obtain ⟨⟨⟨⟨⟨⟨⟨⟨⟨⟨⟨⟨e1, e2⟩, e3⟩, e4⟩, e5⟩, e6⟩, e7⟩, e8⟩, e9⟩, e10⟩, e11⟩, e12⟩, e13⟩ := e
 refine ⟨?_, ?_, e3, e4, e5, e6, e7, e8, List.isEmpty_iff.mp e9, e10, e11, e12, decide_eq_true e13⟩
 ·unfold fnIn at e1
  split at e1
  ·rename_i q
   unfold fdIn
   rw [q]; exact ⟨_, _, _, rfl⟩
  ·cases e1
 ·unfold bodyOf
  split at e2
  ·rename_i q; rw [q]
  ·cases e2
theorem cellsFrom_has : ∀ (names : List (Str × NameKind)) (n : Nat) (acc : List (Str × Addr)) (x : Str), ((x, NameKind.cell) ∈ names ∨ (acc.lookup x).isSome = true) → ((cellsFrom n names acc).lookup x).isSome = true
 | [], _, _, _, h => by rcases h with h | h; cases h; exact h
 | (y, k) :: r, n, acc, x, h => by
  unfold cellsFrom
  split
  ·rename_i q
   refine cellsFrom_has r _ _ x ?_
   rcases h with h | h
   ·rcases List.mem_cons.mp h with e | h
    ·cases e; exact .inr (by simp [List.lookup_cons])
    ·exact .inl h
   ·refine .inr ?_
    rw [List.lookup_cons]
    cases x == y
    ·exact h
    ·rfl
  ·rename_i q
   refine cellsFrom_has r _ _ x ?_
   rcases h with h | h
   ·rcases List.mem_cons.mp h with e | h
    ·cases e; exact absurd rfl q
    ·exact .inl h
   ·exact .inr h
theorem bindL_miss {ko : Str → Option NameKind} : ∀ {bs : List (Str × Value)} {m : Str → Option Value} {x : Str}, (∀ v, (x, v) ∉ bs) → bindL ko bs m x = m x
 | [], _, _, _ => rfl
 | (n, v) :: r, m, x, h => by
  unfold bindL
  rw [bindL_miss fun w q => h w (.tail _ q)]
  split
  ·show (if x = n then some v else m x) = m x
   rw [if_neg]; rintro rfl; exact h v (.head _)
  ·rfl
theorem bindC_miss {ko : Str → Option NameKind} : ∀ {bs : List (Str × Value)} {m : Str → Option Value} {x : Str}, (∀ v, (x, v) ∉ bs) → bindC ko bs m x = m x
 | [], _, _, _ => rfl
 | (n, v) :: r, m, x, h => by
  unfold bindC
  rw [bindC_miss fun w q => h w (.tail _ q)]
  split
  ·rfl
  ·show (if x = n then some v else m x) = m x
   rw [if_neg]; rintro rfl; exact h v (.head _)
theorem zip_notmem {ps : List Str} {vs : List Value} {x : Str} (h : x ∉ ps) : ∀ v, (x, v) ∉ ps.zip vs := fun v q => h (List.of_mem_zip q).1
theorem bindL_zip {ko : Str → Option NameKind} : ∀ {ps : List Str} {vs : List Value} {i : Nat} {m : Str → Option Value} {x : Str} {v : Value}, ps.Nodup → ps[i]? = some x → vs[i]? = some v → ko x = some .local → bindL ko (ps.zip vs) m x = some v
 | [], _, _, _, _, _, _, e, _, _ => by simp at e
 | _ :: _, [], _, _, _, _, _, _, e, _ => by simp at e
 | p :: ps, w :: vs, 0, m, x, v, nd, e1, e2, hk => by
  simp at e1 e2; subst e1 e2
  rw [List.zip_cons_cons]
  unfold bindL
  rw [bindL_miss (zip_notmem (List.nodup_cons.mp nd).1), if_pos hk, if_pos rfl]
 | p :: ps, w :: vs, i + 1, m, x, v, nd, e1, e2, hk => by
  simp at e1 e2
  rw [List.zip_cons_cons]
  unfold bindL
  exact bindL_zip (List.nodup_cons.mp nd).2 e1 e2 hk
theorem bindC_zip {ko : Str → Option NameKind} : ∀ {ps : List Str} {vs : List Value} {i : Nat} {m : Str → Option Value} {x : Str} {v : Value}, ps.Nodup → ps[i]? = some x → vs[i]? = some v → ko x ≠ some .local → bindC ko (ps.zip vs) m x = some v
 | [], _, _, _, _, _, _, e, _, _ => by simp at e
 | _ :: _, [], _, _, _, _, _, _, e, _ => by simp at e
 | p :: ps, w :: vs, 0, m, x, v, nd, e1, e2, hk => by
  simp at e1 e2; subst e1 e2
  rw [List.zip_cons_cons]
  unfold bindC
  rw [bindC_miss (zip_notmem (List.nodup_cons.mp nd).1), if_neg hk, if_pos rfl]
 | p :: ps, w :: vs, i + 1, m, x, v, nd, e1, e2, hk => by
  simp at e1 e2
  rw [List.zip_cons_cons]
  unfold bindC
  exact bindC_zip (List.nodup_cons.mp nd).2 e1 e2 hk
theorem WCode_defC {G : Gd} {lv : Nat} {f : Addr} {names gl cv ps : List Str} {args : List V} {H : AH} {Q : V → AH → Prop} {extra : List V} (ok : FnOkC G.w.params f names gl cv)
 (hps : names.take ps.length = ps) (hlen : (args ++ extra).length = ps.length)
 (hbind : ∀ s vs, (KK G.w.params).In s.heap → RepL s.heap vs args → ∃ us, RepL s.heap us extra ∧ BindsTo s (fdIn (KK G.w.params) f) ⟨vs, []⟩ (ps.zip (vs ++ us)))
 (h : ∀ A env (aok : AOk lv A) (es : EnvS env names gl cv), WSs ⟨G, A, env, names, gl, cv, lv, aok, es⟩ ((args ++ extra).map some ++ List.replicate (names.length - ps.length) none) H (bodyOf (fdIn (KK G.w.params) f))
  (Ret Q)) : waX G (lv + 1) (.ref f) args H Q := by
 intro A s vs aok I rv
 obtain ⟨oc, od, osl, hl⟩ := ok.look
 obtain ⟨us, ru, hb⟩ := hbind s vs (G.KI.keeps I.base) rv
 have hroom : A.depth < recursionLimit := by have := aok.depth; show A.depth < 1000; omega
 have nd : names.Nodup := of_decide_eq_true ok.nodup
 have lks : ∀ x ∈ names, (fdIn (KK G.w.params) f).scope.names.lookup x = some .local ∨ (fdIn (KK G.w.params) f).scope.names.lookup x = some .cell := fun x hx => by
  have := List.all_eq_true.mp ok.vars x hx
  simpa using this
 have subps : ∀ x ∈ ps, x ∈ names := fun x hx => by rw [← hps] at hx; exact List.mem_of_mem_take hx
 have ndp : ps.Nodup := by rw [← hps]; exact nd.sublist (List.take_sublist _ _)
 have cellsH : ∀ n x, (fdIn (KK G.w.params) f).scope.names.lookup x = some .cell → ((cellsFrom n (fdIn (KK G.w.params) f).scope.names []).lookup x).isSome = true := fun n x e => cellsFrom_has _ _ _ _ (.inl (mem_of_lookup e))
 refine codeAny_call_function hroom (I.base f _ (G.KI f _ hl)) rfl ok.co ok.gen ok.body (codeRec_of (G.KI.keeps I.base) ok.code) ?_
 refine hb _ _ _ _ ?_
 rw [ok.closure]
 refine wpAny_newFunctionEnv_cells ok.kind (fun x hx => ?_) fun env he s' x => ?_
 ·rcases lks _ (subps _ (List.of_mem_zip hx).1) with q | q
  ·exact .inl q
  ·exact .inr ⟨q, cellsH _ _ q⟩
 have hko : ∀ y, env.kindOf y = (fdIn (KK G.w.params) f).scope.names.lookup y := fun y => by rw [he]; rfl
 have hcells : env.cells = cellsFrom (s.heap.objs.size + 1) (fdIn (KK G.w.params) f).scope.names [] := by rw [he]; rfl
 have hloc : env.locals = s.heap.objs.size := by rw [he]; rfl
 refine ⟨(G.lim.keeps I.base).keeps x.toInCall.keep, codeAny_func ?_⟩
 have es : EnvS env names gl cv := by
  refine ⟨by rw [he]; exact ok.kind, by rw [he]; exact ok.globals, by rw [he]; exact ok.builtins, nd, fun y hy => ?_, fun y z cc e1 e2 => ?_, fun y hy => ?_, fun y hy => ?_⟩
  ·rw [hko]
   rcases lks y hy with q | q
   ·exact .inl q
   ·refine .inr ⟨q, ?_⟩
    rw [hcells]; exact Option.isSome_iff_exists.mp (cellsH _ _ q)
  ·exact name_of_addr x.apart (mem_of_lookup e1) (mem_of_lookup e2)
  ·rw [hko]; exact beq_iff_eq.mp (List.all_eq_true.mp ok.globs y hy)
  ·rw [hko]; exact beq_iff_eq.mp (List.all_eq_true.mp ok.cvs y hy)
 have aok' : AOk lv (A.deeper env) := ⟨aok.handled, by show A.depth + 1 + 3 * lv ≤ 900; have := aok.depth; omega, by show A.units + 3 + 10 * lv ≤ 9000; have := aok.units; omega⟩
 obtain ⟨h₁, tk, rfl⟩ := x.toInCall.same
 have hk : ∀ b o, s.heap.get? b = some o → h₁.get? b = some o := x.toInCall.keep
 have I' : Inv G H { s with heap := h₁, toks := tk } := I.grow hk
 have rvu : RepL h₁ (vs ++ us) (args ++ extra) := (rv.app ru).mono fun a o e _ => hk a o e
 have n0 : ∀ a, s.heap.objs.size ≤ a → G.h₀.get? a = none := fun a ha => by
  cases q : G.h₀.get? a with
  | none => rfl
  | some o => exact absurd (Heap.lt_size (I.base _ _ q)) (Nat.not_lt.mpr ha)
 have E : ER ⟨G, _, env, names, gl, cv, lv, aok', es⟩ ((args ++ extra).map some ++ List.replicate (names.length - ps.length) none) H h₁ (bindL env.kindOf (ps.zip (vs ++ us)) fun _ => none) := by
  refine ⟨x.toInCall.ns, I.size (by rw [hloc]; exact Nat.le_refl _), n0 _ (by rw [hloc]; exact Nat.le_refl _), fun y a e => ?_, fun i y X e1 e2 => ?_⟩
  ·have ha := x.above y a (mem_of_lookup e)
   rw [hloc] at ha
   exact ⟨I.size (Nat.le_of_lt ha), n0 _ (Nat.le_of_lt ha), by show a ≠ env.locals; rw [hloc]; exact Nat.ne_of_gt ha, _, x.cell y a e⟩
  ·have hi : i < (args ++ extra).length := by
    rcases Nat.lt_or_ge i (args ++ extra).length with q | q
    ·exact q
    ·rw [List.getElem?_append_right (by rw [List.length_map]; exact q)] at e2
     obtain ⟨_, e⟩ := List.getElem?_eq_some_iff.mp e2
     rw [List.getElem_replicate] at e; cases e
   rw [List.getElem?_append_left (by rw [List.length_map]; exact hi), List.getElem?_map] at e2
   obtain ⟨Y, hY, hY'⟩ := Option.map_eq_some_iff.mp e2
   cases hY'
   obtain ⟨v, hv, rv'⟩ := rvu.get hY
   have hpx : ps[i]? = some y := by
    rw [← hps, List.getElem?_take_of_lt (by rw [← hlen]; exact hi)]; exact e1
   refine ⟨v, rv', ?_⟩
   rcases lks y (List.mem_of_getElem? e1) with q | q
   ·exact .inl ⟨(hko y).trans q, bindL_zip ndp hpx hv ((hko y).trans q)⟩
   ·obtain ⟨a, ha⟩ := Option.isSome_iff_exists.mp (cellsH (s.heap.objs.size + 1) _ q)
    rw [← hcells] at ha
    refine .inr ⟨(hko y).trans q, a, ha, ?_⟩
    have := x.cell y a ha
    rw [bindC_zip ndp hpx hv (by rw [hko, q]; decide)] at this
    exact this
 refine wpAny_mono (h _ env aok' es _ _ I' E) (fun fl s' h' => ?_) fun _ _ e => e.elim
 obtain ⟨X, r', H', m', a, I1, E1, f1, q⟩ := h'
 have fr : FrM no H s.heap H' s'.heap := fun b o e n _ => f1 b o (hk b o e) n (by
  rintro (q | ⟨y, q⟩)
  ·have q : b = env.locals := q
   rw [hloc] at q
   exact absurd (Heap.lt_size e) (by rw [q]; exact Nat.lt_irrefl _)
  ·have ha := x.above y b (mem_of_lookup q)
   rw [hloc] at ha
   exact absurd (Heap.lt_size e) (Nat.not_lt.mpr (Nat.le_of_lt ha)))
 cases fl <;> cases X <;> first | exact a.elim | exact q.elim | skip
 ·exact ⟨_, .none, H', rfl, rNone (h := s'.heap), I1, fr, q⟩
 ·exact ⟨_, _, H', rfl, a, I1, fr, q⟩
theorem wiV {G : Gd} {lv : Nat} {f : Addr} {names gl cv ps : List Str} {args : List V} {H : AH} {Q : V → AH → Prop} {extra : List V}
 {name qual : Str} {params : Arguments} {body : List Stmt} {scope : Scope} {dV kV doc pm cdv ct oc : Value} {an od : Option Addr} {osl : Array (Option Value)}
 (ho : (hd.heap_1 G.w.params).lookup f = some ⟨oc, od, .func (fnOf name qual params body scope dV kV doc pm an cdv ct), osl⟩) (ok : FnOkC G.w.params f names gl cv)
 (hps : names.take ps.length = ps) (hlen : (args ++ extra).length = ps.length)
 (hbind : ∀ s vs, (KK G.w.params).In s.heap → RepL s.heap vs args → ∃ us, RepL s.heap us extra ∧ BindsTo s (fnOf name qual params body scope dV kV doc pm an cdv ct) ⟨vs, []⟩ (ps.zip (vs ++ us)))
 (h : ∀ c : Cx, c.names = names → c.gl = gl → c.cv = cv → c.k = lv → c.G = G → WSs c ((args ++ extra).map some ++ List.replicate (names.length - ps.length) none) H body (Ret Q)) : waX G (lv + 1) (.ref f) args H Q := by
 have e : bodyOf (fdIn (KK G.w.params) f) = body := by unfold bodyOf fdIn KK; rw [ho]
 have e2 : fdIn (KK G.w.params) f = fnOf name qual params body scope dV kV doc pm an cdv ct := by unfold fdIn KK; rw [ho]
 exact WCode_defC ok hps hlen (by rw [e2]; exact hbind) (by rw [e]; exact fun A env aok es => h _ rfl rfl rfl rfl rfl)
set_option tactic.hygienic false
section
variable {G : Gd} {H : AH} {k : Nat} {Q : V → AH → Prop}
theorem C_len_list {l : Addr} {vs : List V} (hl : H l = some (.list vs)) (hz : vs.length ≤ szL) (h : Q (.int vs.length) H) : wgV G k (.builtin "len") [.ref l] H Q := fun A s us _ I rv => by
 obtain ⟨_, rfl⟩ := rv.ex1
 obtain ⟨e, _⟩ := rv
 ·cases e
  obtain ⟨items, n, hi, rl⟩ := I.own l _ hl
  have hs : items.size = vs.length := by rw [← rl.len, Array.length_toList]
  unfold szL at hz
  refine Calls.call_len_list hi.isList (by rw [hs]; omega) (TV.now I.toks ?_ FrM.refl h)
  rw [hs]; exact rInt
theorem C_len_bytes {l : List UInt8} (hz : l.length ≤ szL) (h : Q (.int l.length) H) : wgV G k (.builtin "len") [.bytes l] H Q := fun A s us _ I rv => by
 obtain ⟨_, rfl⟩ := rv.ex1
 obtain ⟨⟨t, e⟩, _⟩ := rv
 ·subst e
  unfold szL at hz
  refine KBw.len_K (b := l.toArray) (ks := l.map fun c => (c.toNat : Int)) rfl (by simp; omega) (TV.now I.toks ?_ FrM.refl h)
  rw [List.length_map]; exact rInt
theorem C_len_script (hz : G.ns.length ≤ szL) (h : Q (.int G.ns.length) H) : wgV G k (.builtin "len") [.ref G.sc] H Q := fun A s us _ I rv => by
 obtain ⟨_, rfl⟩ := rv.ex1
 obtain ⟨e, _⟩ := rv
 ·cases e
  obtain ⟨o, ho, hq⟩ := id G.scL
  have hi : s.heap.IsList G.sc G.scItems.toArray := ⟨o, I.base _ _ ho, hq⟩
  have hs : G.scItems.length = G.ns.length := G.scI.length
  unfold szL at hz
  refine Calls.call_len_list hi (by rw [List.size_toArray, hs]; omega) (TV.now I.toks ?_ FrM.refl h)
  rw [List.size_toArray, hs]; exact rInt
theorem C_max2 {i j : Int} (h : Q (.int (max i j)) H) : wgV G k (.builtin "max") [.int i, .int j] H Q := fun A s us aok I rv => by
 obtain ⟨_, _, rfl⟩ := rv.ex2
 obtain ⟨⟨t, e⟩, ⟨u, e'⟩, _⟩ := rv
 ·subst e e'
  refine max_two_ints aok.handled fun h' tk g => TV.now (I.grow g) ?_ (FrM.grow g) h
  split <;> rename_i q
  ·exact ⟨u, by rw [Int.max_eq_right (Int.le_of_lt q)]⟩
  ·exact ⟨t, by rw [Int.max_eq_left (Int.not_lt.mp q)]⟩
theorem C_min2 {i j : Int} (h : Q (.int (min i j)) H) : wgV G k (.builtin "min") [.int i, .int j] H Q := fun A s us aok I rv => by
 obtain ⟨_, _, rfl⟩ := rv.ex2
 obtain ⟨⟨t, e⟩, ⟨u, e'⟩, _⟩ := rv
 ·subst e e'
  refine min_two_ints aok.handled fun h' tk g => TV.now (I.grow g) ?_ (FrM.grow g) h
  split <;> rename_i q
  ·exact ⟨u, by rw [Int.min_eq_right (Int.le_of_lt q)]⟩
  ·exact ⟨t, by rw [Int.min_eq_left (Int.not_lt.mp q)]⟩
theorem rng_there {h : Heap} {i j : Int} {t1 t2 t3 : Tok} : Rep (h.push (rngObj i j t1 t2 t3)) (.ref h.objs.size) (.rng i j) := ⟨_, t1, t2, t3, rfl, Heap.get?_push_size _ rfl⟩
theorem C_range1 {j : Int} (h : Q (.rng 0 j) H) : wgV G k (.type "range") [.int j] H Q := fun A s us aok I rv => by
 obtain ⟨_, rfl⟩ := rv.ex1
 obtain ⟨⟨t, e⟩, _⟩ := rv
 ·subst e
  exact call_range_1 (TV.now (I.grow (zbQ _ _)) rng_there (FrM.grow (zbQ _ _)) h)
theorem C_range2 {i j : Int} (h : Q (.rng i j) H) : wgV G k (.type "range") [.int i, .int j] H Q := fun A s us aok I rv => by
 obtain ⟨_, _, rfl⟩ := rv.ex2
 obtain ⟨⟨t, e⟩, ⟨u, e'⟩, _⟩ := rv
 ·subst e e'
  exact call_range_2 (TV.now (I.grow (zbQ _ _)) rng_there (FrM.grow (zbQ _ _)) h)
theorem repInts {h : Heap} : ∀ {vs : List Value} {is : List Int}, RepL h vs (is.map V.int) → IntsAre vs is
 | [], [], _ => .nil
 | v :: vs, i :: is, ⟨⟨t, e⟩, b⟩ => by subst e; exact .cons _ _ (repInts b)
 | [], _ :: _, h => h.elim
 | _ :: _, [], h => h.elim
theorem intsItems {vs : List Value} {is : List Int} (h : IntsAre vs is) : ∃ xs : Array (Int × Tok), vs.toArray = intItems xs ∧ xs.toList.map (·.1) = is := by
 induction h with
 | nil => exact ⟨#[], by simp [intItems], rfl⟩
 | @cons n t vs ns _ ih =>
  obtain ⟨xs, e1, e2⟩ := ih
  refine ⟨(#[(n, t)] : Array (Int × Tok)) ++ xs, ?_, by simp [e2]⟩
  unfold intItems at *
  have : vs = (xs.map fun p => Value.int p.1 p.2).toList := by rw [← e1]
  rw [this]; simp
theorem C_min_list {l : Addr} {is : List Int} {j : Int} (hl : H l = some (.list (is.map V.int))) (hm : j ∈ is) (hle : ∀ i ∈ is, j ≤ i) (h : Q (.int j) H) : wgV G k (.builtin "min") [.ref l] H Q := fun A s us aok I rv => by
 obtain ⟨_, rfl⟩ := rv.ex1
 obtain ⟨e, _⟩ := rv
 ·cases e
  obtain ⟨items, n, hi, rl⟩ := I.own l _ hl
  obtain ⟨xs, e1, e2⟩ := intsItems (repInts rl)
  have hi' : s.heap.IsList l (intItems xs) := by rw [← e1]; exact hi.isList
  have hlen : xs.size = is.length := by rw [← e2]; simp
  have hsz : 0 < xs.size := by rw [hlen]; exact List.length_pos_of_mem hm
  refine min_intList aok.handled hi' hsz fun v h' tk hv g => ?_
  obtain ⟨t, rfl⟩ := intItems_at hv
  obtain ⟨h1, h2⟩ := argBest_lt (numAt xs) (xs.size - 1)
  have key : numAt xs (argBest (fun i j => decide (numAt xs i < numAt xs j)) (xs.size - 1)) = j := by
   have num : ∀ q, q < xs.size → numAt xs q ∈ is := fun q hq => by
    unfold numAt
    rw [← e2, Array.getElem?_eq_getElem hq]
    exact List.mem_map.mpr ⟨xs[q], by simp, rfl⟩
   have hlt : argBest (fun i j => decide (numAt xs i < numAt xs j)) (xs.size - 1) < xs.size := by omega
   have a1 := hle _ (num _ hlt)
   obtain ⟨q, hq, e⟩ := List.mem_iff_getElem.mp (e2 ▸ hm : j ∈ xs.toList.map (·.1))
   have hq' : q < xs.size := by simpa using hq
   have a2 := h2 q (by omega)
   have e3 : numAt xs q = j := by
    unfold numAt
    rw [Array.getElem?_eq_getElem hq', ← e]; simp
   omega
  refine TV.now (I.grow g) ?_ (FrM.grow g) h
  exact ⟨t, by rw [key]⟩
end
set_option tactic.hygienic false
section
variable {c : Cx} {r : Loc} {G : Gd} {H : AH} {k : Nat} {Q : V → AH → Prop}
noncomputable def GM (G : Gd) (X : V) (x : Str) (f : Value) (H : AH) : Prop := ∀ A s v (pl : Sem Bool) (R : Value × List Value → Shared → Prop), AOk 0 A → Inv G H s → Rep s.heap v X → R (f, [v]) s → wpAny (model PG G.w) A (getMethod v x pl) R (fun _ _ => False) s
theorem WE_methB {o : Expr} {x : Str} {ap p : Pos} {es : List Expr}
 (h : WE c r H o (fun X H1 => ∃ f, GM c.G X x f H1 ∧ Kep c.G.w.params f ∧ WL c r H1 es (fun Ys H2 => wgV c.G c.k f (X :: Ys) H2 Q)))
 (he : (starEach es c.env).all (fun x => !x.1) = true := by rfl)
 {pl : Sem Bool} (hm : eval (.Call (.Attribute o x ap) es [] p) c.env = (do
  let ov ← eval o c.env
  standAt ap.atName
  let (f, first) ← holding [ov] (getMethod ov x pl)
  callWith p f first (backTo p (starEach es c.env)) []) := by rfl) : WE c r H (.Call (.Attribute o x ap) es [] p) Q := fun s m I E => by
 refine MethodCall_ (he := hm) (h.thn I E fun v s₁ X H1 rv I1 f1 Ef1 q0 => ?_)
 obtain ⟨f, gm, kp, q⟩ := q0
 refine gm c.A s₁ v pl _ (c.aok.le (Nat.zero_le _)) I1 rv ?_
 exact TV.then f1 (callWith_WL I1 Ef1 kp he (Fs := [X]) ⟨rv, trivial⟩ q)
theorem GM_append {l : Addr} {vs : List V} (hl : H l = some (.list vs)) : GM G (.ref l) "append" (.builtin "list.append") H := fun A s v pl R _ I rv h => by
 cases rv
 obtain ⟨items, n, hi, rl⟩ := I.own l _ hl
 exact Calls.getMethod_list_append hi rfl rfl h
theorem GM_get {l : Addr} {n : Nat} {d : Int → Option Int} (hl : H l = some (.idict n d)) : GM G (.ref l) "get" (.builtin "dict.get") H := fun A s v pl R _ I rv h => by
 cases rv
 obtain ⟨⟨f, hm, hf⟩, hle⟩ := I.own l _ hl
 exact PySem.getMethod_builtin hm.typeIs PySem.F.plainAttrs_dict PySem.F.slot_dict_get PySem.F.type_dict_get hm.noDict h
theorem GM_bits {i : Int} : GM G (.int i) "bit_length" (.builtin "int.bit_length") H := fun A s v pl R _ I rv h => by
 obtain ⟨t, rfl⟩ := rv
 exact getMethod_int_bit_length h
theorem wcX {l : Addr} {vs : List V} {X : V} (hl : H l = some (.list vs)) (hz : vs.length ≤ 100000) (h : Q .none (upd H l (.list (vs ++ [X])))) : wgV G k (.builtin "list.append") [.ref l, X] H Q := fun A s us aok I rv => by
 obtain ⟨_, _, rfl⟩ := rv.ex2
 obtain ⟨e, rx, _⟩ := rv
 ·cases e
  exact wp_append I hl rx hz fun h' I' f' => ⟨.none, _, rNone (h := h'), I', f', h⟩
theorem C_get {l : Addr} {n : Nat} {d : Int → Option Int} {i j : Int} (hl : H l = some (.idict n d)) (h : Q (.int ((d i).getD j)) H) : wgV G k (.builtin "dict.get") [.ref l, .int i, .int j] H Q := fun A s us aok I rv => by
 obtain ⟨_, _, _, rfl⟩ := rv.ex3
 obtain ⟨e, ⟨t, e1⟩, ⟨u, e2⟩, _⟩ := rv
 ·subst e1 e2
  cases e
  obtain ⟨⟨f, hm, hf⟩, hle⟩ := I.own l _ hl
  have hd : (l == sysModules) = false := by
   have := I.hi l _ hl
   rw [beq_eq_false_iff_ne]; rintro rfl; exact absurd this (by decide)
  refine call_meetsIn PySem.F.slot_dict_get hm.typeIs PySem.F.entry_dict_get (PySem.F.args_dict_get_3 _ _ _) (meets_dict_get_default _ _ (intKind_is PG G.w i t) hd _) ⟨f, hm, ?_⟩
  refine TV.now I.toks ?_ FrM.refl h
  have := hf i
  cases q : d i with
  | none => rw [q] at this; simp only [this, Option.getD_none]; exact rInt
  | some z => rw [q] at this; obtain ⟨tt, ht⟩ := this; simp only [ht, Option.getD_some]; exact rInt
theorem C_bits {i : Int} (h : Q (.int (Builtin.Int.intBits i)) H) : wgV G k (.builtin "int.bit_length") [.int i] H Q := fun A s us aok I rv => by
 obtain ⟨_, rfl⟩ := rv.ex1
 obtain ⟨⟨t, e1⟩, _⟩ := rv
 ·subst e1
  exact call_int_bit_length (TV.now I.toks rInt FrM.refl h)
theorem byteArr_eq (is : List UInt8) : byteArr (is.map fun b => (b.toNat : Int)) = is.toArray := by
 unfold byteArr
 rw [List.map_map]
 congr 1
 conv => rhs; rw [← List.map_id is]
 apply List.map_congr_left
 intro b _
 show ((b.toNat : Int)).toNat.toUInt8 = b
 rw [Int.toNat_natCast]
 exact UInt8.ofNat_toNat
theorem wkZ {l : Addr} {bs : List UInt8} (hl : H l = some (.list (bs.map fun b => V.int b.toNat))) (hz : bs.length ≤ szL) (h : Q (.bytes bs) H) : wgV G k (.type "bytes") [.ref l] H Q := fun A s us aok I rv => by
 obtain ⟨_, rfl⟩ := rv.ex1
 obtain ⟨e, _⟩ := rv
 ·cases e
  obtain ⟨items, n, hi, rl⟩ := I.own l _ hl
  have rl' : RepL s.heap items.toList ((bs.map fun b => (b.toNat : Int)).map V.int) := by rw [List.map_map]; exact rl
  have hlen := rl.len
  rw [List.length_map] at hlen
  refine call_bytes_ints (vs := items.toList) (ns := bs.map fun b => (b.toNat : Int)) (by rw [Array.toArray_toList]; exact hi.isList) (repInts rl') (fun n hn => ?_) (by rw [hlen, ← szL_eq]; exact hz) aok.handled fun h' t kk g => ?_
  ·obtain ⟨b, _, rfl⟩ := List.mem_map.mp hn
   have := UInt8.toNat_lt b
   omega
  ·rw [byteArr_eq]
   exact TV.now (X := .bytes bs) (I.grow g) ⟨t, rfl⟩ (FrM.grow g) h
theorem bb_bytes : typeLookup (.type "bytes") "__bytes__" = pure (some (.builtin "bytes.__bytes__")) := by rw [typeLookup_type, builtinLookup_eq_fast]; kernel_rfl
theorem C_bytes_bytes {bs : List UInt8} (h : Q (.bytes bs) H) : wgV G k (.type "bytes") [.bytes bs] H Q := fun A s us aok I rv => by
 obtain ⟨_, rfl⟩ := rv.ex1
 obtain ⟨⟨t, e⟩, _⟩ := rv
 ·subst e
  refine callType_codes (Q₁ := fun obj s₁ => obj = .bytes bs.toArray t ∧ s₁ = s) PySem.F.bm_called (PySem.F.bm_typeCall _) PySem.F.entry_object_init ?_ fun obj s₁ h₁ => ?_
  ·refine codeAny_of_tree ?_
   show wpAny _ A.in1.in1 (do checkBuiltinCall "bytes.__new__" ⟨[.type "bytes", .bytes bs.toArray t], []⟩; again (.builtin "bytes.__new__" ⟨[.type "bytes", .bytes bs.toArray t], []⟩)) _ _ s
   refine wpAny_bind (wpAny_of_eq (PySem.F.bm_newCall _) (wpAny_pure ⟨plainId_quiet PySem.F.bm_plain _, codeAny_builtin PySem.F.bm_entry ?_⟩))
   rw [Around.under_plainId PySem.F.bm_plain _]
   have hT : s.TypeIs (.bytes bs.toArray t) "bytes" := typeIs_bytes _ _ _
   unfold Builtin.«bytes.__new__»
   refine wpAny_bind (wpAny_of_eq (a := true) rfl ?_)
   refine bm_if_false rfl ?_
   refine wpAny_bind (wpAny_of_eq PySem.F.bm_sub ?_)
   refine bm_if_false rfl ?_
   refine wpAny_bind (wpAny_of_eq (PySem.F.bm_bind _) ?_)
   refine wpAny_bind (wpAny_of_eq (a := ()) rfl ?_)
   refine wpAny_bind (wpAny_of_eq (a := ()) rfl ?_)
   refine bm_if_false rfl ?_
   refine wpAny_bind (wpAny_specialOf hT bb_bytes ?_)
   refine wpAny_bind (wpAny_rule ?_)
   refine wpAny_bind (wpAny_typeOf hT ?_)
   refine bm_if_true (by decide) ?_
   first
    | exact wpAny_pure ⟨rfl, rfl⟩
    | exact wpAny_bind (wpAny_pure (wpAny_pure ⟨rfl, rfl⟩))
  ·obtain ⟨rfl, rfl⟩ := h₁
   exact ⟨typeIs_bytes _ _ _, PySem.F.args_object_init_2 _ _, object_init_meets PySem.F.bm_called.init.lookup PySem.F.bm_called.made (by decide) PG G.w A.in1 _ _ ⟨typeIs_bytes _ _ _, rfl, TV.now I rBytes FrM.refl h⟩⟩
end
set_option tactic.hygienic false
noncomputable def slV {α : Type} (vs : List α) (lo hi : Option Int) : List α := (vs.drop ((lo.getD 0).toNat)).take (hi.elim vs.length Int.toNat - (lo.getD 0).toNat)
noncomputable def okB : Option Int → Prop
 | none => True
 | some i => 0 ≤ i
theorem clip_nn {n : Nat} {i : Int} (h : 0 ≤ i) : clipAt n i = min i.toNat n := by
 obtain ⟨j, rfl⟩ := Int.eq_ofNat_of_zero_le h
 exact clipAt_nat n j
theorem cut_eq {α : Type} (l : List α) (a b : Nat) : (l.drop (min a l.length)).take (min b l.length - min a l.length) = (l.drop a).take (b - a) := by
 rcases Nat.lt_or_ge l.length a with h | h
 ·rw [Nat.min_eq_right (Nat.le_of_lt h), List.drop_length, List.take_nil, List.drop_eq_nil_of_le (Nat.le_of_lt h), List.take_nil]
 ·rw [Nat.min_eq_left h]
  rcases Nat.lt_or_ge l.length b with h2 | h2
  ·rw [Nat.min_eq_right (Nat.le_of_lt h2), List.take_of_length_le (by rw [List.length_drop]; exact Nat.le_refl _), List.take_of_length_le (by rw [List.length_drop]; omega)]
  ·rw [Nat.min_eq_left h2]
theorem slV_eq {α : Type} (l : List α) {lo hi : Option Int} (h1 : okB lo) (h2 : okB hi) : (l.drop (lo.elim 0 (clipAt l.length))).take (hi.elim l.length (clipAt l.length) - lo.elim 0 (clipAt l.length)) = slV l lo hi := by
 unfold slV
 cases lo with
 | none =>
  cases hi with
  | none => simp
  | some j =>
   have h2 : 0 ≤ j := h2
   simp only [Option.elim, Option.getD_none, clip_nn h2]
   have := cut_eq l 0 j.toNat
   simpa using this
 | some i =>
  have h1 : 0 ≤ i := h1
  cases hi with
  | none =>
   simp only [Option.elim, Option.getD_some, clip_nn h1]
   have := cut_eq l i.toNat l.length
   rw [Nat.min_self] at this; exact this
  | some j =>
   have h2 : 0 ≤ j := h2
   simp only [Option.elim, Option.getD_some, clip_nn h1, clip_nn h2]
   exact cut_eq l i.toNat j.toNat
theorem RepL.sl {h : Heap} {vs : List Value} {Xs : List V} (rl : RepL h vs Xs) (lo hi : Option Int) : RepL h (slV vs lo hi) (slV Xs lo hi) := by
 unfold slV
 rw [rl.len]
 exact rl.drop.take
section
variable {c : Cx} {r : Loc} {G : Gd} {H : AH} {k : Nat} {Q : V → AH → Prop}
noncomputable def SL (G : Gd) (o : V) (lo hi st : Option Int) (H : AH) (Q : V → AH → Prop) : Prop :=
 ∀ A s v a l u t, AOk 0 A → Inv G H s → Rep s.heap v o → s.heap.IsSliceOf a l u t → IsPart l lo → IsPart u hi → IsPart t st →
  ∃ T id, s.TypeIs v T ∧ typeLookup (.type T) "__getitem__" = pure (some (.builtin id)) ∧ TV G A H s (getItem v (.ref a)) Q
noncomputable def WO (c : Cx) (r : Loc) (H : AH) : Option Expr → (Option Int → AH → Prop) → Prop
 | none, Q => Q none H
 | some e, Q => WE c r H e (fun X H1 => ∃ i, X = .int i ∧ Q (some i) H1)
theorem wp_part {o : Option Expr} {P : Option Int → AH → Prop} {s : Shared} {m : Str → Option Value} {R : Value → Shared → Prop} (h : WO c r H o P) (I : Inv c.G H s) (E : ER c r H s.heap m)
 (hR : ∀ v i H' s', IsPart v i → Inv c.G H' s' → FrM no H s.heap H' s'.heap → P i H' → R v s') : wpAny (model PG c.G.w) c.A (evalPart o c.env) R (fun _ _ => False) s := by
 cases o with
 | none => exact wpAny_pure (hR _ _ _ _ .none I FrM.refl h)
 | some e =>
  refine h.thn I E fun v s' X H' rv I' f' Ef' q0 => ?_
  obtain ⟨i, rfl, q⟩ := q0
  obtain ⟨t, rfl⟩ := rv
  exact hR _ _ _ _ (.int i t) I' f' q
theorem WE_subsl {value : Expr} {lo hi st : Option Expr} {p pos : Pos} (h : WE c r H value (fun o H1 => WO c r H1 lo (fun a H2 => WO c r H2 hi (fun b H3 => WO c r H3 st (fun t H4 => SL c.G o a b t H4 Q))))) :
 WE c r H (.Subscript value (.Slice lo hi st p) pos) Q := fun s m I E => by
 rw [eval_Subscript]
 refine wpAny_bind (h.thn I E fun v s₁ o H1 rv I1 f1 Ef1 h1 => ?_)
 refine wpAny_bind (wpAny_holding (wpAny_Slice ?_))
 refine wp_part h1 I1 Ef1 fun l a H2 s₂ pl I2 f2 h2 => ?_
 refine wp_part h2 I2 (E.mono I (f1.trans f2)) fun u b H3 s₃ pu I3 f3 h3 => ?_
 refine wp_part h3 I3 (E.mono I ((f1.trans f2).trans f3)) fun t d H4 s₄ pt I4 f4 h4 => ?_
 have kp := zbQ s₄.heap { cls := .type "slice", data := .fields #[l, u, t] }
 have fall := ((f2.trans f3).trans f4).trans (FrM.grow (H := H4) kp)
 have I5 : Inv c.G H4 { s₄ with heap := s₄.heap.push { cls := .type "slice", data := .fields #[l, u, t] } } := I4.grow (tk := s₄.toks) kp
 obtain ⟨T, id, hT, hl, hg⟩ := h4 c.A _ v s₄.heap.objs.size l u t (c.aok.le (Nat.zero_le _)) I5 (rv.mono (fall.imm I1)) (Heap.IsSliceOf.new _ _ _ _) pl pu pt
 refine wpAny_bind (wpAny_standAt (wpAny_bind ?_))
 rw [getitemInPython_of_ne hT.not_modules]
 refine wpAny_bind (wpAny_specialOf hT hl (wpAny_pure (wpAny_bind (wp_subscripted (wpAny_mono hg (fun x s₃ h₃ => ?_) fun _ _ e => e)))))
 obtain ⟨X, H3, rx, I3, f3, q⟩ := h₃
 exact wpAny_bind (wpAny_letTemporaryGo (wpAny_pure ⟨X, H3, rx, I3, (f1.trans fall).trans f3, q⟩))
theorem newL {A : Around} {s : Shared} {items : Array Value} {Xs : List V} (I : Inv G H s) (rl : RepL s.heap items.toList Xs) (h : ∀ a, H a = none → Q (.ref a) (upd H a (.list Xs))) :
 VP G H s.heap Q (.ref s.heap.objs.size) { s with heap := s.heap.push { cls := .type "list", data := .seq items } } := by
 have k := zbQ s.heap { cls := .type "list", data := .seq items }
 exact ⟨.ref s.heap.objs.size, _, rRef, I.alloc (ob := .list Xs) (tk := s.toks) k (Nat.le_refl _) ⟨items, 0, IsL.new _ _, rl.mono fun a o e _ => k a o e⟩, FrM.alloc k (Nat.le_refl _), h _ (I.size (Nat.le_refl _))⟩
theorem SL_list {l : Addr} {vs : List V} {lo hi : Option Int} (hl : H l = some (.list vs)) (hz : vs.length ≤ szL) (h1 : okB lo) (h2 : okB hi) (h : ∀ a, H a = none → Q (.ref a) (upd H a (.list (slV vs lo hi)))) : SL G (.ref l) lo hi none H Q := fun A s v a lv u t _ I rv hs pl pu pt => by
 cases rv
 cases pt
 obtain ⟨items, n, hi', rl⟩ := I.own l _ hl
 have hs' : items.size = vs.length := by rw [← rl.len, Array.length_toList]
 refine ⟨"list", _, hi'.isList.typeIs, slot_list_getitem.lookup, wpAny_getItem_list_slice hi'.isList hs pl pu .none (by decide) ?_ (by rw [hs', ← szL_eq]; exact hz)⟩
 refine newL (A := A) I ?_ h
 rw [slicePick_plain]
 have := slV_eq items.toList h1 h2
 rw [Array.length_toList] at this
 rw [List.toList_toArray, this]
 exact rl.sl lo hi
theorem SL_rev {l : Addr} {vs : List V} (hl : H l = some (.list vs)) (hz : vs.length ≤ szL) (h : ∀ a, H a = none → Q (.ref a) (upd H a (.list vs.reverse))) : SL G (.ref l) none none (some (-1)) H Q := fun A s v a lv u t _ I rv hs pl pu pt => by
 cases rv
 obtain ⟨items, n, hi', rl⟩ := I.own l _ hl
 have hs' : items.size = vs.length := by rw [← rl.len, Array.length_toList]
 refine ⟨"list", _, hi'.isList.typeIs, slot_list_getitem.lookup, wpAny_getItem_list_slice hi'.isList hs pl pu pt (by decide) ?_ (by rw [hs', ← szL_eq]; exact hz)⟩
 refine newL (A := A) I ?_ h
 rw [krv_pick, List.toList_toArray]
 exact rl.rev
theorem intsRep {h : Heap} {vs : List Value} {ns : List Int} (hi : IntsAre vs ns) : RepL h vs (ns.map V.int) := by
 induction hi with
 | nil => trivial
 | cons n t _ ih => exact ⟨⟨t, rfl⟩, ih⟩
theorem SL_script {lo hi : Option Int} (hz : G.ns.length ≤ szL) (h1 : okB lo) (h2 : okB hi) (h : ∀ a, H a = none → Q (.ref a) (upd H a (.list (slV (G.ns.map V.int) lo hi)))) : SL G (.ref G.sc) lo hi none H Q := fun A s v a lv u t _ I rv hs pl pu pt => by
 cases rv
 cases pt
 obtain ⟨o, ho, hq⟩ := id G.scL
 have hi' : s.heap.IsList G.sc G.scItems.toArray := ⟨o, I.base _ _ ho, hq⟩
 have hs' : G.scItems.length = G.ns.length := G.scI.length
 refine ⟨"list", _, hi'.typeIs, slot_list_getitem.lookup, wpAny_getItem_list_slice hi' hs pl pu .none (by decide) ?_ (by rw [List.size_toArray, hs', ← szL_eq]; exact hz)⟩
 refine newL (A := A) I ?_ h
 rw [slicePick_plain]
 have := slV_eq G.scItems h1 h2
 rw [List.size_toArray, List.toList_toArray, List.toList_toArray, this]
 exact (intsRep G.scI).sl lo hi
theorem SL_bytes {l : List UInt8} {lo hi : Option Int} (hz : l.length ≤ szL) (h1 : okB lo) (h2 : okB hi) (h : Q (.bytes (slV l lo hi)) H) : SL G (.bytes l) lo hi none H Q := fun A s v a lv u t _ I rv hs pl pu pt => by
 obtain ⟨tt, rfl⟩ := rv
 cases pt
 refine ⟨"bytes", _, typeIs_bytes _ _ _, FB.slot_bytes_getitem.lookup, ?_⟩
 refine getItem_meets (typeIs_bytes _ _ _) (by decide) FB.slot_bytes_getitem FB.entry_bytes_getitem (FB.args_bytes_getitem_2 _ _) (KBc.meets_slice2 l.toArray tt a pl pu) ⟨hs, ?_, fun t' kk => ?_⟩
 ·refine Nat.le_trans (KBc.size_picked_le _ lo hi) ?_
  rw [List.size_toArray, ← szL_eq]; exact hz
 ·refine ⟨.bytes (slV l lo hi), H, ⟨t', ?_⟩, I.toks, FrM.refl, h⟩
  rw [KBc.picked_eq]
  have := slV_eq l h1 h2
  simp only [List.size_toArray, List.toList_toArray]
  rw [this]
theorem BO_addbytes {l l' : List UInt8} (hz : l.length + l'.length ≤ 100000) (h : Q (.bytes (l ++ l')) H) : BO G .Add (.bytes l) (.bytes l') H Q := fun A s v u _ I rv ru => by
 obtain ⟨t, rfl⟩ := rv
 obtain ⟨t', rfl⟩ := ru
 refine KBy.add_bytes (by simp only [List.size_toArray]; omega) fun t' kk => ⟨.bytes (l ++ l'), H, ⟨t', by simp⟩, I.toks, FrM.refl, h⟩
theorem BO_mulbytes {l : List UInt8} {i : Int} (h0 : l ≠ []) (h1 : l.length ≤ 16) (h2 : -1000000 ≤ i) (h3 : i ≤ 1000000) (h : Q (.bytes (List.replicate i.toNat l).flatten) H) : BO G .Mult (.bytes l) (.int i) H Q := fun A s v u _ I rv ru => by
 obtain ⟨t, rfl⟩ := rv
 obtain ⟨t', rfl⟩ := ru
 exact bytes_mul_any h0 (by omega) (by omega) h1 fun t' kk => ⟨.bytes (List.replicate i.toNat l).flatten, H, ⟨t', rfl⟩, I.toks, FrM.refl, h⟩
theorem BO_addlist {l l' : Addr} {vs ws : List V} (hl : H l = some (.list vs)) (hl' : H l' = some (.list ws)) (hz : vs.length + ws.length ≤ 100000) (h : ∀ a, H a = none → Q (.ref a) (upd H a (.list (vs ++ ws)))) : BO G .Add (.ref l) (.ref l') H Q := fun A s v u _ I rv ru => by
 cases rv; cases ru
 obtain ⟨items, n, hi, rl⟩ := I.own l _ hl
 obtain ⟨items', n', hi', rl'⟩ := I.own l' _ hl'
 have hs : items.size = vs.length := by rw [← rl.len, Array.length_toList]
 have hs' : items'.size = ws.length := by rw [← rl'.len, Array.length_toList]
 refine P.add_list hi hi' (newL (A := A) I ?_ h) (by rw [sizeLine_eq]; omega)
 rw [Array.toList_append]
 exact rl.app rl'
theorem foldl_rep (items : Array Value) : ∀ (n : Nat) (acc : Array Value), (List.foldl (fun x1 x2 => x1 ++ x2) acc (List.replicate n items)).toList = acc.toList ++ (List.replicate n items.toList).flatten
 | 0, acc => by simp
 | n + 1, acc => by
  rw [List.replicate_succ, List.foldl_cons, foldl_rep items n, Array.toList_append, List.replicate_succ, List.flatten_cons, List.append_assoc]
theorem RepL.times {h : Heap} {vs : List Value} {Xs : List V} (rl : RepL h vs Xs) : ∀ n : Nat, RepL h (List.replicate n vs).flatten (List.replicate n Xs).flatten
 | 0 => trivial
 | n + 1 => by rw [List.replicate_succ, List.replicate_succ, List.flatten_cons, List.flatten_cons]; exact rl.app (rl.times n)
theorem whV {l : Addr} {vs : List V} {i : Int} (hl : H l = some (.list vs)) (hn : vs ≠ []) (h1 : -1000000 ≤ i) (h2 : i ≤ 1000000) (hz : vs.length * i.toNat ≤ 1000000) (h : ∀ a, H a = none → Q (.ref a) (upd H a (.list (List.replicate i.toNat vs).flatten))) : BO G .Mult (.ref l) (.int i) H Q := fun A s v u _ I rv ru => by
 cases rv
 obtain ⟨t', rfl⟩ := ru
 obtain ⟨items, n, hi, rl⟩ := I.own l _ hl
 have hs : items.size = vs.length := by rw [← rl.len, Array.length_toList]
 have hne : items.isEmpty = false := by
  have : vs.length ≠ 0 := fun e => hn (List.length_eq_zero_iff.mp e)
  rw [Bool.eq_false_iff]; intro e; exact this (by rw [← hs]; exact Array.isEmpty_iff_size_eq_zero.mp e)
 refine wpAny_binaryOp_repeat_ref (T := "list") (U := "int") (by decide) ⟨_, hi, rfl⟩ (fun s' => typeIs_int s' i t') noFill_list_mul PySem.F.fills_int_mul PySem.F.slot_int_rmul repeat_list PySem.F.slot_int_index.lookup
  (call_meets PySem.F.slot_int_rmul (typeIs_int s i t') PySem.F.entry_int_rmul (PySem.F.args_int_rmul_2 _ _) (int___rmul___int_list i t' l items n)
   ⟨hi, rfl, ⟨_, hi, rfl⟩, call_meets PySem.F.slot_list_mul ⟨_, hi, rfl⟩ PySem.F.entry_list_mul (PySem.F.args_list_mul_2 _ _)
    (AutoListH.list___mul___list_int_3 l items n i t' (by simp [Builtin.List.listFitsIndex]; omega) (by rw [hs]; omega) (by rw [hs]; simp [Builtin.List.listTooLong, sizeLine]; omega))
    ⟨hi, ?_⟩⟩)
 refine newL (A := A) I ?_ h
 rw [hne]
 simp only [Bool.false_eq_true, if_false]
 rw [foldl_rep]
 exact rl.times _
theorem WE_dict0 {p : Pos} (h : ∀ a, H a = none → Q (.ref a) (upd H a (.idict 0 fun _ => none))) : WE c r H (.Dict [] [] p) Q := fun s m I E => by
 refine wpAny_Dict_empty ?_
 have k := zbQ s.heap { cls := .type "dict", data := .dict #[] }
 have hnew : (s.heap.push { cls := .type "dict", data := .dict #[] }).get? s.heap.objs.size = some { cls := .type "dict", data := .dict #[] } := Heap.get?_push_size _ rfl
 refine ⟨.ref s.heap.objs.size, _, rRef, I.alloc (ob := .idict 0 fun _ => none) (tk := s.toks) k (Nat.le_refl _) ⟨⟨fun _ => none, ?_, fun _ => rfl⟩, ?_⟩, FrM.alloc k (Nat.le_refl _), h _ (I.size (Nat.le_refl _))⟩
 ·exact Heap.MapOf.new s.heap
 ·intro o es ep ho hd
  rw [hnew] at ho; cases ho
  cases hd; exact Nat.le_refl _
inductive Dat (H : AH) : V → PyData → Prop
 | int (i) : Dat H (.int i) (.int i)
 | pr (i j) : Dat H (.pr i j) (.tuple [.int i, .int j])
 | nil {a : Addr} : H a = some (.list []) → Dat H (.ref a) (.list [])
 | list {a : Addr} {vs : List V} {ds : List PyData} : H a = some (.list vs) → (∀ (k : Nat) X d, vs[k]? = some X → ds[k]? = some d → Dat H X d) → vs.length = ds.length → Dat H (.ref a) (.list ds)
theorem readsAll_of {h : Heap} : ∀ {vs : List Value} {ds : List PyData}, vs.length = ds.length → (∀ (k : Nat) v d, vs[k]? = some v → ds[k]? = some d → ∃ as, Reads h v d as) → ∃ as, ReadsAll h vs ds as
 | [], [], _, _ => ⟨[], .nil⟩
 | v :: vs, d :: ds, e, f => by
  obtain ⟨as, ra⟩ := f 0 v d rfl rfl
  obtain ⟨bs, rb⟩ := readsAll_of (vs := vs) (ds := ds) (by simpa using e) fun k v d e1 e2 => f (k + 1) v d e1 e2
  exact ⟨_, .cons ra rb⟩
 | [], _ :: _, e, _ => by simp at e
 | _ :: _, [], e, _ => by simp at e
theorem Dat.reads {s : Shared} (I : Inv G H s) {X : V} {d : PyData} (D : Dat H X d) : ∀ {v : Value}, Rep s.heap v X → ∃ as, Reads s.heap v d as := by
 induction D with
 | int i => intro v rv; obtain ⟨t, rfl⟩ := rv; exact ⟨_, .int i t⟩
 | pr i j =>
  intro v rv
  obtain ⟨a, t, u, ep, rfl, hg⟩ := rv
  exact ⟨_, .tuple hg rfl rfl (.cons (.int i t) (.cons (.int j u) .nil))⟩
 | nil hl =>
  intro v rv; cases rv
  obtain ⟨items, n, hi, rl⟩ := I.own _ _ hl
  have : items.toList = [] := by
   have := rl.len
   exact List.length_eq_zero_iff.mp this
  exact ⟨_, .list hi rfl rfl (by rw [this]; exact .nil)⟩
 | @list a vs ds hl hd hlen ih =>
  intro v rv; cases rv
  obtain ⟨items, n, hi, rl⟩ := I.own _ _ hl
  obtain ⟨as, ra⟩ := readsAll_of (vs := items.toList) (ds := ds) (by rw [rl.len, hlen]) fun k v d e1 e2 => by
   have hk : k < vs.length := by rw [hlen]; exact (List.getElem?_eq_some_iff.mp e2).1
   obtain ⟨w, hw, rw'⟩ := rl.get (List.getElem?_eq_getElem hk)
   rw [e1] at hw; cases hw
   exact ih k _ d (List.getElem?_eq_getElem hk) e2 rw'
  exact ⟨_, .list hi rfl rfl ra⟩
theorem CO_eqdat {X Y : V} {d e : PyData} {z : Bool} {Q : Bool → AH → Prop} (DX : Dat H X d) (DY : Dat H Y e) (hd : SeqAt.shaped d = true) (he : SeqAt.shaped e = true) (hz : PyData.eqv d e = z) (h : Q z H) : CO G .Eq X Y H Q := CO_of h fun A s v u R o I rv ru h => by
 obtain ⟨as, ra⟩ := DX.reads I rv
 obtain ⟨bs, rb⟩ := DY.reads I ru
 refine eq_dataH ra rb hd he ?_ (by rw [hz]; exact h)
 have := o.units
 show A.units + 64 < 9900
 omega
theorem CO_nedat {X Y : V} {d e : PyData} {z : Bool} {Q : Bool → AH → Prop} (DX : Dat H X d) (DY : Dat H Y e) (hd : SeqAt.shaped d = true) (he : SeqAt.shaped e = true) (hz : (!PyData.eqv d e) = z) (h : Q z H) : CO G .NotEq X Y H Q := CO_of h fun A s v u R o I rv ru h => by
 obtain ⟨as, ra⟩ := DX.reads I rv
 obtain ⟨bs, rb⟩ := DY.reads I ru
 refine ne_dataH ra rb hd he ?_ (by rw [hz]; exact h)
 have := o.units
 show A.units + 64 < 9900
 omega
noncomputable def prD (p : Int × Int) : PyData := .tuple [.int p.1, .int p.2]
noncomputable def prV (p : Int × Int) : V := .pr p.1 p.2
theorem Dat.ints {a : Addr} {is : List Int} (hl : H a = some (.list (is.map V.int))) : Dat H (.ref a) (.list (is.map PyData.int)) :=
 .list hl (fun k X d e e' => by
  rw [List.getElem?_map] at e e'
  obtain ⟨i, hi, rfl⟩ := Option.map_eq_some_iff.mp e
  rw [hi] at e'; cases e'
  exact .int i) (by simp)
theorem Dat.prs {a : Addr} {ps : List (Int × Int)} (hl : H a = some (.list (ps.map prV))) : Dat H (.ref a) (.list (ps.map prD)) :=
 .list hl (fun k X d e e' => by
  rw [List.getElem?_map] at e e'
  obtain ⟨p, hp, rfl⟩ := Option.map_eq_some_iff.mp e
  rw [hp] at e'; cases e'
  exact .pr p.1 p.2) (by simp)
theorem Dat.refs {a : Addr} {as : List Addr} {ds : List PyData} (hl : H a = some (.list (as.map V.ref))) (hd : ∀ (k : Nat) b d, as[k]? = some b → ds[k]? = some d → Dat H (.ref b) d) (he : as.length = ds.length) : Dat H (.ref a) (.list ds) :=
 .list hl (fun k X d e e' => by
  rw [List.getElem?_map] at e
  obtain ⟨b, hb, rfl⟩ := Option.map_eq_some_iff.mp e
  exact hd k b d hb e') (by simpa using he)
theorem eqv_ints : ∀ {is js : List Int}, PyData.eqvAll (is.map PyData.int) (js.map PyData.int) = decide (is = js)
 | [], [] => by simp [PyData.eqvAll]
 | [], _ :: _ => by simp [PyData.eqvAll]
 | _ :: _, [] => by simp [PyData.eqvAll]
 | i :: is, j :: js => by
  simp only [List.map_cons, PyData.eqvAll, PyData.eqv, eqv_ints (is := is) (js := js)]
  rw [Bool.eq_iff_iff]; simp
theorem eqv_pr {p q : Int × Int} : PyData.eqv (prD p) (prD q) = decide (p = q) := by
 obtain ⟨a, b⟩ := p; obtain ⟨e, f⟩ := q
 simp only [prD, PyData.eqv, PyData.eqvAll]
 rw [Bool.eq_iff_iff]; simp
theorem eqv_prs : ∀ {ps qs : List (Int × Int)}, PyData.eqvAll (ps.map prD) (qs.map prD) = decide (ps = qs)
 | [], [] => by simp [PyData.eqvAll]
 | [], _ :: _ => by simp [PyData.eqvAll]
 | _ :: _, [] => by simp [PyData.eqvAll]
 | i :: is, j :: js => by
  simp only [List.map_cons, PyData.eqvAll, eqv_pr, eqv_prs (ps := is) (qs := js)]
  rw [Bool.eq_iff_iff]; simp
theorem lay_ints : ∀ {is : List Int}, PyData.canLayAll0 (is.map PyData.int) = true
 | [] => rfl
 | i :: is => by simp [PyData.canLayAll0, PyData.canLay0, lay_ints (is := is)]
theorem dep_ints : ∀ {is : List Int}, PyData.depthAll (is.map PyData.int) = 0
 | [] => rfl
 | i :: is => by simp [PyData.depthAll, PyData.depth, dep_ints (is := is)]
theorem lay_prs : ∀ {is : List (Int × Int)}, PyData.canLayAll0 (is.map prD) = true
 | [] => rfl
 | i :: is => by simp [PyData.canLayAll0, PyData.canLay0, prD, lay_prs (is := is)]
theorem dep_prs : ∀ {is : List (Int × Int)}, PyData.depthAll (is.map prD) ≤ 1
 | [] => by simp [PyData.depthAll]
 | i :: is => by
  have := dep_prs (is := is)
  simp [PyData.depthAll, PyData.depth, prD]; omega
theorem shaped_ints {is : List Int} : SeqAt.shaped (.list (is.map PyData.int)) = true := by
 unfold SeqAt.shaped; simp [PyData.canLay0, PyData.depth, lay_ints, dep_ints]
theorem shaped_prs {ps : List (Int × Int)} : SeqAt.shaped (.list (ps.map prD)) = true := by
 unfold SeqAt.shaped
 have := dep_prs (is := ps)
 simp [PyData.canLay0, PyData.depth, lay_prs]; omega
noncomputable def prL (ps : List (Int × Int)) : PyData := .list (ps.map prD)
theorem shaped_two {a b : List (Int × Int)} : SeqAt.shaped (.list [prL a, prL b]) = true := by
 unfold SeqAt.shaped
 have h1 := dep_prs (is := a)
 have h2 := dep_prs (is := b)
 simp [PyData.canLay0, PyData.canLayAll0, PyData.depth, PyData.depthAll, prL, lay_prs]; omega
theorem eqv_two {a b e f : List (Int × Int)} : PyData.eqv (.list [prL a, prL b]) (.list [prL e, prL f]) = decide (a = e ∧ b = f) := by
 simp only [PyData.eqv, PyData.eqvAll, prL, eqv_prs, Bool.and_true]
 rw [Bool.eq_iff_iff]; simp
theorem shaped_pr {p : Int × Int} : SeqAt.shaped (prD p) = true := by
 unfold SeqAt.shaped; simp [PyData.canLay0, PyData.canLayAll0, PyData.depth, PyData.depthAll, prD]
theorem shaped_nil : SeqAt.shaped (.list []) = true := by
 unfold SeqAt.shaped; simp [PyData.canLay0, PyData.canLayAll0, PyData.depth, PyData.depthAll]
section
variable {Q : Bool → AH → Prop}
theorem CO_eqpr {a b e f : Int} (h : Q (decide (a = e ∧ b = f)) H) : CO G .Eq (.pr a b) (.pr e f) H Q :=
 CO_eqdat (.pr a b) (.pr e f) (shaped_pr (p := (a, b))) (shaped_pr (p := (e, f))) (z := decide (a = e ∧ b = f)) (by show PyData.eqv (prD (a, b)) (prD (e, f)) = _; rw [eqv_pr, Bool.eq_iff_iff]; simp) h
theorem CO_eqprs {l l' : Addr} {ps qs : List (Int × Int)} (h1 : H l = some (.list (ps.map prV))) (h2 : H l' = some (.list (qs.map prV))) (h : Q (decide (ps = qs)) H) : CO G .Eq (.ref l) (.ref l') H Q :=
 CO_eqdat (.prs h1) (.prs h2) shaped_prs shaped_prs (by simp only [PyData.eqv]; exact eqv_prs) h
theorem CO_eqints {l l' : Addr} {ps qs : List Int} (h1 : H l = some (.list (ps.map V.int))) (h2 : H l' = some (.list (qs.map V.int))) (h : Q (decide (ps = qs)) H) : CO G .Eq (.ref l) (.ref l') H Q :=
 CO_eqdat (.ints h1) (.ints h2) shaped_ints shaped_ints (by simp only [PyData.eqv]; exact eqv_ints) h
theorem CO_neints {l l' : Addr} {ps qs : List Int} (h1 : H l = some (.list (ps.map V.int))) (h2 : H l' = some (.list (qs.map V.int))) (h : Q (decide (ps ≠ qs)) H) : CO G .NotEq (.ref l) (.ref l') H Q :=
 CO_nedat (.ints h1) (.ints h2) shaped_ints shaped_ints (z := decide (ps ≠ qs)) (by simp only [PyData.eqv]; rw [eqv_ints, Bool.eq_iff_iff]; simp) h
noncomputable def Two (H : AH) (l : Addr) (a b : List (Int × Int)) : Prop := ∃ x y, H l = some (.list [.ref x, .ref y]) ∧ H x = some (.list (a.map prV)) ∧ H y = some (.list (b.map prV))
theorem Two.dat {l : Addr} {a b : List (Int × Int)} (t : Two H l a b) : Dat H (.ref l) (.list [prL a, prL b]) := by
 obtain ⟨x, y, h1, h2, h3⟩ := t
 refine .refs (as := [x, y]) h1 (fun k z d e e' => ?_) rfl
 match k with
 | 0 => simp at e e'; subst e e'; exact .prs h2
 | 1 => simp at e e'; subst e e'; exact .prs h3
 | k + 2 => simp at e
theorem CO_eqtwo {l l' : Addr} {a b e f : List (Int × Int)} (h1 : Two H l a b) (h2 : Two H l' e f) (h : Q (decide (a = e ∧ b = f)) H) : CO G .Eq (.ref l) (.ref l') H Q :=
 CO_eqdat h1.dat h2.dat shaped_two shaped_two eqv_two h
theorem CO_twonil {l l' : Addr} {a b : List (Int × Int)} (h1 : Two H l a b) (h2 : H l' = some (.list [])) (h : Q false H) : CO G .Eq (.ref l) (.ref l') H Q :=
 CO_eqdat h1.dat (.nil h2) shaped_two shaped_nil (by simp [PyData.eqv, PyData.eqvAll]) h
end
end
set_option tactic.hygienic false
section
variable {c : Cx} {r : Loc} {G : Gd} {H : AH} {k : Nat}
theorem draw_list {w : World} {A : Around} {it t : Addr} {items : Array Value} (hne : t ≠ it) : ∀ (n i : Nat) (s : Shared) (Q : List Value → Shared → Prop), s.heap.IsListIter it t i → s.heap.IsList t items → i + n ≤ items.size →
 (∀ h', h'.IsListIter it t (i + n) → Heap.SameBut it s.heap h' → Q ((items.toList.drop i).take n) { s with heap := h' }) → wpAny (model PG w) A (draw (.ref it) n) Q (fun _ _ => False) s
 | 0, i, s, Q, hit, _, _, hQ => by
  show wpAny _ _ (pure []) Q _ s
  exact wpAny_pure (by simpa using hQ s.heap hit (Heap.SameBut.refl ..))
 | n + 1, i, s, Q, hit, ht, hle, hQ => by
  have hlt : i < items.size := by omega
  show wpAny _ _ (pyNext (.ref it) >>= _) Q _ s
  refine wpAny_bind (wpAny_pyNext_list_item hit ht (x := items[i]) (by simp [hlt]) fun h₁ hit₁ hs₁ => ?_)
  refine wpAny_bind (wpAny_holding (draw_list hne n (i + 1) _ _ hit₁ (ht.extBut hs₁.extBut hne) (by omega) fun h₂ hit₂ hs₂ => wpAny_pure ?_))
  have hd : items.toList.drop i = items[i] :: items.toList.drop (i + 1) := by simp [List.drop_eq_getElem_cons, hlt]
  have := hQ h₂ (by rw [show i + (n + 1) = i + 1 + n by omega]; exact hit₂) (hs₁.trans hs₂)
  rw [hd, List.take_succ_cons] at this
  exact this
theorem unpack_list {w : World} {A : Around} {s : Shared} {t : Addr} {items : Array Value} {Q : List Value → Shared → Prop} (hh : A.handled = none) (ht : s.heap.IsList t items)
 (hQ : ∀ h', Heap.ExtBut s.heap.objs.size s.heap h' → Q items.toList { s with heap := h' }) : wpAny (model PG w) A (unpackItems (.ref t) items.size none) Q (fun _ _ => False) s := by
 have hlt : t ≠ s.heap.objs.size := by obtain ⟨o, ho, _⟩ := ht; exact Nat.ne_of_lt (Heap.lt_size ho)
 unfold unpackItems
 refine wpAny_bind ?_
 ·unfold notIterableAtAll
  refine wpAny_bind (wpAny_specialOf ht.typeIs slot_list_iter.lookup ?_)
  refine wpAny_pure ?_
  simp only [Bool.false_eq_true, if_false]
  refine wpAny_bind (wpAny_holding (wpAny_pyIter_list ht ?_))
  refine wpAny_bind (wpAny_holding (draw_list hlt items.size 0 _ _ ⟨_, Heap.get?_push_size _ rfl, rfl, rfl⟩ (ht.push _) (by omega) fun h₁ hit₁ hs₁ => ?_))
  have hall : List.take items.size (List.drop 0 items.toList) = items.toList := by
   rw [List.drop_zero]; exact List.take_of_length_le (by simp)
  rw [hall]
  rw [if_neg (by simp)]
  have ht₁ : h₁.IsList t items := (ht.push _).extBut hs₁.extBut hlt
  refine wpAny_bind (wpAny_holding (wpAny_pyNext_list_end hh hit₁ ht₁ (by simp) fun h₂ he₂ => ?_))
  simp only [Option.isSome_none, Bool.false_eq_true, if_false]
  refine wpAny_pure (hQ h₂ fun b o hb e => he₂ b o hb (hs₁.extBut b o hb (Heap.get?_push_of_some _ e)))
theorem WS_unlist {Q : Fl → Loc → AH → Prop} {ts : List Expr} {xs : List Str} (is : List Nat) {kk : Nat} {tp p : Pos} {value : Expr} (T : Tgs ts xs) (hi : is.length = xs.length) (hn : ∀ (k : Nat) i x, is[k]? = some i → xs[k]? = some x → c.names[i]? = some x)
 (h : WE c r H value (fun X H1 => ∃ l Xs, X = .ref l ∧ H1 l = some (.list Xs) ∧ Xs.length = xs.length ∧ Q .next (setAll r is Xs) H1))
 (hs : swapsWithSole [.Tuple ts kk tp] value p.line c.env = pure false := by rfl) (hw : swappedStores [.Tuple ts kk tp] value c.env = pure none := by rfl) : WS c r H (.Assign [.Tuple ts kk tp] value p) Q := fun s m I E => by
 refine Assign_Tuple (hs := hs) (hw := hw) (h.thn I E fun v s₁ X H1 rv I1 f1 Ef1 q0 => ?_)
 obtain ⟨l, Xs, rfl, hl, hlen, q⟩ := q0
 cases rv
 obtain ⟨items, n, hit, rl⟩ := I1.own l _ hl
 have hz : items.size = xs.length := by rw [← hlen, ← rl.len, Array.length_toList]
 rw [arm_assign_Tuple]
 refine wpAny_bind (wpAny_standAt ?_)
 unfold unpack
 rw [T.len, T.star, ← hz]
 refine wpAny_bind (wpAny_holding (unpack_list c.aok.handled hit.isList fun h' he => ?_))
 have g : ∀ b o, s₁.heap.get? b = some o → h'.get? b = some o := fun b o e => he b o (Nat.ne_of_lt (Heap.lt_size e)) e
 refine wp_storeAll _ is xs items.toList Xs (by simp [T.len]) hi (by simp [hz]) (rl.mono fun b o e _ => g b o e) hn T.at (I1.grow (tk := s₁.toks) g) (Ef1.mono I1 (FrM.grow g)) fun h2 tk2 m2 I2 E2 f2 => ?_
 exact ⟨.next, _, H1, m2, trivial, I2, E2, (f1.wide.trans (FrM.grow g)).trans f2, q⟩
theorem sw_const {ts vs : List Expr} {kk k' : Nat} {tp vp : Pos} (hl : ts.length = 2 ∨ ts.length = 3) (hv : vs.length = ts.length) (hst : wfW vs = false) (hf : vs.all (foldedForSure 8) = true) :
 swappedStores [.Tuple ts kk tp] (.Tuple vs k' vp) c.env = pure none := by
 rw [sw_eq (by unfold Env.blockKind; rw [c.es.kind]; rfl) hl hv hst]
 split
 ·rfl
 ·first | rfl | (rw [hf]; rfl)
theorem WS_tuple0 {Q : Fl → Loc → AH → Prop} {ts vs : List Expr} {xs : List Str} (is : List Nat) {kk k' : Nat} {tp vp p : Pos} (T : Tgs ts xs) (hi : is.length = xs.length) (hn : ∀ (k : Nat) i x, is[k]? = some i → xs[k]? = some x → c.names[i]? = some x)
 (hl : ts.length = 2 ∨ ts.length = 3) (hv : vs.length = ts.length) (hst : wfW vs = false) (hf : vs.all (foldedForSure 8) = true)
 (h : WL c r H vs (fun Xs H1 => Xs.length = is.length ∧ Q .next (setAll r is Xs) H1)) : WS c r H (.Assign [.Tuple ts kk tp] (.Tuple vs k' vp) p) Q := fun s m I E => by
 have lx : ts.length = xs.length := T.len'
 refine Assign_Tuple (hs := rfl) (hw := sw_const hl hv hst hf) (Tuple_ (wpAny_mono (h s m vp I E) (fun us s₁ h₁ => ?_) fun _ _ e => e))
 obtain ⟨Xs, H1, rv, I1, f1, lX, q⟩ := h₁
 have hz : us.length = xs.length := by rw [rv.len, lX, hi]
 refine wpAny_newObj_type ?_ (by show us.toArray.size ≤ sizeLine; rw [List.size_toArray, hz, ← lx, sizeLine_eq]; omega)
 have kp := zbQ s₁.heap { cls := .type "tuple", data := .seq us.toArray }
 refine weW is T hi hz hn ⟨_, Heap.get?_push_size _ rfl, rfl, 0, rfl⟩ (rv.mono fun a o e _ => kp a o e) (I1.grow (tk := s₁.toks) kp) ((E.mono I f1).mono I1 (FrM.grow kp)) fun h' tk m' I2 E2 f2 => ?_
 exact ⟨.next, _, H1, m', trivial, I2, E2, (f1.trans (FrM.grow kp)).wide.trans f2, q⟩
structure AttrC (P : Params) (C : Addr) (N : List Str) (x : Str) (v : Value) : Prop where
 cls : ClsF P C N
 ha : findIn (KK P) (.ref C) x = some (some v)
 hn : specialIn (KK P) v "__get__" = some none
 hv : handedIn v = true
 hc : copiedNames.contains x = false
 nm : x ∉ N
theorem WE_clsattr {Q : V → AH → Prop} {e : Expr} {x : Str} {p : Pos}
 (h : WE c r H e (fun X H1 => ∃ a C dx N Xs v Y, X = .ref a ∧ H1 a = some (.inst C dx) ∧ H1 dx = some (.fields N Xs) ∧ AttrC c.G.w.params C N x v ∧ (∀ h, Rep h v Y) ∧ Q Y H1))
 (he : eval (.Attribute e x p) c.env = (do
  let o ← eval e c.env
  standAt p.atName
  let r ← holding [o] (getAttr o x true)
  letTemporaryGo e o r
  pure r) := by with_unfolding_all rfl) : WE c r H (.Attribute e x p) Q := fun s m I E => by
 refine Attribute_any_ (he := he) (h.thn I E fun v s₁ X H1 rv I1 f1 Ef1 q0 => ?_)
 obtain ⟨a, C, dx, N, Xs, v, Y, rfl, q1, q2, F, hr, q⟩ := q0
 cases rv
 obtain ⟨es, n, hd, fr⟩ := I1.own dx _ q2
 refine get_value (c.G.KI.keeps I1.base) (instAt_of (w := c.G.w) (I1.own a _ q1) hd) (plainGet_of F.cls.hg).1 (findObj_cls F.cls.hh F.ha F.hn F.hv F.hc ?_) F.hv ⟨Y, H1, hr _, I1.toks, f1, q⟩
 show lookIn x (dictOf es n) = _
 rw [lookIn_dict, fr.miss F.nm]
structure ClsM (P : Params) (C : Addr) (x : Str) (f : Addr) : Prop where
 hr : readsIn (KK P) C (.type "type") = true
 e : findCls (KK P) (.ref C) (.type "type") x = some (.val (.ref f))
 hg : specialIn (KK P) (.ref C) "__getattribute__" = some (some (.builtin "type.__getattribute__"))
 kp : keepIn (KK P) (.ref f) = true
theorem WE_methC {Q : V → AH → Prop} {x : Str} {o : Expr} {ap p : Pos} {es : List Expr} {C f : Addr}
 (h : WE c r H o (fun X H1 => X = .ref C ∧ ClsM c.G.w.params C x f ∧ WL c r H1 es (fun Ys H2 => wgV c.G c.k (.ref f) Ys H2 Q)))
 (he : (starEach es c.env).all (fun x => !x.1) = true := by rfl)
 {pl : Sem Bool} (hm : eval (.Call (.Attribute o x ap) es [] p) c.env = (do
  let ov ← eval o c.env
  standAt ap.atName
  let (f, first) ← holding [ov] (getMethod ov x pl)
  callWith p f first (backTo p (starEach es c.env)) []) := by rfl) : WE c r H (.Call (.Attribute o x ap) es [] p) Q := fun s m I E => by
 refine MethodCall_ (he := hm) (h.thn I E fun v s₁ X H1 rv I1 f1 Ef1 q0 => ?_)
 obtain ⟨rfl, F, q⟩ := q0
 cases rv
 have X := c.G.KI.keeps I1.base
 refine method_cls X F.hg (cls_value X F.hr F.e rfl ?_)
 exact TV.then (s := s) (s₁ := { s₁ with toks := s₁.toks + 1 }) f1 (callWith_WL (s := { s₁ with toks := s₁.toks + 1 }) I1.toks Ef1 (by exact F.kp) he (Fs := []) trivial q)
theorem C_list_bytes {Q : V → AH → Prop} {bs : List UInt8} (hz : bs.length ≤ szL) (h : ∀ a, H a = none → Q (.ref a) (upd H a (.list (bs.map fun b => .int b.toNat)))) : wgV G k (.type "list") [.bytes bs] H Q := fun A s us aok I rv => by
 obtain ⟨_, rfl⟩ := rv.ex1
 obtain ⟨⟨t, e⟩, _⟩ := rv
 ·subst e
  have hh : A.in1.in1.handled = none := aok.handled
  have hsz : bs.toArray.size ≤ sizeLine := by rw [List.size_toArray, ← szL_eq]; exact hz
  refine callType_codes (Q₁ := fun obj s₁ => obj = .ref s.heap.objs.size ∧ s₁ = { s with heap := s.heap.push { cls := .type "list", data := .seq #[] } }) PySem.F.called_list (PySem.F.typeCall_list_1 _) PySem.F.entry_list_init
   (code_list_new _ ⟨rfl, rfl⟩) fun obj s₁ h₁ => ?_
  obtain ⟨rfl, rfl⟩ := h₁
  have hS : (s.heap.push { cls := .type "list", data := .seq #[] }).get? s.heap.objs.size = some { cls := .type "list", data := .seq #[] } := Heap.get?_push_size _ rfl
  have g1 := zbQ s.heap { cls := .type "list", data := .seq #[] }
  refine ⟨⟨_, hS, rfl⟩, PySem.F.args_list_init_2 _ _, ?_⟩
  show wpAny _ _ (do let old ← Builtin.List.listItems (.ref s.heap.objs.size); Builtin.List.listUpdate (.ref s.heap.objs.size) (fun _ => #[]); letGo old.toList.reverse; Builtin.List.listExtendWith (.ref s.heap.objs.size) (.bytes bs.toArray t) .none) _ _ _
  generalize hSS : s.heap.objs.size = S at hS ⊢
  refine wpAny_bind ?_
  unfold Builtin.List.listItems
  refine wpAny_bind (wpAny_seqItems hS rfl (wpAny_pure ?_))
  show wpAny _ _ (updateSeq S (fun _ => #[]) >>= fun _ => letGo (#[] : Array Value).toList.reverse >>= fun _ => Builtin.List.listExtendWith (.ref S) (.bytes bs.toArray t) .none) _ _ _
  refine wpAny_bind (wpAny_updateSeq hS rfl ?_ (by rw [sizeLine_eq]; exact Nat.zero_le _) (by exact Nat.zero_le _))
  have hS₂ := Heap.get?_update_self (Obj.mapSeq (fun _ => (#[] : Array Value))) hS rfl
  have oth : ∀ b o, b ≠ S → (s.heap.push { cls := .type "list", data := .seq #[] }).get? b = some o → ((s.heap.push { cls := .type "list", data := .seq #[] }).update S (Obj.mapSeq (fun _ => (#[] : Array Value)))).get? b = some o :=
   fun b o hb e => (Heap.get?_update_other _ _ (Ne.symm hb)).trans e
  refine wpAny_bind (wpAny_letGo ?_)
  generalize hHH : (s.heap.push { cls := .type "list", data := .seq #[] }).update S (Obj.mapSeq (fun _ => (#[] : Array Value))) = HH at hS₂ oth ⊢
  have hHS : S < HH.objs.size := Heap.lt_size hS₂
  have hSI : S ≠ HH.objs.size := Nat.ne_of_lt hHS
  have hSf : S ∉ [HH.objs.size] := fun hm => hSI (List.mem_singleton.mp hm)
  unfold Builtin.List.listExtendWith
  refine wpAny_bind (wpAny_typeOf (T := "bytes") (v := .bytes bs.toArray t) rfl ?_)
  have h1 : Builtin.List.listSameRef (.ref S) (.bytes bs.toArray t) = false := rfl
  have h2 : (Value.type "bytes" == Value.type "list") = false := by decide
  have h3 : (Value.type "bytes" == Value.type "tuple") = false := by decide
  simp only [h1, h2, h3, Bool.or_false, Bool.false_eq_true, if_false]
  refine wpAny_bind (KBw.pyIter_bytes ?_)
  refine wpAny_bind (wpAny_holding ?_)
  unfold Builtin.List.listLengthHint
  refine wpAny_bind (wpAny_specialOf (T := "bytes") (v := .bytes bs.toArray t) rfl FB.slot_bytes_len.lookup ?_)
  wp_delta
  refine wpAny_bind (wpAny_isInstance (T := "bytes") (v := .bytes bs.toArray t) (b := true) rfl (by rw [isSubtype_type]; kernel_rfl) ?_)
  show wpAny _ _ (typeOf (Value.bytes bs.toArray t) >>= _) _ _ _
  refine wpAny_bind (wpAny_typeOf (T := "bytes") (v := .bytes bs.toArray t) rfl ?_)
  refine wpAny_pure ?_
  rw [if_neg (by decide)]
  refine wpAny_pure ⟨plainId_quiet PySem.F.plain_extend_loop _, codeAny_extend_loopS (KBw.walks hh HH.objs.size bs.toArray t).toS hsz _ hSf _ bs.toArray.size 0 _ _ _ rfl (Nat.zero_le _) ⟨_, Heap.get?_push_size _ rfl, rfl, rfl⟩ (Heap.get?_push_of_some _ hS₂) (ItemsOf.nil _) fun s' acc' c' hm hS' hacc => ?_⟩
  rw [Moved.eq_with hm]
  have gk : ∀ b o, s.heap.get? b = some o → s'.heap.get? b = some o := fun b o e => by
   have hb : b < S := by rw [← hSS]; exact Heap.lt_size e
   refine hm.heap b o (fun hmem => ?_) (Heap.get?_push_of_some _ (oth b o (Nat.ne_of_lt hb) (g1 b o e)))
   rcases List.mem_cons.mp hmem with e' | hmem
   ·exact Nat.ne_of_lt hb e'
   ·exact absurd hb (by rw [List.mem_singleton.mp hmem]; exact Nat.not_lt.mpr (Nat.le_of_lt hHS))
  have hsize : s.heap.objs.size ≤ S := by rw [hSS]; exact Nat.le_refl _
  refine ⟨rfl, .ref S, _, rRef, I.alloc (ob := .list (bs.map fun b => .int b.toNat)) gk hsize ⟨acc', c', hS', ?_⟩, FrM.alloc gk hsize, h S (I.size hsize)⟩
  have hlen : acc'.toList.length = (bs.map fun b => V.int b.toNat).length := by rw [Array.length_toList, hacc.1]; simp
  clear hm hS'
  have key : ∀ (us : List Value) (Xs : List V), us.length = Xs.length → (∀ (j : Nat) u X, us[j]? = some u → Xs[j]? = some X → Rep s'.heap u X) → RepL s'.heap us Xs := by
   intro us
   induction us with
   | nil => intro Xs hl _; cases Xs with
    | nil => trivial
    | cons _ _ => simp at hl
   | cons u us ih =>
    intro Xs hl hj
    cases Xs with
    | nil => simp at hl
    | cons X Xs => exact ⟨hj 0 u X rfl rfl, ih Xs (by simpa using hl) fun j u X e1 e2 => hj (j + 1) u X e1 e2⟩
  refine key _ _ hlen fun j u X e1 e2 => ?_
  rw [Array.getElem?_toList] at e1
  obtain ⟨cc, tt, q1, q2⟩ := hacc.2 j u e1
  rw [List.getElem?_map] at e2
  have q1' : bs[j]? = some cc := by simpa using q1
  rw [q1'] at e2; cases e2
  rw [q2]; exact rInt
end
set_option tactic.hygienic false
theorem nam_check_range {w : World} : Nam w "check_range" (.ref 61) := .top (by kernel_rfl) (by decide +kernel)
theorem kep_check_range {P : Params} : Kep P (.ref 61) := by show keepIn (KK P) (.ref 61) = true; kernel_rfl
theorem nam_step_size {w : World} : Nam w "step_size" (.ref 68) := .top (by kernel_rfl) (by decide +kernel)
theorem kep_step_size {P : Params} : Kep P (.ref 68) := by show keepIn (KK P) (.ref 68) = true; kernel_rfl
theorem nam_greedy {w : World} : Nam w "greedy" (.ref 115) := .top (by kernel_rfl) (by decide +kernel)
theorem kep_greedy {P : Params} : Kep P (.ref 115) := by show keepIn (KK P) (.ref 115) = true; kernel_rfl
theorem nam_least {w : World} : Nam w "least" (.ref 158) := .top (by kernel_rfl) (by decide +kernel)
theorem kep_least {P : Params} : Kep P (.ref 158) := by show keepIn (KK P) (.ref 158) = true; kernel_rfl
theorem nam_price_of {w : World} : Nam w "price_of" (.ref 165) := .top (by kernel_rfl) (by decide +kernel)
theorem kep_price_of {P : Params} : Kep P (.ref 165) := by show keepIn (KK P) (.ref 165) = true; kernel_rfl
theorem nam_slot_of {w : World} : Nam w "slot_of" (.ref 172) := .top (by kernel_rfl) (by decide +kernel)
theorem kep_slot_of {P : Params} : Kep P (.ref 172) := by show keepIn (KK P) (.ref 172) = true; kernel_rfl
theorem nam_finder_for {w : World} : Nam w "finder_for" (.ref 471) := .top (by kernel_rfl) (by decide +kernel)
theorem kep_finder_for {P : Params} : Kep P (.ref 471) := by show keepIn (KK P) (.ref 471) = true; kernel_rfl
theorem nam_law_box {w : World} : Nam w "_law_box" (.ref 478) := .top (by kernel_rfl) (by decide +kernel)
theorem kep_law_box {P : Params} : Kep P (.ref 478) := by show keepIn (KK P) (.ref 478) = true; kernel_rfl
theorem nam_law_take {w : World} : Nam w "_law_take" (.ref 485) := .top (by kernel_rfl) (by decide +kernel)
theorem kep_law_take {P : Params} : Kep P (.ref 485) := by show keepIn (KK P) (.ref 485) = true; kernel_rfl
theorem nam_law_row {w : World} : Nam w "_law_row" (.ref 490) := .top (by kernel_rfl) (by decide +kernel)
theorem kep_law_row {P : Params} : Kep P (.ref 490) := by show keepIn (KK P) (.ref 490) = true; kernel_rfl
theorem nam_law_words {w : World} : Nam w "_law_words" (.ref 495) := .top (by kernel_rfl) (by decide +kernel)
theorem kep_law_words {P : Params} : Kep P (.ref 495) := by show keepIn (KK P) (.ref 495) = true; kernel_rfl
theorem nam_law_joined {w : World} : Nam w "_law_joined" (.ref 502) := .top (by kernel_rfl) (by decide +kernel)
theorem kep_law_joined {P : Params} : Kep P (.ref 502) := by show keepIn (KK P) (.ref 502) = true; kernel_rfl
theorem nam_law_finder {w : World} : Nam w "_law_finder" (.ref 509) := .top (by kernel_rfl) (by decide +kernel)
theorem kep_law_finder {P : Params} : Kep P (.ref 509) := by show keepIn (KK P) (.ref 509) = true; kernel_rfl
theorem nam_law_plays {w : World} : Nam w "_law_plays" (.ref 516) := .top (by kernel_rfl) (by decide +kernel)
theorem kep_law_plays {P : Params} : Kep P (.ref 516) := by show keepIn (KK P) (.ref 516) = true; kernel_rfl
theorem nam_law_bits {w : World} : Nam w "_law_bits" (.ref 523) := .top (by kernel_rfl) (by decide +kernel)
theorem kep_law_bits {P : Params} : Kep P (.ref 523) := by show keepIn (KK P) (.ref 523) = true; kernel_rfl
theorem nam_law_cost {w : World} : Nam w "_law_cost" (.ref 530) := .top (by kernel_rfl) (by decide +kernel)
theorem kep_law_cost {P : Params} : Kep P (.ref 530) := by show keepIn (KK P) (.ref 530) = true; kernel_rfl
theorem nam_law_word_cost {w : World} : Nam w "_law_word_cost" (.ref 535) := .top (by kernel_rfl) (by decide +kernel)
theorem kep_law_word_cost {P : Params} : Kep P (.ref 535) := by show keepIn (KK P) (.ref 535) = true; kernel_rfl
theorem nam_law_due {w : World} : Nam w "_law_due" (.ref 542) := .top (by kernel_rfl) (by decide +kernel)
theorem kep_law_due {P : Params} : Kep P (.ref 542) := by show keepIn (KK P) (.ref 542) = true; kernel_rfl
theorem nam_law_mapped {w : World} : Nam w "_law_mapped" (.ref 549) := .top (by kernel_rfl) (by decide +kernel)
theorem kep_law_mapped {P : Params} : Kep P (.ref 549) := by show keepIn (KK P) (.ref 549) = true; kernel_rfl
theorem nam_law_told {w : World} : Nam w "_law_told" (.ref 556) := .top (by kernel_rfl) (by decide +kernel)
theorem kep_law_told {P : Params} : Kep P (.ref 556) := by show keepIn (KK P) (.ref 556) = true; kernel_rfl
theorem nam_law_map_right {w : World} : Nam w "_law_map_right" (.ref 561) := .top (by kernel_rfl) (by decide +kernel)
theorem kep_law_map_right {P : Params} : Kep P (.ref 561) := by show keepIn (KK P) (.ref 561) = true; kernel_rfl
theorem nam_law_one {w : World} : Nam w "_law_one" (.ref 568) := .top (by kernel_rfl) (by decide +kernel)
theorem kep_law_one {P : Params} : Kep P (.ref 568) := by show keepIn (KK P) (.ref 568) = true; kernel_rfl
theorem nam_law_again_right {w : World} : Nam w "_law_again_right" (.ref 573) := .top (by kernel_rfl) (by decide +kernel)
theorem kep_law_again_right {P : Params} : Kep P (.ref 573) := by show keepIn (KK P) (.ref 573) = true; kernel_rfl
theorem nam_Trail {w : World} : Nam w "Trail" (.ref 104) := .top (by kernel_rfl) (by decide +kernel)
theorem kep_Trail {P : Params} : Kep P (.ref 104) := by show keepIn (KK P) (.ref 104) = true; kernel_rfl
theorem nam_Ways {w : World} : Nam w "Ways" (.ref 146) := .top (by kernel_rfl) (by decide +kernel)
theorem kep_Ways {P : Params} : Kep P (.ref 146) := by show keepIn (KK P) (.ref 146) = true; kernel_rfl
theorem nam_FlatPrice {w : World} : Nam w "FlatPrice" (.ref 204) := .top (by kernel_rfl) (by decide +kernel)
theorem kep_FlatPrice {P : Params} : Kep P (.ref 204) := by show keepIn (KK P) (.ref 204) = true; kernel_rfl
theorem nam_PlaceRow {w : World} : Nam w "PlaceRow" (.ref 246) := .top (by kernel_rfl) (by decide +kernel)
theorem kep_PlaceRow {P : Params} : Kep P (.ref 246) := by show keepIn (KK P) (.ref 246) = true; kernel_rfl
theorem nam_Matcher {w : World} : Nam w "Matcher" (.ref 337) := .top (by kernel_rfl) (by decide +kernel)
theorem nam_Finder {w : World} : Nam w "Finder" (.ref 380) := .top (by kernel_rfl) (by decide +kernel)
theorem kep_Finder {P : Params} : Kep P (.ref 380) := by show keepIn (KK P) (.ref 380) = true; kernel_rfl
theorem nam_TreeFinder {w : World} : Nam w "TreeFinder" (.ref 428) := .top (by kernel_rfl) (by decide +kernel)
theorem kep_TreeFinder {P : Params} : Kep P (.ref 428) := by show keepIn (KK P) (.ref 428) = true; kernel_rfl
theorem nam_LayeredFinder {w : World} : Nam w "LayeredFinder" (.ref 461) := .top (by kernel_rfl) (by decide +kernel)
theorem kep_LayeredFinder {P : Params} : Kep P (.ref 461) := by show keepIn (KK P) (.ref 461) = true; kernel_rfl
theorem isInt_of {r : Option (Option Value)} {i : Int} {t : Tok} (h : r = some (some (.int i t))) : ∃ t, r = some (some (.int i t)) := ⟨t, h⟩
theorem nam_LEAST_MATCH {w : World} : ∃ v, Nam w "LEAST_MATCH" v ∧ ∀ h, Rep h v (.int (2)) := by
 obtain ⟨t, ht⟩ := isInt_of (r := nsIn (KK w.params) mainGlobals "LEAST_MATCH") (i := 2) rfl
 exact ⟨_, .top ht (by decide +kernel), fun _ => ⟨_, rfl⟩⟩
theorem nam_NOWHERE {w : World} : ∃ v, Nam w "NOWHERE" v ∧ ∀ h, Rep h v (.int (-1)) := by
 obtain ⟨t, ht⟩ := isInt_of (r := nsIn (KK w.params) mainGlobals "NOWHERE") (i := -1) rfl
 exact ⟨_, .top ht (by decide +kernel), fun _ => ⟨_, rfl⟩⟩
theorem nam_len {w : World} : Nam w "len" (.builtin "len") := .boot (by kernel_rfl) (by decide +kernel) (by decide +kernel) (by decide +kernel)
theorem nam_max {w : World} : Nam w "max" (.builtin "max") := .boot (by kernel_rfl) (by decide +kernel) (by decide +kernel) (by decide +kernel)
theorem nam_min {w : World} : Nam w "min" (.builtin "min") := .boot (by kernel_rfl) (by decide +kernel) (by decide +kernel) (by decide +kernel)
theorem nam_range {w : World} : Nam w "range" (.type "range") := .boot (by kernel_rfl) (by decide +kernel) (by decide +kernel) (by decide +kernel)
theorem nam_bytes {w : World} : Nam w "bytes" (.type "bytes") := .boot (by kernel_rfl) (by decide +kernel) (by decide +kernel) (by decide +kernel)
theorem nam_list {w : World} : Nam w "list" (.type "list") := .boot (by kernel_rfl) (by decide +kernel) (by decide +kernel) (by decide +kernel)
theorem ok_check_range (P : Params) : FnOk P 61 ["octets", "start", "most"] ["len"] := .of (by kernel_rfl)
theorem ok_step_size (P : Params) : FnOk P 68 ["step"] [] := .of (by kernel_rfl)
theorem ok_greedy (P : Params) : FnOk P 115 ["octets", "start", "finder", "most", "trail", "steps", "place", "match", "step"] ["check_range", "Trail", "len", "step_size"] := .of (by kernel_rfl)
theorem ok_least (P : Params) : FnOk P 158 ["octets", "start", "finder", "most", "price", "enough", "trail", "ways", "at", "place", "matches", "length", "distance", "part", "taken"] ["check_range", "Trail", "Ways", "len", "range"] := .of (by kernel_rfl)
theorem ok_price_of (P : Params) : FnOk P 165 ["steps", "price", "whole", "first", "second"] [] := .of (by kernel_rfl)
theorem ok_slot_of (P : Params) : FnOk P 172 ["value", "high"] [] := .of (by kernel_rfl)
theorem ok_finder_for (P : Params) : FnOk P 471 ["way", "octets", "least", "window", "chain"] ["Finder", "TreeFinder", "LayeredFinder"] := .of (by kernel_rfl)
theorem ok_law_box (P : Params) : FnOk P 478 ["script", "digits", "state", "cell"] [] := .of (by kernel_rfl)
theorem ok_law_take (P : Params) : FnOk P 485 ["box", "many", "digit"] [] := .of (by kernel_rfl)
theorem ok_law_row (P : Params) : FnOkC P 490 ["box", "room", "kinds", "found", "turn", "begin"] ["_law_take", "range", "len"] ["box", "kinds"] := .of (by kernel_rfl)
theorem ok_law_words (P : Params) : FnOkC P 495 ["box", "size", "octets", "way", "shift"] ["_law_take", "range"] ["box", "size", "octets", "way", "shift"] := .of (by kernel_rfl)
theorem ok_law_joined (P : Params) : FnOk P 502 ["row", "words", "made", "kind"] [] := .of (by kernel_rfl)
theorem ok_law_finder (P : Params) : FnOk P 509 ["box", "text", "window"] ["finder_for", "_law_take", "len"] := .of (by kernel_rfl)
theorem ok_law_plays (P : Params) : FnOk P 516 ["steps", "text", "window", "most", "made", "first", "second", "turn"] ["min", "len", "range", "list"] := .of (by kernel_rfl)
theorem ok_law_bits (P : Params) : FnOk P 523 ["value", "count"] [] := .of (by kernel_rfl)
theorem ok_law_cost (P : Params) : FnOk P 530 ["prices", "length", "distance"] ["_law_bits"] := .of (by kernel_rfl)
theorem ok_law_word_cost (P : Params) : FnOkC P 535 ["row", "place", "word", "window", "prices", "ways", "size", "near"] ["len", "range", "min", "_law_cost"] ["row", "place"] := .of (by kernel_rfl)
theorem ok_law_due (P : Params) : FnOk P 542 ["steps", "row", "words", "window", "prices", "size", "place", "due", "first", "second"] ["len", "_law_cost", "_law_word_cost", "max"] := .of (by kernel_rfl)
theorem ok_law_mapped (P : Params) : FnOk P 549 ["steps", "row", "words", "found", "place", "first", "second"] ["max"] := .of (by kernel_rfl)
theorem ok_law_told (P : Params) : FnOk P 556 ["box", "text", "window", "most", "price", "steps", "cheap", "both"] ["greedy", "_law_finder", "least", "_law_plays"] := .of (by kernel_rfl)
theorem ok_law_map_right (P : Params) : FnOkC P 561 ["box", "row", "words", "shape", "prices", "window", "most", "size", "price", "plain", "told", "made"] ["len", "FlatPrice", "_law_told", "_law_joined", "_law_due", "price_of"] ["row", "words"] := .of (by kernel_rfl)
theorem ok_law_one (P : Params) : FnOk P 568 ["octet", "many", "most", "steps", "rest"] ["min"] := .of (by kernel_rfl)
theorem ok_law_again_right (P : Params) : FnOkC P 573 ["box", "most", "room", "size", "word", "times", "window", "once", "often", "rest"] ["_law_take", "bytes", "range", "greedy", "_law_finder", "len", "_law_plays", "_law_one"] ["box"] := .of (by kernel_rfl)
theorem ok_Trail_init (P : Params) : FnOk P 82 ["self", "finder"] ["max", "LEAST_MATCH"] := .of (by kernel_rfl)
theorem ok_Trail_up_to (P : Params) : FnOk P 89 ["self", "place"] [] := .of (by kernel_rfl)
theorem ok_Trail_best (P : Params) : FnOk P 96 ["self", "place", "most", "length", "distance"] [] := .of (by kernel_rfl)
theorem ok_Trail_every (P : Params) : FnOkC P 101 ["self", "place", "most"] [] ["self"] := .of (by kernel_rfl)
theorem ok_Ways_init (P : Params) : FnOk P 129 ["self", "size"] [] := .of (by kernel_rfl)
theorem ok_Ways_offer (P : Params) : FnOk P 136 ["self", "at", "step", "cost", "there", "whole"] ["step_size"] := .of (by kernel_rfl)
theorem ok_Ways_told (P : Params) : FnOk P 143 ["self", "found", "at"] ["step_size"] := .of (by kernel_rfl)
theorem ok_FlatPrice_init (P : Params) : FnOk P 187 ["self", "literal", "match", "bit"] [] := .of (by kernel_rfl)
theorem ok_FlatPrice_literal (P : Params) : FnOk P 194 ["self", "octet"] [] := .of (by kernel_rfl)
theorem ok_FlatPrice_match (P : Params) : FnOk P 201 ["self", "length", "distance"] ["slot_of", "LEAST_MATCH"] := .of (by kernel_rfl)
theorem ok_PlaceRow_init (P : Params) : FnOk P 222 ["self", "octets", "size"] ["NOWHERE", "len"] := .of (by kernel_rfl)
theorem ok_PlaceRow_key (P : Params) : FnOk P 229 ["self", "place", "number", "octet"] ["len"] := .of (by kernel_rfl)
theorem ok_PlaceRow_put (P : Params) : FnOk P 236 ["self", "place", "number"] ["NOWHERE"] := .of (by kernel_rfl)
theorem ok_PlaceRow_newest (P : Params) : FnOk P 243 ["self", "place", "number", "other"] ["NOWHERE"] := .of (by kernel_rfl)
theorem ok_Matcher_init (P : Params) : FnOk P 264 ["self", "octets", "least", "window", "chain"] ["bytes"] := .of (by kernel_rfl)
theorem ok_Matcher_put (P : Params) : FnOk P 271 ["self", "place"] ["len"] := .of (by kernel_rfl)
theorem ok_Matcher_limit (P : Params) : FnOk P 292 ["self", "place", "most"] ["min", "len"] := .of (by kernel_rfl)
theorem ok_Matcher_alike (P : Params) : FnOk P 306 ["self", "place", "other", "known", "limit", "octets"] [] := .of (by kernel_rfl)
theorem ok_Matcher_is_near (P : Params) : FnOk P 313 ["self", "place", "other"] ["NOWHERE"] := .of (by kernel_rfl)
theorem ok_Matcher_best (P : Params) : FnOk P 334 ["self", "place", "most", "found"] ["len"] := .of (by kernel_rfl)
theorem ok_Finder_init (P : Params) : FnOk P 356 ["self", "octets", "least", "window", "chain"] ["Matcher", "PlaceRow"] := .of (by kernel_rfl)
theorem ok_Finder_enter (P : Params) : FnOk P 363 ["self", "place"] [] := .of (by kernel_rfl)
theorem ok_Finder_candidates (P : Params) : FnOk P 370 ["self", "place", "found", "other"] ["len"] := .of (by kernel_rfl)
theorem ok_Finder_every (P : Params) : FnOk P 377 ["self", "place", "most", "found", "limit", "longest", "other", "count"] [] := .of (by kernel_rfl)
theorem ok_TreeFinder_init (P : Params) : FnOk P 397 ["self", "octets", "least", "window", "chain"] ["Matcher", "PlaceRow", "NOWHERE", "len"] := .of (by kernel_rfl)
theorem ok_TreeFinder_hang (P : Params) : FnOk P 404 ["self", "owner", "is_greater", "place"] [] := .of (by kernel_rfl)
theorem ok_TreeFinder_enter (P : Params) : FnOk P 411 ["self", "place", "number", "other"] ["NOWHERE"] := .of (by kernel_rfl)
theorem ok_TreeFinder_part (P : Params) : FnOk P 418 ["self", "place", "other", "limit", "steps", "low", "low_is_greater", "low_count", "high", "high_is_greater", "high_count", "count"] ["len", "min", "NOWHERE"] := .of (by kernel_rfl)
theorem ok_TreeFinder_every (P : Params) : FnOk P 425 ["self", "place", "most", "number", "found", "limit", "longest", "steps", "low_count", "high_count", "other", "count"] ["NOWHERE", "min"] := .of (by kernel_rfl)
theorem ok_LayeredFinder_init (P : Params) : FnOkC P 444 ["self", "octets", "window", "chain"] ["Matcher", "TreeFinder"] ["self"] := .of (by kernel_rfl)
theorem ok_LayeredFinder_enter (P : Params) : FnOk P 451 ["self", "place", "row"] [] := .of (by kernel_rfl)
theorem ok_LayeredFinder_every (P : Params) : FnOk P 458 ["self", "place", "most", "limit", "found", "longest", "row", "other", "count", "distance"] [] := .of (by kernel_rfl)
theorem ok_law (P : Params) : FnOk P 580 ["script", "box", "room", "size", "row", "words", "window", "most", "prices"] ["_law_box", "len", "_law_take", "_law_row", "_law_words", "_law_map_right", "_law_again_right"] := .of (by kernel_rfl)
noncomputable def wiU : List Str := ["finder", "shortest", "known"]
theorem cls_Trail {P : Params} : ClsF P 104 wiU := ⟨by kernel_rfl, by kernel_rfl, by kernel_rfl, by kernel_rfl, by decide +kernel, fun x hx => by
 simp only [wiU, List.mem_cons, List.not_mem_nil, or_false] at hx
 rcases hx with rfl | rfl | rfl <;> kernel_rfl⟩
theorem meth_Trail_up_to {P : Params} : wbV P 104 wiU "up_to" 89 := ⟨cls_Trail, by kernel_rfl, by kernel_rfl, by kernel_rfl, by decide +kernel⟩
theorem meth_Trail_best {P : Params} : wbV P 104 wiU "best" 96 := ⟨cls_Trail, by kernel_rfl, by kernel_rfl, by kernel_rfl, by decide +kernel⟩
theorem meth_Trail_every {P : Params} : wbV P 104 wiU "every" 101 := ⟨cls_Trail, by kernel_rfl, by kernel_rfl, by kernel_rfl, by decide +kernel⟩
theorem new_Trail {P : Params} : NewF P 104 82 := ⟨by kernel_rfl, by kernel_rfl, by kernel_rfl⟩
noncomputable def N_Ways : List Str := ["size", "costs", "steps"]
theorem cls_Ways {P : Params} : ClsF P 146 N_Ways := ⟨by kernel_rfl, by kernel_rfl, by kernel_rfl, by kernel_rfl, by decide +kernel, fun x hx => by
 simp only [N_Ways, List.mem_cons, List.not_mem_nil, or_false] at hx
 rcases hx with rfl | rfl | rfl <;> kernel_rfl⟩
theorem meth_Ways_offer {P : Params} : wbV P 146 N_Ways "offer" 136 := ⟨cls_Ways, by kernel_rfl, by kernel_rfl, by kernel_rfl, by decide +kernel⟩
theorem meth_Ways_told {P : Params} : wbV P 146 N_Ways "told" 143 := ⟨cls_Ways, by kernel_rfl, by kernel_rfl, by kernel_rfl, by decide +kernel⟩
theorem new_Ways {P : Params} : NewF P 146 129 := ⟨by kernel_rfl, by kernel_rfl, by kernel_rfl⟩
noncomputable def wcY : List Str := ["of_literal", "of_match", "of_bit"]
theorem cls_FlatPrice {P : Params} : ClsF P 204 wcY := ⟨by kernel_rfl, by kernel_rfl, by kernel_rfl, by kernel_rfl, by decide +kernel, fun x hx => by
 simp only [wcY, List.mem_cons, List.not_mem_nil, or_false] at hx
 rcases hx with rfl | rfl | rfl <;> kernel_rfl⟩
theorem meth_FlatPrice_literal {P : Params} : wbV P 204 wcY "literal" 194 := ⟨cls_FlatPrice, by kernel_rfl, by kernel_rfl, by kernel_rfl, by decide +kernel⟩
theorem meth_FlatPrice_match {P : Params} : wbV P 204 wcY "match" 201 := ⟨cls_FlatPrice, by kernel_rfl, by kernel_rfl, by kernel_rfl, by decide +kernel⟩
theorem new_FlatPrice {P : Params} : NewF P 204 187 := ⟨by kernel_rfl, by kernel_rfl, by kernel_rfl⟩
noncomputable def wbX : List Str := ["octets", "size", "last", "before"]
theorem wjQ {P : Params} : ClsF P 246 wbX := ⟨by kernel_rfl, by kernel_rfl, by kernel_rfl, by kernel_rfl, by decide +kernel, fun x hx => by
 simp only [wbX, List.mem_cons, List.not_mem_nil, or_false] at hx
 rcases hx with rfl | rfl | rfl | rfl <;> kernel_rfl⟩
theorem meth_PlaceRow_key {P : Params} : wbV P 246 wbX "key" 229 := ⟨wjQ, by kernel_rfl, by kernel_rfl, by kernel_rfl, by decide +kernel⟩
theorem meth_PlaceRow_put {P : Params} : wbV P 246 wbX "put" 236 := ⟨wjQ, by kernel_rfl, by kernel_rfl, by kernel_rfl, by decide +kernel⟩
theorem meth_PlaceRow_newest {P : Params} : wbV P 246 wbX "newest" 243 := ⟨wjQ, by kernel_rfl, by kernel_rfl, by kernel_rfl, by decide +kernel⟩
theorem new_PlaceRow {P : Params} : NewF P 246 222 := ⟨by kernel_rfl, by kernel_rfl, by kernel_rfl⟩
noncomputable def wbZ : List Str := ["octets", "least", "window", "chain", "ahead", "row"]
theorem wbQ {P : Params} : ClsF P 380 wbZ := ⟨by kernel_rfl, by kernel_rfl, by kernel_rfl, by kernel_rfl, by decide +kernel, fun x hx => by
 simp only [wbZ, List.mem_cons, List.not_mem_nil, or_false] at hx
 rcases hx with rfl | rfl | rfl | rfl | rfl | rfl <;> kernel_rfl⟩
theorem meth_Finder_enter {P : Params} : wbV P 380 wbZ "enter" 363 := ⟨wbQ, by kernel_rfl, by kernel_rfl, by kernel_rfl, by decide +kernel⟩
theorem meth_Finder_candidates {P : Params} : wbV P 380 wbZ "candidates" 370 := ⟨wbQ, by kernel_rfl, by kernel_rfl, by kernel_rfl, by decide +kernel⟩
theorem meth_Finder_every {P : Params} : wbV P 380 wbZ "every" 377 := ⟨wbQ, by kernel_rfl, by kernel_rfl, by kernel_rfl, by decide +kernel⟩
theorem meth_Finder_put {P : Params} : wbV P 380 wbZ "put" 271 := ⟨wbQ, by kernel_rfl, by kernel_rfl, by kernel_rfl, by decide +kernel⟩
theorem meth_Finder_limit {P : Params} : wbV P 380 wbZ "limit" 292 := ⟨wbQ, by kernel_rfl, by kernel_rfl, by kernel_rfl, by decide +kernel⟩
theorem meth_Finder_alike {P : Params} : wbV P 380 wbZ "alike" 306 := ⟨wbQ, by kernel_rfl, by kernel_rfl, by kernel_rfl, by decide +kernel⟩
theorem meth_Finder_is_near {P : Params} : wbV P 380 wbZ "is_near" 313 := ⟨wbQ, by kernel_rfl, by kernel_rfl, by kernel_rfl, by decide +kernel⟩
theorem meth_Finder_best {P : Params} : wbV P 380 wbZ "best" 334 := ⟨wbQ, by kernel_rfl, by kernel_rfl, by kernel_rfl, by decide +kernel⟩
theorem new_Finder {P : Params} : NewF P 380 356 := ⟨by kernel_rfl, by kernel_rfl, by kernel_rfl⟩
noncomputable def zbU : List Str := ["octets", "least", "window", "chain", "ahead", "row", "roots", "smaller", "greater"]
theorem zcZ {P : Params} : ClsF P 428 zbU := ⟨by kernel_rfl, by kernel_rfl, by kernel_rfl, by kernel_rfl, by decide +kernel, fun x hx => by
 simp only [zbU, List.mem_cons, List.not_mem_nil, or_false] at hx
 rcases hx with rfl | rfl | rfl | rfl | rfl | rfl | rfl | rfl | rfl <;> kernel_rfl⟩
theorem meth_TreeFinder_hang {P : Params} : wbV P 428 zbU "hang" 404 := ⟨zcZ, by kernel_rfl, by kernel_rfl, by kernel_rfl, by decide +kernel⟩
theorem wgY {P : Params} : wbV P 428 zbU "enter" 411 := ⟨zcZ, by kernel_rfl, by kernel_rfl, by kernel_rfl, by decide +kernel⟩
theorem meth_TreeFinder_part {P : Params} : wbV P 428 zbU "part" 418 := ⟨zcZ, by kernel_rfl, by kernel_rfl, by kernel_rfl, by decide +kernel⟩
theorem wgZ {P : Params} : wbV P 428 zbU "every" 425 := ⟨zcZ, by kernel_rfl, by kernel_rfl, by kernel_rfl, by decide +kernel⟩
theorem wiZ {P : Params} : wbV P 428 zbU "put" 271 := ⟨zcZ, by kernel_rfl, by kernel_rfl, by kernel_rfl, by decide +kernel⟩
theorem meth_TreeFinder_limit {P : Params} : wbV P 428 zbU "limit" 292 := ⟨zcZ, by kernel_rfl, by kernel_rfl, by kernel_rfl, by decide +kernel⟩
theorem meth_TreeFinder_alike {P : Params} : wbV P 428 zbU "alike" 306 := ⟨zcZ, by kernel_rfl, by kernel_rfl, by kernel_rfl, by decide +kernel⟩
theorem meth_TreeFinder_is_near {P : Params} : wbV P 428 zbU "is_near" 313 := ⟨zcZ, by kernel_rfl, by kernel_rfl, by kernel_rfl, by decide +kernel⟩
theorem wgU {P : Params} : wbV P 428 zbU "best" 334 := ⟨zcZ, by kernel_rfl, by kernel_rfl, by kernel_rfl, by decide +kernel⟩
theorem new_TreeFinder {P : Params} : NewF P 428 397 := ⟨by kernel_rfl, by kernel_rfl, by kernel_rfl⟩
noncomputable def zaX : List Str := ["octets", "least", "window", "chain", "ahead", "rows", "tree"]
theorem zbV {P : Params} : ClsF P 461 zaX := ⟨by kernel_rfl, by kernel_rfl, by kernel_rfl, by kernel_rfl, by decide +kernel, fun x hx => by
 simp only [zaX, List.mem_cons, List.not_mem_nil, or_false] at hx
 rcases hx with rfl | rfl | rfl | rfl | rfl | rfl | rfl <;> kernel_rfl⟩
theorem weX {P : Params} : wbV P 461 zaX "enter" 451 := ⟨zbV, by kernel_rfl, by kernel_rfl, by kernel_rfl, by decide +kernel⟩
theorem weY {P : Params} : wbV P 461 zaX "every" 458 := ⟨zbV, by kernel_rfl, by kernel_rfl, by kernel_rfl, by decide +kernel⟩
theorem wfX {P : Params} : wbV P 461 zaX "put" 271 := ⟨zbV, by kernel_rfl, by kernel_rfl, by kernel_rfl, by decide +kernel⟩
theorem meth_LayeredFinder_limit {P : Params} : wbV P 461 zaX "limit" 292 := ⟨zbV, by kernel_rfl, by kernel_rfl, by kernel_rfl, by decide +kernel⟩
theorem meth_LayeredFinder_alike {P : Params} : wbV P 461 zaX "alike" 306 := ⟨zbV, by kernel_rfl, by kernel_rfl, by kernel_rfl, by decide +kernel⟩
theorem wjZ {P : Params} : wbV P 461 zaX "is_near" 313 := ⟨zbV, by kernel_rfl, by kernel_rfl, by kernel_rfl, by decide +kernel⟩
theorem weV {P : Params} : wbV P 461 zaX "best" 334 := ⟨zbV, by kernel_rfl, by kernel_rfl, by kernel_rfl, by decide +kernel⟩
theorem new_LayeredFinder {P : Params} : NewF P 461 444 := ⟨by kernel_rfl, by kernel_rfl, by kernel_rfl⟩
theorem clsm_init {P : Params} : ClsM P 337 "__init__" 264 := ⟨by kernel_rfl, by kernel_rfl, by kernel_rfl, by kernel_rfl⟩
theorem attr_LAYERS {P : Params} : AttrC P 461 zaX "LAYERS" (.ref 438) := ⟨zbV, by kernel_rfl, by kernel_rfl, by kernel_rfl, by kernel_rfl, by decide +kernel⟩
theorem attr_TREE {P : Params} : ∃ v, AttrC P 461 zaX "TREE" v ∧ ∀ h, Rep h v (.int 4) := by
 obtain ⟨t, ht⟩ := isInt_of (r := findIn (KK P) (.ref 461) "TREE") (i := 4) rfl
 exact ⟨_, ⟨zbV, ht, by kernel_rfl, by kernel_rfl, by kernel_rfl, by decide +kernel⟩, fun _ => ⟨_, rfl⟩⟩
set_option tactic.hygienic false
theorem nm {c : Cx} {L : List Str} {i : Nat} {x : Str} (hn : c.names = L) (e : L[i]? = some x) : c.names[i]? = some x := hn ▸ e
theorem gm {c : Cx} {L : List Str} {i : Nat} {x : Str} (hn : c.gl = L) (e : L[i]? = some x) : c.gl[i]? = some x := hn ▸ e
theorem zbY {p : Prop} [Decidable p] {A B : Prop} (h1 : p → A) (h2 : ¬ p → B) : if decide p = true then A else B := by
 by_cases h : p <;> simp only [h, decide_true, decide_false, if_true, Bool.false_eq_true, if_false]
 ·exact h1 h
 ·exact h2 h
theorem zcX {Q : V → AH → Prop} {X : V} {r : Loc} {H : AH} (h : Q X H) : Ret Q (.ret X) r H := h
theorem zcY {Q : V → AH → Prop} {r : Loc} {H : AH} (h : Q .none H) : Ret Q .next r H := h
section
variable {c : Cx} {L : List Str} {r : Loc} {H : AH}
theorem WE_var (i : Nat) {Q : V → AH → Prop} {x : Str} {p : Pos} {X : V} (hL : c.names = L) (hn : L[i]? = some x) (hv : (r : List (Option V))[i]? = some (some X)) (hd : (x == ("__debug__" : Str)) = false) (h : Q X H) :
 WE c r H (.Name x p) Q := WE_loc i (nm hL hn) hv hd h
theorem WS_asg (i : Nat) {Q : Fl → Loc → AH → Prop} {x : Str} {p p' : Pos} {value : Expr} (hL : c.names = L) (hn : L[i]? = some x) (h : WE c r H value (fun X H1 => Q .next (setL r i X) H1))
 (hs : swapsWith value (some (.Name x p')) p.line c.env = pure false := by rfl) : WS c r H (.Assign [.Name x p'] value p) Q := WS_assign i (nm hL hn) h hs
theorem WS_augm (i : Nat) {Q : Fl → Loc → AH → Prop} {x : Str} {p p' : Pos} {op : Operator} {value : Expr} {X : V} (hL : c.names = L) (hn : L[i]? = some x) (hv : (r : List (Option V))[i]? = some (some X))
 (h : WE c r H value (fun Y H1 => IO c.G op X Y H1 (fun Z H2 => Q .next (setL r i Z) H2))) : WS c r H (.AugAssign (.Name x p') op value p) Q := WS_aug i (nm hL hn) hv h
theorem WE_gl (j : Nat) {Q : V → AH → Prop} {x : Str} {p : Pos} {v : Value} {X : V} (hL : c.gl = L) (hg : L[j]? = some x) (e : Nam c.G.w x v) (hv : ∀ h, Rep h v X) (h : Q X H) : WE c r H (.Name x p) Q := WE_glob j (gm hL hg) e hv h
theorem waZ {n : Nat} {f : Value} {args : List V} {Q : V → AH → Prop} {lv : Nat} (hk : c.k = lv) (hn : n ≤ lv) (h : waX c.G n f args H Q) : wgV c.G c.k f args H Q := (h.le (by rw [hk]; exact hn)).call
end
theorem lkn {H : AH} {a b : Addr} {o o' : O} (hn : a ≠ b) (h : H a = some o) : upd H b o' a = some o := by rw [zbX _ _ hn]; exact h
theorem nW {H : AH} {a b : Addr} {o : O} (h : H a = some o) (n : H b = none) : a ≠ b := fun e => by subst e; rw [n] at h; cases h
theorem nnx {H : AH} {a b : Addr} (n : H b = none) (h : ∃ o, H a = some o) : a ≠ b := h.elim fun _ h => nW h n
section
variable {c : Cx} {G : Gd} {r : Loc} {H : AH}
theorem isWSs {st : List Stmt} {Q : Fl → Loc → AH → Prop} (h : WSs c r H st Q) : WSs c r H st Q := h
end
section
variable {c : Cx} {L : List Str} {r : Loc} {H : AH}
theorem WE_fnm {Q : V → AH → Prop} {x : Str} {np p : Pos} {es : List Expr} {f : Value} (hL : c.gl = L) (hg : x ∈ L) (e : Nam c.G.w x f) (k : Kep c.G.w.params f)
 (h : WL c r H es (fun Xs H1 => wgV c.G c.k f Xs H1 Q)) (he : (starEach es c.env).all (fun x => !x.1) = true) : WE c r H (.Call (.Name x np) es [] p) Q := by
 subst hL
 obtain ⟨j, hj⟩ := List.mem_iff_getElem?.mp hg
 exact WE_call j hj e k h he
inductive AtQ (P : Params) (x : Str) (Q : V → AH → Prop) (X : V) (H1 : AH) : Prop
 | mk (i : Nat) (a C dx : Addr) (N : List Str) (Xs : List V) (Y : V) (e : X = .ref a) (h1 : H1 a = some (.inst C dx)) (h2 : H1 dx = some (.fields N Xs)) (F : ClsF P C N) (e1 : N[i]? = some x) (e2 : Xs[i]? = some Y) (q : Q Y H1)
theorem WE_att {Q : V → AH → Prop} {e : Expr} {x : Str} {p : Pos} (h : WE c r H e (AtQ c.G.w.params x Q))
 (he : eval (.Attribute e x p) c.env = (do
  let o ← eval e c.env
  standAt p.atName
  let r ← holding [o] (getAttr o x true)
  letTemporaryGo e o r
  pure r)) : WE c r H (.Attribute e x p) Q := fun s m I E => by
 refine Attribute_any_ (he := he) (h.thn I E fun v s₁ X H1 rv I1 f1 Ef1 q0 => ?_)
 obtain ⟨i, a, C, dx, N, Xs, Y, rfl, q1, q2, F, e1, e2, q⟩ := q0
 cases rv
 exact TV.then f1 (TV_getattr I1 q1 q2 F e1 e2 q)
theorem AT (i : Nat) {P : Params} {x : Str} {Q : V → AH → Prop} {a C dx : Addr} {N : List Str} {Xs : List V} {Y : V} (h1 : H a = some (.inst C dx)) (h2 : H dx = some (.fields N Xs)) (F : ClsF P C N) (e1 : N[i]? = some x) (e2 : Xs[i]? = some Y) (h : Q Y H) : AtQ P x Q (.ref a) H :=
 ⟨i, a, C, dx, N, Xs, Y, rfl, h1, h2, F, e1, e2, h⟩
end
theorem ite_t {p : Prop} [Decidable p] {A B : Prop} (h1 : p) (h2 : A) : if decide p = true then A else B := by rw [if_pos (decide_eq_true h1)]; exact h2
theorem whZ {p : Prop} [Decidable p] {A B : Prop} (h1 : ¬ p) (h2 : B) : if decide p = true then A else B := by rw [if_neg (by simpa using h1)]; exact h2
theorem ite_tt {A B : Prop} (h : A) : if true = true then A else B := h
theorem weU {A B : Prop} (h : B) : if false = true then A else B := h
theorem ite_nt {b : Bool} {A B : Prop} (h : if b = true then B else A) : if (!b) = true then A else B := by cases b <;> exact h
noncomputable def oc (T : List UInt8) (i : Nat) : Nat := (T.getD i 0).toNat
theorem oc_lt (T : List UInt8) (i : Nat) : oc T i < 256 := UInt8.toNat_lt _
section
variable {G : Gd} {H : AH} {Q : V → AH → Prop}
theorem wiQ {T : List UInt8} {k : Int} (h0 : 0 ≤ k) (hk : k < T.length) (hz : T.length ≤ 100000) (h : Q (.int (oc T k.toNat)) H) : GI G (.bytes T) (.int k) H Q := by
 have hx : T[k.toNat]? = some (T.getD k.toNat 0) := by
  rw [List.getD_eq_getElem?_getD]
  have : k.toNat < T.length := by omega
  rw [List.getElem?_eq_getElem this]; rfl
 exact GI_bytes h0 (by unfold szL; omega) hx h
theorem wgQ {k : Nat} {l : List UInt8} (hz : l.length ≤ 100000) (h : Q (.int l.length) H) : wgV G k (.builtin "len") [.bytes l] H Q := C_len_bytes (by unfold szL; omega) h
theorem C_lenl {k : Nat} {l : Addr} {vs : List V} (hl : H l = some (.list vs)) (hz : vs.length ≤ 100000) (h : Q (.int vs.length) H) : wgV G k (.builtin "len") [.ref l] H Q := C_len_list hl (by unfold szL; omega) h
inductive Mat (P : Params) (H : AH) (f : Addr) (T : List UInt8) (L w ch ah : Int) : Prop
 | mk (C dx : Addr) (N : List Str) (Xs : List V) (h1 : H f = some (.inst C dx)) (h2 : H dx = some (.fields N Xs)) (F : ClsF P C N) (n0 : N[0]? = some ("octets" : Str)) (n1 : N[1]? = some ("least" : Str)) (n2 : N[2]? = some ("window" : Str)) (n3 : N[3]? = some ("chain" : Str)) (n4 : N[4]? = some ("ahead" : Str))
  (x0 : Xs[0]? = some (.bytes T)) (x1 : Xs[1]? = some (.int L)) (x2 : Xs[2]? = some (.int w)) (x3 : Xs[3]? = some (.int ch)) (x4 : Xs[4]? = some (.int ah))
theorem Mat.octets {P : Params} {f : Addr} {T : List UInt8} {L w ch ah : Int} (M : Mat P H f T L w ch ah) (h : Q (.bytes T) H) : AtQ P "octets" Q (.ref f) H := by
 obtain ⟨C, dx, N, Xs, h1, h2, F, n0, n1, n2, n3, n4, x0, x1, x2, x3, x4⟩ := M
 exact AT 0 h1 h2 F n0 x0 h
theorem Mat.least {P : Params} {f : Addr} {T : List UInt8} {L w ch ah : Int} (M : Mat P H f T L w ch ah) (h : Q (.int L) H) : AtQ P "least" Q (.ref f) H := by
 obtain ⟨C, dx, N, Xs, h1, h2, F, n0, n1, n2, n3, n4, x0, x1, x2, x3, x4⟩ := M
 exact AT 1 h1 h2 F n1 x1 h
theorem Mat.window {P : Params} {f : Addr} {T : List UInt8} {L w ch ah : Int} (M : Mat P H f T L w ch ah) (h : Q (.int w) H) : AtQ P "window" Q (.ref f) H := by
 obtain ⟨C, dx, N, Xs, h1, h2, F, n0, n1, n2, n3, n4, x0, x1, x2, x3, x4⟩ := M
 exact AT 2 h1 h2 F n2 x2 h
theorem Mat.chain {P : Params} {f : Addr} {T : List UInt8} {L w ch ah : Int} (M : Mat P H f T L w ch ah) (h : Q (.int ch) H) : AtQ P "chain" Q (.ref f) H := by
 obtain ⟨C, dx, N, Xs, h1, h2, F, n0, n1, n2, n3, n4, x0, x1, x2, x3, x4⟩ := M
 exact AT 3 h1 h2 F n3 x3 h
theorem Mat.ahead {P : Params} {f : Addr} {T : List UInt8} {L w ch ah : Int} (M : Mat P H f T L w ch ah) (h : Q (.int ah) H) : AtQ P "ahead" Q (.ref f) H := by
 obtain ⟨C, dx, N, Xs, h1, h2, F, n0, n1, n2, n3, n4, x0, x1, x2, x3, x4⟩ := M
 exact AT 4 h1 h2 F n4 x4 h
end
inductive IsInit : Prop where
 | mk
section
variable {c : Cx} {r : Loc} {H : AH}
inductive AsQ (P : Params) (x : Str) (X : V) (K : AH → Prop) (ov : V) (H2 : AH) : Prop
 | na (a C dx : Addr) (N : List Str) (Xs : List V) (e : ov = .ref a) (h1 : H2 a = some (.inst C dx)) (h2 : H2 dx = some (.fields N Xs)) (F : ClsF P C N) (e1 : N[Xs.length]? = some x) (e2 : Xs.length ≤ 100) (q : K (upd H2 dx (.fields N (Xs ++ [X]))))
 | sa (i : Nat) (a C dx : Addr) (N : List Str) (Xs : List V) (e : ov = .ref a) (h1 : H2 a = some (.inst C dx)) (h2 : H2 dx = some (.fields N Xs)) (F : ClsF P C N) (e1 : N[i]? = some x) (e2 : Xs.length ≤ 100) (e3 : i < Xs.length) (q : K (upd H2 dx (.fields N (Xs.set i X))))
theorem AsQ.mono {P : Params} {x : Str} {X : V} {K K' : AH → Prop} {ov : V} (h : AsQ P x X K ov H) (k : ∀ H', K H' → K' H') : AsQ P x X K' ov H := by
 cases h with
 | na a C dx N Xs e h1 h2 F e1 e2 q => exact .na a C dx N Xs e h1 h2 F e1 e2 (k _ q)
 | sa i a C dx N Xs e h1 h2 F e1 e2 e3 q => exact .sa i a C dx N Xs e h1 h2 F e1 e2 e3 (k _ q)
end
theorem zbW {H : AH} {a b : Addr} {o o' : O} (h1 : H a = some o) (h2 : H b = some o') (n : o = o' → False) : a ≠ b := fun e => by subst e; rw [h1] at h2; cases h2; exact n rfl
section
variable {c : Cx} {L : List Str} {r : Loc} {H : AH}
theorem wiX {inv : Nat → Loc → AH → Prop} {i : Nat} {Q : Fl → Loc → AH → Prop} (h : inv (i + 1) r H) : ForQ inv i Q .next r H := h
theorem WA_nm (i : Nat) {x : Str} {p : Pos} {X : V} {K : Loc → Prop} (hL : c.names = L) (hn : L[i]? = some x) (h : K (setL r i X)) : WA c r H (.Name x p) X K := WA_name i (nm hL hn) h
theorem WA_two (i j : Nat) {x y : Str} {px py : Pos} {k : Nat} {tp : Pos} {a b : Int} {K : Loc → Prop} (hL : c.names = L) (h1 : L[i]? = some x) (h2 : L[j]? = some y) (h : K (setL (setL r i (.int a)) j (.int b))) :
 WA c r H (.Tuple [.Name x px, .Name y py] k tp) (.pr a b) K := WA_pair i j (.cons (.cons .nil)) (nm hL h1) (nm hL h2) h
end
section
variable {G : Gd} {H : AH} {Q : Bool → AH → Prop}
theorem CO_is_i {i : Int} (h : Q false H) : CO G .Is (.int i) .none H Q := CO_isnone rfl h
theorem CO_is_n (h : Q true H) : CO G .Is .none .none H Q := CO_isnone rfl h
theorem CO_nt_i {i : Int} (h : Q true H) : CO G .IsNot (.int i) .none H Q := CO_isntnone rfl h
theorem CO_nt_n (h : Q false H) : CO G .IsNot .none .none H Q := CO_isntnone rfl h
end
theorem zaQ {H : AH} {a b : Addr} {o : O} (h : upd H a o b = none) : H b = none := by
 by_cases e : b = a
 ·subst e; rw [uS] at h; cases h
 ·rwa [zbX _ _ e] at h
theorem flat_one {α β : Type} (f : α → β) (n : Nat) (x : α) : (List.replicate n [f x]).flatten = (List.replicate n x).map f := by
 induction n with
 | zero => rfl
 | succ n ih => rw [List.replicate_succ, List.replicate_succ, List.flatten_cons, ih]; rfl
section
variable {c : Cx} {L : List Str} {r : Loc} {H : AH} {Q : Fl → Loc → AH → Prop}
theorem hn2 {i j : Nat} {x y : Str} (hL : c.names = L) (h1 : L[i]? = some x) (h2 : L[j]? = some y) : ∀ (k : Nat) a z, [i, j][k]? = some a → [x, y][k]? = some z → c.names[a]? = some z := fun k a z e1 e2 => by
 match k with
 | 0 => simp at e1 e2; subst e1 e2; exact nm hL h1
 | 1 => simp at e1 e2; subst e1 e2; exact nm hL h2
 | _ + 2 => simp at e1
theorem hn3 {i j l : Nat} {x y z : Str} (hL : c.names = L) (h1 : L[i]? = some x) (h2 : L[j]? = some y) (h3 : L[l]? = some z) : ∀ (k : Nat) a w, [i, j, l][k]? = some a → [x, y, z][k]? = some w → c.names[a]? = some w := fun k a w e1 e2 => by
 match k with
 | 0 => simp at e1 e2; subst e1 e2; exact nm hL h1
 | 1 => simp at e1 e2; subst e1 e2; exact nm hL h2
 | 2 => simp at e1 e2; subst e1 e2; exact nm hL h3
 | _ + 3 => simp at e1
theorem WS_tup2 (i j : Nat) {x y : Str} {px py : Pos} {a b : Expr} {k k' : Nat} {tp vp p : Pos} (hL : c.names = L) (h1 : L[i]? = some x) (h2 : L[j]? = some y) (hij : i ≠ j) (hst : wfW [a, b] = false) (hca : [a, b].all (constantsAlone 8) = false)
 (h : WL c r H [a, b] (fun Xs H1 => ∃ X Y, Xs = [X, Y] ∧ Q .next (setL (setL r i X) j Y) H1)) : WS c r H (.Assign [.Tuple [.Name x px, .Name y py] k tp] (.Tuple [a, b] k' vp) p) Q :=
 WS_tuple [i, j] (.cons (.cons .nil)) rfl (hn2 hL h1 h2) (.inl rfl) rfl hst hca (by simp; exact hij) fun s m p I E => wpAny_mono (h s m p I E) (fun vs s' ⟨Xs, H', a1, a2, a3, X, Y, e, q⟩ => ⟨Xs, H', a1, a2, a3, by rw [e]; rfl, by rw [e]; exact q⟩) fun _ _ e => e
theorem WS_tup3 (i j l : Nat) {x y z : Str} {px py pz : Pos} {a b d : Expr} {k k' : Nat} {tp vp p : Pos} (hL : c.names = L) (h1 : L[i]? = some x) (h2 : L[j]? = some y) (h3 : L[l]? = some z) (hij : [i, j, l].Nodup) (hst : wfW [a, b, d] = false) (hca : [a, b, d].all (constantsAlone 8) = false)
 (h : WL c r H [a, b, d] (fun Xs H1 => ∃ X Y Z, Xs = [X, Y, Z] ∧ Q .next (setL (setL (setL r i X) j Y) l Z) H1)) : WS c r H (.Assign [.Tuple [.Name x px, .Name y py, .Name z pz] k tp] (.Tuple [a, b, d] k' vp) p) Q :=
 WS_tuple [i, j, l] (.cons (.cons (.cons .nil))) rfl (hn3 hL h1 h2 h3) (.inr rfl) rfl hst hca hij fun s m p I E => wpAny_mono (h s m p I E) (fun vs s' ⟨Xs, H', a1, a2, a3, X, Y, Z, e, q⟩ => ⟨Xs, H', a1, a2, a3, by rw [e]; rfl, by rw [e]; exact q⟩) fun _ _ e => e
theorem WS_tup2c (i j : Nat) {x y : Str} {px py : Pos} {a b : Expr} {k k' : Nat} {tp vp p : Pos} (hL : c.names = L) (h1 : L[i]? = some x) (h2 : L[j]? = some y) (hst : wfW [a, b] = false) (hf : [a, b].all (foldedForSure 8) = true)
 (h : WL c r H [a, b] (fun Xs H1 => ∃ X Y, Xs = [X, Y] ∧ Q .next (setL (setL r i X) j Y) H1)) : WS c r H (.Assign [.Tuple [.Name x px, .Name y py] k tp] (.Tuple [a, b] k' vp) p) Q :=
 WS_tuple0 [i, j] (.cons (.cons .nil)) rfl (hn2 hL h1 h2) (.inl rfl) rfl hst hf fun s m p I E => wpAny_mono (h s m p I E) (fun vs s' ⟨Xs, H', a1, a2, a3, X, Y, e, q⟩ => ⟨Xs, H', a1, a2, a3, by rw [e]; rfl, by rw [e]; exact q⟩) fun _ _ e => e
end
section
variable {c : Cx} {r : Loc} {H : AH} {Q : V → AH → Prop}
inductive LyQ (Q : AH → Prop) (X : V) (H1 : AH) : Prop
 | mk (a dx : Addr) (Xs : List V) (e : X = .ref a) (h1 : H1 a = some (.inst 461 dx)) (h2 : H1 dx = some (.fields zaX Xs)) (q : Q H1)
theorem lyq {Q : AH → Prop} {a dx : Addr} {Xs : List V} (h1 : H a = some (.inst 461 dx)) (h2 : H dx = some (.fields zaX Xs)) (h : Q H) : LyQ Q (.ref a) H := ⟨a, dx, Xs, rfl, h1, h2, h⟩
theorem WE_LAYERS {e : Expr} {p : Pos} (h : WE c r H e (LyQ (Q (.ref 438))))
 (he : eval (.Attribute e "LAYERS" p) c.env = (do
  let o ← eval e c.env
  standAt p.atName
  let r ← holding [o] (getAttr o "LAYERS" true)
  letTemporaryGo e o r
  pure r)) : WE c r H (.Attribute e "LAYERS" p) Q :=
 WE_clsattr (fun s m I E => (h s m I E).mono fun X H1 ⟨a, dx, Xs, e1, h1, h2, q⟩ => ⟨a, 461, dx, zaX, Xs, _, .ref 438, e1, h1, h2, attr_LAYERS, fun _ => rfl, q⟩) he
theorem WE_TREE {e : Expr} {p : Pos} (h : WE c r H e (LyQ (Q (.int 4))))
 (he : eval (.Attribute e "TREE" p) c.env = (do
  let o ← eval e c.env
  standAt p.atName
  let r ← holding [o] (getAttr o "TREE" true)
  letTemporaryGo e o r
  pure r)) : WE c r H (.Attribute e "TREE" p) Q := by
 obtain ⟨v, hv, hr⟩ := attr_TREE (P := c.G.w.params)
 exact WE_clsattr (fun s m I E => (h s m I E).mono fun X H1 ⟨a, dx, Xs, e1, h1, h2, q⟩ => ⟨a, 461, dx, zaX, Xs, v, .int 4, e1, h1, h2, hv, hr, q⟩) he
end
set_option tactic.hygienic true
noncomputable def inN (l : List Nat) (n : Nat) : Bool := l.any (Nat.beq n)
noncomputable def plainO (e : Expr) : Bool := inN [20, 21, 23] e.ctorIdx
theorem plainO_base {o : Expr} (h : plainO o = true) (x : Str) (env : Env) (t : Sem Value) : attributeBase o x env t = t := by
 cases o <;> first | rfl | cases h
theorem att_eq {o : Expr} (h : plainO o = true) (x : Str) (p : Pos) (env : Env) : eval (.Attribute o x p) env = (do
 let ov ← eval o env
 standAt p.atName
 let r ← holding [ov] (getAttr ov x true)
 letTemporaryGo o ov r
 pure r) := by
 show (do
  let ov ← attributeBase o x env (eval o env)
  standAt p.atName
  let r ← holding [ov] (getAttr ov x true)
  letTemporaryGo o ov r
  pure r) = _
 rw [plainO_base h]
theorem mcp {o : Expr} {env : Env} {ap p : Pos} (h2 : (ap.endLine == p.line) = true) : methodCallPos true o env ap p = pure p := by
 unfold methodCallPos
 exact if_pos h2
theorem meth_eq {o : Expr} {x : Str} {ap p : Pos} {es : List Expr} {env : Env} (h : plainO o = true) (h2 : (ap.endLine == p.line) = true)
 (hf : methodCallForm (es.length + 0) (backTo p (starEach es env)) (backToKw p (keywordEach [] env)) = true) : eval (.Call (.Attribute o x ap) es [] p) env = (do
  let ov ← eval o env
  standAt ap.atName
  let (f, first) ← holding [ov] (getMethod ov x (do return (← importBound o env).getD true))
  callWith p f first (backTo p (starEach es env)) []) := by
 show (do
  let ov ← attributeBase o x env (eval o env)
  standAt ap.atName
  methodCall o x ap p env ov (es.length + ([] : List Keyword).length) (backTo p (starEach es env)) (backToKw p (keywordEach [] env))) = _
 rw [plainO_base h]
 unfold methodCall
 rw [show es.length + ([] : List Keyword).length = es.length + 0 from rfl, hf]
 rw [mcp h2]
 rfl
noncomputable def lE : List Nat → List Nat → Bool
 | [], [] => true
 | a :: x, b :: y => match Nat.beq a b with | true => lE x y | false => false
 | _, _ => false
theorem lE_eq {x : List Nat} : ∀ {y : List Nat}, lE x y = true → x = y := by
 induction x with
 | nil => intro y h; cases y with
  | nil => rfl
  | cons _ _ => cases h
 | cons a x ih =>
  intro y h
  cases y with
  | nil => cases h
  | cons b y =>
   unfold lE at h
   cases q : Nat.beq a b with
   | false => rw [q] at h; cases h
   | true => rw [q] at h; rw [Nat.eq_of_beq_eq_true q, ih h]
noncomputable def sE (a b : Str) : Bool := lE a.cps.toList b.cps.toList
theorem sE_eq {a b : Str} (h : sE a b = true) : a = b := by
 have := lE_eq h
 cases a; cases b
 rw [Array.toList_inj] at this
 simpa using this
theorem sE_ne {a b : Str} (h : sE a b = false) : (a == b) = false := by
 apply Bool.eq_false_iff.mpr
 intro q
 rw [eq_of_beq q] at h
 have : ∀ l : List Nat, lE l l = true := fun l => by
  induction l with
  | nil => rfl
  | cons a l ih => show (match Nat.beq a a with | true => lE l l | false => false) = true; rw [Nat.beq_refl]; exact ih
 rw [show sE b b = true from this _] at h
 cases h
noncomputable def ixA : List Str → Str → Nat → Option Nat
 | [], _, _ => none
 | y :: l, x, n => match sE y x with
  | true => some n
  | false => ixA l x (n + 1)
noncomputable def ixS (l : List Str) (x : Str) : Option Nat := ixA l x 0
theorem ixA_ok {l : List Str} {x : Str} : ∀ {n i : Nat}, ixA l x n = some i → ∃ j, i = n + j ∧ l[j]? = some x := by
 induction l with
 | nil => intro n i h; cases h
 | cons y l ih =>
  intro n i h
  unfold ixA at h
  cases q : sE y x with
  | true => rw [q] at h; cases h; exact ⟨0, rfl, by rw [sE_eq q]; rfl⟩
  | false =>
   rw [q] at h
   obtain ⟨j, e, k⟩ := ih h
   exact ⟨j + 1, by rw [e]; omega, k⟩
theorem wiY {l : List Str} {x : Str} {i : Nat} (h : ixS l x = some i) : l[i]? = some x := by
 obtain ⟨j, e, k⟩ := ixA_ok h
 rw [e, Nat.zero_add]; exact k
noncomputable def asS {α : Type} : List (Str × α) → Str → Option α
 | [], _ => none
 | (y, a) :: l, x => match sE y x with
  | true => some a
  | false => asS l x
noncomputable def tE (x : Str) (v : Value) (l : List (Str × Value)) : List (Str × Value) := (x, v) :: l
noncomputable def tabF : List (Str × Value) :=
 tE "_law_take" (.ref 485) <|
 tE "len" (.builtin "len") <|
 tE "range" (.type "range") <|
 tE "min" (.builtin "min") <|
 tE "max" (.builtin "max") <|
 tE "bytes" (.type "bytes") <|
 tE "list" (.type "list") <|
 tE "step_size" (.ref 68) <|
 tE "check_range" (.ref 61) <|
 tE "Trail" (.ref 104) <|
 tE "Ways" (.ref 146) <|
 tE "slot_of" (.ref 172) <|
 tE "PlaceRow" (.ref 246) <|
 tE "greedy" (.ref 115) <|
 tE "least" (.ref 158) <|
 tE "price_of" (.ref 165) <|
 tE "finder_for" (.ref 471) <|
 tE "FlatPrice" (.ref 204) <|
 tE "Finder" (.ref 380) <|
 tE "TreeFinder" (.ref 428) <|
 tE "LayeredFinder" (.ref 461) <|
 tE "_law_box" (.ref 478) <|
 tE "_law_row" (.ref 490) <|
 tE "_law_words" (.ref 495) <|
 tE "_law_joined" (.ref 502) <|
 tE "_law_finder" (.ref 509) <|
 tE "_law_plays" (.ref 516) <|
 tE "_law_bits" (.ref 523) <|
 tE "_law_cost" (.ref 530) <|
 tE "_law_word_cost" (.ref 535) <|
 tE "_law_due" (.ref 542) <|
 tE "_law_mapped" (.ref 549) <|
 tE "_law_told" (.ref 556) <|
 tE "_law_map_right" (.ref 561) <|
 tE "_law_one" (.ref 568) <|
 tE "_law_again_right" (.ref 573) <|
 []
noncomputable def TabOk (w : World) : List (Str × Value) → Prop
 | [] => True
 | p :: l => (Nam w p.1 p.2 ∧ Kep w.params p.2) ∧ TabOk w l
theorem TabOk.at {w : World} {x : Str} {v : Value} {l : List (Str × Value)} (t : TabOk w l) (h : asS l x = some v) : Nam w x v ∧ Kep w.params v := by
 induction l with
 | nil => cases h
 | cons p l ih =>
  unfold asS at h
  cases q : sE p.1 x with
  | true => rw [q] at h; cases h; rw [← sE_eq q]; exact t.1
  | false => rw [q] at h; exact ih t.2 h
theorem tabF_all (w : World) : TabOk w tabF :=
 ⟨⟨nam_law_take, kep_law_take⟩, ⟨⟨nam_len, trivial⟩, ⟨⟨nam_range, trivial⟩, ⟨⟨nam_min, trivial⟩, ⟨⟨nam_max, trivial⟩, ⟨⟨nam_bytes, trivial⟩, ⟨⟨nam_list, trivial⟩, ⟨⟨nam_step_size, kep_step_size⟩, ⟨⟨nam_check_range, kep_check_range⟩, ⟨⟨nam_Trail, kep_Trail⟩, ⟨⟨nam_Ways, kep_Ways⟩, ⟨⟨nam_slot_of, kep_slot_of⟩, ⟨⟨nam_PlaceRow, kep_PlaceRow⟩, ⟨⟨nam_greedy, kep_greedy⟩, ⟨⟨nam_least, kep_least⟩, ⟨⟨nam_price_of, kep_price_of⟩, ⟨⟨nam_finder_for, kep_finder_for⟩, ⟨⟨nam_FlatPrice, kep_FlatPrice⟩, ⟨⟨nam_Finder, kep_Finder⟩, ⟨⟨nam_TreeFinder, kep_TreeFinder⟩, ⟨⟨nam_LayeredFinder, kep_LayeredFinder⟩, ⟨⟨nam_law_box, kep_law_box⟩, ⟨⟨nam_law_row, kep_law_row⟩, ⟨⟨nam_law_words, kep_law_words⟩, ⟨⟨nam_law_joined, kep_law_joined⟩, ⟨⟨nam_law_finder, kep_law_finder⟩, ⟨⟨nam_law_plays, kep_law_plays⟩, ⟨⟨nam_law_bits, kep_law_bits⟩, ⟨⟨nam_law_cost, kep_law_cost⟩, ⟨⟨nam_law_word_cost, kep_law_word_cost⟩, ⟨⟨nam_law_due, kep_law_due⟩, ⟨⟨nam_law_mapped, kep_law_mapped⟩, ⟨⟨nam_law_told, kep_law_told⟩, ⟨⟨nam_law_map_right, kep_law_map_right⟩, ⟨⟨nam_law_one, kep_law_one⟩, ⟨⟨nam_law_again_right, kep_law_again_right⟩, trivial⟩⟩⟩⟩⟩⟩⟩⟩⟩⟩⟩⟩⟩⟩⟩⟩⟩⟩⟩⟩⟩⟩⟩⟩⟩⟩⟩⟩⟩⟩⟩⟩⟩⟩⟩⟩
noncomputable def tabV : List (Str × Int) := [("NOWHERE", -1), ("LEAST_MATCH", 2)]
theorem tabV_ok {w : World} {x : Str} {i : Int} (h : asS tabV x = some i) : ∃ v, Nam w x v ∧ ∀ h, Rep h v (.int i) := by
 unfold tabV asS at h
 cases q : sE "NOWHERE" x with
 | true => rw [q] at h; cases h; rw [← sE_eq q]; exact nam_NOWHERE
 | false =>
  rw [q] at h
  unfold asS at h
  cases q : sE "LEAST_MATCH" x with
  | true => rw [q] at h; cases h; rw [← sE_eq q]; exact nam_LEAST_MATCH
  | false => rw [q] at h; cases h
noncomputable def memS (l : List Str) (x : Str) : Bool := match ixS l x with | some _ => true | none => false
theorem memS_ok {l : List Str} {x : Str} (h : memS l x = true) : x ∈ l := by
 unfold memS at h
 cases q : ixS l x with
 | none => rw [q] at h; cases h
 | some i => exact List.mem_of_getElem? (wiY q)
noncomputable abbrev EF := Expr → Loc → AH → (V → AH → Prop) → Prop
noncomputable abbrev TF := Expr → Loc → AH → (Bool → AH → Prop) → Prop
structure St (p : Prop) : Prop where
 of :: go : p
noncomputable def wL (f : EF) : List Expr → Loc → AH → (List V → AH → Prop) → Prop
 | [], _, H, k => k [] H
 | e :: es, r, H, k => f e r H fun X H1 => wL f es r H1 fun Xs => k (X :: Xs)
noncomputable def two (X Y : V) (p : Int → Int → Prop) (q : Prop) : Prop := match X with
 | .int i => (match Y with
  | .int j => p i j
  | _ => q)
 | _ => q
theorem two_ok {X Y : V} {p : Int → Int → Prop} {q s : Prop} (h : two X Y p q) (h1 : ∀ i j, X = .int i → Y = .int j → p i j → s) (h2 : q → s) : s := by
 cases X <;> first | exact h2 h | skip
 cases Y <;> first | exact h2 h | skip
 exact h1 _ _ rfl rfl h
noncomputable def bo (G : Gd) (op : Operator) (X Y : V) (H : AH) (k : V → AH → Prop) : Prop := match op with
 | .Add => two X Y (fun i j => k (.int (i + j)) H) (St (BO G op X Y H k))
 | .Sub => two X Y (fun i j => k (.int (i - j)) H) (St (BO G op X Y H k))
 | _ => St (BO G op X Y H k)
theorem bo_ok {G : Gd} {op : Operator} {X Y : V} {H : AH} {k : V → AH → Prop} (h : bo G op X Y H k) : BO G op X Y H k := by
 cases op <;> first | exact h.go | skip
 ·exact two_ok h (fun i j e e' q => by subst e e'; exact BO_add q) fun q => q.go
 ·exact two_ok h (fun i j e e' q => by subst e e'; exact BO_sub q) fun q => q.go
noncomputable def coN (X Y : V) (k : Bool → Prop) (q : Prop) : Prop := match Y with
 | .none => (match X with
  | .int _ => k false
  | .none => k true
  | _ => q)
 | _ => q
theorem coN_ok {X Y : V} {k : Bool → Prop} {q s : Prop} (h : coN X Y k q) (h1 : ∀ i, X = .int i → Y = .none → k false → s) (h2 : X = .none → Y = .none → k true → s) (h3 : q → s) : s := by
 cases Y <;> first | exact h3 h | skip
 cases X <;> first | exact h3 h | skip
 ·exact h2 rfl rfl h
 ·exact h1 _ rfl rfl h
noncomputable def coE (G : Gd) (X Y : V) (H : AH) (k : Bool → AH → Prop) : Prop := match X with
 | .pr a b => (match Y with
  | .pr e f => k (decide (a = e ∧ b = f)) H
  | _ => St (CO G .Eq X Y H k))
 | .bytes l => (match Y with
  | .bytes l' => k (decide (l = l')) H
  | _ => St (CO G .Eq X Y H k))
 | .str x => (match Y with
  | .str y => k (x == y) H
  | _ => St (CO G .Eq X Y H k))
 | _ => St (CO G .Eq X Y H k)
theorem coE_ok {G : Gd} {X Y : V} {H : AH} {k : Bool → AH → Prop} (h : coE G X Y H k) : CO G .Eq X Y H k := by
 cases X <;> first | exact h.go | skip
 ·cases Y <;> first | exact h.go | skip
  exact CO_eqstr h
 ·cases Y <;> first | exact h.go | skip
  exact CO_eqbytes h
 ·cases Y <;> first | exact h.go | skip
  exact CO_eqpr h
noncomputable def co (G : Gd) (op : CmpOp) (X Y : V) (H : AH) (k : Bool → AH → Prop) : Prop := match op with
 | .Lt => two X Y (fun i j => k (decide (i < j)) H) (St (CO G op X Y H k))
 | .Gt => two X Y (fun i j => k (decide (j < i)) H) (St (CO G op X Y H k))
 | .LtE => two X Y (fun i j => k (decide (i ≤ j)) H) (St (CO G op X Y H k))
 | .GtE => two X Y (fun i j => k (decide (j ≤ i)) H) (St (CO G op X Y H k))
 | .Eq => two X Y (fun i j => k (decide (i = j)) H) (coE G X Y H k)
 | .NotEq => two X Y (fun i j => k (decide (i ≠ j)) H) (St (CO G op X Y H k))
 | .Is => coN X Y (fun b => k b H) (St (CO G op X Y H k))
 | .IsNot => coN X Y (fun b => k (!b) H) (St (CO G op X Y H k))
 | _ => St (CO G op X Y H k)
theorem co_ok {G : Gd} {op : CmpOp} {X Y : V} {H : AH} {k : Bool → AH → Prop} (h : co G op X Y H k) : CO G op X Y H k := by
 cases op <;> first | exact h.go | skip
 ·exact two_ok h (fun i j e e' q => by subst e e'; exact CO_eq q) coE_ok
 ·exact two_ok h (fun i j e e' q => by subst e e'; exact CO_ne q) fun q => q.go
 ·exact two_ok h (fun i j e e' q => by subst e e'; exact CO_lt q) fun q => q.go
 ·exact two_ok h (fun i j e e' q => by subst e e'; exact CO_le q) fun q => q.go
 ·exact two_ok h (fun i j e e' q => by subst e e'; exact CO_gt q) fun q => q.go
 ·exact two_ok h (fun i j e e' q => by subst e e'; exact CO_ge q) fun q => q.go
 ·exact coN_ok (k := fun b => k b H) h (fun i e e' q => by subst e e'; exact CO_is_i q) (fun e e' q => by subst e e'; exact CO_is_n q) fun q => q.go
 ·exact coN_ok (k := fun b => k (!b) H) h (fun i e e' q => by subst e e'; exact CO_nt_i q) (fun e e' q => by subst e e'; exact CO_nt_n q) fun q => q.go
noncomputable def gi2 (i j : Int) (n : Nat) (H : AH) (k : V → AH → Prop) (q : Prop) : Prop := match n with
 | 0 => k (.int i) H
 | 1 => k (.int j) H
 | _ => q
noncomputable def gi (G : Gd) (X Y : V) (H : AH) (k : V → AH → Prop) : Prop := match X with
 | .pr i j => (match Y with
  | .int (.ofNat n) => gi2 i j n H k (St (GI G X Y H k))
  | _ => St (GI G X Y H k))
 | _ => St (GI G X Y H k)
theorem gi_ok {G : Gd} {X Y : V} {H : AH} {k : V → AH → Prop} (h : gi G X Y H k) : GI G X Y H k := by
 cases X <;> first | exact h.go | skip
 cases Y <;> first | exact h.go | skip
 rename_i i j z
 cases z with
 | negSucc _ => exact h.go
 | ofNat n =>
  rcases n with _ | _ | n
  ·exact GI_pr0 h
  ·exact GI_pr1 h
  ·exact h.go
theorem GM_inst {G : Gd} {H : AH} {a C dx f : Addr} {N : List Str} {Xs : List V} {x : Str} (q1 : H a = some (.inst C dx)) (q2 : H dx = some (.fields N Xs)) (F : wbV G.w.params C N x f) : GM G (.ref a) x (.ref f) H := fun A s v pl R _ I rv h => by
 cases rv
 obtain ⟨es', n, hd, fr⟩ := I.own dx _ q2
 have X := G.KI.keeps I.base
 refine method_fn X (instAt_of (w := G.w) (I.own a _ q1) hd) (plainGet_of F.cls.hg).1 (plainGet_of F.cls.hg).2 F.hf (beq_iff_eq.mp F.ht) ?_ h
 show (lookIn x (dictOf es' n)).map _ = _
 rw [lookIn_dict, fr.miss F.nm]; rfl
noncomputable def MtQ (c : Cx) (x : Str) (K : Value → V → AH → Prop) (X : V) (H : AH) : Prop := ∃ f, GM c.G X x f H ∧ Kep c.G.w.params f ∧ K f X H
noncomputable def wfY : List Expr → Bool
 | [] => true
 | e :: es => !(Nat.beq e.ctorIdx 22) && wfY es
theorem noStar_cons {e : Expr} {es : List Expr} {env : Env} (h : wfY (e :: es) = true) : starEach (e :: es) env = (false, eval e env) :: starEach es env ∧ wfY es = true := by
 cases e <;> first | cases h | exact ⟨rfl, h⟩
theorem noStar_all {es : List Expr} {env : Env} (f : Bool × Sem Value → Bool) (hf : ∀ t, f (false, t) = true) : wfY es = true → (starEach es env).all f = true := by
 induction es with
 | nil => intro _; rfl
 | cons e es ih =>
  intro h
  obtain ⟨h1, h2⟩ := noStar_cons (env := env) h
  rw [h1, List.all_cons, hf, ih h2]; rfl
theorem noStar_ok {es : List Expr} {env : Env} (h : wfY es = true) : (starEach es env).all (fun x => !x.1) = true := noStar_all _ (fun _ => rfl) h
noncomputable def notComp (e : Expr) : Bool := !(inN [8, 9, 10] e.ctorIdx)
theorem notComp_ok {v : Expr} {t : Option Expr} {l : Nat} {env : Env} (h : notComp v = true) : swapsWith v t l env = pure false := by
 cases v <;> first | rfl | cases h
noncomputable def mCall (o : Expr) (ap p : Pos) (es : List Expr) : Bool := plainO o && Nat.beq ap.endLine p.line && wfY es && Nat.blt es.length 30
theorem mCall_ok {o : Expr} {ap p : Pos} {es : List Expr} (h : mCall o ap p es = true) (x : Str) (env : Env) : wfY es = true ∧ eval (.Call (.Attribute o x ap) es [] p) env = (do
 let ov ← eval o env
 standAt ap.atName
 let (f, first) ← holding [ov] (getMethod ov x (do return (← importBound o env).getD true))
 callWith p f first (backTo p (starEach es env)) []) := by
 obtain ⟨h, h4⟩ := Bool.and_eq_true_iff.mp h
 obtain ⟨h, h3⟩ := Bool.and_eq_true_iff.mp h
 obtain ⟨h1, h2⟩ := Bool.and_eq_true_iff.mp h
 refine ⟨h3, meth_eq h1 (beq_iff_eq.mpr (Nat.eq_of_beq_eq_true h2)) ?_⟩
 have q : ((backTo p (starEach es env)).all fun x => !x.1) = true := by
  unfold backTo
  rw [List.all_map]
  exact noStar_all _ (fun _ => rfl) h3
 unfold methodCallForm
 rw [q]
 exact decide_eq_true (show es.length + 0 + 0 < 30 from Nat.le_of_ble_eq_true h4)
inductive Tgt where
 | nm (x : Str) (p : Pos)
 | sub (o i : Expr) (p : Pos)
 | tup (ts : List Expr) (k : Nat) (p : Pos)
 | att (o : Expr) (x : Str) (p : Pos)
 | sl (lo hi st : Option Expr) (p : Pos)
 | no
noncomputable def tgt : Expr → Tgt
 | .Name x p => .nm x p
 | .Subscript o i p => .sub o i p
 | .Tuple ts k p => .tup ts k p
 | .Attribute o x p => .att o x p
 | .Slice lo hi st p => .sl lo hi st p
 | _ => .no
noncomputable def TgtOk (e : Expr) : Tgt → Prop
 | .nm x p => e = .Name x p
 | .sub o i p => e = .Subscript o i p
 | .tup ts k p => e = .Tuple ts k p
 | .att o x p => e = .Attribute o x p
 | .sl lo hi st p => e = .Slice lo hi st p
 | .no => True
theorem tgt_ok (e : Expr) : TgtOk e (tgt e) := by
 cases e <;> first | trivial | rfl
theorem tgt_of {e : Expr} {t : Tgt} (h : tgt e = t) : TgtOk e t := h ▸ tgt_ok e
noncomputable def nmOf (e : Expr) : Option Str := match tgt e with
 | .nm x _ => some x
 | _ => none
theorem nmOf_ok {e : Expr} {x : Str} (h : nmOf e = some x) : ∃ p, e = .Name x p := by
 unfold nmOf at h
 cases q : tgt e with
 | nm y p => rw [q] at h; cases h; exact ⟨p, tgt_of q⟩
 | _ => rw [q] at h; cases h
noncomputable def isCls (e : Expr) : Bool := match nmOf e with
 | some x => sE x "Matcher"
 | none => false
theorem isCls_ok {e : Expr} (h : isCls e = true) : ∃ p, e = .Name "Matcher" p := by
 unfold isCls at h
 cases q : nmOf e with
 | none => rw [q] at h; cases h
 | some x => rw [q] at h; cases sE_eq h; exact nmOf_ok q
noncomputable def lkR : List (Option V) → Nat → Option V
 | [], _ => none
 | x :: r, n => (match n with
  | 0 => x
  | n + 1 => lkR r n)
theorem lkR_ok {r : List (Option V)} : ∀ {i : Nat} {X : V}, lkR r i = some X → r[i]? = some (some X) := by
 induction r with
 | nil => intro i X h; cases h
 | cons x r ih =>
  intro i X h
  cases i with
  | zero => exact congrArg some h
  | succ i => exact ih h
section
variable (c : Cx) (L Lg : List Str) (f : EF) (g : TF)
noncomputable def stName (x : Str) (p : Pos) (r : Loc) (H : AH) (k : V → AH → Prop) : Prop := match sE x "__debug__" with
 | true => False
 | false => (match ixS L x with
  | some i => (match lkR r i with
   | some X => k X H
   | none => False)
  | none => (match memS Lg x with
   | true => (match asS tabV x with
    | some i => k (.int i) H
    | none => St (WE c r H (.Name x p) k))
   | false => St (WE c r H (.Name x p) k)))
noncomputable def stConst (v : Const) (n : Nat) (p : Pos) (r : Loc) (H : AH) (k : V → AH → Prop) : Prop := match v with
 | .int i => k (.int i) H
 | .none => k .none H
 | .bool b => k (.bool b) H
 | .str x => k (.str x) H
 | .bytes x => k (.bytes x) H
 | v => St (WE c r H (.Constant v n p) k)
noncomputable def stCmp (a : Expr) (ops : List CmpOp) (bs : List Expr) (p : Pos) (r : Loc) (H : AH) (k : V → AH → Prop) : Prop := match ops with
 | [op] => (match bs with
  | [b] => (match behindInMarks op b with
   | true => False
   | false => f a r H fun X H1 => f b r H1 fun Y H2 => co c.G op X Y H2 fun z => k (.bool z))
  | _ => False)
 | _ => False
noncomputable def stUn (op : UnaryOp) (a : Expr) (r : Loc) (H : AH) (k : V → AH → Prop) : Prop := match op with
 | .USub => f a r H fun X H1 => (match X with
  | .int i => k (.int (-i)) H1
  | _ => False)
 | _ => False
noncomputable def stBool (op : BoolOp) (xs : List Expr) (r : Loc) (H : AH) (k : V → AH → Prop) : Prop := match xs with
 | [a, b] => (match op with
  | .And => f a r H fun X H1 => (match X with
   | .bool z => if z = true then f b r H1 k else k (.bool false) H1
   | _ => False)
  | .Or => f a r H fun X H1 => (match X with
   | .bool z => if z = true then k (.bool true) H1 else f b r H1 k
   | _ => False))
 | _ => False
noncomputable def wO (o : Option Expr) (r : Loc) (H : AH) (k : Option Int → AH → Prop) : Prop := match o with
 | none => k none H
 | some e => f e r H fun X H1 => (match X with
  | .int i => k (some i) H1
  | _ => False)
noncomputable def stSub (v s : Expr) (r : Loc) (H : AH) (k : V → AH → Prop) : Prop := match tgt s with
 | .sl lo hi st _ => f v r H fun o H1 => wO f lo r H1 fun a H2 => wO f hi r H2 fun b H3 => wO f st r H3 fun t H4 => St (SL c.G o a b t H4 k)
 | _ => f v r H fun o H1 => f s r H1 fun i H2 => gi c.G o i H2 k
noncomputable def stList (es : List Expr) (r : Loc) (H : AH) (k : V → AH → Prop) : Prop := match wfY es with
 | true => wL f es r H fun Xs H1 => Xs.length ≤ szL ∧ ∀ a, H1 a = none → k (.ref a) (upd H1 a (.list Xs))
 | false => False
noncomputable def pair (Xs : List V) (k : V → Prop) : Prop := match Xs with
 | [X, Y] => two X Y (fun i j => k (.pr i j)) False
 | _ => False
noncomputable def stTup (es : List Expr) (r : Loc) (H : AH) (k : V → AH → Prop) : Prop := match wfY es with
 | true => wL f es r H fun Xs H1 => pair Xs fun Z => k Z H1
 | false => False
noncomputable def stDict (ks : List (Option Expr)) (vs : List Expr) (p : Pos) (r : Loc) (H : AH) (k : V → AH → Prop) : Prop := match ks with
 | [] => (match vs with
  | [] => ∀ a, H a = none → k (.ref a) (upd H a (.idict 0 fun _ => none))
  | _ => False)
 | _ => False
noncomputable def stFn (x : Str) (es : List Expr) (r : Loc) (H : AH) (k : V → AH → Prop) : Prop := match memS Lg x && wfY es with
 | true => (match asS tabF x with
  | some v => wL f es r H fun Xs H1 => St (wgV c.G c.k v Xs H1 k)
  | none => False)
 | false => False
noncomputable def stMeth (o : Expr) (x : Str) (ap : Pos) (es : List Expr) (p : Pos) (r : Loc) (H : AH) (k : V → AH → Prop) : Prop := match isCls o with
 | true => (match mCall o ap p es && sE x "__init__" && memS Lg "Matcher" with
  | true => wL f es r H fun Xs H1 => St (wgV c.G c.k (.ref 264) Xs H1 k)
  | false => False)
 | false => (match mCall o ap p es with
  | true => f o r H fun X H1 => St (MtQ c x (fun v X H1 => wL f es r H1 fun Ys H2 => St (wgV c.G c.k v (X :: Ys) H2 k)) X H1)
  | false => False)
noncomputable def stCall (fn : Expr) (es : List Expr) (ks : List Keyword) (p : Pos) (r : Loc) (H : AH) (k : V → AH → Prop) : Prop := match ks with
 | [] => (match tgt fn with
  | .nm x _ => stFn c Lg f x es r H k
  | .att o x ap => stMeth c Lg f o x ap es p r H k
  | _ => St (WE c r H (.Call fn es [] p) k))
 | ks => St (WE c r H (.Call fn es ks p) k)
noncomputable def stAtt (o : Expr) (x : Str) (p : Pos) (r : Loc) (H : AH) (k : V → AH → Prop) : Prop := match plainO o with
 | true => (match sE x "LAYERS" with
  | true => f o r H fun X H1 => St (LyQ (k (.ref 438)) X H1)
  | false => (match sE x "TREE" with
   | true => f o r H fun X H1 => St (LyQ (k (.int 4)) X H1)
   | false => f o r H fun X H1 => St (AtQ c.G.w.params x k X H1)))
 | false => St (WE c r H (.Attribute o x p) k)
noncomputable def stepE (e : Expr) (r : Loc) (H : AH) (k : V → AH → Prop) : Prop := match e with
 | .Name x p => stName c L Lg x p r H k
 | .Constant v n p => stConst c v n p r H k
 | .BinOp a op b _ => f a r H fun X H1 => f b r H1 fun Y H2 => bo c.G op X Y H2 k
 | .Compare a ops bs p => stCmp c f a ops bs p r H k
 | .UnaryOp op a _ => stUn f op a r H k
 | .IfExp t a b _ => g t r H fun z H1 => if z = true then f a r H1 k else f b r H1 k
 | .BoolOp op xs _ => stBool f op xs r H k
 | .Subscript v s _ => stSub c f v s r H k
 | .List es _ => stList f es r H k
 | .Tuple es _ _ => stTup f es r H k
 | .Dict ks vs p => stDict ks vs p r H k
 | .Call fn es ks p => stCall c Lg f fn es ks p r H k
 | .Attribute o x p => stAtt c f o x p r H k
 | e => St (WE c r H e k)
noncomputable def wAnd : List Expr → Loc → AH → (Bool → AH → Prop) → Prop
 | [], _, H, k => k true H
 | x :: xs, r, H, k => g x r H fun b H1 => if b = true then wAnd xs r H1 k else k false H1
noncomputable def wOr : List Expr → Loc → AH → (Bool → AH → Prop) → Prop
 | [], _, H, k => k false H
 | x :: xs, r, H, k => g x r H fun b H1 => if b = true then k true H1 else wOr xs r H1 k
noncomputable def stCmpT (a : Expr) (ops : List CmpOp) (bs : List Expr) (r : Loc) (H : AH) (k : Bool → AH → Prop) : Prop := match ops with
 | [op] => (match bs with
  | [b] => (match behindInMarks op b with
   | true => False
   | false => f a r H fun X H1 => f b r H1 fun Y H2 => co c.G op X Y H2 k)
  | _ => False)
 | [o1, o2] => (match bs with
  | [e1, e2] => (match lastMarks [o1, o2] [e1, e2] with
   | true => False
   | false => f a r H fun X H1 => f e1 r H1 fun Y H2 => co c.G o1 X Y H2 fun z H3 => if z = true then f e2 r H3 fun Z H4 => co c.G o2 Y Z H4 k else k false H3)
  | _ => False)
 | _ => False
noncomputable def plainT (e : Expr) : Bool := !(inN [0, 3, 5, 15] e.ctorIdx)
theorem plainT_ok {e : Expr} {env : Env} (h : plainT e = true) : isTrue e env (eval e env) = (do let v ← eval e env; standAt e.pos; holding [v] (truthy v)) := by
 cases e <;> first | rfl | cases h
noncomputable def stepT (e : Expr) (r : Loc) (H : AH) (k : Bool → AH → Prop) : Prop := match e with
 | .Compare a ops bs _ => stCmpT c f a ops bs r H k
 | .UnaryOp op x p => (match op with
  | .Not => g x r H fun b => k (!b)
  | op => St (WT c r H (.UnaryOp op x p) k))
 | .BoolOp op xs _ => (match op with
  | .And => wAnd g xs r H k
  | .Or => wOr g xs r H k)
 | e => (match plainT e with
  | true => f e r H fun X H1 => (match X with
   | .bool b => k b H1
   | _ => False)
  | false => St (WT c r H e k))
end
structure Nm where
 L : List Str
 g : List Str
mutual
noncomputable def wE (c : Cx) (N : Nm) : Nat → EF
 | 0 => fun e r H k => WE c r H e k
 | n + 1 => stepE c N.L N.g (wE c N n) (wT c N n)
noncomputable def wT (c : Cx) (N : Nm) : Nat → TF
 | 0 => fun e r H k => WT c r H e k
 | n + 1 => stepT c (wE c N n) (wT c N n)
end
theorem WE.mono' {c : Cx} {r : Loc} {H : AH} {e : Expr} {k k' : V → AH → Prop} (h : WE c r H e k) (q : ∀ X H1, k X H1 → k' X H1) : WE c r H e k' := fun s m I E => (h s m I E).mono q
theorem WT.mono' {c : Cx} {r : Loc} {H : AH} {e : Expr} {k k' : Bool → AH → Prop} (h : WT c r H e k) (q : ∀ X H1, k X H1 → k' X H1) : WT c r H e k' :=
 fun s m I E => wpAny_mono (h s m I E) (fun b s' ⟨H', a, d, x⟩ => ⟨H', a, d, q b H' x⟩) fun _ _ e => e
theorem CO.mono' {G : Gd} {op : CmpOp} {X Y : V} {H : AH} {k k' : Bool → AH → Prop} (h : CO G op X Y H k) (q : ∀ X H1, k X H1 → k' X H1) : CO G op X Y H k' :=
 fun A s v u a I rv ru => (h A s v u a I rv ru).mono fun _ _ ⟨b, e, x⟩ => ⟨b, e, q _ _ x⟩
noncomputable def EOk (c : Cx) (f : EF) : Prop := ∀ e r H k, f e r H k → WE c r H e k
noncomputable def TOk (c : Cx) (g : TF) : Prop := ∀ e r H k, g e r H k → WT c r H e k
section
variable {c : Cx} {L Lg : List Str} {f : EF} {g : TF}
theorem wL_ok (F : EOk c f) {es : List Expr} : wfY es = true → ∀ {r H k}, wL f es r H k → WL c r H es k := by
 induction es with
 | nil => intro _ r H k h; exact WL_nil h
 | cons e es ih => intro hn r H k h; exact WL_cons ((F _ _ _ _ h).mono' fun X H1 q => ih (noStar_cons (env := c.env) hn).2 q) (noStar_cons hn).1
variable {r : Loc} {H : AH} {k : V → AH → Prop} {kb : Bool → AH → Prop}
theorem stName_ok (hL : c.names = L) (hg : c.gl = Lg) {x : Str} {p : Pos} (h : stName c L Lg x p r H k) : WE c r H (.Name x p) k := by
 unfold stName at h
 cases hd : sE x "__debug__" with
 | true => rw [hd] at h; exact h.elim
 | false =>
  rw [hd] at h
  cases hi : ixS L x with
  | none =>
   rw [hi] at h
   cases hm : memS Lg x with
   | false => simp only [hm] at h; exact h.go
   | true =>
    simp only [hm] at h
    cases hv : asS tabV x with
    | none => simp only [hv] at h; exact h.go
    | some i =>
     simp only [hv] at h
     obtain ⟨v, n, e⟩ := tabV_ok (w := c.G.w) hv
     obtain ⟨j, hj⟩ := List.mem_iff_getElem?.mp (memS_ok hm)
     exact WE_gl j hg hj n e h
  | some i =>
   rw [hi] at h
   cases hv : lkR r i with
   | none => simp only [hv] at h
   | some X => simp only [hv] at h; exact WE_var i hL (wiY hi) (lkR_ok hv) (sE_ne hd) h
theorem stConst_ok {v : Const} {n : Nat} {p : Pos} (h : stConst c v n p r H k) : WE c r H (.Constant v n p) k := by
 cases v <;> first | exact h.go | exact WE_int h | exact WE_none h | exact WE_bool h | exact WE_str h | exact WE_bytes h
theorem stCmp_ok (F : EOk c f) {a : Expr} {ops : List CmpOp} {bs : List Expr} {p : Pos} (h : stCmp c f a ops bs p r H k) : WE c r H (.Compare a ops bs p) k := by
 rcases ops with _ | ⟨op, _ | ⟨_, _⟩⟩ <;> first | exact h.elim | skip
 rcases bs with _ | ⟨b, _ | ⟨_, _⟩⟩ <;> first | exact h.elim | skip
 unfold stCmp at h
 cases hm : behindInMarks op b with
 | true => simp only [hm] at h
 | false =>
  simp only [hm] at h
  exact WE_cmp ((F _ _ _ _ h).mono' fun X H1 q => (F _ _ _ _ q).mono' fun Y H2 q => co_ok q) hm
theorem stUn_ok (F : EOk c f) {op : UnaryOp} {a : Expr} {p : Pos} (h : stUn f op a r H k) : WE c r H (.UnaryOp op a p) k := by
 cases op <;> first | exact h.elim | skip
 refine WE_neg ((F _ _ _ _ h).mono' fun X H1 q => ?_)
 cases X <;> first | exact q.elim | exact ⟨_, rfl, q⟩
theorem stBool_ok (F : EOk c f) {op : BoolOp} {xs : List Expr} {p : Pos} (h : stBool f op xs r H k) : WE c r H (.BoolOp op xs p) k := by
 rcases xs with _ | ⟨a, _ | ⟨b, _ | ⟨_, _⟩⟩⟩ <;> first | exact h.elim | skip
 cases op with
 | And =>
  refine WE_and2 ((F _ _ _ _ h).mono' fun X H1 q => ?_)
  cases X <;> first | exact q.elim | skip
  rename_i z
  refine ⟨z, rfl, ?_⟩
  cases z
  ·exact q
  ·exact F _ _ _ _ q
 | Or =>
  refine WE_or2 ((F _ _ _ _ h).mono' fun X H1 q => ?_)
  cases X <;> first | exact q.elim | skip
  rename_i z
  refine ⟨z, rfl, ?_⟩
  cases z
  ·exact F _ _ _ _ q
  ·exact q
theorem wO_ok (F : EOk c f) {o : Option Expr} {r : Loc} {H : AH} {k k' : Option Int → AH → Prop} (h : wO f o r H k) (q : ∀ t H1, k t H1 → k' t H1) : WO c r H o k' := by
 cases o with
 | none => exact q _ _ h
 | some e => exact (F _ _ _ _ h).mono' fun X H1 x => by cases X <;> first | exact x.elim | exact ⟨_, rfl, q _ _ x⟩
theorem stSub_ok (F : EOk c f) {v s : Expr} {p : Pos} (h : stSub c f v s r H k) : WE c r H (.Subscript v s p) k := by
 have g : (f v r H fun o H1 => f s r H1 fun i H2 => gi c.G o i H2 k) → WE c r H (.Subscript v s p) k := fun h => WE_sub ((F _ _ _ _ h).mono' fun X H1 q => (F _ _ _ _ q).mono' fun Y H2 q => gi_ok q)
 unfold stSub at h
 cases e : tgt s with
 | sl lo hi st q =>
  rw [e] at h
  cases tgt_of e
  exact WE_subsl ((F _ _ _ _ h).mono' fun o H1 q => wO_ok F q fun a H2 q => wO_ok F q fun b H3 q => wO_ok F q fun t H4 q => q.go)
 | _ => rw [e] at h; exact g h
theorem stList_ok (F : EOk c f) {es : List Expr} {p : Pos} (h : stList f es r H k) : WE c r H (.List es p) k := by
 unfold stList at h
 cases hs : wfY es with
 | true => rw [hs] at h; exact WE_list (wL_ok F hs h)
 | false => rw [hs] at h; exact h.elim
theorem pair_ok {Xs : List V} {q : V → Prop} (h : pair Xs q) : ∃ i j, Xs = [.int i, .int j] ∧ q (.pr i j) := by
 rcases Xs with _ | ⟨X, _ | ⟨Y, _ | ⟨_, _⟩⟩⟩ <;> first | exact h.elim | skip
 exact two_ok h (fun i j e e' q => ⟨i, j, by rw [e, e'], q⟩) False.elim
theorem WL.mono' {es : List Expr} {q q' : List V → AH → Prop} (h : WL c r H es q) (m : ∀ Xs H1, q Xs H1 → q' Xs H1) : WL c r H es q' := fun s n p I E => wpAny_mono (h s n p I E) (fun _ _ ⟨Xs, H', a, b, d, x⟩ => ⟨Xs, H', a, b, d, m _ _ x⟩) fun _ _ e => e
theorem stTup_ok (F : EOk c f) {es : List Expr} {n : Nat} {p : Pos} (h : stTup f es r H k) : WE c r H (.Tuple es n p) k := by
 unfold stTup at h
 cases hs : wfY es with
 | true => rw [hs] at h; exact WE_pair ((wL_ok F hs h).mono' fun Xs H1 q => pair_ok q)
 | false => rw [hs] at h; exact h.elim
theorem stDict_ok {ks : List (Option Expr)} {vs : List Expr} {p : Pos} (h : stDict ks vs p r H k) : WE c r H (.Dict ks vs p) k := by
 rcases ks with _ | ⟨_, _⟩ <;> first | exact h.elim | skip
 rcases vs with _ | ⟨_, _⟩ <;> first | exact h.elim | skip
 exact WE_dict0 h
theorem stFn_ok (F : EOk c f) (hg : c.gl = Lg) {x : Str} {es : List Expr} {np p : Pos} (h : stFn c Lg f x es r H k) : WE c r H (.Call (.Name x np) es [] p) k := by
 unfold stFn at h
 cases hm : memS Lg x && wfY es with
 | false => rw [hm] at h; exact h.elim
 | true =>
  rw [hm] at h
  obtain ⟨h1, h2⟩ := Bool.and_eq_true_iff.mp hm
  cases hv : asS tabF x with
  | none => rw [hv] at h; exact h.elim
  | some v =>
   rw [hv] at h
   obtain ⟨n, kp⟩ := (tabF_all c.G.w).at hv
   exact WE_fnm hg (memS_ok h1) n kp ((wL_ok F h2 h).mono' fun Xs H1 q => q.go) (noStar_ok h2)
theorem stMeth_ok (F : EOk c f) (hg : c.gl = Lg) {o : Expr} {x : Str} {ap p : Pos} {es : List Expr} (h : stMeth c Lg f o x ap es p r H k) : WE c r H (.Call (.Attribute o x ap) es [] p) k := by
 unfold stMeth at h
 cases hc : isCls o with
 | true =>
  rw [hc] at h
  cases hm : mCall o ap p es && sE x "__init__" && memS Lg "Matcher" with
  | false => simp only [hm] at h
  | true =>
   simp only [hm] at h
   obtain ⟨hm, h2⟩ := Bool.and_eq_true_iff.mp hm
   obtain ⟨h1, hx⟩ := Bool.and_eq_true_iff.mp hm
   cases sE_eq hx
   obtain ⟨h3, h4⟩ := mCall_ok h1 "__init__" c.env
   obtain ⟨j, hj⟩ := List.mem_iff_getElem?.mp (memS_ok h2)
   obtain ⟨p', rfl⟩ := isCls_ok hc
   exact WE_methC (WE_gl j hg hj nam_Matcher (X := .ref 337) (fun _ => rfl) ⟨rfl, clsm_init, (wL_ok F h3 h).mono' fun Xs H1 q => q.go⟩) (noStar_ok h3) h4
 | false =>
  rw [hc] at h
  cases hm : mCall o ap p es with
  | false => rw [hm] at h; exact h.elim
  | true =>
   rw [hm] at h
   obtain ⟨h3, h4⟩ := mCall_ok hm x c.env
   exact WE_methB ((F _ _ _ _ h).mono' fun X H1 q => q.go.elim fun v ⟨g1, kp, q⟩ => ⟨v, g1, kp, (wL_ok F h3 q).mono' fun Xs H1 q => q.go⟩) (noStar_ok h3) h4
theorem stCall_ok (F : EOk c f) (hg : c.gl = Lg) {fn : Expr} {es : List Expr} {ks : List Keyword} {p : Pos} (h : stCall c Lg f fn es ks p r H k) : WE c r H (.Call fn es ks p) k := by
 cases ks with
 | cons => exact h.go
 | nil =>
  unfold stCall at h
  cases e : tgt fn with
  | nm x q => rw [e] at h; cases tgt_of e; exact stFn_ok F hg h
  | att o x q => rw [e] at h; cases tgt_of e; exact stMeth_ok F hg h
  | _ => rw [e] at h; exact h.go
theorem stAtt_ok (F : EOk c f) {o : Expr} {x : Str} {p : Pos} (h : stAtt c f o x p r H k) : WE c r H (.Attribute o x p) k := by
 unfold stAtt at h
 cases hm : plainO o with
 | false => rw [hm] at h; exact h.go
 | true =>
  rw [hm] at h
  cases h1 : sE x "LAYERS" with
  | true => simp only [h1] at h; cases sE_eq h1; exact WE_LAYERS ((F _ _ _ _ h).mono' fun X H1 q => q.go) (att_eq hm _ _ _)
  | false =>
   simp only [h1] at h
   cases h2 : sE x "TREE" with
   | true => simp only [h2] at h; cases sE_eq h2; exact WE_TREE ((F _ _ _ _ h).mono' fun X H1 q => q.go) (att_eq hm _ _ _)
   | false => simp only [h2] at h; exact WE_att ((F _ _ _ _ h).mono' fun X H1 q => q.go) (att_eq hm _ _ _)
theorem stepE_ok (F : EOk c f) (T : TOk c g) (hL : c.names = L) (hg : c.gl = Lg) : EOk c (stepE c L Lg f g) := by
 intro e r H k h
 cases e <;> first | exact h.go | skip
 case Name => exact stName_ok hL hg h
 case Constant => exact stConst_ok h
 case BinOp => exact WE_bin ((F _ _ _ _ h).mono' fun X H1 q => (F _ _ _ _ q).mono' fun Y H2 q => bo_ok q)
 case Compare => exact stCmp_ok F h
 case UnaryOp => exact stUn_ok F h
 case IfExp =>
  refine WE_ifexp ((T _ _ _ _ h).mono' fun z H1 q => ?_)
  cases z
  ·exact F _ _ _ _ q
  ·exact F _ _ _ _ q
 case BoolOp => exact stBool_ok F h
 case Subscript => exact stSub_ok F h
 case List => exact stList_ok F h
 case Tuple => exact stTup_ok F h
 case Dict => exact stDict_ok h
 case Call => exact stCall_ok F hg h
 case Attribute => exact stAtt_ok F h
theorem wAnd_ok (T : TOk c g) {p : Pos} {xs : List Expr} : ∀ {r H kb}, wAnd g xs r H kb → WT c r H (.BoolOp .And xs p) kb := by
 induction xs with
 | nil => intro r H k h; exact WT_and_nil h
 | cons x xs ih =>
  intro r H k h
  refine WT_and ((T _ _ _ _ h).mono' fun b H1 q => ?_)
  cases b
  ·exact q
  ·exact ih q
theorem wOr_ok (T : TOk c g) {p : Pos} {xs : List Expr} : ∀ {r H kb}, wOr g xs r H kb → WT c r H (.BoolOp .Or xs p) kb := by
 induction xs with
 | nil => intro r H k h; exact WT_or_nil h
 | cons x xs ih =>
  intro r H k h
  refine WT_or ((T _ _ _ _ h).mono' fun b H1 q => ?_)
  cases b
  ·exact ih q
  ·exact q
theorem stCmpT_ok (F : EOk c f) {a : Expr} {ops : List CmpOp} {bs : List Expr} {p : Pos} (h : stCmpT c f a ops bs r H kb) : WT c r H (.Compare a ops bs p) kb := by
 rcases ops with _ | ⟨o1, _ | ⟨o2, _ | ⟨_, _⟩⟩⟩ <;> first | exact h.elim | skip
 ·rcases bs with _ | ⟨b, _ | ⟨_, _⟩⟩ <;> first | exact h.elim | skip
  unfold stCmpT at h
  cases hm : behindInMarks o1 b with
  | true => simp only [hm] at h
  | false =>
   simp only [hm] at h
   exact WT_cmp ((F _ _ _ _ h).mono' fun X H1 q => (F _ _ _ _ q).mono' fun Y H2 q => co_ok q) hm
 ·rcases bs with _ | ⟨e1, _ | ⟨e2, _ | ⟨_, _⟩⟩⟩ <;> first | exact h.elim | skip
  unfold stCmpT at h
  cases hm : lastMarks [o1, o2] [e1, e2] with
  | true => simp only [hm] at h
  | false =>
   simp only [hm] at h
   refine WT_chain2 ((F _ _ _ _ h).mono' fun X H1 q => (F _ _ _ _ q).mono' fun Y H2 q => (co_ok q).mono' fun z H3 q => ?_) hm
   cases z
   ·exact q
   ·exact (F _ _ _ _ q).mono' fun d H4 q => co_ok q
theorem plainS_ok (F : EOk c f) {e : Expr} (hp : plainT e = true) (h : f e r H fun X H1 => (match X with
 | .bool b => kb b H1
 | _ => False)) : WT c r H e kb := WT_plain ((F _ _ _ _ h).mono' fun X H1 q => by cases X <;> first | exact q.elim | exact ⟨_, rfl, q⟩) (plainT_ok hp)
theorem stepT_ok (F : EOk c f) (T : TOk c g) : TOk c (stepT c f g) := by
 intro e r H k h
 cases e <;> first | exact h.go | exact plainS_ok F rfl h | skip
 case Compare => exact stCmpT_ok F h
 case UnaryOp op _ _ => cases op <;> first | exact h.go | exact WT_not (T _ _ _ _ h)
 case BoolOp op _ _ =>
  cases op
  ·exact wAnd_ok T h
  ·exact wOr_ok T h
end
theorem wET_ok {c : Cx} {N : Nm} (hL : c.names = N.L) (hg : c.gl = N.g) : ∀ n, EOk c (wE c N n) ∧ TOk c (wT c N n)
 | 0 => ⟨fun _ _ _ _ h => h, fun _ _ _ _ h => h⟩
 | n + 1 => ⟨stepE_ok (wET_ok hL hg n).1 (wET_ok hL hg n).2 hL hg, stepT_ok (wET_ok hL hg n).1 (wET_ok hL hg n).2⟩
noncomputable def sq (K : Loc → AH → Prop) (Q : Fl → Loc → AH → Prop) (fl : Fl) (r : Loc) (H : AH) : Prop := match fl with
 | .next => K r H
 | fl => Q fl r H
noncomputable abbrev SF := List Stmt → Loc → AH → (Fl → Loc → AH → Prop) → Prop
theorem WS_asat {c : Cx} {r : Loc} {H : AH} {Q : Fl → Loc → AH → Prop} {o value : Expr} {x : Str} {p' p : Pos} (h : WE c r H value (fun X H1 => WE c r H1 o (AsQ c.G.w.params x X (Q .next r))))
 (hs : swapsWith value (some (.Attribute o x p')) p.line c.env = pure false) : WS c r H (.Assign [.Attribute o x p'] value p) Q := fun s m I E => by
 refine plainObj_wpAny_Assign_Attribute (hs := hs) (h.thn I E fun v s₁ X H1 rx I1 f1 E1 h1 => h1.thn I1 E1 fun u s₂ ov H2 ru I2 f2 E2 q => ?_)
 rcases q with ⟨a, C, dx, N, Xs, rfl, q1, q2, F, e1, hz, q⟩ | ⟨i, a, C, dx, N, Xs, rfl, q1, q2, F, e1, hz, hi, q⟩
 ·cases ru
  refine wp_setattr I2 q1 q2 F (List.mem_of_getElem? e1) hz (fun es hs tk fr => fr.new (rx.mono (f2.imm I1)) F.nd e1) (by rw [List.length_append]; exact Nat.succ_le_succ hz) fun h' tk I3 f3 => ?_
  have f := (f1.trans f2).trans f3
  exact ⟨.next, r, _, m, trivial, I3, E.mono I f, f.wide, q⟩
 ·cases ru
  refine wp_setattr I2 q1 q2 F (List.mem_of_getElem? e1) hz (fun es hs tk fr => fr.put (rx.mono (f2.imm I1)) F.nd e1 hi) (by rw [List.length_set]; exact Nat.le_succ_of_le hz) fun h' tk I3 f3 => ?_
  have f := (f1.trans f2).trans f3
  exact ⟨.next, r, _, m, trivial, I3, E.mono I f, f.wide, q⟩
section
variable (c : Cx) (L : List Str) (f : EF) (g : TF) (w : SF)
noncomputable def stop (st : Stmt) (rest : List Stmt) (r : Loc) (H : AH) (Q : Fl → Loc → AH → Prop) : Prop := St (WS c r H st (sq (fun r' H' => w rest r' H' Q) Q))
noncomputable def pairL (Xs : List V) (k : V → V → Prop) : Prop := match Xs with
 | [X, Y] => k X Y
 | _ => False
noncomputable def asName (x : Str) (st : Stmt) (v : Expr) (rest : List Stmt) (r : Loc) (H : AH) (Q : Fl → Loc → AH → Prop) : Prop := match notComp v with
 | true => (match ixS L x with
  | some i => f v r H fun X H1 => w rest (setL r i X) H1 Q
  | none => False)
 | false => stop c w st rest r H Q
noncomputable def asTwo (x y : Str) (a b : Expr) (rest : List Stmt) (r : Loc) (H : AH) (Q : Fl → Loc → AH → Prop) : Prop := match wfY [a, b] && !(wfW [a, b]) with
 | true => (match ixS L x with
  | some i => (match ixS L y with
   | some j => (match Nat.beq i j with
    | true => False
    | false => (match [a, b].all (constantsAlone 8) with
     | false => wL f [a, b] r H fun Xs H1 => pairL Xs fun X Y => w rest (setL (setL r i X) j Y) H1 Q
     | true => (match [a, b].all (foldedForSure 8) with
      | true => wL f [a, b] r H fun Xs H1 => pairL Xs fun X Y => w rest (setL (setL r i X) j Y) H1 Q
      | false => False)))
   | none => False)
  | none => False)
 | false => False
noncomputable def tripL (Xs : List V) (k : V → V → V → Prop) : Prop := match Xs with
 | [X, Y, Z] => k X Y Z
 | _ => False
noncomputable def asThree (x y z : Str) (a b d : Expr) (rest : List Stmt) (r : Loc) (H : AH) (Q : Fl → Loc → AH → Prop) : Prop := match wfY [a, b, d] && !(wfW [a, b, d]) && !([a, b, d].all (constantsAlone 8)) with
 | true => (match ixS L x with
  | some i => (match ixS L y with
   | some j => (match ixS L z with
    | some l => (match Nat.beq i j || Nat.beq i l || Nat.beq j l with
     | true => False
     | false => wL f [a, b, d] r H fun Xs H1 => tripL Xs fun X Y Z => w rest (setL (setL (setL r i X) j Y) l Z) H1 Q)
    | none => False)
   | none => False)
  | none => False)
 | false => False
inductive TupV where
 | two (x y : Str) (a b : Expr)
 | three (x y z : Str) (a b d : Expr)
 | no
noncomputable def tupN : List (Option Str) → List Expr → TupV
 | [some x, some y], [a, b] => .two x y a b
 | [some x, some y, some z], [a, b, d] => .three x y z a b d
 | _, _ => .no
noncomputable def tupEs (e : Expr) : List Expr := match tgt e with
 | .tup l _ _ => l
 | _ => []
noncomputable def tupV (ts : List Expr) (v : Expr) : TupV := tupN (ts.map nmOf) (tupEs v)
theorem tupEs_ok {v a : Expr} {l : List Expr} (h : tupEs v = a :: l) : ∃ k p, v = .Tuple (a :: l) k p := by
 unfold tupEs at h
 cases q : tgt v with
 | tup l k p => rw [q] at h; cases h; exact ⟨k, p, tgt_of q⟩
 | _ => rw [q] at h; cases h
noncomputable def TupOk (ts : List Expr) (v : Expr) : TupV → Prop
 | .two x y a b => ∃ px py k p, ts = [.Name x px, .Name y py] ∧ v = .Tuple [a, b] k p
 | .three x y z a b d => ∃ px py pz k p, ts = [.Name x px, .Name y py, .Name z pz] ∧ v = .Tuple [a, b, d] k p
 | .no => True
theorem tupV_ok (ts : List Expr) (v : Expr) : TupOk ts v (tupV ts v) := by
 unfold tupV
 generalize hn : ts.map nmOf = ns
 generalize he : tupEs v = es
 rcases ns with _ | ⟨_ | x, _ | ⟨_ | y, _ | ⟨_ | z, _ | ⟨w, ns⟩⟩⟩⟩ <;> first | trivial | skip
 ·rcases es with _ | ⟨a, _ | ⟨b, _ | ⟨_, _⟩⟩⟩ <;> first | trivial | skip
  obtain ⟨t, ts, rfl, e1, hn⟩ := List.map_eq_cons_iff.mp hn
  obtain ⟨u, ts, rfl, e2, hn⟩ := List.map_eq_cons_iff.mp hn
  cases List.map_eq_nil_iff.mp hn
  obtain ⟨px, rfl⟩ := nmOf_ok e1
  obtain ⟨py, rfl⟩ := nmOf_ok e2
  obtain ⟨k, p, e3⟩ := tupEs_ok he
  exact ⟨px, py, k, p, rfl, e3⟩
 ·rcases es with _ | ⟨a, _ | ⟨b, _ | ⟨d, _ | ⟨_, _⟩⟩⟩⟩ <;> first | trivial | skip
  obtain ⟨t, ts, rfl, e1, hn⟩ := List.map_eq_cons_iff.mp hn
  obtain ⟨u, ts, rfl, e2, hn⟩ := List.map_eq_cons_iff.mp hn
  obtain ⟨s, ts, rfl, e3, hn⟩ := List.map_eq_cons_iff.mp hn
  cases List.map_eq_nil_iff.mp hn
  obtain ⟨px, rfl⟩ := nmOf_ok e1
  obtain ⟨py, rfl⟩ := nmOf_ok e2
  obtain ⟨pz, rfl⟩ := nmOf_ok e3
  obtain ⟨k, p, e4⟩ := tupEs_ok he
  exact ⟨px, py, pz, k, p, rfl, e4⟩
noncomputable def asTup (ts : List Expr) (v : Expr) (st : Stmt) (rest : List Stmt) (r : Loc) (H : AH) (Q : Fl → Loc → AH → Prop) : Prop := match tupV ts v with
 | .two x y a b => asTwo L f w x y a b rest r H Q
 | .three x y z a b d => asThree L f w x y z a b d rest r H Q
 | .no => stop c w st rest r H Q
noncomputable def asOne (t : Expr) (st : Stmt) (v : Expr) (rest : List Stmt) (r : Loc) (H : AH) (Q : Fl → Loc → AH → Prop) : Prop := match tgt t with
 | .nm x _ => asName c L f w x st v rest r H Q
 | .sub o i _ => (match notComp v with
  | true => f v r H fun X H1 => f o r H1 fun ov H2 => f i r H2 fun iv H3 => St (SI c.G ov iv X H3 fun H4 => w rest r H4 Q)
  | false => stop c w st rest r H Q)
 | .tup ts _ _ => asTup c L f w ts v st rest r H Q
 | .att o x _ => f v r H fun X H1 => f o r H1 fun ov H2 => St (AsQ c.G.w.params x X (fun H3 => w rest r H3 Q) ov H2)
 | _ => stop c w st rest r H Q
noncomputable def asS' (ts : List Expr) (st : Stmt) (v : Expr) (rest : List Stmt) (r : Loc) (H : AH) (Q : Fl → Loc → AH → Prop) : Prop := match ts with
 | [t] => asOne c L f w t st v rest r H Q
 | _ => stop c w st rest r H Q
noncomputable def augS (t : Expr) (op : Operator) (v : Expr) (st : Stmt) (rest : List Stmt) (r : Loc) (H : AH) (Q : Fl → Loc → AH → Prop) : Prop := match nmOf t with
 | some x => (match ixS L x with
  | some i => (match lkR r i with
   | some X => f v r H fun Y H1 => St (IO c.G op X Y H1 fun Z H2 => w rest (setL r i Z) H2 Q)
   | none => False)
  | none => False)
 | none => stop c w st rest r H Q
noncomputable def stepS (st : Stmt) (rest : List Stmt) (r : Loc) (H : AH) (Q : Fl → Loc → AH → Prop) : Prop := match st with
 | .Assign ts v _ => asS' c L f w ts st v rest r H Q
 | .AugAssign t op v _ => augS c L f w t op v st rest r H Q
 | .Expr e _ => (match notComp e with
  | true => f e r H fun X H1 => (match X with
   | .none => w rest r H1 Q
   | _ => False)
  | false => stop c w st rest r H Q)
 | .If t a b _ => g t r H fun z H1 => if z = true then w a r H1 (sq (fun r' H' => w rest r' H' Q) Q) else w b r H1 (sq (fun r' H' => w rest r' H' Q) Q)
 | .Return o _ => (match o with
  | some e => f e r H fun X H1 => Q (.ret X) r H1
  | none => Q (.ret .none) r H)
 | .Pass _ => w rest r H Q
 | .Break _ => Q .brk r H
 | .Continue _ => Q .cont r H
 | st => stop c w st rest r H Q
end
noncomputable def wS (c : Cx) (N : Nm) : Nat → SF
 | 0, st, r, H, Q => WSs c r H st Q
 | n + 1, sts, r, H, Q => (match sts with
  | [] => Q .next r H
  | st :: rest => stepS c N.L (wE c N 12) (wT c N 12) (wS c N n) st rest r H Q)
theorem WS.mono' {c : Cx} {r : Loc} {H : AH} {st : Stmt} {Q Q' : Fl → Loc → AH → Prop} (x : WS c r H st Q') (h : ∀ fl r' H', Q' fl r' H' → Q fl r' H') : WS c r H st Q := fun s m I E => (x s m I E).mono h
theorem WSs.mono' {c : Cx} {sts : List Stmt} {r : Loc} {H : AH} {Q Q' : Fl → Loc → AH → Prop} (x : WSs c r H sts Q') (h : ∀ fl r' H', Q' fl r' H' → Q fl r' H') : WSs c r H sts Q := fun s m I E => (x s m I E).mono h
section
variable {c : Cx} {L : List Str} {f : EF} {g : TF} {w : SF} {rest : List Stmt} {r : Loc} {H : AH} {Q : Fl → Loc → AH → Prop}
noncomputable def SOk (c : Cx) (w : SF) : Prop := ∀ sts r H Q, w sts r H Q → WSs c r H sts Q
theorem sq_seq (W : SOk c w) : ∀ fl r H, sq (fun r' H' => w rest r' H' Q) Q fl r H → SeqQ c rest Q fl r H := fun fl r H q => by
 cases fl
 ·exact W _ _ _ _ q
 ·exact q
 ·exact q
 ·exact q
theorem wkW (W : SOk c w) {st : Stmt} (h : stop c w st rest r H Q) : WSs c r H (st :: rest) Q := zcQ (h.go.mono' (sq_seq W))
theorem pairL_ok {Xs : List V} {q : V → V → Prop} (h : pairL Xs q) : ∃ X Y, Xs = [X, Y] ∧ q X Y := by
 rcases Xs with _ | ⟨X, _ | ⟨Y, _ | ⟨_, _⟩⟩⟩ <;> first | exact h.elim | exact ⟨X, Y, rfl, h⟩
theorem asName_ok (F : EOk c f) (hL : c.names = L) (W : SOk c w) {x : Str} {v : Expr} {p p' : Pos} (h : asName c L f w x (.Assign [.Name x p'] v p) v rest r H Q) : WSs c r H (.Assign [.Name x p'] v p :: rest) Q := by
 unfold asName at h
 cases hv : notComp v with
 | false => rw [hv] at h; exact wkW W h
 | true =>
  rw [hv] at h
  cases hi : ixS L x with
  | none => rw [hi] at h; exact h.elim
  | some i => rw [hi] at h; exact zcQ (WS_asg _ hL (wiY hi) ((F _ _ _ _ h).mono' fun X H1 q => W _ _ _ _ q) (notComp_ok hv))
theorem asTwo_ok (F : EOk c f) (hL : c.names = L) (W : SOk c w) {x y : Str} {a b : Expr} {p px py tp vp : Pos} {k k' : Nat} (h : asTwo L f w x y a b rest r H Q) :
 WSs c r H (.Assign [.Tuple [.Name x px, .Name y py] k tp] (.Tuple [a, b] k' vp) p :: rest) Q := by
 unfold asTwo at h
 cases hs : wfY [a, b] && !(wfW [a, b]) with
 | false => rw [hs] at h; exact h.elim
 | true =>
  rw [hs] at h
  obtain ⟨h1, h2⟩ := Bool.and_eq_true_iff.mp hs
  rw [Bool.not_eq_true'] at h2
  cases hi : ixS L x with
  | none => rw [hi] at h; exact h.elim
  | some i =>
   rw [hi] at h
   cases hj : ixS L y with
   | none => rw [hj] at h; exact h.elim
   | some j =>
    rw [hj] at h
    cases hij : Nat.beq i j with
    | true => simp only [hij] at h
    | false =>
     simp only [hij] at h
     cases hc : [a, b].all (constantsAlone 8) with
     | false =>
      simp only [hc] at h
      exact zcQ (WS_tup2 _ _ hL (wiY hi) (wiY hj) (Nat.ne_of_beq_eq_false hij) h2 hc ((wL_ok F h1 h).mono' fun Xs H1 q => (pairL_ok q).elim fun X ⟨Y, e, q⟩ => ⟨X, Y, e, W _ _ _ _ q⟩))
     | true =>
      simp only [hc] at h
      cases hf : [a, b].all (foldedForSure 8) with
      | false => simp only [hf] at h
      | true =>
       simp only [hf] at h
       exact zcQ (WS_tup2c _ _ hL (wiY hi) (wiY hj) h2 hf ((wL_ok F h1 h).mono' fun Xs H1 q => (pairL_ok q).elim fun X ⟨Y, e, q⟩ => ⟨X, Y, e, W _ _ _ _ q⟩))
theorem tripL_ok {Xs : List V} {q : V → V → V → Prop} (h : tripL Xs q) : ∃ X Y Z, Xs = [X, Y, Z] ∧ q X Y Z := by
 rcases Xs with _ | ⟨X, _ | ⟨Y, _ | ⟨Z, _ | ⟨_, _⟩⟩⟩⟩ <;> first | exact h.elim | exact ⟨X, Y, Z, rfl, h⟩
theorem asThree_ok (F : EOk c f) (hL : c.names = L) (W : SOk c w) {x y z : Str} {a b d : Expr} {p px py pz tp vp : Pos} {k k' : Nat} (h : asThree L f w x y z a b d rest r H Q) :
 WSs c r H (.Assign [.Tuple [.Name x px, .Name y py, .Name z pz] k tp] (.Tuple [a, b, d] k' vp) p :: rest) Q := by
 unfold asThree at h
 cases hs : wfY [a, b, d] && !(wfW [a, b, d]) && !([a, b, d].all (constantsAlone 8)) with
 | false => rw [hs] at h; exact h.elim
 | true =>
  rw [hs] at h
  obtain ⟨h1, h3⟩ := Bool.and_eq_true_iff.mp hs
  obtain ⟨h1, h2⟩ := Bool.and_eq_true_iff.mp h1
  rw [Bool.not_eq_true'] at h2 h3
  cases hi : ixS L x with
  | none => rw [hi] at h; exact h.elim
  | some i =>
   rw [hi] at h
   cases hj : ixS L y with
   | none => rw [hj] at h; exact h.elim
   | some j =>
    rw [hj] at h
    cases hl : ixS L z with
    | none => rw [hl] at h; exact h.elim
    | some l =>
     rw [hl] at h
     cases hij : Nat.beq i j || Nat.beq i l || Nat.beq j l with
     | true => simp only [hij] at h
     | false =>
      simp only [hij] at h
      obtain ⟨e1, e3⟩ := Bool.or_eq_false_iff.mp hij
      obtain ⟨e1, e2⟩ := Bool.or_eq_false_iff.mp e1
      have nd : [i, j, l].Nodup := by
       have q1 := Nat.ne_of_beq_eq_false e1
       have q2 := Nat.ne_of_beq_eq_false e2
       have q3 := Nat.ne_of_beq_eq_false e3
       simp [q1, q2, q3]
      exact zcQ (WS_tup3 _ _ _ hL (wiY hi) (wiY hj) (wiY hl) nd h2 h3 ((wL_ok F h1 h).mono' fun Xs H1 q => (tripL_ok q).elim fun X ⟨Y, Z, e, q⟩ => ⟨X, Y, Z, e, W _ _ _ _ q⟩))
theorem asTup_ok (F : EOk c f) (hL : c.names = L) (W : SOk c w) {ts : List Expr} {v : Expr} {p tp : Pos} {k : Nat} (h : asTup c L f w ts v (.Assign [.Tuple ts k tp] v p) rest r H Q) : WSs c r H (.Assign [.Tuple ts k tp] v p :: rest) Q := by
 have q := tupV_ok ts v
 unfold asTup at h
 cases e : tupV ts v with
 | no => rw [e] at h; exact wkW W h
 | two x y a b =>
  rw [e] at h q
  obtain ⟨px, py, k, p, rfl, rfl⟩ := q
  exact asTwo_ok F hL W h
 | three x y z a b d =>
  rw [e] at h q
  obtain ⟨px, py, pz, k, p, rfl, rfl⟩ := q
  exact asThree_ok F hL W h
theorem swAtt {v o : Expr} {x : Str} {p : Pos} {l : Nat} {env : Env} : swapsWith v (some (.Attribute o x p)) l env = pure false := by cases v <;> rfl
theorem asSub_ok (F : EOk c f) (W : SOk c w) {o i v : Expr} {q p : Pos} (h : match notComp v with
 | true => f v r H fun X H1 => f o r H1 fun ov H2 => f i r H2 fun iv H3 => St (SI c.G ov iv X H3 fun H4 => w rest r H4 Q)
 | false => stop c w (.Assign [.Subscript o i q] v p) rest r H Q) : WSs c r H (.Assign [.Subscript o i q] v p :: rest) Q := by
 cases hv : notComp v with
 | false => rw [hv] at h; exact wkW W h
 | true =>
  rw [hv] at h
  exact zcQ (WS_setitem ((F _ _ _ _ h).mono' fun X H1 q => (F _ _ _ _ q).mono' fun ov H2 q => (F _ _ _ _ q).mono' fun iv H3 q A s v u x a I rv ru rx => wpAny_mono (q.go A s v u x a I rv ru rx) (fun _ _ h => h.rec fun H4 i1 i2 i3 => ⟨H4, i1, i2, W _ _ _ _ i3⟩) fun _ _ e => e) (notComp_ok hv))
theorem asOne_ok (F : EOk c f) (hL : c.names = L) (W : SOk c w) {t v : Expr} {p : Pos} (h : asOne c L f w t (.Assign [t] v p) v rest r H Q) : WSs c r H (.Assign [t] v p :: rest) Q := by
 unfold asOne at h
 cases e : tgt t with
 | nm x q => rw [e] at h; cases tgt_of e; exact asName_ok F hL W h
 | tup ts k q => rw [e] at h; cases tgt_of e; exact asTup_ok F hL W h
 | att o x q =>
  rw [e] at h
  cases tgt_of e
  exact zcQ (WS_asat ((F _ _ _ _ h).mono' fun X H1 q => (F _ _ _ _ q).mono' fun ov H2 q => q.go.mono fun H3 q => W _ _ _ _ q) swAtt)
 | sub o i q => rw [e] at h; cases tgt_of e; exact asSub_ok F W h
 | sl lo hi st q => rw [e] at h; exact wkW W h
 | no => rw [e] at h; exact wkW W h
theorem augS_ok (F : EOk c f) (hL : c.names = L) (W : SOk c w) {t v : Expr} {op : Operator} {p : Pos} (h : augS c L f w t op v (.AugAssign t op v p) rest r H Q) : WSs c r H (.AugAssign t op v p :: rest) Q := by
 unfold augS at h
 cases hn : nmOf t with
 | none => rw [hn] at h; exact wkW W h
 | some x =>
  rw [hn] at h
  obtain ⟨p, rfl⟩ := nmOf_ok hn
  cases hi : ixS L x with
  | none => simp only [hi] at h
  | some i =>
   simp only [hi] at h
   cases hv : lkR r i with
   | none => simp only [hv] at h
   | some X =>
    simp only [hv] at h
    exact zcQ (WS_augm _ hL (wiY hi) (lkR_ok hv) ((F _ _ _ _ h).mono' fun Y H1 q A s v u a I rv ru => (q.go A s v u a I rv ru).mono fun Z H2 q => W _ _ _ _ q))
theorem stepS_ok (F : EOk c f) (T : TOk c g) (hL : c.names = L) (W : SOk c w) {st : Stmt} (h : stepS c L f g w st rest r H Q) : WSs c r H (st :: rest) Q := by
 cases st <;> first | exact wkW W h | skip
 case Assign ts v _ =>
  rcases ts with _ | ⟨t, _ | ⟨_, _⟩⟩
  ·exact wkW W h
  ·exact asOne_ok F hL W h
  ·exact wkW W h
 case AugAssign => exact augS_ok F hL W h
 case Expr e _ =>
  unfold stepS at h
  cases hv : notComp e with
  | false => simp only [hv] at h; exact wkW W h
  | true =>
   simp only [hv] at h
   exact zcQ (WS_expr ((F _ _ _ _ h).mono' fun X H1 q => by cases X <;> first | exact q.elim | exact ⟨rfl, W _ _ _ _ q⟩) c.es.kind (notComp_ok hv))
 case If =>
  refine zcQ (WS_if ((T _ _ _ _ h).mono' fun z H1 q => ?_))
  cases z
  ·exact (W _ _ _ _ q).mono' (sq_seq W)
  ·exact (W _ _ _ _ q).mono' (sq_seq W)
 case Return o _ =>
  cases o
  ·exact zcQ (WS_ret0 h)
  ·exact zcQ (WS_ret ((F _ _ _ _ h).mono' fun X H1 q => q))
 case Pass => exact zcQ (WS_pass (W _ _ _ _ h))
 case Break => exact zcQ (WS_brk h)
 case Continue => exact zcQ (WS_cont h)
end
theorem wS_ok {c : Cx} {N : Nm} (hL : c.names = N.L) (hg : c.gl = N.g) : ∀ n, SOk c (wS c N n)
 | 0, _, _, _, _, h => h
 | n + 1, sts, _, _, _, h => by
  cases sts with
  | nil => exact WSs_nil h
  | cons st rest => exact stepS_ok (wET_ok hL hg 12).1 (wET_ok hL hg 12).2 hL (wS_ok hL hg n) h
noncomputable def simpS (s : Stmt) : Bool := inN [5, 7, 27] s.ctorIdx
theorem goK {c : Cx} {N : Nm} {n : Nat} {st : Stmt} {rest : List Stmt} {r : Loc} {H : AH} {Q : Fl → Loc → AH → Prop} (B : Loc → AH → Prop) (hs : simpS st = true)
 (h1 : ∀ K : Loc → AH → Prop, (∀ {r' H'}, B r' H' → K r' H') → stepS c N.L (wE c N 12) (wT c N 12) (fun _ r' H' _ => K r' H') st rest r H Q)
 (h2 : ∀ r' H', B r' H' → wS c N n rest r' H' Q) : wS c N (n + 1) (st :: rest) r H Q := by
 have := h1 (fun r' H' => wS c N n rest r' H' Q) fun b => h2 _ _ b
 cases st <;> first | exact this | cases hs
theorem goKif {c : Cx} {N : Nm} {n : Nat} {t : Expr} {a b : List Stmt} {p : Pos} {rest : List Stmt} {r : Loc} {H : AH} {Q : Fl → Loc → AH → Prop} (B : Loc → AH → Prop)
 (h1 : ∀ K : Loc → AH → Prop, (∀ {r' H'}, B r' H' → K r' H') → wT c N 12 t r H fun z H1 => if z = true then wS c N n a r H1 (sq K Q) else wS c N n b r H1 (sq K Q))
 (h2 : ∀ r' H', B r' H' → wS c N n rest r' H' Q) : wS c N (n + 1) (.If t a b p :: rest) r H Q := h1 _ fun b => h2 _ _ b
theorem goIfT {c : Cx} {N : Nm} {n : Nat} {t : Expr} {a b : List Stmt} {p : Pos} {rest : List Stmt} {r : Loc} {H : AH} {Q : Fl → Loc → AH → Prop} (B : Bool → AH → Prop)
 (h1 : ∀ K : Bool → AH → Prop, (∀ {z H'}, B z H' → K z H') → wT c N 12 t r H K)
 (h2 : ∀ z H', B z H' → if z = true then wS c N n a r H' (sq (fun r' H' => wS c N n rest r' H' Q) Q) else wS c N n b r H' (sq (fun r' H' => wS c N n rest r' H' Q) Q)) : wS c N (n + 1) (.If t a b p :: rest) r H Q := h1 _ fun b => h2 _ _ b
section
variable {c : Cx} {L Lg : List Str} {r : Loc} {H : AH}
theorem goS {sts : List Stmt} {Q : Fl → Loc → AH → Prop} (hL : c.names = L) (hg : c.gl = Lg) (h : wS c ⟨L, Lg⟩ 40 sts r H Q) : WSs c r H sts Q := wS_ok hL hg 40 _ _ _ _ h
theorem goE {e : Expr} {k : V → AH → Prop} (hL : c.names = L) (hg : c.gl = Lg) (h : wE c ⟨L, Lg⟩ 12 e r H k) : WE c r H e k := (wET_ok hL hg 12).1 _ _ _ _ h
theorem goT {e : Expr} {k : Bool → AH → Prop} (hL : c.names = L) (hg : c.gl = Lg) (h : wT c ⟨L, Lg⟩ 12 e r H k) : WT c r H e k := (wET_ok hL hg 12).2 _ _ _ _ h
end
noncomputable def CTab (P : Params) : List (Addr × List Str × List (Str × Addr)) → Prop
 | [] => True
 | p :: l => (ClsF P p.1 p.2.1 ∧ MTab P p.1 p.2.1 p.2.2) ∧ CTab P l
where MTab (P : Params) (C : Addr) (N : List Str) : List (Str × Addr) → Prop
 | [] => True
 | q :: l => wbV P C N q.1 q.2 ∧ MTab P C N l
noncomputable def asN {α : Type} : List (Addr × α) → Addr → Option α
 | [], _ => none
 | p :: l, a => match Nat.beq p.1 a with
  | true => some p.2
  | false => asN l a
noncomputable def clsL : List (Addr × List Str × List (Str × Addr)) :=
 List.cons (104, wiU, [("up_to", 89), ("best", 96), ("every", 101)]) <|
 List.cons (146, N_Ways, [("offer", 136), ("told", 143)]) <|
 List.cons (204, wcY, [("literal", 194), ("match", 201)]) <|
 List.cons (246, wbX, [("key", 229), ("put", 236), ("newest", 243)]) <|
 List.cons (380, wbZ, [("enter", 363), ("candidates", 370), ("every", 377), ("put", 271), ("limit", 292), ("alike", 306), ("is_near", 313), ("best", 334)]) <|
 List.cons (428, zbU, [("hang", 404), ("enter", 411), ("part", 418), ("every", 425), ("put", 271), ("limit", 292), ("alike", 306), ("is_near", 313), ("best", 334)]) <|
 List.cons (461, zaX, [("enter", 451), ("every", 458), ("put", 271), ("limit", 292), ("alike", 306), ("is_near", 313), ("best", 334)]) <|
 []
theorem clsL_all (P : Params) : CTab P clsL :=
 ⟨⟨cls_Trail, ⟨meth_Trail_up_to, ⟨meth_Trail_best, ⟨meth_Trail_every, trivial⟩⟩⟩⟩, ⟨⟨cls_Ways, ⟨meth_Ways_offer, ⟨meth_Ways_told, trivial⟩⟩⟩, ⟨⟨cls_FlatPrice, ⟨meth_FlatPrice_literal, ⟨meth_FlatPrice_match, trivial⟩⟩⟩, ⟨⟨wjQ, ⟨meth_PlaceRow_key, ⟨meth_PlaceRow_put, ⟨meth_PlaceRow_newest, trivial⟩⟩⟩⟩, ⟨⟨wbQ, ⟨meth_Finder_enter, ⟨meth_Finder_candidates, ⟨meth_Finder_every, ⟨meth_Finder_put, ⟨meth_Finder_limit, ⟨meth_Finder_alike, ⟨meth_Finder_is_near, ⟨meth_Finder_best, trivial⟩⟩⟩⟩⟩⟩⟩⟩⟩, ⟨⟨zcZ, ⟨meth_TreeFinder_hang, ⟨wgY, ⟨meth_TreeFinder_part, ⟨wgZ, ⟨wiZ, ⟨meth_TreeFinder_limit, ⟨meth_TreeFinder_alike, ⟨meth_TreeFinder_is_near, ⟨wgU, trivial⟩⟩⟩⟩⟩⟩⟩⟩⟩⟩, ⟨⟨zbV, ⟨weX, ⟨weY, ⟨wfX, ⟨meth_LayeredFinder_limit, ⟨meth_LayeredFinder_alike, ⟨wjZ, ⟨weV, trivial⟩⟩⟩⟩⟩⟩⟩⟩, trivial⟩⟩⟩⟩⟩⟩⟩
noncomputable def clsT (C : Addr) : Option (List Str) := (asN clsL C).map (·.1)
noncomputable def methT (C : Addr) (x : Str) : Option Addr := match asN clsL C with
 | some p => asS p.2 x
 | none => none
theorem CTab.at {P : Params} {C : Addr} {p : List Str × List (Str × Addr)} {l : List (Addr × List Str × List (Str × Addr))} (t : CTab P l) (h : asN l C = some p) : ClsF P C p.1 ∧ CTab.MTab P C p.1 p.2 := by
 induction l with
 | nil => cases h
 | cons q l ih =>
  unfold asN at h
  cases e : Nat.beq q.1 C with
  | true => rw [e] at h; cases h; rw [← Nat.eq_of_beq_eq_true e]; exact t.1
  | false => rw [e] at h; exact ih t.2 h
theorem CTab.MTab.at {P : Params} {C : Addr} {N : List Str} {x : Str} {f : Addr} {l : List (Str × Addr)} (t : CTab.MTab P C N l) (h : asS l x = some f) : wbV P C N x f := by
 induction l with
 | nil => cases h
 | cons q l ih =>
  unfold asS at h
  cases e : sE q.1 x with
  | true => rw [e] at h; cases h; rw [← sE_eq e]; exact t.1
  | false => rw [e] at h; exact ih t.2 h
theorem zaZ {P : Params} {C : Addr} {N : List Str} (h : clsT C = some N) : ClsF P C N := by
 obtain ⟨p, e, rfl⟩ := Option.map_eq_some_iff.mp h
 exact ((clsL_all P).at e).1
theorem zbZ {P : Params} {C f : Addr} {N : List Str} {x : Str} (h : clsT C = some N) (h2 : methT C x = some f) : wbV P C N x f := by
 obtain ⟨p, e, rfl⟩ := Option.map_eq_some_iff.mp h
 unfold methT at h2
 rw [e] at h2
 exact ((clsL_all P).at e).2.at h2
noncomputable def fdS (N : List Str) (Xs : List V) (x : Str) : Option V := match ixS N x with
 | some i => Xs[i]?
 | none => none
section
variable {H : AH}
theorem AC {P : Params} {x : Str} {Q : V → AH → Prop} {a C dx : Addr} {N : List Str} {Xs : List V} {Y : V} (h1 : H a = some (.inst C dx)) (h2 : H dx = some (.fields N Xs)) (F : ClsF P C N) (e : fdS N Xs x = some Y) (h : Q Y H) : AtQ P x Q (.ref a) H := by
 unfold fdS at e
 cases q : ixS N x with
 | none => rw [q] at e; cases e
 | some i => rw [q] at e; exact AT i h1 h2 F (wiY q) e h
variable {c : Cx} {K : Value → V → AH → Prop}
theorem MC {x : Str} {a C dx f : Addr} {N : List Str} {Xs : List V} (h1 : H a = some (.inst C dx)) (h2 : H dx = some (.fields N Xs)) (F : wbV c.G.w.params C N x f) (h : K (.ref f) (.ref a) H) : MtQ c x K (.ref a) H := ⟨_, GM_inst h1 h2 F, F.kp, h⟩
theorem zcU {l : Addr} {vs : List V} (hl : H l = some (.list vs)) (h : K (.builtin "list.append") (.ref l) H) : MtQ c "append" K (.ref l) H := ⟨_, GM_append hl, trivial, h⟩
theorem MB_get {l : Addr} {n : Nat} {d : Int → Option Int} (hl : H l = some (.idict n d)) (h : K (.builtin "dict.get") (.ref l) H) : MtQ c "get" K (.ref l) H := ⟨_, GM_get hl, trivial, h⟩
theorem MB_bits {i : Int} (h : K (.builtin "int.bit_length") (.int i) H) : MtQ c "bit_length" K (.int i) H := ⟨_, GM_bits, trivial, h⟩
theorem goA {c : Cx} {L : List Str} {r : Loc} {x : Str} {p : Pos} {i : Nat} {X : V} {K : Loc → Prop} (hL : c.names = L) (e : ixS L x = some i) (h : K (setL r i X)) : WA c r H (.Name x p) X K := WA_name i (nm hL (wiY e)) h
theorem zaV {c : Cx} {N : Nm} {n : Nat} {r : Loc} {Q : Fl → Loc → AH → Prop} (h : Q .next r H) : wS c N (n + 1) [] r H Q := h
theorem nonq {q : Prop} (h : q) : V.none = V.none ∧ q := ⟨rfl, h⟩
theorem zaY {K : Loc → AH → Prop} {Q : Fl → Loc → AH → Prop} {r : Loc} (h : K r H) : sq K Q .next r H := h
theorem waV {p : Prop} {d : Decidable p} {A B : Prop} (h : @ite Prop p d A B) : @ite Prop p d A B := h
theorem wbW {A B : Prop} (h : A ∧ B) : A ∧ B := h
theorem NAs {P : Params} {x : Str} {X : V} {K : AH → Prop} {a C dx : Addr} {N : List Str} {Xs : List V} (h1 : H a = some (.inst C dx)) (h2 : H dx = some (.fields N Xs)) (F : ClsF P C N) (e1 : N[Xs.length]? = some x) (e2 : Xs.length ≤ 100) (h : K (upd H dx (.fields N (Xs ++ [X])))) : AsQ P x X K (.ref a) H := .na a C dx N Xs rfl h1 h2 F e1 e2 h
theorem SAs (i : Nat) {P : Params} {x : Str} {X : V} {K : AH → Prop} {a C dx : Addr} {N : List Str} {Xs : List V} (h1 : H a = some (.inst C dx)) (h2 : H dx = some (.fields N Xs)) (F : ClsF P C N) (e1 : N[i]? = some x) (e2 : Xs.length ≤ 100) (e3 : i < Xs.length) (h : K (upd H dx (.fields N (Xs.set i X)))) : AsQ P x X K (.ref a) H := .sa i a C dx N Xs rfl h1 h2 F e1 e2 e3 h
end
noncomputable def WhQ (I : Nat → Loc → AH → Prop) (m : Nat) (Q : Fl → Loc → AH → Prop) (fl : Fl) (r : Loc) (H : AH) : Prop := match fl with
 | .next => ∃ m', m' < m ∧ I m' r H
 | .cont => ∃ m', m' < m ∧ I m' r H
 | .brk => Q .next r H
 | .ret X => Q (.ret X) r H
theorem WS_whileI {c : Cx} {r : Loc} {H : AH} {Q : Fl → Loc → AH → Prop} {t : Expr} {body : List Stmt} {p : Pos} (inv : Nat → Loc → AH → Prop) (n : Nat) (h0 : inv n r H)
 (h : ∀ I : Nat → Loc → AH → Prop, (∀ {m r' H'}, I m r' H' → inv m r' H') → (∀ {m r' H'}, inv m r' H' → I m r' H') → ∀ m r' H', I m r' H' → WT c r' H' t (fun z H1 => if z = true then WSs c r' H1 body (WhQ I m Q) else Q .next r' H1)) : WS c r H (.While t body [] p) Q :=
 whY inv n h0 fun m r' H' q => (h inv id id m r' H' q).mono' fun z H1 q => by
  cases z
  ·exact q
  ·exact WSs.mono' q fun fl r2 H2 q => by cases fl <;> exact q
set_option tactic.hygienic false
inductive Tel : Type 1
 | at (m : Nat) (r : Loc) (H : AH) : Tel
 | ex {α : Type} (f : α → Tel) : Tel
 | hy (p : Prop) (f : p → Tel) : Tel
noncomputable def Tel.all (P : Nat → Loc → AH → Prop) : Tel → Prop
 | .at m r H => P m r H
 | .ex f => ∀ x, (f x).all P
 | .hy p f => ∀ x : p, (f x).all P
theorem tel_at {P : Nat → Loc → AH → Prop} {m : Nat} {r : Loc} {H : AH} (h : P m r H) : (Tel.at m r H).all P := h
noncomputable def Tel.inv (t : Tel) (m : Nat) (r : Loc) (H : AH) : Prop := ∀ P : Nat → Loc → AH → Prop, t.all P → P m r H
theorem Tel.self {P : Nat → Loc → AH → Prop} {t : Tel} : (∀ m r H, t.inv m r H → P m r H) → t.all P :=
 t.rec (motive := fun t => (∀ m r H, t.inv m r H → P m r H) → t.all P) (fun m r H q => q m r H fun _ k => k)
  (fun f ih q x => ih x fun m r H i => q m r H fun P k => i P (k x)) (fun p f ih q x => ih x fun m r H i => q m r H fun P k => i P (k x))
noncomputable abbrev LI := (Nat → Loc → AH → Prop) → Prop
noncomputable def WhC (J : LI) (m : Nat) (Q : Fl → Loc → AH → Prop) (fl : Fl) (r : Loc) (H : AH) : Prop := match fl with
 | .next => ∀ P : Loc → AH → Prop, J (fun m' r' H' => m' < m → P r' H') → P r H
 | .cont => ∀ P : Loc → AH → Prop, J (fun m' r' H' => m' < m → P r' H') → P r H
 | .brk => Q .next r H
 | .ret X => Q (.ret X) r H
theorem WS_whileC {c : Cx} {r : Loc} {H : AH} {Q : Fl → Loc → AH → Prop} {t : Expr} {body : List Stmt} {p : Pos} (I : True → True → True → Tel) (n : Nat)
 (h0 : ∀ (P : Nat → Loc → AH → Prop) (u v : True), (I v v v).all P → P n r H)
 (h : ∀ (J : LI) (j : ∀ P, J P → (I ⟨⟩ ⟨⟩ ⟨⟩).all P) (u : True), (I u u u).all fun m r' H' => let r0 := r'; WT c r0 H' t fun z H1 => if z = true then WSs c r0 H1 body (WhC J m Q) else Q .next r0 H1) : WS c r H (.While t body [] p) Q :=
 whY (I ⟨⟩ ⟨⟩ ⟨⟩).inv n (fun P k => h0 P ⟨⟩ ⟨⟩ k) fun m r' H' i => (i _ (h (I ⟨⟩ ⟨⟩ ⟨⟩).all (fun _ k => k) ⟨⟩)).mono' fun z H1 q => by
  have on : ∀ {r2 H2}, (∀ P : Loc → AH → Prop, (I ⟨⟩ ⟨⟩ ⟨⟩).all (fun m' r' H' => m' < m → P r' H') → P r2 H2) → ∃ k, k < m ∧ (I ⟨⟩ ⟨⟩ ⟨⟩).inv k r2 H2 := fun q => q (fun r H => ∃ k, k < m ∧ (I ⟨⟩ ⟨⟩ ⟨⟩).inv k r H) (Tel.self fun k r H i l => ⟨k, l, i⟩)
  cases z
  ·exact q
  ·exact WSs.mono' q fun fl r2 H2 q => by
    cases fl
    ·exact on q
    ·exact q
    ·exact on q
    ·exact q
noncomputable def FoC (J : LI) (i : Nat) (Q : Fl → Loc → AH → Prop) (fl : Fl) (r : Loc) (H : AH) : Prop := match fl with
 | .next => ∀ P : Loc → AH → Prop, J (fun i' r' H' => i' = i + 1 → P r' H') → P r H
 | .cont => ∀ P : Loc → AH → Prop, J (fun i' r' H' => i' = i + 1 → P r' H') → P r H
 | .brk => Q .next r H
 | .ret X => Q (.ret X) r H
theorem ForC {c : Cx} {t : Expr} {body : List Stmt} {r : Loc} {Q : Fl → Loc → AH → Prop} {o : V} {H : AH} {vs : List V} {kp : AH → Prop} (it : Iter c.G o H vs kp) (I : True → True → True → Tel)
 (h0 : ∀ (P : Nat → Loc → AH → Prop) (u v : True), (I v v v).all P → P 0 r H)
 (h : ∀ (J : LI) (j : ∀ P, J P → (I ⟨⟩ ⟨⟩ ⟨⟩).all P) (u : True), (I u u u).all fun i r' H' => (i ≤ vs.length → kp H') ∧ (∀ X, vs[i]? = some X → let r0 := r'; WA c r0 H' t X fun r2 => WSs c r2 H' body (FoC J i Q)) ∧ (i = vs.length → Q .next r' H')) : ForH c t body r Q o H :=
 ⟨vs, kp, (I ⟨⟩ ⟨⟩ ⟨⟩).inv, it, fun P k => h0 P ⟨⟩ ⟨⟩ k, fun i r' H' l q => (q _ (h (I ⟨⟩ ⟨⟩ ⟨⟩).all (fun _ k => k) ⟨⟩)).1 l, fun i X r' H' e q s m v R I' E rv hk => (q _ (h (I ⟨⟩ ⟨⟩ ⟨⟩).all (fun _ k => k) ⟨⟩)).2.1 X e s m v R I' E rv (fun r2 h' tk' m' w => hk r2 h' tk' m' (w.mono' fun fl r2 H2 q => by
  have on : ∀ {r2 H2}, (∀ P : Loc → AH → Prop, (I ⟨⟩ ⟨⟩ ⟨⟩).all (fun m' r' H' => m' = i + 1 → P r' H') → P r2 H2) → (I ⟨⟩ ⟨⟩ ⟨⟩).inv (i + 1) r2 H2 := fun q => q (fun r H => (I ⟨⟩ ⟨⟩ ⟨⟩).inv (i + 1) r H) (Tel.self fun k r H i l => l ▸ i)
  cases fl
  ·exact on q
  ·exact q
  ·exact on q
  ·exact q)), fun r' H' q => (q _ (h (I ⟨⟩ ⟨⟩ ⟨⟩).all (fun _ k => k) ⟨⟩)).2.2 rfl⟩
theorem SAc {H : AH} {P : Params} {x : Str} {X : V} {K : AH → Prop} {a C dx : Addr} {N : List Str} {Xs : List V} {i : Nat} (h1 : H a = some (.inst C dx)) (h2 : H dx = some (.fields N Xs)) (F : ClsF P C N) (e1 : ixS N x = some i) (e2 : (Nat.ble Xs.length 100 && Nat.blt i Xs.length) = true) (h : K (upd H dx (.fields N (Xs.set i X)))) : AsQ P x X K (.ref a) H :=
 SAs i h1 h2 F (wiY e1) (Nat.le_of_ble_eq_true (Bool.and_eq_true_iff.mp e2).1) (Nat.le_of_ble_eq_true (Bool.and_eq_true_iff.mp e2).2) h
theorem NAc {H : AH} {P : Params} {x : Str} {X : V} {K : AH → Prop} {a C dx : Addr} {N : List Str} {Xs : List V} (h1 : H a = some (.inst C dx)) (h2 : H dx = some (.fields N Xs)) (F : ClsF P C N) (e1 : ixS N x = some Xs.length) (e2 : Nat.ble Xs.length 100 = true) (h : K (upd H dx (.fields N (Xs ++ [X])))) : AsQ P x X K (.ref a) H :=
 NAs h1 h2 F (wiY e1) (Nat.le_of_ble_eq_true e2) h
theorem bnd1 {s : Shared} {fd : FuncData} {ps : List Str} {X : V} (k : ∀ v : Value, BindsTo s fd ⟨[v], []⟩ (ps.zip ([v] ++ []))) {vs : List Value} (r : RepL s.heap vs [X]) : ∃ us, RepL s.heap us [] ∧ BindsTo s fd ⟨vs, []⟩ (ps.zip (vs ++ us)) := by
 obtain ⟨v, e⟩ := r.ex1; subst e; exact ⟨[], trivial, k _⟩
theorem bnd2 {s : Shared} {fd : FuncData} {ps : List Str} {X Y : V} (k : ∀ v u : Value, BindsTo s fd ⟨[v, u], []⟩ (ps.zip ([v, u] ++ []))) {vs : List Value} (r : RepL s.heap vs [X, Y]) : ∃ us, RepL s.heap us [] ∧ BindsTo s fd ⟨vs, []⟩ (ps.zip (vs ++ us)) := by
 obtain ⟨v, u, e⟩ := r.ex2; subst e; exact ⟨[], trivial, k _ _⟩
theorem bnd3 {s : Shared} {fd : FuncData} {ps : List Str} {X Y Z : V} (k : ∀ v u t : Value, BindsTo s fd ⟨[v, u, t], []⟩ (ps.zip ([v, u, t] ++ []))) {vs : List Value} (r : RepL s.heap vs [X, Y, Z]) : ∃ us, RepL s.heap us [] ∧ BindsTo s fd ⟨vs, []⟩ (ps.zip (vs ++ us)) := by
 obtain ⟨v, u, t, e⟩ := r.ex3; subst e; exact ⟨[], trivial, k _ _ _⟩
theorem bnd4 {s : Shared} {fd : FuncData} {ps : List Str} {X Y Z W : V} (k : ∀ v u t q : Value, BindsTo s fd ⟨[v, u, t, q], []⟩ (ps.zip ([v, u, t, q] ++ []))) {vs : List Value} (r : RepL s.heap vs [X, Y, Z, W]) : ∃ us, RepL s.heap us [] ∧ BindsTo s fd ⟨vs, []⟩ (ps.zip (vs ++ us)) := by
 obtain ⟨v, u, t, q, e⟩ := r.ex4; subst e; exact ⟨[], trivial, k _ _ _ _⟩
theorem bnd5 {s : Shared} {fd : FuncData} {ps : List Str} {X Y Z W U : V} (k : ∀ v u t q p : Value, BindsTo s fd ⟨[v, u, t, q, p], []⟩ (ps.zip ([v, u, t, q, p] ++ []))) {vs : List Value} (r : RepL s.heap vs [X, Y, Z, W, U]) : ∃ us, RepL s.heap us [] ∧ BindsTo s fd ⟨vs, []⟩ (ps.zip (vs ++ us)) := by
 obtain ⟨v, u, t, q, p, e⟩ := r.ex5; subst e; exact ⟨[], trivial, k _ _ _ _ _⟩
theorem TrAt.el {a : Arr} {t : Tr} {i : Int} {P : Prop} (h : TrAt a i t) (hi : i ≠ -1) (k : ∀ q l r, t = .node q l r → i = (q : Nat) → TrAt a (a (q, false)) l → TrAt a (a (q, true)) r → P) : P := by
 obtain ⟨q, l, r, e, f, g, h⟩ := h.node_of hi
 exact k q l r e f g h
theorem WS_forC {c : Cx} {r : Loc} {H : AH} {Q : Fl → Loc → AH → Prop} {t iter : Expr} {body : List Stmt} {p : Pos} (h : WE c r H iter (ForH c t body r Q))
 (hf : ∀ x, foldedSetIterable iter c.env x = pure x := by intro x; rfl) : WS c r H (.For t iter body [] p) Q := WS_for h hf
@[elab_as_elim] theorem mapAt {α β : Type} {f : α → β} {l : List α} {t : Nat} {X : β} {P : β → Prop} (h : (l.map f)[t]? = some X) (k : ∀ a, l[t]? = some a → P (f a)) : P X := by
 rw [List.getElem?_map] at h
 obtain ⟨a, e, rfl⟩ := Option.map_eq_some_iff.mp h
 exact k a e
@[elab_as_elim] theorem rngAt {a b : Int} {j : Nat} {X : V} {P : V → Prop} (h : (rngL a b)[j]? = some X) (k : j < (rngL a b).length → P (.int (a + j))) : P X := by
 refine mapAt h fun i e => ?_
 obtain ⟨e1, e2⟩ := List.getElem?_eq_some_iff.mp e
 rw [List.getElem_range] at e2
 subst e2
 exact k (List.getElem?_eq_some_iff.mp h).1
theorem rngLen {a b : Int} : (rngL a b).length = (b - a).toNat := by unfold rngL; rw [List.length_map, List.length_range]
noncomputable def NxC (J : LI) (i : Nat) (r : Loc) (H : AH) : Prop := ∀ P : Loc → AH → Prop, J (fun i' r' H' => i' = i + 1 → P r' H') → P r H
theorem NxC_eq {t : Tel} {i : Nat} : NxC (fun P => t.all P) i = t.inv (i + 1) := funext fun r => funext fun H => propext
 ⟨fun q => q (fun r H => t.inv (i + 1) r H) (Tel.self fun k r H q l => l ▸ q), fun q P k => q (fun i' r' H' => i' = i + 1 → P r' H') k rfl⟩
theorem LpC {c : Cx} {t : Expr} {ifs : List Expr} {vs : List V} {kp : AH → Prop} {H : AH} {r : Loc} {body : Loc → AH → (Loc → AH → Prop) → Prop} {K : Loc → AH → Prop} (I : True → True → True → Tel)
 (h0 : ∀ (P : Nat → Loc → AH → Prop) (u v : True), (I v v v).all P → P 0 r H)
 (h : ∀ (J : LI) (j : ∀ P, J P → (I ⟨⟩ ⟨⟩ ⟨⟩).all P) (u : True), (I u u u).all fun i r' H' => (i ≤ vs.length → kp H') ∧ (∀ X, vs[i]? = some X → let r0 := r'; WAc c r0 H' t X fun r2 => WIfs c r2 H' ifs fun z H2 => if z then body r2 H2 (NxC J i) else NxC J i r2 H2) ∧ (i = vs.length → K r' H')) : WLp c t ifs vs kp H r body K :=
 ⟨(I ⟨⟩ ⟨⟩ ⟨⟩).inv, fun P k => h0 P ⟨⟩ ⟨⟩ k, fun i r' H' l q => (q _ (h (fun P => (I ⟨⟩ ⟨⟩ ⟨⟩).all P) (fun _ k => k) ⟨⟩)).1 l,
  fun i X r' H' e q => NxC_eq (t := I ⟨⟩ ⟨⟩ ⟨⟩) (i := i) ▸ (q _ (h (fun P => (I ⟨⟩ ⟨⟩ ⟨⟩).all P) (fun _ k => k) ⟨⟩)).2.1 X e, fun r' H' q => (q _ (h (fun P => (I ⟨⟩ ⟨⟩ ⟨⟩).all P) (fun _ k => k) ⟨⟩)).2.2 rfl⟩
theorem wgX {p : Addr → Prop} : ∀ x ∈ ([] : List Addr), p x := fun _ h => absurd h List.not_mem_nil
theorem zaW {p : Addr → Prop} {a : Addr} {l : List Addr} (h : p a) (t : ∀ x ∈ l, p x) : ∀ x ∈ a :: l, p x := fun x hx => (List.mem_cons.mp hx).elim (fun e => e ▸ h) (t x)
theorem fa_app {p : Addr → Prop} {l m : List Addr} (h : ∀ x ∈ l, p x) (t : ∀ x ∈ m, p x) : ∀ x ∈ l ++ m, p x := fun x hx => (List.mem_append.mp hx).elim (h x) (t x)
theorem nd_cons {a : Addr} {l : List Addr} (h : ∀ x ∈ l, a ≠ x) (t : l.Nodup) : (a :: l).Nodup := List.nodup_cons.mpr ⟨fun q => h a q rfl, t⟩
theorem wkX {H H' : AH} (g : ∀ b o, H b = some o → H' b = some o) {z : Addr} (e : H' z = none) : H z = none := by
 cases q : H z with
 | none => rfl
 | some o => rw [g z o q] at e; cases e
noncomputable def kd : O → Nat
 | .list _ => 0
 | .inst _ _ => 1
 | .idict _ _ => 2
 | .fields N _ => 3 + N.length
noncomputable def kdA (H : AH) (a : Addr) : Option Nat := (H a).map kd
theorem wbY {H : AH} {a : Addr} {o : O} (h : H a = some o) : kdA H a = some (kd o) := congrArg (Option.map kd) h
theorem waQ {H : AH} {a b : Addr} {n m : Nat} (h1 : kdA H a = some n) (h2 : kdA H b = some m) (e : Nat.beq n m = false) : a ≠ b := fun q => by
 subst q
 rw [h1] at h2
 cases h2
 rw [Nat.beq_refl] at e
 cases e
theorem ne_kd {H : AH} {a b : Addr} {o o' : O} (h1 : H a = some o) (h2 : H b = some o') (e : Nat.beq (kd o) (kd o') = false) : a ≠ b := waQ (wbY h1) (wbY h2) e
theorem wfQ {l : List Addr} {a b : Addr} (h : l.Nodup) (i j : Nat) (q : Nat.beq i j = false) (e1 : l[i]? = some a) (e2 : l[j]? = some b) : a ≠ b := fun e => by
 subst e
 have h1 := (List.getElem?_eq_some_iff.mp e1).1
 have := (List.getElem?_inj h1 h).mp (e1.trans e2.symm)
 subst this
 rw [Nat.beq_refl] at q
 cases q
theorem nm_at {l : List Addr} {a b : Addr} (h : a ∉ l) (i : Nat) (e : l[i]? = some b) : a ≠ b := fun q => h (q ▸ List.mem_of_getElem? e)
theorem wcZ {l : List Addr} {b : Addr} (i : Nat) (e : l[i]? = some b) : b ∈ l := List.mem_of_getElem? e
theorem naN {a : Nat} (h1 : a ≤ 1000000000) : (a : Int).natAbs < 2 ^ 60 := Nat.lt_of_le_of_lt h1 (by decide)
theorem na60 {a : Int} (h0 : 0 ≤ a) (h1 : a ≤ 1000000000) : a.natAbs < 2 ^ 60 := (Int.eq_ofNat_of_zero_le h0).elim fun n e => by subst e; exact naN (Int.ofNat_le.mp h1)
theorem lt2 {k : Nat} (h : k < 2) : k = 0 ∨ k = 1 := (Nat.lt_succ_iff_lt_or_eq.mp h).elim (fun h => .inl (Nat.lt_one_iff.mp h)) .inr
theorem lt3 {k : Nat} (h : k < 3) : k = 0 ∨ k = 1 ∨ k = 2 := (Nat.lt_succ_iff_lt_or_eq.mp h).elim (fun h => (lt2 h).elim .inl fun e => .inr (.inl e)) fun e => .inr (.inr e)
theorem lt4 {k : Nat} (h : k < 4) : k = 0 ∨ k = 1 ∨ k = 2 ∨ k = 3 := (Nat.lt_succ_iff_lt_or_eq.mp h).elim (fun h => (lt3 h).elim .inl fun e => .inr (e.elim .inl fun e => .inr (.inl e))) fun e => .inr (.inr (.inr e))
theorem lt5 {k : Nat} (h : k < 5) : k = 0 ∨ k = 1 ∨ k = 2 ∨ k = 3 ∨ k = 4 := (Nat.lt_succ_iff_lt_or_eq.mp h).elim (fun h => (lt4 h).elim .inl fun e => .inr (e.elim .inl fun e => .inr (e.elim .inl fun e => .inr (.inl e)))) fun e => .inr (.inr (.inr (.inr e)))
theorem toN {k : Int} {n : Nat} (h0 : 0 ≤ k) (h : k < (n : Int)) : ∃ m : Nat, m < n ∧ k = m := (Int.eq_ofNat_of_zero_le h0).elim fun m e => ⟨m, Int.ofNat_lt.mp (e ▸ h), e⟩
theorem lti2 {k : Int} (h0 : 0 ≤ k) (h : k < 2) : k = 0 ∨ k = 1 := by
 obtain ⟨m, l, rfl⟩ := toN (n := 2) h0 h
 exact (lt2 l).imp (congrArg Nat.cast) (congrArg Nat.cast)
theorem lti3 {k : Int} (h0 : 0 ≤ k) (h : k < 3) : k = 0 ∨ k = 1 ∨ k = 2 := by
 obtain ⟨m, l, rfl⟩ := toN (n := 3) h0 h
 exact (lt3 l).imp (congrArg Nat.cast) (fun e => e.imp (congrArg Nat.cast) (congrArg Nat.cast))
theorem lti4 {k : Int} (h0 : 0 ≤ k) (h : k < 4) : k = 0 ∨ k = 1 ∨ k = 2 ∨ k = 3 := by
 obtain ⟨m, l, rfl⟩ := toN (n := 4) h0 h
 exact (lt4 l).imp (congrArg Nat.cast) (fun e => e.imp (congrArg Nat.cast) (fun e => e.imp (congrArg Nat.cast) (congrArg Nat.cast)))
theorem lti5 {k : Int} (h0 : 0 ≤ k) (h : k < 5) : k = 0 ∨ k = 1 ∨ k = 2 ∨ k = 3 ∨ k = 4 := by
 obtain ⟨m, l, rfl⟩ := toN (n := 5) h0 h
 exact (lt5 l).imp (congrArg Nat.cast) (fun e => e.imp (congrArg Nat.cast) (fun e => e.imp (congrArg Nat.cast) (fun e => e.imp (congrArg Nat.cast) (congrArg Nat.cast))))
theorem minc (a b : Nat) : min (a : Int) (b : Int) = ((min a b : Nat) : Int) := by
 rcases Nat.le_total a b with h | h
 ·rw [Nat.min_eq_left h, Int.min_eq_left (Int.ofNat_le.mpr h)]
 ·rw [Nat.min_eq_right h, Int.min_eq_right (Int.ofNat_le.mpr h)]
theorem sub_at {l m : List Addr} (ks : List Nat) (e : ks.map (fun i => l[i]?) = m.map some) : ∀ x ∈ m, x ∈ l := fun x hx => by
 obtain ⟨i, _, q⟩ := List.mem_map.mp (e ▸ List.mem_map.mpr ⟨x, hx, rfl⟩ : some x ∈ ks.map fun i => l[i]?)
 exact List.mem_of_getElem? q
set_option tactic.hygienic false
noncomputable def Box (H : AH) (b : Addr) : Prop := ∃ d s, H b = some (.list [.int d, .int s])
theorem zdZ {G : Gd} {lv : Nat} {b : Addr} {n : Int} {H : AH} {Q : V → AH → Prop} (hb : Box H b) (h0 : 0 < n) (h1 : n < 1000000)
 (h : ∀ k d s, 0 ≤ k → k < n → Q (.int k) (upd H b (.list [.int d, .int s]))) : waX G (lv + 1) (.ref 485) [.ref b, .int n] H Q := by
 obtain ⟨d, s, hb⟩ := hb
 refine' waY (ps := ["box", "many"]) (extra := []) ?ho (ok_law_take _) rfl rfl ?hb ?_
 case ho => k_is
 case hb => (intro s vs X r; obtain ⟨v1, v2, rfl⟩ := r.ex2; exact ⟨[], trivial, BindsTo.of_eq rfl⟩)
 intro c hN hG hK hc
 subst hc
 refine (?_ : WSs c [some (.ref b), some (.int n), none] H _ _)
 refine goS hN hG ?_
 refine St.of ?_
 refine zaU hb (by exact J00 (nat_lit 0x61a0202) rfl) (by exact J00 (nat_lit 0x71a3b9aca00b02) rfl) rfl ?_
 refine waV ?_
 refine zbY (fun hd => ?_) (fun hd => ?_)
 ·refine St.of ?_
  refine zaU hb (by exact J00 (nat_lit 0x61a0202) rfl) (by exact J00 (nat_lit 0x71a3b9aca00b02) rfl) rfl ?_
  refine St.of ?_
  refine BO_mod h0 ?_
  refine St.of ?_
  refine zaU hb (by exact J00 (nat_lit 0x61a0202) rfl) (by exact J00 (nat_lit 0x71a3b9aca00b02) rfl) rfl ?_
  refine St.of ?_
  refine BO_div h0 (by exact J01 (nat_lit 0x71a40000000b0171a000f4240b01) rfl h1) ?_
  refine St.of ?_
  refine SI_list hb (by exact J00 (nat_lit 0x61a0202) rfl) (by simp only [List.length_set, List.length_cons, List.length_nil]; exact J00 (nat_lit 0x71a84124120202) rfl) (by exact J00 (nat_lit 0x71a3b9aca00b02) rfl) ?_
  exact h _ _ _ (Int.emod_nonneg _ (by exact fun hq => Nat.lt_irrefl 0 (J01 (nat_lit 0x10a020271a010281a0201) rfl h0 hq))) (Int.emod_lt_of_pos _ h0)
 ·refine zaV ?_
  refine zaY ?_
  refine St.of ?_
  refine zaU hb (by exact J00 (nat_lit 0x61a1202) rfl) (by exact J00 (nat_lit 0x71a3b9aca00b12) rfl) rfl ?_
  refine St.of ?_
  refine wkY (by first | exact .inl (na60 (by omega) (by omega)) | exact .inr (na60 (by exact J00 (nat_lit 0x61a0000bc8fb02) rfl) (by exact J00 (nat_lit 0x61a3b9aca00b0000bc8fb) rfl)) | omega) ?_
  refine St.of ?_
  refine BO_mod (by exact J00 (nat_lit 0x71a7fffffffb02) rfl) ?_
  refine St.of ?_
  refine SI_list hb (by exact J00 (nat_lit 0x61a1202) rfl) (by simp only [List.length_set, List.length_cons, List.length_nil]; exact J00 (nat_lit 0x71a84124120212) rfl) (by exact J00 (nat_lit 0x71a3b9aca00b12) rfl) ?_
  refine St.of ?_
  refine zaU (uS _ _ _) (by exact J00 (nat_lit 0x61a1202) rfl) (by exact J00 (nat_lit 0x71a3b9aca00b12) rfl) rfl ?_
  refine St.of ?_
  refine BO_div (by exact J00 (nat_lit 0x71a400302) rfl) (by exact J00 (nat_lit 0x71a40000000b4003) rfl) ?_
  refine St.of ?_
  refine BO_mod h0 ?_
  refine zcX ?_
  exact h _ _ _ (Int.emod_nonneg _ (by exact fun hq => Nat.lt_irrefl 0 (J01 (nat_lit 0x10a020271a010281a0201) rfl h0 hq))) (Int.emod_lt_of_pos _ h0)
theorem stepsize_ok {G : Gd} {lv : Nat} {a b : Int} {H : AH} {Q : V → AH → Prop} (h : Q (.int (if a = 0 then 1 else a)) H) : waX G (lv + 1) (.ref 68) [.pr a b] H Q := by
 refine' waY (ps := ["step"]) (extra := []) ?ho (ok_step_size _) rfl rfl ?hb ?_
 case ho => k_is
 case hb => (intro s vs X r; obtain ⟨v1, rfl⟩ := r.ex1; exact ⟨[], trivial, BindsTo.of_eq rfl⟩)
 intro c hN hG hK hc
 subst hc
 refine (?_ : WSs c [some (.pr a b)] H _ _)
 refine goS hN hG ?_
 refine waV ?_
 refine zbY (fun hd => ?_) (fun hd => ?_)
 ·skip
  rw [if_pos hd] at h; exact h
 ·skip
  rw [if_neg hd] at h; exact h
theorem checkrange_ok {G : Gd} {lv : Nat} {T : List UInt8} {st most : Int} {H : AH} {Q : V → AH → Prop} (hz : T.length ≤ 100000) (h0 : 0 ≤ st) (h1 : st ≤ T.length) (h2 : 0 ≤ most) (h : Q .none H) : waX G (lv + 1) (.ref 61) [.bytes T, .int st, .int most] H Q := by
 refine' waY (ps := ["octets", "start", "most"]) (extra := []) ?ho (ok_check_range _) rfl rfl ?hb ?_
 case ho => k_is
 case hb => (intro s vs X r; obtain ⟨v1, v2, v3, rfl⟩ := r.ex3; exact ⟨[], trivial, BindsTo.of_eq rfl⟩)
 intro c hN hG hK hc
 subst hc
 refine (?_ : WSs c [some (.bytes T), some (.int st), some (.int most)] H _ _)
 refine goS hN hG ?_
 refine waV ?_
 refine ite_t (by exact J01 (nat_lit 0x61a010261a0102) rfl h0) ?_
 refine St.of ?_
 refine wgQ hz ?_
 refine waV ?_
 refine ite_nt ?_
 refine ite_t (by exact J11 (nat_lit 0x61a8010161a80101) rfl h1) ?_
 refine zaV ?_
 refine zaY ?_
 refine waV ?_
 refine whZ (by exact fun hq => Nat.lt_irrefl 0 (J01 (nat_lit 0x10a020261a010271a0201) rfl h2 hq)) ?_
 refine zaV ?_
 refine zaY ?_
 refine zaV ?_
 refine zcY ?_
 exact h
theorem limit_ok {G : Gd} {lv : Nat} {f : Addr} {T : List UInt8} {L w ch ah p most : Int} {H : AH} {Q : V → AH → Prop} (M : Mat G.w.params H f T L w ch ah) (hz : T.length ≤ 100000) (h : Q (.int (min most (T.length - p))) H) : waX G (lv + 1) (.ref 292) [.ref f, .int p, .int most] H Q := by
 refine' waY (ps := ["self", "place", "most"]) (extra := []) ?ho (ok_Matcher_limit _) rfl rfl ?hb ?_
 case ho => k_is
 case hb => (intro s vs X r; obtain ⟨v1, v2, v3, rfl⟩ := r.ex3; exact ⟨[], trivial, BindsTo.of_eq rfl⟩)
 intro c hN hG hK hc
 subst hc
 refine (?_ : WSs c [some (.ref f), some (.int p), some (.int most)] H _ _)
 refine goS hN hG ?_
 refine St.of ?_
 refine Mat.octets M ?_
 refine St.of ?_
 refine wgQ hz ?_
 refine St.of ?_
 refine C_min2 ?_
 refine zcX ?_
 exact h
theorem isnear_ok {G : Gd} {lv : Nat} {f : Addr} {T : List UInt8} {L w ch ah p q : Int} {H : AH} {Q : V → AH → Prop} (M : Mat G.w.params H f T L w ch ah) (h : Q (.bool (decide (q ≠ -1 ∧ p - q ≤ w))) H) : waX G (lv + 1) (.ref 313) [.ref f, .int p, .int q] H Q := by
 refine' waY (ps := ["self", "place", "other"]) (extra := []) ?ho (ok_Matcher_is_near _) rfl rfl ?hb ?_
 case ho => k_is
 case hb => (intro s vs X r; obtain ⟨v1, v2, v3, rfl⟩ := r.ex3; exact ⟨[], trivial, BindsTo.of_eq rfl⟩)
 intro c hN hG hK hc
 subst hc
 refine (?_ : WSs c [some (.ref f), some (.int p), some (.int q)] H _ _)
 refine goS hN hG ?_
 refine waV ?_
 refine zbY (fun hd => ?_) (fun hd => ?_)
 ·refine St.of ?_
  refine Mat.window M ?_
  have e : decide (q ≠ -1 ∧ p - q ≤ w) = decide (p - q ≤ w) := by simp [hd]
  rw [e] at h; exact h
 ·refine zcX ?_
  have e : decide (q ≠ -1 ∧ p - q ≤ w) = false := by simp at hd; simp [hd]
  rw [e] at h; exact h
theorem alike_ok {G : Gd} {lv : Nat} {f : Addr} {T : List UInt8} {L w ch ah : Int} {p q kn l : Nat} {H : AH} {Q : V → AH → Prop} (M : Mat G.w.params H f T L w ch ah) (hz : T.length ≤ 100000) (hq : q < p) (hl : p + l ≤ T.length) (hk : kn ≤ lcp (oc T) p q l)
 (h : Q (.int (lcp (oc T) p q l)) H) : waX G (lv + 1) (.ref 306) [.ref f, .int p, .int q, .int kn, .int l] H Q := by
 refine' waY (ps := ["self", "place", "other", "known", "limit"]) (extra := []) ?ho (ok_Matcher_alike _) rfl rfl ?hb ?_
 case ho => k_is
 case hb => (intro s vs X r; obtain ⟨v1, v2, v3, v4, v5, rfl⟩ := r.ex5; exact ⟨[], trivial, BindsTo.of_eq rfl⟩)
 intro c hN hG hK hc
 subst hc
 refine (?_ : WSs c [some (.ref f), some (.int p), some (.int q), some (.int kn), some (.int l), none] H _ _)
 refine goS hN hG ?_
 refine St.of ?_
 refine Mat.octets M ?_
 refine St.of ?_
 refine whY (fun n r' H' => ∃ j : Nat, n = lcp (oc T) p q l - j ∧ j ≤ lcp (oc T) p q l ∧ H' = H ∧ r' = [some (.ref f), some (.int p), some (.int q), some (.int j), some (.int l), some (.bytes T)]) _ ⟨kn, rfl, hk, rfl, rfl⟩ ?_
 rintro n r' H' ⟨j, rfl, hj, rfl, rfl⟩
 have hle := lcp_le (oc T) p q l
 refine goT hN hG ?_
 refine waV ?_
 refine zbY (fun h1 => ?_) (fun h1 => ?_)
 ·refine St.of ?_
  refine wiQ (by exact J20 (nat_lit 0x61a481180102) rfl) (by exact J40 (nat_lit 0x71a821481180101a214310171a831811) rfl hl h1) hz ?_
  refine St.of ?_
  refine wiQ (by exact J20 (nat_lit 0x61a481180102) rfl) (by exact J50 (nat_lit 0x71a821481180111a310101a214413171a841811) rfl hq hl h1) hz ?_
  refine waV ?_
  have e1 : ((p : Int) + (j : Int)).toNat = p + j := by exact Nat.le_antisymm (J30 (nat_lit 0x1a421110181a4821811801) rfl (Int.toNat_of_nonneg (J20 (nat_lit 0x61a481180102) rfl))) (J30 (nat_lit 0x1a214110191a4811801821) rfl (Int.toNat_of_nonneg (J20 (nat_lit 0x61a481180102) rfl)))
  have e2 : ((q : Int) + (j : Int)).toNat = q + j := by exact Nat.le_antisymm (J30 (nat_lit 0x1a421110181a4821811801) rfl (Int.toNat_of_nonneg (J20 (nat_lit 0x61a481180102) rfl))) (J30 (nat_lit 0x1a214110191a4811801821) rfl (Int.toNat_of_nonneg (J20 (nat_lit 0x61a481180102) rfl)))
  simp only [e1, e2]
  refine zbY (fun h2 => ?_) (fun h2 => ?_)
  ·skip
   have hj2 : j < lcp (oc T) p q l := by
    rcases Nat.lt_or_ge j (lcp (oc T) p q l) with g | g
    ·exact g
    ·have : lcp (oc T) p q l = j := by exact Nat.le_antisymm (J20 (nat_lit 0x1a110101a1101) rfl g) (J20 (nat_lit 0x1a110101a1101) rfl hj)
     have ne := lcp_ne (o := oc T) (p := p) (q := q) (l := l) (by exact J30 (nat_lit 0x11a110171a81182101a2101) rfl h1 g)
     rw [this] at ne; exact absurd (Int.ofNat.inj h2) ne
   refine isWSs ?_
   refine goS hN hG ?_
   refine St.of ?_
   refine IO_add ?_
   refine zaV ?_
   exact ⟨_, by exact J40 (nat_lit 0x11a110121a314412210131a3142111) rfl (Nat.sub_add_cancel (J20 (nat_lit 0x1a114120111a1101) rfl hj2)) (Nat.sub_add_cancel (J20 (nat_lit 0x1a110111a1101) rfl hj2)), j + 1, rfl, hj2, rfl, rfl⟩
  ·have : lcp (oc T) p q l = j := by
    rcases Nat.lt_or_ge j (lcp (oc T) p q l) with g | g
    ·exact absurd (congrArg Int.ofNat (wdY g)) h2
    ·exact Nat.le_antisymm (J20 (nat_lit 0x1a110101a1101) rfl g) (J20 (nat_lit 0x1a110101a1101) rfl hj)
   refine weU ?_
   refine zaY ?_
   rw [this] at h; exact h
 ·have : lcp (oc T) p q l = j := by exact Nat.le_antisymm (J30 (nat_lit 0x1a110101a2101b1a821811) rfl hle h1) (J20 (nat_lit 0x1a110101a1101) rfl hj)
  refine weU ?_
  refine zaY ?_
  rw [this] at h; exact h
set_option tactic.hygienic false
structure wbU (H : AH) (rw dx la be : Addr) (T : List UInt8) (s k : Nat) : Prop where
 inst : H rw = some (.inst 246 dx)
 fl : H dx = some (.fields wbX [.bytes T, .int s, .ref la, .ref be])
 last : ∃ n d, n ≤ k ∧ H la = some (.idict n d) ∧ ∀ i, (d i).getD (-1) = prev (same (oc T) T.length s i) k
 bef : ∃ bs : List Int, H be = some (.list (bs.map V.int)) ∧ bs.length = T.length ∧ ∀ q, q < k → q + s ≤ T.length → bs.getD q (-1) = prev (same (oc T) T.length s (key (oc T) q s)) q
theorem wbU.kla {H : AH} {rw dx la be : Addr} {T : List UInt8} {s k : Nat} (R : wbU H rw dx la be T s k) : kdA H la = some 2 := R.last.elim fun _ ⟨_, _, h, _⟩ => wbY h
theorem wbU.kbe {H : AH} {rw dx la be : Addr} {T : List UInt8} {s k : Nat} (R : wbU H rw dx la be T s k) : kdA H be = some 0 := R.bef.elim fun _ h => wbY h.1
theorem key_ok {G : Gd} {lv : Nat} {rw dx la be : Addr} {T : List UInt8} {s k p : Nat} {H : AH} {Q : V → AH → Prop} (R : wbU H rw dx la be T s k) (hz : T.length ≤ 100000) (hp : p ≤ T.length)
 (h1 : p + s ≤ T.length → Q (.int (key (oc T) p s)) H) (h2 : T.length < p + s → Q .none H) : waX G (lv + 1) (.ref 229) [.ref rw, .int p] H Q := by
 have r1 := R.inst
 have r2 := R.fl
 refine' waY (ps := ["self", "place"]) (extra := []) ?ho (ok_PlaceRow_key _) rfl rfl ?hb ?_
 case ho => k_is
 case hb => exact fun s vs _ r => bnd2 (fun _ _  => BindsTo.of_eq rfl) r
 intro c hN hG hK hc
 subst hc
 refine (let r0 : Loc := [some (.ref rw), some (.int p), none, none]; (?_ : WSs c r0 _ _ _))
 refine goS hN hG ?_
 refine St.of ?_
 refine AC r1 r2 (zaZ rfl) rfl ?_
 refine St.of ?_
 refine wgQ hz ?_
 refine waV ?_
 refine ite_nt ?_
 refine ite_t (by exact J20 (nat_lit 0x61a81180101a1101) rfl hp) ?_
 refine zaV ?_
 refine zaY ?_
 refine St.of ?_
 refine AC r1 r2 (zaZ rfl) rfl ?_
 refine St.of ?_
 refine AC r1 r2 (zaZ rfl) rfl ?_
 refine St.of ?_
 refine wgQ hz ?_
 refine waV ?_
 refine zbY (fun h0 => ?_) (fun h0 => ?_)
 ·skip
  exact h2 (by exact J30 (nat_lit 0x11a421110171a4821811801) rfl h0)
 ·refine zaV ?_
  refine zaY ?_
  refine St.of ?_
  refine WS_for ?_
  refine goE hN hG ?_
  refine St.of ?_
  refine AC r1 r2 (zaZ rfl) rfl ?_
  refine St.of ?_
  refine AC r1 r2 (zaZ rfl) rfl ?_
  refine St.of ?_
  refine SL_bytes (by unfold szL; exact J10 (nat_lit 0x1a01000000b0101a000186a0b01) rfl hz) (show okB _ from Int.natCast_nonneg _) (show (0 : Int) ≤ _ by exact J20 (nat_lit 0x61a481180102) rfl) ?_
  have es : slV T (some (p : Int)) (some ((p : Int) + (s : Int))) = (T.drop p).take s := by
   unfold slV
   show (T.drop p).take (((p : Int) + (s : Int)).toNat - p) = _
   congr 1; exact Nat.le_antisymm (J40 (nat_lit 0x1a110121a314210181a4811821831) rfl (Nat.sub_add_cancel (J30 (nat_lit 0x1a110191a4821801811) rfl (Int.toNat_of_nonneg (J20 (nat_lit 0x61a481180102) rfl)))) (Int.toNat_of_nonneg (J30 (nat_lit 0x61a48118010281a4811801821) rfl (Int.toNat_of_nonneg (J20 (nat_lit 0x61a481180102) rfl))))) (J40 (nat_lit 0x1a110101a431112191a4801831821) rfl (sbA _ _) (Int.toNat_of_nonneg (J20 (nat_lit 0x61a481180102) rfl)))
  have hlen : ((T.drop p).take s).length = s := by rw [List.length_take, List.length_drop]; omega
  rw [es]
  refine ⟨_, _, (fun i r' H' => H' = H ∧ ∃ x, r' = [some (.ref rw), some (.int p), some (.int (key (oc T) p i)), x]), Iter_bytes, ⟨rfl, _, rfl⟩, fun _ _ _ _ _ => trivial, ?_, ?_⟩
  ·rintro i X r' H' hX ⟨rfl, x, rfl⟩
   have hi : i < s := by have := (List.getElem?_eq_some_iff.mp hX).1; rw [List.length_map, hlen] at this; exact this
   have eX : X = .int (oc T (p + i)) := by
    rw [List.getElem?_map, List.getElem?_take, if_pos hi, List.getElem?_drop] at hX
    obtain ⟨b, hb, rfl⟩ := Option.map_eq_some_iff.mp hX
    unfold oc
    rw [List.getD_eq_getElem?_getD, hb]; rfl
   subst eX
   refine goA hN rfl ?_
   refine goS hN hG ?_
   refine St.of ?_
   refine wkY (by first | exact .inl (na60 (by omega) (by omega)) | exact .inr (na60 (by exact J00 (nat_lit 0x61a100302) rfl) (by exact J00 (nat_lit 0x61a3b9aca00b1003) rfl)) | omega) ?_
   refine wbW ?_
   refine ⟨rfl, some (.int (oc T (p + i))), ?_⟩
   have : ((key (oc T) p (i + 1) : Nat) : Int) = (key (oc T) p i : Int) * 256 + (oc T (p + i) : Int) := by
    show ((key (oc T) p i * 256 + oc T (p + i) : Nat) : Int) = _
    omega
   rw [this]; rfl
  ·rintro r' H' ⟨rfl, x, rfl⟩
   refine zaY ?_
   rw [List.length_map, hlen]
   exact h1 (by exact J30 (nat_lit 0x1a2141101b1a4811801821) rfl h0)
theorem wbU.ext {H H' : AH} {rw dx la be : Addr} {T : List UInt8} {s k : Nat} (R : wbU H rw dx la be T s k) (e1 : H' rw = H rw) (e2 : H' dx = H dx) (e3 : H' la = H la) (e4 : H' be = H be) : wbU H' rw dx la be T s k :=
 ⟨e1.trans R.inst, e2.trans R.fl, by rw [e3]; exact R.last, by rw [e4]; exact R.bef⟩
theorem newest_ok {G : Gd} {lv : Nat} {rw dx la be : Addr} {T : List UInt8} {s p : Nat} {H : AH} {Q : V → AH → Prop} (R : wbU H rw dx la be T s p) (hz : T.length ≤ 100000) (hp : p ≤ T.length)
 (h : Q (.int (waW (oc T) T.length s p)) H) : waX G (lv + 2) (.ref 243) [.ref rw, .int p] H Q := by
 have r1 := R.inst
 have r2 := R.fl
 refine' waY (ps := ["self", "place"]) (extra := []) ?ho (ok_PlaceRow_newest _) rfl rfl ?hb ?_
 case ho => k_is
 case hb => exact fun s vs _ r => bnd2 (fun _ _  => BindsTo.of_eq rfl) r
 intro c hN hG hK hc
 subst hc
 refine (let r0 : Loc := [some (.ref rw), some (.int p), none, none]; (?_ : WSs c r0 _ _ _))
 refine goS hN hG ?_
 refine St.of ?_
 refine MC r1 r2 (zbZ rfl rfl) ?_
 refine St.of ?_
 refine waZ hK (by exact J10 (nat_lit 0x1a4120141201) rfl) (key_ok (lv := lv) R hz hp (fun h0 => ?_) (fun h0 => ?_))
 ·refine St.of ?_
  refine AC r1 r2 (zaZ rfl) rfl ?_
  refine St.of ?_
  obtain ⟨n, d, hn, r3, r4⟩ := R.last
  refine MB_get r3 ?_
  refine St.of ?_
  refine C_get r3 ?_
  refine St.of ?_
  rw [r4]
  refine whY (fun n r' H' => H' = H ∧ r' = [some (.ref rw), some (.int p), some (.int (key (oc T) p s)), some (.int (prev (same (oc T) T.length s (key (oc T) p s)) p))]) 0 ⟨rfl, rfl⟩ ?_
  rintro n r' H' ⟨rfl, rfl⟩
  have := prev_lt (same (oc T) T.length s (key (oc T) p s)) p
  refine goT hN hG ?_
  refine waV ?_
  refine whZ (by exact fun hq => Nat.lt_irrefl 0 (J11 (nat_lit 0x10a020271a8010161a01801) rfl this hq)) ?_
  refine zaY ?_
  unfold waW at h
  rw [if_pos h0] at h; exact h
 ·skip
  unfold waW at h
  rw [if_neg (by exact fun hq => Nat.lt_irrefl 0 (J30 (nat_lit 0x10a020211a421110101a0142111) rfl h0 hq))] at h; exact h
theorem rowput_ok {G : Gd} {lv : Nat} {rw dx la be : Addr} {T : List UInt8} {s k : Nat} {H : AH} {Q : V → AH → Prop} (R : wbU H rw dx la be T s k) (hz : T.length ≤ 100000) (hk : k < T.length)
 (h : ∀ H', wbU H' rw dx la be T s (k + 1) → (∀ a, a ≠ la → a ≠ be → H' a = H a) → Q .none H') : waX G (lv + 2) (.ref 236) [.ref rw, .int k] H Q := by
 have r1 := R.inst
 have r2 := R.fl
 obtain ⟨n, d, hn, r3, r4⟩ := R.last
 obtain ⟨bs, r5, r6, r7⟩ := R.bef
 have ne1 : rw ≠ la := zbW r1 r3 (fun e => by cases e)
 have ne2 : rw ≠ be := zbW r1 r5 (fun e => by cases e)
 have ne3 : dx ≠ la := zbW r2 r3 (fun e => by cases e)
 have ne4 : dx ≠ be := zbW r2 r5 (fun e => by cases e)
 have ne5 : la ≠ be := zbW r3 r5 (fun e => by cases e)
 have hlb : (bs.map V.int).length = T.length := by rw [List.length_map, r6]
 refine' waY (ps := ["self", "place"]) (extra := []) ?ho (ok_PlaceRow_put _) rfl rfl ?hb ?_
 case ho => k_is
 case hb => exact fun s vs _ r => bnd2 (fun _ _  => BindsTo.of_eq rfl) r
 intro c hN hG hK hc
 subst hc
 refine (let r0 : Loc := [some (.ref rw), some (.int k), none]; (?_ : WSs c r0 _ _ _))
 refine goS hN hG ?_
 refine St.of ?_
 refine MC r1 r2 (zbZ rfl rfl) ?_
 refine St.of ?_
 refine waZ hK (by exact J10 (nat_lit 0x1a4120141201) rfl) (key_ok (lv := lv) R hz (by exact J20 (nat_lit 0x1a110111a1101) rfl hk) (fun h0 => ?_) (fun h0 => ?_))
 ·refine St.of ?_
  refine AC r1 r2 (zaZ rfl) rfl ?_
  refine St.of ?_
  refine MB_get r3 ?_
  refine St.of ?_
  refine C_get r3 ?_
  refine St.of ?_
  refine AC r1 r2 (zaZ rfl) rfl ?_
  refine St.of ?_
  refine SI_list r5 (by exact J10 (nat_lit 0x61a80102) rfl) (by exact J30 (nat_lit 0x71a81180111a210131a2111) rfl hk hlb) (by exact J20 (nat_lit 0x71a3b9aca00b80101a000186a0b1111a1101) rfl hz hk) ?_
  refine St.of ?_
  refine AC (lkn ne2 r1) (lkn ne4 r2) (zaZ rfl) rfl ?_
  refine St.of ?_
  refine SI_dict (n := n) (d := d) ((lkn ne5 r3)) (by exact J30 (nat_lit 0x1a000f4240b0101a000186a0b1111a112101a2101) rfl hz hk hn) ?_
  refine zaV ?_
  refine zaY ?_
  refine zaV ?_
  refine zcY ?_
  refine h _ ⟨(lkn ne1 (lkn ne2 r1)), (lkn ne3 (lkn ne4 r2)), ⟨n + 1, _, by exact J20 (nat_lit 0x1a412114120101a1101) rfl hn, uS _ _ _, fun i => ?_⟩, ⟨bs.set k (prev (same (oc T) T.length s (key (oc T) k s)) k), ?_, by rw [List.length_set]; exact r6, fun q hq hs => ?_⟩⟩ fun a a1 a2 => ?_
  ·show (if i = (key (oc T) k s : Int) then some (k : Int) else d i).getD (-1) = if same (oc T) T.length s i k = true then (k : Int) else prev (same (oc T) T.length s i) k
   by_cases e : i = (key (oc T) k s : Int)
   ·subst e
    rw [if_pos rfl, if_pos (same_key h0)]; rfl
   ·rw [if_neg e, if_neg (by unfold same; simp; intro _ e'; exact e e'.symm)]; exact r4 i
  ·rw [zbX _ _ (Ne.symm ne5), uS, Int.toNat_natCast, List.map_set, r4]
  ·rcases Nat.lt_or_ge q k with g | g
   ·rw [List.getD_eq_getElem?_getD, List.getElem?_set_ne (by exact fun hq => Nat.lt_irrefl 0 (J20 (nat_lit 0x10a020211a110121a0111) rfl g hq)), ← List.getD_eq_getElem?_getD]; exact r7 q g hs
   ·have : q = k := by exact Nat.le_antisymm (J20 (nat_lit 0x1a110111a4121101) rfl hq) (J20 (nat_lit 0x1a110101a1101) rfl g)
    subst this
    rw [List.getD_eq_getElem?_getD, List.getElem?_set_self (by exact J30 (nat_lit 0x11a110131a211111a2101) rfl r6 hk)]; rfl
  ·rw [zbX _ _ a1, zbX _ _ a2]
 ·skip
  have sk : ∀ i, same (oc T) T.length s i k = false := fun i => by unfold same; simp; intro e; exact fun hq => Nat.lt_irrefl 0 (J30 (nat_lit 0x10a020211a421110101a0142111) rfl h0 e)
  refine h _ ⟨r1, r2, ⟨n, d, by exact J20 (nat_lit 0x1a412110101a1101) rfl hn, r3, fun i => ?_⟩, ⟨bs, r5, r6, fun q hq hs => r7 q (by exact J40 (nat_lit 0x11a110111a431112101a2143101) rfl h0 hs) hs⟩⟩ fun a _ _ => rfl
  show _ = if same (oc T) T.length s i k = true then (k : Int) else prev (same (oc T) T.length s i) k
  rw [sk]; exact r4 i
theorem rowinit_ok {G : Gd} {lv : Nat} {T : List UInt8} {s : Nat} {H : AH} {Q : V → AH → Prop} (hz : T.length ≤ 100000) (hs : 1 ≤ s)
 (h : ∀ H' rw dx la be, wbU H' rw dx la be T s 0 → H rw = none → H dx = none → H la = none → H be = none → (∀ a o, H a = some o → H' a = some o) → Q (.ref rw) H') : waX G (lv + 2) (.ref 246) [.bytes T, .int s] H Q := by
 refine wiW wbX new_PlaceRow fun a dx ha hdx hne => ?_
 have m : IsInit := .mk
 generalize hH1 : upd (upd H dx (.fields wbX [])) a (.inst 246 dx) = H1
 have i1 : H1 a = some (.inst 246 dx) := by rw [← hH1]; exact uS _ _ _
 have i2 : H1 dx = some (.fields wbX []) := by rw [← hH1]; exact (lkn (Ne.symm hne) (uS _ _ _))
 have i3 : ∀ b o, H b = some o → H1 b = some o := fun b o e => by rw [← hH1]; exact lkn (nW e ha) (lkn (nW e hdx) e)
 have i4 : ∀ b, H1 b = none → H b = none := fun b e => by
  cases q : H b with
  | none => rfl
  | some o => rw [i3 b o q] at e; cases e
 refine' waY (ps := ["self", "octets", "size"]) (extra := []) ?ho (ok_PlaceRow_init _) rfl rfl ?hb ?_
 case ho => k_is
 case hb => (intro s vs X r; obtain ⟨v1, v2, v3, rfl⟩ := r.ex3; exact ⟨[], trivial, BindsTo.of_eq rfl⟩)
 intro c hN hG hK hc
 subst hc
 refine (?_ : WSs c [some (.ref a), some (.bytes T), some (.int s)] H1 _ _)
 refine goS hN hG ?_
 refine waV ?_
 refine whZ (by exact fun hq => Nat.lt_irrefl 0 (J10 (nat_lit 0x10a020201a011271a12801) rfl hs hq)) ?_
 refine zaV ?_
 refine zaY ?_
 refine St.of ?_
 refine NAc i1 i2 (zaZ rfl) rfl rfl ?_
 refine St.of ?_
 refine NAc (lkn hne i1) (uS _ _ _) (zaZ rfl) rfl rfl ?_
 intro la hla
 refine St.of ?_
 refine NAc (lkn (nnx hla ⟨_, (lkn hne (lkn hne ‹_›))⟩) (lkn hne (lkn hne i1))) (lkn (nnx hla ⟨_, (uS _ _ _)⟩) (uS _ _ _)) (zaZ rfl) rfl rfl ?_
 refine wbW ?_
 refine ⟨by decide, fun x hx => ?_⟩
 refine St.of ?_
 refine wgQ hz ?_
 refine St.of ?_
 refine whV (uS _ _ _) (by simp) (by exact J10 (nat_lit 0x61a8019000f4240b) rfl) (by exact J10 (nat_lit 0x61a000f4240b80101a000186a0b01) rfl hz) (by simp; exact J10 (nat_lit 0x1a000f4240b0101a000186a0b01) rfl hz) fun be hbe => ?_
 refine St.of ?_
 refine NAc (lkn (nnx hbe ⟨_, (lkn (nnx hx ⟨_, (lkn hne (lkn (nnx hla ⟨_, (lkn hne (lkn hne ‹_›))⟩) (lkn hne (lkn hne ‹_›))))⟩) (lkn hne (lkn (nnx hla ⟨_, (lkn hne (lkn hne ‹_›))⟩) (lkn hne (lkn hne ‹_›)))))⟩) (lkn (nnx hx ⟨_, (lkn hne (lkn (nnx hla ⟨_, (lkn hne (lkn hne ‹_›))⟩) (lkn hne (lkn hne ‹_›))))⟩) (lkn hne (lkn (nnx hla ⟨_, (lkn hne (lkn hne ‹_›))⟩) (lkn hne (lkn hne i1)))))) (lkn (nnx hbe ⟨_, (lkn (nnx hx ⟨_, (uS _ _ _)⟩) (uS _ _ _))⟩) (lkn (nnx hx ⟨_, (uS _ _ _)⟩) (uS _ _ _))) (zaZ rfl) rfl rfl ?_
 refine zaV ?_
 refine zcY ?_
 refine nonq ?_
 refine h _ a dx la be ⟨(lkn hne (lkn (nnx hbe ⟨_, (lkn (nnx hx ⟨_, (lkn hne (lkn (nnx hla ⟨_, (lkn hne (lkn hne ‹_›))⟩) (lkn hne (lkn hne ‹_›))))⟩) (lkn hne (lkn (nnx hla ⟨_, (lkn hne (lkn hne ‹_›))⟩) (lkn hne (lkn hne ‹_›)))))⟩) (lkn (nnx hx ⟨_, (lkn hne (lkn (nnx hla ⟨_, (lkn hne (lkn hne ‹_›))⟩) (lkn hne (lkn hne ‹_›))))⟩) (lkn hne (lkn (nnx hla ⟨_, (lkn hne (lkn hne ‹_›))⟩) (lkn hne (lkn hne i1))))))), uS _ _ _, ⟨0, fun _ => none, Nat.le_refl _, (lkn (Ne.symm (nnx hla ⟨_, (uS _ _ _)⟩)) (lkn (nnx hbe ⟨_, (lkn (nnx hx ⟨_, (lkn (Ne.symm (nnx hla ⟨_, (uS _ _ _)⟩)) (uS _ _ _))⟩) (lkn (Ne.symm (nnx hla ⟨_, (uS _ _ _)⟩)) (uS _ _ _)))⟩) (lkn (nnx hx ⟨_, (lkn (Ne.symm (nnx hla ⟨_, (uS _ _ _)⟩)) (uS _ _ _))⟩) (lkn (Ne.symm (nnx hla ⟨_, (uS _ _ _)⟩)) (uS _ _ _))))), fun i => rfl⟩, ⟨List.replicate T.length (-1), ?_, by simp, fun q hq => absurd hq (Nat.not_lt_zero _)⟩⟩ ha hdx (i4 _ (zaQ (zaQ hla))) (i4 _ (zaQ (zaQ (zaQ (zaQ (zaQ hbe)))))) fun b o e => ?_
 ·rw [zbX _ _ (show be ≠ dx from (Ne.symm (nnx hbe ⟨_, (lkn (nnx hx ⟨_, (uS _ _ _)⟩) (uS _ _ _))⟩))), uS, flat_one, Int.toNat_natCast]
 ·have hb := i3 b o e
  have hbd : b ≠ dx := nW e hdx
  exact (lkn hbd (lkn (nnx hbe ⟨_, (lkn (nnx hx ⟨_, (lkn hbd (lkn (nnx hla ⟨_, (lkn hbd (lkn hbd ‹_›))⟩) (lkn hbd (lkn hbd ‹_›))))⟩) (lkn hbd (lkn (nnx hla ⟨_, (lkn hbd (lkn hbd ‹_›))⟩) (lkn hbd (lkn hbd ‹_›)))))⟩) (lkn (nnx hx ⟨_, (lkn hbd (lkn (nnx hla ⟨_, (lkn hbd (lkn hbd ‹_›))⟩) (lkn hbd (lkn hbd ‹_›))))⟩) (lkn hbd (lkn (nnx hla ⟨_, (lkn hbd (lkn hbd ‹_›))⟩) (lkn hbd (lkn hbd hb)))))))
set_option tactic.hygienic false
noncomputable def nV (s : Nat × Nat) : V := .pr s.1 s.2
theorem snocV {f : List (Nat × Nat)} {a b : Nat} : f.map nV ++ [V.pr (a : Int) (b : Int)] = (f ++ [(a, b)]).map nV := (List.map_append (f := nV) (l₁ := f) (l₂ := [(a, b)])).symm
theorem matinit_ok {G : Gd} {lv : Nat} {f C dx : Addr} {N : List Str} {T : List UInt8} {L w ch : Int} {H : AH} {Q : V → AH → Prop} (i1 : H f = some (.inst C dx)) (i2 : H dx = some (.fields N [])) (F : ClsF G.w.params C N)
 (n0 : N[0]? = some ("octets" : Str)) (n1 : N[1]? = some ("least" : Str)) (n2 : N[2]? = some ("window" : Str)) (n3 : N[3]? = some ("chain" : Str)) (n4 : N[4]? = some ("ahead" : Str)) (hL : 1 ≤ L) (hw : 1 ≤ w) (hc : 1 ≤ ch)
 (h : Q .none (upd H dx (.fields N [.bytes T, .int L, .int w, .int ch, .int 0]))) : waX G (lv + 1) (.ref 264) [.ref f, .bytes T, .int L, .int w, .int ch] H Q := by
 have ne : f ≠ dx := zbW i1 i2 (fun e => by cases e)
 have m : IsInit := .mk
 refine' waY (ps := ["self", "octets", "least", "window", "chain"]) (extra := []) ?ho (ok_Matcher_init _) rfl rfl ?hb ?_
 case ho => k_is
 case hb => exact fun s vs _ r => bnd5 (fun _ _ _ _ _  => BindsTo.of_eq rfl) r
 intro c hN hG hK hc
 subst hc
 refine (let r0 : Loc := [some (.ref f), some (.bytes T), some (.int L), some (.int w), some (.int ch)]; (?_ : WSs c r0 _ _ _))
 refine goS hN hG ?_
 refine waV ?_
 refine whZ (by exact fun hq => Nat.lt_irrefl 0 (J01 (nat_lit 0x10a020261a011271a1201) rfl hL hq)) ?_
 refine zaV ?_
 refine zaY ?_
 refine waV ?_
 refine whZ (by exact fun hq => Nat.lt_irrefl 0 (J01 (nat_lit 0x10a020261a011271a1201) rfl hw hq)) ?_
 refine zaV ?_
 refine zaY ?_
 refine waV ?_
 refine whZ (by exact fun hq => Nat.lt_irrefl 0 (J01 (nat_lit 0x10a020261a011271a1201) rfl hc hq)) ?_
 refine zaV ?_
 refine zaY ?_
 refine St.of ?_
 refine C_bytes_bytes ?_
 refine St.of ?_
 refine NAs i1 i2 F n0 (Nat.le_of_ble_eq_true rfl) ?_
 refine St.of ?_
 refine NAs (lkn ne i1) (uS _ _ _) F n1 (Nat.le_of_ble_eq_true rfl) ?_
 refine St.of ?_
 refine NAs (lkn ne (lkn ne i1)) (uS _ _ _) F n2 (Nat.le_of_ble_eq_true rfl) ?_
 refine St.of ?_
 refine NAs (lkn ne (lkn ne (lkn ne i1))) (uS _ _ _) F n3 (Nat.le_of_ble_eq_true rfl) ?_
 refine St.of ?_
 refine NAs (lkn ne (lkn ne (lkn ne (lkn ne i1)))) (uS _ _ _) F n4 (Nat.le_of_ble_eq_true rfl) ?_
 refine zaV ?_
 refine zcY ?_
 simp only [wcU]
 exact h
theorem matput_ok {G : Gd} {lv : Nat} {f C dx fe : Addr} {N : List Str} {Xs : List V} {T : List UInt8} {L w ch : Int} {k : Nat} {H : AH} {Q : V → AH → Prop} (M : Mat G.w.params H f T L w ch k) (i1 : H f = some (.inst C dx)) (i2 : H dx = some (.fields N Xs)) (Me : wbV G.w.params C N "enter" fe) (n4 : N[4]? = some ("ahead" : Str))
 (hx : 4 < Xs.length) (hx2 : Xs.length ≤ 100) (hz : T.length ≤ 100000) (hk : k < T.length)
 (h : waX G lv (.ref fe) [.ref f, .int k] (upd H dx (.fields N (Xs.set 4 (.int (k + 1))))) (fun X H' => X = .none ∧ Q .none H')) : waX G (lv + 1) (.ref 271) [.ref f, .int k] H Q := by
 have ne : f ≠ dx := zbW i1 i2 (fun e => by cases e)
 have F : ClsF G.w.params C N := Me.cls
 refine' waY (ps := ["self", "place"]) (extra := []) ?ho (ok_Matcher_put _) rfl rfl ?hb ?_
 case ho => k_is
 case hb => exact fun s vs _ r => bnd2 (fun _ _  => BindsTo.of_eq rfl) r
 intro c hN hG hK hc
 subst hc
 refine (let r0 : Loc := [some (.ref f), some (.int k)]; (?_ : WSs c r0 _ _ _))
 refine goS hN hG ?_
 refine St.of ?_
 refine Mat.ahead M ?_
 refine waV ?_
 refine whZ (by exact fun hq => Nat.lt_irrefl 0 (J10 (nat_lit 0x10a020271a801801) rfl hq)) ?_
 refine St.of ?_
 refine Mat.octets M ?_
 refine St.of ?_
 refine wgQ hz ?_
 refine waV ?_
 refine whZ (by exact fun hq => Nat.lt_irrefl 0 (J20 (nat_lit 0x10a020211a110161a801811) rfl hk hq)) ?_
 refine St.of ?_
 refine SAs 4 i1 i2 F n4 hx2 hx ?_
 refine St.of ?_
 refine MC (lkn ne i1) (uS _ _ _) Me ?_
 refine St.of ?_
 refine waZ hK (Nat.le_refl _) (h.mono fun X H' q => ?_)
 obtain ⟨rfl, q⟩ := q
 refine zaV ?_
 refine zcY ?_
 exact q
theorem matbest_ok {G : Gd} {lv : Nat} {f C dx fe : Addr} {N : List Str} {Xs : List V} {p most : Int} {H : AH} {Q : V → AH → Prop} (i1 : H f = some (.inst C dx)) (i2 : H dx = some (.fields N Xs)) (Me : wbV G.w.params C N "every" fe)
 (h : waX G lv (.ref fe) [.ref f, .int p, .int most] H (fun X H' => ∃ (l : Addr) (ps : List (Nat × Nat)), X = .ref l ∧ H' l = some (.list (ps.map nV)) ∧ ps.length ≤ 100000 ∧ Q (nV (ps.getLast?.getD (0, 0))) H')) : waX G (lv + 1) (.ref 334) [.ref f, .int p, .int most] H Q := by
 refine' waY (ps := ["self", "place", "most"]) (extra := []) ?ho (ok_Matcher_best _) rfl rfl ?hb ?_
 case ho => k_is
 case hb => exact fun s vs _ r => bnd3 (fun _ _ _  => BindsTo.of_eq rfl) r
 intro c hN hG hK hc
 subst hc
 refine (let r0 : Loc := [some (.ref f), some (.int p), some (.int most), none]; (?_ : WSs c r0 _ _ _))
 refine goS hN hG ?_
 refine St.of ?_
 refine MC i1 i2 Me ?_
 refine St.of ?_
 refine waZ hK (Nat.le_refl _) (h.mono fun X H' q => ?_)
 obtain ⟨l, ps, rfl, hl, hz, q⟩ := q
 have hlm : (ps.map nV).length = ps.length := by simp
 refine St.of ?_
 refine C_lenl hl (by exact J20 (nat_lit 0x1a000186a0b0101a000186a0b1121a1101) rfl hz hlm) ?_
 refine waV ?_
 rw [hlm]
 refine zbY (fun h0 => ?_) (fun h0 => ?_)
 ·refine St.of ?_
  refine GI_listneg (X := nV (ps.getLast?.getD (0, 0))) hl (by exact J00 (nat_lit 0x71a02912) rfl) (by exact J20 (nat_lit 0x61a912980131a110171a81102) rfl hlm h0) (by unfold szL; exact J20 (nat_lit 0x1a01000000b0101a000186a0b1121a1101) rfl hz hlm) ?_ ?_
  ·have e : (-1 + ((ps.map nV).length : Int)).toNat = ps.length - 1 := by exact Nat.le_antisymm (J40 (nat_lit 0x1a110121a312181a482191280131a3141211) rfl hlm (Int.toNat_of_nonneg (J20 (nat_lit 0x61a48019120231a110171a81102) rfl hlm h0)) (Nat.sub_add_cancel (J10 (nat_lit 0x1a011271a80102) rfl h0))) (J40 (nat_lit 0x1a110131a312191a482191281121a3141201) rfl hlm (Int.toNat_of_nonneg (J20 (nat_lit 0x61a48019120231a110171a81102) rfl hlm h0)) (Nat.sub_add_cancel (J10 (nat_lit 0x1a011271a80102) rfl h0)))
   rw [e, List.getElem?_map, List.getLast?_eq_getElem?]
   have : ps.length - 1 < ps.length := by exact J20 (nat_lit 0x11a110121a1141201) rfl (Nat.sub_add_cancel (J10 (nat_lit 0x1a011271a80102) rfl h0))
   rw [List.getElem?_eq_getElem this]; rfl
  ·refine zcX ?_
   exact q
 ·have : ps = [] := List.length_eq_zero_iff.mp (by exact Nat.le_antisymm (J10 (nat_lit 0x1a0201b1a80102) rfl h0) (J10 (nat_lit 0x1a0102) rfl))
  subst this
  exact q
set_option tactic.hygienic false
structure wdQ (H : AH) (f dx rw dxr la be : Addr) (T : List UInt8) (w k : Nat) : Prop where
 inst : H f = some (.inst 380 dx)
 fl : H dx = some (.fields wbZ [.bytes T, .int 2, .int w, .int (T.length + 1), .int k, .ref rw])
 row : wbU H rw dxr la be T 2 k
theorem wdQ.mat {P : Params} {H : AH} {f dx rw dxr la be : Addr} {T : List UInt8} {w k : Nat} (A : wdQ H f dx rw dxr la be T w k) : Mat P H f T 2 w (T.length + 1) k :=
 ⟨380, dx, wbZ, _, A.inst, A.fl, wbQ, rfl, rfl, rfl, rfl, rfl, rfl, rfl, rfl, rfl, rfl⟩
theorem finderinit_ok {G : Gd} {lv : Nat} {T : List UInt8} {w : Nat} {H : AH} {Q : V → AH → Prop} (hz : T.length ≤ 100000) (hw : 1 ≤ w)
 (h : ∀ H' f dx rw dxr la be, wdQ H' f dx rw dxr la be T w 0 → H f = none → H dx = none → H rw = none → H dxr = none → H la = none → H be = none → (∀ a o, H a = some o → H' a = some o) → Q (.ref f) H') : waX G (lv + 4) (.ref 380) [.bytes T, .int 2, .int w, .int (T.length + 1)] H Q := by
 refine wiW wbZ new_Finder fun a dx ha hdx hne => ?_
 have m : IsInit := .mk
 generalize hH1 : upd (upd H dx (.fields wbZ [])) a (.inst 380 dx) = H1
 have i1 : H1 a = some (.inst 380 dx) := by rw [← hH1]; exact uS _ _ _
 have i2 : H1 dx = some (.fields wbZ []) := by rw [← hH1]; exact (lkn (Ne.symm hne) (uS _ _ _))
 have i3 : ∀ b o, H b = some o → H1 b = some o := fun b o e => by rw [← hH1]; exact lkn (nW e ha) (lkn (nW e hdx) e)
 have i4 : ∀ b, H1 b = none → H b = none := fun b e => by
  cases q : H b with
  | none => rfl
  | some o => rw [i3 b o q] at e; cases e
 refine' waY (ps := ["self", "octets", "least", "window", "chain"]) (extra := []) ?ho (ok_Finder_init _) rfl rfl ?hb ?_
 case ho => k_is
 case hb => (intro s vs X r; obtain ⟨v0, v1, v2, v3, v4, rfl⟩ := r.ex5; exact ⟨[], trivial, binds_K (show (hd.heap_1 _).In _ from X) rfl (by k_is) rfl rfl rfl⟩)
 intro c hN hG hK hc
 subst hc
 refine (let r0 : Loc := [some (.ref a), some (.bytes T), some (.int 2), some (.int w), some (.int (T.length + 1))]; (?_ : WSs c r0 _ _ _))
 refine goS hN hG ?_
 refine St.of ?_
 refine waZ hK (by exact J10 (nat_lit 0x1a4220141201) rfl) (matinit_ok (lv := lv) i1 i2 wbQ rfl rfl rfl rfl rfl (by exact J00 (nat_lit 0x61a2212) rfl) (by exact J10 (nat_lit 0x61a8011201a0112) rfl hw) (by exact J10 (nat_lit 0x61a41280112) rfl) ?_)
 refine St.of ?_
 refine AC (lkn hne i1) (uS _ _ _) (zaZ rfl) rfl ?_
 refine St.of ?_
 refine waZ hK (by exact J10 (nat_lit 0x1a4220142201) rfl) (rowinit_ok (lv := lv) (s := 2) hz (by exact J00 (nat_lit 0x1a2212) rfl) fun H' rw dxr la be R n1 n2 n3 n4 g => ?_)
 have g1 := g a _ (show upd H1 dx _ a = some _ from lkn hne i1)
 have g2 := g dx _ (uS _ _ _)
 refine St.of ?_
 refine NAc g1 g2 (zaZ rfl) rfl rfl ?_
 refine zaV ?_
 refine zcY ?_
 refine nonq ?_
 have d1 : rw ≠ dx := Ne.symm (nW (uS _ _ _) n1)
 have d2 : dxr ≠ dx := Ne.symm (nW (uS _ _ _) n2)
 have d3 : la ≠ dx := Ne.symm (nW (uS _ _ _) n3)
 have d4 : be ≠ dx := Ne.symm (nW (uS _ _ _) n4)
 refine h _ a dx rw dxr la be ⟨(lkn hne g1), uS _ _ _, R.ext (zbX _ _ d1) (zbX _ _ d2) (zbX _ _ d3) (zbX _ _ d4)⟩ ha hdx (i4 _ (zaQ n1)) (i4 _ (zaQ n2)) (i4 _ (zaQ n3)) (i4 _ (zaQ n4)) fun b o e => ?_
 have hb := i3 b o e
 have hbd : b ≠ dx := nW e hdx
 exact lkn hbd (g b o (lkn hbd hb))
set_option tactic.hygienic false
theorem wbU.frame {H H' : AH} {rw dx la be : Addr} {T : List UInt8} {s k : Nat} (R : wbU H rw dx la be T s k) (g : ∀ a o, H a = some o → H' a = some o) : wbU H' rw dx la be T s k := by
 obtain ⟨n, d, h1, h2, h3⟩ := R.last
 obtain ⟨bs, h4, h5⟩ := R.bef
 exact ⟨g _ _ R.inst, g _ _ R.fl, ⟨n, d, h1, g _ _ h2, h3⟩, ⟨bs, g _ _ h4, h5⟩⟩
theorem wdQ.frame {H H' : AH} {f dx rw dxr la be : Addr} {T : List UInt8} {w k : Nat} (A : wdQ H f dx rw dxr la be T w k) (g : ∀ a o, H a = some o → H' a = some o) : wdQ H' f dx rw dxr la be T w k :=
 ⟨g _ _ A.inst, g _ _ A.fl, A.row.frame g⟩
theorem chainenter_ok {G : Gd} {lv : Nat} {f dx rw dxr la be : Addr} {T : List UInt8} {w k : Nat} {H : AH} {Q : V → AH → Prop} (i1 : H f = some (.inst 380 dx)) (i2 : H dx = some (.fields wbZ [.bytes T, .int 2, .int w, .int (T.length + 1), .int (k + 1), .ref rw])) (R : wbU H rw dxr la be T 2 k) (hz : T.length ≤ 100000) (hk : k < T.length)
 (h : ∀ H', wdQ H' f dx rw dxr la be T w (k + 1) → (∀ a, a ≠ la → a ≠ be → H' a = H a) → Q .none H') : waX G (lv + 3) (.ref 363) [.ref f, .int k] H Q := by
 have r1 := R.inst
 have r2 := R.fl
 obtain ⟨n, d, hn, r3, r4⟩ := R.last
 obtain ⟨bs, r5, r6, r7⟩ := R.bef
 have ne1 : f ≠ la := zbW i1 r3 (fun e => by cases e)
 have ne2 : f ≠ be := zbW i1 r5 (fun e => by cases e)
 have ne3 : dx ≠ la := zbW i2 r3 (fun e => by cases e)
 have ne4 : dx ≠ be := zbW i2 r5 (fun e => by cases e)
 refine' waY (ps := ["self", "place"]) (extra := []) ?ho (ok_Finder_enter _) rfl rfl ?hb ?_
 case ho => k_is
 case hb => exact fun s vs _ r => bnd2 (fun _ _  => BindsTo.of_eq rfl) r
 intro c hN hG hK hc
 subst hc
 refine (let r0 : Loc := [some (.ref f), some (.int k)]; (?_ : WSs c r0 _ _ _))
 refine goS hN hG ?_
 refine St.of ?_
 refine AC i1 i2 (zaZ rfl) rfl ?_
 refine St.of ?_
 refine MC r1 r2 (zbZ rfl rfl) ?_
 refine St.of ?_
 refine waZ hK (by exact J10 (nat_lit 0x1a4220142201) rfl) (rowput_ok (lv := lv) R hz hk fun H' R' g => ?_)
 refine zaV ?_
 refine zcY ?_
 exact h H' ⟨(g f ne1 ne2).trans i1, (g dx ne3 ne4).trans i2, R'⟩ g
noncomputable def chainL (T : List UInt8) (w p : Nat) (k : Nat) : List Nat := ((down k).filter (same (oc T) T.length 2 (key (oc T) p 2))).filter (far w p)
theorem cands_ok {G : Gd} {lv : Nat} {f dx rw dxr la be : Addr} {T : List UInt8} {w p : Nat} {H : AH} {Q : V → AH → Prop} (A : wdQ H f dx rw dxr la be T w p) (hz : T.length ≤ 100000) (hp : p < T.length)
 (h : ∀ l, H l = none → ∀ H', H' l = some (.list (((if p + 2 ≤ T.length then chainL T w p p else []).map fun (q : Nat) => V.int q))) → (∀ a o, H a = some o → H' a = some o) → Q (.ref l) H') : waX G (lv + 3) (.ref 370) [.ref f, .int p] H Q := by
 have M := A.mat (P := G.w.params)
 have i1 := A.inst
 have i2 := A.fl
 have r1 := A.row.inst
 have r2 := A.row.fl
 obtain ⟨bs, r5, r6, r7⟩ := A.row.bef
 have hlb : (bs.map V.int).length = T.length := by rw [List.length_map, r6]
 refine' waY (ps := ["self", "place"]) (extra := []) ?ho (ok_Finder_candidates _) rfl rfl ?hb ?_
 case ho => k_is
 case hb => exact fun s vs _ r => bnd2 (fun _ _  => BindsTo.of_eq rfl) r
 intro c hN hG hK hc
 subst hc
 refine (let r0 : Loc := [some (.ref f), some (.int p), none, none]; (?_ : WSs c r0 _ _ _))
 refine goS hN hG ?_
 refine wbW ?_
 refine ⟨by decide, fun l hl => ?_⟩
 have g1 : ∀ (X : O) a o, H a = some o → upd H l X a = some o := fun X a o e => lkn (nW e hl) e
 have A1 := A.frame (g1 (.list []))
 have q1 := A1.inst
 have q2 := A1.fl
 have q3 := A1.row.inst
 have q4 := A1.row.fl
 refine St.of ?_
 refine AC q1 q2 (zaZ rfl) rfl ?_
 refine St.of ?_
 refine MC q3 q4 (zbZ rfl rfl) ?_
 refine St.of ?_
 refine waZ hK (by exact J10 (nat_lit 0x1a4220142201) rfl) (newest_ok (lv := lv) A1.row hz (by exact J20 (nat_lit 0x1a110111a1101) rfl hp) ?_)
 refine St.of ?_
 generalize hk0 : (if p + 2 ≤ T.length then p else 0) = k0
 have k0p : k0 ≤ p := by rw [← hk0]; split <;> (first | exact J10 (nat_lit 0x1a0101) rfl | exact J10 (nat_lit 0x1a0102) rfl)
 have e0 : waW (oc T) T.length 2 p = prev (same (oc T) T.length 2 (key (oc T) p 2)) k0 := by
  unfold waW
  rw [← hk0]
  split
  ·rfl
  ·rfl
 have ef : (if p + 2 ≤ T.length then chainL T w p p else []) = chainL T w p k0 := by
  rw [← hk0]
  split
  ·rfl
  ·rfl
 rw [e0]
 rw [ef] at h
 clear e0 ef hk0
 refine whY (fun n r' H' => ∃ (fs : List Nat) (k' : Nat), n = k' ∧ fs ++ chainL T w p k' = chainL T w p k0 ∧ fs.length + k' ≤ p ∧ H' = upd H l (.list (fs.map fun (q : Nat) => V.int q)) ∧ r' = [some (.ref f), some (.int p), some (.ref l), some (.int (prev (same (oc T) T.length 2 (key (oc T) p 2)) k'))]) k0 ⟨[], k0, rfl, rfl, by simpa using k0p, rfl, rfl⟩ ?_
 rintro k' r' H' ⟨fs, _, rfl, hfs, hlen, rfl, rfl⟩
 have A2 := A.frame (g1 (.list (fs.map fun (q : Nat) => V.int q)))
 have M2 := A2.mat (P := c.G.w.params)
 have w1 := A2.inst
 have w2 := A2.fl
 have w3 := A2.row.inst
 have w4 := A2.row.fl
 have w5 := g1 (.list (fs.map fun (q : Nat) => V.int q)) _ _ r5
 have wl : (fs.map fun (q : Nat) => V.int q).length = fs.length := by simp
 have fin : chainL T w p k' = [] → Q (.ref l) (upd H l (.list (fs.map fun (q : Nat) => V.int q))) := fun e => by
  rw [e, List.append_nil] at hfs
  exact h l hl _ (by rw [uS, hfs]) (g1 _)
 refine goT hN hG ?_
 refine St.of ?_
 refine MC w1 w2 (zbZ rfl rfl) ?_
 refine St.of ?_
 refine waZ hK (by exact J10 (nat_lit 0x1a4220141201) rfl) (isnear_ok (lv := lv) M2 ?_)
 rcases whW (same (oc T) T.length 2 (key (oc T) p 2)) k' with ⟨hq, hf⟩ | ⟨q, hq, hqk, hqs, hf⟩
 ·rw [hq]
  refine whZ (by omega) ?_
  refine weU ?_
  refine zaY ?_
  exact fin (by unfold chainL; rw [hf]; rfl)
 ·rw [hq]
  by_cases hn : p - q ≤ w
  ·refine ite_t (by exact ⟨fun hq => Nat.lt_irrefl 0 (J10 (nat_lit 0x10a020281a912801) rfl hq), J40 (nat_lit 0x61a821581180101a213101a4113101) rfl hn (sbA _ _)⟩) ?_
   refine St.of ?_
   refine C_lenl (uS _ _ _) (by exact J50 (nat_lit 0x1a000186a0b0101a000186a0b1111a112101a214413121a3101) rfl hz hp hlen wl) ?_
   refine St.of ?_
   refine Mat.chain M2 ?_
   refine waV ?_
   refine ite_t (by exact J50 (nat_lit 0x71a41281180111a112101a214413121a3101) rfl hp hlen wl) ?_
   refine isWSs ?_
   refine goS hN hG ?_
   refine St.of ?_
   refine zcU (uS _ _ _) ?_
   refine St.of ?_
   refine wcX (uS _ _ _) (by exact J50 (nat_lit 0x1a000186a0b0101a000186a0b1111a112101a214413121a3101) rfl hz hp hlen wl) ?_
   refine St.of ?_
   refine AC (lkn (nnx hl ⟨_, ‹_›⟩) w1) (lkn (nnx hl ⟨_, ‹_›⟩) w2) (zaZ rfl) rfl ?_
   refine St.of ?_
   refine AC (lkn (nnx hl ⟨_, ‹_›⟩) w3) (lkn (nnx hl ⟨_, ‹_›⟩) w4) (zaZ rfl) rfl ?_
   refine St.of ?_
   have hs : q + 2 ≤ T.length ∧ (key (oc T) q 2 : Int) = key (oc T) p 2 := by unfold same at hqs; simpa using hqs
   have e1 : (bs.map V.int)[((q : Nat) : Int).toNat]? = some (V.int (prev (same (oc T) T.length 2 (key (oc T) p 2)) q)) := by
    rw [Int.toNat_natCast, List.getElem?_map]
    have hqb : q < bs.length := by exact J30 (nat_lit 0x11a110131a211101a2142201) rfl r6 hs.1
    have := r7 q (by exact J40 (nat_lit 0x11a110101a114312111a3101) rfl hlen hqk) hs.1
    rw [List.getD_eq_getElem?_getD, List.getElem?_eq_getElem hqb] at this
    rw [List.getElem?_eq_getElem hqb]
    have : bs[q] = prev (same (oc T) T.length 2 ↑(key (oc T) q 2)) q := this
    rw [this, hs.2]; rfl
   rw [wcU]
   refine zaU (g1 _ _ _ r5) (by exact J10 (nat_lit 0x61a80102) rfl) (by exact J20 (nat_lit 0x71a3b9aca00b80101a000186a0b1101a1142201) rfl hz hs.1) e1 ?_
   refine zaV ?_
   refine ⟨q, hqk, fs ++ [q], q, rfl, ?_, by rw [List.length_append]; simp; exact J40 (nat_lit 0x1a214114120101a214310111a3111) rfl hlen hqk, by rw [List.map_append]; rfl, rfl⟩
   rw [← hfs, List.append_assoc]
   congr 1
   unfold chainL
   rw [hf, List.filter_cons, if_pos (by unfold far; simp; exact J40 (nat_lit 0x1a421110101a113101a4213101) rfl hn (sbA _ _))]
   rfl
  ·refine whZ (by exact fun hq => Nat.lt_irrefl 0 (J40 (nat_lit 0x10a020241a110161a811583182121a2143101) rfl hn hq.2 (Nat.sub_add_cancel (J40 (nat_lit 0xa110141a312161a831580181121a1140121) rfl hn hq.2 (sbP (J20 (nat_lit 0x1a011241a1101) rfl hn)))))) ?_
   refine weU ?_
   refine zaY ?_
   refine fin ?_
   unfold chainL
   rw [hf]
   refine List.filter_eq_nil_iff.mpr fun x hx => ?_
   have hx : x ≤ q := by
    rcases List.mem_cons.mp hx with e | e
    ·exact J20 (nat_lit 0x1a110121a1101) rfl e
    ·exact Nat.le_of_lt (zcW.mp (List.mem_filter.mp e).1)
   unfold far; simp; exact J50 (nat_lit 0x11a214110141a013101a411121a2144131) rfl hn hx (Nat.sub_add_cancel (J30 (nat_lit 0x1a110121a1140121) rfl (sbP (J20 (nat_lit 0x1a011241a1101) rfl hn))))
theorem min_cast {most n p : Nat} (hp : p ≤ n) : min (most : Int) ((n : Int) - (p : Int)) = ((min most (n - p) : Nat) : Int) := by rw [← Int.ofNat_sub hp]; exact minc _ _
theorem chainevery_ok {G : Gd} {lv : Nat} {f dx rw dxr la be : Addr} {T : List UInt8} {w p most : Nat} {H : AH} {Q : V → AH → Prop} (A : wdQ H f dx rw dxr la be T w p) (hz : T.length ≤ 100000) (hp : p < T.length) (hm : 2 ≤ most)
 (h : ∀ l H', H l = none → H' l = some (.list ((can (oc T) T.length w most p 1).map nV)) → (∀ a o, H a = some o → H' a = some o) → Q (.ref l) H') : waX G (lv + 4) (.ref 377) [.ref f, .int p, .int most] H Q := by
 have M := A.mat (P := G.w.params)
 have i1 := A.inst
 have i2 := A.fl
 have ecan : can (oc T) T.length w most p 1 = (recs (cnt (oc T) T.length most p) (if p + 2 ≤ T.length then chainL T w p p else []) 1).map (toD p) := by
  split
  ·rename_i h2; exact can_chain (oc_lt T) (s := 2) (by exact J00 (nat_lit 0x1a2212) rfl) h2
  ·rename_i h2; rw [can_short (s := 2) (by exact J00 (nat_lit 0x1a2212) rfl) (by omega)]; rfl
 rw [ecan] at h
 have hD : ∀ q ∈ (if p + 2 ≤ T.length then chainL T w p p else []), q < p := fun q hq => by
  split at hq
  ·exact zcW.mp (List.mem_filter.mp (List.mem_filter.mp hq).1).1
  ·cases hq
 have hDl : (if p + 2 ≤ T.length then chainL T w p p else []).length ≤ p := by
  have hdl : ∀ k, (down k).length = k := fun k => by induction k with
   | zero => rfl
   | succ k ih => show (k :: down k).length = _; rw [List.length_cons, ih]
  split
  ·refine Nat.le_trans (List.length_filter_le _ _) (Nat.le_trans (List.length_filter_le _ _) ?_)
   rw [hdl]; exact Nat.le_refl _
  ·exact Nat.zero_le _
 refine' waY (ps := ["self", "place", "most"]) (extra := []) ?ho (ok_Finder_every _) rfl rfl ?hb ?_
 case ho => k_is
 case hb => exact fun s vs _ r => bnd3 (fun _ _ _  => BindsTo.of_eq rfl) r
 intro c hN hG hK hc
 subst hc
 refine (let r0 : Loc := [some (.ref f), some (.int p), some (.int most), none, none, none, none, none]; (?_ : WSs c r0 _ _ _))
 refine goS hN hG ?_
 refine wbW ?_
 refine ⟨by decide, fun l hl => ?_⟩
 have g1 : ∀ (X : O) a o, H a = some o → upd H l X a = some o := fun X a o e => lkn (nW e hl) e
 have A1 := A.frame (g1 (.list []))
 have M1 := A1.mat (P := c.G.w.params)
 have q1 := A1.inst
 have q2 := A1.fl
 refine St.of ?_
 refine MC q1 q2 (zbZ rfl rfl) ?_
 refine St.of ?_
 refine waZ hK (by exact J10 (nat_lit 0x1a4320141201) rfl) (limit_ok (lv := lv) M1 hz ?_)
 refine St.of ?_
 refine Mat.least M1 ?_
 refine St.of ?_
 rw [min_cast (Nat.le_of_lt hp)]
 refine WS_for ?_
 refine goE hN hG ?_
 refine St.of ?_
 refine MC q1 q2 (zbZ rfl rfl) ?_
 refine St.of ?_
 refine waZ hK (by exact J10 (nat_lit 0x1a4320143201) rfl) (cands_ok (lv := lv) A1 hz hp fun lc hlc H2 e2 g2 => ?_)
 generalize (if p + 2 ≤ T.length then chainL T w p p else []) = D at h hD hDl e2
 have g3 : ∀ (X : O) a o, H a = some o → upd H2 l X a = some o := fun X a o e => lkn (nW e hl) (g2 a o (g1 _ a o e))
 have hl2 : H2 l = some (.list []) := g2 l _ (uS _ _ _)
 have nlc : lc ≠ l := Ne.symm (nW (uS _ _ _) hlc)
 have elim : ∀ q, cnt (oc T) T.length most p q ≤ min most (T.length - p) := fun q => cnt_le
 refine ⟨D.map fun (q : Nat) => V.int q, _, (fun i r' H' => ∃ (fs : List (Nat × Nat)) (Lg : Nat) (x y : Option V), fs ++ (recs (cnt (oc T) T.length most p) (D.drop i) Lg).map (toD p) = (recs (cnt (oc T) T.length most p) D 1).map (toD p) ∧ fs.length ≤ i ∧ 1 ≤ Lg ∧
  H' = upd H2 l (.list (fs.map nV)) ∧ r' = [some (.ref f), some (.int p), some (.int most), some (.ref l), some (.int ((min most (T.length - p) : Nat) : Int)), some (.int Lg), x, y]), zcV e2, ⟨[], 1, _, _, rfl, Nat.zero_le _, Nat.le_refl _, ?_, rfl⟩, ?_, ?_, ?_⟩
 ·funext a
  by_cases e : a = l
  ·subst e; rw [uS, hl2]; rfl
  ·rw [zbX _ _ e]
 ·rintro i r' H' _ ⟨fs, Lg, x, y, _, _, _, rfl, _⟩
  rw [zbX _ _ nlc]; exact e2
 ·rintro i X r' H' hX ⟨fs, Lg, x, y, hfs, hlen, hLg, rfl, rfl⟩
  rw [List.getElem?_map] at hX
  obtain ⟨q, hq, rfl⟩ := Option.map_eq_some_iff.mp hX
  have hqD := List.mem_of_getElem? hq
  have hqp := hD q hqD
  have hiD := (List.getElem?_eq_some_iff.mp hq).1
  have edrop : D.drop i = q :: D.drop (i + 1) := by
   rw [List.drop_eq_getElem_cons hiD]
   have := (List.getElem?_eq_some_iff.mp hq).2
   rw [this]
  have A3 := A.frame (g3 (.list (fs.map nV)))
  have M3 := A3.mat (P := c.G.w.params)
  have w1 := A3.inst
  have w2 := A3.fl
  have wl : (fs.map nV).length = fs.length := by simp
  refine goA hN rfl ?_
  refine goS hN hG ?_
  refine waV ?_
  refine zbY (fun h1 => ?_) (fun h1 => ?_)
  ·skip
   refine h l _ hl ?_ (g3 _)
   rw [uS, ← hfs, wjX (fun x _ => by have := elim x; exact J30 (nat_lit 0x1a110161a81182101a2101) rfl h1 this)]
   simp
  ·refine zaV ?_
   refine zaY ?_
   refine St.of ?_
   refine Mat.octets M3 ?_
   refine St.of ?_
   refine wiQ (by exact J20 (nat_lit 0x61a48118010201a1112) rfl hLg) (by exact J60 (nat_lit 0x71a821481180111a3101a1a81184101a514121a2143151) rfl hqp h1 (Nat.min_le_right _ _) (Nat.sub_add_cancel (J20 (nat_lit 0x1a110111a1101) rfl hp))) hz ?_
   refine St.of ?_
   refine Mat.octets M3 ?_
   refine St.of ?_
   refine wiQ (by exact J20 (nat_lit 0x61a48118010201a1112) rfl hLg) (by exact J50 (nat_lit 0x71a8214811801a1a81183101a413121a2140141) rfl h1 (Nat.min_le_right _ _) (Nat.sub_add_cancel (J20 (nat_lit 0x1a110111a1101) rfl hp))) hz ?_
   refine waV ?_
   have e3 : ((q : Int) + (Lg : Int)).toNat = q + Lg := by exact Nat.le_antisymm (J30 (nat_lit 0x1a421110181a4821811801) rfl (Int.toNat_of_nonneg (J20 (nat_lit 0x61a48118010201a1112) rfl hLg))) (J30 (nat_lit 0x1a214110191a4811801821) rfl (Int.toNat_of_nonneg (J20 (nat_lit 0x61a48118010201a1112) rfl hLg)))
   have e4 : ((p : Int) + (Lg : Int)).toNat = p + Lg := by exact Nat.le_antisymm (J30 (nat_lit 0x1a421110181a4821811801) rfl (Int.toNat_of_nonneg (J20 (nat_lit 0x61a48118010201a1112) rfl hLg))) (J30 (nat_lit 0x1a214110191a4811801821) rfl (Int.toNat_of_nonneg (J20 (nat_lit 0x61a48118010201a1112) rfl hLg)))
   simp only [e3, e4]
   refine zbY (fun h2 => ?_) (fun h2 => ?_)
   ·refine St.of ?_
    refine MC w1 w2 (zbZ rfl rfl) ?_
    refine St.of ?_
    refine waZ hK (by exact J10 (nat_lit 0x1a4320141201) rfl) (alike_ok (lv := lv) (kn := 0) M3 hz hqp (by exact J40 (nat_lit 0x1a214110101a311121a2140131) rfl (Nat.min_le_right _ _) (Nat.sub_add_cancel (J20 (nat_lit 0x1a110111a1101) rfl hp))) (Nat.zero_le _) ?_)
    have ec : cnt (oc T) T.length most p q = lcp (oc T) p q (min most (T.length - p)) := rfl
    rw [← ec]
    have e5 : (p : Int) - (q : Int) = ((p - q : Nat) : Int) := by exact Int.le_antisymm (J30 (nat_lit 0x61a821581180101a4112101) rfl (sbA _ _)) (J30 (nat_lit 0x61a582181180121a1142101) rfl (Nat.sub_add_cancel (J20 (nat_lit 0x1a110111a1101) rfl hqp)))
    refine waV ?_
    refine zbY (fun h3 => ?_) (fun h3 => ?_)
    ·refine St.of ?_
     refine zcU (uS _ _ _) ?_
     refine St.of ?_
     refine wcX (uS _ _ _) (by exact J60 (nat_lit 0x1a000186a0b0101a000186a0b1111a112101a213101a514111a315121a4101) rfl hz hp hDl hlen hiD wl) ?_
     rw [e5, wcU]
     refine ⟨fs ++ [(cnt (oc T) T.length most p q, p - q)], cnt (oc T) T.length most p q, _, _, ?_, by rw [List.length_append]; simp; exact J20 (nat_lit 0x1a110101a1101) rfl hlen, by exact J20 (nat_lit 0x1a011201a111271a801811) rfl hLg h3, by rw [List.map_append]; rfl, rfl⟩
     rw [← hfs, edrop, wcW, if_pos (by exact J20 (nat_lit 0x11a110171a811801) rfl h3), List.append_assoc, Nat.max_eq_right (by exact J20 (nat_lit 0x1a110171a811801) rfl h3)]
     rfl
    ·refine zaV ?_
     refine zaY ?_
     refine zaV ?_
     refine zaY ?_
     refine zaV ?_
     refine wiX ?_
     refine ⟨fs, Lg, _, _, ?_, by exact J20 (nat_lit 0x1a412110101a1101) rfl hlen, hLg, rfl, rfl⟩
     rw [← hfs, edrop, wcW, if_neg (by exact fun hq => Nat.lt_irrefl 0 (J20 (nat_lit 0x10a0202b1a81180111a1101) rfl h3 hq)), Nat.max_eq_left (by exact J20 (nat_lit 0x1a1101b1a801811) rfl h3)]
     rfl
   ·have hc : cnt (oc T) T.length most p q ≤ Lg := by
     rcases Nat.lt_or_ge Lg (cnt (oc T) T.length most p q) with g | g
     ·exact absurd (congrArg Int.ofNat (wdY g).symm) h2
     ·exact g
    refine zaV ?_
    refine zaY ?_
    refine zaV ?_
    refine wiX ?_
    refine ⟨fs, Lg, _, _, ?_, by exact J20 (nat_lit 0x1a412110101a1101) rfl hlen, hLg, rfl, rfl⟩
    rw [← hfs, edrop, wcW, if_neg (by exact fun hq => Nat.lt_irrefl 0 (J20 (nat_lit 0x10a020201a110111a0111) rfl hc hq)), Nat.max_eq_left hc]
    rfl
 ·rintro r' H' ⟨fs, Lg, x, y, hfs, hlen, hLg, rfl, rfl⟩
  refine zaY ?_
  refine h l _ hl ?_ (g3 _)
  rw [uS, ← hfs, List.length_map, List.drop_length]
  simp [recs]
set_option tactic.hygienic false
noncomputable def arrOf (S R : List Int) : Arr := fun s => if s.2 then R.getD s.1 (-1) else S.getD s.1 (-1)
noncomputable def Arrs (H : AH) (sm gr : Addr) (n : Nat) (a : Arr) : Prop := ∃ S R : List Int, H sm = some (.list (S.map V.int)) ∧ H gr = some (.list (R.map V.int)) ∧ S.length = n ∧ R.length = n ∧ a = arrOf S R
theorem Arrs.el {H : AH} {sm gr : Addr} {n : Nat} {a : Arr} {P : Prop} (h : Arrs H sm gr n a) (k : ∀ S R : List Int, H sm = some (.list (S.map V.int)) → H gr = some (.list (R.map V.int)) → S.length = n → R.length = n → (S.map V.int).length = n → (R.map V.int).length = n → a = arrOf S R → P) : P := by
 obtain ⟨S, R, h1, h2, h3, h4, h5⟩ := h
 exact k S R h1 h2 h3 h4 (by rw [List.length_map, h3]) (by rw [List.length_map, h4]) h5
theorem Arrs.sm {H : AH} {sm gr : Addr} {n : Nat} {a : Arr} (h : Arrs H sm gr n a) : ∃ vs, H sm = some (.list vs) := h.el fun S _ h1 _ _ _ _ _ _ => ⟨_, h1⟩
theorem Arrs.gr {H : AH} {sm gr : Addr} {n : Nat} {a : Arr} (h : Arrs H sm gr n a) : ∃ vs, H gr = some (.list vs) := h.el fun _ _ _ h2 _ _ _ _ _ => ⟨_, h2⟩
theorem getD_set {S : List Int} {q x : Nat} {v d : Int} (h : q < S.length) : (S.set q v).getD x d = if x = q then v else S.getD x d := by
 rw [List.getD_eq_getElem?_getD, List.getD_eq_getElem?_getD]
 by_cases e : x = q
 ·subst e; rw [List.getElem?_set_self h, if_pos rfl]; rfl
 ·rw [List.getElem?_set_ne (Ne.symm e), if_neg e]
theorem arr_put {S R : List Int} {q : Nat} {b : Bool} {v : Int} (h1 : q < S.length) (h2 : q < R.length) : putA (arrOf S R) (q, b) v = if b then arrOf S (R.set q v) else arrOf (S.set q v) R := by
 funext z
 obtain ⟨x, c⟩ := z
 cases b with
 | true =>
  show (if (x, c) = (q, true) then v else _) = arrOf S (R.set q v) (x, c)
  unfold arrOf
  cases c with
  | true => simp only [if_true, getD_set h2]; by_cases e : x = q <;> simp [e]
  | false => simp
 | false =>
  show (if (x, c) = (q, false) then v else _) = arrOf (S.set q v) R (x, c)
  unfold arrOf
  cases c with
  | true => simp
  | false => simp only [Bool.false_eq_true, if_false, getD_set h1]; by_cases e : x = q <;> simp [e]
structure TBase (H : AH) (f dx rw dxr la be ro sm gr : Addr) (T : List UInt8) (L w k : Nat) : Prop where
 inst : H f = some (.inst 428 dx)
 fl : H dx = some (.fields zbU [.bytes T, .int L, .int w, .int (T.length + 1), .int k, .ref rw, .ref ro, .ref sm, .ref gr])
 row : wbU H rw dxr la be T L 0
 ne : sm ≠ gr
theorem TBase.mat {P : Params} {H : AH} {f dx rw dxr la be ro sm gr : Addr} {T : List UInt8} {L w k : Nat} (A : TBase H f dx rw dxr la be ro sm gr T L w k) : Mat P H f T L w (T.length + 1) k :=
 ⟨428, dx, zbU, _, A.inst, A.fl, zcZ, rfl, rfl, rfl, rfl, rfl, rfl, rfl, rfl, rfl, rfl⟩
theorem hang_ok {G : Gd} {lv : Nat} {f dx rw dxr la be ro sm gr : Addr} {T : List UInt8} {L w k q : Nat} {b : Bool} {v : Int} {a : Arr} {H : AH} {Q : V → AH → Prop} (A : TBase H f dx rw dxr la be ro sm gr T L w k) (Ar : Arrs H sm gr T.length a) (hz : T.length ≤ 100000) (hq : q < T.length)
 (h : ∀ H', Arrs H' sm gr T.length (putA a (q, b) v) → (∀ x, x ≠ sm → x ≠ gr → H' x = H x) → Q .none H') : waX G (lv + 1) (.ref 404) [.ref f, .int q, .bool b, .int v] H Q := by
 have i1 := A.inst
 have i2 := A.fl
 have ne := A.ne
 obtain ⟨S, R, h1, h2, l1, l2, rfl⟩ := Ar
 have m1 : (S.map V.int).length = T.length := by rw [List.length_map, l1]
 have m2 : (R.map V.int).length = T.length := by rw [List.length_map, l2]
 refine' waY (ps := ["self", "owner", "is_greater", "place"]) (extra := []) ?ho (ok_TreeFinder_hang _) rfl rfl ?hb ?_
 case ho => k_is
 case hb => exact fun s vs _ r => bnd4 (fun _ _ _ _  => BindsTo.of_eq rfl) r
 intro c hN hG hK hc
 subst hc
 refine (let r0 : Loc := [some (.ref f), some (.int q), some (.bool b), some (.int v)]; (?_ : WSs c r0 _ _ _))
 refine goS hN hG ?_
 refine waV ?_
 cases b with
 | true =>
  refine ite_tt ?_
  refine St.of ?_
  refine AC i1 i2 (zaZ rfl) rfl ?_
  refine St.of ?_
  refine SI_list h2 (by exact J10 (nat_lit 0x61a80102) rfl) (by exact J30 (nat_lit 0x71a81180111a210131a2111) rfl hq m2) (by exact J20 (nat_lit 0x71a3b9aca00b80101a000186a0b1111a1101) rfl hz hq) ?_
  refine zaV ?_
  refine zaY ?_
  refine zaV ?_
  refine zcY ?_
  refine h _ ⟨S, R.set q v, (lkn ne h1), by rw [uS, Int.toNat_natCast, List.map_set], l1, by rw [List.length_set]; exact l2, by rw [arr_put (by exact J30 (nat_lit 0x11a110111a210131a2111) rfl hq l1) (by exact J30 (nat_lit 0x11a110111a210131a2111) rfl hq l2)]; rfl⟩ fun x x1 x2 => zbX _ _ x2
 | false =>
  refine weU ?_
  refine St.of ?_
  refine AC i1 i2 (zaZ rfl) rfl ?_
  refine St.of ?_
  refine SI_list h1 (by exact J10 (nat_lit 0x61a80102) rfl) (by exact J30 (nat_lit 0x71a81180111a210131a2111) rfl hq m1) (by exact J20 (nat_lit 0x71a3b9aca00b80101a000186a0b1111a1101) rfl hz hq) ?_
  refine zaV ?_
  refine zaY ?_
  refine zaV ?_
  refine zcY ?_
  refine h _ ⟨S.set q v, R, by rw [uS, Int.toNat_natCast, List.map_set], (lkn (Ne.symm ne) h2), by rw [List.length_set]; exact l1, l2, by rw [arr_put (by exact J30 (nat_lit 0x11a110111a210131a2111) rfl hq l1) (by exact J30 (nat_lit 0x11a110111a210131a2111) rfl hq l2)]; rfl⟩ fun x x1 x2 => zbX _ _ x1
set_option tactic.hygienic false
theorem TBase.frame {H H' : AH} {f dx rw dxr la be ro sm gr : Addr} {T : List UInt8} {L w k : Nat} (A : TBase H f dx rw dxr la be ro sm gr T L w k) (hs : ∃ vs, H sm = some (.list vs)) (hg : ∃ vs, H gr = some (.list vs)) (nb : be ≠ sm ∧ be ≠ gr) (g : ∀ x, x ≠ sm → x ≠ gr → H' x = H x) : TBase H' f dx rw dxr la be ro sm gr T L w k := by
 obtain ⟨vs, hs⟩ := hs
 obtain ⟨us, hg⟩ := hg
 obtain ⟨n, d, _, r3, _⟩ := A.row.last
 have e : ∀ x o, H x = some o → (∀ us, o = .list us → False) → H' x = H x := fun x o hx hn => g x (zbW hx hs (hn _)) (zbW hx hg (hn _))
 exact ⟨(e _ _ A.inst (fun _ q => by cases q)).trans A.inst, (e _ _ A.fl (fun _ q => by cases q)).trans A.fl,
  A.row.ext (e _ _ A.row.inst (fun _ q => by cases q)) (e _ _ A.row.fl (fun _ q => by cases q)) (e _ _ r3 (fun _ q => by cases q)) (g be nb.1 nb.2), A.ne⟩
theorem arr_at {S R : List Int} {q : Nat} (h : q < S.length) : (S.map V.int)[((q : Nat) : Int).toNat]? = some (.int (arrOf S R (q, false))) := by
 rw [Int.toNat_natCast, List.getElem?_map, List.getElem?_eq_getElem h]
 unfold arrOf
 simp [List.getD_eq_getElem?_getD, List.getElem?_eq_getElem h]
theorem arr_at' {S R : List Int} {q : Nat} (h : q < R.length) : (R.map V.int)[((q : Nat) : Int).toNat]? = some (.int (arrOf S R (q, true))) := by
 rw [Int.toNat_natCast, List.getElem?_map, List.getElem?_eq_getElem h]
 unfold arrOf
 simp [List.getD_eq_getElem?_getD, List.getElem?_eq_getElem h]
theorem part_ok {G : Gd} {lv : Nat} {f dx rw dxr la be ro sm gr : Addr} {T : List UInt8} {L w k j : Nat} {i : Int} {t : Tr} {a : Arr} {H : AH} {Q : V → AH → Prop} (A : TBase H f dx rw dxr la be ro sm gr T L w j) (Ar : Arrs H sm gr T.length a) (nb : be ≠ sm ∧ be ≠ gr) (hz : T.length ≤ 100000) (hk : k < T.length)
 (ht : TrAt a i t) (wf : WF (oc T) T.length t) (hlt : ∀ x, t.has x = true → x < k)
 (h : ∀ H' b, Arrs H' sm gr T.length b → Parted (oc T) T.length w k t a b → (∀ x, x ≠ sm → x ≠ gr → H' x = H x) → Q .none H') : waX G (lv + 2) (.ref 418) [.ref f, .int k, .int i] H Q := by
 have M := A.mat (P := G.w.params)
 refine' waY (ps := ["self", "place", "other"]) (extra := []) ?ho (ok_TreeFinder_part _) rfl rfl ?hb ?_
 case ho => k_is
 case hb => exact fun s vs _ r => bnd3 (fun _ _ _  => BindsTo.of_eq rfl) r
 intro c hN hG hK hc
 subst hc
 refine (let r0 : Loc := [some (.ref f), some (.int k), some (.int i), none, none, none, none, none, none, none, none, none]; (?_ : WSs c r0 _ _ _))
 refine goS hN hG ?_
 refine St.of ?_
 refine Mat.octets M ?_
 refine St.of ?_
 refine wgQ hz ?_
 refine St.of ?_
 have J0 := Parts.init (o := oc T) (n := T.length) (w := w) (k := k) ht wf hlt
 have eL : (T.length : Int) - (k : Int) = ((T.length - k : Nat) : Int) := by exact Int.le_antisymm (J30 (nat_lit 0x61a821581180101a4112101) rfl (sbA _ _)) (J30 (nat_lit 0x61a582181180121a1142101) rfl (Nat.sub_add_cancel (J20 (nat_lit 0x1a110111a1101) rfl hk)))
 rw [eL]
 refine WS_whileC (fun _ _ _ => .ex fun (b : Arr) => .ex fun (lo : Nat × Bool) => .ex fun (hi : Nat × Bool) => .ex fun (lc : Nat) => .ex fun (hc : Nat) => .ex fun (other : Int) => .ex fun (u : Tr) => .ex fun (st : Nat) => .ex fun (x : Option V) => .ex fun (H' : AH) =>
  .hy (Parts (oc T) T.length w k t a b lo hi lc hc other u) fun _ => .hy (∀ y, u.has y = true → y + st < k) fun _ => .hy (Arrs H' sm gr T.length b) fun _ => .hy (∀ y, y ≠ sm → y ≠ gr → H' y = H y) fun _ => .hy (st ≤ k) fun _ =>
  .at (T.length + 1 - st) [some (.ref f), some (.int k), some (.int other), some (.int ((T.length - k : Nat) : Int)), some (.int st), some (.int (lo.1 : Nat)), some (.bool lo.2), some (.int lc), some (.int (hi.1 : Nat)), some (.bool hi.2), some (.int hc), x] H') (T.length + 1)
  (fun P _ _ kk => kk a (k, false) (k, true) 0 0 i t 0 none H J0 hlt Ar (fun _ _ _ => rfl) (Nat.zero_le _)) ?_
 intro JJ jj _ b lo hi lc hc other u st x H' J hu Ar' g hst
 refine tel_at ?_
 intro r1
 have A' := A.frame Ar.sm Ar.gr nb g
 have M' := A'.mat (P := c.G.w.params)
 have i1 := A'.inst
 have i2 := A'.fl
 have hlo : lo.1 < T.length := by
  rcases J.lo2 with e | e
  ·exact J30 (nat_lit 0x11a110111a112121a2101) rfl hk e
  ·have := hlt _ e; exact J30 (nat_lit 0x11a110111a112111a2101) rfl hk this
 have hhi : hi.1 < T.length := by
  rcases J.hi2 with e | e
  ·exact J30 (nat_lit 0x11a110111a112121a2101) rfl hk e
  ·have := hlt _ e; exact J30 (nat_lit 0x11a110111a112111a2101) rfl hk this
 refine goT hN hG ?_
 refine St.of ?_
 refine MC i1 i2 (zbZ rfl rfl) ?_
 refine St.of ?_
 refine waZ hK (by exact J10 (nat_lit 0x1a4120141201) rfl) (isnear_ok (lv := lv) M' ?_)
 by_cases h0 : other = -1
 ·have eu : u = .nil := TrAt.nil_of (h0 ▸ J.here)
  refine whZ (by omega) ?_
  refine weU ?_
  refine zaY ?_
  refine St.of ?_
  refine MC i1 i2 (zbZ rfl rfl) ?_
  refine St.of ?_
  refine waZ hK (by exact J10 (nat_lit 0x1a4120141201) rfl) (hang_ok (lv := lv) (q := lo.1) (b := lo.2) A' Ar' hz hlo fun H1 Ar1 g1 => ?_)
  have A1 := A'.frame Ar'.sm Ar'.gr nb g1
  have j1 := A1.inst
  have j2 := A1.fl
  refine St.of ?_
  refine MC j1 j2 (zbZ rfl rfl) ?_
  refine St.of ?_
  refine waZ hK (by exact J10 (nat_lit 0x1a4120141201) rfl) (hang_ok (lv := lv) (q := hi.1) (b := hi.2) A1 Ar1 hz hhi fun H2 Ar2 g2 => ?_)
  refine zaV ?_
  refine zcY ?_
  exact h H2 _ Ar2 (J.done (.inl eu)) fun y y1 y2 => (g2 y y1 y2).trans ((g1 y y1 y2).trans (g y y1 y2))
 ·refine TrAt.el J.here h0 fun q l r eu eq tl tr => ?_
  subst eu
  subst eq
  by_cases hn : k - q ≤ w
  ·refine ite_t (by exact ⟨fun hq => Nat.lt_irrefl 0 (J10 (nat_lit 0x10a020281a912801) rfl hq), J40 (nat_lit 0x61a821581180101a213101a4113101) rfl hn (sbA _ _)⟩) ?_
   have hqn : (Tr.node q l r).has q = true := Tr.has_node.mpr (.inl rfl)
   have hq := hu q hqn
   refine Arrs.el Ar' fun S R s1 s2 l1 l2 m1 m2 eb => ?_
   have x1 := arr_at (S := S) (R := R) (q := q) (by exact J50 (nat_lit 0x11a110111a312111a214410131a3111) rfl hk hq l1)
   have x2 := arr_at' (S := S) (R := R) (q := q) (by exact J50 (nat_lit 0x11a110111a312111a214410131a3111) rfl hk hq l2)
   rw [← eb] at x1 x2
   have em := minc lc hc
   have kl := known_le (l := T.length - k) J.abv J.blw hqn (by have := J.lcn; have := J.hcn; exact J30 (nat_lit 0x1a110101a112101a2101) rfl ‹_› (Nat.min_le_left _ _))
   have hle := lcp_le (oc T) k q (T.length - k)
   refine St.of ?_
   refine Mat.chain M' ?_
   refine waV ?_
   refine ite_t (by exact J40 (nat_lit 0x71a41281180111a112111a2140131) rfl hk hq) ?_
   refine isWSs ?_
   refine goS hN hG ?_
   refine St.of ?_
   refine IO_add ?_
   refine St.of ?_
   refine MC i1 i2 (zbZ rfl rfl) ?_
   refine St.of ?_
   refine C_min2 ?_
   refine St.of ?_
   rw [em]
   refine waZ hK (by exact J10 (nat_lit 0x1a4120141201) rfl) (alike_ok (lv := lv) (kn := min lc hc) M' hz (by exact J30 (nat_lit 0x11a110111a1142101) rfl hq) (by exact J30 (nat_lit 0x1a214110191a8115801821) rfl eL) kl ?_)
   refine waV ?_
   refine zbY (fun h1 => ?_) (fun h1 => ?_)
   ·have h1 : lcp (oc T) k q (T.length - k) = T.length - k := by exact Nat.le_antisymm (J20 (nat_lit 0x1a110181a811801) rfl h1) (J20 (nat_lit 0x1a110191a801811) rfl h1)
    refine St.of ?_
    refine MC i1 i2 (zbZ rfl rfl) ?_
    refine St.of ?_
    refine AC i1 i2 (zaZ rfl) rfl ?_
    refine St.of ?_
    refine zaU s1 (by exact J10 (nat_lit 0x61a80102) rfl) (by exact J40 (nat_lit 0x71a3b9aca00b80101a000186a0b1111a112111a2143101) rfl hz hk hq) x1 ?_
    refine St.of ?_
    refine waZ hK (by exact J10 (nat_lit 0x1a4120141201) rfl) (hang_ok (lv := lv) (q := lo.1) (b := lo.2) A' Ar' hz hlo fun H1 Ar1 g1 => ?_)
    have A1 := A'.frame Ar'.sm Ar'.gr nb g1
    have j1 := A1.inst
    have j2 := A1.fl
    refine Arrs.el Ar1 fun S1 R1 t1 t2 p1 p2 n1 n2 eb1 => ?_
    have y2 := arr_at' (S := S1) (R := R1) (q := q) (by exact J50 (nat_lit 0x11a110111a312111a214410131a3111) rfl hk hq p2)
    rw [← eb1] at y2
    refine St.of ?_
    refine MC j1 j2 (zbZ rfl rfl) ?_
    refine St.of ?_
    refine AC j1 j2 (zaZ rfl) rfl ?_
    refine St.of ?_
    refine zaU t2 (by exact J10 (nat_lit 0x61a80102) rfl) (by exact J40 (nat_lit 0x71a3b9aca00b80101a000186a0b1111a112111a2143101) rfl hz hk hq) y2 ?_
    refine St.of ?_
    refine waZ hK (by exact J10 (nat_lit 0x1a4120141201) rfl) (hang_ok (lv := lv) (q := hi.1) (b := hi.2) A1 Ar1 hz hhi fun H2 Ar2 g2 => ?_)
    exact h H2 _ Ar2 (J.full hn h1) fun y y1 y2 => (g2 y y1 y2).trans ((g1 y y1 y2).trans (g y y1 y2))
   ·have h1 : lcp (oc T) k q (T.length - k) ≠ T.length - k := by omega
    have hlt2 : lcp (oc T) k q (T.length - k) < T.length - k := by exact J20 (nat_lit 0x11a110111a1101) rfl (Nat.lt_of_le_of_ne (J20 (nat_lit 0x1a110101a1101) rfl hle) h1)
    refine zaV ?_
    refine zaY ?_
    refine St.of ?_
    refine Mat.octets M' ?_
    refine St.of ?_
    refine wiQ (by exact J20 (nat_lit 0x61a481180102) rfl) (by exact J60 (nat_lit 0x71a821481180191a841583182111a314510111a4111) rfl eL hq hlt2) hz ?_
    refine St.of ?_
    refine Mat.octets M' ?_
    refine St.of ?_
    refine wiQ (by exact J20 (nat_lit 0x61a481180102) rfl) (by exact J40 (nat_lit 0x71a821481180191a831580182111a3111) rfl eL hlt2) hz ?_
    refine waV ?_
    have e3 : ((q : Int) + ((lcp (oc T) k q (T.length - k) : Nat) : Int)).toNat = q + lcp (oc T) k q (T.length - k) := by exact Nat.le_antisymm (J30 (nat_lit 0x1a421110181a4821811801) rfl (Int.toNat_of_nonneg (J20 (nat_lit 0x61a481180102) rfl))) (J30 (nat_lit 0x1a214110191a4811801821) rfl (Int.toNat_of_nonneg (J20 (nat_lit 0x61a481180102) rfl)))
    have e4 : ((k : Int) + ((lcp (oc T) k q (T.length - k) : Nat) : Int)).toNat = k + lcp (oc T) k q (T.length - k) := by exact Nat.le_antisymm (J30 (nat_lit 0x1a421110181a4821811801) rfl (Int.toNat_of_nonneg (J50 (nat_lit 0x61a48118010211a014312121a4112141) rfl hq e3))) (J30 (nat_lit 0x1a214110191a4811801821) rfl (Int.toNat_of_nonneg (J50 (nat_lit 0x61a48118010211a014312121a4112141) rfl hq e3)))
    simp only [e3, e4]
    refine zbY (fun h2 => ?_) (fun h2 => ?_)
    ·have h2 : oc T (q + lcp (oc T) k q (T.length - k)) < oc T (k + lcp (oc T) k q (T.length - k)) := by exact J20 (nat_lit 0x11a110171a811801) rfl h2
     refine St.of ?_
     refine MC i1 i2 (zbZ rfl rfl) ?_
     refine St.of ?_
     refine waZ hK (by exact J10 (nat_lit 0x1a4120141201) rfl) (hang_ok (lv := lv) (q := lo.1) (b := lo.2) A' Ar' hz hlo fun H1 Ar1 g1 => ?_)
     have A1 := A'.frame Ar'.sm Ar'.gr nb g1
     have j1 := A1.inst
     have j2 := A1.fl
     refine Arrs.el Ar1 fun S1 R1 t1 t2 p1 p2 n1 n2 eb1 => ?_
     have y2 := arr_at' (S := S1) (R := R1) (q := q) (by exact J50 (nat_lit 0x11a110111a312111a214410131a3111) rfl hk hq p2)
     rw [← eb1] at y2
     refine St.of ?_
     refine AC j1 j2 (zaZ rfl) rfl ?_
     refine St.of ?_
     refine zaU t2 (by exact J10 (nat_lit 0x61a80102) rfl) (by exact J40 (nat_lit 0x71a3b9aca00b80101a000186a0b1111a112111a2143101) rfl hz hk hq) y2 ?_
     refine zaV ?_
     refine zaY ?_
     refine zaV ?_
     exact fun P kk => jj _ kk (putA b lo q) (q, true) hi _ hc _ r (st + 1) _ _ (J.low hn h1 h2) (fun y hy => (by have := (J.wf.2.1 y hy).1; exact J40 (nat_lit 0x11a214412110111a214113111a3101) rfl hq this)) Ar1 (fun y y1 y2 => (g1 y y1 y2).trans (g y y1 y2)) (by exact J30 (nat_lit 0x1a114120111a1140121) rfl hq) (by exact J40 (nat_lit 0x11a110121a412314412210131a4123142111) rfl (Nat.sub_add_cancel (J40 (nat_lit 0x1a412114120111a112111a2140131) rfl hk hq)) (Nat.sub_add_cancel (J40 (nat_lit 0x1a412110111a112111a2140131) rfl hk hq)))
    ·have h2 : ¬ oc T (q + lcp (oc T) k q (T.length - k)) < oc T (k + lcp (oc T) k q (T.length - k)) := by exact fun hq => Nat.lt_irrefl 0 (J20 (nat_lit 0x10a0202b1a81180111a1101) rfl h2 hq)
     refine St.of ?_
     refine MC i1 i2 (zbZ rfl rfl) ?_
     refine St.of ?_
     refine waZ hK (by exact J10 (nat_lit 0x1a4120141201) rfl) (hang_ok (lv := lv) (q := hi.1) (b := hi.2) A' Ar' hz hhi fun H1 Ar1 g1 => ?_)
     have A1 := A'.frame Ar'.sm Ar'.gr nb g1
     have j1 := A1.inst
     have j2 := A1.fl
     refine Arrs.el Ar1 fun S1 R1 t1 t2 p1 p2 n1 n2 eb1 => ?_
     have y1 := arr_at (S := S1) (R := R1) (q := q) (by exact J50 (nat_lit 0x11a110111a312111a214410131a3111) rfl hk hq p1)
     rw [← eb1] at y1
     refine St.of ?_
     refine AC j1 j2 (zaZ rfl) rfl ?_
     refine St.of ?_
     refine zaU t1 (by exact J10 (nat_lit 0x61a80102) rfl) (by exact J40 (nat_lit 0x71a3b9aca00b80101a000186a0b1111a112111a2143101) rfl hz hk hq) y1 ?_
     refine zaV ?_
     refine zaY ?_
     refine zaV ?_
     exact fun P kk => jj _ kk (putA b hi q) lo (q, false) lc _ _ l (st + 1) _ _ (J.high hn h1 h2) (fun y hy => (by have := (J.wf.1 y hy).1; exact J40 (nat_lit 0x11a214412110111a214113111a3101) rfl hq this)) Ar1 (fun y y1 y2 => (g1 y y1 y2).trans (g y y1 y2)) (by exact J30 (nat_lit 0x1a114120111a1140121) rfl hq) (by exact J40 (nat_lit 0x11a110121a412314412210131a4123142111) rfl (Nat.sub_add_cancel (J40 (nat_lit 0x1a412114120111a112111a2140131) rfl hk hq)) (Nat.sub_add_cancel (J40 (nat_lit 0x1a412110111a112111a2140131) rfl hk hq)))
  ·refine whZ (by exact fun hq => Nat.lt_irrefl 0 (J40 (nat_lit 0x10a020241a110161a811583182121a2143101) rfl hn hq.2 (Nat.sub_add_cancel (J40 (nat_lit 0xa110141a312161a831580181121a1140121) rfl hn hq.2 (sbP (J20 (nat_lit 0x1a011241a1101) rfl hn)))))) ?_
   refine weU ?_
   refine zaY ?_
   refine St.of ?_
   refine MC i1 i2 (zbZ rfl rfl) ?_
   refine St.of ?_
   refine waZ hK (by exact J10 (nat_lit 0x1a4120141201) rfl) (hang_ok (lv := lv) (q := lo.1) (b := lo.2) A' Ar' hz hlo fun H1 Ar1 g1 => ?_)
   have A1 := A'.frame Ar'.sm Ar'.gr nb g1
   have j1 := A1.inst
   have j2 := A1.fl
   refine St.of ?_
   refine MC j1 j2 (zbZ rfl rfl) ?_
   refine St.of ?_
   refine waZ hK (by exact J10 (nat_lit 0x1a4120141201) rfl) (hang_ok (lv := lv) (q := hi.1) (b := hi.2) A1 Ar1 hz hhi fun H2 Ar2 g2 => ?_)
   refine zaV ?_
   refine zcY ?_
   exact h H2 _ Ar2 (J.done (.inr ⟨q, l, r, rfl, by exact J20 (nat_lit 0x11a110141a0111) rfl hn⟩)) fun y y1 y2 => (g2 y y1 y2).trans ((g1 y y1 y2).trans (g y y1 y2))
set_option tactic.hygienic false
structure wcV (H : AH) (f dx rw dxr la be ro sm gr : Addr) (T : List UInt8) (L w k : Nat) : Prop where
 base : TBase H f dx rw dxr la be ro sm gr T L w k
 nb : be ≠ sm ∧ be ≠ gr
 nl : la ≠ ro
 tr : ∃ m d a tf, m ≤ k ∧ H ro = some (.idict m d) ∧ Arrs H sm gr T.length a ∧ Trees (oc T) T.length L w k (fun i => (d i).getD (-1)) a tf
theorem treeenter_ok {G : Gd} {lv : Nat} {f dx rw dxr la be ro sm gr : Addr} {T : List UInt8} {L w k m : Nat} {d : Int → Option Int} {a : Arr} {tf : Int → Tr} {H : AH} {Q : V → AH → Prop} (B : TBase H f dx rw dxr la be ro sm gr T L w (k + 1)) (nb : be ≠ sm ∧ be ≠ gr) (nl : la ≠ ro) (hm : m ≤ k) (hd : H ro = some (.idict m d)) (Ar : Arrs H sm gr T.length a)
 (TT : Trees (oc T) T.length L w k (fun i => (d i).getD (-1)) a tf) (hz : T.length ≤ 100000) (hk : k < T.length)
 (h : ∀ H', wcV H' f dx rw dxr la be ro sm gr T L w (k + 1) → (∀ x, x ≠ ro → x ≠ sm → x ≠ gr → H' x = H x) → Q .none H') : waX G (lv + 3) (.ref 411) [.ref f, .int k] H Q := by
 have i1 := B.inst
 have i2 := B.fl
 have r1 := B.row.inst
 have r2 := B.row.fl
 obtain ⟨S, R, s1, s2, l1, l2, ea⟩ := id Ar
 obtain ⟨bs, r5, _⟩ := B.row.bef
 obtain ⟨_, _, _, r6, _⟩ := B.row.last
 have ne1 : f ≠ ro := zbW i1 hd (fun e => by cases e)
 have ne2 : dx ≠ ro := zbW i2 hd (fun e => by cases e)
 have ne3 : rw ≠ ro := zbW r1 hd (fun e => by cases e)
 have ne4 : dxr ≠ ro := zbW r2 hd (fun e => by cases e)
 have ne5 : be ≠ ro := zbW r5 hd (fun e => by cases e)
 have ne6 : sm ≠ ro := zbW s1 hd (fun e => by cases e)
 have ne7 : gr ≠ ro := zbW s2 hd (fun e => by cases e)
 refine' waY (ps := ["self", "place"]) (extra := []) ?ho (ok_TreeFinder_enter _) rfl rfl ?hb ?_
 case ho => k_is
 case hb => exact fun s vs _ r => bnd2 (fun _ _  => BindsTo.of_eq rfl) r
 intro c hN hG hK hc
 subst hc
 refine (let r0 : Loc := [some (.ref f), some (.int k), none, none]; (?_ : WSs c r0 _ _ _))
 refine goS hN hG ?_
 refine St.of ?_
 refine AC i1 i2 (zaZ rfl) rfl ?_
 refine St.of ?_
 refine MC r1 r2 (zbZ rfl rfl) ?_
 refine St.of ?_
 refine waZ hK (by exact J10 (nat_lit 0x1a4220141201) rfl) (key_ok (lv := lv) B.row hz (by exact J20 (nat_lit 0x1a110111a1101) rfl hk) (fun h0 => ?_) (fun h0 => ?_))
 ·refine St.of ?_
  refine AC i1 i2 (zaZ rfl) rfl ?_
  refine St.of ?_
  refine MB_get hd ?_
  refine St.of ?_
  refine C_get hd ?_
  refine St.of ?_
  refine AC i1 i2 (zaZ rfl) rfl ?_
  refine St.of ?_
  refine SI_dict hd (by exact J40 (nat_lit 0x1a000f4240b0101a110101a000186a0b2101a2143111) rfl hm hz h0) ?_
  have B1 : TBase (upd H ro (.idict (m + 1) (fun x => if x = (key (oc T) k L : Int) then some (k : Int) else d x))) f dx rw dxr la be ro sm gr T L w (k + 1) :=
   ⟨lkn ne1 i1, lkn ne2 i2, B.row.ext (zbX _ _ ne3) (zbX _ _ ne4) (zbX _ _ nl) (zbX _ _ ne5), B.ne⟩
  have Ar1 : Arrs (upd H ro (.idict (m + 1) (fun x => if x = (key (oc T) k L : Int) then some (k : Int) else d x))) sm gr T.length a := ⟨S, R, lkn ne6 s1, lkn ne7 s2, l1, l2, ea⟩
  have j1 := B1.inst
  have j2 := B1.fl
  refine St.of ?_
  refine MC j1 j2 (zbZ rfl rfl) ?_
  refine St.of ?_
  refine waZ hK (by exact J10 (nat_lit 0x1a4220142201) rfl) (part_ok (lv := lv) B1 Ar1 nb hz hk (TT.here _) (TT.wf _) (fun x hx => (TT.keyd _ x hx).1) fun H' b Ar2 P g => ?_)
  refine zaV ?_
  refine zcY ?_
  obtain ⟨tf', T'⟩ := TT.put h0 P
  have g1 : ∀ x, x ≠ sm → x ≠ gr → H' x = upd H ro (.idict (m + 1) (fun x => if x = (key (oc T) k L : Int) then some (k : Int) else d x)) x := g
  refine h H' ⟨B1.frame ⟨_, lkn ne6 s1⟩ ⟨_, lkn ne7 s2⟩ nb g, nb, nl, m + 1, _, b, tf', by exact J20 (nat_lit 0x1a412114120101a1101) rfl hm, by rw [g ro (Ne.symm ne6) (Ne.symm ne7), uS], Ar2, ?_⟩ fun x x1 x2 x3 => (g x x2 x3).trans (zbX _ _ x1)
  have e : (fun i => (if i = (key (oc T) k L : Int) then some (k : Int) else d i).getD (-1)) = fun i => if i = (key (oc T) k L : Int) then (k : Int) else (d i).getD (-1) := by
   funext i
   split <;> rfl
  show Trees _ _ _ _ _ (fun i => (if i = (key (oc T) k L : Int) then some (k : Int) else d i).getD (-1)) b tf'
  rw [e]; exact T'
 ·skip
  exact h H ⟨B, nb, nl, m, d, a, tf, by exact J20 (nat_lit 0x1a412110101a1101) rfl hm, hd, Ar, TT.skip (by exact J30 (nat_lit 0x11a421110111a4211101) rfl h0)⟩ fun _ _ _ _ => rfl
set_option maxHeartbeats 4000000 in
theorem treeevery_ok {G : Gd} {lv : Nat} {f dx rw dxr la be ro sm gr : Addr} {T : List UInt8} {L w p most : Nat} {H : AH} {Q : V → AH → Prop} (A : wcV H f dx rw dxr la be ro sm gr T L w p) (hz : T.length ≤ 100000) (hp : p < T.length) (hm : 2 ≤ most) (hL : 1 ≤ L)
 (h : ∀ l H', H l = none → H' l = some (.list ((can (oc T) T.length w most p (L - 1)).map nV)) → (∀ a o, H a = some o → H' a = some o) → Q (.ref l) H') : waX G (lv + 2) (.ref 425) [.ref f, .int p, .int most] H Q := by
 have B := A.base
 have M := B.mat (P := G.w.params)
 have i1 := B.inst
 have i2 := B.fl
 have r1 := B.row.inst
 have r2 := B.row.fl
 obtain ⟨m, d, a, tf, hm1, hd, Ar, TT⟩ := A.tr
 refine' waY (ps := ["self", "place", "most"]) (extra := []) ?ho (ok_TreeFinder_every _) rfl rfl ?hb ?_
 case ho => k_is
 case hb => exact fun s vs _ r => bnd3 (fun _ _ _  => BindsTo.of_eq rfl) r
 intro c hN hG hK hc
 subst hc
 refine (let r0 : Loc := [some (.ref f), some (.int p), some (.int most), none, none, none, none, none, none, none, none, none]; (?_ : WSs c r0 _ _ _))
 refine goS hN hG ?_
 refine St.of ?_
 refine Mat.ahead M ?_
 refine waV ?_
 refine whZ (by exact fun hq => Nat.lt_irrefl 0 (J10 (nat_lit 0x10a020271a801801) rfl hq)) ?_
 refine zaV ?_
 refine zaY ?_
 refine St.of ?_
 refine AC i1 i2 (zaZ rfl) rfl ?_
 refine St.of ?_
 refine MC r1 r2 (zbZ rfl rfl) ?_
 refine St.of ?_
 refine waZ hK (by exact J10 (nat_lit 0x1a4120141201) rfl) (key_ok (lv := lv) (p := p) B.row hz (by exact J20 (nat_lit 0x1a110111a1101) rfl hp) (fun h0 => ?_) (fun h0 => ?_))
 ·refine wbW ?_
  refine ⟨by decide, fun l hl => ?_⟩
  have g1 : ∀ (X : O) a o, H a = some o → upd H l X a = some o := fun X a o e => lkn (nW e hl) e
  have frB : ∀ X, TBase (upd H l X) f dx rw dxr la be ro sm gr T L w p := fun X => ⟨g1 X _ _ i1, g1 X _ _ i2, B.row.frame (g1 X), B.ne⟩
  have B1 := frB (.list [])
  have M1 := B1.mat (P := c.G.w.params)
  have j1 := B1.inst
  have j2 := B1.fl
  have j3 := g1 (.list []) _ _ hd
  refine St.of ?_
  refine MC j1 j2 (zbZ rfl rfl) ?_
  refine St.of ?_
  refine waZ hK (by exact J10 (nat_lit 0x1a4120141201) rfl) (limit_ok (lv := lv) M1 hz ?_)
  refine St.of ?_
  refine Mat.least M1 ?_
  refine St.of ?_
  refine AC j1 j2 (zaZ rfl) rfl ?_
  refine St.of ?_
  refine MB_get j3 ?_
  refine St.of ?_
  refine C_get j3 ?_
  refine St.of ?_
  rw [min_cast (Nat.le_of_lt hp)]
  have ecan := can_tree (o := oc T) (oc_lt T) (w := w) (most := most) hL h0 (TT.wf (key (oc T) p L)) (fun x hx => (TT.keyd _ x hx).1) (TT.comp _)
  rw [ecan] at h
  have eL : (L : Int) - 1 = ((L - 1 : Nat) : Int) := by exact Int.le_antisymm (J20 (nat_lit 0x61a81151280101a4121101) rfl (sbA _ _)) (J20 (nat_lit 0x61a51281180121a1141201) rfl (Nat.sub_add_cancel (J10 (nat_lit 0x1a011201a0112) rfl hL)))
  rw [eL]
  have here := TT.here (key (oc T) p L)
  have wf := TT.wf (key (oc T) p L)
  have hlt : ∀ x, (tf (key (oc T) p L)).has x = true → x < p := fun x hx => (TT.keyd _ x hx).1
  generalize tf (key (oc T) p L : Int) = t0 at h here wf hlt
  generalize (d (key (oc T) p L : Int)).getD (-1) = root at here
  generalize hlim : min most (T.length - p) = lim at h
  refine Arrs.el Ar fun S R s1 s2 l1 l2 m1 m2 ea => ?_
  have elim : ∀ q, cnt (oc T) T.length most p q ≤ lim := fun q => hlim ▸ cnt_le
  refine WS_whileC (fun _ _ _ => .ex fun (t : Tr) => .ex fun (other : Int) => .ex fun (fs : List (Nat × Nat)) => .ex fun (Lg : Nat) => .ex fun (st : Nat) => .ex fun (lc : Nat) => .ex fun (hc : Nat) => .ex fun (x : Option V) =>
   .hy (TrAt a other t) fun _ => .hy (WF (oc T) T.length t) fun _ => .hy (∀ y, t.has y = true → y < p) fun _ => .hy (Lg < lim → ∀ y, t.has y = true → y + st < p) fun _ => .hy (Abv (oc T) p t lc) fun _ => .hy (Blw (oc T) p t hc) fun _ => .hy (lc ≤ lim) fun _ => .hy (hc ≤ lim) fun _ => .hy (st ≤ p) fun _ => .hy (fs.length ≤ st) fun _ =>
   .hy (fs ++ (walkT (oc T) T.length w most p t Lg).map (toD p) = (walkT (oc T) T.length w most p t0 (L - 1)).map (toD p)) fun _ =>
   .at (T.length + 1 - st) [some (.ref f), some (.int p), some (.int most), some (.int (key (oc T) p L)), some (.ref l), some (.int lim), some (.int Lg), some (.int st), some (.int lc), some (.int hc), some (.int other), x] (upd H l (.list (fs.map nV)))) (T.length + 1)
   (fun P _ _ kk => kk t0 root [] (L - 1) 0 0 0 none here wf hlt (fun _ => hlt) (fun _ _ _ _ g => absurd g (Nat.not_lt_zero _)) (fun _ _ _ _ g => absurd g (Nat.not_lt_zero _)) (Nat.zero_le _) (Nat.zero_le _) (Nat.zero_le _) (Nat.le_refl _) rfl) ?_
  ·intro JJ jj _ t other fs Lg st lc hc x ht wf hlt hst ha hb hlc hhc hsp hfl hfs
   refine tel_at ?_
   intro r1
   have B2 := frB (.list (fs.map nV))
   have M2 := B2.mat (P := c.G.w.params)
   have w1 := B2.inst
   have w2 := B2.fl
   have w3 := g1 (.list (fs.map nV)) _ _ s1
   have w4 := g1 (.list (fs.map nV)) _ _ s2
   have wl : (fs.map nV).length = fs.length := by simp
   have fin : walkT (oc T) T.length w most p t Lg = [] → Q (.ref l) (upd H l (.list (fs.map nV))) := fun e => by
    refine h l _ hl ?_ (g1 _)
    rw [e, List.map_nil, List.append_nil] at hfs
    rw [uS, hfs]; rfl
   refine goT hN hG ?_
   refine St.of ?_
   refine MC w1 w2 (zbZ rfl rfl) ?_
   refine St.of ?_
   refine waZ hK (by exact J10 (nat_lit 0x1a4120141201) rfl) (isnear_ok (lv := lv) M2 ?_)
   by_cases g0 : other = -1
   ·have eu : t = .nil := TrAt.nil_of (g0 ▸ ht)
    refine whZ (by omega) ?_
    refine weU ?_
    refine zaY ?_
    exact fin (by rw [eu]; rfl)
   ·refine TrAt.el ht g0 fun q tl tr eu eq hl1 hr1 => ?_
    subst eu
    subst eq
    have hqn : (Tr.node q tl tr).has q = true := Tr.has_node.mpr (.inl rfl)
    have hqp := hlt q hqn
    by_cases hn : p - q ≤ w
    ·refine ite_t (by exact ⟨fun hq => Nat.lt_irrefl 0 (J10 (nat_lit 0x10a020281a912801) rfl hq), J40 (nat_lit 0x61a821581180101a213101a4113101) rfl hn (sbA _ _)⟩) ?_
     refine St.of ?_
     refine Mat.chain M2 ?_
     refine waV ?_
     refine ite_t (by exact J30 (nat_lit 0x71a41281180111a112101a2101) rfl hp hsp) ?_
     refine waV ?_
     refine zbY (fun h1 => ?_) (fun h1 => ?_)
     ·have h1 : Lg < lim := by exact J20 (nat_lit 0x11a110171a811801) rfl h1
      have hq := hst h1 q hqn
      have x1 := arr_at (S := S) (R := R) (q := q) (by exact J40 (nat_lit 0x11a110111a312131a311111a2101) rfl hp l1 hqp)
      have x2 := arr_at' (S := S) (R := R) (q := q) (by exact J40 (nat_lit 0x11a110111a312131a311111a2101) rfl hp l2 hqp)
      rw [← ea] at x1 x2
      have em := minc lc hc
      have kl := known_le (l := lim) ha hb hqn (by exact J30 (nat_lit 0x1a110101a112101a2101) rfl hlc (Nat.min_le_left _ _))
      have ec : lcp (oc T) p q lim = cnt (oc T) T.length most p q := by rw [← hlim]; rfl
      have hle := elim q
      have e5 : (p : Int) - (q : Int) = ((p - q : Nat) : Int) := by exact Int.le_antisymm (J30 (nat_lit 0x61a821581180101a4112101) rfl (sbA _ _)) (J30 (nat_lit 0x61a582181180121a1142101) rfl (Nat.sub_add_cancel (J20 (nat_lit 0x1a110111a1101) rfl hqp)))
      have eW : walkT (oc T) T.length w most p (.node q tl tr) Lg = (if Lg < cnt (oc T) T.length most p q then [(cnt (oc T) T.length most p q, q)] else []) ++
       (if cnt (oc T) T.length most p q < lim then (if oc T (q + cnt (oc T) T.length most p q) < oc T (p + cnt (oc T) T.length most p q) then walkT (oc T) T.length w most p tr (max Lg (cnt (oc T) T.length most p q)) else walkT (oc T) T.length w most p tl (max Lg (cnt (oc T) T.length most p q))) else []) := by
       show (if far w p q = true ∧ Lg < min most (T.length - p) then _ else _) = _
       rw [if_pos ⟨by unfold far; simpa using hn, by exact J30 (nat_lit 0x11a110131a211171a821801) rfl hlim ‹_›⟩, hlim]
      rw [eW, List.map_append, ← List.append_assoc] at hfs
      refine isWSs ?_
      refine goS hN hG ?_
      refine St.of ?_
      refine IO_add ?_
      refine St.of ?_
      refine MC w1 w2 (zbZ rfl rfl) ?_
      refine St.of ?_
      refine C_min2 ?_
      refine St.of ?_
      rw [em]
      refine waZ hK (by exact J10 (nat_lit 0x1a4120141201) rfl) (alike_ok (lv := lv) (kn := min lc hc) M2 hz hqp (by exact J50 (nat_lit 0x1a214110131a113101a413121a2140141) rfl hlim (Nat.min_le_right _ _) (Nat.sub_add_cancel (J20 (nat_lit 0x1a110111a1101) rfl hp))) kl ?_)
      rw [ec]
      refine waV ?_
      refine zbY (fun h2 => ?_) (fun h2 => ?_)
      ·have h2 : Lg < cnt (oc T) T.length most p q := by exact J20 (nat_lit 0x11a110171a811801) rfl h2
       rw [if_pos h2, Nat.max_eq_right (by exact J20 (nat_lit 0x1a110171a811801) rfl ‹_›)] at hfs
       refine St.of ?_
       refine zcU (uS _ _ _) ?_
       refine St.of ?_
       refine wcX (uS _ _ _) (by exact J60 (nat_lit 0x1a000186a0b0101a000186a0b1111a112101a413121a310111a2144151) rfl hz hp hfl wl hq) ?_
       refine waV ?_
       rw [e5, wcU]
       have ef : fs.map nV ++ [V.pr (cnt (oc T) T.length most p q : Nat) ((p - q : Nat) : Int)] = (fs ++ [(cnt (oc T) T.length most p q, p - q)]).map nV := by rw [List.map_append]; rfl
       rw [ef]
       have hsz' : (fs ++ [(cnt (oc T) T.length most p q, p - q)]).length ≤ st + 1 := by rw [List.length_append]; simp; exact J20 (nat_lit 0x1a110101a1101) rfl hfl
       obtain ⟨fs', hfe⟩ : ∃ fs', fs' = fs ++ [(cnt (oc T) T.length most p q, p - q)] := ⟨_, rfl⟩
       have hfe2 : fs ++ List.map (toD p) [(cnt (oc T) T.length most p q, q)] = fs' := hfe.symm
       rw [hfe2] at hfs
       rw [← hfe] at hsz' ⊢
       have y3 := g1 (.list (fs'.map nV)) _ _ s1
       have y4 := g1 (.list (fs'.map nV)) _ _ s2
       have B3 := frB (.list (fs'.map nV))
       have M3 := B3.mat (P := c.G.w.params)
       have z1 := B3.inst
       have z2 := B3.fl
       refine zbY (fun h3 => ?_) (fun h3 => ?_)
       ·have h3 : cnt (oc T) T.length most p q < lim := by exact J20 (nat_lit 0x11a110171a811801) rfl h3
        rw [if_pos h3] at hfs
        refine St.of ?_
        refine Mat.octets M3 ?_
        refine St.of ?_
        refine wiQ (by exact J20 (nat_lit 0x61a481180102) rfl) (by exact J70 (nat_lit 0x71a821481180131a413111a510171a84181101a613121a2145161) rfl hlim hqp ‹_› (Nat.min_le_right _ _) (Nat.sub_add_cancel (J20 (nat_lit 0x1a110111a1101) rfl hp))) hz ?_
        refine St.of ?_
        refine Mat.octets M3 ?_
        refine St.of ?_
        refine wiQ (by exact J20 (nat_lit 0x61a481180102) rfl) (by exact J60 (nat_lit 0x71a821481180131a413171a84181101a513121a2140151) rfl hlim ‹_› (Nat.min_le_right _ _) (Nat.sub_add_cancel (J20 (nat_lit 0x1a110111a1101) rfl hp))) hz ?_
        refine waV ?_
        have e3 : ((q : Int) + ((cnt (oc T) T.length most p q : Nat) : Int)).toNat = q + cnt (oc T) T.length most p q := by exact Nat.le_antisymm (J30 (nat_lit 0x1a421110181a4821811801) rfl (Int.toNat_of_nonneg (J20 (nat_lit 0x61a481180102) rfl))) (J30 (nat_lit 0x1a214110191a4811801821) rfl (Int.toNat_of_nonneg (J20 (nat_lit 0x61a481180102) rfl)))
        have e4 : ((p : Int) + ((cnt (oc T) T.length most p q : Nat) : Int)).toNat = p + cnt (oc T) T.length most p q := by exact Nat.le_antisymm (J30 (nat_lit 0x1a421110181a4821811801) rfl (Int.toNat_of_nonneg (J50 (nat_lit 0x61a48118010291a831582180121a4112141) rfl e5 e3))) (J30 (nat_lit 0x1a214110191a4811801821) rfl (Int.toNat_of_nonneg (J50 (nat_lit 0x61a48118010291a831582180121a4112141) rfl e5 e3)))
        simp only [e3, e4]
        have agree : ∀ i, i < cnt (oc T) T.length most p q → oc T (q + i) = oc T (p + i) := fun i hi => (wdY hi).symm
        refine zbY (fun h4 => ?_) (fun h4 => ?_)
        ·rw [if_pos (by exact J20 (nat_lit 0x11a110171a811801) rfl h4)] at hfs
         refine St.of ?_
         refine AC z1 z2 (zaZ rfl) rfl ?_
         refine St.of ?_
         refine zaU y4 (by exact J10 (nat_lit 0x61a80102) rfl) (by exact J30 (nat_lit 0x71a3b9aca00b80101a000186a0b1111a112111a2101) rfl hz hp hqp) x2 ?_
         exact fun P kk => jj _ kk tr _ fs' (cnt (oc T) T.length most p q) (st + 1) _ hc _ hr1 wf.2.2.2.2 (fun y hy => hlt y (Tr.has_node.mpr (.inr (.inr hy)))) (fun _ y hy => (by have := (wf.2.1 y hy).1; exact J40 (nat_lit 0x11a214412110111a214113111a3101) rfl hq this)) (abv_step wf hqp (by exact J40 (nat_lit 0x1a110131a312171a83180101a1121) rfl hlim ‹_› (Nat.min_le_right _ _)) agree) (hb.sub fun y hy => Tr.has_node.mpr (.inr (.inr hy))) (by exact J20 (nat_lit 0x1a110171a811801) rfl ‹_›) hhc (by exact J30 (nat_lit 0x1a114120111a1140121) rfl hq) hsz' hfs (by exact J40 (nat_lit 0x11a110121a412314412210131a4123142111) rfl (Nat.sub_add_cancel (J50 (nat_lit 0x1a412114120111a112111a214013181a841583182101a2141) rfl hp hq e5 (Nat.sub_le _ _))) (Nat.sub_add_cancel (J50 (nat_lit 0x1a412110111a112111a214013181a841583182101a2141) rfl hp hq e5 (Nat.sub_le _ _))))
        ·rw [if_neg (by exact fun hq => Nat.lt_irrefl 0 (J20 (nat_lit 0x10a0202b1a81180111a1101) rfl h4 hq))] at hfs
         refine St.of ?_
         refine AC z1 z2 (zaZ rfl) rfl ?_
         refine St.of ?_
         refine zaU y3 (by exact J10 (nat_lit 0x61a80102) rfl) (by exact J30 (nat_lit 0x71a3b9aca00b80101a000186a0b1111a112111a2101) rfl hz hp hqp) x1 ?_
         exact fun P kk => jj _ kk tl _ fs' (cnt (oc T) T.length most p q) (st + 1) lc _ _ hl1 wf.2.2.2.1 (fun y hy => hlt y (Tr.has_node.mpr (.inr (.inl hy)))) (fun _ y hy => (by have := (wf.1 y hy).1; exact J40 (nat_lit 0x11a214412110111a214113111a3101) rfl hq this)) (ha.sub fun y hy => Tr.has_node.mpr (.inr (.inl hy))) (blw_step wf hqp (by exact J40 (nat_lit 0x1a110131a312171a83180101a1121) rfl hlim ‹_› (Nat.min_le_right _ _)) agree) hlc (by exact J20 (nat_lit 0x1a110171a811801) rfl ‹_›) (by exact J30 (nat_lit 0x1a114120111a1140121) rfl hq) hsz' hfs (by exact J40 (nat_lit 0x11a110121a412314412210131a4123142111) rfl (Nat.sub_add_cancel (J50 (nat_lit 0x1a412114120111a112111a214013181a841583182101a2141) rfl hp hq e5 (Nat.sub_le _ _))) (Nat.sub_add_cancel (J50 (nat_lit 0x1a412110111a112111a214013181a841583182101a2141) rfl hp hq e5 (Nat.sub_le _ _))))
       ·have h3 : ¬ cnt (oc T) T.length most p q < lim := by exact fun hq => Nat.lt_irrefl 0 (J20 (nat_lit 0x10a0202b1a81180111a1101) rfl h3 hq)
        rw [if_neg h3] at hfs
        refine zaV ?_
        refine zaY ?_
        refine zaV ?_
        refine fun P kk => jj _ kk (.node q tl tr) _ fs' (cnt (oc T) T.length most p q) (st + 1) lc hc _ ht wf hlt (fun g => absurd g (by exact fun hq => Nat.lt_irrefl 0 (J20 (nat_lit 0x10a0202b1a81180111a1101) rfl ‹_› g))) ha hb hlc hhc (by exact J30 (nat_lit 0x1a114120111a1140121) rfl hq) hsz' ?_ (by exact J40 (nat_lit 0x11a110121a412314412210131a4123142111) rfl (Nat.sub_add_cancel (J30 (nat_lit 0x1a412114120111a112101a2101) rfl hp hsp)) (Nat.sub_add_cancel (J30 (nat_lit 0x1a412110111a112101a2101) rfl hp hsp)))
        rw [← hfs]
        congr 2
        unfold walkT
        rw [if_neg (by rintro ⟨_, g⟩; exact Nat.lt_irrefl 0 (J30 (nat_lit 0x10a020221a1101b1a81182111a0121) rfl hlim ‹_› g))]
      ·have h2 : ¬ Lg < cnt (oc T) T.length most p q := by exact fun hq => Nat.lt_irrefl 0 (J20 (nat_lit 0x10a0202b1a81180111a1101) rfl h2 hq)
       rw [if_neg h2, Nat.max_eq_left (by exact J20 (nat_lit 0x1a1101b1a801811) rfl ‹_›), List.map_nil, List.append_nil] at hfs
       have h3 : cnt (oc T) T.length most p q < lim := by exact J30 (nat_lit 0x11a110171a811821b1a801821) rfl ‹_› ‹_›
       rw [if_pos h3] at hfs
       refine zaV ?_
       refine zaY ?_
       refine waV ?_
       refine ite_t (by exact J20 (nat_lit 0x71a81180111a1101) rfl h3) ?_
       refine St.of ?_
       refine Mat.octets M2 ?_
       refine St.of ?_
       refine wiQ (by exact J30 (nat_lit 0x61a48118010221a1121) rfl ec) (by exact J70 (nat_lit 0x71a821481180131a413111a510111a411101a613121a2145161) rfl hlim hqp h3 (Nat.min_le_right _ _) (Nat.sub_add_cancel (J20 (nat_lit 0x1a110111a1101) rfl hp))) hz ?_
       refine St.of ?_
       refine Mat.octets M2 ?_
       refine St.of ?_
       refine wiQ (by exact J30 (nat_lit 0x61a48118010221a1121) rfl ec) (by exact J60 (nat_lit 0x71a821481180131a413111a411101a513121a2140151) rfl hlim h3 (Nat.min_le_right _ _) (Nat.sub_add_cancel (J20 (nat_lit 0x1a110111a1101) rfl hp))) hz ?_
       refine waV ?_
       have e3 : ((q : Int) + ((cnt (oc T) T.length most p q : Nat) : Int)).toNat = q + cnt (oc T) T.length most p q := by exact Nat.le_antisymm (J30 (nat_lit 0x1a421110181a4821811801) rfl (Int.toNat_of_nonneg (J30 (nat_lit 0x61a48118010221a1121) rfl ec))) (J30 (nat_lit 0x1a214110191a4811801821) rfl (Int.toNat_of_nonneg (J30 (nat_lit 0x61a48118010221a1121) rfl ec)))
       have e4 : ((p : Int) + ((cnt (oc T) T.length most p q : Nat) : Int)).toNat = p + cnt (oc T) T.length most p q := by exact Nat.le_antisymm (J30 (nat_lit 0x1a421110181a4821811801) rfl (Int.toNat_of_nonneg (J30 (nat_lit 0x61a48118010221a1121) rfl ec))) (J30 (nat_lit 0x1a214110191a4811801821) rfl (Int.toNat_of_nonneg (J30 (nat_lit 0x61a48118010221a1121) rfl ec)))
       simp only [e3, e4]
       have agree : ∀ i, i < cnt (oc T) T.length most p q → oc T (q + i) = oc T (p + i) := fun i hi => (wdY hi).symm
       refine zbY (fun h4 => ?_) (fun h4 => ?_)
       ·rw [if_pos (by exact J20 (nat_lit 0x11a110171a811801) rfl h4)] at hfs
        refine St.of ?_
        refine AC w1 w2 (zaZ rfl) rfl ?_
        refine St.of ?_
        refine zaU w4 (by exact J10 (nat_lit 0x61a80102) rfl) (by exact J30 (nat_lit 0x71a3b9aca00b80101a000186a0b1111a112111a2101) rfl hz hp hqp) x2 ?_
        exact fun P kk => jj _ kk tr _ fs Lg (st + 1) _ hc _ hr1 wf.2.2.2.2 (fun y hy => hlt y (Tr.has_node.mpr (.inr (.inr hy)))) (fun _ y hy => (by have := (wf.2.1 y hy).1; exact J40 (nat_lit 0x11a214412110111a214113111a3101) rfl hq this)) (abv_step wf hqp (by exact J40 (nat_lit 0x1a110131a312111a310101a1121) rfl hlim h3 (Nat.min_le_right _ _)) agree) (hb.sub fun y hy => Tr.has_node.mpr (.inr (.inr hy))) (by exact J20 (nat_lit 0x1a110111a1101) rfl h3) hhc (by exact J30 (nat_lit 0x1a114120111a1140121) rfl hq) (by exact J20 (nat_lit 0x1a412110101a1101) rfl hfl) hfs (by exact J40 (nat_lit 0x11a110121a412314412210131a4123142111) rfl (Nat.sub_add_cancel (J50 (nat_lit 0x1a412114120111a112111a214013181a841583182101a2141) rfl hp hq e5 (Nat.sub_le _ _))) (Nat.sub_add_cancel (J50 (nat_lit 0x1a412110111a112111a214013181a841583182101a2141) rfl hp hq e5 (Nat.sub_le _ _))))
       ·rw [if_neg (by exact fun hq => Nat.lt_irrefl 0 (J20 (nat_lit 0x10a0202b1a81180111a1101) rfl h4 hq))] at hfs
        refine St.of ?_
        refine AC w1 w2 (zaZ rfl) rfl ?_
        refine St.of ?_
        refine zaU w3 (by exact J10 (nat_lit 0x61a80102) rfl) (by exact J30 (nat_lit 0x71a3b9aca00b80101a000186a0b1111a112111a2101) rfl hz hp hqp) x1 ?_
        exact fun P kk => jj _ kk tl _ fs Lg (st + 1) lc _ _ hl1 wf.2.2.2.1 (fun y hy => hlt y (Tr.has_node.mpr (.inr (.inl hy)))) (fun _ y hy => (by have := (wf.1 y hy).1; exact J40 (nat_lit 0x11a214412110111a214113111a3101) rfl hq this)) (ha.sub fun y hy => Tr.has_node.mpr (.inr (.inl hy))) (blw_step wf hqp (by exact J40 (nat_lit 0x1a110131a312111a310101a1121) rfl hlim h3 (Nat.min_le_right _ _)) agree) hlc (by exact J20 (nat_lit 0x1a110111a1101) rfl h3) (by exact J30 (nat_lit 0x1a114120111a1140121) rfl hq) (by exact J20 (nat_lit 0x1a412110101a1101) rfl hfl) hfs (by exact J40 (nat_lit 0x11a110121a412314412210131a4123142111) rfl (Nat.sub_add_cancel (J50 (nat_lit 0x1a412114120111a112111a214013181a841583182101a2141) rfl hp hq e5 (Nat.sub_le _ _))) (Nat.sub_add_cancel (J50 (nat_lit 0x1a412110111a112111a214013181a841583182101a2141) rfl hp hq e5 (Nat.sub_le _ _))))
     ·have h1 : ¬ Lg < lim := by exact fun hq => Nat.lt_irrefl 0 (J20 (nat_lit 0x10a0202b1a81180111a1101) rfl h1 hq)
      refine weU ?_
      refine zaY ?_
      refine fin ?_
      unfold walkT
      rw [if_neg]
      rintro ⟨_, g⟩
      exact Nat.lt_irrefl 0 (J30 (nat_lit 0x10a020221a1101b1a81182111a0121) rfl hlim ‹_› g)
    ·refine whZ (by exact fun hq => Nat.lt_irrefl 0 (J40 (nat_lit 0x10a020241a110161a811583182121a2143101) rfl hn hq.2 (Nat.sub_add_cancel (J20 (nat_lit 0x1a110111a1101) rfl hqp)))) ?_
     refine weU ?_
     refine zaY ?_
     refine fin ?_
     unfold walkT
     rw [if_neg]
     rintro ⟨g, _⟩
     unfold far at g
     simp at g; exact Nat.lt_irrefl 0 (J40 (nat_lit 0x10a020241a110101a431112121a2143101) rfl hn g (Nat.sub_add_cancel (J20 (nat_lit 0x1a110111a1101) rfl hqp)))
 ·refine wbW ?_
  refine ⟨by decide, fun l hl => ?_⟩
  refine h l _ hl ?_ fun x o e => lkn (nW e hl) e
  rw [uS, can_short (o := oc T) (w := w) (most := most) (n := T.length) (p := p) hL (.inl (by exact J30 (nat_lit 0x11a421110111a4211101) rfl h0))]; rfl
set_option tactic.hygienic false
theorem treeinit_ok {G : Gd} {lv : Nat} {T : List UInt8} {L w : Nat} {H : AH} {Q : V → AH → Prop} (hz : T.length ≤ 100000) (hw : 1 ≤ w) (hL : 1 ≤ L)
 (h : ∀ H' f dx rw dxr la be ro sm gr, wcV H' f dx rw dxr la be ro sm gr T L w 0 → (∀ x ∈ [f, dx, rw, dxr, la, be, ro, sm, gr], H x = none) → (∀ a o, H a = some o → H' a = some o) → Q (.ref f) H') : waX G (lv + 4) (.ref 428) [.bytes T, .int L, .int w, .int (T.length + 1)] H Q := by
 refine wiW zbU new_TreeFinder fun a dx ha hdx hne => ?_
 have m : IsInit := .mk
 generalize hH1 : upd (upd H dx (.fields zbU [])) a (.inst 428 dx) = H1
 have i1 : H1 a = some (.inst 428 dx) := by rw [← hH1]; exact uS _ _ _
 have i2 : H1 dx = some (.fields zbU []) := by rw [← hH1]; exact (lkn (Ne.symm hne) (uS _ _ _))
 have i3 : ∀ b o, H b = some o → H1 b = some o := fun b o e => by rw [← hH1]; exact lkn (nW e ha) (lkn (nW e hdx) e)
 have i4 : ∀ b, H1 b = none → H b = none := fun b e => by
  cases q : H b with
  | none => rfl
  | some o => rw [i3 b o q] at e; cases e
 refine' waY (ps := ["self", "octets", "least", "window", "chain"]) (extra := []) ?ho (ok_TreeFinder_init _) rfl rfl ?hb ?_
 case ho => k_is
 case hb => (intro s vs X r; obtain ⟨v0, v1, v2, v3, v4, rfl⟩ := r.ex5; exact ⟨[], trivial, binds_K (show (hd.heap_1 _).In _ from X) rfl (by k_is) rfl rfl rfl⟩)
 intro c hN hG hK hc
 subst hc
 refine (let r0 : Loc := [some (.ref a), some (.bytes T), some (.int L), some (.int w), some (.int (T.length + 1))]; (?_ : WSs c r0 _ _ _))
 refine goS hN hG ?_
 refine St.of ?_
 refine waZ hK (by exact J10 (nat_lit 0x1a4220141201) rfl) (matinit_ok (lv := lv) i1 i2 zcZ rfl rfl rfl rfl rfl (by exact J10 (nat_lit 0x61a8011201a0112) rfl hL) (by exact J10 (nat_lit 0x61a8011201a0112) rfl hw) (by exact J10 (nat_lit 0x61a41280112) rfl) ?_)
 refine St.of ?_
 refine AC (lkn hne i1) (uS _ _ _) (zaZ rfl) rfl ?_
 refine St.of ?_
 refine waZ hK (by exact J10 (nat_lit 0x1a4220142201) rfl) (rowinit_ok (lv := lv) (s := L) hz hL fun H2 rw dxr la be R n1 n2 n3 n4 g => ?_)
 have g1 := g a _ (show upd H1 dx _ a = some _ from lkn hne i1)
 have g2 := g dx _ (uS _ _ _)
 have d1 : rw ≠ dx := Ne.symm (nW (uS _ _ _) n1)
 have d2 : dxr ≠ dx := Ne.symm (nW (uS _ _ _) n2)
 have d3 : la ≠ dx := Ne.symm (nW (uS _ _ _) n3)
 have d4 : be ≠ dx := Ne.symm (nW (uS _ _ _) n4)
 refine St.of ?_
 refine NAc g1 g2 (zaZ rfl) rfl rfl ?_
 intro ro hro
 have i5 : ∀ b o, H1 b = some o → b ≠ dx → H2 b = some o := fun b o e n => g b o (lkn n e)
 have r1 := R.inst
 have r2 := R.fl
 obtain ⟨nn, dd, r3, r4, r5⟩ := R.last
 obtain ⟨bs, r6, r7, r8⟩ := R.bef
 refine St.of ?_
 refine NAc (lkn (nnx hro ⟨_, (lkn hne ‹_›)⟩) (lkn hne g1)) (lkn (nnx hro ⟨_, (uS _ _ _)⟩) (uS _ _ _)) (zaZ rfl) rfl rfl ?_
 refine wbW ?_
 refine ⟨by decide, fun x hx => ?_⟩
 refine St.of ?_
 refine AC (lkn (nnx hx ⟨_, (lkn hne (lkn (nnx hro ⟨_, (lkn hne ‹_›)⟩) (lkn hne ‹_›)))⟩) (lkn hne (lkn (nnx hro ⟨_, (lkn hne ‹_›)⟩) (lkn hne g1)))) (lkn (nnx hx ⟨_, (uS _ _ _)⟩) (uS _ _ _)) (zaZ rfl) rfl ?_
 refine St.of ?_
 refine wgQ hz ?_
 refine St.of ?_
 refine whV (uS _ _ _) (by simp) (by exact J10 (nat_lit 0x61a8019000f4240b) rfl) (by exact J10 (nat_lit 0x61a000f4240b80101a000186a0b01) rfl hz) (by simp; exact J10 (nat_lit 0x1a000f4240b0101a000186a0b01) rfl hz) fun sm hsm => ?_
 refine St.of ?_
 refine NAc (lkn (nnx hsm ⟨_, (lkn (nnx hx ⟨_, (lkn hne (lkn (nnx hro ⟨_, (lkn hne ‹_›)⟩) (lkn hne ‹_›)))⟩) (lkn hne (lkn (nnx hro ⟨_, (lkn hne ‹_›)⟩) (lkn hne ‹_›))))⟩) (lkn (nnx hx ⟨_, (lkn hne (lkn (nnx hro ⟨_, (lkn hne ‹_›)⟩) (lkn hne ‹_›)))⟩) (lkn hne (lkn (nnx hro ⟨_, (lkn hne ‹_›)⟩) (lkn hne g1))))) (lkn (nnx hsm ⟨_, (lkn (nnx hx ⟨_, (uS _ _ _)⟩) (uS _ _ _))⟩) (lkn (nnx hx ⟨_, (uS _ _ _)⟩) (uS _ _ _))) (zaZ rfl) rfl rfl ?_
 refine wbW ?_
 refine ⟨by decide, fun y hy => ?_⟩
 refine St.of ?_
 refine AC (lkn (nnx hy ⟨_, (lkn hne (lkn (nnx hsm ⟨_, (lkn (nnx hx ⟨_, (lkn hne (lkn (nnx hro ⟨_, (lkn hne ‹_›)⟩) (lkn hne ‹_›)))⟩) (lkn hne (lkn (nnx hro ⟨_, (lkn hne ‹_›)⟩) (lkn hne ‹_›))))⟩) (lkn (nnx hx ⟨_, (lkn hne (lkn (nnx hro ⟨_, (lkn hne ‹_›)⟩) (lkn hne ‹_›)))⟩) (lkn hne (lkn (nnx hro ⟨_, (lkn hne ‹_›)⟩) (lkn hne ‹_›))))))⟩) (lkn hne (lkn (nnx hsm ⟨_, (lkn (nnx hx ⟨_, (lkn hne (lkn (nnx hro ⟨_, (lkn hne ‹_›)⟩) (lkn hne ‹_›)))⟩) (lkn hne (lkn (nnx hro ⟨_, (lkn hne ‹_›)⟩) (lkn hne ‹_›))))⟩) (lkn (nnx hx ⟨_, (lkn hne (lkn (nnx hro ⟨_, (lkn hne ‹_›)⟩) (lkn hne ‹_›)))⟩) (lkn hne (lkn (nnx hro ⟨_, (lkn hne ‹_›)⟩) (lkn hne g1))))))) (lkn (nnx hy ⟨_, (uS _ _ _)⟩) (uS _ _ _)) (zaZ rfl) rfl ?_
 refine St.of ?_
 refine wgQ hz ?_
 refine St.of ?_
 refine whV (uS _ _ _) (by simp) (by exact J10 (nat_lit 0x61a8019000f4240b) rfl) (by exact J10 (nat_lit 0x61a000f4240b80101a000186a0b01) rfl hz) (by simp; exact J10 (nat_lit 0x1a000f4240b0101a000186a0b01) rfl hz) fun gr hgr => ?_
 refine St.of ?_
 refine NAc (lkn (nnx hgr ⟨_, (lkn (nnx hy ⟨_, (lkn hne (lkn (nnx hsm ⟨_, (lkn (nnx hx ⟨_, (lkn hne (lkn (nnx hro ⟨_, (lkn hne ‹_›)⟩) (lkn hne ‹_›)))⟩) (lkn hne (lkn (nnx hro ⟨_, (lkn hne ‹_›)⟩) (lkn hne ‹_›))))⟩) (lkn (nnx hx ⟨_, (lkn hne (lkn (nnx hro ⟨_, (lkn hne ‹_›)⟩) (lkn hne ‹_›)))⟩) (lkn hne (lkn (nnx hro ⟨_, (lkn hne ‹_›)⟩) (lkn hne ‹_›))))))⟩) (lkn hne (lkn (nnx hsm ⟨_, (lkn (nnx hx ⟨_, (lkn hne (lkn (nnx hro ⟨_, (lkn hne ‹_›)⟩) (lkn hne ‹_›)))⟩) (lkn hne (lkn (nnx hro ⟨_, (lkn hne ‹_›)⟩) (lkn hne ‹_›))))⟩) (lkn (nnx hx ⟨_, (lkn hne (lkn (nnx hro ⟨_, (lkn hne ‹_›)⟩) (lkn hne ‹_›)))⟩) (lkn hne (lkn (nnx hro ⟨_, (lkn hne ‹_›)⟩) (lkn hne ‹_›)))))))⟩) (lkn (nnx hy ⟨_, (lkn hne (lkn (nnx hsm ⟨_, (lkn (nnx hx ⟨_, (lkn hne (lkn (nnx hro ⟨_, (lkn hne ‹_›)⟩) (lkn hne ‹_›)))⟩) (lkn hne (lkn (nnx hro ⟨_, (lkn hne ‹_›)⟩) (lkn hne ‹_›))))⟩) (lkn (nnx hx ⟨_, (lkn hne (lkn (nnx hro ⟨_, (lkn hne ‹_›)⟩) (lkn hne ‹_›)))⟩) (lkn hne (lkn (nnx hro ⟨_, (lkn hne ‹_›)⟩) (lkn hne ‹_›))))))⟩) (lkn hne (lkn (nnx hsm ⟨_, (lkn (nnx hx ⟨_, (lkn hne (lkn (nnx hro ⟨_, (lkn hne ‹_›)⟩) (lkn hne ‹_›)))⟩) (lkn hne (lkn (nnx hro ⟨_, (lkn hne ‹_›)⟩) (lkn hne ‹_›))))⟩) (lkn (nnx hx ⟨_, (lkn hne (lkn (nnx hro ⟨_, (lkn hne ‹_›)⟩) (lkn hne ‹_›)))⟩) (lkn hne (lkn (nnx hro ⟨_, (lkn hne ‹_›)⟩) (lkn hne g1)))))))) (lkn (nnx hgr ⟨_, (lkn (nnx hy ⟨_, (uS _ _ _)⟩) (uS _ _ _))⟩) (lkn (nnx hy ⟨_, (uS _ _ _)⟩) (uS _ _ _))) (zaZ rfl) rfl rfl ?_
 refine zaV ?_
 refine zcY ?_
 refine nonq ?_
 have ern : (List.replicate ((T.length : Int).toNat) [V.int (-1)]).flatten = (List.replicate T.length (-1)).map V.int := by rw [flat_one, Int.toNat_natCast]
 rw [ern] at *
 have nsg : sm ≠ gr := (nnx hgr ⟨_, (lkn (nnx hy ⟨_, (lkn (Ne.symm (nnx hsm ⟨_, (lkn (nnx hx ⟨_, (uS _ _ _)⟩) (uS _ _ _))⟩)) (uS _ _ _))⟩) (lkn (Ne.symm (nnx hsm ⟨_, (lkn (nnx hx ⟨_, (uS _ _ _)⟩) (uS _ _ _))⟩)) (uS _ _ _)))⟩)
 have i6 : ∀ b, H2 b = none → H b = none := fun b e => by
  cases q : H b with
  | none => rfl
  | some o =>
   have := i5 b o (i3 b o q) (nW q hdx)
   rw [this] at e; cases e
 refine h _ a dx rw dxr la be ro sm gr ⟨⟨(lkn hne (lkn (nnx hgr ⟨_, (lkn (nnx hy ⟨_, (lkn hne (lkn (nnx hsm ⟨_, (lkn (nnx hx ⟨_, (lkn hne (lkn (nnx hro ⟨_, (lkn hne ‹_›)⟩) (lkn hne ‹_›)))⟩) (lkn hne (lkn (nnx hro ⟨_, (lkn hne ‹_›)⟩) (lkn hne ‹_›))))⟩) (lkn (nnx hx ⟨_, (lkn hne (lkn (nnx hro ⟨_, (lkn hne ‹_›)⟩) (lkn hne ‹_›)))⟩) (lkn hne (lkn (nnx hro ⟨_, (lkn hne ‹_›)⟩) (lkn hne ‹_›))))))⟩) (lkn hne (lkn (nnx hsm ⟨_, (lkn (nnx hx ⟨_, (lkn hne (lkn (nnx hro ⟨_, (lkn hne ‹_›)⟩) (lkn hne ‹_›)))⟩) (lkn hne (lkn (nnx hro ⟨_, (lkn hne ‹_›)⟩) (lkn hne ‹_›))))⟩) (lkn (nnx hx ⟨_, (lkn hne (lkn (nnx hro ⟨_, (lkn hne ‹_›)⟩) (lkn hne ‹_›)))⟩) (lkn hne (lkn (nnx hro ⟨_, (lkn hne ‹_›)⟩) (lkn hne ‹_›)))))))⟩) (lkn (nnx hy ⟨_, (lkn hne (lkn (nnx hsm ⟨_, (lkn (nnx hx ⟨_, (lkn hne (lkn (nnx hro ⟨_, (lkn hne ‹_›)⟩) (lkn hne ‹_›)))⟩) (lkn hne (lkn (nnx hro ⟨_, (lkn hne ‹_›)⟩) (lkn hne ‹_›))))⟩) (lkn (nnx hx ⟨_, (lkn hne (lkn (nnx hro ⟨_, (lkn hne ‹_›)⟩) (lkn hne ‹_›)))⟩) (lkn hne (lkn (nnx hro ⟨_, (lkn hne ‹_›)⟩) (lkn hne ‹_›))))))⟩) (lkn hne (lkn (nnx hsm ⟨_, (lkn (nnx hx ⟨_, (lkn hne (lkn (nnx hro ⟨_, (lkn hne ‹_›)⟩) (lkn hne ‹_›)))⟩) (lkn hne (lkn (nnx hro ⟨_, (lkn hne ‹_›)⟩) (lkn hne ‹_›))))⟩) (lkn (nnx hx ⟨_, (lkn hne (lkn (nnx hro ⟨_, (lkn hne ‹_›)⟩) (lkn hne ‹_›)))⟩) (lkn hne (lkn (nnx hro ⟨_, (lkn hne ‹_›)⟩) (lkn hne g1))))))))), uS _ _ _, ⟨(lkn d1 (lkn (nnx hgr ⟨_, (lkn (nnx hy ⟨_, (lkn d1 (lkn (nnx hsm ⟨_, (lkn (nnx hx ⟨_, (lkn d1 (lkn (nnx hro ⟨_, (lkn d1 ‹_›)⟩) (lkn d1 ‹_›)))⟩) (lkn d1 (lkn (nnx hro ⟨_, (lkn d1 ‹_›)⟩) (lkn d1 ‹_›))))⟩) (lkn (nnx hx ⟨_, (lkn d1 (lkn (nnx hro ⟨_, (lkn d1 ‹_›)⟩) (lkn d1 ‹_›)))⟩) (lkn d1 (lkn (nnx hro ⟨_, (lkn d1 ‹_›)⟩) (lkn d1 ‹_›))))))⟩) (lkn d1 (lkn (nnx hsm ⟨_, (lkn (nnx hx ⟨_, (lkn d1 (lkn (nnx hro ⟨_, (lkn d1 ‹_›)⟩) (lkn d1 ‹_›)))⟩) (lkn d1 (lkn (nnx hro ⟨_, (lkn d1 ‹_›)⟩) (lkn d1 ‹_›))))⟩) (lkn (nnx hx ⟨_, (lkn d1 (lkn (nnx hro ⟨_, (lkn d1 ‹_›)⟩) (lkn d1 ‹_›)))⟩) (lkn d1 (lkn (nnx hro ⟨_, (lkn d1 ‹_›)⟩) (lkn d1 ‹_›)))))))⟩) (lkn (nnx hy ⟨_, (lkn d1 (lkn (nnx hsm ⟨_, (lkn (nnx hx ⟨_, (lkn d1 (lkn (nnx hro ⟨_, (lkn d1 ‹_›)⟩) (lkn d1 ‹_›)))⟩) (lkn d1 (lkn (nnx hro ⟨_, (lkn d1 ‹_›)⟩) (lkn d1 ‹_›))))⟩) (lkn (nnx hx ⟨_, (lkn d1 (lkn (nnx hro ⟨_, (lkn d1 ‹_›)⟩) (lkn d1 ‹_›)))⟩) (lkn d1 (lkn (nnx hro ⟨_, (lkn d1 ‹_›)⟩) (lkn d1 ‹_›))))))⟩) (lkn d1 (lkn (nnx hsm ⟨_, (lkn (nnx hx ⟨_, (lkn d1 (lkn (nnx hro ⟨_, (lkn d1 ‹_›)⟩) (lkn d1 ‹_›)))⟩) (lkn d1 (lkn (nnx hro ⟨_, (lkn d1 ‹_›)⟩) (lkn d1 ‹_›))))⟩) (lkn (nnx hx ⟨_, (lkn d1 (lkn (nnx hro ⟨_, (lkn d1 ‹_›)⟩) (lkn d1 ‹_›)))⟩) (lkn d1 (lkn (nnx hro ⟨_, (lkn d1 ‹_›)⟩) (lkn d1 r1))))))))), (lkn d2 (lkn (nnx hgr ⟨_, (lkn (nnx hy ⟨_, (lkn d2 (lkn (nnx hsm ⟨_, (lkn (nnx hx ⟨_, (lkn d2 (lkn (nnx hro ⟨_, (lkn d2 ‹_›)⟩) (lkn d2 ‹_›)))⟩) (lkn d2 (lkn (nnx hro ⟨_, (lkn d2 ‹_›)⟩) (lkn d2 ‹_›))))⟩) (lkn (nnx hx ⟨_, (lkn d2 (lkn (nnx hro ⟨_, (lkn d2 ‹_›)⟩) (lkn d2 ‹_›)))⟩) (lkn d2 (lkn (nnx hro ⟨_, (lkn d2 ‹_›)⟩) (lkn d2 ‹_›))))))⟩) (lkn d2 (lkn (nnx hsm ⟨_, (lkn (nnx hx ⟨_, (lkn d2 (lkn (nnx hro ⟨_, (lkn d2 ‹_›)⟩) (lkn d2 ‹_›)))⟩) (lkn d2 (lkn (nnx hro ⟨_, (lkn d2 ‹_›)⟩) (lkn d2 ‹_›))))⟩) (lkn (nnx hx ⟨_, (lkn d2 (lkn (nnx hro ⟨_, (lkn d2 ‹_›)⟩) (lkn d2 ‹_›)))⟩) (lkn d2 (lkn (nnx hro ⟨_, (lkn d2 ‹_›)⟩) (lkn d2 ‹_›)))))))⟩) (lkn (nnx hy ⟨_, (lkn d2 (lkn (nnx hsm ⟨_, (lkn (nnx hx ⟨_, (lkn d2 (lkn (nnx hro ⟨_, (lkn d2 ‹_›)⟩) (lkn d2 ‹_›)))⟩) (lkn d2 (lkn (nnx hro ⟨_, (lkn d2 ‹_›)⟩) (lkn d2 ‹_›))))⟩) (lkn (nnx hx ⟨_, (lkn d2 (lkn (nnx hro ⟨_, (lkn d2 ‹_›)⟩) (lkn d2 ‹_›)))⟩) (lkn d2 (lkn (nnx hro ⟨_, (lkn d2 ‹_›)⟩) (lkn d2 ‹_›))))))⟩) (lkn d2 (lkn (nnx hsm ⟨_, (lkn (nnx hx ⟨_, (lkn d2 (lkn (nnx hro ⟨_, (lkn d2 ‹_›)⟩) (lkn d2 ‹_›)))⟩) (lkn d2 (lkn (nnx hro ⟨_, (lkn d2 ‹_›)⟩) (lkn d2 ‹_›))))⟩) (lkn (nnx hx ⟨_, (lkn d2 (lkn (nnx hro ⟨_, (lkn d2 ‹_›)⟩) (lkn d2 ‹_›)))⟩) (lkn d2 (lkn (nnx hro ⟨_, (lkn d2 ‹_›)⟩) (lkn d2 r2))))))))), ⟨nn, dd, r3, (lkn d3 (lkn (nnx hgr ⟨_, (lkn (nnx hy ⟨_, (lkn d3 (lkn (nnx hsm ⟨_, (lkn (nnx hx ⟨_, (lkn d3 (lkn (nnx hro ⟨_, (lkn d3 ‹_›)⟩) (lkn d3 ‹_›)))⟩) (lkn d3 (lkn (nnx hro ⟨_, (lkn d3 ‹_›)⟩) (lkn d3 ‹_›))))⟩) (lkn (nnx hx ⟨_, (lkn d3 (lkn (nnx hro ⟨_, (lkn d3 ‹_›)⟩) (lkn d3 ‹_›)))⟩) (lkn d3 (lkn (nnx hro ⟨_, (lkn d3 ‹_›)⟩) (lkn d3 ‹_›))))))⟩) (lkn d3 (lkn (nnx hsm ⟨_, (lkn (nnx hx ⟨_, (lkn d3 (lkn (nnx hro ⟨_, (lkn d3 ‹_›)⟩) (lkn d3 ‹_›)))⟩) (lkn d3 (lkn (nnx hro ⟨_, (lkn d3 ‹_›)⟩) (lkn d3 ‹_›))))⟩) (lkn (nnx hx ⟨_, (lkn d3 (lkn (nnx hro ⟨_, (lkn d3 ‹_›)⟩) (lkn d3 ‹_›)))⟩) (lkn d3 (lkn (nnx hro ⟨_, (lkn d3 ‹_›)⟩) (lkn d3 ‹_›)))))))⟩) (lkn (nnx hy ⟨_, (lkn d3 (lkn (nnx hsm ⟨_, (lkn (nnx hx ⟨_, (lkn d3 (lkn (nnx hro ⟨_, (lkn d3 ‹_›)⟩) (lkn d3 ‹_›)))⟩) (lkn d3 (lkn (nnx hro ⟨_, (lkn d3 ‹_›)⟩) (lkn d3 ‹_›))))⟩) (lkn (nnx hx ⟨_, (lkn d3 (lkn (nnx hro ⟨_, (lkn d3 ‹_›)⟩) (lkn d3 ‹_›)))⟩) (lkn d3 (lkn (nnx hro ⟨_, (lkn d3 ‹_›)⟩) (lkn d3 ‹_›))))))⟩) (lkn d3 (lkn (nnx hsm ⟨_, (lkn (nnx hx ⟨_, (lkn d3 (lkn (nnx hro ⟨_, (lkn d3 ‹_›)⟩) (lkn d3 ‹_›)))⟩) (lkn d3 (lkn (nnx hro ⟨_, (lkn d3 ‹_›)⟩) (lkn d3 ‹_›))))⟩) (lkn (nnx hx ⟨_, (lkn d3 (lkn (nnx hro ⟨_, (lkn d3 ‹_›)⟩) (lkn d3 ‹_›)))⟩) (lkn d3 (lkn (nnx hro ⟨_, (lkn d3 ‹_›)⟩) (lkn d3 r4))))))))), r5⟩, ⟨bs, (lkn d4 (lkn (nnx hgr ⟨_, (lkn (nnx hy ⟨_, (lkn d4 (lkn (nnx hsm ⟨_, (lkn (nnx hx ⟨_, (lkn d4 (lkn (nnx hro ⟨_, (lkn d4 ‹_›)⟩) (lkn d4 ‹_›)))⟩) (lkn d4 (lkn (nnx hro ⟨_, (lkn d4 ‹_›)⟩) (lkn d4 ‹_›))))⟩) (lkn (nnx hx ⟨_, (lkn d4 (lkn (nnx hro ⟨_, (lkn d4 ‹_›)⟩) (lkn d4 ‹_›)))⟩) (lkn d4 (lkn (nnx hro ⟨_, (lkn d4 ‹_›)⟩) (lkn d4 ‹_›))))))⟩) (lkn d4 (lkn (nnx hsm ⟨_, (lkn (nnx hx ⟨_, (lkn d4 (lkn (nnx hro ⟨_, (lkn d4 ‹_›)⟩) (lkn d4 ‹_›)))⟩) (lkn d4 (lkn (nnx hro ⟨_, (lkn d4 ‹_›)⟩) (lkn d4 ‹_›))))⟩) (lkn (nnx hx ⟨_, (lkn d4 (lkn (nnx hro ⟨_, (lkn d4 ‹_›)⟩) (lkn d4 ‹_›)))⟩) (lkn d4 (lkn (nnx hro ⟨_, (lkn d4 ‹_›)⟩) (lkn d4 ‹_›)))))))⟩) (lkn (nnx hy ⟨_, (lkn d4 (lkn (nnx hsm ⟨_, (lkn (nnx hx ⟨_, (lkn d4 (lkn (nnx hro ⟨_, (lkn d4 ‹_›)⟩) (lkn d4 ‹_›)))⟩) (lkn d4 (lkn (nnx hro ⟨_, (lkn d4 ‹_›)⟩) (lkn d4 ‹_›))))⟩) (lkn (nnx hx ⟨_, (lkn d4 (lkn (nnx hro ⟨_, (lkn d4 ‹_›)⟩) (lkn d4 ‹_›)))⟩) (lkn d4 (lkn (nnx hro ⟨_, (lkn d4 ‹_›)⟩) (lkn d4 ‹_›))))))⟩) (lkn d4 (lkn (nnx hsm ⟨_, (lkn (nnx hx ⟨_, (lkn d4 (lkn (nnx hro ⟨_, (lkn d4 ‹_›)⟩) (lkn d4 ‹_›)))⟩) (lkn d4 (lkn (nnx hro ⟨_, (lkn d4 ‹_›)⟩) (lkn d4 ‹_›))))⟩) (lkn (nnx hx ⟨_, (lkn d4 (lkn (nnx hro ⟨_, (lkn d4 ‹_›)⟩) (lkn d4 ‹_›)))⟩) (lkn d4 (lkn (nnx hro ⟨_, (lkn d4 ‹_›)⟩) (lkn d4 r6))))))))), r7, r8⟩⟩, nsg⟩, ⟨(nnx hsm ⟨_, (lkn (nnx hx ⟨_, (lkn d4 (lkn (nnx hro ⟨_, (lkn d4 ‹_›)⟩) (lkn d4 ‹_›)))⟩) (lkn d4 (lkn (nnx hro ⟨_, (lkn d4 ‹_›)⟩) (lkn d4 ‹_›))))⟩), (nnx hgr ⟨_, (lkn (nnx hy ⟨_, (lkn d4 (lkn (nnx hsm ⟨_, (lkn (nnx hx ⟨_, (lkn d4 (lkn (nnx hro ⟨_, (lkn d4 ‹_›)⟩) (lkn d4 ‹_›)))⟩) (lkn d4 (lkn (nnx hro ⟨_, (lkn d4 ‹_›)⟩) (lkn d4 ‹_›))))⟩) (lkn (nnx hx ⟨_, (lkn d4 (lkn (nnx hro ⟨_, (lkn d4 ‹_›)⟩) (lkn d4 ‹_›)))⟩) (lkn d4 (lkn (nnx hro ⟨_, (lkn d4 ‹_›)⟩) (lkn d4 ‹_›))))))⟩) (lkn d4 (lkn (nnx hsm ⟨_, (lkn (nnx hx ⟨_, (lkn d4 (lkn (nnx hro ⟨_, (lkn d4 ‹_›)⟩) (lkn d4 ‹_›)))⟩) (lkn d4 (lkn (nnx hro ⟨_, (lkn d4 ‹_›)⟩) (lkn d4 ‹_›))))⟩) (lkn (nnx hx ⟨_, (lkn d4 (lkn (nnx hro ⟨_, (lkn d4 ‹_›)⟩) (lkn d4 ‹_›)))⟩) (lkn d4 (lkn (nnx hro ⟨_, (lkn d4 ‹_›)⟩) (lkn d4 ‹_›)))))))⟩)⟩, (nnx hro ⟨_, (lkn d3 ‹_›)⟩),
  ⟨0, fun _ => none, _, _, Nat.le_refl _, (lkn (Ne.symm (nnx hro ⟨_, (uS _ _ _)⟩)) (lkn (nnx hgr ⟨_, (lkn (nnx hy ⟨_, (lkn (Ne.symm (nnx hro ⟨_, (uS _ _ _)⟩)) (lkn (nnx hsm ⟨_, (lkn (nnx hx ⟨_, (lkn (Ne.symm (nnx hro ⟨_, (uS _ _ _)⟩)) (uS _ _ _))⟩) (lkn (Ne.symm (nnx hro ⟨_, (uS _ _ _)⟩)) (uS _ _ _)))⟩) (lkn (nnx hx ⟨_, (lkn (Ne.symm (nnx hro ⟨_, (uS _ _ _)⟩)) (uS _ _ _))⟩) (lkn (Ne.symm (nnx hro ⟨_, (uS _ _ _)⟩)) (uS _ _ _)))))⟩) (lkn (Ne.symm (nnx hro ⟨_, (uS _ _ _)⟩)) (lkn (nnx hsm ⟨_, (lkn (nnx hx ⟨_, (lkn (Ne.symm (nnx hro ⟨_, (uS _ _ _)⟩)) (uS _ _ _))⟩) (lkn (Ne.symm (nnx hro ⟨_, (uS _ _ _)⟩)) (uS _ _ _)))⟩) (lkn (nnx hx ⟨_, (lkn (Ne.symm (nnx hro ⟨_, (uS _ _ _)⟩)) (uS _ _ _))⟩) (lkn (Ne.symm (nnx hro ⟨_, (uS _ _ _)⟩)) (uS _ _ _))))))⟩) (lkn (nnx hy ⟨_, (lkn (Ne.symm (nnx hro ⟨_, (uS _ _ _)⟩)) (lkn (nnx hsm ⟨_, (lkn (nnx hx ⟨_, (lkn (Ne.symm (nnx hro ⟨_, (uS _ _ _)⟩)) (uS _ _ _))⟩) (lkn (Ne.symm (nnx hro ⟨_, (uS _ _ _)⟩)) (uS _ _ _)))⟩) (lkn (nnx hx ⟨_, (lkn (Ne.symm (nnx hro ⟨_, (uS _ _ _)⟩)) (uS _ _ _))⟩) (lkn (Ne.symm (nnx hro ⟨_, (uS _ _ _)⟩)) (uS _ _ _)))))⟩) (lkn (Ne.symm (nnx hro ⟨_, (uS _ _ _)⟩)) (lkn (nnx hsm ⟨_, (lkn (nnx hx ⟨_, (lkn (Ne.symm (nnx hro ⟨_, (uS _ _ _)⟩)) (uS _ _ _))⟩) (lkn (Ne.symm (nnx hro ⟨_, (uS _ _ _)⟩)) (uS _ _ _)))⟩) (lkn (nnx hx ⟨_, (lkn (Ne.symm (nnx hro ⟨_, (uS _ _ _)⟩)) (uS _ _ _))⟩) (lkn (Ne.symm (nnx hro ⟨_, (uS _ _ _)⟩)) (uS _ _ _)))))))), ⟨List.replicate T.length (-1), List.replicate T.length (-1), (lkn (Ne.symm (nnx hsm ⟨_, (lkn (nnx hx ⟨_, (uS _ _ _)⟩) (uS _ _ _))⟩)) (lkn nsg (lkn (nnx hy ⟨_, (lkn (Ne.symm (nnx hsm ⟨_, (lkn (nnx hx ⟨_, (uS _ _ _)⟩) (uS _ _ _))⟩)) (uS _ _ _))⟩) (lkn (Ne.symm (nnx hsm ⟨_, (lkn (nnx hx ⟨_, (uS _ _ _)⟩) (uS _ _ _))⟩)) (uS _ _ _))))), (lkn (Ne.symm (nnx hgr ⟨_, (lkn (nnx hy ⟨_, (uS _ _ _)⟩) (uS _ _ _))⟩)) (uS _ _ _)), by simp, by simp, rfl⟩, Trees.init⟩⟩ (fun z hz' => ?_) fun b o e => ?_
 ·exact zaW (p := fun z => H z = none) ha (zaW hdx (zaW (i4 _ (zaQ n1)) (zaW (i4 _ (zaQ n2)) (zaW (i4 _ (zaQ n3)) (zaW (i4 _ (zaQ n4)) (zaW (i6 _ (zaQ hro)) (zaW (i6 _ (zaQ (zaQ (zaQ (zaQ hsm))))) (zaW (i6 _ (zaQ (zaQ (zaQ (zaQ (zaQ (zaQ (zaQ hgr)))))))) wgX)))))))) _ hz'
 ·have hbd : b ≠ dx := nW e hdx
  have hb := g b o (lkn hbd (i3 b o e))
  exact (lkn hbd (lkn (nnx hgr ⟨_, (lkn (nnx hy ⟨_, (lkn hbd (lkn (nnx hsm ⟨_, (lkn (nnx hx ⟨_, (lkn hbd (lkn (nnx hro ⟨_, (lkn hbd ‹_›)⟩) (lkn hbd ‹_›)))⟩) (lkn hbd (lkn (nnx hro ⟨_, (lkn hbd ‹_›)⟩) (lkn hbd ‹_›))))⟩) (lkn (nnx hx ⟨_, (lkn hbd (lkn (nnx hro ⟨_, (lkn hbd ‹_›)⟩) (lkn hbd ‹_›)))⟩) (lkn hbd (lkn (nnx hro ⟨_, (lkn hbd ‹_›)⟩) (lkn hbd ‹_›))))))⟩) (lkn hbd (lkn (nnx hsm ⟨_, (lkn (nnx hx ⟨_, (lkn hbd (lkn (nnx hro ⟨_, (lkn hbd ‹_›)⟩) (lkn hbd ‹_›)))⟩) (lkn hbd (lkn (nnx hro ⟨_, (lkn hbd ‹_›)⟩) (lkn hbd ‹_›))))⟩) (lkn (nnx hx ⟨_, (lkn hbd (lkn (nnx hro ⟨_, (lkn hbd ‹_›)⟩) (lkn hbd ‹_›)))⟩) (lkn hbd (lkn (nnx hro ⟨_, (lkn hbd ‹_›)⟩) (lkn hbd ‹_›)))))))⟩) (lkn (nnx hy ⟨_, (lkn hbd (lkn (nnx hsm ⟨_, (lkn (nnx hx ⟨_, (lkn hbd (lkn (nnx hro ⟨_, (lkn hbd ‹_›)⟩) (lkn hbd ‹_›)))⟩) (lkn hbd (lkn (nnx hro ⟨_, (lkn hbd ‹_›)⟩) (lkn hbd ‹_›))))⟩) (lkn (nnx hx ⟨_, (lkn hbd (lkn (nnx hro ⟨_, (lkn hbd ‹_›)⟩) (lkn hbd ‹_›)))⟩) (lkn hbd (lkn (nnx hro ⟨_, (lkn hbd ‹_›)⟩) (lkn hbd ‹_›))))))⟩) (lkn hbd (lkn (nnx hsm ⟨_, (lkn (nnx hx ⟨_, (lkn hbd (lkn (nnx hro ⟨_, (lkn hbd ‹_›)⟩) (lkn hbd ‹_›)))⟩) (lkn hbd (lkn (nnx hro ⟨_, (lkn hbd ‹_›)⟩) (lkn hbd ‹_›))))⟩) (lkn (nnx hx ⟨_, (lkn hbd (lkn (nnx hro ⟨_, (lkn hbd ‹_›)⟩) (lkn hbd ‹_›)))⟩) (lkn hbd (lkn (nnx hro ⟨_, (lkn hbd ‹_›)⟩) (lkn hbd hb)))))))))
set_option tactic.hygienic false
theorem layers_tup {P : Params} : ∃ t u n dd sl, (KK P).lookup 438 = some ⟨.type "tuple", dd, .seq [Value.int 2 t, Value.int 3 u].toArray n, sl⟩ := ⟨_, _, _, _, _, rfl⟩
theorem GI_layers0 {G : Gd} {H : AH} {Q : V → AH → Prop} (h : Q (.int 2) H) : GI G (.ref 438) (.int 0) H Q := fun A s v u _ I rv ru => by
 cases rv
 obtain ⟨t2, rfl⟩ := ru
 obtain ⟨t, u, n, dd, sl, hl⟩ := layers_tup (P := G.w.params)
 have ht : IsTup s.heap 438 [Value.int 2 t, Value.int 3 u].toArray := ⟨_, I.base _ _ (G.KI _ _ hl), rfl, _, rfl⟩
 exact ⟨"tuple", _, ht.typeIs, slot_tuple_getitem.lookup, getItem_tuple (j := 0) ht (by decide) (by decide) rfl rfl (TV.now I rInt FrM.refl h)⟩
theorem Iter_layers {G : Gd} {H : AH} : Iter G (.ref 438) H [.int 2, .int 3] (fun _ => True) := by
 obtain ⟨t, u, n, dd, sl, hl⟩ := layers_tup (P := G.w.params)
 exact Iter_tup hl fun h => ⟨rInt, rInt, trivial⟩
structure LayAt (H : AH) (f dx rs rw2 dx2 la2 be2 rw3 dx3 la3 be3 t tdx trw tdxr tla tbe tro tsm tgr : Addr) (T : List UInt8) (w ah k : Nat) : Prop where
 inst : H f = some (.inst 461 dx)
 fl : H dx = some (.fields zaX [.bytes T, .int 2, .int w, .int (T.length + 1), .int ah, .ref rs, .ref t])
 rows : H rs = some (.list [.ref rw2, .ref rw3])
 r2 : wbU H rw2 dx2 la2 be2 T 2 k
 r3 : wbU H rw3 dx3 la3 be3 T 3 k
 tr : wcV H t tdx trw tdxr tla tbe tro tsm tgr T 4 w k
 nd : [rs, be2, be3, tbe, tsm, tgr].Nodup
 nd2 : [la2, la3, tla, tro].Nodup
theorem LayAt.mat {P : Params} {H : AH} {f dx rs rw2 dx2 la2 be2 rw3 dx3 la3 be3 t tdx trw tdxr tla tbe tro tsm tgr : Addr} {T : List UInt8} {w ah k : Nat} (A : LayAt H f dx rs rw2 dx2 la2 be2 rw3 dx3 la3 be3 t tdx trw tdxr tla tbe tro tsm tgr T w ah k) : Mat P H f T 2 w (T.length + 1) ah :=
 ⟨461, dx, zaX, _, A.inst, A.fl, zbV, rfl, rfl, rfl, rfl, rfl, rfl, rfl, rfl, rfl, rfl⟩
set_option tactic.hygienic false
theorem NTP : zbU ≠ wbX := by decide +kernel
theorem NFP : wbZ ≠ wbX := by decide +kernel
theorem chainput_ok {G : Gd} {lv : Nat} {f dx rw dxr la be : Addr} {T : List UInt8} {w k : Nat} {H : AH} {Q : V → AH → Prop} (A : wdQ H f dx rw dxr la be T w k) (hz : T.length ≤ 100000) (hk : k < T.length)
 (h : ∀ H', wdQ H' f dx rw dxr la be T w (k + 1) → (∀ a, a ≠ dx → a ≠ la → a ≠ be → H' a = H a) → Q .none H') : waX G (lv + 4) (.ref 271) [.ref f, .int k] H Q := by
 have i1 := A.inst
 have i2 := A.fl
 have ne : f ≠ dx := zbW i1 i2 (fun e => by cases e)
 obtain ⟨n, d, hn, r3, r4⟩ := A.row.last
 obtain ⟨bs, r5, r6, r7⟩ := A.row.bef
 refine matput_ok (lv := lv + 3) A.mat i1 i2 meth_Finder_enter rfl (by simp) (by simp) hz hk ?_
 refine chainenter_ok (lv := lv) (lkn ne i1) (uS _ _ _) (A.row.ext (zbX _ _ ?_) (zbX _ _ ?_) (zbX _ _ ?_) (zbX _ _ ?_)) hz hk fun H' A' g => ⟨rfl, h H' A' fun a a1 a2 a3 => (g a a2 a3).trans (zbX _ _ a1)⟩
 ·exact zbW A.row.inst i2 (fun e => by cases e)
 ·exact zbW A.row.fl i2 (fun e => by injection e with e1; exact NFP e1.symm)
 ·exact zbW r3 i2 (fun e => by cases e)
 ·exact zbW r5 i2 (fun e => by cases e)
theorem treeput_ok {G : Gd} {lv : Nat} {f dx rw dxr la be ro sm gr : Addr} {T : List UInt8} {L w k : Nat} {H : AH} {Q : V → AH → Prop} (A : wcV H f dx rw dxr la be ro sm gr T L w k) (hz : T.length ≤ 100000) (hk : k < T.length)
 (h : ∀ H', wcV H' f dx rw dxr la be ro sm gr T L w (k + 1) → (∀ a, a ≠ dx → a ≠ ro → a ≠ sm → a ≠ gr → H' a = H a) → Q .none H') : waX G (lv + 4) (.ref 271) [.ref f, .int k] H Q := by
 have i1 := A.base.inst
 have i2 := A.base.fl
 have ne : f ≠ dx := zbW i1 i2 (fun e => by cases e)
 obtain ⟨n, d, hn, r3, r4⟩ := A.base.row.last
 obtain ⟨bs, r5, r6, r7⟩ := A.base.row.bef
 obtain ⟨m, dd, a, tf, hm, hd, Ar, TT⟩ := A.tr
 obtain ⟨S, R, s1, s2, l1, l2, ea⟩ := id Ar
 refine matput_ok (lv := lv + 3) A.base.mat i1 i2 wgY rfl (by simp) (by simp) hz hk ?_
 refine treeenter_ok (lv := lv) (m := m) (d := dd) (a := a) (tf := tf) ⟨lkn ne i1, uS _ _ _, A.base.row.ext (zbX _ _ ?_) (zbX _ _ ?_) (zbX _ _ ?_) (zbX _ _ ?_), A.base.ne⟩ A.nb A.nl hm (lkn ?_ hd) ⟨S, R, lkn ?_ s1, lkn ?_ s2, l1, l2, ea⟩ TT hz hk fun H' A' g => ⟨rfl, h H' A' fun a a1 a2 a3 a4 => (g a a2 a3 a4).trans (zbX _ _ a1)⟩
 ·exact zbW A.base.row.inst i2 (fun e => by cases e)
 ·exact zbW A.base.row.fl i2 (fun e => by injection e with e1; exact NTP e1.symm)
 ·exact zbW r3 i2 (fun e => by cases e)
 ·exact zbW r5 i2 (fun e => by cases e)
 ·exact zbW hd i2 (fun e => by cases e)
 ·exact zbW s1 i2 (fun e => by cases e)
 ·exact zbW s2 i2 (fun e => by cases e)
set_option tactic.hygienic false
section
variable {H H' : AH} {f dx rw dxr la be ro sm gr : Addr} {T : List UInt8} {L w k : Nat}
theorem wcV.kro (A : wcV H f dx rw dxr la be ro sm gr T L w k) : kdA H ro = some 2 := A.tr.elim fun _ ⟨_, _, _, _, h, _⟩ => wbY h
theorem wcV.ksm (A : wcV H f dx rw dxr la be ro sm gr T L w k) : kdA H sm = some 0 := A.tr.elim fun _ ⟨_, _, _, _, _, h, _⟩ => h.sm.elim fun _ h => wbY h
theorem wcV.kgr (A : wcV H f dx rw dxr la be ro sm gr T L w k) : kdA H gr = some 0 := A.tr.elim fun _ ⟨_, _, _, _, _, h, _⟩ => h.gr.elim fun _ h => wbY h
theorem wcV.ext9 (A : wcV H f dx rw dxr la be ro sm gr T L w k) (e1 : H' f = H f) (e2 : H' dx = H dx) (e3 : H' rw = H rw) (e4 : H' dxr = H dxr) (e5 : H' la = H la) (e6 : H' be = H be) (e7 : H' ro = H ro) (e8 : H' sm = H sm) (e9 : H' gr = H gr) : wcV H' f dx rw dxr la be ro sm gr T L w k := by
 obtain ⟨m, d, a, tf, hm, hd, ⟨S, R, s1, s2, q⟩, TT⟩ := A.tr
 exact ⟨⟨e1.trans A.base.inst, e2.trans A.base.fl, A.base.row.ext e3 e4 e5 e6, A.base.ne⟩, A.nb, A.nl, m, d, a, tf, hm, e7.trans hd, ⟨S, R, e8.trans s1, e9.trans s2, q⟩, TT⟩
theorem wcV.ext (A : wcV H f dx rw dxr la be ro sm gr T L w k) (g : ∀ a ∈ [f, dx, rw, dxr, la, be, ro, sm, gr], H' a = H a) : wcV H' f dx rw dxr la be ro sm gr T L w k :=
 A.ext9 (g _ (wcZ 0 rfl)) (g _ (wcZ 1 rfl)) (g _ (wcZ 2 rfl)) (g _ (wcZ 3 rfl)) (g _ (wcZ 4 rfl)) (g _ (wcZ 5 rfl)) (g _ (wcZ 6 rfl)) (g _ (wcZ 7 rfl)) (g _ (wcZ 8 rfl))
end
theorem wcV.frame {H H' : AH} {f dx rw dxr la be ro sm gr : Addr} {T : List UInt8} {L w k : Nat} (A : wcV H f dx rw dxr la be ro sm gr T L w k) (g : ∀ a o, H a = some o → H' a = some o) : wcV H' f dx rw dxr la be ro sm gr T L w k := by
 obtain ⟨m, d, a, tf, hm, hd, ⟨S, R, s1, s2, l1, l2, ea⟩, TT⟩ := A.tr
 exact ⟨⟨g _ _ A.base.inst, g _ _ A.base.fl, A.base.row.frame g, A.base.ne⟩, A.nb, A.nl, m, d, a, tf, hm, g _ _ hd, ⟨S, R, g _ _ s1, g _ _ s2, l1, l2, ea⟩, TT⟩
set_option maxHeartbeats 1000000 in
theorem layenter_ok {G : Gd} {lv : Nat} {f dx rs rw2 dx2 la2 be2 rw3 dx3 la3 be3 t tdx trw tdxr tla tbe tro tsm tgr : Addr} {T : List UInt8} {w k : Nat} {H : AH} {Q : V → AH → Prop} (A : LayAt H f dx rs rw2 dx2 la2 be2 rw3 dx3 la3 be3 t tdx trw tdxr tla tbe tro tsm tgr T w (k + 1) k) (hz : T.length ≤ 100000) (hk : k < T.length)
 (h : ∀ H', LayAt H' f dx rs rw2 dx2 la2 be2 rw3 dx3 la3 be3 t tdx trw tdxr tla tbe tro tsm tgr T w (k + 1) (k + 1) → (∀ a, a ∉ [la2, be2, la3, be3, tdx, tro, tsm, tgr] → H' a = H a) → Q .none H') : waX G (lv + 5) (.ref 451) [.ref f, .int k] H Q := by
 have i1 := A.inst
 have i2 := A.fl
 have i3 := A.rows
 have B := A.tr.base
 refine' waY (ps := ["self", "place"]) (extra := []) ?ho (ok_LayeredFinder_enter _) rfl rfl ?hb ?_
 case ho => k_is
 case hb => exact fun s vs _ r => bnd2 (fun _ _  => BindsTo.of_eq rfl) r
 intro c hN hG hK hc
 subst hc
 refine (let r0 : Loc := [some (.ref f), some (.int k), none]; (?_ : WSs c r0 _ _ _))
 refine goS hN hG ?_
 refine St.of ?_
 refine WS_forC ?_
 refine goE hN hG ?_
 refine St.of ?_
 refine AC i1 i2 (zaZ rfl) rfl ?_
 refine ForC (zcV i3) (fun _ _ _ => .ex fun (i : Nat) => .ex fun (x : Option V) => .ex fun (H' : AH) => .hy (wbU H' rw2 dx2 la2 be2 T 2 (if 1 ≤ i then k + 1 else k)) fun _ => .hy (wbU H' rw3 dx3 la3 be3 T 3 (if 2 ≤ i then k + 1 else k)) fun _ => .hy (∀ a, a ≠ la2 → a ≠ be2 → a ≠ la3 → a ≠ be3 → H' a = H a) fun _ =>
  .at i [some (.ref f), some (.int k), x] H') (fun P _ _ kk => kk 0 _ _ A.r2 A.r3 fun _ _ _ _ _ => rfl) ?_
 intro JJ jj _ i x H' R2 R3 g
 refine tel_at ⟨fun _ => (g rs (waQ (wbY i3) A.r2.kla rfl) (wfQ A.nd 0 1 rfl rfl rfl) (waQ (wbY i3) A.r3.kla rfl) (wfQ A.nd 0 2 rfl rfl rfl)).trans i3, fun X hX => ?_, fun ei => ?_⟩
 ·intro r1
  match i, hX with
  | 0, hX =>
   cases hX
   have w1 := R2.inst
   have w2 := R2.fl
   refine goA hN rfl ?_
   refine goS hN hG ?_
   refine St.of ?_
   refine MC w1 w2 (zbZ rfl rfl) ?_
   refine St.of ?_
   refine waZ hK (by exact J10 (nat_lit 0x1a4420142201) rfl) (rowput_ok (lv := lv) R2 hz hk fun H1 R2' g1 => ?_)
   refine zaV ?_
   exact fun P kk => jj _ kk 1 _ _ R2' (R3.ext (g1 _ (waQ (wbY R3.inst) R2.kla rfl) (waQ (wbY R3.inst) R2.kbe rfl)) (g1 _ (waQ (wbY R3.fl) R2.kla rfl) (waQ (wbY R3.fl) R2.kbe rfl)) (g1 _ (wfQ A.nd2 1 0 rfl rfl rfl) (waQ R3.kla R2.kbe rfl)) (g1 _ (waQ R3.kbe R2.kla rfl) (wfQ A.nd 2 1 rfl rfl rfl))) (fun a a1 a2 a3 a4 => (g1 a a1 a2).trans (g a a1 a2 a3 a4)) rfl
  | 1, hX =>
   cases hX
   have w1 := R3.inst
   have w2 := R3.fl
   refine goA hN rfl ?_
   refine goS hN hG ?_
   refine St.of ?_
   refine MC w1 w2 (zbZ rfl rfl) ?_
   refine St.of ?_
   refine waZ hK (by exact J10 (nat_lit 0x1a4420142201) rfl) (rowput_ok (lv := lv) R3 hz hk fun H1 R3' g1 => ?_)
   refine zaV ?_
   exact fun P kk => jj _ kk 2 _ _ (R2.ext (g1 _ (waQ (wbY R2.inst) R3.kla rfl) (waQ (wbY R2.inst) R3.kbe rfl)) (g1 _ (waQ (wbY R2.fl) R3.kla rfl) (waQ (wbY R2.fl) R3.kbe rfl)) (g1 _ (wfQ A.nd2 0 1 rfl rfl rfl) (waQ R2.kla R3.kbe rfl)) (g1 _ (waQ R2.kbe R3.kla rfl) (wfQ A.nd 1 2 rfl rfl rfl))) R3' (fun a a1 a2 a3 a4 => (g1 a a3 a4).trans (g a a1 a2 a3 a4)) rfl
  | i + 2, hX => cases hX
 ·subst ei
  have R2 : wbU H' rw2 dx2 la2 be2 T 2 (k + 1) := R2
  have R3 : wbU H' rw3 dx3 la3 be3 T 3 (k + 1) := R3
  have ga : ∀ a n, kdA H a = some n → Nat.beq n 0 = false → Nat.beq n 2 = false → H' a = H a := fun a n e e1 e2 => g a (waQ e A.r2.kla e2) (waQ e A.r2.kbe e1) (waQ e A.r3.kla e2) (waQ e A.r3.kbe e1)
  have gl : ∀ a, kdA H a = some 0 → a ≠ be2 → a ≠ be3 → H' a = H a := fun a e n1 n2 => g a (waQ e A.r2.kla rfl) n1 (waQ e A.r3.kla rfl) n2
  have gd : ∀ a, kdA H a = some 2 → a ≠ la2 → a ≠ la3 → H' a = H a := fun a e n1 n2 => g a n1 (waQ e A.r2.kbe rfl) n2 (waQ e A.r3.kbe rfl)
  have TR : wcV H' t tdx trw tdxr tla tbe tro tsm tgr T 4 w k := A.tr.ext9 (ga _ _ (wbY B.inst) rfl rfl) (ga _ _ (wbY B.fl) rfl rfl) (ga _ _ (wbY B.row.inst) rfl rfl) (ga _ _ (wbY B.row.fl) rfl rfl) (gd _ B.row.kla (wfQ A.nd2 2 0 rfl rfl rfl) (wfQ A.nd2 2 1 rfl rfl rfl)) (gl _ B.row.kbe (wfQ A.nd 3 1 rfl rfl rfl) (wfQ A.nd 3 2 rfl rfl rfl)) (gd _ A.tr.kro (wfQ A.nd2 3 0 rfl rfl rfl) (wfQ A.nd2 3 1 rfl rfl rfl)) (gl _ A.tr.ksm (wfQ A.nd 4 1 rfl rfl rfl) (wfQ A.nd 4 2 rfl rfl rfl)) (gl _ A.tr.kgr (wfQ A.nd 5 1 rfl rfl rfl) (wfQ A.nd 5 2 rfl rfl rfl))
  have w1 := TR.base.inst
  have w2 := TR.base.fl
  have w3 : H' f = some _ := (ga _ _ (wbY i1) rfl rfl).trans i1
  have w4 : H' dx = some _ := (ga _ _ (wbY i2) rfl rfl).trans i2
  have w5 : H' rs = some _ := (gl _ (wbY i3) (wfQ A.nd 0 1 rfl rfl rfl) (wfQ A.nd 0 2 rfl rfl rfl)).trans i3
  refine zaY ?_
  refine St.of ?_
  refine AC w3 w4 (zaZ rfl) rfl ?_
  refine St.of ?_
  refine MC w1 w2 (zbZ rfl rfl) ?_
  refine St.of ?_
  refine waZ hK (by exact J10 (nat_lit 0x1a4420144201) rfl) (treeput_ok (lv := lv) TR hz hk fun H2 TR' g2 => ?_)
  refine zaV ?_
  refine zcY ?_
  have ha : ∀ a n, kdA H' a = some n → Nat.beq n 0 = false → Nat.beq n 2 = false → Nat.beq n 12 = false → H2 a = H' a := fun a n e e1 e2 e3 => g2 a (waQ e (wbY w2) e3) (waQ e TR.kro e2) (waQ e TR.ksm e1) (waQ e TR.kgr e1)
  have hl : ∀ a, kdA H' a = some 0 → a ≠ tsm → a ≠ tgr → H2 a = H' a := fun a e n1 n2 => g2 a (waQ e (wbY w2) rfl) (waQ e TR.kro rfl) n1 n2
  have hd : ∀ a, kdA H' a = some 2 → a ≠ tro → H2 a = H' a := fun a e n1 => g2 a (waQ e (wbY w2) rfl) n1 (waQ e TR.ksm rfl) (waQ e TR.kgr rfl)
  exact h H2 ⟨(ha _ _ (wbY w3) rfl rfl rfl).trans w3, (ha _ _ (wbY w4) rfl rfl rfl).trans w4, (hl _ (wbY w5) (wfQ A.nd 0 4 rfl rfl rfl) (wfQ A.nd 0 5 rfl rfl rfl)).trans w5,
   R2.ext (ha _ _ (wbY R2.inst) rfl rfl rfl) (ha _ _ (wbY R2.fl) rfl rfl rfl) (hd _ R2.kla (wfQ A.nd2 0 3 rfl rfl rfl)) (hl _ R2.kbe (wfQ A.nd 1 4 rfl rfl rfl) (wfQ A.nd 1 5 rfl rfl rfl)),
   R3.ext (ha _ _ (wbY R3.inst) rfl rfl rfl) (ha _ _ (wbY R3.fl) rfl rfl rfl) (hd _ R3.kla (wfQ A.nd2 1 3 rfl rfl rfl)) (hl _ R3.kbe (wfQ A.nd 2 4 rfl rfl rfl) (wfQ A.nd 2 5 rfl rfl rfl)), TR', A.nd, A.nd2⟩
   fun a h0 => (g2 a (nm_at h0 4 rfl) (nm_at h0 5 rfl) (nm_at h0 6 rfl) (nm_at h0 7 rfl)).trans (g a (nm_at h0 0 rfl) (nm_at h0 1 rfl) (nm_at h0 2 rfl) (nm_at h0 3 rfl))
theorem layput_ok {G : Gd} {lv : Nat} {f dx rs rw2 dx2 la2 be2 rw3 dx3 la3 be3 t tdx trw tdxr tla tbe tro tsm tgr : Addr} {T : List UInt8} {w k : Nat} {H : AH} {Q : V → AH → Prop} (A : LayAt H f dx rs rw2 dx2 la2 be2 rw3 dx3 la3 be3 t tdx trw tdxr tla tbe tro tsm tgr T w k k) (hz : T.length ≤ 100000) (hk : k < T.length)
 (h : ∀ H', LayAt H' f dx rs rw2 dx2 la2 be2 rw3 dx3 la3 be3 t tdx trw tdxr tla tbe tro tsm tgr T w (k + 1) (k + 1) → (∀ a, a ∉ [dx, la2, be2, la3, be3, tdx, tro, tsm, tgr] → H' a = H a) → Q .none H') : waX G (lv + 6) (.ref 271) [.ref f, .int k] H Q := by
 have i1 := A.inst
 have i2 := A.fl
 have ne : f ≠ dx := zbW i1 i2 (fun e => by cases e)
 have hi : ∀ {X : O} a n, kdA H a = some n → Nat.beq n 10 = false → upd H dx X a = H a := fun a n e e1 => zbX _ _ (waQ e (wbY i2) e1)
 have B := A.tr.base
 refine matput_ok (lv := lv + 5) A.mat i1 i2 weX rfl (Nat.le_of_ble_eq_true rfl) (Nat.le_of_ble_eq_true rfl) hz hk ?_
 exact layenter_ok (lv := lv) (w := w) ⟨lkn ne i1, uS _ _ _, (hi _ _ (wbY A.rows) rfl).trans A.rows, A.r2.ext (hi _ _ (wbY A.r2.inst) rfl) (hi _ _ (wbY A.r2.fl) rfl) (hi _ _ A.r2.kla rfl) (hi _ _ A.r2.kbe rfl), A.r3.ext (hi _ _ (wbY A.r3.inst) rfl) (hi _ _ (wbY A.r3.fl) rfl) (hi _ _ A.r3.kla rfl) (hi _ _ A.r3.kbe rfl),
  A.tr.ext9 (hi _ _ (wbY B.inst) rfl) (hi _ _ (wbY B.fl) rfl) (hi _ _ (wbY B.row.inst) rfl) (hi _ _ (wbY B.row.fl) rfl) (hi _ _ B.row.kla rfl) (hi _ _ B.row.kbe rfl) (hi _ _ A.tr.kro rfl) (hi _ _ A.tr.ksm rfl) (hi _ _ A.tr.kgr rfl), A.nd, A.nd2⟩ hz hk fun H' A' g => ⟨rfl, h H' A' fun a ha => (g a fun q => ha (.tail _ q)).trans (zbX _ _ (nm_at ha 0 rfl))⟩
set_option tactic.hygienic false
theorem recs_len {c : Nat → Nat} : ∀ {ds : List Nat} {L : Nat}, (recs c ds L).length ≤ ds.length
 | [], _ => Nat.le_refl _
 | d :: ds, L => by
  rw [wcW, List.length_append, List.length_cons]
  have := recs_len (c := c) (ds := ds) (L := max L (c d))
  split <;> simp only [List.length_cons, List.length_nil] <;> (first | exact J20 (nat_lit 0x1a412114014120201a1101) rfl this | exact J20 (nat_lit 0x1a412114010201a1101) rfl this)
theorem down_len : ∀ k, (down k).length = k
 | 0 => rfl
 | k + 1 => by show (k :: down k).length = _; rw [List.length_cons, down_len k]
theorem can_len {o : Nat → Nat} {n w most p L : Nat} : (can o n w most p L).length ≤ p := by
 unfold can
 rw [List.length_map]
 refine Nat.le_trans recs_len (Nat.le_trans (List.length_filter_le _ _) ?_)
 rw [down_len]; exact Nat.le_refl _
noncomputable def wdX (o : Nat → Nat) (n w most p : Nat) : Nat → List (Nat × Nat) × Nat
 | 0 => ([], 1)
 | i + 1 => ((wdX o n w most p i).1 ++ (layF o n w most p (i + 2) (wdX o n w most p i).2).map (toD p), layL o n w most p (i + 2) (wdX o n w most p i).2)
theorem layF_len {o : Nat → Nat} {n w most p s L : Nat} : (layF o n w most p s L).length ≤ 1 := by
 unfold layF
 split
 ·split <;> simp
 ·simp
theorem layAcc_len {o : Nat → Nat} {n w most p : Nat} : ∀ i, (wdX o n w most p i).1.length ≤ i
 | 0 => Nat.le_refl _
 | i + 1 => by
  show ((wdX o n w most p i).1 ++ (layF o n w most p (i + 2) (wdX o n w most p i).2).map (toD p)).length ≤ _
  rw [List.length_append, List.length_map]
  have := layAcc_len (o := o) (n := n) (w := w) (most := most) (p := p) i
  have := layF_len (o := o) (n := n) (w := w) (most := most) (p := p) (s := i + 2) (L := (wdX o n w most p i).2)
  exact J30 (nat_lit 0x1a412214110101a210101a1211) rfl ‹_› this
theorem above_drop {l : List (Nat × Nat)} {i : Nat} {x : Nat × Nat} {L : Nat} (h : l[i]? = some x) : above (l.drop i) L = if L < x.1 then x :: above (l.drop (i + 1)) x.1 else above (l.drop (i + 1)) L := by
 obtain ⟨h1, h2⟩ := List.getElem?_eq_some_iff.mp h
 rw [List.drop_eq_getElem_cons h1, h2]
 obtain ⟨a, b⟩ := x
 rfl
theorem LayAt.frame {H H' : AH} {f dx rs rw2 dx2 la2 be2 rw3 dx3 la3 be3 t tdx trw tdxr tla tbe tro tsm tgr : Addr} {T : List UInt8} {w ah k : Nat} (A : LayAt H f dx rs rw2 dx2 la2 be2 rw3 dx3 la3 be3 t tdx trw tdxr tla tbe tro tsm tgr T w ah k) (g : ∀ a o, H a = some o → H' a = some o) : LayAt H' f dx rs rw2 dx2 la2 be2 rw3 dx3 la3 be3 t tdx trw tdxr tla tbe tro tsm tgr T w ah k :=
 ⟨g _ _ A.inst, g _ _ A.fl, g _ _ A.rows, A.r2.frame g, A.r3.frame g, A.tr.frame g, A.nd, A.nd2⟩
theorem layAcc_keep {o : Nat → Nat} {n w most p i : Nat} {fs : List (Nat × Nat)} {L : Nat} (h : wdX o n w most p i = (fs, L)) (e1 : layF o n w most p (i + 2) L = []) (e2 : layL o n w most p (i + 2) L = L) : wdX o n w most p (i + 1) = (fs, L) := by
 show ((wdX o n w most p i).1 ++ (layF o n w most p (i + 2) (wdX o n w most p i).2).map (toD p), layL o n w most p (i + 2) (wdX o n w most p i).2) = _
 rw [h, e1, e2, List.map_nil, List.append_nil]
theorem layAcc_more {o : Nat → Nat} {n w most p i : Nat} {fs : List (Nat × Nat)} {L L' k q : Nat} (h : wdX o n w most p i = (fs, L)) (e1 : layF o n w most p (i + 2) L = [(k, q)]) (e2 : layL o n w most p (i + 2) L = L') : wdX o n w most p (i + 1) = (fs ++ [(k, p - q)], L') := by
 show ((wdX o n w most p i).1 ++ (layF o n w most p (i + 2) (wdX o n w most p i).2).map (toD p), layL o n w most p (i + 2) (wdX o n w most p i).2) = _
 rw [h, e1, e2]; rfl
theorem newestV_el (o : Nat → Nat) (n s p : Nat) {P : Prop} (h1 : waW o n s p = -1 → P) (h2 : ∀ q : Nat, q < p → waW o n s p = q → P) : P := by
 have hv : waW o n s p = -1 ∨ ∃ q : Nat, waW o n s p = q ∧ q < p := by
  unfold waW
  split
  ·rcases whW (same o n s (key o p s)) p with ⟨hq, _⟩ | ⟨q, hq, hqp, _⟩
   ·exact .inl hq
   ·exact .inr ⟨q, hq, hqp⟩
  ·exact .inl rfl
 exact hv.elim h1 fun ⟨q, e, l⟩ => h2 q l e
@[elab_as_elim] theorem lay_row {H : AH} {rw2 dx2 la2 be2 rw3 dx3 la3 be3 : Addr} {T : List UInt8} {p i : Nat} {X : V} {P : V → Prop} (A2 : wbU H rw2 dx2 la2 be2 T 2 p) (A3 : wbU H rw3 dx3 la3 be3 T 3 p) (h : [V.ref rw2, V.ref rw3][i]? = some X) (k : ∀ rw dx la be, wbU H rw dx la be T (i + 2) p → P (.ref rw)) : P X := by
 rcases i with _ | _ | i
 ·cases h; exact k _ _ _ _ A2
 ·cases h; exact k _ _ _ _ A3
 ·cases h
theorem upd_same {H : AH} {l : Addr} {o : O} (h : H l = some o) : upd H l o = H := funext fun a => by
 by_cases e : a = l
 ·subst e; rw [uS, h]
 ·exact zbX _ _ e
set_option maxHeartbeats 1000000 in
theorem layevery_ok {G : Gd} {lv : Nat} {f dx rs rw2 dx2 la2 be2 rw3 dx3 la3 be3 t tdx trw tdxr tla tbe tro tsm tgr : Addr} {T : List UInt8} {w p most : Nat} {H : AH} {Q : V → AH → Prop} (A : LayAt H f dx rs rw2 dx2 la2 be2 rw3 dx3 la3 be3 t tdx trw tdxr tla tbe tro tsm tgr T w p p) (hz : T.length ≤ 100000) (hp : p < T.length) (hm : 2 ≤ most)
 (h : ∀ l H', H l = none → H' l = some (.list ((can (oc T) T.length w most p 1).map nV)) → (∀ a o, H a = some o → H' a = some o) → Q (.ref l) H') : waX G (lv + 4) (.ref 458) [.ref f, .int p, .int most] H Q := by
 have i1 := A.inst
 have i2 := A.fl
 have M := A.mat (P := G.w.params)
 refine' waY (ps := ["self", "place", "most"]) (extra := []) ?ho (ok_LayeredFinder_every _) rfl rfl ?hb ?_
 case ho => k_is
 case hb => exact fun s vs _ r => bnd3 (fun _ _ _  => BindsTo.of_eq rfl) r
 intro c hN hG hK hc
 subst hc
 refine (let r0 : Loc := [some (.ref f), some (.int p), some (.int most), none, none, none, none, none, none, none]; (?_ : WSs c r0 _ _ _))
 refine goS hN hG ?_
 refine St.of ?_
 refine MC i1 i2 (zbZ rfl rfl) ?_
 refine St.of ?_
 refine waZ hK (by exact J10 (nat_lit 0x1a4320141201) rfl) (limit_ok (lv := lv) M hz ?_)
 refine wbW ?_
 rw [min_cast (Nat.le_of_lt hp)]
 refine ⟨by decide, fun l hl => ?_⟩
 have g1 : ∀ (X : O) a o, H a = some o → upd H l X a = some o := fun X a o e => lkn (nW e hl) e
 have A1 := A.frame (g1 (.list []))
 have M1 := A1.mat (P := c.G.w.params)
 have q1 := A1.inst
 have q2 := A1.fl
 refine St.of ?_
 refine Mat.least M1 ?_
 refine St.of ?_
 refine WS_forC ?_
 refine goE hN hG ?_
 refine St.of ?_
 refine AC q1 q2 (zaZ rfl) rfl ?_
 have nrl : rs ≠ l := nW A.rows hl
 refine ForC (zcV A1.rows) (fun _ _ _ => .ex fun (i : Nat) => .ex fun (fs : List (Nat × Nat)) => .ex fun (Lg : Nat) => .ex fun (x : Option V) => .ex fun (y : Option V) => .ex fun (z : Option V) =>
  .hy (i ≤ 2) fun _ => .hy (wdX (oc T) T.length w most p i = (fs, Lg)) fun _ =>
  .at i [some (.ref f), some (.int p), some (.int most), some (.int ((min most (T.length - p) : Nat) : Int)), some (.ref l), some (.int Lg), x, y, z, none] (upd H l (.list (fs.map nV)))) (fun P _ _ kk => kk 0 [] 1 _ _ _ (Nat.zero_le _) rfl) ?_
 intro JJ jj _ i fs Lg x y z hi2 hac
 refine tel_at ⟨fun _ => lkn nrl A.rows, fun X hX => ?_, fun ei => ?_⟩
 ·intro r1
  have hi : i < 2 := (List.getElem?_eq_some_iff.mp hX).1
  refine lay_row A.r2 A.r3 hX fun rwX dxX laX beX R => ?_
  have hfl : fs.length ≤ i := by have := layAcc_len (o := oc T) (n := T.length) (w := w) (most := most) (p := p) i; rw [hac] at this; exact this
  have wl : (fs.map nV).length = fs.length := List.length_map _
  have A2 := A.frame (g1 (.list (fs.map nV)))
  have M2 := A2.mat (P := c.G.w.params)
  have w1 := A2.inst
  have w2 := A2.fl
  have R2 := R.frame (g1 (.list (fs.map nV)))
  have w3 := R2.inst
  have w4 := R2.fl
  refine goA hN rfl ?_
  refine goS hN hG ?_
  refine St.of ?_
  refine MC w3 w4 (zbZ rfl rfl) ?_
  refine St.of ?_
  refine waZ hK (by exact J10 (nat_lit 0x1a4320142201) rfl) (newest_ok (lv := lv) R2 hz (by exact J20 (nat_lit 0x1a110111a1101) rfl hp) ?_)
  refine St.of ?_
  refine MC w1 w2 (zbZ rfl rfl) ?_
  refine St.of ?_
  refine waZ hK (by exact J10 (nat_lit 0x1a4320141201) rfl) (isnear_ok (lv := lv) M2 ?_)
  have hk : ¬ (0 ≤ waW (oc T) T.length (i + 2) p ∧ p - (waW (oc T) T.length (i + 2) p).toNat ≤ w) → wdX (oc T) T.length w most p (i + 1) = (fs, Lg) := fun hv => layAcc_keep hac (by unfold layF; exact if_neg hv) (by unfold layL; exact if_neg hv)
  refine newestV_el (oc T) T.length (i + 2) p (fun hv => ?_) fun q hqp hv => ?_
  ·show if decide _ = true then _ else _
   rw [hv]
   refine whZ (by omega) ?_
   refine zaV ?_
   refine zaY ?_
   refine zaV ?_
   exact fun P kk => jj _ kk (i + 1) fs Lg _ _ _ hi (hk (by exact fun hq => Nat.lt_irrefl 0 (J01 (nat_lit 0x10a020281a9120161a0102) rfl hv hq.1))) rfl
  ·by_cases hn : p - q ≤ w
   ·have e1 : layF (oc T) T.length w most p (i + 2) Lg = if Lg < cnt (oc T) T.length most p q then [(cnt (oc T) T.length most p q, q)] else [] := by
     unfold layF; rw [hv, if_pos (by exact ⟨J10 (nat_lit 0x61a80102) rfl, J60 (nat_lit 0x1a110101a112131a414312121a414510191a831851) rfl hn (Nat.sub_add_cancel (J20 (nat_lit 0x1a110111a1101) rfl hqp)) (Nat.sub_add_cancel (J30 (nat_lit 0x1a110111a112181a821801) rfl hqp (Int.toNat_of_nonneg (J10 (nat_lit 0x61a80102) rfl)))) (Int.toNat_of_nonneg (J30 (nat_lit 0x61a8010201a211131a2140111) rfl (Nat.sub_le _ _) (sbP (J30 (nat_lit 0x1a011211a211131a2141101) rfl hqp (Nat.sub_add_cancel (J20 (nat_lit 0x1a110111a1101) rfl hqp))))))⟩)]; rfl
    have e2 : layL (oc T) T.length w most p (i + 2) Lg = max Lg (cnt (oc T) T.length most p q) := by
     unfold layL; rw [hv, if_pos (by exact ⟨J10 (nat_lit 0x61a80102) rfl, J60 (nat_lit 0x1a110101a112131a414312121a414510191a831851) rfl hn (Nat.sub_add_cancel (J20 (nat_lit 0x1a110111a1101) rfl hqp)) (Nat.sub_add_cancel (J30 (nat_lit 0x1a110111a112181a821801) rfl hqp (Int.toNat_of_nonneg (J10 (nat_lit 0x61a80102) rfl)))) (Int.toNat_of_nonneg (J30 (nat_lit 0x61a8010201a211131a2140111) rfl (Nat.sub_le _ _) (sbP (J30 (nat_lit 0x1a011211a211131a2141101) rfl hqp (Nat.sub_add_cancel (J20 (nat_lit 0x1a110111a1101) rfl hqp))))))⟩)]; rfl
    show if decide _ = true then _ else _
    rw [hv]
    refine ite_t (by exact ⟨fun hq => Nat.lt_irrefl 0 (J10 (nat_lit 0x10a020281a912801) rfl hq), J40 (nat_lit 0x61a821581180101a213101a4113101) rfl hn (sbA _ _)⟩) ?_
    refine St.of ?_
    refine MC w1 w2 (zbZ rfl rfl) ?_
    refine St.of ?_
    refine waZ hK (by exact J10 (nat_lit 0x1a4320141201) rfl) (alike_ok (lv := lv) (kn := 0) M2 hz hqp (by exact J40 (nat_lit 0x1a214110101a311121a2140131) rfl (Nat.min_le_right _ _) (Nat.sub_add_cancel (J20 (nat_lit 0x1a110111a1101) rfl hp))) (Nat.zero_le _) ?_)
    have ec : cnt (oc T) T.length most p q = lcp (oc T) p q (min most (T.length - p)) := rfl
    rw [← ec]
    have e5 : (p : Int) - (q : Int) = ((p - q : Nat) : Int) := by exact Int.le_antisymm (J30 (nat_lit 0x61a821581180101a4112101) rfl (sbA _ _)) (J30 (nat_lit 0x61a582181180121a1142101) rfl (Nat.sub_add_cancel (J20 (nat_lit 0x1a110111a1101) rfl hqp)))
    refine waV ?_
    refine zbY (fun h3 => ?_) (fun h3 => ?_)
    ·have h3 : (Lg : Int) < (cnt (oc T) T.length most p q : Nat) := h3
     refine St.of ?_
     refine zcU (uS _ _ _) ?_
     refine St.of ?_
     refine wcX (uS _ _ _) (by exact J30 (nat_lit 0x1a000186a0b0101a221101a112121a2101) rfl hi2 hfl wl) ?_
     rw [e5, wcU, snocV]
     exact fun P kk => jj _ kk (i + 1) (fs ++ [(cnt (oc T) T.length most p q, p - q)]) _ _ _ _ hi (layAcc_more hac (e1.trans (if_pos (by exact J20 (nat_lit 0x11a110171a811801) rfl ‹_›))) (e2.trans (Nat.max_eq_right (by exact J20 (nat_lit 0x1a110171a811801) rfl ‹_›)))) rfl
    ·have h3 : ¬ (Lg : Int) < (cnt (oc T) T.length most p q : Nat) := h3
     refine zaV ?_
     refine zaY ?_
     refine zaV ?_
     refine zaY ?_
     refine zaV ?_
     exact fun P kk => jj _ kk (i + 1) fs Lg _ _ _ hi (layAcc_keep hac (e1.trans (if_neg (by exact fun hq => Nat.lt_irrefl 0 (J20 (nat_lit 0x10a0202b1a81180111a1101) rfl ‹_› hq)))) (e2.trans (Nat.max_eq_left (by exact J20 (nat_lit 0x1a1101b1a801811) rfl ‹_›)))) rfl
   ·show if decide _ = true then _ else _
    rw [hv]
    refine whZ (by exact fun hq => Nat.lt_irrefl 0 (J40 (nat_lit 0x10a020241a110161a811583182121a2143101) rfl hn hq.2 (Nat.sub_add_cancel (J20 (nat_lit 0x1a110111a1101) rfl hqp)))) ?_
    refine zaV ?_
    refine zaY ?_
    refine zaV ?_
    exact fun P kk => jj _ kk (i + 1) fs Lg _ _ _ hi (hk (by exact fun hq => Nat.lt_irrefl 0 (J61 (nat_lit 0x10a020281a8010141a211101a213101a451314121a414011181a01851) rfl hv hn hq.2 (sbA _ _) (Nat.sub_add_cancel (J20 (nat_lit 0x1a110111a1101) rfl hqp)) (Int.toNat_of_nonneg (J01 (nat_lit 0x61a010261a0102) rfl hq.1))))) rfl
 ·rw [show i = 2 from ei] at hac
  have ecan : can (oc T) T.length w most p 1 = fs ++ above (can (oc T) T.length w most p 3) Lg := by
   rw [can_layers (oc_lt T) hm, ← List.append_assoc]
   show (wdX (oc T) T.length w most p 2).1 ++ above _ (wdX (oc T) T.length w most p 2).2 = _
   rw [hac]
  rw [ecan] at h
  have hfl : fs.length ≤ 2 := by have := layAcc_len (o := oc T) (n := T.length) (w := w) (most := most) (p := p) 2; rw [hac] at this; exact this
  have A2 := A.frame (g1 (.list (fs.map nV)))
  have w1 := A2.inst
  have w2 := A2.fl
  have w3 := A2.tr.base.inst
  have w4 := A2.tr.base.fl
  refine zaY ?_
  refine St.of ?_
  refine WS_forC ?_
  refine goE hN hG ?_
  refine St.of ?_
  refine AC w1 w2 (zaZ rfl) rfl ?_
  refine St.of ?_
  refine MC w3 w4 (zbZ rfl rfl) ?_
  refine St.of ?_
  refine waZ hK (by exact J10 (nat_lit 0x1a4320142201) rfl) (treeevery_ok (lv := lv) A2.tr hz hp hm (by exact J00 (nat_lit 0x1a4212) rfl) fun lt H2 hlt e2 g2 => ?_)
  have g3 : ∀ (X : O) a o, H a = some o → upd H2 l X a = some o := fun X a o e => lkn (nW e hl) (g2 a o (g1 _ a o e))
  have hl2 : upd H2 l (.list (fs.map nV)) = H2 := upd_same (g2 l _ (uS _ _ _))
  have nlc : lt ≠ l := Ne.symm (nW (uS _ _ _) hlt)
  have hcl := can_len (o := oc T) (n := T.length) (w := w) (most := most) (p := p) (L := 3)
  generalize can (oc T) T.length w most p 3 = C at h e2 hcl
  refine ForC (zcV e2) (fun _ _ _ => .ex fun (i : Nat) => .ex fun (f1 : List (Nat × Nat)) => .ex fun (Lh : Nat) => .ex fun (a : Option V) => .ex fun (b : Option V) => .ex fun (d : Option V) => .ex fun (e : Option V) =>
   .hy (f1 ++ above (C.drop i) Lh = fs ++ above C Lg) fun _ => .hy (f1.length ≤ 2 + i) fun _ =>
   .at i [some (.ref f), some (.int p), some (.int most), some (.int ((min most (T.length - p) : Nat) : Int)), some (.ref l), some (.int Lh), a, b, d, e] (upd H2 l (.list (f1.map nV)))) (fun P _ _ kk => hl2 ▸ kk 0 fs Lg _ _ _ _ rfl hfl) ?_
  intro J2 j2 _ i f1 Lh a b d e hfs hlen
  refine tel_at ⟨fun _ => lkn nlc e2, fun X hX => ?_, fun ei => ?_⟩
  ·intro r2
   refine mapAt hX fun ⟨k0, d0⟩ hq => ?_
   have hiC := (List.getElem?_eq_some_iff.mp hq).1
   have wl : (f1.map nV).length = f1.length := List.length_map _
   rw [above_drop hq] at hfs
   refine WA_two 8 9 hN rfl rfl ?_
   refine goS hN hG ?_
   refine waV ?_
   refine zbY (fun h3 => ?_) (fun h3 => ?_)
   ·have h3 : Lh < k0 := by exact J20 (nat_lit 0x11a110171a811801) rfl h3
    rw [if_pos h3] at hfs
    refine St.of ?_
    refine zcU (uS _ _ _) ?_
    refine St.of ?_
    refine wcX (uS _ _ _) (by exact J60 (nat_lit 0x1a000186a0b0101a000186a0b1111a112101a213101a451224111a315121a4101) rfl hz hp hcl hlen hiC wl) ?_
    rw [wcU, snocV]
    exact fun P kk => j2 _ kk (i + 1) (f1 ++ [(k0, d0)]) k0 _ _ _ _ ((List.append_assoc _ _ _).trans hfs) (by rw [List.length_append]; exact Nat.succ_le_succ hlen) rfl
   ·have h3 : ¬ Lh < k0 := by exact fun hq => Nat.lt_irrefl 0 (J20 (nat_lit 0x10a0202b1a81180111a1101) rfl h3 hq)
    rw [if_neg h3] at hfs
    refine zaV ?_
    refine zaY ?_
    refine zaV ?_
    exact fun P kk => j2 _ kk (i + 1) f1 Lh _ _ _ _ hfs (Nat.le_succ_of_le hlen) rfl
  ·refine zaY ?_
   refine h l _ hl ?_ (g3 _)
   rw [ei, List.length_map, List.drop_length, above, List.append_nil] at hfs
   rw [uS, ← hfs]
set_option tactic.hygienic false
theorem wbU.upd_list {H : AH} {rw dx la be acc : Addr} {T : List UInt8} {s k : Nat} {vs us : List V} (R : wbU H rw dx la be T s k) (hl : H acc = some (.list us)) (n : be ≠ acc) : wbU (upd H acc (.list vs)) rw dx la be T s k :=
 R.ext (zbX _ _ (ne_kd R.inst hl rfl)) (zbX _ _ (ne_kd R.fl hl rfl)) (zbX _ _ (waQ R.kla (wbY hl) rfl)) (zbX _ _ n)
noncomputable def LRows (H2 H' : AH) (acc : Addr) (T : List UInt8) : Nat → Prop
 | 0 => H' acc = some (.list [])
 | 1 => ∃ rw2 dx2 la2 be2, wbU H' rw2 dx2 la2 be2 T 2 0 ∧ H' acc = some (.list [.ref rw2]) ∧ (∀ x ∈ [rw2, dx2, la2, be2], H2 x = none) ∧ acc ≠ be2
 | _ => ∃ rw2 dx2 la2 be2 rw3 dx3 la3 be3, wbU H' rw2 dx2 la2 be2 T 2 0 ∧ wbU H' rw3 dx3 la3 be3 T 3 0 ∧ H' acc = some (.list [.ref rw2, .ref rw3]) ∧ (∀ x ∈ [rw2, dx2, la2, be2, rw3, dx3, la3, be3], H2 x = none) ∧ acc ≠ be2 ∧ acc ≠ be3 ∧ be2 ≠ be3 ∧ la2 ≠ la3
section
variable {H2 H' : AH} {acc rw2 dx2 la2 be2 rw3 dx3 la3 be3 : Addr} {T : List UInt8}
theorem LRows.mk1 (h1 : wbU H' rw2 dx2 la2 be2 T 2 0) (h2 : H' acc = some (.list [.ref rw2])) (h3 : ∀ x ∈ [rw2, dx2, la2, be2], H2 x = none) (h4 : acc ≠ be2) : LRows H2 H' acc T 1 := ⟨rw2, dx2, la2, be2, h1, h2, h3, h4⟩
theorem LRows.mk2 (h1 : wbU H' rw2 dx2 la2 be2 T 2 0) (h2 : wbU H' rw3 dx3 la3 be3 T 3 0) (h3 : H' acc = some (.list [.ref rw2, .ref rw3])) (h4 : ∀ x ∈ [rw2, dx2, la2, be2, rw3, dx3, la3, be3], H2 x = none) (h5 : acc ≠ be2) (h6 : acc ≠ be3) (h7 : be2 ≠ be3) (h8 : la2 ≠ la3) : LRows H2 H' acc T 2 := ⟨rw2, dx2, la2, be2, rw3, dx3, la3, be3, h1, h2, h3, h4, h5, h6, h7, h8⟩
theorem LRows.el1 {P : Prop} (h : LRows H2 H' acc T 1) (k : ∀ rw2 dx2 la2 be2, wbU H' rw2 dx2 la2 be2 T 2 0 → H' acc = some (.list [.ref rw2]) → (∀ x ∈ [rw2, dx2, la2, be2], H2 x = none) → acc ≠ be2 → P) : P := by
 obtain ⟨_, _, _, _, h1, h2, h3, h4⟩ := h
 exact k _ _ _ _ h1 h2 h3 h4
theorem LRows.el2 {P : Prop} (h : LRows H2 H' acc T 2) (k : ∀ rw2 dx2 la2 be2 rw3 dx3 la3 be3, wbU H' rw2 dx2 la2 be2 T 2 0 → wbU H' rw3 dx3 la3 be3 T 3 0 → H' acc = some (.list [.ref rw2, .ref rw3]) → (∀ x ∈ [rw2, dx2, la2, be2, rw3, dx3, la3, be3], H2 x = none) → acc ≠ be2 → acc ≠ be3 → be2 ≠ be3 → la2 ≠ la3 → P) : P := by
 obtain ⟨_, _, _, _, _, _, _, _, h1, h2, h3, h4, h5, h6, h7, h8⟩ := h
 exact k _ _ _ _ _ _ _ _ h1 h2 h3 h4 h5 h6 h7 h8
end
set_option maxHeartbeats 1000000 in
theorem layinit_ok {G : Gd} {lv : Nat} {T : List UInt8} {w : Nat} {H : AH} {Q : V → AH → Prop} (hz : T.length ≤ 100000) (hw : 1 ≤ w)
 (h : ∀ H' f dx rs rw2 dx2 la2 be2 rw3 dx3 la3 be3 t tdx trw tdxr tla tbe tro tsm tgr, LayAt H' f dx rs rw2 dx2 la2 be2 rw3 dx3 la3 be3 t tdx trw tdxr tla tbe tro tsm tgr T w 0 0 →
  (∀ x ∈ [f, dx, rs, rw2, dx2, la2, be2, rw3, dx3, la3, be3, t, tdx, trw, tdxr, tla, tbe, tro, tsm, tgr], H x = none) → (∀ a o, H a = some o → H' a = some o) → Q (.ref f) H') : waX G (lv + 6) (.ref 461) [.bytes T, .int w, .int (T.length + 1)] H Q := by
 refine wiW zaX new_LayeredFinder fun a dx ha hdx hne => ?_
 have m : IsInit := .mk
 generalize hH1 : upd (upd H dx (.fields zaX [])) a (.inst 461 dx) = H1
 have i1 : H1 a = some (.inst 461 dx) := by rw [← hH1]; exact uS _ _ _
 have i2 : H1 dx = some (.fields zaX []) := by rw [← hH1]; exact (lkn (Ne.symm hne) (uS _ _ _))
 have i3 : ∀ b o, H b = some o → H1 b = some o := fun b o e => by rw [← hH1]; exact lkn (nW e ha) (lkn (nW e hdx) e)
 refine' wiV (ps := ["self", "octets", "window", "chain"]) (extra := []) ?ho (ok_LayeredFinder_init _) rfl rfl ?hb ?_
 case ho => k_is
 case hb => (intro s vs X r; obtain ⟨v0, v1, v2, v3, rfl⟩ := r.ex4; exact ⟨[], trivial, binds_K (show (hd.heap_1 _).In _ from X) rfl (by k_is) rfl rfl rfl⟩)
 intro c hN hG hCV hK hc
 subst hc
 refine (let r0 : Loc := [some (.ref a), some (.bytes T), some (.int w), some (.int (T.length + 1))]; (?_ : WSs c r0 _ _ _))
 refine goS hN hG ?_
 refine St.of ?_
 refine lyq i1 i2 ?_
 refine St.of ?_
 refine GI_layers0 ?_
 refine St.of ?_
 refine waZ hK (by exact J10 (nat_lit 0x1a4420141201) rfl) (matinit_ok (lv := lv) i1 i2 zbV rfl rfl rfl rfl rfl (by exact J00 (nat_lit 0x61a2212) rfl) (by exact J10 (nat_lit 0x61a8011201a0112) rfl hw) (by exact J10 (nat_lit 0x61a41280112) rfl) ?_)
 generalize hH2 : upd H1 dx _ = H2
 have j1 : H2 a = some (.inst 461 dx) := by rw [← hH2]; exact lkn hne i1
 have j2 : H2 dx = some (.fields zaX [.bytes T, .int 2, .int w, .int (T.length + 1), .int 0]) := by rw [← hH2]; exact uS _ _ _
 have j3 : ∀ b o, H b = some o → H2 b = some o := fun b o e => by rw [← hH2]; exact lkn (nW e hdx) (i3 b o e)
 have j4 : ∀ b, H2 b = none → H b = none := fun b e => wkX j3 e
 clear hH2 hH1 i1 i2 i3
 refine St.of ?_
 refine WE_comp ["size"] ["self"] ["PlaceRow"] _ [0] rfl hN (by rw [hCV]; simp) rfl rfl ?_
 refine goE hN hG ?_
 refine St.of ?_
 refine lyq j1 j2 ?_
 refine ⟨_, _, Iter_layers, fun c' hN' hG' hCV' hK' hGG hkl acc hacc => LpC (fun _ _ _ => .ex fun (i : Nat) => .ex fun (x : Option V) => .ex fun (H' : AH) => .hy (∀ b o, H2 b = some o → H' b = some o) fun _ => .hy (LRows H2 H' acc T i) fun _ => .at i [x, some (.ref a)] H')
  (fun P _ _ kk => kk 0 _ _ (fun b o e => lkn (nW e hacc) e) (uS _ _ _)) ?_⟩
 intro JJ jj _ i x H' g hR
 refine tel_at ⟨fun _ => trivial, fun X hX => ?_, fun ei => ?_⟩
 ·intro r1
  refine wdV 0 (nm hN' rfl) (hkl _ (.head _)) ?_
  have hK2 : c'.k = lv + 4 := hK'.trans hK
  have w1 := g _ _ j1
  have w2 := g _ _ j2
  match i, hX, hR with
  | 0, hX, hR =>
   cases hX
   refine (?_ : WE c' [some (.int 2), some (.ref a)] _ _ _)
   refine goE hN' hG' ?_
   refine St.of ?_
   refine AC w1 w2 (zaZ rfl) rfl ?_
   refine St.of ?_
   refine waZ hK2 (by exact J10 (nat_lit 0x1a4420142201) rfl) (rowinit_ok (lv := lv) (s := 2) hz (by exact J00 (nat_lit 0x1a2212) rfl) fun H3 rw dxr la be R n1 n2 n3 n4 g2 => ?_)
   have hR2 := g2 _ _ hR
   have na : acc ≠ be := nW hR n4
   exact ⟨[], hR2, Nat.zero_le _, fun P kk => jj _ kk 1 _ _ (fun b o e => lkn (nW e hacc) (g2 _ _ (g _ _ e))) (LRows.mk1 (R.upd_list hR2 (Ne.symm na)) (uS _ _ _) (zaW (wkX g n1) (zaW (wkX g n2) (zaW (wkX g n3) (zaW (wkX g n4) wgX)))) na) rfl⟩
  | 1, hX, hR =>
   cases hX
   refine hR.el1 fun rw2 dx2 la2 be2 R2 hR hnew na2 => ?_
   refine (?_ : WE c' [some (.int 3), some (.ref a)] _ _ _)
   refine goE hN' hG' ?_
   refine St.of ?_
   refine AC w1 w2 (zaZ rfl) rfl ?_
   refine St.of ?_
   refine waZ hK2 (by exact J10 (nat_lit 0x1a4420142201) rfl) (rowinit_ok (lv := lv) (s := 3) hz (by exact J00 (nat_lit 0x1a3212) rfl) fun H3 rw dxr la be R n1 n2 n3 n4 g2 => ?_)
   have hR2 := g2 _ _ hR
   have na : acc ≠ be := nW hR n4
   refine R2.last.elim fun _ ⟨_, _, r3, _⟩ => R2.bef.elim fun _ ⟨r4, _⟩ => ?_
   exact ⟨[.ref rw2], hR2, (by decide : 1 ≤ 100000), fun P kk => jj _ kk 2 _ _ (fun b o e => lkn (nW e hacc) (g2 _ _ (g _ _ e))) (LRows.mk2 ((R2.frame g2).upd_list hR2 (Ne.symm na2)) (R.upd_list hR2 (Ne.symm na)) (uS _ _ _)
    (zaW (hnew _ (wcZ 0 rfl)) (zaW (hnew _ (wcZ 1 rfl)) (zaW (hnew _ (wcZ 2 rfl)) (zaW (hnew _ (wcZ 3 rfl)) (zaW (wkX g n1) (zaW (wkX g n2) (zaW (wkX g n3) (zaW (wkX g n4) wgX)))))))) na2 na (nW r4 n4) (nW r3 n3)) rfl⟩
  | i + 2, hX, _ => cases hX
 ·subst ei
  refine LRows.el2 hR fun rw2 dx2 la2 be2 rw3 dx3 la3 be3 R2 R3 hR hnew na2 na3 nbe nla => ?_
  have w1 := g _ _ j1
  have w2 := g _ _ j2
  have ndx : ∀ z, H2 z = none → z ≠ dx := fun z e => Ne.symm (nW j2 e)
  refine St.of ?_
  refine NAc w1 w2 (zaZ rfl) rfl rfl ?_
  refine St.of ?_
  refine AC (lkn hne w1) (uS _ _ _) (zaZ rfl) rfl ?_
  refine St.of ?_
  refine lyq (lkn hne w1) (uS _ _ _) ?_
  refine St.of ?_
  generalize hH4 : upd H' dx _ = H4
  have g4 : ∀ b o, H' b = some o → b ≠ dx → H4 b = some o := fun b o e n => by rw [← hH4]; exact lkn n e
  have k1 : H4 a = some (.inst 461 dx) := g4 _ _ w1 hne
  have k2 : H4 dx = some (.fields zaX [.bytes T, .int 2, .int w, .int (T.length + 1), .int 0, .ref acc]) := by rw [← hH4]; exact uS _ _ _
  have e4 : ∀ z, H2 z = none → H4 z = H' z := fun z e => by rw [← hH4]; exact zbX _ _ (ndx z e)
  have R2' : wbU H4 rw2 dx2 la2 be2 T 2 0 := R2.ext (e4 _ (hnew _ (wcZ 0 rfl))) (e4 _ (hnew _ (wcZ 1 rfl))) (e4 _ (hnew _ (wcZ 2 rfl))) (e4 _ (hnew _ (wcZ 3 rfl)))
  have R3' : wbU H4 rw3 dx3 la3 be3 T 3 0 := R3.ext (e4 _ (hnew _ (wcZ 4 rfl))) (e4 _ (hnew _ (wcZ 5 rfl))) (e4 _ (hnew _ (wcZ 6 rfl))) (e4 _ (hnew _ (wcZ 7 rfl)))
  have k3 : H4 acc = some (.list [.ref rw2, .ref rw3]) := g4 _ _ hR (ndx _ hacc)
  have up4 : ∀ z, H4 z = none → H z = none := fun z e => wkX (fun b o q => g4 b o (g _ _ (j3 b o q)) (nW q hdx)) e
  clear hH4 e4
  refine waZ hK (by exact J10 (nat_lit 0x1a4420144201) rfl) (treeinit_ok (lv := lv) (L := 4) hz hw (by exact J00 (nat_lit 0x1a4212) rfl) fun H5 t tdx trw tdxr tla tbe tro tsm tgr TA hnw g5 => ?_)
  have k4 := g5 _ _ k1
  have k5 := g5 _ _ k2
  refine St.of ?_
  refine NAc k4 k5 (zaZ rfl) rfl rfl ?_
  refine zaV ?_
  refine zcY ?_
  refine nonq ?_
  have ndx5 : ∀ z, H4 z = none → z ≠ dx := fun z e => Ne.symm (nW k2 e)
  have hw0 : ∀ {X : O} z, H2 z = none → upd H5 dx X z = H5 z := fun z e => zbX _ _ (ndx z e)
  have hw1 := hnw tla (wcZ 4 rfl)
  have hw2 := hnw tbe (wcZ 5 rfl)
  have hw3 := hnw tro (wcZ 6 rfl)
  have hw4 := hnw tsm (wcZ 7 rfl)
  have hw5 := hnw tgr (wcZ 8 rfl)
  have nk : ∀ {z n b}, kdA H4 z = some n → H4 b = none → z ≠ b := fun e1 e2 q => by subst q; unfold kdA at e1; rw [e2] at e1; cases e1
  exact h _ a dx acc rw2 dx2 la2 be2 rw3 dx3 la3 be3 t tdx trw tdxr tla tbe tro tsm tgr ⟨lkn hne k4, uS _ _ _, lkn (ndx _ hacc) (g5 _ _ k3), (R2'.frame g5).ext (hw0 _ (hnew _ (wcZ 0 rfl))) (hw0 _ (hnew _ (wcZ 1 rfl))) (hw0 _ (hnew _ (wcZ 2 rfl))) (hw0 _ (hnew _ (wcZ 3 rfl))),
   (R3'.frame g5).ext (hw0 _ (hnew _ (wcZ 4 rfl))) (hw0 _ (hnew _ (wcZ 5 rfl))) (hw0 _ (hnew _ (wcZ 6 rfl))) (hw0 _ (hnew _ (wcZ 7 rfl))), TA.ext fun b hb => zbX _ _ (ndx5 b (hnw b hb)),
   nd_cons (zaW na2 (zaW na3 (zaW (nW k3 hw2) (zaW (nW k3 hw4) (zaW (nW k3 hw5) wgX))))) (nd_cons (zaW nbe (zaW (nk R2'.kbe hw2) (zaW (nk R2'.kbe hw4) (zaW (nk R2'.kbe hw5) wgX)))) (nd_cons (zaW (nk R3'.kbe hw2) (zaW (nk R3'.kbe hw4) (zaW (nk R3'.kbe hw5) wgX))) (nd_cons (zaW TA.nb.1 (zaW TA.nb.2 wgX)) (nd_cons (zaW TA.base.ne wgX) (nd_cons wgX List.nodup_nil))))),
   nd_cons (zaW nla (zaW (nk R2'.kla hw1) (zaW (nk R2'.kla hw3) wgX))) (nd_cons (zaW (nk R3'.kla hw1) (zaW (nk R3'.kla hw3) wgX)) (nd_cons (zaW TA.nl wgX) (nd_cons wgX List.nodup_nil)))⟩
   (zaW ha (zaW hdx (zaW (j4 _ hacc) (fa_app (l := [rw2, dx2, la2, be2, rw3, dx3, la3, be3]) (m := [t, tdx, trw, tdxr, tla, tbe, tro, tsm, tgr]) (fun y hy => j4 _ (hnew y hy)) fun y hy => up4 _ (hnw y hy)))))
   fun b o e => lkn (nW e hdx) (g5 _ _ (g4 _ _ (g _ _ (j3 _ _ e)) (nW e hdx)))
set_option tactic.hygienic false
inductive wfV (H : AH) (f : Addr) (T : List UInt8) (w k : Nat) : List Addr → Prop where
 | chain {dx rw dxr la be : Addr} (A : wdQ H f dx rw dxr la be T w k) : wfV H f T w k [f, dx, rw, dxr, la, be]
 | tree {dx rw dxr la be ro sm gr : Addr} (A : wcV H f dx rw dxr la be ro sm gr T 2 w k) : wfV H f T w k [f, dx, rw, dxr, la, be, ro, sm, gr]
 | lay {dx rs rw2 dx2 la2 be2 rw3 dx3 la3 be3 t tdx trw tdxr tla tbe tro tsm tgr : Addr} (A : LayAt H f dx rs rw2 dx2 la2 be2 rw3 dx3 la3 be3 t tdx trw tdxr tla tbe tro tsm tgr T w k k) :
  wfV H f T w k [f, dx, rs, rw2, dx2, la2, be2, rw3, dx3, la3, be3, t, tdx, trw, tdxr, tla, tbe, tro, tsm, tgr]
theorem wdQ.ext {H H' : AH} {f dx rw dxr la be : Addr} {T : List UInt8} {w k : Nat} (A : wdQ H f dx rw dxr la be T w k) (g : ∀ a ∈ [f, dx, rw, dxr, la, be], H' a = H a) : wdQ H' f dx rw dxr la be T w k := by
 have e : ∀ {a} (i : Nat), [f, dx, rw, dxr, la, be][i]? = some a → H' a = H a := fun i q => g _ (wcZ i q)
 exact ⟨(e 0 rfl).trans A.inst, (e 1 rfl).trans A.fl, A.row.ext (e 2 rfl) (e 3 rfl) (e 4 rfl) (e 5 rfl)⟩
theorem LayAt.ext {H H' : AH} {f dx rs rw2 dx2 la2 be2 rw3 dx3 la3 be3 t tdx trw tdxr tla tbe tro tsm tgr : Addr} {T : List UInt8} {w ah k : Nat} (A : LayAt H f dx rs rw2 dx2 la2 be2 rw3 dx3 la3 be3 t tdx trw tdxr tla tbe tro tsm tgr T w ah k)
 (g : ∀ a ∈ [f, dx, rs, rw2, dx2, la2, be2, rw3, dx3, la3, be3, t, tdx, trw, tdxr, tla, tbe, tro, tsm, tgr], H' a = H a) : LayAt H' f dx rs rw2 dx2 la2 be2 rw3 dx3 la3 be3 t tdx trw tdxr tla tbe tro tsm tgr T w ah k := by
 have e : ∀ {a} (i : Nat), [f, dx, rs, rw2, dx2, la2, be2, rw3, dx3, la3, be3, t, tdx, trw, tdxr, tla, tbe, tro, tsm, tgr][i]? = some a → H' a = H a := fun i q => g _ (wcZ i q)
 exact ⟨(e 0 rfl).trans A.inst, (e 1 rfl).trans A.fl, (e 2 rfl).trans A.rows, A.r2.ext (e 3 rfl) (e 4 rfl) (e 5 rfl) (e 6 rfl), A.r3.ext (e 7 rfl) (e 8 rfl) (e 9 rfl) (e 10 rfl), A.tr.ext fun a ha => g a (List.mem_append_right [f, dx, rs, rw2, dx2, la2, be2, rw3, dx3, la3, be3] ha), A.nd, A.nd2⟩
theorem wfV.ext {H H' : AH} {f : Addr} {T : List UInt8} {w k : Nat} {own : List Addr} (F : wfV H f T w k own) (g : ∀ a ∈ own, H' a = H a) : wfV H' f T w k own := by
 cases F with
 | chain A => exact .chain (A.ext g)
 | tree A => exact .tree (A.ext g)
 | lay A => exact .lay (A.ext g)
theorem wbU.there {H : AH} {rw dx la be : Addr} {T : List UInt8} {s k : Nat} (R : wbU H rw dx la be T s k) : ∀ a ∈ [rw, dx, la, be], ∃ o, H a = some o := by
 obtain ⟨_, _, _, h3, _⟩ := R.last
 obtain ⟨_, h4, _⟩ := R.bef
 exact zaW ⟨_, R.inst⟩ (zaW ⟨_, R.fl⟩ (zaW ⟨_, h3⟩ (zaW ⟨_, h4⟩ wgX)))
theorem wcV.there {H : AH} {f dx rw dxr la be ro sm gr : Addr} {T : List UInt8} {L w k : Nat} (A : wcV H f dx rw dxr la be ro sm gr T L w k) : ∀ a ∈ [f, dx, rw, dxr, la, be, ro, sm, gr], ∃ o, H a = some o := by
 obtain ⟨_, _, _, _, _, a7, ⟨_, _, a8, a9, _⟩, _⟩ := A.tr
 exact zaW ⟨_, A.base.inst⟩ (zaW ⟨_, A.base.fl⟩ (fa_app (l := [rw, dxr, la, be]) A.base.row.there (zaW ⟨_, a7⟩ (zaW ⟨_, a8⟩ (zaW ⟨_, a9⟩ wgX)))))
theorem wfV.there {H : AH} {f : Addr} {T : List UInt8} {w k : Nat} {own : List Addr} (F : wfV H f T w k own) : ∀ a ∈ own, ∃ o, H a = some o := by
 cases F with
 | chain A => exact zaW ⟨_, A.inst⟩ (zaW ⟨_, A.fl⟩ A.row.there)
 | tree A => exact A.there
 | @lay dx rs rw2 dx2 la2 be2 rw3 dx3 la3 be3 _ _ _ _ _ _ _ _ _ A =>
  exact zaW ⟨_, A.inst⟩ (zaW ⟨_, A.fl⟩ (zaW ⟨_, A.rows⟩ (fa_app (l := [rw2, dx2, la2, be2]) A.r2.there (fa_app (l := [rw3, dx3, la3, be3]) A.r3.there A.tr.there))))
theorem wfV.frame {H H' : AH} {f : Addr} {T : List UInt8} {w k : Nat} {own : List Addr} (F : wfV H f T w k own) (g : ∀ a o, H a = some o → H' a = some o) : wfV H' f T w k own :=
 F.ext fun a ha => by obtain ⟨o, e⟩ := F.there a ha; rw [e]; exact g a o e
theorem wfV.new {H : AH} {f : Addr} {T : List UInt8} {w k : Nat} {own : List Addr} (F : wfV H f T w k own) {x : Addr} (n : H x = none) : x ∉ own := fun h => by
 obtain ⟨o, e⟩ := F.there x h
 rw [n] at e; cases e
theorem wfV.mat {P : Params} {H : AH} {f : Addr} {T : List UInt8} {w k : Nat} {own : List Addr} (F : wfV H f T w k own) : Mat P H f T 2 w (T.length + 1) k := by
 cases F with
 | chain A => exact A.mat
 | tree A => exact A.base.mat
 | lay A => exact A.mat
theorem wfV.mth {G : Gd} {H : AH} {f : Addr} {T : List UInt8} {w p : Nat} {own : List Addr} (F : wfV H f T w p own) (hz : T.length ≤ 100000) :
 ∃ (C dx : Addr) (N : List Str) (Xs : List V) (fe : Addr), H f = some (.inst C dx) ∧ H dx = some (.fields N Xs) ∧ wbV G.w.params C N "put" 271 ∧ wbV G.w.params C N "best" 334 ∧ wbV G.w.params C N "every" fe ∧
  ∀ {lv most : Nat} {Q : V → AH → Prop}, p < T.length → 2 ≤ most → (∀ l H', H l = none → H' l = some (.list ((can (oc T) T.length w most p 1).map nV)) → (∀ a o, H a = some o → H' a = some o) → Q (.ref l) H') → waX G (lv + 4) (.ref fe) [.ref f, .int p, .int most] H Q := by
 cases F with
 | chain A => exact ⟨_, _, _, _, _, A.inst, A.fl, meth_Finder_put, meth_Finder_best, meth_Finder_every, fun hp hm h => chainevery_ok A hz hp hm h⟩
 | tree A => exact ⟨_, _, _, _, _, A.base.inst, A.base.fl, wiZ, wgU, wgZ, fun {lv _ _} hp hm h => (treeevery_ok (lv := lv) A hz hp hm (by exact J00 (nat_lit 0x1a2212) rfl) h).le (by exact J10 (nat_lit 0x1a4420142201) rfl)⟩
 | lay A => exact ⟨_, _, _, _, _, A.inst, A.fl, wfX, weV, weY, fun hp hm h => layevery_ok A hz hp hm h⟩
theorem finput_ok {G : Gd} {lv : Nat} {f : Addr} {T : List UInt8} {w k : Nat} {own : List Addr} {H : AH} {Q : V → AH → Prop} (F : wfV H f T w k own) (hz : T.length ≤ 100000) (hk : k < T.length)
 (h : ∀ H', wfV H' f T w (k + 1) own → (∀ a, a ∉ own → H' a = H a) → Q .none H') : waX G (lv + 6) (.ref 271) [.ref f, .int k] H Q := by
 cases F with
 | chain A =>
  refine (chainput_ok (lv := lv) A hz hk fun H' A' g => h H' (.chain A') fun a ha => ?_).le (by exact J10 (nat_lit 0x1a4620144201) rfl)
  exact g a (nm_at ha 1 rfl) (nm_at ha 4 rfl) (nm_at ha 5 rfl)
 | tree A =>
  refine (treeput_ok (lv := lv) A hz hk fun H' A' g => h H' (.tree A') fun a ha => ?_).le (by exact J10 (nat_lit 0x1a4620144201) rfl)
  exact g a (nm_at ha 1 rfl) (nm_at ha 6 rfl) (nm_at ha 7 rfl) (nm_at ha 8 rfl)
 | lay A =>
  refine layput_ok (lv := lv) A hz hk fun H' A' g => h H' (.lay A') fun a ha => ?_
  exact g a fun hb => ha (sub_at [1, 5, 6, 9, 10, 12, 17, 18, 19] rfl a hb)
theorem finbest_ok {G : Gd} {lv : Nat} {f : Addr} {T : List UInt8} {w p most : Nat} {own : List Addr} {H : AH} {Q : V → AH → Prop} (F : wfV H f T w p own) (hz : T.length ≤ 100000) (hp : p < T.length) (hm : 2 ≤ most)
 (h : ∀ H', (∀ a o, H a = some o → H' a = some o) → Q (nV (wgW (oc T) T.length w most p)) H') : waX G (lv + 5) (.ref 334) [.ref f, .int p, .int most] H Q := by
 obtain ⟨C, dx, N, Xs, fe, h1, h2, _, _, h3, h4⟩ := F.mth (G := G) hz
 exact matbest_ok (lv := lv + 4) h1 h2 h3 (h4 hp hm fun l H' hl e g => ⟨l, _, rfl, e, Nat.le_trans can_len (by exact J20 (nat_lit 0x1a000186a0b0101a000186a0b1111a1101) rfl hz hp), h H' g⟩)
structure wcQ (H : AH) (tr tdx f : Addr) (T : List UInt8) (w k : Nat) (own : List Addr) : Prop where
 inst : H tr = some (.inst 104 tdx)
 fl : H tdx = some (.fields wiU [.ref f, .int 2, .int k])
 fin : wfV H f T w k own
 n1 : tr ∉ own
 n2 : tdx ∉ own
theorem wcQ.frame {H H' : AH} {tr tdx f : Addr} {T : List UInt8} {w k : Nat} {own : List Addr} (A : wcQ H tr tdx f T w k own) (g : ∀ a o, H a = some o → H' a = some o) : wcQ H' tr tdx f T w k own :=
 ⟨g _ _ A.inst, g _ _ A.fl, A.fin.frame g, A.n1, A.n2⟩
theorem trailinit_ok {G : Gd} {lv : Nat} {f : Addr} {T : List UInt8} {w : Nat} {own : List Addr} {H : AH} {Q : V → AH → Prop} (F : wfV H f T w 0 own)
 (h : ∀ H' tr tdx, wcQ H' tr tdx f T w 0 own → H tr = none → H tdx = none → (∀ a o, H a = some o → H' a = some o) → Q (.ref tr) H') : waX G (lv + 2) (.ref 104) [.ref f] H Q := by
 refine wiW wiU new_Trail fun a dx ha hdx hne => ?_
 have m : IsInit := .mk
 generalize hH1 : upd (upd H dx (.fields wiU [])) a (.inst 104 dx) = H1
 have i1 : H1 a = some (.inst 104 dx) := by rw [← hH1]; exact uS _ _ _
 have i2 : H1 dx = some (.fields wiU []) := by rw [← hH1]; exact (lkn (Ne.symm hne) (uS _ _ _))
 have i3 : ∀ b o, H b = some o → H1 b = some o := fun b o e => by rw [← hH1]; exact lkn (nW e ha) (lkn (nW e hdx) e)
 refine' waY (ps := ["self", "finder"]) (extra := []) ?ho (ok_Trail_init _) rfl rfl ?hb ?_
 case ho => k_is
 case hb => exact fun s vs _ r => bnd2 (fun _ _  => BindsTo.of_eq rfl) r
 intro c hN hG hK hc
 subst hc
 refine (let r0 : Loc := [some (.ref a), some (.ref f)]; (?_ : WSs c r0 _ _ _))
 have F1 := F.frame i3
 have M1 := F1.mat (P := c.G.w.params)
 have nf : dx ∉ own := F.new hdx
 have nf2 : a ∉ own := F.new ha
 refine goS hN hG ?_
 refine St.of ?_
 refine NAc i1 i2 (zaZ rfl) rfl rfl ?_
 refine St.of ?_
 have F2 : wfV (upd H1 dx (.fields wiU ([] ++ [.ref f]))) f T w 0 own := F1.ext fun b hb => zbX _ _ fun e => nf (e ▸ hb)
 have M2 := F2.mat (P := c.G.w.params)
 have q1 := i1
 refine Mat.least M2 ?_
 refine St.of ?_
 refine C_max2 ?_
 refine St.of ?_
 refine NAc (lkn hne q1) (uS _ _ _) (zaZ rfl) rfl rfl ?_
 refine St.of ?_
 refine NAc (lkn hne (lkn hne q1)) (uS _ _ _) (zaZ rfl) rfl rfl ?_
 refine zaV ?_
 refine zcY ?_
 refine nonq ?_
 simp only [wcU]
 refine h _ a dx ⟨lkn hne i1, uS _ _ _, F1.ext fun b hb => zbX _ _ fun e => nf (e ▸ hb), nf2, nf⟩ ha hdx fun b o e => lkn (nW e hdx) (i3 b o e)
set_option tactic.hygienic false
theorem upto_ok {G : Gd} {lv : Nat} {tr tdx f : Addr} {T : List UInt8} {w k p : Nat} {own : List Addr} {H : AH} {Q : V → AH → Prop} (A : wcQ H tr tdx f T w k own) (hz : T.length ≤ 100000) (hk : k ≤ p) (hp : p ≤ T.length)
 (h : ∀ H', wcQ H' tr tdx f T w p own → (∀ a, a ∉ tdx :: own → H' a = H a) → Q .none H') : waX G (lv + 7) (.ref 89) [.ref tr, .int p] H Q := by
 have i1 := A.inst
 have i2 := A.fl
 have ne : tr ≠ tdx := zbW i1 i2 (fun e => by cases e)
 refine' waY (ps := ["self", "place"]) (extra := []) ?ho (ok_Trail_up_to _) rfl rfl ?hb ?_
 case ho => k_is
 case hb => exact fun s vs _ r => bnd2 (fun _ _  => BindsTo.of_eq rfl) r
 intro c hN hG hK hc
 subst hc
 refine (let r0 : Loc := [some (.ref tr), some (.int p)]; (?_ : WSs c r0 _ _ _))
 refine goS hN hG ?_
 refine St.of ?_
 refine whY (fun m r' H' => ∃ j : Nat, m = p - j ∧ j ≤ p ∧ wcQ H' tr tdx f T w j own ∧ (∀ a, a ∉ tdx :: own → H' a = H a) ∧ r' = [some (.ref tr), some (.int p)]) _ ⟨k, rfl, hk, A, fun _ _ => rfl, rfl⟩ ?_
 rintro m r' H' ⟨j, rfl, hj, A', g, rfl⟩
 have w1 := A'.inst
 have w2 := A'.fl
 have F := A'.fin
 obtain ⟨C, dx, N, Xs, fe, h1, h2, h3, _, _, _⟩ := F.mth (G := c.G) hz
 refine goT hN hG ?_
 refine St.of ?_
 refine AC w1 w2 (zaZ rfl) rfl ?_
 refine waV ?_
 refine zbY (fun h0 => ?_) (fun h0 => ?_)
 ·refine goS hN hG ?_
  refine St.of ?_
  refine AC w1 w2 (zaZ rfl) rfl ?_
  refine St.of ?_
  refine MC h1 h2 h3 ?_
  refine St.of ?_
  refine AC w1 w2 (zaZ rfl) rfl ?_
  refine St.of ?_
  refine waZ hK (by exact J10 (nat_lit 0x1a4620146201) rfl) (finput_ok (lv := lv) F hz (by exact J30 (nat_lit 0x11a110101a112171a821801) rfl hp h0) fun H1 F1 g1 => ?_)
  have v1 : H1 tr = _ := (g1 tr A'.n1).trans w1
  have v2 : H1 tdx = _ := (g1 tdx A'.n2).trans w2
  refine St.of ?_
  refine AC v1 v2 (zaZ rfl) rfl ?_
  refine St.of ?_
  refine SAc v1 v2 (zaZ rfl) rfl rfl ?_
  refine zaV ?_
  refine ⟨_, by exact J40 (nat_lit 0x11a110121a314412210131a3142111) rfl (Nat.sub_add_cancel (J20 (nat_lit 0x1a114120171a811801) rfl h0)) (Nat.sub_add_cancel (J20 (nat_lit 0x1a110171a811801) rfl h0)), j + 1, rfl, by exact J20 (nat_lit 0x1a114120171a811801) rfl h0, ⟨lkn ne v1, uS _ _ _, F1.ext fun b hb => zbX _ _ fun e => A'.n2 (e ▸ hb), A'.n1, A'.n2⟩, fun a ha => ?_, rfl⟩
  rw [List.mem_cons, not_or] at ha
  rw [zbX _ _ ha.1, g1 a ha.2]
  exact g a (by rw [List.mem_cons, not_or]; exact ha)
 ·have : j = p := by exact Nat.le_antisymm (J20 (nat_lit 0x1a110101a1101) rfl hj) (J20 (nat_lit 0x1a1101b1a801811) rfl h0)
  subst this
  refine zaY ?_
  refine zaV ?_
  refine zcY ?_
  exact h H' A' g
theorem trailbest_ok {G : Gd} {lv : Nat} {tr tdx f : Addr} {T : List UInt8} {w k p most : Nat} {own : List Addr} {H : AH} {Q : V → AH → Prop} (A : wcQ H tr tdx f T w k own) (hz : T.length ≤ 100000) (hk : k ≤ p) (hp : p < T.length) (hm : 2 ≤ most)
 (h : ∀ H', wcQ H' tr tdx f T w p own → (∀ a o, a ∉ tdx :: own → H a = some o → H' a = some o) → Q (nV (wgW (oc T) T.length w most p)) H') : waX G (lv + 8) (.ref 96) [.ref tr, .int p, .int most] H Q := by
 have i1 := A.inst
 have i2 := A.fl
 refine' waY (ps := ["self", "place", "most"]) (extra := []) ?ho (ok_Trail_best _) rfl rfl ?hb ?_
 case ho => k_is
 case hb => exact fun s vs _ r => bnd3 (fun _ _ _  => BindsTo.of_eq rfl) r
 intro c hN hG hK hc
 subst hc
 refine (let r0 : Loc := [some (.ref tr), some (.int p), some (.int most), none, none]; (?_ : WSs c r0 _ _ _))
 refine goS hN hG ?_
 refine St.of ?_
 refine MC i1 i2 (zbZ rfl rfl) ?_
 refine St.of ?_
 refine waZ hK (by exact J10 (nat_lit 0x1a4720147201) rfl) (upto_ok (lv := lv) A hz hk (by exact J20 (nat_lit 0x1a110111a1101) rfl hp) fun H1 A1 g1 => ?_)
 have w1 := A1.inst
 have w2 := A1.fl
 have F := A1.fin
 obtain ⟨C, dx, N, Xs, fe, h1, h2, _, h3, _, _⟩ := F.mth (G := c.G) hz
 refine St.of ?_
 refine WS_unpair 3 4 (.cons (.cons .nil)) (nm hN rfl) (nm hN rfl) ?_
 refine goE hN hG ?_
 refine St.of ?_
 refine AC w1 w2 (zaZ rfl) rfl ?_
 refine St.of ?_
 refine MC h1 h2 h3 ?_
 refine St.of ?_
 refine waZ hK (by exact J10 (nat_lit 0x1a4720145201) rfl) (finbest_ok (lv := lv) F hz hp hm fun H2 g2 => ?_)
 have A2 := A1.frame g2
 have v1 := A2.inst
 have v2 := A2.fl
 have gg : ∀ a o, a ∉ tdx :: own → H a = some o → H2 a = some o := fun a o ha e => g2 a o ((g1 a ha).trans e)
 rcases best_cases (oc T) T.length w most p with ⟨hb, _⟩ | ⟨_, hb⟩
 ·rw [hb] at h ⊢
  refine ⟨_, _, rfl, ?_⟩
  refine zaY ?_
  refine St.of ?_
  refine AC v1 v2 (zaZ rfl) rfl ?_
  exact h H2 A2 gg
 ·generalize wgW (oc T) T.length w most p = b at h hb ⊢
  refine ⟨_, _, rfl, ?_⟩
  refine zaY ?_
  refine St.of ?_
  refine AC v1 v2 (zaZ rfl) rfl ?_
  refine waV ?_
  refine whZ (by exact fun hq => Nat.lt_irrefl 0 (J10 (nat_lit 0x10a020201a012271a22801) rfl hb hq)) ?_
  exact h H2 A2 gg
theorem trailevery_ok {G : Gd} {lv : Nat} {tr tdx f : Addr} {T : List UInt8} {w k p most : Nat} {own : List Addr} {H : AH} {Q : V → AH → Prop} (A : wcQ H tr tdx f T w k own) (hz : T.length ≤ 100000) (hk : k ≤ p) (hp : p < T.length) (hm : 2 ≤ most)
 (h : ∀ H' l, wcQ H' tr tdx f T w p own → (∀ a o, a ∉ tdx :: own → H a = some o → H' a = some o) → H' l = some (.list ((can (oc T) T.length w most p 1).map nV)) → H l = none → l ∉ tdx :: own → Q (.ref l) H') : waX G (lv + 8) (.ref 101) [.ref tr, .int p, .int most] H Q := by
 have i1 := A.inst
 have i2 := A.fl
 refine' wiV (ps := ["self", "place", "most"]) (extra := []) ?ho (ok_Trail_every _) rfl rfl ?hb ?_
 case ho => k_is
 case hb => exact fun s vs _ r => bnd3 (fun _ _ _  => BindsTo.of_eq rfl) r
 intro c hN hG hCV hK hc
 subst hc
 refine (let r0 : Loc := [some (.ref tr), some (.int p), some (.int most)]; (?_ : WSs c r0 _ _ _))
 refine goS hN hG ?_
 refine St.of ?_
 refine MC i1 i2 (zbZ rfl rfl) ?_
 refine St.of ?_
 refine waZ hK (by exact J10 (nat_lit 0x1a4720147201) rfl) (upto_ok (lv := lv) A hz hk (by exact J20 (nat_lit 0x1a110111a1101) rfl hp) fun H1 A1 g1 => ?_)
 have w1 := A1.inst
 have w2 := A1.fl
 have F := A1.fin
 obtain ⟨C, dx, N, Xs, fe, h1, h2, _, _, h3, h4⟩ := F.mth (G := c.G) hz
 refine St.of ?_
 refine WE_comp ["match"] ["self"] [] _ [0] rfl hN (by rw [hCV]; simp) rfl rfl ?_
 refine goE hN hG ?_
 refine St.of ?_
 refine AC w1 w2 (zaZ rfl) rfl ?_
 refine St.of ?_
 refine MC h1 h2 h3 ?_
 refine St.of ?_
 refine waZ hK (by exact J10 (nat_lit 0x1a4720144201) rfl) (h4 (lv := lv) hp hm fun l H2 hl e g => ?_)
 have hcl := can_len (o := oc T) (n := T.length) (w := w) (most := most) (p := p) (L := 1)
 have h2c := can_two (o := oc T) (n := T.length) (w := w) (most := most) (p := p)
 generalize can (oc T) T.length w most p 1 = Cn at h hcl h2c e
 have A2 := A1.frame g
 refine ⟨_, _, zcV e, fun c' hN' hG' hCV' hK' hGG hkl acc hacc => ⟨fun i r' H' => (∃ x, r' = [x, some (.ref tr)]) ∧ H' = upd H2 acc (.list ((Cn.take i).map nV)), ⟨⟨_, rfl⟩, rfl⟩, ?_, ?_, ?_⟩⟩
 ·rintro i r' H' _ ⟨_, rfl⟩
  exact lkn (nW e hacc) e
 ·rintro i X r' H' hX ⟨⟨x, rfl⟩, rfl⟩
  rw [List.getElem?_map] at hX
  obtain ⟨⟨k0, d0⟩, hq, rfl⟩ := Option.map_eq_some_iff.mp hX
  have hiC := (List.getElem?_eq_some_iff.mp hq).1
  have hk0 : 2 ≤ k0 := h2c _ (List.mem_of_getElem? hq)
  refine wdV 0 (nm hN' rfl) (hkl _ (.head _)) ?_
  have A3 := A2.frame (H' := upd H2 acc (.list ((Cn.take i).map nV))) fun b o eb => lkn (nW eb hacc) eb
  have v1 := A3.inst
  have v2 := A3.fl
  refine (?_ : WT c' [some (.pr k0 d0), some (.ref tr)] _ _ _)
  refine goT hN' hG' ?_
  refine St.of ?_
  refine AC v1 v2 (zaZ rfl) rfl ?_
  refine waV ?_
  refine ite_t (by exact J10 (nat_lit 0x61a8012201a0122) rfl hk0) ?_
  refine (?_ : WE c' [some (.pr k0 d0), some (.ref tr)] _ _ _)
  refine goE hN' hG' ?_
  refine ⟨_, uS _ _ _, by rw [List.length_map, List.length_take]; exact J40 (nat_lit 0x1a000186a0b0101a000186a0b1111a112101a213101a3101) rfl hz hp hcl (Nat.min_le_right _ _), ⟨_, rfl⟩, ?_⟩
  rw [wcU, List.take_add_one, hq, List.map_append]; rfl
 ·rintro r' H3 ⟨_, rfl⟩
  refine zcX ?_
  have hacc1 : H1 acc = none := by
   cases q : H1 acc with
   | none => rfl
   | some o => rw [g _ _ q] at hacc; cases hacc
  have nacc : acc ∉ tdx :: own := fun hb => by
   rcases List.mem_cons.mp hb with e1 | e1
   ·subst e1; rw [A1.fl] at hacc1; cases hacc1
   ·exact A1.fin.new hacc1 e1
  refine h _ acc (A2.frame fun b o eb => lkn (nW eb hacc) eb) (fun a o ha e1 => ?_) ?_ ?_ nacc
  ·have := g _ _ ((g1 a ha).trans e1)
   exact lkn (nW this hacc) this
  ·rw [uS, List.length_map, List.take_length]
  ·rw [← g1 acc nacc]; exact hacc1
set_option tactic.hygienic false
theorem sz_int {a b : Nat} : (if (a : Int) = 0 then (1 : Int) else (a : Int)) = ((sz (a, b) : Nat) : Int) := by
 unfold sz
 by_cases h : a = 0
 ·rw [if_pos (by exact Int.le_antisymm (J10 (nat_lit 0x61a0280121a0201) rfl h) (J10 (nat_lit 0x61a8010231a0201) rfl h)), if_pos h]; rfl
 ·rw [if_neg (by exact fun hq => Nat.lt_irrefl 0 (J10 (nat_lit 0x10a020291a0280111a0201) rfl hq (Nat.lt_of_le_of_ne (J10 (nat_lit 0x1a020181a02801) rfl hq) h))), if_neg h]
theorem greedy_ok {G : Gd} {lv : Nat} {f : Addr} {T : List UInt8} {w most : Nat} {own : List Addr} {H : AH} {Q : V → AH → Prop} (F : wfV H f T w 0 own) (hz : T.length ≤ 100000) (hm : 2 ≤ most)
 (h : ∀ H' l, H l = none → H' l = some (.list ((gr (oc T) T.length w most T.length 0).map nV)) → (∀ a o, a ∉ own → H a = some o → H' a = some o) → Q (.ref l) H') : waX G (lv + 9) (.ref 115) [.bytes T, .int 0, .ref f, .int most] H Q := by
 refine' waY (ps := ["octets", "start", "finder", "most"]) (extra := []) ?ho (ok_greedy _) rfl rfl ?hb ?_
 case ho => k_is
 case hb => exact fun s vs _ r => bnd4 (fun _ _ _ _  => BindsTo.of_eq rfl) r
 intro c hN hG hK hc
 subst hc
 refine (let r0 : Loc := [some (.bytes T), some (.int 0), some (.ref f), some (.int most), none, none, none, none, none]; (?_ : WSs c r0 _ _ _))
 refine goS hN hG ?_
 refine St.of ?_
 refine waZ hK (by exact J10 (nat_lit 0x1a4820141201) rfl) (checkrange_ok (lv := lv) hz (by exact J00 (nat_lit 0x61a0202) rfl) (by exact J10 (nat_lit 0x61a80102) rfl) (by exact J10 (nat_lit 0x61a8010201a0122) rfl hm) ?_)
 refine St.of ?_
 refine waZ hK (by exact J10 (nat_lit 0x1a4820142201) rfl) (trailinit_ok (lv := lv) F fun H0 tr tdx A0 htr htdx g0 => ?_)
 refine wbW ?_
 refine ⟨by decide, fun st hst0 => ?_⟩
 refine St.of ?_
 have nst : st ∉ tdx :: own := fun hb => by
  rcases List.mem_cons.mp hb with e1 | e1
  ·subst e1; rw [A0.fl] at hst0; cases hst0
  ·exact A0.fin.new hst0 e1
 have up0 : ∀ z, H0 z = none → H z = none := fun z e => by
  cases q : H z with
  | none => rfl
  | some o => rw [g0 z o q] at e; cases e
 refine WS_whileI (fun m r' H' => ∃ (fuel p : Nat) (fs : List (Nat × Nat)) (x y : Option V), m = T.length - p ∧ T.length ≤ p + fuel ∧ p ≤ T.length ∧ fs ++ gr (oc T) T.length w most fuel p = gr (oc T) T.length w most T.length 0 ∧ fs.length ≤ p ∧ (∃ k, k ≤ p ∧ wcQ H' tr tdx f T w k own) ∧ H' st = some (.list (fs.map nV)) ∧ (∀ a o, a ∉ own → H a = some o → H' a = some o) ∧
  r' = [some (.bytes T), some (.int 0), some (.ref f), some (.int most), some (.ref tr), some (.ref st), some (.int p), x, y]) _
  ⟨T.length, 0, [], none, none, rfl, by exact J10 (nat_lit 0x1a4010201) rfl, by exact J10 (nat_lit 0x1a0102) rfl, rfl, by simp, ⟨0, by exact J00 (nat_lit 0x1a0202) rfl, A0.frame fun b o e => lkn (nW e hst0) e⟩, uS _ _ _, fun a o _ e => lkn (nW (g0 _ _ e) hst0) (g0 _ _ e), rfl⟩ fun I hI hJ m r' H' hm' => ?_
 obtain ⟨fuel, p, fs, x, y, rfl, hfu, hp, hfs, hlen, ⟨k, hkp, A⟩, hst, g, rfl⟩ := hI hm'
 have w1 := A.inst
 have w2 := A.fl
 have wl : (fs.map nV).length = fs.length := by simp
 refine goT hN hG ?_
 refine St.of ?_
 refine wgQ hz ?_
 refine waV ?_
 refine zbY (fun h0 => ?_) (fun h0 => ?_)
 ·have h0 : p < T.length := by exact J20 (nat_lit 0x11a110171a811801) rfl h0
  obtain ⟨fu, rfl⟩ : ∃ fu, fuel = fu + 1 := ⟨fuel - 1, by exact Nat.le_antisymm (J20 (nat_lit 0x1a412110101a4121101) rfl (sbA _ _)) (J20 (nat_lit 0x1a114120121a1141201) rfl (Nat.sub_add_cancel (J30 (nat_lit 0x1a011201a401211171a811821) rfl hfu ‹_›)))⟩
  have eg : gr (oc T) T.length w most (fu + 1) p = wfZ (oc T) T.length w most p :: gr (oc T) T.length w most fu (p + sz (wfZ (oc T) T.length w most p)) := by
   show (if p < _ then _ else _) = _; rw [if_pos h0]
  rw [eg] at hfs
  have sp := whU (wfZ (oc T) T.length w most p)
  have ok := (gstep_ok (o := oc T) (w := w) (most := most) h0).le
  refine goS hN hG ?_
  refine St.of ?_
  refine MC w1 w2 (zbZ rfl rfl) ?_
  refine St.of ?_
  refine waZ hK (by exact J10 (nat_lit 0x1a4820148201) rfl) (trailbest_ok (lv := lv) A hz hkp h0 hm fun H1 A1 g1 => ?_)
  have w3 := g1 st _ nst hst
  have A2 : ∀ vs, wcQ (upd H1 st (.list vs)) tr tdx f T w p own := fun vs => ⟨lkn (zbW A1.inst w3 (fun e => by cases e)) A1.inst, lkn (zbW A1.fl w3 (fun e => by cases e)) A1.fl, A1.fin.ext fun b hb => zbX _ _ fun e => nst (e ▸ .tail _ hb), A1.n1, A1.n2⟩
  have g2 : ∀ vs a o, a ∉ own → H a = some o → upd H1 st (.list vs) a = some o := fun vs a o ha e => by
   have n1 : a ≠ tdx := nW e htdx
   have n2 : a ≠ st := nW e (up0 _ hst0)
   exact lkn n2 (g1 a o (by rw [List.mem_cons, not_or]; exact ⟨n1, ha⟩) (g a o ha e))
  have egs : wfZ (oc T) T.length w most p = if wgW (oc T) T.length w most p = (0, 0) then (0, oc T p) else wgW (oc T) T.length w most p := rfl
  generalize wfZ (oc T) T.length w most p = s at *
  generalize wgW (oc T) T.length w most p = b at *
  obtain ⟨b1, b2⟩ := b
  refine waV ?_
  refine zbY (fun h1 => ?_) (fun h1 => ?_)
  ·have es : s = (0, oc T p) := by rw [egs, if_pos (by rw [Prod.mk.injEq]; exact ⟨Nat.le_antisymm (J10 (nat_lit 0x1a020181a02801) rfl h1.1) (J10 (nat_lit 0x1a010291a02801) rfl h1.1), Nat.le_antisymm (J10 (nat_lit 0x1a020181a02801) rfl h1.2) (J10 (nat_lit 0x1a010291a02801) rfl h1.2)⟩)]
   subst es
   refine St.of ?_
   refine wiQ (by exact J10 (nat_lit 0x61a80102) rfl) ‹_› hz ?_
   refine St.of ?_
   refine zcU w3 ?_
   refine St.of ?_
   refine wcX w3 (by exact J50 (nat_lit 0x1a000186a0b0101a000186a0b1101a312121a210101a411201a1144131) rfl hz hlen wl sp ok) ?_
   refine St.of ?_
   refine waZ hK (by exact J10 (nat_lit 0x1a4820141201) rfl) (stepsize_ok (lv := lv) ?_)
   refine ⟨_, ?_, hJ ⟨fu, p + sz (0, oc T p), fs ++ [(0, oc T p)], _, _, rfl, ?_, ok, ?_, ?_, ⟨p, ?_, A2 _⟩, ?_, g2 _, rfl⟩⟩
   ·exact J50 (nat_lit 0x11a110101a211221a414421310131a4143111) rfl sp (Nat.sub_add_cancel (J30 (nat_lit 0x1a214110101a2141101) rfl ok)) (Nat.sub_add_cancel (J20 (nat_lit 0x1a110171a811801) rfl ‹_›))
   ·exact J40 (nat_lit 0x1a431421110101a441231110101a2112) rfl hfu sp
   ·rw [← hfs, List.append_assoc]; rfl
   ·rw [List.length_append]; simp; exact J30 (nat_lit 0x1a421114120101a110101a2112) rfl hlen sp
   ·exact J20 (nat_lit 0x1a411010101a1112) rfl sp
   ·rw [uS, List.map_append, Int.toNat_natCast]; rfl
  ·have es : s = (b1, b2) := by rw [egs, if_neg (by rw [Prod.mk.injEq]; omega)]
   subst es
   refine St.of ?_
   refine zcU w3 ?_
   refine St.of ?_
   refine wcX w3 (by exact J40 (nat_lit 0x1a000186a0b0101a000186a0b1101a312121a210171a811831) rfl hz hlen wl ‹_›) ?_
   refine St.of ?_
   refine waZ hK (by exact J10 (nat_lit 0x1a4820141201) rfl) (stepsize_ok (lv := lv) ?_)
   rw [sz_int (b := b2)]
   refine ⟨_, ?_, hJ ⟨fu, p + sz (b1, b2), fs ++ [(b1, b2)], _, _, rfl, ?_, ok, ?_, ?_, ⟨p, ?_, A2 _⟩, ?_, g2 _, rfl⟩⟩
   ·exact J50 (nat_lit 0x11a110101a211221a414421310131a4143111) rfl sp (Nat.sub_add_cancel (J30 (nat_lit 0x1a214110101a2141101) rfl ok)) (Nat.sub_add_cancel (J20 (nat_lit 0x1a110171a811801) rfl ‹_›))
   ·exact J40 (nat_lit 0x1a431421110101a441231110101a2112) rfl hfu sp
   ·rw [← hfs, List.append_assoc]; rfl
   ·rw [List.length_append]; simp; exact J30 (nat_lit 0x1a421114120101a110101a2112) rfl hlen sp
   ·exact J20 (nat_lit 0x1a411010101a1112) rfl sp
   ·rw [uS, List.map_append]; rfl
 ·have : gr (oc T) T.length w most fuel p = [] := by
   cases fuel with
   | zero => rfl
   | succ fu => show (if p < _ then _ else _) = _; rw [if_neg (by exact fun hq => Nat.lt_irrefl 0 (J20 (nat_lit 0x10a0202b1a81180111a1101) rfl h0 hq))]
  rw [this, List.append_nil] at hfs
  refine zaY ?_
  exact h H' st (up0 _ hst0) (by rw [hst, hfs]) g
set_option tactic.hygienic false
structure wdZ (H : AH) (pr pdx : Addr) (p0 p1 p2 : Int) : Prop where
 inst : H pr = some (.inst 204 pdx)
 fl : H pdx = some (.fields wcY [.int p0, .int p1, .int p2])
theorem wdZ.frame {H H' : AH} {pr pdx : Addr} {p0 p1 p2 : Int} (A : wdZ H pr pdx p0 p1 p2) (g : ∀ a o, H a = some o → H' a = some o) : wdZ H' pr pdx p0 p1 p2 := ⟨g _ _ A.inst, g _ _ A.fl⟩
theorem wdZ.ext {H H' : AH} {pr pdx : Addr} {p0 p1 p2 : Int} (A : wdZ H pr pdx p0 p1 p2) (e1 : H' pr = H pr) (e2 : H' pdx = H pdx) : wdZ H' pr pdx p0 p1 p2 := ⟨e1.trans A.inst, e2.trans A.fl⟩
theorem priceinit_ok {G : Gd} {lv : Nat} {p0 p1 p2 : Int} {H : AH} {Q : V → AH → Prop} (h0 : 0 ≤ p0) (h1 : 0 ≤ p1) (h2 : 0 ≤ p2)
 (h : ∀ H' pr pdx, wdZ H' pr pdx p0 p1 p2 → H pr = none → H pdx = none → (∀ a o, H a = some o → H' a = some o) → Q (.ref pr) H') : waX G (lv + 2) (.ref 204) [.int p0, .int p1, .int p2] H Q := by
 refine wiW wcY new_FlatPrice fun a dx ha hdx hne => ?_
 have m : IsInit := .mk
 generalize hH1 : upd (upd H dx (.fields wcY [])) a (.inst 204 dx) = H1
 have i1 : H1 a = some (.inst 204 dx) := by rw [← hH1]; exact uS _ _ _
 have i2 : H1 dx = some (.fields wcY []) := by rw [← hH1]; exact (lkn (Ne.symm hne) (uS _ _ _))
 have i3 : ∀ b o, H b = some o → H1 b = some o := fun b o e => by rw [← hH1]; exact lkn (nW e ha) (lkn (nW e hdx) e)
 refine' waY (ps := ["self", "literal", "match", "bit"]) (extra := []) ?ho (ok_FlatPrice_init _) rfl rfl ?hb ?_
 case ho => k_is
 case hb => (intro s vs X r; obtain ⟨v0, v1, v2, v3, rfl⟩ := r.ex4; exact ⟨[], trivial, binds_K (show (hd.heap_1 _).In _ from X) rfl (by k_is) rfl rfl rfl⟩)
 intro c hN hG hK hc
 subst hc
 refine (let r0 : Loc := [some (.ref a), some (.int p0), some (.int p1), some (.int p2)]; (?_ : WSs c r0 _ _ _))
 refine goS hN hG ?_
 refine waV ?_
 refine whZ (by exact fun hq => Nat.lt_irrefl 0 (J01 (nat_lit 0x10a020261a010271a0201) rfl h0 hq)) ?_
 refine waV ?_
 refine whZ (by exact fun hq => Nat.lt_irrefl 0 (J01 (nat_lit 0x10a020261a010271a0201) rfl h1 hq)) ?_
 refine waV ?_
 refine whZ (by exact fun hq => Nat.lt_irrefl 0 (J01 (nat_lit 0x10a020261a010271a0201) rfl h2 hq)) ?_
 refine St.of ?_
 refine NAc i1 i2 (zaZ rfl) rfl rfl ?_
 refine St.of ?_
 refine NAc (lkn hne i1) (uS _ _ _) (zaZ rfl) rfl rfl ?_
 refine St.of ?_
 refine NAc (lkn hne (lkn hne i1)) (uS _ _ _) (zaZ rfl) rfl rfl ?_
 refine zaV ?_
 refine zcY ?_
 refine nonq ?_
 simp only [wcU]
 exact h _ a dx ⟨lkn hne i1, uS _ _ _⟩ ha hdx fun b o e => lkn (nW e hdx) (i3 b o e)
theorem literal_ok {G : Gd} {lv : Nat} {pr pdx : Addr} {p0 p1 p2 x : Int} {H : AH} {Q : V → AH → Prop} (A : wdZ H pr pdx p0 p1 p2) (h : Q (.int p0) H) : waX G (lv + 1) (.ref 194) [.ref pr, .int x] H Q := by
 have i1 := A.inst
 have i2 := A.fl
 refine' waY (ps := ["self", "octet"]) (extra := []) ?ho (ok_FlatPrice_literal _) rfl rfl ?hb ?_
 case ho => k_is
 case hb => exact fun s vs _ r => bnd2 (fun _ _  => BindsTo.of_eq rfl) r
 intro c hN hG hK hc
 subst hc
 refine (let r0 : Loc := [some (.ref pr), some (.int x)]; (?_ : WSs c r0 _ _ _))
 refine goS hN hG ?_
 refine St.of ?_
 refine AC i1 i2 (zaZ rfl) rfl ?_
 refine zcX ?_
 exact h
theorem intBits_nat {v : Nat} (h : 1 ≤ v) : Builtin.Int.intBits (v : Int) = Nat.log2 v + 1 := by
 unfold Builtin.Int.intBits
 simp
 exact fun hq => Nat.lt_irrefl 0 (J10 (nat_lit 0x10a020201a011221a0201) rfl h hq)
theorem slot_ok {G : Gd} {lv : Nat} {v : Nat} {H : AH} {Q : V → AH → Prop} (h : ∀ x, Q (.pr x (bits v)) H) : waX G (lv + 1) (.ref 172) [.int v] H Q := by
 refine' waY (ps := ["value"]) (extra := []) ?ho (ok_slot_of _) rfl rfl ?hb ?_
 case ho => k_is
 case hb => exact fun s vs _ r => bnd1 (fun _  => BindsTo.of_eq rfl) r
 intro c hN hG hK hc
 subst hc
 refine (let r0 : Loc := [some (.int v), none]; (?_ : WSs c r0 _ _ _))
 refine goS hN hG ?_
 refine waV ?_
 refine zbY (fun h0 => ?_) (fun h0 => ?_)
 ·have := h v
  rw [bits_small (by exact J10 (nat_lit 0x1a320171a42801) rfl h0)] at this
  exact this
 ·have h0 : 4 ≤ v := by exact J10 (nat_lit 0x1a0142b1a42801) rfl h0
  have hb := bits_log v h0
  refine zaV ?_
  refine zaY ?_
  refine St.of ?_
  refine MB_bits ?_
  refine St.of ?_
  refine C_bits ?_
  refine St.of ?_
  refine wkY (by first | exact .inl (na60 (by exact J00 (nat_lit 0x61a2202) rfl) (by exact J00 (nat_lit 0x61a3b9aca00b22) rfl)) | exact .inr (na60 (by omega) (by omega)) | omega) ?_
  refine St.of ?_
  rw [intBits_nat (by exact J10 (nat_lit 0x1a0112b1a42801) rfl ‹_›), ← hb]
  have e1 : ((bits v + 1 + 1 : Nat) : Int) - 1 - 1 = (bits v : Int) := by exact Int.le_antisymm (J10 (nat_lit 0x61a801512512841241201) rfl) (J10 (nat_lit 0x61a512512841241201801) rfl)
  refine BO_shr (by exact J10 (nat_lit 0x61a51251284124120102) rfl) ?_
  refine St.of ?_
  refine BO_and ?_
  refine (?_ : Q (.pr _ _) H)
  rw [e1]
  exact h _
theorem match_ok {G : Gd} {lv : Nat} {pr pdx : Addr} {p0 p1 p2 : Int} {l d : Nat} {H : AH} {Q : V → AH → Prop} (A : wdZ H pr pdx p0 p1 p2) (h1 : 0 ≤ p2) (h2 : p2 ≤ 1000) (hl : 2 ≤ l) (hd : 1 ≤ d) (h : Q (.int (pmF p1 p2 l d)) H) : waX G (lv + 2) (.ref 201) [.ref pr, .int l, .int d] H Q := by
 have i1 := A.inst
 have i2 := A.fl
 refine' waY (ps := ["self", "length", "distance"]) (extra := []) ?ho (ok_FlatPrice_match _) rfl rfl ?hb ?_
 case ho => k_is
 case hb => exact fun s vs _ r => bnd3 (fun _ _ _  => BindsTo.of_eq rfl) r
 intro c hN hG hK hc
 subst hc
 refine (let r0 : Loc := [some (.ref pr), some (.int l), some (.int d)]; (?_ : WSs c r0 _ _ _))
 refine goS hN hG ?_
 refine St.of ?_
 refine AC i1 i2 (zaZ rfl) rfl ?_
 refine waV ?_
 refine zbY (fun h0 => ?_) (fun h0 => ?_)
 ·refine St.of ?_
  refine AC i1 i2 (zaZ rfl) rfl ?_
  have : pmF p1 p2 l d = p1 := by unfold pmF; rw [h0, Int.zero_mul, Int.add_zero]
  rw [this] at h; exact h
 ·refine zaV ?_
  refine zaY ?_
  refine St.of ?_
  refine AC i1 i2 (zaZ rfl) rfl ?_
  refine St.of ?_
  refine AC i1 i2 (zaZ rfl) rfl ?_
  refine St.of ?_
  have e1 : (l : Int) - 2 = ((l - 2 : Nat) : Int) := by exact Int.le_antisymm (J20 (nat_lit 0x61a81152280101a4221101) rfl (sbA _ _)) (J20 (nat_lit 0x61a52281180121a1142201) rfl (Nat.sub_add_cancel (J10 (nat_lit 0x1a012201a0122) rfl hl)))
  have e2 : (d : Int) - 1 = ((d - 1 : Nat) : Int) := by exact Int.le_antisymm (J20 (nat_lit 0x61a81151280101a4121101) rfl (sbA _ _)) (J20 (nat_lit 0x61a51281180121a1141201) rfl (Nat.sub_add_cancel (J10 (nat_lit 0x1a011201a0112) rfl hd)))
  rw [e1]
  refine waZ hK (by exact J10 (nat_lit 0x1a4120141201) rfl) (slot_ok (lv := lv) fun x => ?_)
  refine St.of ?_
  rw [e2]
  refine waZ hK (by exact J10 (nat_lit 0x1a4120141201) rfl) (slot_ok (lv := lv) fun y => ?_)
  refine St.of ?_
  refine wkY (by first | exact .inl (na60 (by exact J01 (nat_lit 0x61a010261a0102) rfl h1) (by exact J01 (nat_lit 0x61a3b9aca00b0161a3e8301) rfl h2)) | exact .inr (na60 (by omega) (by omega)) | omega) ?_
  exact h
theorem priceof_ok {G : Gd} {lv : Nat} {pr pdx l : Addr} {p0 p1 p2 : Int} {ps : List (Nat × Nat)} {H : AH} {Q : V → AH → Prop} (A : wdZ H pr pdx p0 p1 p2) (h1 : 0 ≤ p2) (h2 : p2 ≤ 1000) (hl : H l = some (.list (ps.map nV))) (hs : ∀ s ∈ ps, s.1 = 0 ∨ 2 ≤ s.1 ∧ 1 ≤ s.2)
 (h : Q (.int (tot (wdW p0 p1 p2) ps)) H) : waX G (lv + 3) (.ref 165) [.ref l, .ref pr] H Q := by
 have i1 := A.inst
 have i2 := A.fl
 refine' waY (ps := ["steps", "price"]) (extra := []) ?ho (ok_price_of _) rfl rfl ?hb ?_
 case ho => k_is
 case hb => exact fun s vs _ r => bnd2 (fun _ _  => BindsTo.of_eq rfl) r
 intro c hN hG hK hc
 subst hc
 refine (let r0 : Loc := [some (.ref l), some (.ref pr), none, none, none]; (?_ : WSs c r0 _ _ _))
 refine goS hN hG ?_
 refine St.of ?_
 refine WS_for ?_
 refine goE hN hG ?_
 refine ⟨_, _, (fun i r' H' => H' = H ∧ ∃ x y, r' = [some (.ref l), some (.ref pr), some (.int (tot (wdW p0 p1 p2) (ps.take i))), x, y]), zcV hl, ⟨rfl, _, _, rfl⟩, ?_, ?_, ?_⟩
 ·rintro i r' H' _ ⟨rfl, _⟩; exact hl
 ·rintro i X r' H' hX ⟨rfl, x, y, rfl⟩
  rw [List.getElem?_map] at hX
  obtain ⟨⟨a, b⟩, hq, rfl⟩ := Option.map_eq_some_iff.mp hX
  have hs := hs _ (List.mem_of_getElem? hq)
  have et : tot (wdW p0 p1 p2) (ps.take (i + 1)) = tot (wdW p0 p1 p2) (ps.take i) + wdW p0 p1 p2 (a, b) := by
   rw [List.take_add_one, hq, tot_app]; show _ + tot _ [(a, b)] = _; rw [tot_cons]; show _ + (_ + 0) = _; exact Int.le_antisymm (J02 (nat_lit 0x61a4110144021101) rfl) (J02 (nat_lit 0x61a4402110141101) rfl)
  refine WA_two 3 4 hN rfl rfl ?_
  refine goS hN hG ?_
  refine waV ?_
  refine zbY (fun h0 => ?_) (fun h0 => ?_)
  ·have h0 : a = 0 := by exact Nat.le_antisymm (J10 (nat_lit 0x1a020181a02801) rfl h0) (J10 (nat_lit 0x1a010291a02801) rfl h0)
   subst h0
   refine St.of ?_
   refine MC i1 i2 (zbZ rfl rfl) ?_
   refine St.of ?_
   refine waZ hK (by exact J10 (nat_lit 0x1a4220141201) rfl) (literal_ok (lv := lv) A ?_)
   refine wbW ?_
   rw [et]
   exact ⟨rfl, _, _, rfl⟩
  ·have hs : 2 ≤ a ∧ 1 ≤ b := by
    have h0 : a ≠ 0 := by omega
    rcases hs with e | e
    ·exact absurd e h0
    ·exact e
   refine St.of ?_
   refine MC i1 i2 (zbZ rfl rfl) ?_
   refine St.of ?_
   refine waZ hK (by exact J10 (nat_lit 0x1a4220142201) rfl) (match_ok (lv := lv) A h1 h2 hs.1 hs.2 ?_)
   refine wbW ?_
   rw [et, cost_match (by exact fun hq => Nat.lt_irrefl 0 (J10 (nat_lit 0x10a020201a012221a0201) rfl hs.1 hq))]
   exact ⟨rfl, _, _, rfl⟩
 ·rintro r' H' ⟨rfl, x, y, rfl⟩
  refine zaY ?_
  rw [List.length_map, List.take_length]
  exact h
set_option tactic.hygienic false
noncomputable def oV : Option Int → V
 | none => .none
 | some v => .int v
noncomputable def sV : Option (Nat × Nat) → V
 | none => .none
 | some s => nV s
structure WaysAt (H : AH) (wy wdx cs ss : Addr) (n : Nat) (y : Wy) : Prop where
 inst : H wy = some (.inst 146 wdx)
 fl : H wdx = some (.fields N_Ways [.int n, .ref cs, .ref ss])
 costs : H cs = some (.list ((List.range (n + 1)).map fun j => oV (y.C j)))
 steps : H ss = some (.list ((List.range (n + 1)).map fun j => sV (y.S j)))
 ne : cs ≠ ss
theorem WaysAt.frame {H H' : AH} {wy wdx cs ss : Addr} {n : Nat} {y : Wy} (A : WaysAt H wy wdx cs ss n y) (g : ∀ a o, H a = some o → H' a = some o) : WaysAt H' wy wdx cs ss n y := ⟨g _ _ A.inst, g _ _ A.fl, g _ _ A.costs, g _ _ A.steps, A.ne⟩
theorem range_set {f g : Nat → V} {n i : Nat} {v : V} (h1 : g i = v) (h2 : ∀ j, j ≠ i → g j = f j) : ((List.range n).map f).set i v = (List.range n).map g := by
 apply List.ext_getElem?
 intro j
 by_cases e : j = i
 ·subst e
  rcases Nat.lt_or_ge j n with q | q
  ·rw [List.getElem?_set_self (by simp; exact q), List.getElem?_map, List.getElem?_range q]; simp [h1]
  ·rw [List.getElem?_eq_none (by simp; exact q), List.getElem?_eq_none (by simp; exact q)]
 ·rw [List.getElem?_set_ne (Ne.symm e), List.getElem?_map, List.getElem?_map]
  rcases Nat.lt_or_ge j n with q | q
  ·rw [List.getElem?_range q]; simp [h2 j e]
  ·rw [List.getElem?_eq_none (by simp; exact q)]; rfl
theorem range_at {f : Nat → V} {n i : Nat} (h : i < n) : ((List.range n).map f)[((i : Nat) : Int).toNat]? = some (f i) := by
 rw [Int.toNat_natCast, List.getElem?_map, List.getElem?_range h]; rfl
theorem wy0_C {n : Nat} : V.int 0 :: (List.replicate ((n : Int).toNat) [V.none]).flatten = (List.range (n + 1)).map fun j => oV (wy0.C j) := by
 rw [Int.toNat_natCast, List.range_succ_eq_map, List.map_cons, List.map_map]
 have : ((fun j => oV (wy0.C j)) ∘ Nat.succ) = fun _ => V.none := by funext j; simp [wy0, oV]
 rw [this, List.flatten_replicate_singleton]
 simp [List.map_const', wy0, oV]
theorem wy0_S {n : Nat} : (List.replicate (((n : Int) + 1).toNat) [V.none]).flatten = (List.range (n + 1)).map fun j => sV (wy0.S j) := by
 rw [show ((n : Int) + 1).toNat = n + 1 by exact Nat.le_antisymm (J20 (nat_lit 0x1a412110181a412811801) rfl (Int.toNat_of_nonneg (J10 (nat_lit 0x61a41280102) rfl))) (J20 (nat_lit 0x1a114120191a412801811) rfl (Int.toNat_of_nonneg (J10 (nat_lit 0x61a41280102) rfl))), List.flatten_replicate_singleton]
 simp [List.map_const', wy0, sV]
theorem waysinit_ok {G : Gd} {lv n : Nat} {H : AH} {Q : V → AH → Prop} (hn : n ≤ 90000)
 (h : ∀ H' wy wdx cs ss, WaysAt H' wy wdx cs ss n wy0 → H wy = none → H wdx = none → H cs = none → H ss = none → (∀ a o, H a = some o → H' a = some o) → Q (.ref wy) H') : waX G (lv + 2) (.ref 146) [.int n] H Q := by
 refine wiW N_Ways new_Ways fun a dx ha hdx hne => ?_
 have m : IsInit := .mk
 generalize hH1 : upd (upd H dx (.fields N_Ways [])) a (.inst 146 dx) = H1
 have i1 : H1 a = some (.inst 146 dx) := by rw [← hH1]; exact uS _ _ _
 have i2 : H1 dx = some (.fields N_Ways []) := by rw [← hH1]; exact (lkn (Ne.symm hne) (uS _ _ _))
 have i3 : ∀ b o, H b = some o → H1 b = some o := fun b o e => by rw [← hH1]; exact lkn (nW e ha) (lkn (nW e hdx) e)
 have i4 : ∀ b, H1 b = none → H b = none := fun b e => by
  cases q : H b with
  | none => rfl
  | some o => rw [i3 b o q] at e; cases e
 refine' waY (ps := ["self", "size"]) (extra := []) ?ho (ok_Ways_init _) rfl rfl ?hb ?_
 case ho => k_is
 case hb => exact fun s vs _ r => bnd2 (fun _ _  => BindsTo.of_eq rfl) r
 intro c hN hG hK hc
 subst hc
 refine (let r0 : Loc := [some (.ref a), some (.int n)]; (?_ : WSs c r0 _ _ _))
 refine goS hN hG ?_
 refine St.of ?_
 refine NAc i1 i2 (zaZ rfl) rfl rfl ?_
 refine wbW ?_
 refine ⟨by decide, fun x hx => ?_⟩
 refine wbW ?_
 refine ⟨by decide, fun y hy => ?_⟩
 refine St.of ?_
 refine whV (uS _ _ _) (by simp) (by exact J10 (nat_lit 0x61a8019000f4240b) rfl) (by exact J10 (nat_lit 0x61a000f4240b80101a00015f90b01) rfl hn) (by simp; exact J10 (nat_lit 0x1a000f4240b0101a00015f90b01) rfl hn) fun z hz => ?_
 have nxy : x ≠ y := (nnx hy ⟨_, (uS _ _ _)⟩)
 have nxz : x ≠ z := nW (lkn nxy (uS _ _ _)) hz
 refine St.of ?_
 refine BO_addlist (vs := [.int 0]) (ws := (List.replicate ((n : Int).toNat) [V.none]).flatten) (lkn nxz (lkn nxy (uS _ _ _))) (uS _ _ _) (by simp only [List.length_flatten, List.map_replicate, List.length_cons, List.length_nil, List.sum_replicate_nat, Int.toNat_natCast]; omega) fun cs hcs => ?_
 refine St.of ?_
 refine NAc (lkn (nnx hcs ⟨_, (lkn (nnx hz ⟨_, (lkn (nnx hy ⟨_, (lkn (nnx hx ⟨_, (lkn hne ‹_›)⟩) (lkn hne ‹_›))⟩) (lkn (nnx hx ⟨_, (lkn hne ‹_›)⟩) (lkn hne ‹_›)))⟩) (lkn (nnx hy ⟨_, (lkn (nnx hx ⟨_, (lkn hne ‹_›)⟩) (lkn hne ‹_›))⟩) (lkn (nnx hx ⟨_, (lkn hne ‹_›)⟩) (lkn hne ‹_›))))⟩) (lkn (nnx hz ⟨_, (lkn (nnx hy ⟨_, (lkn (nnx hx ⟨_, (lkn hne ‹_›)⟩) (lkn hne ‹_›))⟩) (lkn (nnx hx ⟨_, (lkn hne ‹_›)⟩) (lkn hne ‹_›)))⟩) (lkn (nnx hy ⟨_, (lkn (nnx hx ⟨_, (lkn hne ‹_›)⟩) (lkn hne ‹_›))⟩) (lkn (nnx hx ⟨_, (lkn hne ‹_›)⟩) (lkn hne i1))))) (lkn (nnx hcs ⟨_, (lkn (nnx hz ⟨_, (lkn (nnx hy ⟨_, (lkn (nnx hx ⟨_, (uS _ _ _)⟩) (uS _ _ _))⟩) (lkn (nnx hx ⟨_, (uS _ _ _)⟩) (uS _ _ _)))⟩) (lkn (nnx hy ⟨_, (lkn (nnx hx ⟨_, (uS _ _ _)⟩) (uS _ _ _))⟩) (lkn (nnx hx ⟨_, (uS _ _ _)⟩) (uS _ _ _))))⟩) (lkn (nnx hz ⟨_, (lkn (nnx hy ⟨_, (lkn (nnx hx ⟨_, (uS _ _ _)⟩) (uS _ _ _))⟩) (lkn (nnx hx ⟨_, (uS _ _ _)⟩) (uS _ _ _)))⟩) (lkn (nnx hy ⟨_, (lkn (nnx hx ⟨_, (uS _ _ _)⟩) (uS _ _ _))⟩) (lkn (nnx hx ⟨_, (uS _ _ _)⟩) (uS _ _ _))))) (zaZ rfl) rfl rfl ?_
 refine wbW ?_
 refine ⟨by decide, fun u hu => ?_⟩
 refine St.of ?_
 refine whV (uS _ _ _) (by simp) (by exact J10 (nat_lit 0x61a4128019000f4240b) rfl) (by exact J10 (nat_lit 0x61a000f4240b41280101a00015f90b01) rfl hn) (by simp; exact J10 (nat_lit 0x1a000f423fb0101a00015f90b01) rfl hn) fun ss hss => ?_
 refine St.of ?_
 refine NAc (lkn (nnx hss ⟨_, (lkn (nnx hu ⟨_, (lkn hne (lkn (nnx hcs ⟨_, (lkn (nnx hz ⟨_, (lkn (nnx hy ⟨_, (lkn (nnx hx ⟨_, (lkn hne ‹_›)⟩) (lkn hne ‹_›))⟩) (lkn (nnx hx ⟨_, (lkn hne ‹_›)⟩) (lkn hne ‹_›)))⟩) (lkn (nnx hy ⟨_, (lkn (nnx hx ⟨_, (lkn hne ‹_›)⟩) (lkn hne ‹_›))⟩) (lkn (nnx hx ⟨_, (lkn hne ‹_›)⟩) (lkn hne ‹_›))))⟩) (lkn (nnx hz ⟨_, (lkn (nnx hy ⟨_, (lkn (nnx hx ⟨_, (lkn hne ‹_›)⟩) (lkn hne ‹_›))⟩) (lkn (nnx hx ⟨_, (lkn hne ‹_›)⟩) (lkn hne ‹_›)))⟩) (lkn (nnx hy ⟨_, (lkn (nnx hx ⟨_, (lkn hne ‹_›)⟩) (lkn hne ‹_›))⟩) (lkn (nnx hx ⟨_, (lkn hne ‹_›)⟩) (lkn hne ‹_›))))))⟩) (lkn hne (lkn (nnx hcs ⟨_, (lkn (nnx hz ⟨_, (lkn (nnx hy ⟨_, (lkn (nnx hx ⟨_, (lkn hne ‹_›)⟩) (lkn hne ‹_›))⟩) (lkn (nnx hx ⟨_, (lkn hne ‹_›)⟩) (lkn hne ‹_›)))⟩) (lkn (nnx hy ⟨_, (lkn (nnx hx ⟨_, (lkn hne ‹_›)⟩) (lkn hne ‹_›))⟩) (lkn (nnx hx ⟨_, (lkn hne ‹_›)⟩) (lkn hne ‹_›))))⟩) (lkn (nnx hz ⟨_, (lkn (nnx hy ⟨_, (lkn (nnx hx ⟨_, (lkn hne ‹_›)⟩) (lkn hne ‹_›))⟩) (lkn (nnx hx ⟨_, (lkn hne ‹_›)⟩) (lkn hne ‹_›)))⟩) (lkn (nnx hy ⟨_, (lkn (nnx hx ⟨_, (lkn hne ‹_›)⟩) (lkn hne ‹_›))⟩) (lkn (nnx hx ⟨_, (lkn hne ‹_›)⟩) (lkn hne ‹_›)))))))⟩) (lkn (nnx hu ⟨_, (lkn hne (lkn (nnx hcs ⟨_, (lkn (nnx hz ⟨_, (lkn (nnx hy ⟨_, (lkn (nnx hx ⟨_, (lkn hne ‹_›)⟩) (lkn hne ‹_›))⟩) (lkn (nnx hx ⟨_, (lkn hne ‹_›)⟩) (lkn hne ‹_›)))⟩) (lkn (nnx hy ⟨_, (lkn (nnx hx ⟨_, (lkn hne ‹_›)⟩) (lkn hne ‹_›))⟩) (lkn (nnx hx ⟨_, (lkn hne ‹_›)⟩) (lkn hne ‹_›))))⟩) (lkn (nnx hz ⟨_, (lkn (nnx hy ⟨_, (lkn (nnx hx ⟨_, (lkn hne ‹_›)⟩) (lkn hne ‹_›))⟩) (lkn (nnx hx ⟨_, (lkn hne ‹_›)⟩) (lkn hne ‹_›)))⟩) (lkn (nnx hy ⟨_, (lkn (nnx hx ⟨_, (lkn hne ‹_›)⟩) (lkn hne ‹_›))⟩) (lkn (nnx hx ⟨_, (lkn hne ‹_›)⟩) (lkn hne ‹_›))))))⟩) (lkn hne (lkn (nnx hcs ⟨_, (lkn (nnx hz ⟨_, (lkn (nnx hy ⟨_, (lkn (nnx hx ⟨_, (lkn hne ‹_›)⟩) (lkn hne ‹_›))⟩) (lkn (nnx hx ⟨_, (lkn hne ‹_›)⟩) (lkn hne ‹_›)))⟩) (lkn (nnx hy ⟨_, (lkn (nnx hx ⟨_, (lkn hne ‹_›)⟩) (lkn hne ‹_›))⟩) (lkn (nnx hx ⟨_, (lkn hne ‹_›)⟩) (lkn hne ‹_›))))⟩) (lkn (nnx hz ⟨_, (lkn (nnx hy ⟨_, (lkn (nnx hx ⟨_, (lkn hne ‹_›)⟩) (lkn hne ‹_›))⟩) (lkn (nnx hx ⟨_, (lkn hne ‹_›)⟩) (lkn hne ‹_›)))⟩) (lkn (nnx hy ⟨_, (lkn (nnx hx ⟨_, (lkn hne ‹_›)⟩) (lkn hne ‹_›))⟩) (lkn (nnx hx ⟨_, (lkn hne ‹_›)⟩) (lkn hne i1)))))))) (lkn (nnx hss ⟨_, (lkn (nnx hu ⟨_, (uS _ _ _)⟩) (uS _ _ _))⟩) (lkn (nnx hu ⟨_, (uS _ _ _)⟩) (uS _ _ _))) (zaZ rfl) rfl rfl ?_
 refine zaV ?_
 refine zcY ?_
 refine nonq ?_
 have hcs1 : H1 cs = none := zaQ (zaQ (zaQ (zaQ hcs)))
 have hss1 : H1 ss = none := zaQ (zaQ (zaQ (zaQ (zaQ (zaQ (zaQ hss))))))
 have ncd : cs ≠ dx := Ne.symm (nW i2 hcs1)
 have nsd : ss ≠ dx := Ne.symm (nW i2 hss1)
 have nus : u ≠ ss := nW (uS _ _ _) hss
 have ncu : cs ≠ u := nW (lkn ncd (uS _ _ _)) hu
 have ncs : cs ≠ ss := by
  refine nW (H := upd (upd (upd (upd (upd (upd (upd H1 dx (O.fields N_Ways [V.int n])) x (O.list [V.int 0])) y (O.list [V.none])) z (O.list (List.replicate ((n : Int).toNat) [V.none]).flatten)) cs (O.list (V.int 0 :: (List.replicate ((n : Int).toNat) [V.none]).flatten))) dx (O.fields N_Ways [V.int n, V.ref cs])) u (O.list [V.none])) (o := O.list (V.int 0 :: (List.replicate ((n : Int).toNat) [V.none]).flatten)) ?_ hss
  exact lkn ncu (lkn ncd (uS _ _ _))
 have nxd : x ≠ dx := Ne.symm (nW (uS _ _ _) hx)
 refine h _ a dx cs ss ⟨?_, uS _ _ _, ?_, ?_, ncs⟩ ha hdx (i4 _ hcs1) (i4 _ hss1) fun b o e => ?_
 ·exact (lkn hne (lkn (nnx hss1 ⟨_, ‹_›⟩) (lkn (nnx hu ⟨_, (lkn hne (lkn (nnx hcs1 ⟨_, ‹_›⟩) (lkn (nnx hz ⟨_, (lkn (nnx hy ⟨_, (lkn (nnx hx ⟨_, (lkn hne ‹_›)⟩) (lkn hne ‹_›))⟩) (lkn (nnx hx ⟨_, (lkn hne ‹_›)⟩) (lkn hne ‹_›)))⟩) (lkn (nnx hy ⟨_, (lkn (nnx hx ⟨_, (lkn hne ‹_›)⟩) (lkn hne ‹_›))⟩) (lkn (nnx hx ⟨_, (lkn hne ‹_›)⟩) (lkn hne ‹_›))))))⟩) (lkn hne (lkn (nnx hcs1 ⟨_, ‹_›⟩) (lkn (nnx hz ⟨_, (lkn (nnx hy ⟨_, (lkn (nnx hx ⟨_, (lkn hne ‹_›)⟩) (lkn hne ‹_›))⟩) (lkn (nnx hx ⟨_, (lkn hne ‹_›)⟩) (lkn hne ‹_›)))⟩) (lkn (nnx hy ⟨_, (lkn (nnx hx ⟨_, (lkn hne ‹_›)⟩) (lkn hne ‹_›))⟩) (lkn (nnx hx ⟨_, (lkn hne ‹_›)⟩) (lkn hne i1)))))))))
 ·rw [← wy0_C]; show _ = some (O.list ([V.int 0] ++ _)); exact (lkn ncd (lkn ncs (lkn ncu (lkn ncd (uS _ _ _)))))
 ·rw [← wy0_S]; exact (lkn nsd (uS _ _ _))
 ·have eb := i3 b o e
  have := nW e hdx
  have b1 : b ≠ x := nW (lkn this eb) hx
  have b2 : b ≠ y := nW (lkn b1 (lkn this eb)) hy
  have b3 : b ≠ z := nW (lkn b2 (lkn b1 (lkn this eb))) hz
  have b4 : b ≠ cs := nW eb hcs1
  have b6 : b ≠ ss := nW eb hss1
  have b5 : b ≠ u := nW (lkn this (lkn b4 (lkn b3 (lkn b2 (lkn b1 (lkn this eb)))))) hu
  exact (lkn this (lkn b6 (lkn b5 (lkn this (lkn b4 (lkn b3 (lkn b2 (lkn b1 (lkn this eb)))))))))
set_option tactic.hygienic false
theorem offer_ok {G : Gd} {lv : Nat} {wy wdx cs ss : Addr} {n at_ : Nat} {y : Wy} {s : Nat × Nat} {cost u : Int} {H : AH} {Q : V → AH → Prop} (A : WaysAt H wy wdx cs ss n y) (hn : n ≤ 90000) (ha : at_ ≤ n) (hC : y.C at_ = some u)
 (h : ∀ H', WaysAt H' wy wdx cs ss n (offer n y at_ s cost) → (∀ a, a ≠ cs → a ≠ ss → H' a = H a) → Q .none H') : waX G (lv + 2) (.ref 136) [.ref wy, .int at_, nV s, .int cost] H Q := by
 obtain ⟨s1, s2⟩ := s
 have i1 := A.inst
 have i2 := A.fl
 have i3 := A.costs
 have i4 := A.steps
 have n0 := A.ne
 have n1 : wdx ≠ cs := zbW i2 i3 (fun e => by cases e)
 have n2 : wdx ≠ ss := zbW i2 i4 (fun e => by cases e)
 have n3 : wy ≠ cs := zbW i1 i3 (fun e => by cases e)
 have n4 : wy ≠ ss := zbW i1 i4 (fun e => by cases e)
 have m1 : ((List.range (n + 1)).map fun j => oV (y.C j)).length = n + 1 := by simp
 have m2 : ((List.range (n + 1)).map fun j => sV (y.S j)).length = n + 1 := by simp
 have x1 : ((List.range (n + 1)).map fun j => oV (y.C j))[((at_ : Nat) : Int).toNat]? = some (V.int u) := by rw [range_at (by exact J20 (nat_lit 0x11a412110101a1101) rfl ha), hC]; rfl
 have et : (at_ : Int) + ((sz (s1, s2) : Nat) : Int) = ((at_ + sz (s1, s2) : Nat) : Int) := by exact Int.le_antisymm (J20 (nat_lit 0x61a8411014811801) rfl) (J20 (nat_lit 0x61a4811801841101) rfl)
 have sp := whU (s1, s2)
 show waX G (lv + 2) (.ref 136) [.ref wy, .int at_, .pr s1 s2, .int cost] H Q
 refine' waY (ps := ["self", "at", "step", "cost"]) (extra := []) ?ho (ok_Ways_offer _) rfl rfl ?hb ?_
 case ho => k_is
 case hb => exact fun s vs _ r => bnd4 (fun _ _ _ _  => BindsTo.of_eq rfl) r
 intro c hN hG hK hc
 subst hc
 refine (let r0 : Loc := [some (.ref wy), some (.int at_), some (.pr s1 s2), some (.int cost), none, none]; (?_ : WSs c r0 _ _ _))
 refine goS hN hG ?_
 refine St.of ?_
 refine waZ hK (by exact J10 (nat_lit 0x1a4120141201) rfl) (stepsize_ok (lv := lv) ?_)
 rw [sz_int (b := s2)]
 refine St.of ?_
 refine AC i1 i2 (zaZ rfl) rfl ?_
 refine waV ?_
 rw [et]
 have eo : offer n y at_ (s1, s2) cost = if n < at_ + sz (s1, s2) then y else if better (y.C (at_ + sz (s1, s2))) (u + cost) then ⟨updN y.C (at_ + sz (s1, s2)) (some (u + cost)), updN y.S (at_ + sz (s1, s2)) (some (s1, s2))⟩ else y := by
  unfold offer; rw [hC]; rfl
 generalize sz (s1, s2) = z at *
 refine zbY (fun h0 => ?_) (fun h0 => ?_)
 ·skip
  rw [if_pos (by exact J30 (nat_lit 0x11a421110171a842111801) rfl h0)] at eo
  exact h H (by rw [eo]; exact A) fun _ _ _ => rfl
 ·rw [if_neg (by exact fun hq => Nat.lt_irrefl 0 (J30 (nat_lit 0x10a0202b1a84211180111a4211101) rfl h0 hq))] at eo
  have x2 : ((List.range (n + 1)).map fun j => oV (y.C j))[((at_ + z : Nat) : Int).toNat]? = some (oV (y.C (at_ + z))) := range_at (by exact J30 (nat_lit 0x11a4122141101b1a841101821) rfl h0)
  have fin : better (y.C (at_ + z)) (u + cost) = true → Q .none (upd (upd H cs (.list (((List.range (n + 1)).map fun j => oV (y.C j)).set ((at_ + z : Nat) : Int).toNat (.int (u + cost))))) ss (.list (((List.range (n + 1)).map fun j => sV (y.S j)).set ((at_ + z : Nat) : Int).toNat (.pr s1 s2)))) := fun hb => by
   rw [if_pos hb] at eo
   refine h _ (eo ▸ ⟨(lkn n4 (lkn n3 i1)), (lkn n2 (lkn n1 i2)), ?_, ?_, n0⟩) fun a a1 a2 => by rw [zbX _ _ a2, zbX _ _ a1]
   ·rw [zbX _ _ n0, uS, Int.toNat_natCast]
    congr 2
    refine range_set ?_ fun j hj => ?_
    ·show oV (updN _ _ _ _) = _; rw [wfU]; rfl
    ·show oV (updN _ _ _ _) = _; rw [wdU _ _ hj]
   ·rw [uS, Int.toNat_natCast]
    congr 2
    refine range_set ?_ fun j hj => ?_
    ·show sV (updN _ _ _ _) = _; rw [wfU]; rfl
    ·show sV (updN _ _ _ _) = _; rw [wdU _ _ hj]
  cases hc : y.C (at_ + z) with
  | none =>
   rw [hc] at x2 fin
   have x2 : ((List.range (n + 1)).map fun j => oV (y.C j))[((at_ + z : Nat) : Int).toNat]? = some V.none := x2
   refine zaV ?_
   refine zaY ?_
   refine St.of ?_
   refine AC i1 i2 (zaZ rfl) rfl ?_
   refine St.of ?_
   refine zaU i3 (by exact J10 (nat_lit 0x61a80102) rfl) (by exact J20 (nat_lit 0x71a3b9aca00b80101a00015f90b1101a1101) rfl hn ha) x1 ?_
   refine St.of ?_
   refine AC i1 i2 (zaZ rfl) rfl ?_
   refine St.of ?_
   refine zaU i3 (by exact J20 (nat_lit 0x61a8411010201a1112) rfl sp) (by exact J30 (nat_lit 0x71a3b9aca00b84110101a00015f90b21b1a841101821) rfl hn h0) x2 ?_
   refine St.of ?_
   refine AC i1 i2 (zaZ rfl) rfl ?_
   refine St.of ?_
   refine SI_list i3 (by exact J20 (nat_lit 0x61a8411010201a1112) rfl sp) (by exact J40 (nat_lit 0x71a82184110131a4123121b1a841101831) rfl m1 h0) (by exact J30 (nat_lit 0x71a3b9aca00b84110101a00015f90b21b1a841101821) rfl hn h0) ?_
   refine St.of ?_
   refine AC (lkn n3 i1) (lkn n1 i2) (zaZ rfl) rfl ?_
   refine St.of ?_
   refine SI_list (lkn (Ne.symm n0) i4) (by exact J20 (nat_lit 0x61a8411010201a1112) rfl sp) (by exact J40 (nat_lit 0x71a82184110131a4123121b1a841101831) rfl m2 h0) (by exact J30 (nat_lit 0x71a3b9aca00b84110101a00015f90b21b1a841101821) rfl hn h0) ?_
   refine zaV ?_
   refine zaY ?_
   refine zaV ?_
   refine zcY ?_
   exact fin rfl
  | some v =>
   rw [hc] at x2 fin eo
   have x2 : ((List.range (n + 1)).map fun j => oV (y.C j))[((at_ + z : Nat) : Int).toNat]? = some (V.int v) := x2
   refine zaV ?_
   refine zaY ?_
   refine St.of ?_
   refine AC i1 i2 (zaZ rfl) rfl ?_
   refine St.of ?_
   refine zaU i3 (by exact J10 (nat_lit 0x61a80102) rfl) (by exact J20 (nat_lit 0x71a3b9aca00b80101a00015f90b1101a1101) rfl hn ha) x1 ?_
   refine St.of ?_
   refine AC i1 i2 (zaZ rfl) rfl ?_
   refine St.of ?_
   refine zaU i3 (by exact J20 (nat_lit 0x61a8411010201a1112) rfl sp) (by exact J30 (nat_lit 0x71a3b9aca00b84110101a00015f90b21b1a841101821) rfl hn h0) x2 ?_
   refine St.of ?_
   refine AC i1 i2 (zaZ rfl) rfl ?_
   refine St.of ?_
   refine zaU i3 (by exact J20 (nat_lit 0x61a8411010201a1112) rfl sp) (by exact J30 (nat_lit 0x71a3b9aca00b84110101a00015f90b21b1a841101821) rfl hn h0) x2 ?_
   refine waV ?_
   refine zbY (fun h1 => ?_) (fun h1 => ?_)
   ·refine ite_tt ?_
    refine St.of ?_
    refine AC i1 i2 (zaZ rfl) rfl ?_
    refine St.of ?_
    refine SI_list i3 (by exact J20 (nat_lit 0x61a8411010201a1112) rfl sp) (by exact J40 (nat_lit 0x71a82184110131a4123121b1a841101831) rfl m1 h0) (by exact J30 (nat_lit 0x71a3b9aca00b84110101a00015f90b21b1a841101821) rfl hn h0) ?_
    refine St.of ?_
    refine AC (lkn n3 i1) (lkn n1 i2) (zaZ rfl) rfl ?_
    refine St.of ?_
    refine SI_list (lkn (Ne.symm n0) i4) (by exact J20 (nat_lit 0x61a8411010201a1112) rfl sp) (by exact J40 (nat_lit 0x71a82184110131a4123121b1a841101831) rfl m2 h0) (by exact J30 (nat_lit 0x71a3b9aca00b84110101a00015f90b21b1a841101821) rfl hn h0) ?_
    refine zaV ?_
    refine zaY ?_
    refine zaV ?_
    refine zcY ?_
    exact fin (by unfold better; simpa using h1)
   ·skip
    rw [if_neg (by unfold better; simpa using h1)] at eo
    exact h H (by rw [eo]; exact A) fun _ _ _ => rfl
theorem told_ok {G : Gd} {lv : Nat} {wy wdx cs ss : Addr} {n : Nat} {y : Wy} {H : AH} {Q : V → AH → Prop} (A : WaysAt H wy wdx cs ss n y) (hn : n ≤ 90000) (hS : ∀ j, 1 ≤ j → j ≤ n → ∃ s, y.S j = some s ∧ sz s ≤ j)
 (h : ∀ H' l, H l = none → H' l = some (.list ((back y.S n n).map nV)) → (∀ a o, H a = some o → H' a = some o) → Q (.ref l) H') : waX G (lv + 2) (.ref 143) [.ref wy] H Q := by
 have i1 := A.inst
 have i2 := A.fl
 refine' waY (ps := ["self"]) (extra := []) ?ho (ok_Ways_told _) rfl rfl ?hb ?_
 case ho => k_is
 case hb => exact fun s vs _ r => bnd1 (fun _  => BindsTo.of_eq rfl) r
 intro c hN hG hK hc
 subst hc
 refine (let r0 : Loc := [some (.ref wy), none, none]; (?_ : WSs c r0 _ _ _))
 refine goS hN hG ?_
 refine wbW ?_
 refine ⟨by decide, fun l hl => ?_⟩
 have g1 : ∀ (X : O) a o, H a = some o → upd H l X a = some o := fun X a o e => lkn (nW e hl) e
 have A0 := A.frame (g1 (.list []))
 have q1 := A0.inst
 have q2 := A0.fl
 refine St.of ?_
 refine AC q1 q2 (zaZ rfl) rfl ?_
 refine St.of ?_
 refine whY (fun m r' H' => ∃ (j : Nat) (fs : List (Nat × Nat)), m = j ∧ j ≤ n ∧ back y.S j j ++ fs.reverse = back y.S n n ∧ fs.length + j ≤ n ∧ H' = upd H l (.list (fs.map nV)) ∧ r' = [some (.ref wy), some (.ref l), some (.int j)]) _ ⟨n, [], rfl, by exact J10 (nat_lit 0x1a0101) rfl, by simp, by simp, rfl, rfl⟩ ?_
 rintro m r' H' ⟨j, fs, rfl, hj, hfs, hlen, rfl, rfl⟩
 have A1 := A.frame (g1 (.list (fs.map nV)))
 have w1 := A1.inst
 have w2 := A1.fl
 have w3 := A1.steps
 have wl : (fs.map nV).length = fs.length := by simp
 refine goT hN hG ?_
 refine waV ?_
 refine zbY (fun h0 => ?_) (fun h0 => ?_)
 ·obtain ⟨⟨s1, s2⟩, hs, hsz⟩ := hS m (by exact J10 (nat_lit 0x1a011271a80102) rfl h0) hj
  have sp := whU (s1, s2)
  have x1 : ((List.range (n + 1)).map fun j => sV (y.S j))[((m : Nat) : Int).toNat]? = some (V.pr s1 s2) := by rw [range_at (by exact J20 (nat_lit 0x11a412110101a1101) rfl hj), hs]; rfl
  have A2 := A.frame (g1 (.list (fs.map nV ++ [V.pr s1 s2])))
  have v1 := A2.inst
  have v2 := A2.fl
  have v3 := A2.steps
  refine goS hN hG ?_
  refine St.of ?_
  refine zcU (uS _ _ _) ?_
  refine St.of ?_
  refine AC w1 w2 (zaZ rfl) rfl ?_
  refine St.of ?_
  refine zaU w3 (by exact J10 (nat_lit 0x61a8010271a80102) rfl h0) (by exact J20 (nat_lit 0x71a3b9aca00b80101a00015f90b1101a1101) rfl hn hj) x1 ?_
  refine St.of ?_
  refine wcX (uS _ _ _) (by exact J40 (nat_lit 0x1a000186a0b0101a00015f90b1101a114312121a2101) rfl hn hlen wl) ?_
  refine St.of ?_
  refine AC (lkn (nnx hl ⟨_, ‹_›⟩) w1) (lkn (nnx hl ⟨_, ‹_›⟩) w2) (zaZ rfl) rfl ?_
  refine St.of ?_
  rw [wcU]
  refine zaU v3 (by exact J10 (nat_lit 0x61a8010271a80102) rfl h0) (by exact J20 (nat_lit 0x71a3b9aca00b80101a00015f90b1101a1101) rfl hn hj) x1 ?_
  refine St.of ?_
  refine waZ hK (by exact J10 (nat_lit 0x1a4120141201) rfl) (stepsize_ok (lv := lv) ?_)
  rw [sz_int (b := s2)]
  have e1 : (m : Int) - ((sz (s1, s2) : Nat) : Int) = ((m - sz (s1, s2) : Nat) : Int) := by exact Int.le_antisymm (J30 (nat_lit 0x61a821581180101a4112101) rfl (sbA _ _)) (J30 (nat_lit 0x61a582181180121a1142101) rfl (Nat.sub_add_cancel (J20 (nat_lit 0x1a110101a1101) rfl hsz)))
  refine ⟨_, ?_, m - sz (s1, s2), fs ++ [(s1, s2)], rfl, by exact J40 (nat_lit 0x1a110101a112101a311291a8015831821) rfl hj sp e1, ?_, ?_, by rw [List.map_append]; rfl, by rw [← e1]; rfl⟩
  ·exact J30 (nat_lit 0x11a110101a211291a8015821811) rfl sp e1
  ·rw [← hfs]
   obtain ⟨m', rfl⟩ : ∃ m', m = m' + 1 := ⟨m - 1, by exact Nat.le_antisymm (J20 (nat_lit 0x1a412110101a4121101) rfl (sbA _ _)) (J20 (nat_lit 0x1a114120121a1141201) rfl (Nat.sub_add_cancel (J10 (nat_lit 0x1a011271a80102) rfl h0)))⟩
   have : back y.S (m' + 1) (m' + 1) = back y.S m' (m' + 1 - sz (s1, s2)) ++ [(s1, s2)] := by
    show (if m' + 1 = 0 then _ else _) = _
    rw [if_neg (by exact fun hq => Nat.lt_irrefl 0 (J10 (nat_lit 0x10a020221a0241201) rfl hq)), hs]; rfl
   rw [this, back_fuel (f := m') (g := m' + 1 - sz (s1, s2)) (by exact J30 (nat_lit 0x1a110101a211291a8015821841211) rfl sp e1) (by exact J10 (nat_lit 0x1a0101) rfl), List.reverse_append, List.append_assoc]; rfl
  ·rw [List.length_append]; simp; exact J50 (nat_lit 0x1a214114120101a214310101a411291a8115841831) rfl hlen sp e1
 ·have : m = 0 := by exact Nat.le_antisymm (J10 (nat_lit 0x1a0201b1a80102) rfl h0) (J10 (nat_lit 0x1a0102) rfl)
  subst this
  refine zaY ?_
  refine St.of ?_
  refine SL_rev (uS _ _ _) (by unfold szL; exact J30 (nat_lit 0x1a01000000b0101a00015f90b1121a210101a1140221) rfl hn wl hlen) fun l2 hl2 => ?_
  refine zcX ?_
  refine h _ l2 (zaQ hl2) ?_ fun a o e => ?_
  ·rw [uS, ← hfs, ← List.map_reverse]; rfl
  ·have := g1 (.list (fs.map nV)) a o e
   exact lkn (nW this hl2) this
set_option tactic.hygienic false
theorem offer_C {n i : Nat} {y : Wy} {s : Nat × Nat} {cost : Int} : (offer n y i s cost).C i = y.C i := by
 have := whU s
 unfold offer
 split
 ·rfl
 ·split
  ·exact wdU _ _ (by exact fun hq => Nat.lt_irrefl 0 (J20 (nat_lit 0x10a020201a011231a4011111) rfl this hq))
  ·rfl
theorem offerAll_C {n i : Nat} {cost : Nat × Nat → Int} : ∀ {l : List (Nat × Nat)} {y : Wy}, (offerAll n cost i y l).C i = y.C i
 | [], _ => rfl
 | s :: l, y => (offerAll_C (l := l) (y := offer n y i s (cost s))).trans offer_C
theorem offerAll_app {n i : Nat} {cost : Nat × Nat → Int} {y : Wy} {a b : List (Nat × Nat)} : offerAll n cost i y (a ++ b) = offerAll n cost i (offerAll n cost i y a) b := List.foldl_append
theorem can_le {o : Nat → Nat} {n w most p : Nat} {x : Nat × Nat} (h : x ∈ can o n w most p 1) : 2 ≤ x.1 ∧ x.1 ≤ most ∧ 1 ≤ x.2 ∧ p + x.1 ≤ n := by
 have h2 := can_two x h
 rcases can_step (by exact J00 (nat_lit 0x1a1212) rfl) h x.1 h2 (Nat.le_refl _) with ⟨e, _⟩ | ⟨_, a, b, _, _, d, _⟩
 ·have e : x.1 = 0 := e
  exact ⟨J10 (nat_lit 0xa012201a012221a0201) rfl h2 ‹_›, ⟨J20 (nat_lit 0xa110101a012221a0201) rfl h2 ‹_›, ⟨J20 (nat_lit 0xa011201a112221a0211) rfl h2 ‹_›, J30 (nat_lit 0xa214110101a112221a0211) rfl h2 ‹_›⟩⟩⟩
 ·exact ⟨h2, a, b, d⟩
theorem parts_at {k d j : Nat} (h : j < k - 1) : (wkV (k, d))[j]? = some (j + 2, d) := by
 unfold wkV
 rw [List.getElem?_map, List.getElem?_range h]; rfl
theorem parts_len {k d : Nat} : (wkV (k, d)).length = k - 1 := by simp [wkV]
theorem WaysAt.ext {H H' : AH} {wy wdx cs ss : Addr} {n : Nat} {y : Wy} (A : WaysAt H wy wdx cs ss n y) (g : ∀ a ∈ [wy, wdx, cs, ss], ∀ o, H a = some o → H' a = some o) : WaysAt H' wy wdx cs ss n y :=
 ⟨g _ (wcZ 0 rfl) _ A.inst, g _ (wcZ 1 rfl) _ A.fl, g _ (wcZ 2 rfl) _ A.costs, g _ (wcZ 3 rfl) _ A.steps, A.ne⟩
theorem wcQ.ext {H H' : AH} {tr tdx f : Addr} {T : List UInt8} {w k : Nat} {own : List Addr} (A : wcQ H tr tdx f T w k own) (g : ∀ a ∈ tr :: tdx :: own, H' a = H a) : wcQ H' tr tdx f T w k own :=
 ⟨(g _ (.head _)).trans A.inst, (g _ (.tail _ (.head _))).trans A.fl, A.fin.ext fun a ha => g a (.tail _ (.tail _ ha)), A.n1, A.n2⟩
set_option maxHeartbeats 2000000 in
theorem least_ok {G : Gd} {lv : Nat} {f pr pdx : Addr} {T : List UInt8} {w most : Nat} {p0 p1 p2 : Int} {own : List Addr} {H : AH} {Q : V → AH → Prop} (F : wfV H f T w 0 own) (P : wdZ H pr pdx p0 p1 p2) (hpr : pr ∉ own) (hpd : pdx ∉ own) (hz : T.length ≤ 90000) (hm : 2 ≤ most) (hp0 : 0 ≤ p2) (hp1 : p2 ≤ 1000)
 (h : ∀ H' l, H l = none → H' l = some (.list ((leastF (oc T) T.length w most (wdW p0 p1 p2)).map nV)) → (∀ a o, a ∉ own → H a = some o → H' a = some o) → Q (.ref l) H') : waX G (lv + 9) (.ref 158) [.bytes T, .int 0, .ref f, .int most, .ref pr] H Q := by
 refine' waY (ps := ["octets", "start", "finder", "most", "price", "enough"]) (extra := [.none]) ?ho (ok_least _) rfl rfl (fun s vs X r => ?_) ?_
 case ho => k_is
 ·obtain ⟨v0, v1, v2, v3, v4, rfl⟩ := r.ex5
  exact ⟨[.none], ⟨rfl, trivial⟩, binds_K (show (hd.heap_1 _).In _ from X) rfl (by k_is) rfl rfl rfl⟩
 intro c hN hG hK hc
 subst hc
 refine (let r0 : Loc := [some (.bytes T), some (.int 0), some (.ref f), some (.int most), some (.ref pr), some .none, none, none, none, none, none, none, none, none, none]; (?_ : WSs c r0 _ _ _))
 refine goS hN hG ?_
 refine St.of ?_
 refine waZ hK (by exact J10 (nat_lit 0x1a4820141201) rfl) (checkrange_ok (lv := lv) (by exact J10 (nat_lit 0x1a000186a0b0101a00015f90b01) rfl hz) (by exact J00 (nat_lit 0x61a0202) rfl) (by exact J10 (nat_lit 0x61a80102) rfl) (by exact J10 (nat_lit 0x61a8010201a0122) rfl hm) ?_)
 refine St.of ?_
 refine waZ hK (by exact J10 (nat_lit 0x1a4820142201) rfl) (trailinit_ok (lv := lv) F fun H0 tr tdx A0 htr htdx g0 => ?_)
 refine St.of ?_
 refine wgQ (by exact J10 (nat_lit 0x1a000186a0b0101a00015f90b01) rfl hz) ?_
 refine St.of ?_
 rw [Int.sub_zero]
 refine waZ hK (by exact J10 (nat_lit 0x1a4820142201) rfl) (waysinit_ok (lv := lv) hz fun H1 wy wdx cs ss Y0 hwy hwdx hcs hss g1 => ?_)
 refine St.of ?_
 have nw : ∀ z, H0 z = none → z ∉ tdx :: own := fun z e hb => by
  rcases List.mem_cons.mp hb with e1 | e1
  ·subst e1; rw [A0.fl] at e; cases e
  ·exact A0.fin.new e e1
 have up0 : ∀ z, H0 z = none → H z = none := fun z e => by
  cases q : H z with
  | none => rfl
  | some o => rw [g0 z o q] at e; cases e
 have nt : ∀ z, H0 z = none → z ≠ tr := fun z e q => by subst q; rw [A0.inst] at e; cases e
 have cs1 := nw cs hcs
 have ss1 := nw ss hss
 have trn : ∀ a ∈ tr :: tdx :: own, a ≠ cs ∧ a ≠ ss := fun a ha => by
  rcases List.mem_cons.mp ha with e | e
  ·subst e; exact ⟨Ne.symm (nt cs hcs), Ne.symm (nt ss hss)⟩
  ·exact ⟨fun q => cs1 (q ▸ e), fun q => ss1 (q ▸ e)⟩
 have wyn : ∀ a ∈ [wy, wdx, cs, ss], a ∉ tdx :: own := fun a ha => by
  exact zaW (p := fun a => a ∉ tdx :: own) (nw _ hwy) (zaW (nw _ hwdx) (zaW cs1 (zaW ss1 wgX))) a ha
 have hfn : ∀ a o, H a = some o → a ≠ tdx ∧ a ≠ cs ∧ a ≠ ss := fun a o e => ⟨nW e htdx, nW e (up0 _ hcs), nW e (up0 _ hss)⟩
 generalize hcost : wdW p0 p1 p2 = cost
 have ecl : ∀ a, cost (0, a) = p0 := fun a => by rw [← hcost]; rfl
 have ecm : ∀ l d, 2 ≤ l → cost (l, d) = pmF p1 p2 l d := fun l d hl => by rw [← hcost]; exact cost_match (by exact fun hq => Nat.lt_irrefl 0 (J10 (nat_lit 0x10a020201a012221a0201) rfl hl hq))
 rw [hcost] at h
 have WO : ∀ i, i ≤ T.length → _ := fun i hi => wyTo_ok (n := T.length) (cost := cost) (lit := oc T) (cn := fun p => can (oc T) T.length w most p 1) (i := i) hi
 refine WS_whileC (fun _ _ _ => .ex fun (i : Nat) => .ex fun (x9 : Option V) => .ex fun (x10 : Option V) => .ex fun (x11 : Option V) => .ex fun (x12 : Option V) => .ex fun (x13 : Option V) => .ex fun (x14 : Option V) => .ex fun (k : Nat) => .ex fun (H' : AH) =>
  .hy (i ≤ T.length) fun _ => .hy (k ≤ i) fun _ => .hy (wcQ H' tr tdx f T w k own) fun _ => .hy (WaysAt H' wy wdx cs ss T.length (wyTo T.length cost (oc T) (fun p => can (oc T) T.length w most p 1) i)) fun _ => .hy (∀ a o, a ∉ own → H a = some o → H' a = some o) fun _ =>
  .at (T.length - i) [some (.bytes T), some (.int 0), some (.ref f), some (.int most), some (.ref pr), some .none, some (.ref tr), some (.ref wy), some (.int i), x9, x10, x11, x12, x13, x14] H') _
  (fun P _ _ kk => kk 0 _ _ _ _ _ _ 0 _ (Nat.zero_le _) (Nat.zero_le _) (A0.frame g1) Y0 (fun a o _ e => g1 _ _ (g0 _ _ e))) ?_
 intro JJ jj _ i x9 x10 x11 x12 x13 x14 k H' hi hki A Y g
 refine tel_at ?_
 intro r1
 have w1 := Y.inst
 have w2 := Y.fl
 have w3 := A.inst
 have w4 := A.fl
 refine goT hN hG ?_
 refine St.of ?_
 refine AC w1 w2 (zaZ rfl) rfl ?_
 refine waV ?_
 refine zbY (fun h0 => ?_) (fun h0 => ?_)
 ·have h0 : i < T.length := by exact J20 (nat_lit 0x11a110171a811801) rfl h0
  refine goS hN hG ?_
  refine St.of ?_
  refine MC w3 w4 (zbZ rfl rfl) ?_
  refine St.of ?_
  rw [Int.zero_add]
  refine waZ hK (by exact J10 (nat_lit 0x1a4820148201) rfl) (trailevery_ok (lv := lv) A (by exact J10 (nat_lit 0x1a000186a0b0101a00015f90b01) rfl hz) hki h0 hm fun H2 lm A2 g2 hlm hlmn nlm => ?_)
  have Y2 := Y.ext fun a ha o e => g2 a o (wyn a ha) e
  have P2 : wdZ H2 pr pdx p0 p1 p2 := by
   have q1 := hfn _ _ P.inst
   have q2 := hfn _ _ P.fl
   exact ⟨g2 _ _ (by rw [List.mem_cons, not_or]; exact ⟨q1.1, hpr⟩) (g _ _ hpr P.inst), g2 _ _ (by rw [List.mem_cons, not_or]; exact ⟨q2.1, hpd⟩) (g _ _ hpd P.fl)⟩
  have g3 : ∀ a o, a ∉ own → H a = some o → H2 a = some o := fun a o ha e => g2 a o (by rw [List.mem_cons, not_or]; exact ⟨(hfn a o e).1, ha⟩) (g a o ha e)
  have hcan := fun x => can_le (o := oc T) (n := T.length) (w := w) (most := most) (p := i) (x := x)
  have ewy : wyTo T.length cost (oc T) (fun p => can (oc T) T.length w most p 1) (i + 1) = offerAll T.length cost i (offer T.length (wyTo T.length cost (oc T) (fun p => can (oc T) T.length w most p 1) i) i (0, oc T i) p0) ((can (oc T) T.length w most i 1).flatMap wkV) := by
   rw [← ecl (oc T i)]; rfl
  obtain ⟨u, hu⟩ := Option.isSome_iff_exists.mp ((WO i hi).filled i (Nat.le_refl _) hi)
  generalize wyTo T.length cost (oc T) (fun p => can (oc T) T.length w most p 1) i = yi at *
  generalize can (oc T) T.length w most i 1 = C at *
  have v1 := Y2.inst
  have v2 := Y2.fl
  have v3 := P2.inst
  have v4 := P2.fl
  refine St.of ?_
  refine MC v1 v2 (zbZ rfl rfl) ?_
  refine St.of ?_
  refine wiQ (by exact J10 (nat_lit 0x61a80102) rfl) ‹_› (by exact J10 (nat_lit 0x1a000186a0b0101a00015f90b01) rfl hz) ?_
  refine St.of ?_
  refine MC v3 v4 (zbZ rfl rfl) ?_
  refine St.of ?_
  refine wiQ (by exact J10 (nat_lit 0x61a80102) rfl) ‹_› (by exact J10 (nat_lit 0x1a000186a0b0101a00015f90b01) rfl hz) ?_
  refine St.of ?_
  refine waZ hK (by exact J10 (nat_lit 0x1a4820141201) rfl) (literal_ok (lv := lv) P2 ?_)
  refine St.of ?_
  rw [Int.toNat_natCast]
  have lmc : lm ≠ cs := fun q => by
   subst q
   obtain ⟨_, o, e⟩ : ∃ z : Nat, ∃ o, H' lm = some o := ⟨0, _, Y.costs⟩
   rw [e] at hlmn; cases hlmn
  have lms : lm ≠ ss := fun q => by
   subst q
   obtain ⟨_, o, e⟩ : ∃ z : Nat, ∃ o, H' lm = some o := ⟨0, _, Y.steps⟩
   rw [e] at hlmn; cases hlmn
  refine waZ hK (by exact J10 (nat_lit 0x1a4820142201) rfl) (offer_ok (lv := lv) (s := (0, oc T i)) (cost := p0) Y2 hz hi hu fun H3 Y3 g4 => ?_)
  refine St.of ?_
  have hlm3 : H3 lm = some (.list (C.map nV)) := (g4 _ lmc lms).trans hlm
  have hu3 : (offer T.length yi i (0, oc T i) p0).C i = some u := offer_C.trans hu
  generalize offer T.length yi i (0, oc T i) p0 = y1 at *
  refine WS_forC ?_
  refine goE hN hG ?_
  refine ForC (zcV hlm3) (fun _ _ _ => .ex fun (t : Nat) => .ex fun (x11 : Option V) => .ex fun (x12 : Option V) => .ex fun (x13 : Option V) => .ex fun (x14 : Option V) => .ex fun (H' : AH) =>
   .hy (WaysAt H' wy wdx cs ss T.length (offerAll T.length cost i y1 ((C.take t).flatMap wkV))) fun _ => .hy (∀ a, a ≠ cs → a ≠ ss → H' a = H2 a) fun _ =>
   .at t [some (.bytes T), some (.int 0), some (.ref f), some (.int most), some (.ref pr), some .none, some (.ref tr), some (.ref wy), some (.int i), some (.int i), some (.ref lm), x11, x12, x13, x14] H')
   (fun P _ _ kk => kk 0 _ _ _ _ _ Y3 g4) ?_
  intro J2 j2 _ t y11 y12 y13 y14 H4 Y4 g5
  refine tel_at ⟨fun _ => (g5 _ lmc lms).trans hlm, fun X hX => ?_, fun et => ?_⟩
  ·intro r2
   refine mapAt hX fun ⟨k0, d0⟩ hq => ?_
   obtain ⟨c1, c2, c3, c4⟩ := hcan _ (List.mem_of_getElem? hq)
   have c1 : 2 ≤ k0 := c1
   have c3 : 1 ≤ d0 := c3
   have c4 : i + k0 ≤ T.length := c4
   have e5 : offerAll T.length cost i y1 ((C.take (t + 1)).flatMap wkV) = offerAll T.length cost i (offerAll T.length cost i y1 ((C.take t).flatMap wkV)) (wkV (k0, d0)) := by
    rw [← offerAll_app, List.take_add_one, hq, List.flatMap_append]; simp
   have hu4 : (offerAll T.length cost i y1 ((C.take t).flatMap wkV)).C i = some u := offerAll_C.trans hu3
   generalize offerAll T.length cost i y1 ((C.take t).flatMap wkV) = y2 at *
   refine WA_two 11 12 hN rfl rfl ?_
   have A4 : wcQ H4 tr tdx f T w i own := A2.ext fun a ha => g5 a (trn a ha).1 (trn a ha).2
   have z1 := A4.inst
   have z2 := A4.fl
   refine goS hN hG ?_
   refine St.of ?_
   refine WS_forC ?_
   refine goE hN hG ?_
   refine St.of ?_
   refine AC z1 z2 (zaZ rfl) rfl ?_
   refine St.of ?_
   refine C_range2 ?_
   refine ForC (whX (by exact J00 (nat_lit 0x61a229000f4240b) rfl) (by exact J00 (nat_lit 0x61a000f4240b22) rfl) (by exact J10 (nat_lit 0x61a4128019000f4240b01a0122) rfl ‹_›) (by exact J30 (nat_lit 0x61a000f4240b41280101a00015f90b1101a1140121) rfl hz ‹_›)) (fun _ _ _ => .ex fun (j : Nat) => .ex fun (x13 : Option V) => .ex fun (x14 : Option V) => .ex fun (H' : AH) =>
    .hy (WaysAt H' wy wdx cs ss T.length (offerAll T.length cost i y2 ((wkV (k0, d0)).take j))) fun _ => .hy (∀ a, a ≠ cs → a ≠ ss → H' a = H2 a) fun _ =>
    .at j [some (.bytes T), some (.int 0), some (.ref f), some (.int most), some (.ref pr), some .none, some (.ref tr), some (.ref wy), some (.int i), some (.int i), some (.ref lm), some (.int k0), some (.int d0), x13, x14] H')
    (fun P _ _ kk => kk 0 _ _ _ Y4 g5) ?_
   intro J3 j3 _ j y13 y14 H5 Y5 g6
   refine tel_at ⟨fun _ => trivial, fun X hX => ?_, fun ej => ?_⟩
   ·intro r3
    refine rngAt hX fun hj1 => ?_
    rw [rngLen] at hj1
    have hj1 : j < k0 - 1 := by exact J40 (nat_lit 0x11a110111a210181a52241283182131a3141211) rfl hj1 (Int.toNat_of_nonneg (J10 (nat_lit 0x61a5224128010201a0122) rfl ‹_›)) (Nat.sub_add_cancel (J10 (nat_lit 0x1a011201a0122) rfl ‹_›))
    have ej : (2 : Int) + (j : Int) = ((j + 2 : Nat) : Int) := by exact Int.le_antisymm (J10 (nat_lit 0x61a842201480122) rfl) (J10 (nat_lit 0x61a480122842201) rfl)
    rw [ej]
    have e6 : offerAll T.length cost i y2 ((wkV (k0, d0)).take (j + 1)) = offer T.length (offerAll T.length cost i y2 ((wkV (k0, d0)).take j)) i (j + 2, d0) (cost (j + 2, d0)) := by
     rw [List.take_add_one, parts_at hj1, offerAll_app]; rfl
    have hu5 : (offerAll T.length cost i y2 ((wkV (k0, d0)).take j)).C i = some u := offerAll_C.trans hu4
    generalize offerAll T.length cost i y2 ((wkV (k0, d0)).take j) = y3 at *
    have P5 : wdZ H5 pr pdx p0 p1 p2 := P2.ext (g6 _ (hfn _ _ P.inst).2.1 (hfn _ _ P.inst).2.2) (g6 _ (hfn _ _ P.fl).2.1 (hfn _ _ P.fl).2.2)
    have u1 := Y5.inst
    have u2 := Y5.fl
    have u3 := P5.inst
    have u4 := P5.fl
    refine goA hN rfl ?_
    refine goS hN hG ?_
    refine St.of ?_
    refine MC u1 u2 (zbZ rfl rfl) ?_
    refine St.of ?_
    refine MC u3 u4 (zbZ rfl rfl) ?_
    refine St.of ?_
    refine waZ hK (by exact J10 (nat_lit 0x1a4820142201) rfl) (match_ok (lv := lv) P5 hp0 hp1 (by exact J10 (nat_lit 0x1a4220122) rfl) c3 ?_)
    refine St.of ?_
    rw [← ecm (j + 2) d0 (by exact J10 (nat_lit 0x1a4220122) rfl)]
    refine waZ hK (by exact J10 (nat_lit 0x1a4820142201) rfl) (offer_ok (lv := lv) (s := (j + 2, d0)) (cost := cost (j + 2, d0)) Y5 hz hi hu5 fun H6 Y6 g7 => ?_)
    refine zaV ?_
    exact fun P kk => j3 _ kk (j + 1) _ _ _ (e6 ▸ Y6) (fun a a1 a2 => (g7 a a1 a2).trans (g6 a a1 a2)) rfl
   ·rw [rngLen] at ej
    rw [show j = (wkV (k0, d0)).length by rw [parts_len]; exact Nat.le_antisymm (J40 (nat_lit 0x1a110121a210181a52241283182131a3141211) rfl ej (Int.toNat_of_nonneg (J10 (nat_lit 0x61a5224128010201a0122) rfl ‹_›)) (Nat.sub_add_cancel (J10 (nat_lit 0x1a011201a0122) rfl ‹_›))) (J40 (nat_lit 0x1a110131a211191a52241283182121a3141201) rfl ej (Int.toNat_of_nonneg (J10 (nat_lit 0x61a5224128010201a0122) rfl ‹_›)) (Nat.sub_add_cancel (J10 (nat_lit 0x1a011201a0122) rfl ‹_›))), List.take_length] at Y5
    refine zaY ?_
    refine zaV ?_
    exact fun P kk => j2 _ kk (t + 1) _ _ _ _ _ (e5 ▸ Y5) g6 rfl
  ·rw [et, List.length_map, List.take_length, ← ewy] at Y4
   refine zaY ?_
   exact fun P kk => jj _ kk (i + 1) _ _ _ _ _ _ i _ h0 (Nat.le_succ _) (A2.ext fun a ha => g5 a (trn a ha).1 (trn a ha).2) Y4 (fun a o ha e => (g5 a (hfn a o e).2.1 (hfn a o e).2.2).trans (g3 a o ha e)) (by exact J40 (nat_lit 0x11a110121a314412210131a3142111) rfl (Nat.sub_add_cancel (J20 (nat_lit 0x1a114120171a811801) rfl ‹_›)) (Nat.sub_add_cancel (J20 (nat_lit 0x1a110171a811801) rfl ‹_›)))
 ·have : i = T.length := by exact Nat.le_antisymm (J20 (nat_lit 0x1a110101a1101) rfl hi) (J20 (nat_lit 0x1a1101b1a801811) rfl h0)
  subst this
  have W := WO T.length (Nat.le_refl _)
  refine zaY ?_
  refine St.of ?_
  refine MC w1 w2 (zbZ rfl rfl) ?_
  refine St.of ?_
  refine waZ hK (by exact J10 (nat_lit 0x1a4820142201) rfl) (told_ok (lv := lv) Y hz (fun j h1 h2 => ?_) fun H2 l hl e g2 => ?_)
  ·obtain ⟨v, hv⟩ := Option.isSome_iff_exists.mp (W.filled j h2 h2)
   obtain ⟨s, _, q1, q2, _⟩ := W.from_ j v h1 hv
   exact ⟨s, q1, q2⟩
  ·refine zcX ?_
   have hl0 : l ∉ own := fun hb => by
    obtain ⟨o, e1⟩ := A.fin.there l hb
    rw [e1] at hl; cases hl
   have hlH : H l = none := by
    cases q : H l with
    | none => rfl
    | some o => rw [g l o hl0 q] at hl; cases hl
   exact h H2 l hlH e fun a o ha e1 => g2 _ _ (g a o ha e1)
set_option tactic.hygienic false
theorem finderfor_ok {G : Gd} {lv : Nat} {way : Str} {T : List UInt8} {w : Nat} {H : AH} {Q : V → AH → Prop} (hway : way = "chain" ∨ way = "tree" ∨ way = "layers") (hz : T.length ≤ 90000) (hw : 1 ≤ w)
 (h : ∀ H' f own, wfV H' f T w 0 own → (∀ a ∈ own, H a = none) → (∀ a o, H a = some o → H' a = some o) → Q (.ref f) H') : waX G (lv + 7) (.ref 471) [.str way, .bytes T, .int 2, .int w, .int (T.length + 1)] H Q := by
 refine' waY (ps := ["way", "octets", "least", "window", "chain"]) (extra := []) ?ho (ok_finder_for _) rfl rfl ?hb ?_
 case ho => k_is
 case hb => (intro s vs X r; obtain ⟨v0, v1, v2, v3, v4, rfl⟩ := r.ex5; exact ⟨[], trivial, binds_K (show (hd.heap_1 _).In _ from X) rfl (by k_is) rfl rfl rfl⟩)
 intro c hN hG hK hc
 subst hc
 refine (let r0 : Loc := [some (.str way), some (.bytes T), some (.int 2), some (.int w), some (.int (T.length + 1))]; (?_ : WSs c r0 _ _ _))
 rcases hway with rfl | rfl | rfl
 ·refine goS hN hG ?_
  refine St.of ?_
  refine waZ hK (by exact J10 (nat_lit 0x1a4620144201) rfl) (finderinit_ok (lv := lv) (by exact J10 (nat_lit 0x1a000186a0b0101a00015f90b01) rfl hz) hw fun H' f dx rw dxr la be A n1 n2 n3 n4 n5 n6 g => ?_)
  exact h H' f _ (.chain A) (zaW n1 (zaW n2 (zaW n3 (zaW n4 (zaW n5 (zaW n6 wgX)))))) g
 ·refine goS hN hG ?_
  refine St.of ?_
  refine waZ hK (by exact J10 (nat_lit 0x1a4620144201) rfl) (treeinit_ok (lv := lv) (L := 2) (by exact J10 (nat_lit 0x1a000186a0b0101a00015f90b01) rfl hz) hw (by exact J00 (nat_lit 0x1a2212) rfl) fun H' f dx rw dxr la be ro sm gr A n g => ?_)
  exact h H' f _ (.tree A) n g
 ·refine goS hN hG ?_
  refine St.of ?_
  refine waZ hK (by exact J10 (nat_lit 0x1a4620146201) rfl) (layinit_ok (lv := lv) (by exact J10 (nat_lit 0x1a000186a0b0101a00015f90b01) rfl hz) hw fun H' f dx rs rw2 dx2 la2 be2 rw3 dx3 la3 be3 t tdx trw tdxr tla tbe tro tsm tgr A n g => ?_)
  exact h H' f _ (.lay A) n g
theorem wjU {G : Gd} {lv : Nat} {b : Addr} {T : List UInt8} {w : Nat} {H : AH} {Q : V → AH → Prop} (hb : Box H b) (hz : T.length ≤ 90000) (hw : 1 ≤ w)
 (h : ∀ H' f own, wfV H' f T w 0 own → (∀ a ∈ own, H a = none) → Box H' b → (∀ a o, a ≠ b → H a = some o → H' a = some o) → Q (.ref f) H') : waX G (lv + 8) (.ref 509) [.ref b, .bytes T, .int w] H Q := by
 refine' waY (ps := ["box", "text", "window"]) (extra := []) ?ho (ok_law_finder _) rfl rfl ?hb ?_
 case ho => k_is
 case hb => exact fun s vs _ r => bnd3 (fun _ _ _  => BindsTo.of_eq rfl) r
 intro c hN hG hK hc
 subst hc
 refine (let r0 : Loc := [some (.ref b), some (.bytes T), some (.int w)]; (?_ : WSs c r0 _ _ _))
 refine goS hN hG ?_
 refine wbW ?_
 refine ⟨by decide, fun l hl => ?_⟩
 refine St.of ?_
 obtain ⟨d0, s0, hb0⟩ := hb
 have nbl : b ≠ l := nW hb0 hl
 refine waZ hK (by exact J10 (nat_lit 0x1a4720141201) rfl) (zdZ (lv := lv) ⟨d0, s0, lkn nbl hb0⟩ (by exact J00 (nat_lit 0x71a3202) rfl) (by exact J00 (nat_lit 0x71a000f4240b32) rfl) fun k d s k0 k1 => ?_)
 have hl2 : upd (upd H l (.list [V.str "chain", V.str "tree", V.str "layers"])) b (.list [.int d, .int s]) l = some (.list [V.str "chain", V.str "tree", V.str "layers"]) := lkn (Ne.symm nbl) (uS _ _ _)
 obtain ⟨way, hway, hx⟩ : ∃ way : Str, (way = "chain" ∨ way = "tree" ∨ way = "layers") ∧ [V.str "chain", V.str "tree", V.str "layers"][k.toNat]? = some (V.str way) := by
  have : k = 0 ∨ k = 1 ∨ k = 2 := lti3 (by exact J01 (nat_lit 0x61a010261a0102) rfl k0) (by exact J01 (nat_lit 0x71a320171a3201) rfl k1)
  rcases this with rfl | rfl | rfl
  ·exact ⟨_, .inl rfl, rfl⟩
  ·exact ⟨_, .inr (.inl rfl), rfl⟩
  ·exact ⟨_, .inr (.inr rfl), rfl⟩
 refine St.of ?_
 refine zaU hl2 k0 (by exact J01 (nat_lit 0x71a3b9aca00b0171a3201) rfl k1) hx ?_
 refine St.of ?_
 refine wgQ (by exact J10 (nat_lit 0x1a000186a0b0101a00015f90b01) rfl hz) ?_
 refine St.of ?_
 refine waZ hK (by exact J10 (nat_lit 0x1a4720147201) rfl) (finderfor_ok (lv := lv) hway hz hw fun H' f own F hn g => ?_)
 refine zcX ?_
 refine h H' f own F (fun a ha => ?_) ⟨d, s, g _ _ (uS _ _ _)⟩ fun a o n e => g a o (lkn n (lkn (nW e hl) e))
 exact zaQ (zaQ (hn a ha))
theorem lawbits_ok {G : Gd} {lv v : Nat} {H : AH} {Q : V → AH → Prop} (h : Q (.int (bits v)) H) : waX G (lv + 1) (.ref 523) [.int v] H Q := by
 refine' waY (ps := ["value"]) (extra := []) ?ho (ok_law_bits _) rfl rfl ?hb ?_
 case ho => k_is
 case hb => exact fun s vs _ r => bnd1 (fun _  => BindsTo.of_eq rfl) r
 intro c hN hG hK hc
 subst hc
 refine (let r0 : Loc := [some (.int v), none]; (?_ : WSs c r0 _ _ _))
 refine goS hN hG ?_
 refine St.of ?_
 refine whY (fun m r' H' => ∃ u k : Nat, m = u ∧ k + bits u = bits v ∧ H' = H ∧ r' = [some (.int u), some (.int k)]) _ ⟨v, 0, rfl, by exact Nat.le_antisymm (J10 (nat_lit 0x1a0140102) rfl) (J10 (nat_lit 0x1a4010201) rfl), rfl, rfl⟩ ?_
 rintro m r' H' ⟨u, k, rfl, hk, rfl, rfl⟩
 refine goT hN hG ?_
 refine waV ?_
 refine zbY (fun h0 => ?_) (fun h0 => ?_)
 ·rw [bits_big (by exact J10 (nat_lit 0x11a013271a80132) rfl h0)] at hk
  refine goS hN hG ?_
  refine St.of ?_
  refine BO_div (by exact J00 (nat_lit 0x71a2202) rfl) (by exact J00 (nat_lit 0x71a40000000b22) rfl) ?_
  exact ⟨_, by exact J30 (nat_lit 0x12a110171a8113221a114212601) rfl h0 (Nat.div_add_mod _ _), m / 2, k + 1, rfl, by exact Nat.le_antisymm (J30 (nat_lit 0x1a214114120121a2144121101) rfl hk) (J30 (nat_lit 0x1a421412110131a0144122111) rfl hk), rfl, rfl⟩
 ·rw [bits_small (by exact J10 (nat_lit 0x1a3201b1a80132) rfl h0)] at hk
  refine zaY ?_
  have : k = bits v := by exact Nat.le_antisymm (J20 (nat_lit 0x1a110121a1140201) rfl hk) (J20 (nat_lit 0x1a110131a0140211) rfl hk)
  rw [this]; exact h
theorem lawcost_ok {G : Gd} {lv l d : Nat} {ps : Addr} {p0 p1 p2 : Int} {H : AH} {Q : V → AH → Prop} (hps : H ps = some (.list [.int p0, .int p1, .int p2])) (h2 : 0 ≤ p2) (h3 : p2 ≤ 1000) (hl : 2 ≤ l) (hd : 1 ≤ d) (h : Q (.int (pmF p1 p2 l d)) H) : waX G (lv + 2) (.ref 530) [.ref ps, .int l, .int d] H Q := by
 refine' waY (ps := ["prices", "length", "distance"]) (extra := []) ?ho (ok_law_cost _) rfl rfl ?hb ?_
 case ho => k_is
 case hb => exact fun s vs _ r => bnd3 (fun _ _ _  => BindsTo.of_eq rfl) r
 intro c hN hG hK hc
 subst hc
 refine (let r0 : Loc := [some (.ref ps), some (.int l), some (.int d)]; (?_ : WSs c r0 _ _ _))
 have e1 : (l : Int) - 2 = ((l - 2 : Nat) : Int) := by exact Int.le_antisymm (J20 (nat_lit 0x61a81152280101a4221101) rfl (sbA _ _)) (J20 (nat_lit 0x61a52281180121a1142201) rfl (Nat.sub_add_cancel (J10 (nat_lit 0x1a012201a0122) rfl hl)))
 have e2 : (d : Int) - 1 = ((d - 1 : Nat) : Int) := by exact Int.le_antisymm (J20 (nat_lit 0x61a81151280101a4121101) rfl (sbA _ _)) (J20 (nat_lit 0x61a51281180121a1141201) rfl (Nat.sub_add_cancel (J10 (nat_lit 0x1a011201a0112) rfl hd)))
 refine goS hN hG ?_
 refine St.of ?_
 refine zaU hps (by exact J00 (nat_lit 0x61a1202) rfl) (by exact J00 (nat_lit 0x71a3b9aca00b12) rfl) rfl ?_
 refine St.of ?_
 refine zaU hps (by exact J00 (nat_lit 0x61a2202) rfl) (by exact J00 (nat_lit 0x71a3b9aca00b22) rfl) rfl ?_
 refine St.of ?_
 rw [e1]
 refine waZ hK (by exact J10 (nat_lit 0x1a4120141201) rfl) (lawbits_ok (lv := lv) ?_)
 refine St.of ?_
 rw [e2]
 refine waZ hK (by exact J10 (nat_lit 0x1a4120141201) rfl) (lawbits_ok (lv := lv) ?_)
 refine St.of ?_
 refine wkY (.inl (na60 (by exact J01 (nat_lit 0x61a010261a0102) rfl h2) (by exact J01 (nat_lit 0x61a3b9aca00b0161a3e8301) rfl h3))) ?_
 exact h
theorem lawone_ok {G : Gd} {lv n most : Nat} {oct : Nat} {H : AH} {Q : V → AH → Prop} (hn : 1 ≤ n) (hn2 : n ≤ 1000) (hm : 2 ≤ most)
 (h : ∀ H' l, H l = none → H' l = some (.list (((0, oct) :: oneF oct most n (n - 1)).map nV)) → (∀ a o, H a = some o → H' a = some o) → Q (.ref l) H') : waX G (lv + 1) (.ref 568) [.int oct, .int n, .int most] H Q := by
 refine' waY (ps := ["octet", "many", "most"]) (extra := []) ?ho (ok_law_one _) rfl rfl ?hb ?_
 case ho => k_is
 case hb => exact fun s vs _ r => bnd3 (fun _ _ _  => BindsTo.of_eq rfl) r
 intro c hN hG hK hc
 subst hc
 refine (let r0 : Loc := [some (.int oct), some (.int n), some (.int most), none, none]; (?_ : WSs c r0 _ _ _))
 refine goS hN hG ?_
 refine wbW ?_
 refine ⟨show (1 : Nat) ≤ szL by decide, fun l hl => ?_⟩
 refine St.of ?_
 have e1 : (n : Int) - 1 = ((n - 1 : Nat) : Int) := by exact Int.le_antisymm (J20 (nat_lit 0x61a81151280101a4121101) rfl (sbA _ _)) (J20 (nat_lit 0x61a51281180121a1141201) rfl (Nat.sub_add_cancel (J10 (nat_lit 0x1a011201a0112) rfl hn)))
 rw [e1]
 refine whY (fun m r' H' => ∃ (fuel rest : Nat) (fs : List (Nat × Nat)), m = rest ∧ rest ≤ fuel ∧ fs ++ oneF oct most fuel rest = (0, oct) :: oneF oct most n (n - 1) ∧ fs.length + rest ≤ n ∧ H' = upd H l (.list (fs.map nV)) ∧ r' = [some (.int oct), some (.int n), some (.int most), some (.ref l), some (.int rest)]) _
  ⟨n, n - 1, [(0, oct)], rfl, by exact J20 (nat_lit 0x1a110191a801512811) rfl e1, rfl, by simp; exact J20 (nat_lit 0x1a114011291a801512811) rfl e1, rfl, rfl⟩ ?_
 rintro m r' H' ⟨fuel, rest, fs, rfl, hfu, hfs, hlen, rfl, rfl⟩
 have wl : (fs.map nV).length = fs.length := by simp
 refine goT hN hG ?_
 refine waV ?_
 refine zbY (fun h0 => ?_) (fun h0 => ?_)
 ·obtain ⟨fu, rfl⟩ : ∃ fu, fuel = fu + 1 := ⟨fuel - 1, by exact Nat.le_antisymm (J20 (nat_lit 0x1a412110101a4121101) rfl (sbA _ _)) (J20 (nat_lit 0x1a114120121a1141201) rfl (Nat.sub_add_cancel (J20 (nat_lit 0x1a011201a011171a81112) rfl hfu h0)))⟩
  have : oneF oct most (fu + 1) m = (min most m, 1) :: oneF oct most fu (m - min most m) := by
   show (if 1 < m then _ else _) = _; rw [if_pos (by exact J10 (nat_lit 0x11a011271a80112) rfl h0)]
  rw [this] at hfs
  have e2 := minc most m
  have e3 : (m : Int) - ((min most m : Nat) : Int) = ((m - min most m : Nat) : Int) := by exact Int.le_antisymm (J30 (nat_lit 0x61a821581180101a4112101) rfl (sbA _ _)) (J30 (nat_lit 0x61a582181180121a1142101) rfl (Nat.sub_add_cancel (J20 (nat_lit 0x1a110101a1101) rfl (Nat.min_le_right _ _))))
  refine goS hN hG ?_
  refine St.of ?_
  refine zcU (uS _ _ _) ?_
  refine St.of ?_
  refine C_min2 ?_
  refine St.of ?_
  refine wcX (uS _ _ _) (by exact J40 (nat_lit 0x1a000186a0b0101a3e831101a114312121a210171a83112) rfl hn2 hlen wl h0) ?_
  refine St.of ?_
  refine C_min2 ?_
  rw [wcU, e2]
  refine ⟨_, ?_, fu, m - min most m, fs ++ [(min most m, 1)], rfl, by omega, ?_, ?_, by rw [List.map_append]; rfl, by rw [← e3]; rfl⟩
  ·omega
  ·rw [← hfs, List.append_assoc]; rfl
  ·rw [List.length_append]; simp; omega
 ·have hone : oneF oct most fuel m = List.replicate m (0, oct) := by
   cases fuel with
   | zero => have : m = 0 := by exact Nat.le_antisymm (J10 (nat_lit 0x1a020101a0201) rfl hfu) (J10 (nat_lit 0x1a0102) rfl)
             subst this; rfl
   | succ fu => show (if 1 < m then _ else _) = _; rw [if_neg (by exact fun hq => Nat.lt_irrefl 0 (J10 (nat_lit 0x10a0202b1a8011211a0112) rfl h0 hq))]
  rw [hone] at hfs
  refine zaY ?_
  refine wbW ?_
  refine ⟨show (1 : Nat) ≤ szL by decide, fun l2 hl2 => ?_⟩
  refine St.of ?_
  refine whV (uS _ _ _) (by simp) (by exact J10 (nat_lit 0x61a8019000f4240b) rfl) (by exact J10 (nat_lit 0x61a000f4240b801b1a80112) rfl h0) (by simp; exact J10 (nat_lit 0x1a000f4240b01b1a80112) rfl h0) fun l3 hl3 => ?_
  have n1 : l ≠ l2 := nW (uS _ _ _) hl2
  have n2 : l ≠ l3 := nW (lkn n1 (uS _ _ _)) hl3
  refine St.of ?_
  refine BO_addlist (lkn n2 (lkn n1 (uS _ _ _))) (uS _ _ _) (by simp only [List.length_flatten, List.map_replicate, List.length_cons, List.length_nil, List.sum_replicate_nat, Int.toNat_natCast]; omega) fun l4 hl4 => ?_
  refine zcX ?_
  refine h _ l4 (zaQ (zaQ (zaQ hl4))) ?_ fun a o e => ?_
  ·rw [uS, ← hfs, List.map_append, List.map_replicate, List.flatten_replicate_singleton, Int.toNat_natCast]; rfl
  ·have b1 : a ≠ l := nW e hl
   have b2 : a ≠ l2 := nW (lkn b1 e) hl2
   have b3 : a ≠ l3 := nW (lkn b2 (lkn b1 e)) hl3
   have b4 : a ≠ l4 := nW (lkn b3 (lkn b2 (lkn b1 e))) hl4
   exact (lkn b4 (lkn b3 (lkn b2 (lkn b1 e))))
set_option tactic.hygienic false
noncomputable def waU (W : List (List UInt8)) (R : List Nat) : List UInt8 := (R.map fun k => W.getD k []).flatten
theorem joinW_app {W : List (List UInt8)} {R S : List Nat} : waU W (R ++ S) = waU W R ++ waU W S := by unfold waU; rw [List.map_append, List.flatten_append]
theorem joinW_len {W : List (List UInt8)} {z : Nat} : ∀ {R : List Nat}, (∀ k ∈ R, (W.getD k []).length = z) → (waU W R).length = z * R.length
 | [], _ => by simp [waU]
 | k :: R, h => by
  have : waU W (k :: R) = W.getD k [] ++ waU W R := by unfold waU; rw [List.map_cons, List.flatten_cons]
  rw [this, List.length_append, h k (.head _), joinW_len fun x hx => h x (.tail _ hx), List.length_cons, Nat.mul_add]; exact Nat.le_antisymm (J20 (nat_lit 0x1a417011141101) rfl) (J20 (nat_lit 0x1a401114171101) rfl)
structure RowW (H : AH) (rw ws : Addr) (R : List Nat) (W : List (List UInt8)) (z : Nat) : Prop where
 row : H rw = some (.list (R.map fun (k : Nat) => V.int k))
 words : H ws = some (.list (W.map V.bytes))
 four : W.length = 4
 len : ∀ x ∈ W, x.length = z
 lt : ∀ k ∈ R, k < 4
 short : R.length ≤ 12
 z1 : 1 ≤ z
 z3 : z ≤ 3
theorem RowW.frame {H H' : AH} {rw ws : Addr} {R : List Nat} {W : List (List UInt8)} {z : Nat} (A : RowW H rw ws R W z) (g1 : ∀ o, H rw = some o → H' rw = some o) (g2 : ∀ o, H ws = some o → H' ws = some o) : RowW H' rw ws R W z :=
 ⟨g1 _ A.row, g2 _ A.words, A.four, A.len, A.lt, A.short, A.z1, A.z3⟩
theorem RowW.wlen {H : AH} {rw ws : Addr} {R : List Nat} {W : List (List UInt8)} {z k : Nat} (A : RowW H rw ws R W z) (h : k < 4) : (W.getD k []).length = z := by
 have h4 := A.four
 rw [List.getD_eq_getElem?_getD, List.getElem?_eq_getElem (by exact J20 (nat_lit 0x11a110111a420131a4211) rfl h h4)]
 exact A.len _ (List.getElem_mem _)
theorem RowW.wat {H : AH} {rw ws : Addr} {R : List Nat} {W : List (List UInt8)} {z k : Nat} (A : RowW H rw ws R W z) (h : k < 4) : (W.map V.bytes)[((k : Nat) : Int).toNat]? = some (V.bytes (W.getD k [])) := by
 have h4 := A.four
 rw [Int.toNat_natCast, List.getElem?_map, List.getD_eq_getElem?_getD, List.getElem?_eq_getElem (by exact J20 (nat_lit 0x11a110111a420131a4211) rfl h h4)]; rfl
theorem RowW.jlen {H : AH} {rw ws : Addr} {R : List Nat} {W : List (List UInt8)} {z : Nat} (A : RowW H rw ws R W z) : (waU W R).length = z * R.length := joinW_len fun k hk => A.wlen (A.lt k hk)
theorem joined_ok {G : Gd} {lv : Nat} {rw ws : Addr} {R : List Nat} {W : List (List UInt8)} {z : Nat} {H : AH} {Q : V → AH → Prop} (A : RowW H rw ws R W z) (h : Q (.bytes (waU W R)) H) : waX G (lv + 1) (.ref 502) [.ref rw, .ref ws] H Q := by
 have a1 := A.row
 have a2 := A.words
 have a3 := A.short
 have a4 := A.z3
 refine' waY (ps := ["row", "words"]) (extra := []) ?ho (ok_law_joined _) rfl rfl ?hb ?_
 case ho => k_is
 case hb => exact fun s vs _ r => bnd2 (fun _ _  => BindsTo.of_eq rfl) r
 intro c hN hG hK hc
 subst hc
 refine (let r0 : Loc := [some (.ref rw), some (.ref ws), none, none]; (?_ : WSs c r0 _ _ _))
 refine goS hN hG ?_
 refine St.of ?_
 refine WS_for ?_
 refine goE hN hG ?_
 refine ⟨_, _, (fun i r' H' => H' = H ∧ ∃ x, r' = [some (.ref rw), some (.ref ws), some (.bytes (waU W (R.take i))), x]), zcV a1, ⟨rfl, _, rfl⟩, ?_, ?_, ?_⟩
 ·rintro i r' H' _ ⟨rfl, _⟩; exact a1
 ·rintro i X r' H' hX ⟨rfl, x, rfl⟩
  rw [List.getElem?_map] at hX
  obtain ⟨k, hq, rfl⟩ := Option.map_eq_some_iff.mp hX
  have hk := A.lt k (List.mem_of_getElem? hq)
  have hi := (List.getElem?_eq_some_iff.mp hq).1
  have w1 := A.wat hk
  have w2 := A.wlen hk
  have wl : (W.map V.bytes).length = 4 := by rw [List.length_map, A.four]
  have e1 : waU W (R.take (i + 1)) = waU W (R.take i) ++ W.getD k [] := by
   rw [List.take_add_one, hq, joinW_app]; simp [waU]
  have e2 : (waU W (R.take i)).length = z * (R.take i).length := joinW_len fun k hk => A.wlen (A.lt k (List.mem_of_mem_take hk))
  have e3 : z * (R.take i).length ≤ 3 * 12 := Nat.mul_le_mul a4 (by rw [List.length_take]; exact J20 (nat_lit 0x1ac20101ac21101a1101) rfl a3 (Nat.min_le_right _ _))
  refine goA hN rfl ?_
  refine goS hN hG ?_
  refine St.of ?_
  refine zaU a2 (by exact J10 (nat_lit 0x61a80102) rfl) (by exact J10 (nat_lit 0x71a3b9aca00b80111a4201) rfl hk) w1 ?_
  refine St.of ?_
  refine BO_addbytes (by exact J40 (nat_lit 0x1a000186a0b4110101a322121a211121a310101a36c231) rfl a4 w2 e2 e3) ?_
  refine zaV ?_
  refine wiX ?_
  rw [e1]
  exact ⟨rfl, _, rfl⟩
 ·rintro r' H' ⟨rfl, x, rfl⟩
  refine zaY ?_
  rw [List.length_map, List.take_length]
  exact h
noncomputable def mk (T : List UInt8) (p : Nat) : List V := (List.range p).map fun j => V.int (oc T j)
theorem mk_len {T : List UInt8} {p : Nat} : (mk T p).length = p := by simp [mk]
theorem mk_succ {T : List UInt8} {p : Nat} : mk T (p + 1) = mk T p ++ [V.int (oc T p)] := by simp [mk, List.range_succ]
theorem mk_at {T : List UInt8} {p j : Nat} (h : j < p) : (mk T p)[((j : Nat) : Int).toNat]? = some (V.int (oc T j)) := range_at h
theorem mk_all {T : List UInt8} : T.map (fun b => V.int b.toNat) = ((List.range T.length).map fun j => (oc T j : Int)).map V.int := by
 apply List.ext_getElem
 ·simp
 ·intro i h1 h2
  have h1 : i < T.length := by simpa using h1
  simp [oc, List.getD_eq_getElem?_getD, List.getElem?_eq_getElem h1]
theorem mk_ints {T : List UInt8} {p : Nat} : mk T p = ((List.range p).map fun j => (oc T j : Int)).map V.int := by simp [mk]
theorem plays_ok {G : Gd} {lv : Nat} {l : Addr} {ps : List (Nat × Nat)} {T : List UInt8} {w most : Nat} {H : AH} {Q : V → AH → Prop} (hl : H l = some (.list (ps.map nV))) (hz : T.length ≤ 90000) (hp : Par (oc T) T.length w most 0 ps T.length)
 (h : ∀ H', (∀ a o, H a = some o → H' a = some o) → Q (.bool true) H') : waX G (lv + 1) (.ref 516) [.ref l, .bytes T, .int w, .int most] H Q := by
 refine' waY (ps := ["steps", "text", "window", "most"]) (extra := []) ?ho (ok_law_plays _) rfl rfl ?hb ?_
 case ho => k_is
 case hb => exact fun s vs _ r => bnd4 (fun _ _ _ _  => BindsTo.of_eq rfl) r
 intro c hN hG hK hc
 subst hc
 refine (let r0 : Loc := [some (.ref l), some (.bytes T), some (.int w), some (.int most), none, none, none, none]; (?_ : WSs c r0 _ _ _))
 refine goS hN hG ?_
 refine wbW ?_
 refine ⟨by decide, fun md hmd => ?_⟩
 have nl : l ≠ md := nW hl hmd
 refine St.of ?_
 refine WS_for ?_
 refine goE hN hG ?_
 refine ⟨_, _, (fun i r' H' => ∃ (p : Nat) (x y u : Option V), Par (oc T) T.length w most p (ps.drop i) T.length ∧ H' = upd H md (.list (mk T p)) ∧ r' = [some (.ref l), some (.bytes T), some (.int w), some (.int most), some (.ref md), x, y, u]), zcV (lkn nl hl), ⟨0, _, _, _, hp, rfl, rfl⟩, ?_, ?_, ?_⟩
 ·rintro i r' H' _ ⟨p, x, y, u, _, rfl, _⟩; exact lkn nl hl
 ·rintro i X r' H' hX ⟨p, x, y, u, hP, rfl, rfl⟩
  rw [List.getElem?_map] at hX
  obtain ⟨⟨a, b⟩, hq, rfl⟩ := Option.map_eq_some_iff.mp hX
  obtain ⟨h1, h2⟩ := List.getElem?_eq_some_iff.mp hq
  rw [List.drop_eq_getElem_cons h1, h2] at hP
  obtain ⟨hs, hr⟩ := hP
  have wl := mk_len (T := T) (p := p)
  refine WA_two 5 6 hN rfl rfl ?_
  rcases hs with ⟨s1, s2, s3⟩ | ⟨s1, s2, s3, s4, s5, s6, s7⟩
  ·have s1 : a = 0 := s1
   have s3 : b = oc T p := s3
   subst s1 s3
   have hr : Par (oc T) T.length w most (p + 1) (ps.drop (i + 1)) T.length := hr
   refine goS hN hG ?_
   refine St.of ?_
   refine zcU (uS _ _ _) ?_
   refine St.of ?_
   refine wcX (uS _ _ _) (by exact J30 (nat_lit 0x1a000186a0b0101a00015f90b1121a210111a1121) rfl hz wl s2) ?_
   rw [wcU, ← mk_succ]
   exact ⟨p + 1, _, _, _, hr, rfl, rfl⟩
  ·have s1 : 2 ≤ a := s1
   have s2 : a ≤ most := s2
   have s3 : 1 ≤ b := s3
   have s4 : b ≤ w := s4
   have s5 : b ≤ p := s5
   have s6 : p + a ≤ T.length := s6
   have s7 : ∀ j, j < a → oc T (p + j) = oc T (p + j - b) := s7
   have hr : Par (oc T) T.length w most (p + a) (ps.drop (i + 1)) T.length := by
    have : sz (a, b) = a := by unfold sz; rw [if_neg (by show ¬ a = 0; exact fun hq => Nat.lt_irrefl 0 (J10 (nat_lit 0x10a020201a012221a0201) rfl ‹_› hq))]
    rw [← this]; exact hr
   refine goS hN hG ?_
   refine waV ?_
   refine whZ (by exact fun hq => Nat.lt_irrefl 0 (J10 (nat_lit 0x10a020201a012281a02801) rfl ‹_› hq)) ?_
   refine zaV ?_
   refine zaY ?_
   refine waV ?_
   refine ite_t (by exact J10 (nat_lit 0x61a8012201a0122) rfl ‹_›) ?_
   refine waV ?_
   refine ite_nt ?_
   refine ite_t (by exact J20 (nat_lit 0x61a81180101a1101) rfl ‹_›) ?_
   refine waV ?_
   refine ite_t (by exact J10 (nat_lit 0x61a8011201a0112) rfl ‹_›) ?_
   refine St.of ?_
   refine C_lenl (uS _ _ _) (by exact J40 (nat_lit 0x1a000186a0b0101a00015f90b1121a210101a312201a1143121) rfl hz wl ‹_› ‹_›) ?_
   refine St.of ?_
   refine C_min2 ?_
   refine waV ?_
   refine ite_nt ?_
   refine ite_t (by omega) ?_
   refine St.of ?_
   refine WS_for ?_
   refine goE hN hG ?_
   refine St.of ?_
   refine C_range1 ?_
   refine ⟨_, _, (fun t r' H' => ∃ u : Option V, H' = upd H md (.list (mk T (p + t))) ∧ r' = [some (.ref l), some (.bytes T), some (.int w), some (.int most), some (.ref md), some (.int a), some (.int b), u]), whX (by exact J00 (nat_lit 0x61a029000f4240b) rfl) (by exact J00 (nat_lit 0x61a000f4240b02) rfl) (by exact J10 (nat_lit 0x61a8019000f4240b01a0122) rfl ‹_›) (by exact J30 (nat_lit 0x61a000f4240b80101a00015f90b1101a1140121) rfl hz ‹_›), ⟨_, rfl, rfl⟩, fun _ _ _ _ _ => trivial, ?_, ?_⟩
   ·rintro t X r' H' hX ⟨u, rfl, rfl⟩
    have ht : t < a := by
     have := (List.getElem?_eq_some_iff.mp hX).1
     unfold rngL at this
     rw [List.length_map, List.length_range] at this; exact J30 (nat_lit 0x11a110111a210181a502811821) rfl this (Int.toNat_of_nonneg (J10 (nat_lit 0x61a5028010201a0122) rfl ‹_›))
    have wl2 := mk_len (T := T) (p := p + t)
    have x1 := mk_at (T := T) (p := p + t) (j := p + t - b) (by exact J40 (nat_lit 0x11a421110101a311221a4211143101) rfl ‹_› (Nat.sub_add_cancel (J30 (nat_lit 0x1a421110101a1101) rfl ‹_›)))
    have e1 : ((mk T (p + t)).length : Int) - (b : Int) = ((p + t - b : Nat) : Int) := by exact Int.le_antisymm (J50 (nat_lit 0x61a821581180121a441310101a4112144131) rfl wl2 (sbA _ _)) (J50 (nat_lit 0x61a582181180131a441311121a4413142101) rfl wl2 (Nat.sub_add_cancel (J30 (nat_lit 0x1a421110101a1101) rfl ‹_›)))
    refine goA hN rfl ?_
    refine goS hN hG ?_
    refine St.of ?_
    refine zcU (uS _ _ _) ?_
    refine St.of ?_
    refine C_lenl (uS _ _ _) (by exact J50 (nat_lit 0x1a000186a0b0101a00015f90b1101a114312111a314121a4412101) rfl hz ‹_› ht wl2) ?_
    refine St.of ?_
    rw [e1]
    refine zaU (uS _ _ _) (by exact J10 (nat_lit 0x61a80102) rfl) (by exact J70 (nat_lit 0x71a3b9aca00b80101a00015f90b1101a211201a114413111a415121a451316191a8015821861) rfl hz ‹_› ‹_› ht wl2 e1) x1 ?_
    refine St.of ?_
    refine wcX (uS _ _ _) (by exact J50 (nat_lit 0x1a000186a0b0101a00015f90b1101a114312111a314121a4412101) rfl hz ‹_› ht wl2) ?_
    refine zaV ?_
    refine wiX ?_
    rw [wcU, ← s7 t ht, ← mk_succ]
    exact ⟨_, rfl, rfl⟩
   ·rintro r' H' ⟨u, rfl, rfl⟩
    refine zaY ?_
    refine zaV ?_
    refine wiX ?_
    have : (rngL 0 (a : Int)).length = a := by unfold rngL; rw [List.length_map, List.length_range]; exact Nat.le_antisymm (J20 (nat_lit 0x1a110181a502811801) rfl (Int.toNat_of_nonneg (J10 (nat_lit 0x61a5028010201a0122) rfl ‹_›))) (J20 (nat_lit 0x1a110191a502801811) rfl (Int.toNat_of_nonneg (J10 (nat_lit 0x61a5028010201a0122) rfl ‹_›)))
    rw [this]
    exact ⟨p + a, _, _, _, hr, rfl, rfl⟩
 ·rintro r' H' ⟨p, x, y, u, hP, rfl, rfl⟩
  rw [List.length_map, List.drop_length] at hP
  have hP : p = T.length := hP
  subst hP
  refine zaY ?_
  refine St.of ?_
  refine C_list_bytes (by unfold szL; exact J10 (nat_lit 0x1a01000000b0101a00015f90b01) rfl hz) fun l2 hl2 => ?_
  have n2 : md ≠ l2 := nW (uS _ _ _) hl2
  refine St.of ?_
  refine CO_eqints (ps := (List.range T.length).map fun j => (oc T j : Int)) (qs := (List.range T.length).map fun j => (oc T j : Int)) ?_ ?_ ?_
  ·rw [zbX _ _ n2, uS, mk_ints]
  ·rw [uS, mk_all]
  ·rw [decide_eq_true rfl]
   refine zcX ?_
   refine h _ fun a o e => ?_
   have b1 := nW e hmd
   exact lkn (nW (lkn b1 e) hl2) (lkn b1 e)
structure Told (H : AH) (l : Addr) (a b : List (Nat × Nat)) : Prop where
 it : ∃ x y, H l = some (.list [.ref x, .ref y]) ∧ H x = some (.list (a.map nV)) ∧ H y = some (.list (b.map nV))
theorem told2_ok {G : Gd} {lv : Nat} {b pr pdx : Addr} {T : List UInt8} {w most : Nat} {p0 p1 p2 : Int} {H : AH} {Q : V → AH → Prop} (hb : Box H b) (P : wdZ H pr pdx p0 p1 p2) (hz : T.length ≤ 90000) (hw : 1 ≤ w) (hm : 2 ≤ most) (hp0 : 0 ≤ p2) (hp1 : p2 ≤ 1000)
 (h : ∀ H' l x y, H' l = some (.list [.ref x, .ref y]) → H' x = some (.list ((gr (oc T) T.length w most T.length 0).map nV)) → H' y = some (.list ((leastF (oc T) T.length w most (wdW p0 p1 p2)).map nV)) → H l = none → H x = none → H y = none → Box H' b →
  (∀ a o, a ≠ b → H a = some o → H' a = some o) → Q (.ref l) H') : waX G (lv + 10) (.ref 556) [.ref b, .bytes T, .int w, .int most, .ref pr] H Q := by
 obtain ⟨d0, s0, hb0⟩ := id hb
 have np : pr ≠ b := zbW P.inst hb0 (fun e => by cases e)
 have npd : pdx ≠ b := zbW P.fl hb0 (fun e => by cases e)
 refine' waY (ps := ["box", "text", "window", "most", "price"]) (extra := []) ?ho (ok_law_told _) rfl rfl ?hb ?_
 case ho => k_is
 case hb => exact fun s vs _ r => bnd5 (fun _ _ _ _ _  => BindsTo.of_eq rfl) r
 intro c hN hG hK hc
 subst hc
 refine (let r0 : Loc := [some (.ref b), some (.bytes T), some (.int w), some (.int most), some (.ref pr), none, none, none]; (?_ : WSs c r0 _ _ _))
 refine goS hN hG ?_
 refine St.of ?_
 refine waZ hK (by exact J10 (nat_lit 0x1a4920148201) rfl) (wjU (lv := lv) hb hz hw fun H1 f own F hown hb1 g1 => ?_)
 refine St.of ?_
 refine waZ hK (by exact J10 (nat_lit 0x1a4920149201) rfl) (greedy_ok (lv := lv) F (by exact J10 (nat_lit 0x1a000186a0b0101a00015f90b01) rfl hz) hm fun H2 x hx ex g2 => ?_)
 refine St.of ?_
 have old1 : ∀ a o, H a = some o → a ∉ own := fun a o e hc => by rw [hown a hc] at e; cases e
 have nb1 : b ∉ own := old1 b _ hb0
 obtain ⟨d1, s1, hb1⟩ := hb1
 have hb2 := g2 b _ nb1 hb1
 have G2 : ∀ a o, a ≠ b → H a = some o → H2 a = some o := fun a o n e => g2 a o (old1 a o e) (g1 a o n e)
 have nxb : x ≠ b := fun q => by subst q; rw [hb1] at hx; cases hx
 have hxH : H x = none := by
  cases q : H x with
  | none => rfl
  | some o => rw [g1 x o nxb q] at hx; cases hx
 have P2 : wdZ H2 pr pdx p0 p1 p2 := ⟨G2 _ _ np P.inst, G2 _ _ npd P.fl⟩
 refine waZ hK (by exact J10 (nat_lit 0x1a4920148201) rfl) (wjU (lv := lv) ⟨_, _, hb2⟩ hz hw fun H3 f2 own2 F2 hown2 hb3 g3 => ?_)
 refine St.of ?_
 have old2 : ∀ a o, H2 a = some o → a ∉ own2 := fun a o e hc => by rw [hown2 a hc] at e; cases e
 refine waZ hK (by exact J10 (nat_lit 0x1a4920149201) rfl) (least_ok (lv := lv) F2 ⟨g3 _ _ np P2.inst, g3 _ _ npd P2.fl⟩ (old2 _ _ P2.inst) (old2 _ _ P2.fl) hz hm hp0 hp1 fun H4 y hy ey g4 => ?_)
 refine St.of ?_
 obtain ⟨d3, s3, hb3⟩ := hb3
 have hb4 := g4 b _ (old2 _ _ hb2) hb3
 have G4 : ∀ a o, a ≠ b → H2 a = some o → H4 a = some o := fun a o n e => g4 a o (old2 a o e) (g3 a o n e)
 have nyb : y ≠ b := fun q => by subst q; rw [hb3] at hy; cases hy
 have hyH : H y = none := by
  cases q : H y with
  | none => rfl
  | some o => rw [g3 y o nyb (G2 y o nyb q)] at hy; cases hy
 have ex4 := G4 x _ nxb ex
 refine waZ hK (by exact J10 (nat_lit 0x1a4920141201) rfl) (plays_ok (lv := lv) ex4 hz (gr_par (by exact J10 (nat_lit 0x1a4010201) rfl) (by exact J10 (nat_lit 0x1a0102) rfl)) fun H5 g5 => ?_)
 refine ite_tt ?_
 refine St.of ?_
 refine waZ hK (by exact J10 (nat_lit 0x1a4920141201) rfl) (plays_ok (lv := lv) (g5 _ _ ey) hz leastF_ok fun H6 g6 => ?_)
 refine wbW ?_
 refine ⟨show (2 : Nat) ≤ szL by decide, fun l hl => ?_⟩
 refine zcX ?_
 have n6 : ∀ a o, H6 a = some o → upd H6 l (.list [.ref x, .ref y]) a = some o := fun a o e => lkn (nW e hl) e
 have hlH : H l = none := by
  cases q : H l with
  | none => rfl
  | some o =>
   by_cases n : l = b
   ·subst n; rw [g6 _ _ (g5 _ _ hb4)] at hl; cases hl
   ·rw [g6 _ _ (g5 _ _ (G4 _ _ n (G2 _ _ n q)))] at hl; cases hl
 exact h _ l x y (uS _ _ _) (n6 _ _ (g6 _ _ (g5 _ _ ex4))) (n6 _ _ (g6 _ _ (g5 _ _ ey))) hlH hxH hyH ⟨_, _, n6 _ _ (g6 _ _ (g5 _ _ hb4))⟩ fun a o n e => n6 _ _ (g6 _ _ (g5 _ _ (G4 _ _ n (G2 _ _ n e))))
set_option tactic.hygienic false
theorem max_sz {a b : Nat} (h : a = 0 ∨ 2 ≤ a) : max (1 : Int) (a : Int) = ((sz (a, b) : Nat) : Int) := by
 unfold sz
 rcases h with h | h
 ·subst h; rfl
 ·rw [if_neg (by show ¬ a = 0; exact fun hq => Nat.lt_irrefl 0 (J10 (nat_lit 0x10a020201a012221a0201) rfl h hq))]; show max (1 : Int) (a : Int) = (a : Int); omega
theorem RowW.rat {H : AH} {rw ws : Addr} {R : List Nat} {W : List (List UInt8)} {z p : Nat} (A : RowW H rw ws R W z) (h : p < R.length) : (R.map fun (k : Nat) => V.int k)[((p : Nat) : Int).toNat]? = some (V.int (R.getD p 0 : Nat)) ∧ R.getD p 0 < 4 := by
 rw [Int.toNat_natCast, List.getElem?_map, List.getD_eq_getElem?_getD, List.getElem?_eq_getElem h]
 exact ⟨rfl, A.lt _ (List.getElem_mem _)⟩
theorem mapped_ok {G : Gd} {lv : Nat} {l rw ws : Addr} {R : List Nat} {W : List (List UInt8)} {z : Nat} {o : Nat → Nat} {ps : List (Nat × Nat)} {w most : Nat} {H : AH} {Q : V → AH → Prop} (A : RowW H rw ws R W z) (hl : H l = some (.list (ps.map nV))) (hp : Par o R.length w most 0 ps R.length)
 (h : ∀ H' l2, H l2 = none → H' l2 = some (.list ((mapS (fun i => oc (W.getD (R.getD i 0) []) 0) 0 ps).map nV)) → (∀ a o, H a = some o → H' a = some o) → Q (.ref l2) H') : waX G (lv + 1) (.ref 549) [.ref l, .ref rw, .ref ws] H Q := by
 refine' waY (ps := ["steps", "row", "words"]) (extra := []) ?ho (ok_law_mapped _) rfl rfl ?hb ?_
 case ho => k_is
 case hb => exact fun s vs _ r => bnd3 (fun _ _ _  => BindsTo.of_eq rfl) r
 intro c hN hG hK hc
 subst hc
 refine (let r0 : Loc := [some (.ref l), some (.ref rw), some (.ref ws), none, none, none, none]; (?_ : WSs c r0 _ _ _))
 refine goS hN hG ?_
 refine wbW ?_
 refine ⟨by decide, fun fd hfd => ?_⟩
 have nl : l ≠ fd := nW hl hfd
 have A1 : ∀ vs, RowW (upd H fd (.list vs)) rw ws R W z := fun vs => A.frame (fun o e => lkn (nW e hfd) e) (fun o e => lkn (nW e hfd) e)
 refine St.of ?_
 refine WS_for ?_
 refine goE hN hG ?_
 generalize hM : mapS (fun i => oc (W.getD (R.getD i 0) []) 0) 0 ps = M
 refine ⟨_, _, (fun i r' H' => ∃ (p : Nat) (fs : List (Nat × Nat)) (x y : Option V), Par o R.length w most p (ps.drop i) R.length ∧ fs ++ mapS (fun i => oc (W.getD (R.getD i 0) []) 0) p (ps.drop i) = M ∧ fs.length ≤ p ∧ H' = upd H fd (.list (fs.map nV)) ∧ r' = [some (.ref l), some (.ref rw), some (.ref ws), some (.ref fd), some (.int p), x, y]), zcV (lkn nl hl), ⟨0, [], _, _, hp, hM, by simp, rfl, rfl⟩, ?_, ?_, ?_⟩
 ·rintro i r' H' _ ⟨p, fs, x, y, _, _, _, rfl, _⟩; exact lkn nl hl
 ·rintro i X r' H' hX ⟨p, fs, x, y, hP, hfs, hlen, rfl, rfl⟩
  rw [List.getElem?_map] at hX
  obtain ⟨⟨a, b⟩, hq, rfl⟩ := Option.map_eq_some_iff.mp hX
  obtain ⟨h1, h2⟩ := List.getElem?_eq_some_iff.mp hq
  rw [List.drop_eq_getElem_cons h1, h2] at hP hfs
  obtain ⟨hs, hr⟩ := hP
  have hle := hs.le
  have sp := whU (a, b)
  have hpl := hr.le
  have wl : (fs.map nV).length = fs.length := by simp
  have h12 := A.short
  have A2 := A1 (fs.map nV)
  have a1 := A2.row
  have a2 := A2.words
  have wl2 : (R.map fun (k : Nat) => V.int k).length = R.length := by simp
  have wl3 : (W.map V.bytes).length = 4 := by rw [List.length_map, A.four]
  refine WA_two 5 6 hN rfl rfl ?_
  by_cases h0 : a = 0
  ·subst h0
   have hpR : p < R.length := by have : sz (0, b) = 1 := rfl; exact J30 (nat_lit 0x11a110101a114210131a1221) rfl hle this
   obtain ⟨x1, x2⟩ := A.rat hpR
   have x3 := A.wat x2
   have x4 := A.wlen x2
   have z1 := A.z1
   have z3 := A.z3
   refine goS hN hG ?_
   refine St.of ?_
   refine zcU (uS _ _ _) ?_
   refine St.of ?_
   refine zaU a1 (by exact J10 (nat_lit 0x61a80102) rfl) (by exact J20 (nat_lit 0x71a3b9aca00b80101ac21111a1101) rfl h12 hpR) x1 ?_
   refine St.of ?_
   refine zaU a2 (by exact J10 (nat_lit 0x61a80102) rfl) (by exact J10 (nat_lit 0x71a3b9aca00b80111a4201) rfl x2) x3 ?_
   refine St.of ?_
   refine wiQ (by exact J00 (nat_lit 0x61a0202) rfl) (by exact J20 (nat_lit 0x71a8010231a110101a1112) rfl x4 z1) (by exact J20 (nat_lit 0x1a000186a0b0121a110101a3211) rfl x4 z3) ?_
   refine St.of ?_
   refine wcX (uS _ _ _) (by exact J40 (nat_lit 0x1a000186a0b0101a211121a110101ac23111a3121) rfl hlen wl h12 hpR) ?_
   refine St.of ?_
   refine C_max2 ?_
   rw [wcU, max_sz (b := b) (.inl rfl)]
   refine ⟨p + sz (0, b), fs ++ [(0, oc (W.getD (R.getD p 0) []) 0)], _, _, hr, ?_, ?_, by rw [List.map_append]; rfl, rfl⟩
   ·rw [← hfs, List.append_assoc]; rfl
   ·rw [List.length_append]; simp; exact J30 (nat_lit 0x1a421114120101a110101a2112) rfl hlen sp
  ·have h02 : a = 0 ∨ 2 ≤ a := by
    rcases hs with ⟨e, _⟩ | ⟨e, _⟩
    ·exact .inl e
    ·exact .inr e
   have h02' : 2 ≤ a := by omega
   refine goS hN hG ?_
   refine St.of ?_
   refine zcU (uS _ _ _) ?_
   refine waV ?_
   refine ite_t (by exact J10 (nat_lit 0x71a8010201a0122) rfl h02') ?_
   refine St.of ?_
   refine wcX (uS _ _ _) (by exact J50 (nat_lit 0x1a000186a0b0101a211101a414312101a311221a110101ac241) rfl hlen hle sp wl h12) ?_
   refine St.of ?_
   refine C_max2 ?_
   rw [wcU, max_sz (b := b) h02]
   refine ⟨p + sz (a, b), fs ++ [(a, b)], _, _, hr, ?_, ?_, by rw [List.map_append]; rfl, rfl⟩
   ·rw [← hfs, List.append_assoc]
    have : mapS (fun i => oc (W.getD (R.getD i 0) []) 0) p ((a, b) :: ps.drop (i + 1)) = (a, b) :: mapS (fun i => oc (W.getD (R.getD i 0) []) 0) (p + sz (a, b)) (ps.drop (i + 1)) := by
     show (if (a, b).1 = 0 then _ else _) :: _ = _
     rw [if_neg h0]
    rw [this]; rfl
   ·rw [List.length_append]; simp; exact J30 (nat_lit 0x1a421114120101a110101a2112) rfl hlen sp
 ·rintro r' H' ⟨p, fs, x, y, hP, hfs, hlen, rfl, rfl⟩
  rw [List.length_map, List.drop_length] at hfs
  have hfs : fs ++ [] = M := hfs
  refine zaY ?_
  refine h _ fd hfd ?_ fun a o e => lkn (nW e hfd) e
  rw [hM, uS, ← hfs, List.append_nil]
theorem min_has : ∀ {is : List Int}, is ≠ [] → ∃ j ∈ is, ∀ i ∈ is, j ≤ i
 | [], h => absurd rfl h
 | [a], _ => ⟨a, .head _, fun i hi => by rw [List.mem_singleton] at hi; exact J02 (nat_lit 0x61a110191a0111) rfl hi⟩
 | a :: b :: r, _ => by
  obtain ⟨j, hj, hle⟩ := min_has (is := b :: r) (by simp)
  by_cases h : a ≤ j
  ·refine ⟨a, .head _, fun i hi => ?_⟩
   rcases List.mem_cons.mp hi with e | e
   ·exact J02 (nat_lit 0x61a110191a0111) rfl e
   ·have := hle i e; exact J03 (nat_lit 0x61a110161a210161a1121) rfl h this
  ·refine ⟨j, .tail _ hj, fun i hi => ?_⟩
   rcases List.mem_cons.mp hi with e | e
   ·exact J03 (nat_lit 0x61a1101a1a012191a2111) rfl h e
   ·exact hle i e
theorem three_same {l : List UInt8} (h3 : l.length = 3) (e : l = (List.replicate 3 (l.take 1)).flatten) : oc l 1 = oc l 0 ∧ oc l 2 = oc l 0 := by
 match l, h3, e with
 | [a, b, d], _, e =>
  have e : [a, b, d] = [a, a, a] := e
  cases e
  exact ⟨rfl, rfl⟩
set_option tactic.hygienic false
noncomputable def kdF (R : List Nat) (i : Nat) : Nat := R.getD i 0
noncomputable def wdF (W : List (List UInt8)) (k j : Nat) : Nat := oc (W.getD k []) j
set_option maxHeartbeats 1000000 in
theorem wordcost_ok {G : Gd} {lv : Nat} {rw ws prs : Addr} {R : List Nat} {W : List (List UInt8)} {z p w : Nat} {p0 p1 p2 : Int} {H : AH} {Q : V → AH → Prop} (A : RowW H rw ws R W z) (hps : H prs = some (.list [.int p0, .int p1, .int p2])) (hp : p < R.length) (hw : w ≤ 1000) (b0 : 0 ≤ p0) (b1 : p0 ≤ 1000) (h2 : 0 ≤ p2) (h3 : p2 ≤ 1000)
 (h : ∀ H' v, WayOf z w p p0 p1 p2 (kdF R) (wdF W) v → (∀ a o, H a = some o → H' a = some o) → Q (.int v) H') : waX G (lv + 3) (.ref 535) [.ref rw, .int p, .bytes (W.getD (kdF R p) []), .int w, .ref prs] H Q := by
 obtain ⟨x1, x2⟩ := A.rat hp
 have hk : kdF R p < 4 := x2
 have wlen := A.wlen hk
 have z1 := A.z1
 have z3 := A.z3
 have short := A.short
 have c1 : ((W.getD (kdF R p) []).length : Int) = (z : Int) := by exact Int.le_antisymm (J20 (nat_lit 0x61a81180121a1101) rfl wlen) (J20 (nat_lit 0x61a81180131a0111) rfl wlen)
 have rl : (R.map fun (k : Nat) => V.int k).length = R.length := by simp
 have row := A.row
 have hwd : ∀ j, wdF W (kdF R p) j = oc (W.getD (kdF R p) []) j := fun _ => rfl
 generalize W.getD (kdF R p) [] = wrd at *
 have zlt : wrd.length ≤ 3 := by exact J20 (nat_lit 0x1a320101a321121a1101) rfl z3 wlen
 refine' wiV (ps := ["row", "place", "word", "window", "prices"]) (extra := []) ?ho (ok_law_word_cost _) rfl rfl ?hb ?_
 case ho => k_is
 case hb => exact fun s vs _ r => bnd5 (fun _ _ _ _ _  => BindsTo.of_eq rfl) r
 intro c hN hG hCV hK hc
 subst hc
 refine (let r0 : Loc := [some (.ref rw), some (.int p), some (.bytes wrd), some (.int w), some (.ref prs), none, none, none]; (?_ : WSs c r0 _ _ _))
 refine goS hN hG ?_
 refine goK (fun r' H' => ∃ wa, H wa = none ∧ r' = [some (.ref rw), some (.int p), some (.bytes wrd), some (.int w), some (.ref prs), some (.ref wa), some (.int wrd.length), none] ∧ H' = upd H wa (.list [.int (wrd.length * p0)])) rfl (fun K kK => ?_) ?_
 ·refine St.of ?_
  refine wgQ (by exact J20 (nat_lit 0x1a000186a0b0101a321121a1101) rfl z3 wlen) ?_
  refine St.of ?_
  refine zaU hps (by exact J00 (nat_lit 0x61a0202) rfl) (by exact J00 (nat_lit 0x71a3b9aca00b02) rfl) rfl ?_
  refine St.of ?_
  refine wkY (.inl (naN (by exact J20 (nat_lit 0x1a3b9aca00b0101a321121a1101) rfl z3 wlen))) ?_
  refine wbW ?_
  refine ⟨show (1 : Nat) ≤ szL by decide, fun wa hwa => ?_⟩
  refine St.of ?_
  refine wgQ (by exact J20 (nat_lit 0x1a000186a0b0101a321121a1101) rfl z3 wlen) ?_
  exact kK ⟨wa, hwa, rfl, rfl⟩
 rintro r' H' ⟨wa, hwa, rfl, rfl⟩
 have g1 : ∀ (X : O) a o, H a = some o → upd H wa X a = some o := fun X a o e => lkn (nW e hwa) e
 refine goKif (fun r' H' => r' = [some (.ref rw), some (.int p), some (.bytes wrd), some (.int w), some (.ref prs), some (.ref wa), some (.int wrd.length), none] ∧ ∃ vs : List Int, H' = upd H wa (.list (vs.map V.int)) ∧ vs.length ≤ 2 ∧ vs ≠ [] ∧ ∀ v ∈ vs, WayOf z w p p0 p1 p2 (kdF R) (wdF W) v) (fun K kK => ?_) ?_
 ·have wy1 : WayOf z w p p0 p1 p2 (kdF R) (wdF W) (wrd.length * p0) := .inl (by rw [c1])
  have one : ∀ v ∈ [(wrd.length : Int) * p0], WayOf z w p p0 p1 p2 (kdF R) (wdF W) v := fun v hv => by rw [List.mem_singleton] at hv; rw [hv]; exact wy1
  refine waV ?_
  refine zbY (fun hs => ?_) (fun hs => ?_)
  ·have hs3 : z = 3 := by exact Nat.le_antisymm (J20 (nat_lit 0x1a320131a011181a32811) rfl wlen hs) (J20 (nat_lit 0x1a013221a011191a32811) rfl wlen hs)
   have hw3 : wrd.length = 3 := by exact Nat.le_antisymm (J10 (nat_lit 0x1a320181a32801) rfl hs) (J10 (nat_lit 0x1a013291a32801) rfl hs)
   refine St.of ?_
   refine SL_bytes (by unfold szL; exact J10 (nat_lit 0x1a01000000b0181a32801) rfl hs) trivial (show (0 : Int) ≤ 1 by decide) ?_
   have et : slV wrd none (some 1) = wrd.take 1 := rfl
   rw [et]
   refine St.of ?_
   refine BO_mulbytes (fun e => by have e2 := congrArg List.length e; rw [List.length_take, hw3] at e2; exact absurd e2 (by decide)) (by rw [List.length_take]; exact J10 (nat_lit 0x1a01030101a1201) rfl (Nat.min_le_left _ _)) (by decide) (by decide) ?_
   refine waV ?_
   refine zbY (fun he => ?_) (fun he => ?_)
   ·obtain ⟨t1, t2⟩ := three_same hw3 he
    refine St.of ?_
    refine zcU (uS _ _ _) ?_
    refine St.of ?_
    refine zaU (lkn (nnx hwa ⟨_, ‹_›⟩) hps) (by exact J00 (nat_lit 0x61a0202) rfl) (by exact J00 (nat_lit 0x71a3b9aca00b02) rfl) rfl ?_
    refine St.of ?_
    refine zaU (lkn (nnx hwa ⟨_, ‹_›⟩) hps) (by exact J00 (nat_lit 0x61a1202) rfl) (by exact J00 (nat_lit 0x71a3b9aca00b12) rfl) rfl ?_
    refine St.of ?_
    refine wcX (uS _ _ _) (by simp only [List.length_set, List.length_cons, List.length_nil]; exact J00 (nat_lit 0x1a000186a0b41202) rfl) ?_
    refine zaV ?_
    refine zaY ?_
    rw [wcU]
    refine kK ⟨rfl, [wrd.length * p0, p0 + p1], rfl, by simp, by simp, fun v hv => ?_⟩
    rcases List.mem_cons.mp hv with e | e
    ·rw [e]; exact wy1
    ·rw [List.mem_singleton] at e
     rw [e]
     exact .inr (.inl ⟨hs3, by rw [hwd, hwd]; exact t1, by rw [hwd, hwd]; exact t2, rfl⟩)
   ·refine weU ?_
    refine zaV ?_
    refine zaY ?_
    exact kK ⟨rfl, [wrd.length * p0], rfl, by simp, by simp, one⟩
  ·refine weU ?_
   refine zaV ?_
   refine zaY ?_
   exact kK ⟨rfl, [wrd.length * p0], rfl, by simp, by simp, one⟩
 rintro r' H' ⟨rfl, vs, rfl, hvl, hvn, hvs⟩
 refine St.of ?_
 refine WS_assign_comp 7 ["back"] ["row", "place"] [] _ [0, 1] rfl (nm hN rfl) hN (by rw [hCV]; simp) rfl rfl ?_
 refine goE hN hG ?_
 refine St.of ?_
 refine C_min2 ?_
 refine St.of ?_
 refine C_range2 ?_
 have emin : min (p : Int) (w : Int) + 1 = ((min p w + 1 : Nat) : Int) := congrArg (· + (1 : Int)) (minc p w)
 rw [emin]
 refine ⟨_, _, whX (by exact J00 (nat_lit 0x61a129000f4240b) rfl) (by exact J00 (nat_lit 0x61a000f4240b12) rfl) (by exact J10 (nat_lit 0x61a8412019000f4240b) rfl) (by exact J20 (nat_lit 0x61a000f4240b84120101a3e831101a1101) rfl hw (Nat.min_le_right _ _)), fun c' hN' hG' hCV' hK' hGG hkl acc hacc => ⟨fun i r' H' => (∃ x, r' = [x, some (.ref rw), some (.int p)]) ∧ ∃ is : List Int, H' = upd (upd H wa (.list (vs.map V.int))) acc (.list (is.map V.int)) ∧ is.length ≤ i ∧ ∀ b ∈ is, ∃ b' : Nat, b = b' ∧ 1 ≤ b' ∧ b' ≤ p ∧ b' ≤ w ∧ kdF R (p - b') = kdF R p, ⟨⟨_, rfl⟩, [], rfl, by simp, fun b hb => by cases hb⟩, fun _ _ _ _ _ => trivial, ?_, ?_⟩⟩
 ·rintro i X r' H' hX ⟨⟨x, rfl⟩, is, rfl, hlen, his⟩
  unfold rngL at hX
  rw [List.getElem?_map] at hX
  obtain ⟨j', hj, rfl⟩ := Option.map_eq_some_iff.mp hX
  obtain ⟨hj1, hj2⟩ := List.getElem?_eq_some_iff.mp hj
  rw [List.getElem_range] at hj2
  subst hj2
  rw [List.length_range] at hj1
  have hi : i < min p w := by exact J30 (nat_lit 0x11a110111a210181a512841211821) rfl hj1 (Int.toNat_of_nonneg (J10 (nat_lit 0x61a51284120102) rfl))
  have ei : (1 : Int) + (i : Int) = ((i + 1 : Nat) : Int) := by exact Int.le_antisymm (J10 (nat_lit 0x61a841201480112) rfl) (J10 (nat_lit 0x61a480112841201) rfl)
  rw [ei]
  refine wdV 0 (nm hN' rfl) (hkl _ (.head _)) ?_
  refine (?_ : WT c' [some (.int (i + 1 : Nat)), some (.ref rw), some (.int p)] _ _ _)
  obtain ⟨y1, y2⟩ := A.rat (p := p - (i + 1)) (by exact J30 (nat_lit 0x11a110111a112101a2101) rfl hp (Nat.sub_le _ _))
  have q1 : upd (upd H wa (.list (vs.map V.int))) acc (.list (is.map V.int)) rw = some (.list (R.map fun (k : Nat) => V.int k)) := lkn (nW (g1 _ _ _ row) hacc) (g1 _ _ _ row)
  have ep : (p : Int) - ((i + 1 : Nat) : Int) = ((p - (i + 1) : Nat) : Int) := by exact Int.le_antisymm (J30 (nat_lit 0x61a821584121180101a4412112101) rfl (sbA _ _)) (J30 (nat_lit 0x61a584122181180121a1144122101) rfl (Nat.sub_add_cancel (J30 (nat_lit 0x1a114120111a210101a1121) rfl hi (Nat.min_le_left _ _))))
  refine goT hN' hG' ?_
  refine St.of ?_
  rw [ep]
  refine zaU q1 (by exact J10 (nat_lit 0x61a80102) rfl) (by exact J40 (nat_lit 0x71a3b9aca00b80111a211101ac22191a8015841231811) rfl hp short ep) y1 ?_
  refine St.of ?_
  refine zaU q1 (by exact J10 (nat_lit 0x61a80102) rfl) (by exact J20 (nat_lit 0x71a3b9aca00b80111a110101ac211) rfl hp short) x1 ?_
  refine waV ?_
  refine zbY (fun he => ?_) (fun he => ?_)
  ·refine (?_ : WE c' [some (.int (i + 1 : Nat)), some (.ref rw), some (.int p)] _ _ _)
   refine goE hN' hG' ?_
   refine ⟨_, uS _ _ _, by rw [List.length_map]; exact J50 (nat_lit 0x1a000186a0b0111a211101ac22101a310191a8415841231811) rfl hp short hlen ep, ⟨_, rfl⟩, is ++ [((i + 1 : Nat) : Int)], by rw [wcU, List.map_append]; rfl, by rw [List.length_append]; simp; exact J20 (nat_lit 0x1a110101a1101) rfl hlen, fun b hb => ?_⟩
   rcases List.mem_append.mp hb with e | e
   ·exact his b e
   ·rw [List.mem_singleton] at e
    exact ⟨i + 1, e, by exact J10 (nat_lit 0x1a4120112) rfl, by exact J30 (nat_lit 0x1a114120191a8215841201811) rfl ep, by exact J40 (nat_lit 0x1a114120111a210101a113181a512841231821) rfl hj1 (Nat.min_le_right _ _) (Int.toNat_of_nonneg (J10 (nat_lit 0x61a51284120102) rfl)), Int.ofNat.inj he⟩
  ·exact ⟨⟨_, rfl⟩, is, rfl, by exact J20 (nat_lit 0x1a412110101a1101) rfl hlen, his⟩
 rintro r' H' ⟨_, is, rfl, hlen, his⟩
 have g2 : ∀ (X Y : O) a o, H a = some o → upd (upd H wa X) acc Y a = some o := fun X Y a o e => by
  have n1 := nW e hwa
  refine lkn (fun q => ?_) (lkn n1 e)
  subst q
  rw [zbX _ _ n1, e] at hacc; cases hacc
 have nwa : wa ≠ acc := nW (uS _ _ _) hacc
 have hlen2 : is.length ≤ 100 := by
  have : (rngL 1 ((min p w + 1 : Nat) : Int)).length ≤ 12 := by unfold rngL; rw [List.length_map, List.length_range]; exact J40 (nat_lit 0x1ac20111a211101ac22101a113181a512841231801) rfl hp short (Nat.min_le_left _ _) (Int.toNat_of_nonneg (J10 (nat_lit 0x61a51284120102) rfl))
  exact J20 (nat_lit 0x1a06430101a110101ac211) rfl hlen this
 refine goKif (p := ⟨0, 0, 0, 0⟩) (fun r' H' => (∃ nl, r' = [some (.ref rw), some (.int p), some (.bytes wrd), some (.int w), some (.ref prs), some (.ref wa), some (.int wrd.length), some (.ref nl)]) ∧ ∃ vs : List Int, H' wa = some (.list (vs.map V.int)) ∧ vs ≠ [] ∧ (∀ v ∈ vs, WayOf z w p p0 p1 p2 (kdF R) (wdF W) v) ∧ ∀ a o, H a = some o → H' a = some o) (fun K kK => ?_) ?_
 ·have hps' := g2 (.list (vs.map V.int)) (.list (is.map V.int)) _ _ hps
  have lv1 : (vs.map V.int).length = vs.length := by simp
  refine waV ?_
  refine zbY (fun hs => ?_) (fun hs => ?_)
  ·refine wbW ?_
   refine ⟨show (0 : Nat) ≤ szL by decide, fun e0 he0 => ?_⟩
   have nae : acc ≠ e0 := nW (uS _ _ _) he0
   have nwe : wa ≠ e0 := nW (lkn nwa (uS _ _ _)) he0
   have hps2 := lkn (o' := .list []) (nW hps' he0) hps'
   refine St.of ?_
   refine CO_neints (ps := is) (qs := []) (lkn nae (uS _ _ _)) (uS _ _ _) ?_
   refine zbY (fun hne => ?_) (fun hne => ?_)
   ·obtain ⟨b, r, rfl⟩ : ∃ b r, is = b :: r := by
     cases is with
     | nil => exact absurd rfl hne
     | cons b r => exact ⟨b, r, rfl⟩
    obtain ⟨b', rfl, q1, q2, q3, q4⟩ := his b (.head _)
    have x0 : ((((b' : Int) :: r).map V.int))[((0 : Int)).toNat]? = some (V.int (b' : Int)) := rfl
    have m0 : ((wrd.length : Int)).natAbs < 2 ^ 60 ∨ ((b' : Int)).natAbs < 2 ^ 60 := .inl (naN (by exact J20 (nat_lit 0x1a3b9aca00b0101a321121a1101) rfl z3 wlen))
    have em : (wrd.length : Int) * (b' : Int) = ((wrd.length * b' : Nat) : Int) := by rw [Int.natCast_mul]
    refine St.of ?_
    refine zcU (lkn nwe (lkn nwa (uS _ _ _))) ?_
    refine St.of ?_
    refine zaU (lkn nae (uS _ _ _)) (by exact J00 (nat_lit 0x61a0202) rfl) (by exact J00 (nat_lit 0x71a3b9aca00b02) rfl) x0 ?_
    refine St.of ?_
    refine wkY m0 ?_
    refine St.of ?_
    rw [em]
    refine waZ hK (by exact J10 (nat_lit 0x1a4220142201) rfl) (lawcost_ok (lv := lv) hps2 h2 h3 (by exact J10 (nat_lit 0x1a012271a80112) rfl hs) (Nat.mul_pos (by exact J20 (nat_lit 0x11a010201a111231a1101) rfl z1 wlen) q1) ?_)
    refine St.of ?_
    refine wcX (lkn nwe (lkn nwa (uS _ _ _))) (by exact J20 (nat_lit 0x1a000186a0b0101a221121a1101) rfl hvl lv1) ?_
    refine zaV ?_
    refine zaY ?_
    refine kK ⟨⟨_, rfl⟩, vs ++ [pmF p1 p2 wrd.length (wrd.length * b')], by rw [uS, List.map_append]; rfl, by simp, fun v hv => ?_, fun a o e => ?_⟩
    ·rcases List.mem_append.mp hv with e | e
     ·exact hvs v e
     ·rw [List.mem_singleton] at e
      rw [e, wlen]
      exact .inr (.inr ⟨by exact J20 (nat_lit 0x11a011221a011171a81112) rfl wlen hs, b', q1, q2, q3, q4, rfl⟩)
    ·have := g2 (.list (vs.map V.int)) (.list (((b' : Int) :: r).map V.int)) _ _ e
     exact lkn (nW e hwa) (lkn (nW this he0) this)
   ·refine kK ⟨⟨_, rfl⟩, vs, lkn nwe (lkn nwa (uS _ _ _)), hvn, hvs, fun a o e => ?_⟩
    have := g2 (.list (vs.map V.int)) (.list (is.map V.int)) _ _ e
    exact lkn (nW this he0) this
  ·refine weU ?_
   refine zaV ?_
   refine zaY ?_
   exact kK ⟨⟨_, rfl⟩, vs, lkn nwa (uS _ _ _), hvn, hvs, fun a o e => g2 _ _ _ _ e⟩
 rintro r' H' ⟨⟨nl, rfl⟩, us, hus, hun, huv, gu⟩
 obtain ⟨j, hj, hle⟩ := min_has hun
 refine St.of ?_
 refine C_min_list hus hj hle ?_
 refine zcX ?_
 exact h H' j (huv j hj) gu
set_option tactic.hygienic false
theorem due_ok {G : Gd} {lv : Nat} {l rw ws prs : Addr} {R : List Nat} {W : List (List UInt8)} {z w most : Nat} {o : Nat → Nat} {ps : List (Nat × Nat)} {p0 p1 p2 : Int} {H : AH} {Q : V → AH → Prop} (A : RowW H rw ws R W z) (hps : H prs = some (.list [.int p0, .int p1, .int p2])) (hl : H l = some (.list (ps.map nV))) (hp : Par o R.length w most 0 ps R.length)
 (hw : w ≤ 1000) (b0 : 0 ≤ p0) (b1 : p0 ≤ 1000) (h2 : 0 ≤ p2) (h3 : p2 ≤ 1000)
 (h : ∀ H' v, Due z w p0 p1 p2 (kdF R) (wdF W) 0 ps v → (∀ a o, H a = some o → H' a = some o) → Q (.int v) H') : waX G (lv + 4) (.ref 542) [.ref l, .ref rw, .ref ws, .int w, .ref prs] H Q := by
 have a1 := A.row
 have a2 := A.words
 have z1 := A.z1
 have z3 := A.z3
 have short := A.short
 have rl : (R.map fun (k : Nat) => V.int k).length = R.length := by simp
 have wl : (W.map V.bytes).length = 4 := by rw [List.length_map, A.four]
 have x0 : (W.map V.bytes)[((0 : Int)).toNat]? = some (V.bytes (W.getD 0 [])) := A.wat (k := 0) (by exact J00 (nat_lit 0x11a4202) rfl)
 have y0 := A.wlen (k := 0) (by exact J00 (nat_lit 0x11a4202) rfl)
 refine' waY (ps := ["steps", "row", "words", "window", "prices"]) (extra := []) ?ho (ok_law_due _) rfl rfl ?hb ?_
 case ho => k_is
 case hb => exact fun s vs _ r => bnd5 (fun _ _ _ _ _  => BindsTo.of_eq rfl) r
 intro c hN hG hK hc
 subst hc
 refine (let r0 : Loc := [some (.ref l), some (.ref rw), some (.ref ws), some (.int w), some (.ref prs), none, none, none, none, none]; (?_ : WSs c r0 _ _ _))
 refine goS hN hG ?_
 refine St.of ?_
 refine zaU a2 (by exact J00 (nat_lit 0x61a0202) rfl) (by exact J00 (nat_lit 0x71a3b9aca00b02) rfl) x0 ?_
 refine St.of ?_
 refine wgQ (by exact J20 (nat_lit 0x1a000186a0b0101a321121a1101) rfl z3 y0) ?_
 refine St.of ?_
 refine WS_for ?_
 refine goE hN hG ?_
 rw [y0]
 refine ⟨_, _, (fun i r' H' => ∃ (p : Nat) (v : Int) (x y : Option V), Par o R.length w most p (ps.drop i) R.length ∧ (∀ u, Due z w p0 p1 p2 (kdF R) (wdF W) p (ps.drop i) u → Due z w p0 p1 p2 (kdF R) (wdF W) 0 ps (v + u)) ∧ (∀ a o, H a = some o → H' a = some o) ∧
  r' = [some (.ref l), some (.ref rw), some (.ref ws), some (.int w), some (.ref prs), some (.int z), some (.int p), some (.int v), x, y]), zcV hl, ⟨0, 0, _, _, hp, fun u hu => by rw [Int.zero_add]; exact hu, fun _ _ e => e, rfl⟩, ?_, ?_, ?_⟩
 ·rintro i r' H' _ ⟨p, v, x, y, _, _, g, _⟩; exact g _ _ hl
 ·rintro i X r' H' hX ⟨p, v, x, y, hP, hD, g, rfl⟩
  rw [List.getElem?_map] at hX
  obtain ⟨⟨a, b⟩, hq, rfl⟩ := Option.map_eq_some_iff.mp hX
  obtain ⟨h1, hq2⟩ := List.getElem?_eq_some_iff.mp hq
  rw [List.drop_eq_getElem_cons h1, hq2] at hP hD
  obtain ⟨hs, hr⟩ := hP
  have hle := hs.le
  have A2 := A.frame (H' := H') (fun o e => g _ o e) (fun o e => g _ o e)
  have w1 := A2.row
  have w2 := A2.words
  have w3 := g _ _ hps
  refine WA_two 8 9 hN rfl rfl ?_
  by_cases h0 : a = 0
  ·subst h0
   have hpR : p < R.length := by have : sz (0, b) = 1 := rfl; exact J30 (nat_lit 0x11a110101a114210131a1221) rfl hle this
   obtain ⟨x1, x2⟩ := A.rat hpR
   have x3 := A.wat x2
   refine goS hN hG ?_
   refine St.of ?_
   refine zaU w1 (by exact J10 (nat_lit 0x61a80102) rfl) (by exact J20 (nat_lit 0x71a3b9aca00b80101ac21111a1101) rfl short hpR) x1 ?_
   refine St.of ?_
   refine zaU w2 (by exact J10 (nat_lit 0x61a80102) rfl) (by exact J10 (nat_lit 0x71a3b9aca00b80111a4201) rfl x2) x3 ?_
   refine St.of ?_
   refine waZ hK (by exact J10 (nat_lit 0x1a4320143201) rfl) (wordcost_ok (lv := lv) A2 w3 hpR hw b0 b1 h2 h3 fun H1 u hu g1 => ?_)
   refine St.of ?_
   refine C_max2 ?_
   rw [max_sz (b := b) (.inl rfl)]
   refine ⟨p + sz (0, b), v + u, _, _, hr, fun t ht => ?_, fun a o e => g1 _ _ (g _ _ e), rfl⟩
   rw [Int.add_assoc]
   exact hD _ ⟨u, t, rfl, by rw [if_pos rfl]; exact hu, ht⟩
  ·have h02 : 2 ≤ a ∧ 1 ≤ b ∧ a ≤ R.length ∧ b ≤ w := by
    rcases hs with ⟨e, _⟩ | ⟨e, _, e2, e3, _, e4, _⟩
    ·exact absurd e h0
    ·have e : 2 ≤ a := e
     have e2 : 1 ≤ b := e2
     have e3 : b ≤ w := e3
     have e4 : p + a ≤ R.length := e4
     exact ⟨e, e2, by exact J30 (nat_lit 0x1a110101a1140121) rfl ‹_›, e3⟩
   obtain ⟨k1, k2, k3, k4⟩ := h02
   have m1 : ((z : Int)).natAbs < 2 ^ 60 ∨ ((a : Int)).natAbs < 2 ^ 60 := .inl (naN (by exact J10 (nat_lit 0x1a3b9aca00b0101a3201) rfl z3))
   have m2 : ((z : Int)).natAbs < 2 ^ 60 ∨ ((b : Int)).natAbs < 2 ^ 60 := .inl (naN (by exact J10 (nat_lit 0x1a3b9aca00b0101a3201) rfl z3))
   have e1 : (z : Int) * (a : Int) = ((z * a : Nat) : Int) := by rw [Int.natCast_mul]
   have e2 : (z : Int) * (b : Int) = ((z * b : Nat) : Int) := by rw [Int.natCast_mul]
   have za : 1 * 2 ≤ z * a := Nat.mul_le_mul z1 k1
   refine goS hN hG ?_
   refine waV ?_
   refine ite_t (by exact J10 (nat_lit 0x71a8010201a0122) rfl k1) ?_
   refine St.of ?_
   refine wkY m1 ?_
   refine St.of ?_
   refine wkY m2 ?_
   refine St.of ?_
   rw [e1, e2]
   refine waZ hK (by exact J10 (nat_lit 0x1a4320142201) rfl) (lawcost_ok (lv := lv) w3 h2 h3 (by exact J10 (nat_lit 0x1a012201a011622) rfl za) (Nat.mul_pos z1 k2) ?_)
   refine St.of ?_
   refine C_max2 ?_
   rw [max_sz (b := b) (.inr k1)]
   refine ⟨p + sz (a, b), v + pmF p1 p2 (z * a) (z * b), _, _, hr, fun t ht => ?_, g, rfl⟩
   rw [Int.add_assoc]
   exact hD _ ⟨pmF p1 p2 (z * a) (z * b), t, rfl, by rw [if_neg h0], ht⟩
 ·rintro r' H' ⟨p, v, x, y, hP, hD, g, rfl⟩
  rw [List.length_map, List.drop_length] at hD
  refine zaY ?_
  have := hD 0 rfl
  rw [Int.add_zero] at this
  exact h H' v this g
set_option tactic.hygienic false
theorem lawbox_ok {G : Gd} {lv : Nat} {H : AH} {Q : V → AH → Prop} (hns : G.ns.length ≤ 1000)
 (h : ∀ H' b, Box H' b → H b = none → (∀ a o, H a = some o → H' a = some o) → Q (.ref b) H') : waX G (lv + 1) (.ref 478) [.ref G.sc] H Q := by
 refine' waY (ps := ["script"]) (extra := []) ?ho (ok_law_box _) rfl rfl ?hb ?_
 case ho => k_is
 case hb => exact fun s vs _ r => bnd1 (fun _  => BindsTo.of_eq rfl) r
 intro c hN hG hK hc
 subst hc
 refine (let r0 : Loc := [some (.ref c.G.sc), none, none, none]; (?_ : WSs c r0 _ _ _))
 refine goS hN hG ?_
 refine St.of ?_
 refine WS_for ?_
 refine goE hN hG ?_
 refine St.of ?_
 refine SL_script (by unfold szL; exact J10 (nat_lit 0x1a01000000b0101a3e8301) rfl hns) trivial (show (0 : Int) ≤ 30 by decide) fun a ha => ?_
 generalize hvs : slV (c.G.ns.map V.int) none (some 30) = vs
 have hvi : ∀ (i : Nat) X, vs[i]? = some X → ∃ x : Int, X = .int x := fun i X hX => by
  have := List.mem_of_getElem? hX
  rw [← hvs] at this
  obtain ⟨x, _, rfl⟩ := List.mem_map.mp (List.mem_of_mem_drop (List.mem_of_mem_take this))
  exact ⟨x, rfl⟩
 refine ⟨_, _, (fun i r' H' => H' = upd H a (.list vs) ∧ ∃ (d s : Int) (x : Option V), r' = [some (.ref c.G.sc), some (.int d), some (.int s), x]), zcV (uS _ _ _), ⟨rfl, _, _, _, rfl⟩, ?_, ?_, ?_⟩
 ·rintro i r' H' _ ⟨rfl, _⟩; exact uS _ _ _
 ·rintro i X r' H' hX ⟨rfl, d, s, x, rfl⟩
  obtain ⟨y, rfl⟩ := hvi i X hX
  refine goA hN rfl ?_
  refine goS hN hG ?_
  refine St.of ?_
  refine BO_pow (by decide) (by decide) ?_
  refine waV ?_
  refine zbY (fun h0 => ?_) (fun h0 => ?_)
  ·refine St.of ?_
   refine BO_pow (by decide) (by decide) ?_
   refine wbW ?_
   exact ⟨rfl, _, _, _, rfl⟩
  ·refine St.of ?_
   refine wkY (by first | exact .inl (na60 (by omega) (by omega)) | exact .inr (na60 (by exact J00 (nat_lit 0x61a3f1302) rfl) (by exact J00 (nat_lit 0x61a3b9aca00b3f13) rfl)) | omega) ?_
   refine St.of ?_
   refine BO_mod (by exact J00 (nat_lit 0x71a7fffffedb02) rfl) ?_
   refine wbW ?_
   exact ⟨rfl, _, _, _, rfl⟩
 ·rintro r' H' ⟨rfl, d, s, x, rfl⟩
  refine zaY ?_
  refine wbW ?_
  refine ⟨show (2 : Nat) ≤ szL by decide, fun b hb => ?_⟩
  refine zcX ?_
  refine h _ b ⟨_, _, uS _ _ _⟩ (zaQ hb) fun z o e => ?_
  have n1 := nW e ha
  exact lkn (nW (lkn n1 e) hb) (lkn n1 e)
theorem slV_map {α β : Type} {f : α → β} {l : List α} {lo hi : Option Int} : slV (l.map f) lo hi = (slV l lo hi).map f := by
 unfold slV
 rw [List.map_take, List.map_drop, List.length_map]
theorem slV_mem {α : Type} {l : List α} {lo hi : Option Int} {x : α} (h : x ∈ slV l lo hi) : x ∈ l := List.mem_of_mem_drop (List.mem_of_mem_take h)
theorem slV_len {α : Type} {l : List α} {lo hi : Int} : (slV l (some lo) (some hi)).length ≤ hi.toNat - lo.toNat := by
 unfold slV
 rw [List.length_take]
 exact Nat.min_le_left _ _
theorem wkU {H H' : AH} {b x : Addr} (g : ∀ a o, a ≠ b → H a = some o → H' a = some o) (hb : Box H' b) (hx : H' x = none) : x ≠ b ∧ H x = none := by
 obtain ⟨d, s, e⟩ := hb
 have n : x ≠ b := fun q => by subst q; rw [e] at hx; cases hx
 refine ⟨n, ?_⟩
 cases q : H x with
 | none => rfl
 | some o => rw [g x o n q] at hx; cases hx
theorem Box.frame {H H' : AH} {b : Addr} (B : Box H b) (g : ∀ o, H b = some o → H' b = some o) : Box H' b := by
 obtain ⟨d, s, e⟩ := B
 exact ⟨d, s, g _ e⟩
noncomputable def ks (R : List Nat) : List V := R.map fun (k : Nat) => V.int k
theorem ks_app {R S : List Nat} : ks R ++ ks S = ks (R ++ S) := by unfold ks; rw [List.map_append]
theorem ks_int {R : List Nat} : ks R = (R.map fun (k : Nat) => (k : Int)).map V.int := by unfold ks; rw [List.map_map]; rfl
theorem ks_len {R : List Nat} : (ks R).length = R.length := by simp [ks]
inductive LR1 (H : AH) (b : Addr) (room : Nat) (r' : Loc) (H' : AH) : Prop
 | mk (kn : Int) (fd : Addr) (k4 : kn ≤ 4) (k2 : 2 ≤ kn) (e : r' = [some (.ref b), some (.int room), some (.int kn), some (.ref fd), none, none]) (hfd : H' fd = some (.list [])) (hH : H fd = none) (nb : fd ≠ b) (hb : Box H' b) (g : ∀ a o, a ≠ b → H a = some o → H' a = some o)
inductive LR2 (H : AH) (b : Addr) (room : Nat) (kn : Int) (i : Nat) (r' : Loc) (H' : AH) : Prop
 | mk (l : Addr) (R : List Nat) (x y : Option V) (e : r' = [some (.ref b), some (.int room), some (.int kn), some (.ref l), x, y]) (hl : H' l = some (.list (ks R))) (hR : ∀ k ∈ R, k < 4) (hlen : R.length ≤ 5 * i) (hlH : H l = none) (nlb : l ≠ b) (hb : Box H' b) (g : ∀ a o, a ≠ b → H a = some o → H' a = some o)
inductive LR3 (H : AH) (b l : Addr) (R : List Nat) (z : Bool) (H' : AH) : Prop
 | mk (hz : z = true → R ≠ []) (hl : H' l = some (.list (ks R))) (hb : Box H' b) (g : ∀ a o, a ≠ b → H a = some o → H' a = some o)
inductive LR4 (H : AH) (b acc : Addr) (n : Nat) (kn : Int) (j : Nat) (r' : Loc) (H' : AH) : Prop
 | mk (hj : j ≤ n) (x : Option V) (e : r' = [x, some (.ref b), some (.int kn)]) (S : List Nat) (hS : H' acc = some (.list (ks S))) (hS4 : ∀ k ∈ S, k < 4) (hSl : S.length ≤ j) (hb : Box H' b) (g : ∀ a o, a ≠ b → H a = some o → H' a = some o)
set_option maxHeartbeats 1000000 in
theorem lawrow_ok {G : Gd} {lv room : Nat} {b : Addr} {H : AH} {Q : V → AH → Prop} (hb : Box H b) (hr : room ≤ 12)
 (h : ∀ H' l R, H' l = some (.list (ks R)) → (∀ k ∈ R, k < 4) → R.length ≤ room → H l = none → l ≠ b → Box H' b → (∀ a o, a ≠ b → H a = some o → H' a = some o) → Q (.ref l) H') : waX G (lv + 2) (.ref 490) [.ref b, .int room] H Q := by
 refine' wiV (ps := ["box", "room"]) (extra := []) ?ho (ok_law_row _) rfl rfl ?hb ?_
 case ho => k_is
 case hb => exact fun s vs _ r => bnd2 (fun _ _  => BindsTo.of_eq rfl) r
 intro c hN hG hCV hK hc
 subst hc
 refine (let r0 : Loc := [some (.ref b), some (.int room), none, none, none, none]; (?_ : WSs c r0 _ _ _))
 refine goS hN hG ?_
 refine goK (LR1 H b room) rfl (fun K kK => ?_) ?_
 ·skip
  refine St.of ?_
  refine waZ hK (by exact J10 (nat_lit 0x1a4120141201) rfl) (zdZ (lv := lv) hb (by exact J00 (nat_lit 0x71a3202) rfl) (by exact J00 (nat_lit 0x71a000f4240b32) rfl) fun k d s k0 k1 => ?_)
  refine wbW ?_
  refine ⟨show (0 : Nat) ≤ szL by decide, fun fd hfd => ?_⟩
  have nfb : fd ≠ b := Ne.symm (nW (uS _ _ _) hfd)
  exact kK ⟨2 + k, fd, by exact J01 (nat_lit 0x61a424012271a3201) rfl k1, by exact J01 (nat_lit 0x61a401222261a0102) rfl k0, rfl, uS _ _ _, zaQ hfd, nfb, ⟨d, s, lkn (Ne.symm nfb) (uS _ _ _)⟩, fun a o n e => lkn (nW (lkn n e) hfd) (lkn n e)⟩
 rintro r' H1 ⟨kn, fd, kn4, kn2, rfl, hfd, hfdH, nfb, hb1, g1⟩
 refine St.of ?_
 refine WS_for ?_
 refine goE hN hG ?_
 refine St.of ?_
 refine waZ hK (by exact J10 (nat_lit 0x1a4120141201) rfl) (zdZ (lv := lv) hb1 (by exact J00 (nat_lit 0x71a3202) rfl) (by exact J00 (nat_lit 0x71a000f4240b32) rfl) fun k d s k0 k1 => ?_)
 refine St.of ?_
 refine C_range1 ?_
 refine ⟨_, _, LR2 H b room kn, whX (by exact J00 (nat_lit 0x61a029000f4240b) rfl) (by exact J00 (nat_lit 0x61a000f4240b02) rfl) (by exact J01 (nat_lit 0x61a401229000f4240b61a0102) rfl k0) (by exact J01 (nat_lit 0x61a000f4240b4012271a3201) rfl k1), ⟨fd, [], _, _, rfl, lkn nfb hfd, (fun _ hk => by cases hk), by simp, hfdH, nfb, ⟨_, _, uS _ _ _⟩, fun a o n e => lkn n (g1 a o n e)⟩, fun _ _ _ _ _ => trivial, ?_, ?_⟩
 ·rintro i X r' H2 hX ⟨l, R, x, y, rfl, hl, hR, hlen, hlH, nlb, hb2, g2⟩
  have hi : i < 10 := by
   have := (List.getElem?_eq_some_iff.mp hX).1
   unfold rngL at this; rw [List.length_map, List.length_range] at this; exact J21 (nat_lit 0x11aa20171a320111a110181a50240122811) rfl k1 this (Int.toNat_of_nonneg (J01 (nat_lit 0x61a502401220261a0102) rfl k0))
  have nlen : (ks R).length = R.length := ks_len
  refine WA_nm 4 hN rfl ?_
  simp only [setL, List.set_cons_zero, List.set_cons_succ]
  refine goS hN hG ?_
  refine goIfT (LR3 H b l R) (fun K kK => ?_) ?_
  ·skip
   refine wbW ?_
   refine ⟨show (0 : Nat) ≤ szL by decide, fun e0 he0 => ?_⟩
   obtain ⟨ne0, he0H⟩ := wkU g2 hb2 he0
   refine St.of ?_
   refine CO_neints (ps := R.map fun (k : Nat) => (k : Int)) (qs := []) (by rw [lkn (nW hl he0) hl, ks_int]) (uS _ _ _) ?_
   have hl3 : upd H2 e0 (.list []) l = some (.list (ks R)) := lkn (nW hl he0) hl
   have hb3 : Box (upd H2 e0 (.list [])) b := hb2.frame fun o e => lkn (nW e he0) e
   have g3 : ∀ a o, a ≠ b → H a = some o → upd H2 e0 (.list []) a = some o := fun a o n e => lkn (nW (g2 a o n e) he0) (g2 a o n e)
   generalize upd H2 e0 (.list []) = H3 at hl3 hb3 g3 ⊢
   refine zbY (fun hn => ?_) (fun hn => ?_)
   ·have hn : R ≠ [] := fun q => hn (by rw [q]; rfl)
    refine St.of ?_
    refine waZ hK (by exact J10 (nat_lit 0x1a4120141201) rfl) (zdZ (lv := lv) hb3 (by exact J00 (nat_lit 0x71a2202) rfl) (by exact J00 (nat_lit 0x71a000f4240b22) rfl) fun k2 d2 s2 k20 k21 => ?_)
    refine waV ?_
    have fin : ∀ z, LR3 H b l R z (upd H3 b (.list [.int d2, .int s2])) := fun z => ⟨fun _ => hn, lkn nlb hl3, ⟨_, _, uS _ _ _⟩, fun a o n e => lkn n (g3 a o n e)⟩
    refine zbY (fun h1 => ?_) (fun h1 => ?_)
    ·exact kK (fin _)
    ·exact kK (fin _)
   ·exact kK ⟨(fun e => by cases e), hl3, hb3, g3⟩
  rintro z H3 ⟨hz, hl3, hb3, g3⟩
  cases z with
  | true =>
   have hn := hz rfl
   have hR1 : 1 ≤ R.length := List.length_pos_iff.mpr hn
   refine ite_tt ?_
   refine St.of ?_
   refine C_lenl hl3 (by exact J30 (nat_lit 0x1a000186a0b0101a56211115aa22121a1101) rfl hlen hi nlen) ?_
   refine St.of ?_
   refine waZ hK (by exact J10 (nat_lit 0x1a4120141201) rfl) (zdZ (lv := lv) hb3 (by exact J20 (nat_lit 0x71a8010231a110101a1112) rfl nlen hR1) (by exact J30 (nat_lit 0x71a000f4240b80101a56211115aa22121a1101) rfl hlen hi nlen) fun k2 d2 s2 k20 k21 => ?_)
   refine St.of ?_
   refine waZ hK (by exact J10 (nat_lit 0x1a4120141201) rfl) (zdZ (lv := lv) ⟨_, _, uS _ _ _⟩ (by exact J00 (nat_lit 0x71a4202) rfl) (by exact J00 (nat_lit 0x71a000f4240b42) rfl) fun k3 d3 s3 k30 k31 => ?_)
   refine St.of ?_
   have hl4 : upd (upd H3 b (.list [.int d2, .int s2])) b (.list [.int d3, .int s3]) l = some (.list (ks R)) := lkn nlb (lkn nlb hl3)
   have g4 : ∀ a o, a ≠ b → H a = some o → upd (upd H3 b (.list [.int d2, .int s2])) b (.list [.int d3, .int s3]) a = some o := fun a o n e => lkn n (lkn n (g3 a o n e))
   have hb4 : Box (upd (upd H3 b (.list [.int d2, .int s2])) b (.list [.int d3, .int s3])) b := ⟨_, _, uS _ _ _⟩
   generalize upd (upd H3 b (.list [.int d2, .int s2])) b (.list [.int d3, .int s3]) = H4 at hl4 g4 hb4 ⊢
   refine SL_list hl4 (by rw [ks_len]; unfold szL; exact J20 (nat_lit 0x1a01000000b0101a56110115aa211) rfl hlen hi) (show 0 ≤ k2 from k20) (show 0 ≤ k2 + 2 + k3 by exact J02 (nat_lit 0x61a411422010261a010261a1102) rfl k20 k30) fun l4 hl4n => ?_
   obtain ⟨n4, hl4H⟩ := wkU g4 hb4 hl4n
   have sl := slV_len (l := R) (lo := k2) (hi := k2 + 2 + k3)
   have sm : ∀ k ∈ slV R (some k2) (some (k2 + 2 + k3)), k < 4 := fun k hk => hR k (slV_mem hk)
   have es : slV (ks R) (some k2) (some (k2 + 2 + k3)) = ks (slV R (some k2) (some (k2 + 2 + k3))) := slV_map
   rw [es]
   generalize slV R (some k2) (some (k2 + 2 + k3)) = S at sl sm ⊢
   have g5 : ∀ a o, a ≠ b → H a = some o → upd H4 l4 (.list (ks S)) a = some o := fun a o n e => lkn (nW (g4 a o n e) hl4n) (g4 a o n e)
   have hb5 : Box (upd H4 l4 (.list (ks S))) b := hb4.frame fun o e => lkn (nW e hl4n) e
   refine St.of ?_
   refine BO_addlist (lkn (nW hl4 hl4n) hl4) (uS _ _ _) (by rw [ks_len, ks_len]; exact J62 (nat_lit 0x1a000186a0b4110101a56210115aa22171a420101a311121a514413181a4014221185191a11841) rfl hlen hi k31 sl (Nat.sub_add_cancel (J22 (nat_lit 0x1a110161a010291a4014221181181a11801) rfl k30 (Int.toNat_of_nonneg (J02 (nat_lit 0x61a411422010261a010261a1102) rfl k20 k30)) (Int.toNat_of_nonneg (J01 (nat_lit 0x61a010261a0102) rfl k20)))) (Int.toNat_of_nonneg (J12 (nat_lit 0x61a411422010281a41142201801) rfl (Int.toNat_of_nonneg (J02 (nat_lit 0x61a411422010261a010261a1102) rfl k20 k30)))) (Int.toNat_of_nonneg (J01 (nat_lit 0x61a010261a0102) rfl k20))) fun l5 hl5 => ?_
   obtain ⟨n5, hl5H⟩ := wkU g5 hb5 hl5
   refine zaV ?_
   refine zaY ?_
   refine zaV ?_
   refine wiX ?_
   refine ⟨l5, R ++ S, _, _, rfl, by rw [uS, ks_app], fun k hk => ?_, by rw [List.length_append]; exact J62 (nat_lit 0x1a56412214110101a56210171a420101a311121a514413181a4014221185191a11841) rfl hlen k31 sl (Nat.sub_add_cancel (J22 (nat_lit 0x1a110161a010291a4014221181181a11801) rfl k30 (Int.toNat_of_nonneg (J02 (nat_lit 0x61a411422010261a010261a1102) rfl k20 k30)) (Int.toNat_of_nonneg (J01 (nat_lit 0x61a010261a0102) rfl k20)))) (Int.toNat_of_nonneg (J12 (nat_lit 0x61a411422010281a41142201801) rfl (Int.toNat_of_nonneg (J02 (nat_lit 0x61a411422010261a010261a1102) rfl k20 k30)))) (Int.toNat_of_nonneg (J01 (nat_lit 0x61a010261a0102) rfl k20)), hl5H, n5, hb5.frame fun o e => lkn (nW e hl5) e, fun a o n e => lkn (nW (g5 a o n e) hl5) (g5 a o n e)⟩
   rcases List.mem_append.mp hk with e | e
   ·exact hR k e
   ·exact sm k e
  | false =>
   refine weU ?_
   refine St.of ?_
   refine WE_comp ["k"] ["box", "kinds"] ["_law_take"] _ [0, 2] rfl hN (by rw [hCV]; simp) rfl rfl ?_
   refine goE hN hG ?_
   refine St.of ?_
   refine waZ hK (by exact J10 (nat_lit 0x1a4120141201) rfl) (zdZ (lv := lv) hb3 (by exact J00 (nat_lit 0x71a4202) rfl) (by exact J00 (nat_lit 0x71a000f4240b42) rfl) fun k2 d2 s2 k20 k21 => ?_)
   refine St.of ?_
   refine C_range1 ?_
   have hl4 : upd H3 b (.list [.int d2, .int s2]) l = some (.list (ks R)) := lkn nlb hl3
   have g4 : ∀ a o, a ≠ b → H a = some o → upd H3 b (.list [.int d2, .int s2]) a = some o := fun a o n e => lkn n (g3 a o n e)
   have hb4 : Box (upd H3 b (.list [.int d2, .int s2])) b := ⟨_, _, uS _ _ _⟩
   generalize upd H3 b (.list [.int d2, .int s2]) = H4 at hl4 g4 hb4 ⊢
   have hrl : (rngL 0 (1 + k2)).length ≤ 4 := by unfold rngL; rw [List.length_map, List.length_range]; exact J11 (nat_lit 0x1a420171a420181a50240112801) rfl k21 (Int.toNat_of_nonneg (J01 (nat_lit 0x61a502401120261a0102) rfl k20))
   refine ⟨_, _, whX (by exact J00 (nat_lit 0x61a029000f4240b) rfl) (by exact J00 (nat_lit 0x61a000f4240b02) rfl) (by exact J01 (nat_lit 0x61a401129000f4240b61a0102) rfl k20) (by exact J01 (nat_lit 0x61a000f4240b4011271a4201) rfl k21), fun c' hN' hG' hCV' hK' hGG hkl acc hacc => ⟨LR4 H4 b acc (rngL 0 (1 + k2)).length kn, ⟨Nat.zero_le _, _, rfl, [], uS _ _ _, (fun _ hk => by cases hk), by simp, hb4.frame fun o e => lkn (nW e hacc) e, fun a o n e => lkn (nW e hacc) e⟩, fun _ _ _ _ _ => trivial, ?_, ?_⟩⟩
   ·rintro j X r' H' hX ⟨hjl, x, rfl, S, hS, hS4, hSl, hbS, gS⟩
    obtain ⟨nab, _⟩ := wkU g4 hb4 hacc
    have hj := (List.getElem?_eq_some_iff.mp hX).1
    refine wdV 0 (nm hN' rfl) (hkl _ (.head _)) ?_
    have hK2 : c'.k = lv + 1 := hK'.trans hK
    refine (?_ : WE c' [some X, some (.ref b), some (.int kn)] _ _ _)
    refine goE hN' hG' ?_
    refine St.of ?_
    refine waZ hK2 (by exact J10 (nat_lit 0x1a4120141201) rfl) (zdZ (lv := lv) hbS (by exact J01 (nat_lit 0x71a010261a0122) rfl kn2) (by exact J01 (nat_lit 0x71a000f4240b0161a4201) rfl kn4) fun k5 d5 s5 k50 k51 => ?_)
    refine ⟨ks S, lkn nab hS, by rw [ks_len]; exact J30 (nat_lit 0x1a000186a0b0101a421101a210111a1121) rfl hrl hSl hj, hj, _, rfl, S ++ [k5.toNat], ?_, fun k hk => ?_, by rw [List.length_append]; simp; exact J20 (nat_lit 0x1a110101a1101) rfl hSl, ⟨d5, s5, lkn (Ne.symm nab) (uS _ _ _)⟩, fun a o n e => lkn (nW e hacc) (lkn n (gS a o n e))⟩
    ·rw [uS, ← ks_app]; unfold ks; simp only [List.map_cons, List.map_nil]; rw [Int.toNat_of_nonneg k50]
    ·rcases List.mem_append.mp hk with e | e
     ·exact hS4 k e
     ·rw [List.mem_singleton] at e; omega
   ·rintro r' H' ⟨_, _, _, S, hS, hS4, hSl, hbS, gS⟩
    have g5 : ∀ a o, a ≠ b → H a = some o → H' a = some o := fun a o n e => gS a o n (g4 a o n e)
    refine St.of ?_
    refine BO_addlist (gS l _ nlb hl4) hS (by rw [ks_len, ks_len]; exact J40 (nat_lit 0x1a000186a0b4110101a56210115aa22101a423101a3111) rfl hlen hi hrl hSl) fun l5 hl5 => ?_
    obtain ⟨n5, hl5H⟩ := wkU g5 hbS hl5
    refine zaV ?_
    refine zaY ?_
    refine zaV ?_
    refine wiX ?_
    refine ⟨l5, R ++ S, _, _, rfl, by rw [uS, ks_app], fun k hk => ?_, by rw [List.length_append]; exact J40 (nat_lit 0x1a56412214110101a56210101a423101a3111) rfl hlen hrl hSl, hl5H, n5, hbS.frame fun o e => lkn (nW e hl5) e, fun a o n e => lkn (nW (g5 a o n e) hl5) (g5 a o n e)⟩
    rcases List.mem_append.mp hk with e | e
    ·exact hR k e
    ·exact hS4 k e
 ·rintro r' H2 ⟨l, R, x, y, rfl, hl, hR, hlen, hlH, nlb, hb2, g2⟩
  have hlen2 : R.length ≤ 100 := by
   have : (rngL 0 (2 + k)).length ≤ 10 := by unfold rngL; rw [List.length_map, List.length_range]; exact J11 (nat_lit 0x1aa20171a320181a50240122801) rfl k1 (Int.toNat_of_nonneg (J01 (nat_lit 0x61a502401220261a0102) rfl k0))
   exact J20 (nat_lit 0x1a06430101a56110105aa211) rfl hlen this
  refine zaY ?_
  refine St.of ?_
  refine SL_list hl (by rw [ks_len]; unfold szL; exact J10 (nat_lit 0x1a01000000b0101a064301) rfl hlen2) trivial (show (0 : Int) ≤ room by exact J10 (nat_lit 0x61a80102) rfl) fun l2 hl2 => ?_
  refine zcX ?_
  have n2 : l2 ≠ b := fun q => by subst q; obtain ⟨_, _, e⟩ := hb2; rw [e] at hl2; cases hl2
  refine h _ l2 (slV R none (some room)) (by rw [uS]; unfold ks; rw [slV_map]) (fun k hk => hR k (slV_mem hk)) ?_ ?_ n2 (hb2.frame fun o e => lkn (nW e hl2) e) fun a o n e => lkn (nW (g2 a o n e) hl2) (g2 a o n e)
  ·unfold slV; rw [List.length_take]; show min (room - 0) _ ≤ room; exact J30 (nat_lit 0x1a110101a210121a1140221) rfl (Nat.min_le_left _ _) (Nat.sub_add_cancel (J10 (nat_lit 0x1a0102) rfl))
  ·cases q : H l2 with
   | none => rfl
   | some o => rw [g2 _ _ n2 q] at hl2; cases hl2
set_option tactic.hygienic false
theorem four_at {k : Int} (h0 : 0 ≤ k) (h1 : k < 4) : ∃ x : UInt8, [V.int 97, V.int 0, V.int 255, V.int 98][k.toNat]? = some (V.int x.toNat) := by
 have : k = 0 ∨ k = 1 ∨ k = 2 ∨ k = 3 := lti4 (by exact J01 (nat_lit 0x61a010261a0102) rfl h0) (by exact J01 (nat_lit 0x71a420171a4201) rfl h1)
 rcases this with rfl | rfl | rfl | rfl
 ·exact ⟨97, rfl⟩
 ·exact ⟨0, rfl⟩
 ·exact ⟨255, rfl⟩
 ·exact ⟨98, rfl⟩
noncomputable def us (l : List UInt8) : List V := l.map fun b => V.int b.toNat
inductive LW1 (H : AH) (b : Addr) (z : Nat) (r' : Loc) (H' : AH) : Prop
 | mk (wy sh : Int) (oct : Addr) (w0 : 0 ≤ wy) (w1 : wy < 4) (s0 : 0 ≤ sh) (s1 : sh < 4) (e : r' = [some (.ref b), some (.int z), some (.ref oct), some (.int wy), some (.int sh)]) (ho : H' oct = some (.list [.int 97, .int 0, .int 255, .int 98])) (hH : H oct = none) (nb : oct ≠ b) (hb : Box H' b) (g : ∀ a o, a ≠ b → H a = some o → H' a = some o)
inductive LW2 (H : AH) (b acc : Addr) (R : Option V → Loc) (z j : Nat) (r' : Loc) (H' : AH) : Prop
 | mk (hj : j ≤ (rngL 0 4).length) (x : Option V) (e : r' = R x) (W : List (List UInt8)) (hW : H' acc = some (.list (W.map V.bytes))) (hl : W.length = j) (hz : ∀ x ∈ W, x.length = z) (hb : Box H' b) (g : ∀ a o, a ≠ b → H a = some o → H' a = some o)
inductive LW3 (H : AH) (b acc oct : Addr) (z t : Nat) (r' : Loc) (H' : AH) : Prop
 | mk (ht : t ≤ (rngL 0 (z : Int)).length) (x : Option V) (e : r' = [x, some (.ref b), some (.ref oct)]) (S : List UInt8) (hS : H' acc = some (.list (us S))) (hl : S.length = t) (hb : Box H' b) (g : ∀ a o, a ≠ b → H a = some o → H' a = some o)
set_option maxHeartbeats 1000000 in
theorem lawwords_ok {G : Gd} {lv z : Nat} {b : Addr} {H : AH} {Q : V → AH → Prop} (hb : Box H b) (hz1 : 1 ≤ z) (hz3 : z ≤ 3)
 (h : ∀ H' l (W : List (List UInt8)), H' l = some (.list (W.map V.bytes)) → W.length = 4 → (∀ x ∈ W, x.length = z) → H l = none → l ≠ b → Box H' b → (∀ a o, a ≠ b → H a = some o → H' a = some o) → Q (.ref l) H') : waX G (lv + 2) (.ref 495) [.ref b, .int z] H Q := by
 refine' wiV (ps := ["box", "size"]) (extra := []) ?ho (ok_law_words _) rfl rfl ?hb ?_
 case ho => k_is
 case hb => exact fun s vs _ r => bnd2 (fun _ _  => BindsTo.of_eq rfl) r
 intro c hN hG hCV hK hc
 subst hc
 refine (let r0 : Loc := [some (.ref b), some (.int z), none, none, none]; (?_ : WSs c r0 _ _ _))
 refine goS hN hG ?_
 refine goK (LW1 H b z) rfl (fun K kK => ?_) ?_
 ·skip
  refine wbW ?_
  refine ⟨show (4 : Nat) ≤ szL by decide, fun oct hoct => ?_⟩
  have nob : oct ≠ b := fun q => by subst q; obtain ⟨_, _, e⟩ := hb; rw [e] at hoct; cases hoct
  refine St.of ?_
  refine waZ hK (by exact J10 (nat_lit 0x1a4120141201) rfl) (zdZ (lv := lv) (hb.frame fun o e => lkn (nW e hoct) e) (by exact J00 (nat_lit 0x71a4202) rfl) (by exact J00 (nat_lit 0x71a000f4240b42) rfl) fun k d s k0 k1 => ?_)
  refine St.of ?_
  refine waZ hK (by exact J10 (nat_lit 0x1a4120141201) rfl) (zdZ (lv := lv) ⟨_, _, uS _ _ _⟩ (by exact J00 (nat_lit 0x71a4202) rfl) (by exact J00 (nat_lit 0x71a000f4240b42) rfl) fun k2 d2 s2 k20 k21 => ?_)
  exact kK ⟨k, k2, oct, k0, k1, k20, k21, rfl, lkn nob (lkn nob (uS _ _ _)), hoct, nob, ⟨_, _, uS _ _ _⟩, fun a o n e => lkn n (lkn n (lkn (nW e hoct) e))⟩
 rintro r' H1 ⟨wy, sh, oct, wy0, wy1, sh0, sh1, rfl, hoct, hoctH, nob, hb1, g1⟩
 refine goIfT (p := ⟨0, 0, 0, 0⟩) (fun t H' => H' = H1 ∧ (t = false → wy < 3 ∧ z = 1)) (fun K kK => ?_) ?_
 ·skip
  refine waV ?_
  refine zbY (fun h0 => ?_) (fun h0 => ?_)
  ·exact kK ⟨rfl, (fun e => by cases e)⟩
  ·refine waV ?_
   refine zbY (fun h1 => ?_) (fun h1 => ?_)
   ·exact kK ⟨rfl, (fun e => by cases e)⟩
   ·exact kK ⟨rfl, fun _ => ⟨by omega, by exact Nat.le_antisymm (J10 (nat_lit 0x1a1201b1a80112) rfl h0) (J10 (nat_lit 0x1a011201a0112) rfl hz1)⟩⟩
 rintro t H2 ⟨rfl, ht⟩
 cases t with
 | true =>
  refine ite_tt ?_
  refine St.of ?_
  refine WE_comp ["kind"] ["box", "octets", "size"] ["bytes", "range"] _ [0, 2, 1] rfl hN (by rw [hCV]; simp) rfl rfl ?_
  refine goE hN hG ?_
  refine St.of ?_
  refine C_range1 ?_
  have hrl : (rngL 0 4).length = 4 := by decide
  refine ⟨_, _, whX (by exact J00 (nat_lit 0x61a029000f4240b) rfl) (by exact J00 (nat_lit 0x61a000f4240b02) rfl) (by exact J00 (nat_lit 0x61a429000f4240b) rfl) (by exact J00 (nat_lit 0x61a000f4240b42) rfl), fun c' hN' hG' hCV' hK' hGG hkl acc hacc => ⟨LW2 H2 b acc (fun x => [x, some (.ref b), some (.ref oct), some (.int z)]) z, ⟨Nat.zero_le _, _, rfl, [], uS _ _ _, rfl, (fun _ hk => by cases hk), hb1.frame fun o e => lkn (nW e hacc) e, fun a o n e => lkn (nW e hacc) e⟩, fun _ _ _ _ _ => trivial, ?_, ?_⟩⟩
  ·rintro j X r' H3 hX ⟨hjl, x, rfl, W, hW, hWl, hWz, hb3, g3⟩
   obtain ⟨nab, _⟩ := wkU g1 hb1 hacc
   have hj := (List.getElem?_eq_some_iff.mp hX).1
   refine wdV 0 (nm hN' rfl) (hkl _ (.head _)) ?_
   have hK2 : c'.k = lv + 1 := hK'.trans hK
   refine (?_ : WE c' [some X, some (.ref b), some (.ref oct), some (.int z)] _ _ _)
   refine goE hN' hG' ?_
   refine St.of ?_
   refine WE_comp ["k"] ["box", "octets"] ["_law_take"] _ [1, 2] rfl hN' (by rw [hCV']; simp) rfl rfl ?_
   refine goE hN' hG' ?_
   refine St.of ?_
   refine C_range1 ?_
   have hrz : (rngL 0 (z : Int)).length = z := by unfold rngL; rw [List.length_map, List.length_range]; exact Nat.le_antisymm (J20 (nat_lit 0x1a110181a502811801) rfl (Int.toNat_of_nonneg (J10 (nat_lit 0x61a5028010201a0112) rfl hz1))) (J20 (nat_lit 0x1a110191a502801811) rfl (Int.toNat_of_nonneg (J10 (nat_lit 0x61a5028010201a0112) rfl hz1)))
   refine ⟨_, _, whX (by exact J00 (nat_lit 0x61a029000f4240b) rfl) (by exact J00 (nat_lit 0x61a000f4240b02) rfl) (by exact J10 (nat_lit 0x61a8019000f4240b01a0112) rfl hz1) (by exact J10 (nat_lit 0x61a000f4240b80101a3201) rfl hz3), fun c2 hN2 hG2 hCV2 hK3 hGG2 hkl2 acc2 hacc2 => ⟨LW3 H3 b acc2 oct z, ⟨Nat.zero_le _, _, rfl, [], uS _ _ _, rfl, hb3.frame fun o e => lkn (nW e hacc2) e, fun a o n e => lkn (nW e hacc2) e⟩, fun _ _ _ _ _ => trivial, ?_, ?_⟩⟩
   ·rintro t Y r' H4 hY ⟨htl, y, rfl, S, hS, hSl, hb4, g4⟩
    obtain ⟨nab2, _⟩ := wkU g3 hb3 hacc2
    have ht2 := (List.getElem?_eq_some_iff.mp hY).1
    refine wdV 0 (nm hN2 rfl) (hkl2 _ (.head _)) ?_
    have hK4 : c2.k = lv + 1 := hK3.trans hK2
    refine (?_ : WE c2 [some Y, some (.ref b), some (.ref oct)] _ _ _)
    refine goE hN2 hG2 ?_
    refine St.of ?_
    refine waZ hK4 (by exact J10 (nat_lit 0x1a4120141201) rfl) (zdZ (lv := lv) hb4 (by exact J00 (nat_lit 0x71a2202) rfl) (by exact J00 (nat_lit 0x71a000f4240b22) rfl) fun k5 d5 s5 k50 k51 => ?_)
    obtain ⟨u, hu⟩ := four_at k50 (by exact J01 (nat_lit 0x71a420171a2201) rfl k51)
    refine St.of ?_
    try refine zaU (lkn nob (g4 _ _ nob (g3 _ _ nob hoct))) k50 (by exact J01 (nat_lit 0x71a3b9aca00b0171a2201) rfl k51) hu ?_
    refine ⟨us S, lkn nab2 hS, by unfold us; rw [List.length_map]; exact J40 (nat_lit 0x1a000186a0b0101a321121a112121a310111a2131) rfl hz3 hrz hSl ht2, ht2, _, rfl, S ++ [u], ?_, ?_, ⟨d5, s5, lkn (Ne.symm nab2) (uS _ _ _)⟩, fun a o n e => lkn (nW e hacc2) (lkn n (g4 a o n e))⟩
    ·rw [uS]; unfold us; rw [List.map_append]; rfl
    ·rw [List.length_append]; simp; exact Nat.le_antisymm (J20 (nat_lit 0x1a110121a1101) rfl hSl) (J20 (nat_lit 0x1a110131a0111) rfl hSl)
   ·rintro r' H4 ⟨_, _, _, S, hS, hSl, hb4, g4⟩
    refine St.of ?_
    refine wkZ hS (by unfold szL; exact J30 (nat_lit 0x1a01000000b0101a321121a112121a2101) rfl hz3 hrz hSl) ?_
    have hA := g4 _ _ nab hW
    refine ⟨W.map V.bytes, hA, by rw [List.length_map]; exact J30 (nat_lit 0x1a000186a0b0121a421101a112121a2101) rfl hrl hjl hWl, hj, _, rfl, W ++ [S], by rw [uS, List.map_append]; rfl, by rw [List.length_append]; simp; exact Nat.le_antisymm (J20 (nat_lit 0x1a110121a1101) rfl hWl) (J20 (nat_lit 0x1a110131a0111) rfl hWl), fun w hw => ?_, hb4.frame fun o e => lkn (fun q => by subst q; exact nab rfl) e, fun a o n e => lkn (nW e hacc) (g4 _ _ n (g3 _ _ n e))⟩
    rcases List.mem_append.mp hw with e | e
    ·exact hWz w e
    ·rw [List.mem_singleton] at e; rw [e]; exact Nat.le_antisymm (J30 (nat_lit 0x1a110121a112121a2101) rfl hrz hSl) (J30 (nat_lit 0x1a110131a012131a2111) rfl hrz hSl)
  ·rintro r' H3 ⟨_, _, _, W, hW, hWl, hWz, hb3, g3⟩
   obtain ⟨nab, haH⟩ := wkU g1 hb1 hacc
   exact h H3 acc W hW (by exact Nat.le_antisymm (J20 (nat_lit 0x1a420121a421121a1101) rfl hrl hWl) (J20 (nat_lit 0x1a014231a421131a1101) rfl hrl hWl)) hWz haH nab hb3 fun a o n e => g3 a o n (g1 a o n e)
 | false =>
  obtain ⟨ht, hz⟩ := ht rfl
  subst hz
  refine weU ?_
  refine zaV ?_
  refine zaY ?_
  refine St.of ?_
  refine WE_comp ["kind"] ["octets", "shift", "way"] ["bytes"] _ [2, 4, 3] rfl hN (by rw [hCV]; simp) rfl rfl ?_
  refine goE hN hG ?_
  refine St.of ?_
  refine C_range1 ?_
  have hrl : (rngL 0 4).length = 4 := by decide
  refine ⟨_, _, whX (by exact J00 (nat_lit 0x61a029000f4240b) rfl) (by exact J00 (nat_lit 0x61a000f4240b02) rfl) (by exact J00 (nat_lit 0x61a429000f4240b) rfl) (by exact J00 (nat_lit 0x61a000f4240b42) rfl), fun c' hN' hG' hCV' hK' hGG hkl acc hacc => ⟨LW2 H2 b acc (fun x => [x, some (.ref oct), some (.int sh), some (.int wy)]) 1, ⟨Nat.zero_le _, _, rfl, [], uS _ _ _, rfl, (fun _ hk => by cases hk), hb1.frame fun o e => lkn (nW e hacc) e, fun a o n e => lkn (nW e hacc) e⟩, fun _ _ _ _ _ => trivial, ?_, ?_⟩⟩
  ·rintro j X r' H3 hX ⟨hjl, x, rfl, W, hW, hWl, hWz, hb3, g3⟩
   obtain ⟨nab, _⟩ := wkU g1 hb1 hacc
   have hj := (List.getElem?_eq_some_iff.mp hX).1
   obtain ⟨kd, rfl⟩ : ∃ i : Int, X = .int i := by
    unfold rngL at hX
    rw [List.getElem?_map] at hX
    obtain ⟨i, _, e⟩ := Option.map_eq_some_iff.mp hX
    exact ⟨_, e.symm⟩
   refine wdV 0 (nm hN' rfl) (hkl _ (.head _)) ?_
   refine (?_ : WE c' [some (.int kd), some (.ref oct), some (.int sh), some (.int wy)] _ _ _)
   refine goE hN' hG' ?_
   refine wbW ?_
   refine ⟨show (3 : Nat) ≤ szL by decide, fun e0 he0 => ?_⟩
   obtain ⟨m, hm, hm2⟩ : ∃ m : Int, [V.int 1, V.int 3, V.int 0][wy.toNat]? = some (V.int m) ∧ 0 ≤ m ∧ m ≤ 3 := by
    have : wy = 0 ∨ wy = 1 ∨ wy = 2 := lti3 (by exact J01 (nat_lit 0x61a010261a0102) rfl wy0) (by exact J01 (nat_lit 0x71a320171a3201) rfl ‹_›)
    rcases this with rfl | rfl | rfl
    ·exact ⟨1, rfl, by decide⟩
    ·exact ⟨3, rfl, by decide⟩
    ·exact ⟨0, rfl, by decide⟩
   refine St.of ?_
   refine zaU (uS _ _ _) wy0 (by exact J01 (nat_lit 0x71a3b9aca00b0171a4201) rfl wy1) hm ?_
   refine St.of ?_
   refine wkY (by first | exact .inl (na60 (by exact J01 (nat_lit 0x61a010261a0102) rfl hm2.1) (by exact J01 (nat_lit 0x61a3b9aca00b0161a3201) rfl hm2.2)) | exact .inr (na60 (by omega) (by omega)) | omega) ?_
   refine St.of ?_
   refine BO_mod (by exact J00 (nat_lit 0x71a4202) rfl) ?_
   refine St.of ?_
   obtain ⟨u, hu⟩ := four_at (k := (m * kd + sh) % 4) (Int.emod_nonneg _ (by decide)) (Int.emod_lt_of_pos _ (by decide))
   try refine zaU (lkn (nW (g3 _ _ nob hoct) he0) (g3 _ _ nob hoct)) (Int.emod_nonneg _ (by decide)) (Int.lt_trans (Int.emod_lt_of_pos _ (by decide)) (by decide)) hu ?_
   refine wbW ?_
   refine ⟨show (1 : Nat) ≤ szL by decide, fun e1 he1 => ?_⟩
   refine St.of ?_
   refine wkZ (bs := [u]) (uS _ _ _) (show (1 : Nat) ≤ szL by decide) ?_
   have nae : acc ≠ e0 := nW hW he0
   have nae1 : acc ≠ e1 := nW (lkn nae hW) he1
   have g5 : ∀ (P Q : O) a o, H3 a = some o → upd (upd H3 e0 P) e1 Q a = some o := fun P Q a o e => by
    have n1 := nW e he0
    refine lkn (fun q => ?_) (lkn n1 e)
    subst q; rw [zbX _ _ n1, e] at he1; cases he1
   refine ⟨W.map V.bytes, lkn nae1 (lkn nae hW), by rw [List.length_map]; exact J30 (nat_lit 0x1a000186a0b0121a421101a112121a2101) rfl hrl hjl hWl, hj, _, rfl, W ++ [[u]], by rw [uS, List.map_append]; rfl, by rw [List.length_append]; simp; exact Nat.le_antisymm (J20 (nat_lit 0x1a110121a1101) rfl hWl) (J20 (nat_lit 0x1a110131a0111) rfl hWl), fun w hw => ?_, hb3.frame fun o e => lkn (fun q => by subst q; exact nab rfl) (g5 _ _ _ _ e), fun a o n e => lkn (nW e hacc) (g5 _ _ _ _ (g3 _ _ n e))⟩
   rcases List.mem_append.mp hw with e | e
   ·exact hWz w e
   ·rw [List.mem_singleton] at e; rw [e]; rfl
  ·rintro r' H3 ⟨_, _, _, W, hW, hWl, hWz, hb3, g3⟩
   refine zcX ?_
   obtain ⟨nab, haH⟩ := wkU g1 hb1 hacc
   exact h H3 acc W hW (by exact Nat.le_antisymm (J20 (nat_lit 0x1a420121a421121a1101) rfl hrl hWl) (J20 (nat_lit 0x1a014231a421131a1101) rfl hrl hWl)) hWz haH nab hb3 fun a o n e => g3 a o n (g1 a o n e)
set_option tactic.hygienic false
theorem oc_app {a b : List UInt8} {i : Nat} : oc (a ++ b) i = if i < a.length then oc a i else oc b (i - a.length) := by
 unfold oc
 rw [List.getD_eq_getElem?_getD, List.getElem?_append]
 split
 ·rw [List.getD_eq_getElem?_getD]
 ·rw [List.getD_eq_getElem?_getD]
theorem joinW_oc {W : List (List UInt8)} {z : Nat} : ∀ {R : List Nat} {p j : Nat}, (∀ k ∈ R, (W.getD k []).length = z) → p < R.length → j < z → oc (waU W R) (z * p + j) = oc (W.getD (R.getD p 0) []) j
 | [], p, j, _, hp, _ => by simp at hp
 | k :: R, 0, j, h, hp, hj => by
  have e : waU W (k :: R) = W.getD k [] ++ waU W R := by unfold waU; rw [List.map_cons, List.flatten_cons]
  rw [e, oc_app, if_pos (by rw [h k (.head _)]; exact J20 (nat_lit 0x11a01411070111a0111) rfl hj), Nat.mul_zero, Nat.zero_add]; rfl
 | k :: R, p + 1, j, h, hp, hj => by
  have e : waU W (k :: R) = W.getD k [] ++ waU W R := by unfold waU; rw [List.map_cons, List.flatten_cons]
  have e2 : z * (p + 1) + j = z + (z * p + j) := by rw [Nat.mul_add]; exact Nat.le_antisymm (J30 (nat_lit 0x1a442101114214171101) rfl) (J30 (nat_lit 0x1a421417011144211101) rfl)
  rw [e, oc_app, h k (.head _), if_neg (by exact fun hq => Nat.lt_irrefl 0 (J40 (nat_lit 0x10a020231a441131214110111a2141101) rfl e2 hq)), e2, Nat.add_sub_cancel_left, joinW_oc (fun x hx => h x (.tail _ hx)) (by simpa using hp) hj]; rfl
theorem rep_oc {l : List UInt8} : ∀ {t i : Nat}, i < l.length * t → oc ((List.replicate t l).flatten) i = oc l (i % l.length)
 | 0, i, h => by simp at h
 | t + 1, i, h => by
  rw [List.replicate_succ, List.flatten_cons, oc_app]
  split
  ·rename_i hi; rw [Nat.mod_eq_of_lt hi]
  ·rename_i hi
   have h2 : l.length * (t + 1) = l.length * t + l.length := by rw [Nat.mul_add, Nat.mul_one]
   rw [rep_oc (by exact J50 (nat_lit 0x11a110111a312121a441113121a2144101) rfl h h2 (Nat.sub_add_cancel (J20 (nat_lit 0x1a110151a0111) rfl hi))), ← Nat.mod_eq_sub_mod (by exact J20 (nat_lit 0x1a110151a0111) rfl hi)]
theorem rep_len {l : List UInt8} {t : Nat} : ((List.replicate t l).flatten).length = l.length * t := by
 rw [List.length_flatten, List.map_replicate, List.sum_replicate_nat, Nat.mul_comm]
noncomputable def nI (s : Nat × Nat) : Int × Int := (s.1, s.2)
theorem nV_prV {ps : List (Nat × Nat)} : ps.map nV = (ps.map nI).map prV := by rw [List.map_map]; rfl
theorem three_at {k : Int} (h0 : 0 ≤ k) (h1 : k < 3) : ∃ x : UInt8, [V.int 97, V.int 0, V.int 255][k.toNat]? = some (V.int x.toNat) := by
 have : k = 0 ∨ k = 1 ∨ k = 2 := lti3 (by exact J01 (nat_lit 0x61a010261a0102) rfl h0) (by exact J01 (nat_lit 0x71a320171a3201) rfl h1)
 rcases this with rfl | rfl | rfl
 ·exact ⟨97, rfl⟩
 ·exact ⟨0, rfl⟩
 ·exact ⟨255, rfl⟩
theorem gr_len {o : Nat → Nat} {n w most : Nat} : ∀ {f p : Nat}, (gr o n w most f p).length ≤ f
 | 0, _ => Nat.le_refl _
 | f + 1, p => by
  unfold gr
  split
  ·rw [List.length_cons]; exact Nat.succ_le_succ gr_len
  ·exact Nat.zero_le _
set_option maxHeartbeats 1000000 in
theorem again_ok {G : Gd} {lv most room : Nat} {b : Addr} {H : AH} {Q : V → AH → Prop} (hb : Box H b) (hm : 2 ≤ most) (hm2 : most ≤ 1000) (hroom : room = 6 ∨ room = 12)
 (h : ∀ H', Q (.bool true) H') : waX G (lv + 10) (.ref 573) [.ref b, .int most, .int room] H Q := by
 refine' wiV (ps := ["box", "most", "room"]) (extra := []) ?ho (ok_law_again_right _) rfl rfl ?hb ?_
 case ho => k_is
 case hb => exact fun s vs _ r => bnd3 (fun _ _ _  => BindsTo.of_eq rfl) r
 intro c hN hG hCV hK hc
 subst hc
 refine (let r0 : Loc := [some (.ref b), some (.int most), some (.int room), none, none, none, none, none, none, none]; (?_ : WSs c r0 _ _ _))
 refine goS hN hG ?_
 refine goK (fun r' H' => ∃ z : Nat, 1 ≤ z ∧ z ≤ 3 ∧ r' = [some (.ref b), some (.int most), some (.int room), some (.int z), none, none, none, none, none, none] ∧ Box H' b) rfl (fun K kK => ?_) ?_
 ·refine St.of ?_
  refine waZ hK (by exact J10 (nat_lit 0x1a4920141201) rfl) (zdZ (lv := lv) hb (by exact J00 (nat_lit 0x71a3202) rfl) (by exact J00 (nat_lit 0x71a000f4240b32) rfl) fun k d s k0 k1 => ?_)
  refine kK ⟨(3 - k).toNat, by exact J11 (nat_lit 0x1a011271a320191a50132801) rfl k1 (Int.toNat_of_nonneg (J01 (nat_lit 0x61a501320271a3201) rfl k1)), by exact J11 (nat_lit 0x1a320161a010281a50132801) rfl k0 (Int.toNat_of_nonneg (J01 (nat_lit 0x61a501320271a3201) rfl k1)), ?_, ⟨_, _, uS _ _ _⟩⟩
  have : ((3 - k).toNat : Int) = 3 - k := by exact Int.le_antisymm (J11 (nat_lit 0x61a5013280181a50132801) rfl (Int.toNat_of_nonneg (J01 (nat_lit 0x61a501320271a3201) rfl k1))) (J11 (nat_lit 0x61a8015013291a50132801) rfl (Int.toNat_of_nonneg (J01 (nat_lit 0x61a501320271a3201) rfl k1)))
  rw [this]
  rfl
 rintro r' H1 ⟨z, z1, z3, rfl, hb1⟩
 refine goK (fun r' H' => ∃ wd : List UInt8, wd.length = z ∧ r' = [some (.ref b), some (.int most), some (.int room), some (.int z), some (.bytes wd), none, none, none, none, none] ∧ Box H' b) rfl (fun K kK => ?_) ?_
 ·refine St.of ?_
  refine WE_comp ["k"] ["box"] ["_law_take"] _ [0] rfl hN (by rw [hCV]; simp) rfl rfl ?_
  refine goE hN hG ?_
  refine St.of ?_
  refine C_range1 ?_
  have hrz : (rngL 0 (z : Int)).length = z := by unfold rngL; rw [List.length_map, List.length_range]; exact Nat.le_antisymm (J20 (nat_lit 0x1a110181a502811801) rfl (Int.toNat_of_nonneg (J10 (nat_lit 0x61a5028010201a0112) rfl z1))) (J20 (nat_lit 0x1a110191a502801811) rfl (Int.toNat_of_nonneg (J10 (nat_lit 0x61a5028010201a0112) rfl z1)))
  refine ⟨_, _, whX (by exact J00 (nat_lit 0x61a029000f4240b) rfl) (by exact J00 (nat_lit 0x61a000f4240b02) rfl) (by exact J10 (nat_lit 0x61a8019000f4240b01a0112) rfl z1) (by exact J10 (nat_lit 0x61a000f4240b80101a3201) rfl z3), fun c2 hN2 hG2 hCV2 hK3 hGG2 hkl2 acc2 hacc2 => ⟨fun t r' H' => t ≤ (rngL 0 (z : Int)).length ∧ (∃ x, r' = [x, some (.ref b)]) ∧ ∃ S : List UInt8, H' acc2 = some (.list (us S)) ∧ S.length = t ∧ Box H' b ∧ (∀ a o, a ≠ b → H1 a = some o → H' a = some o), ⟨Nat.zero_le _, ⟨_, rfl⟩, [], uS _ _ _, rfl, hb1.frame fun o e => lkn (nW e hacc2) e, fun a o n e => lkn (nW e hacc2) e⟩, fun _ _ _ _ _ => trivial, ?_, ?_⟩⟩
  ·rintro t Y r' H4 hY ⟨htl, ⟨y, rfl⟩, S, hS, hSl, hb4, g4⟩
   have nab2 : acc2 ≠ b := fun q => by subst q; obtain ⟨_, _, e⟩ := hb1; rw [e] at hacc2; cases hacc2
   have ht2 := (List.getElem?_eq_some_iff.mp hY).1
   refine wdV 0 (nm hN2 rfl) (hkl2 _ (.head _)) ?_
   have hK4 : c2.k = lv + 9 := hK3.trans hK
   refine (?_ : WE c2 [some Y, some (.ref b)] _ _ _)
   refine goE hN2 hG2 ?_
   refine wbW ?_
   refine ⟨show (3 : Nat) ≤ szL by decide, fun e0 he0 => ?_⟩
   have hb5 : Box (upd H4 e0 (.list [.int 97, .int 0, .int 255])) b := hb4.frame fun o e => lkn (nW e he0) e
   have ne0 : e0 ≠ b := fun q => by subst q; obtain ⟨_, _, e⟩ := hb4; rw [e] at he0; cases he0
   have nea : acc2 ≠ e0 := nW hS he0
   refine St.of ?_
   refine waZ hK4 (by exact J10 (nat_lit 0x1a4920141201) rfl) (zdZ (lv := lv) hb5 (by exact J00 (nat_lit 0x71a3202) rfl) (by exact J00 (nat_lit 0x71a000f4240b32) rfl) fun k5 d5 s5 k50 k51 => ?_)
   obtain ⟨u, hu⟩ := three_at k50 (by exact J01 (nat_lit 0x71a320171a3201) rfl k51)
   refine St.of ?_
   refine zaU (lkn ne0 (uS _ _ _)) k50 (by exact J01 (nat_lit 0x71a3b9aca00b0171a3201) rfl k51) hu ?_
   try refine zaU (lkn ne0 (uS _ _ _)) k50 (by omega) hu ?_
   refine ⟨us S, lkn nab2 (lkn nea hS), by unfold us; rw [List.length_map]; exact J40 (nat_lit 0x1a000186a0b0101a321121a112121a310111a2131) rfl z3 hrz hSl ht2, ht2, ⟨_, rfl⟩, S ++ [u], ?_, ?_, ⟨d5, s5, lkn (Ne.symm nab2) (uS _ _ _)⟩, fun a o n e => lkn (nW e hacc2) (lkn n (lkn (nW (g4 a o n e) he0) (g4 a o n e)))⟩
   ·rw [uS]; unfold us; rw [List.map_append]; rfl
   ·rw [List.length_append]; simp; exact Nat.le_antisymm (J20 (nat_lit 0x1a110121a1101) rfl hSl) (J20 (nat_lit 0x1a110131a0111) rfl hSl)
  ·rintro r' H4 ⟨_, _, S, hS, hSl, hb4, g4⟩
   refine St.of ?_
   refine wkZ hS (by unfold szL; exact J30 (nat_lit 0x1a01000000b0101a321121a112121a2101) rfl z3 hrz hSl) ?_
   exact kK ⟨S, by exact Nat.le_antisymm (J30 (nat_lit 0x1a110121a112121a2101) rfl hrz hSl) (J30 (nat_lit 0x1a110131a012131a2111) rfl hrz hSl), rfl, hb4⟩
 rintro r' H2 ⟨wd, hwl, rfl, hb2⟩
 refine goK (fun r' H' => ∃ t w : Nat, 2 ≤ t ∧ z * t ≤ 12 ∧ z ≤ w ∧ w ≤ 10 ∧ r' = [some (.ref b), some (.int most), some (.int room), some (.int z), some (.bytes wd), some (.int t), some (.int w), none, none, none] ∧ Box H' b) rfl (fun K kK => ?_) ?_
 ·skip
  refine St.of ?_
  refine BO_div (by exact J10 (nat_lit 0x71a8010201a0112) rfl z1) (by exact J10 (nat_lit 0x71a40000000b80101a3201) rfl z3) ?_
  refine St.of ?_
  have hrz : (2 : Int) ≤ (room : Int) / (z : Int) ∧ (room : Int) / (z : Int) ≤ 12 ∧ (z : Int) * ((room : Int) / (z : Int)) ≤ 12 := by
   have : z = 1 ∨ z = 2 ∨ z = 3 := by omega
   rcases hroom with e | e <;> rcases this with e2 | e2 | e2 <;> subst e e2 <;> decide
  generalize (room : Int) / (z : Int) = rz at hrz ⊢
  obtain ⟨rz1, rz2, rz3⟩ := hrz
  refine waZ hK (by exact J10 (nat_lit 0x1a4920141201) rfl) (zdZ (lv := lv) hb2 (by exact J01 (nat_lit 0x71a512010261a0122) rfl rz1) (by exact J01 (nat_lit 0x71a000f4240b5120161ac201) rfl rz2) fun k d s k0 k1 => ?_)
  refine St.of ?_
  refine waZ hK (by exact J10 (nat_lit 0x1a4920141201) rfl) (zdZ (lv := lv) ⟨_, _, uS _ _ _⟩ (by exact J00 (nat_lit 0x71a3202) rfl) (by exact J00 (nat_lit 0x71a000f4240b32) rfl) fun k2 d2 s2 k20 k21 => ?_)
  refine kK ⟨(2 + k).toNat, ((z : Int) + k2).toNat, by exact J11 (nat_lit 0x1a012261a010291a40122801) rfl k0 (Int.toNat_of_nonneg (J01 (nat_lit 0x61a401220261a0102) rfl k0)), ?_, by exact J21 (nat_lit 0x1a110161a010291a401801811) rfl k20 (Int.toNat_of_nonneg (J11 (nat_lit 0x61a4018010201a011261a0102) rfl z1 k20)), by exact J21 (nat_lit 0x1aa20101a321171a320181a401811801) rfl z3 k21 (Int.toNat_of_nonneg (J11 (nat_lit 0x61a4018010201a011261a0102) rfl z1 k20)), ?_, ⟨_, _, uS _ _ _⟩⟩
  ·have h1 : (2 + k).toNat ≤ rz.toNat := by exact J22 (nat_lit 0x1a110171a512110181a4012280191a11811) rfl k1 (Int.toNat_of_nonneg (J01 (nat_lit 0x61a401220261a0102) rfl k0)) (Int.toNat_of_nonneg (J01 (nat_lit 0x61a010261a0122) rfl rz1))
   have h2 := Nat.mul_le_mul_left z h1
   have h3 : ((z * rz.toNat : Nat) : Int) = (z : Int) * rz := by rw [Int.natCast_mul, Int.toNat_of_nonneg (by exact J01 (nat_lit 0x61a010261a0122) rfl rz1)]
   exact J21 (nat_lit 0x1ac20161ac20101a110181a01811) rfl rz3 h2 h3
  ·rw [show (((2 + k).toNat : Nat) : Int) = 2 + k by exact Int.le_antisymm (J11 (nat_lit 0x61a4012280181a40122801) rfl (Int.toNat_of_nonneg (J01 (nat_lit 0x61a401220261a0102) rfl k0))) (J11 (nat_lit 0x61a8014012291a40122801) rfl (Int.toNat_of_nonneg (J01 (nat_lit 0x61a401220261a0102) rfl k0))), show ((((z : Int) + k2).toNat : Nat) : Int) = z + k2 by exact Int.le_antisymm (J21 (nat_lit 0x61a40181180181a401811801) rfl (Int.toNat_of_nonneg (J11 (nat_lit 0x61a4018010201a011261a0102) rfl z1 k20))) (J21 (nat_lit 0x61a81140180191a401801811) rfl (Int.toNat_of_nonneg (J11 (nat_lit 0x61a4018010201a011261a0102) rfl z1 k20)))]
   simp only [setL, List.set_cons_zero, List.set_cons_succ]
 rintro r' H3 ⟨t, w, t2, zt, zw, w10, rfl, hb3⟩
 have t12 : t ≤ 12 := by have := Nat.mul_le_mul_right t z1; exact J20 (nat_lit 0x1ac20101ac21101a111601) rfl zt this
 have hwd0 : wd ≠ [] := fun e => by rw [e] at hwl; simp at hwl; exact Nat.lt_irrefl 0 (J10 (nat_lit 0x10a020201a011231a0102) rfl z1 hwl)
 have eT : (List.replicate ((t : Int).toNat) wd).flatten = (List.replicate t wd).flatten := by rw [Int.toNat_natCast]
 have lT : ((List.replicate t wd).flatten).length = z * t := by rw [rep_len, hwl]
 have oT : ∀ i, i < z * t → oc ((List.replicate t wd).flatten) i = oc wd (i % z) := fun i hi => by rw [rep_oc (by rw [hwl]; exact hi), hwl]
 generalize (List.replicate t wd).flatten = T2 at eT lT oT
 have hper := again_len (o1 := oc wd) (o2 := oc T2) (z := z) (n := z * t) (w := w) (most := most) (t := t) hm z1 zw rfl (by exact J10 (nat_lit 0x1a011201a0122) rfl t2) (fun i hi => by
  rw [oT i (Nat.lt_of_lt_of_le hi (by have := Nat.mul_le_mul_left z (show 1 ≤ t by exact J10 (nat_lit 0x1a011201a0122) rfl t2); exact J20 (nat_lit 0x1a110101a111701) rfl this)), Nat.mod_eq_of_lt hi]) (fun i h1 h2 => by rw [oT i h2, oT (i - z) (by exact J30 (nat_lit 0x11a110111a112101a2101) rfl h2 (Nat.sub_le _ _)), ← Nat.mod_eq_sub_mod h1])
 refine St.of ?_
 refine waZ hK (by exact J10 (nat_lit 0x1a4920148201) rfl) (wjU (lv := lv) hb3 (by exact J20 (nat_lit 0x1a00015f90b0101a321121a1101) rfl z3 hwl) (by exact J20 (nat_lit 0x1a011201a111201a0111) rfl z1 zw) fun H4 f own F hown hb4 g4 => ?_)
 refine St.of ?_
 refine waZ hK (by exact J10 (nat_lit 0x1a4920149201) rfl) (greedy_ok (lv := lv) F (by exact J20 (nat_lit 0x1a000186a0b0101a321121a1101) rfl z3 hwl) hm fun H5 x hx ex g5 => ?_)
 refine St.of ?_
 have nbo : b ∉ own := fun hc => by obtain ⟨_, _, e⟩ := hb3; rw [hown b hc] at e; cases e
 have hb5 : Box H5 b := hb4.frame fun o e => g5 _ _ nbo e
 have nxb : x ≠ b := fun q => by subst q; obtain ⟨_, _, e⟩ := hb4; rw [e] at hx; cases hx
 refine BO_mulbytes hwd0 (by exact J20 (nat_lit 0x1a01030101a321121a1101) rfl z3 hwl) (by exact J10 (nat_lit 0x61a8019000f4240b01a0122) rfl t2) (by exact J10 (nat_lit 0x61a000f4240b80101ac201) rfl t12) ?_
 rw [eT]
 refine St.of ?_
 refine BO_mulbytes hwd0 (by exact J20 (nat_lit 0x1a01030101a321121a1101) rfl z3 hwl) (by exact J10 (nat_lit 0x61a8019000f4240b01a0122) rfl t2) (by exact J10 (nat_lit 0x61a000f4240b80101ac201) rfl t12) ?_
 rw [eT]
 refine St.of ?_
 refine waZ hK (by exact J10 (nat_lit 0x1a4920148201) rfl) (wjU (lv := lv) (T := T2) hb5 (by exact J20 (nat_lit 0x1a00015f90b0101ac21121a1101) rfl zt lT) (by exact J20 (nat_lit 0x1a011201a111201a0111) rfl z1 zw) fun H6 f2 own2 F2 hown2 hb6 g6 => ?_)
 refine St.of ?_
 refine waZ hK (by exact J10 (nat_lit 0x1a4920149201) rfl) (greedy_ok (lv := lv) F2 (by exact J20 (nat_lit 0x1a000186a0b0101ac21121a1101) rfl zt lT) hm fun H7 y hy ey g7 => ?_)
 refine St.of ?_
 refine wkY (by first | exact .inl (na60 (by exact J10 (nat_lit 0x61a8010201a0112) rfl z1) (by exact J10 (nat_lit 0x61a3b9aca00b80101a3201) rfl z3)) | exact .inr (na60 (by omega) (by omega)) | omega) ?_
 refine St.of ?_
 have nxo : x ∉ own2 := fun hc => by rw [hown2 x hc] at ex; cases ex
 have ex7 := g7 _ _ nxo (g6 _ _ nxb ex)
 rw [← lT] at hper
 rw [hwl] at ex7
 have la := gr_len (o := oc wd) (n := z) (w := w) (most := most) (f := z) (p := 0)
 have lb := gr_len (o := oc T2) (n := T2.length) (w := w) (most := most) (f := T2.length) (p := 0)
 have lxl : ((gr (oc wd) z w most z 0).map nV).length = (gr (oc wd) z w most z 0).length := by rw [List.length_map]
 have lyl : ((gr (oc T2) T2.length w most T2.length 0).map nV).length = (gr (oc T2) T2.length w most T2.length 0).length := by rw [List.length_map]
 have ed : ((z : Int) * ((t : Int) - 1) + (most : Int) - 1) / (most : Int) = (((z * (t - 1) + most - 1) / most : Nat) : Int) := by
  have e1 : (t : Int) - 1 = ((t - 1 : Nat) : Int) := by exact Int.le_antisymm (J20 (nat_lit 0x61a81151280101a4121101) rfl (sbA _ _)) (J20 (nat_lit 0x61a51281180121a1141201) rfl (Nat.sub_add_cancel (J10 (nat_lit 0x1a011201a0122) rfl t2)))
  have e2 : (z : Int) * ((t - 1 : Nat) : Int) + (most : Int) - 1 = ((z * (t - 1) + most - 1 : Nat) : Int) := by
   rw [← Int.natCast_mul]; exact Int.le_antisymm (J30 (nat_lit 0x61a821512481180101a4122141101) rfl (sbA _ _)) (J30 (nat_lit 0x61a512482181180121a4211141201) rfl (Nat.sub_add_cancel (J20 (nat_lit 0x1a411011201a1122) rfl hm)))
  rw [e1, e2]; rfl
 refine C_lenl ex7 (by exact J50 (nat_lit 0x1a000186a0b0101ac21121a112101a413101a214121a3101) rfl zt lT hper.1 lb lxl) ?_
 refine St.of ?_
 refine C_lenl ey (by exact J40 (nat_lit 0x1a000186a0b0101ac21121a112101a213121a3101) rfl zt lT lb lyl) ?_
 refine waV ?_
 refine ite_t (by exact J40 (nat_lit 0x61a81180101a312121a210131a3111) rfl hper.1 lxl lyl) ?_
 refine St.of ?_
 refine C_lenl ex7 (by exact J50 (nat_lit 0x1a000186a0b0101ac21121a112101a413101a214121a3101) rfl zt lT hper.1 lb lxl) ?_
 refine St.of ?_
 refine BO_div (by exact J10 (nat_lit 0x71a8010201a0122) rfl hm) (by exact J10 (nat_lit 0x71a40000000b80101a3e8301) rfl hm2) ?_
 refine waV ?_
 refine ite_nt ?_
 refine ite_t (by exact J51 (nat_lit 0x61a40181180101a441312131a311121a210191a84101) rfl hper.2 lxl lyl ed) ?_
 refine zaV ?_
 refine zaY ?_
 refine St.of ?_
 refine BO_mulbytes hwd0 (by exact J20 (nat_lit 0x1a01030101a321121a1101) rfl z3 hwl) (by exact J10 (nat_lit 0x61a8019000f4240b01a0122) rfl t2) (by exact J10 (nat_lit 0x61a000f4240b80101ac201) rfl t12) ?_
 rw [eT]
 refine St.of ?_
 refine waZ hK (by exact J10 (nat_lit 0x1a4920141201) rfl) (plays_ok (lv := lv) ey (by exact J20 (nat_lit 0x1a00015f90b0101ac21121a1101) rfl zt lT) (gr_par (by exact J10 (nat_lit 0x1a4010201) rfl) (by exact J20 (nat_lit 0x1a010231a1101) rfl lT)) fun H8 g8 => ?_)
 refine ite_tt ?_
 refine waV ?_
 refine zbY (fun h1 => ?_) (fun h1 => ?_)
 ·refine zcX ?_
  exact h _
 ·have hz1 : z = 1 := by exact Nat.le_antisymm (J10 (nat_lit 0x1a1201b1a80112) rfl h1) (J10 (nat_lit 0x1a011201a0112) rfl z1)
  have ey8 := g8 _ _ ey
  have hoc : ∀ i, i < T2.length → oc T2 i = oc wd 0 := fun i hi => by rw [oT i (by exact J30 (nat_lit 0x11a110121a112111a2101) rfl lT hi), hz1, Nat.mod_one]
  have efin : gr (oc T2) T2.length w most T2.length 0 = (0, oc wd 0) :: oneF (oc wd 0) most t (t - 1) := by
   have lt : T2.length = t := by rw [lT, hz1, Nat.one_mul]
   have := gr_oct (n := T2.length) (w := w) (most := most) hoc (by exact J20 (nat_lit 0x1a011201a112231a1101) rfl t2 lt) (by exact J20 (nat_lit 0x1a011201a111201a0111) rfl z1 zw) hm t (by exact J20 (nat_lit 0x1a412110121a1101) rfl lt)
   rw [this, lt]
  refine St.of ?_
  refine wiQ (by exact J00 (nat_lit 0x61a0202) rfl) (by exact J20 (nat_lit 0x71a8010201a111231a1101) rfl z1 hwl) (by exact J20 (nat_lit 0x1a000186a0b0101a321121a1101) rfl z3 hwl) ?_
  refine St.of ?_
  refine waZ hK (by exact J10 (nat_lit 0x1a4920141201) rfl) (lawone_ok (lv := lv) (n := t) (oct := oc wd 0) (by exact J10 (nat_lit 0x1a011201a0122) rfl t2) (by exact J10 (nat_lit 0x1a3e830101ac201) rfl t12) hm fun H9 l9 hl9 e9 g9 => ?_)
  refine St.of ?_
  refine CO_eqprs (ps := (gr (oc T2) T2.length w most T2.length 0).map nI) (qs := ((0, oc wd 0) :: oneF (oc wd 0) most t (t - 1)).map nI) (by rw [g9 _ _ ey8, nV_prV]) (by rw [e9, nV_prV]) ?_
  rw [efin, decide_eq_true rfl]
  refine zcX ?_
  exact h _
set_option tactic.hygienic false
theorem mapS_congr {o f g : Nat → Nat} {n w most : Nat} (e : ∀ i, i < n → f i = g i) : ∀ {ps : List (Nat × Nat)} {p : Nat}, Par o n w most p ps n → mapS f p ps = mapS g p ps
 | [], _, _ => rfl
 | s :: r, p, ⟨hs, hr⟩ => by
  have hle := hs.le
  have sp := whU s
  show (if s.1 = 0 then (0, f p) else s) :: mapS f (p + sz s) r = (if s.1 = 0 then (0, g p) else s) :: mapS g (p + sz s) r
  rw [mapS_congr e hr, e p (by exact J30 (nat_lit 0x11a110101a114210101a2112) rfl hle sp)]
theorem Par.steps {o : Nat → Nat} {n w most : Nat} : ∀ {ps : List (Nat × Nat)} {p : Nat}, Par o n w most p ps n → ∀ s ∈ ps, s.1 = 0 ∨ 2 ≤ s.1 ∧ 1 ≤ s.2
 | [], _, _, _, h => by cases h
 | t :: r, p, ⟨ht, hr⟩, s, h => by
  rcases List.mem_cons.mp h with e | e
  ·subst e
   rcases ht with ⟨a, _⟩ | ⟨a, _, b, _⟩
   ·exact .inl a
   ·exact .inr ⟨a, b⟩
  ·exact hr.steps s e
noncomputable def PU : List UInt8 := [0, 97, 98, 255]
noncomputable def PW : List (List UInt8) := PU.map fun u => [u]
theorem PW_inj : ∀ a : Fin 4, ∀ b : Fin 4, oc (PW.getD a []) 0 = oc (PW.getD b []) 0 → a = b := by decide
theorem PW_len : ∀ x ∈ PW, x.length = 1 := by decide
structure MapFacts (R : List Nat) (W : List (List UInt8)) (z w most : Nat) (p0 p1 p2 : Int) (G0 L0 G1 L1 : List (Nat × Nat)) : Prop where
 par : ∃ o, Par o R.length w most 0 G0 R.length ∧ Par o R.length w most 0 L0 R.length
 one : ∀ v, Due z w 1 1 0 (kdF R) (wdF W) 0 G0 v → (G1.length : Int) ≤ v
 two : ∀ v, Due z w p0 p1 p2 (kdF R) (wdF W) 0 L0 v → tot (wdW p0 p1 p2) L1 ≤ v
 same : z = 1 → (∀ a ∈ R, ∀ d ∈ R, a ≠ d → W.getD a [] ≠ W.getD d []) → G1 = mapS (fun i => oc (W.getD (R.getD i 0) []) 0) 0 G0 ∧ L1 = mapS (fun i => oc (W.getD (R.getD i 0) []) 0) 0 L0
 steps : ∀ s ∈ L1, s.1 = 0 ∨ 2 ≤ s.1 ∧ 1 ≤ s.2
 glen : G1.length ≤ 1000
theorem mapfacts {H H0 : AH} {rw ws pl : Addr} {R : List Nat} {W : List (List UInt8)} {z w most : Nat} {p0 p1 p2 : Int} (A : RowW H rw ws R W z) (A0 : RowW H0 rw pl R PW 1) (hw : 1 ≤ w) (hm : 2 ≤ most) (h2 : 0 ≤ p2) :
 MapFacts R W z w most p0 p1 p2 (gr (oc (waU PW R)) (waU PW R).length w most (waU PW R).length 0) (leastF (oc (waU PW R)) (waU PW R).length w most (wdW p0 p1 p2))
  (gr (oc (waU W R)) (waU W R).length (z * w) (z * most) (waU W R).length 0) (leastF (oc (waU W R)) (waU W R).length (z * w) (z * most) (wdW p0 p1 p2)) := by
 have n0 : (waU PW R).length = R.length := by rw [A0.jlen, Nat.one_mul]
 have n1 : (waU W R).length = z * R.length := A.jlen
 rw [n0, n1]
 have o0 : ∀ p, p < R.length → oc (waU PW R) p = oc (PW.getD (R.getD p 0) []) 0 := fun p hp => by
  have := joinW_oc (W := PW) (z := 1) (R := R) (p := p) (j := 0) (fun k hk => A0.wlen (A0.lt k hk)) hp (by exact J00 (nat_lit 0x11a1202) rfl)
  rw [Nat.one_mul, Nat.add_zero] at this; exact this
 have o1 : ∀ p, p < R.length → ∀ j, j < z → oc (waU W R) (z * p + j) = wdF W (kdF R p) j := fun p hp j hj => joinW_oc (fun k hk => A.wlen (A.lt k hk)) hp hj
 have rlt : ∀ p, p < R.length → R.getD p 0 < 4 := fun p hp => (A.rat hp).2
 have rmem : ∀ p, p < R.length → R.getD p 0 ∈ R := fun p hp => by
  rw [List.getD_eq_getElem?_getD, List.getElem?_eq_getElem hp]; exact List.getElem_mem _
 have inj : ∀ i j, i < R.length → j < R.length → (oc (waU PW R) i = oc (waU PW R) j ↔ R.getD i 0 = R.getD j 0) := fun i j hi hj => by
  rw [o0 i hi, o0 j hj]
  refine ⟨fun e => ?_, fun e => by rw [e]⟩
  have := PW_inj ⟨R.getD i 0, rlt i hi⟩ ⟨R.getD j 0, rlt j hj⟩ e
  exact congrArg Fin.val this
 have key : ∀ i j, i < R.length → j < R.length → oc (waU PW R) i = oc (waU PW R) j → kdF R i = kdF R j := fun i j hi hj e => (inj i j hi hj).mp e
 have pg : Par (oc (waU PW R)) R.length w most 0 (gr (oc (waU PW R)) R.length w most R.length 0) R.length := gr_par (by exact J10 (nat_lit 0x1a4010201) rfl) (by exact J20 (nat_lit 0x1a010221a0111) rfl n0)
 have pl0 : Par (oc (waU PW R)) R.length w most 0 (leastF (oc (waU PW R)) R.length w most (wdW p0 p1 p2)) R.length := leastF_ok
 refine ⟨⟨_, pg, pl0⟩, fun v hv => ?_, fun v hv => ?_, fun hz hd => ?_, fun s hs => (leastF_ok (o := oc (waU W R))).steps s hs, ?_⟩
 ·obtain ⟨st, q1, q2⟩ := due_par A.z1 hw hm key o1 pg hv
  rw [tot_ones] at q2
  have := gr_least (p' := 0) (f := z * R.length) q1 (by exact J10 (nat_lit 0x1a020701) rfl)
  exact J21 (nat_lit 0x61a0180181a0181101a1101) rfl q2 this
 ·obtain ⟨st, q1, q2⟩ := due_par A.z1 hw hm key o1 pl0 hv
  have := leastF_le (cost := wdW p0 p1 p2) (cost_mono h2) cost_lit q1
  exact J03 (nat_lit 0x61a110181a112161a2101) rfl q2 this
 ·subst hz
  rw [Nat.one_mul, Nat.one_mul, Nat.one_mul]
  have o2 : ∀ p, p < R.length → oc (waU W R) p = oc (W.getD (R.getD p 0) []) 0 := fun p hp => by
   have := o1 p hp 0 (by exact J00 (nat_lit 0x11a1202) rfl)
   rw [Nat.one_mul, Nat.add_zero] at this; exact this
  have one : ∀ k, k < 4 → ∃ u, W.getD k [] = [u] := fun k hk => by
   have := A.wlen hk
   match hq : W.getD k [], this with
   | [u], _ => exact ⟨u, rfl⟩
  have pat : ∀ i j, i < R.length → j < R.length → (oc (waU W R) i = oc (waU W R) j ↔ oc (waU PW R) i = oc (waU PW R) j) := fun i j hi hj => by
   rw [inj i j hi hj, o2 i hi, o2 j hj]
   refine ⟨fun e => ?_, fun e => by rw [e]⟩
   by_cases q : R.getD i 0 = R.getD j 0
   ·exact q
   ·exfalso
    refine hd _ (rmem i hi) _ (rmem j hj) q ?_
    obtain ⟨u, hu⟩ := one _ (rlt i hi)
    obtain ⟨v, hv⟩ := one _ (rlt j hj)
    rw [hu, hv] at e ⊢
    have e : u.toNat = v.toNat := e
    rw [UInt8.toNat_inj.mp e]
  exact ⟨by rw [gr_pattern pat, mapS_congr o2 pg], by rw [leastF_pattern pat cost_lit, mapS_congr o2 pl0]⟩
 ·refine Nat.le_trans gr_len ?_
  have := Nat.mul_le_mul A.z3 A.short
  exact J10 (nat_lit 0x1a3e830101a36c201) rfl this
set_option tactic.hygienic false
structure MR (H : AH) (rw ws prs pr pdx lt x0 y0 lm x1 y1 : Addr) (R : List Nat) (W : List (List UInt8)) (z : Nat) (p0 p1 p2 : Int) (G0 L0 G1 L1 : List (Nat × Nat)) : Prop where
 rowW : RowW H rw ws R W z
 prs : H prs = some (.list [.int p0, .int p1, .int p2])
 price : wdZ H pr pdx p0 p1 p2
 t : H lt = some (.list [.ref x0, .ref y0])
 tx : H x0 = some (.list (G0.map nV))
 ty : H y0 = some (.list (L0.map nV))
 m : H lm = some (.list [.ref x1, .ref y1])
 mx : H x1 = some (.list (G1.map nV))
 my : H y1 = some (.list (L1.map nV))
theorem MR.frame {H H' : AH} {rw ws prs pr pdx lt x0 y0 lm x1 y1 : Addr} {R : List Nat} {W : List (List UInt8)} {z : Nat} {p0 p1 p2 : Int} {G0 L0 G1 L1 : List (Nat × Nat)} (A : MR H rw ws prs pr pdx lt x0 y0 lm x1 y1 R W z p0 p1 p2 G0 L0 G1 L1) (g : ∀ a o, H a = some o → H' a = some o) : MR H' rw ws prs pr pdx lt x0 y0 lm x1 y1 R W z p0 p1 p2 G0 L0 G1 L1 :=
 ⟨A.rowW.frame (fun o e => g _ o e) (fun o e => g _ o e), g _ _ A.prs, A.price.frame g, g _ _ A.t, g _ _ A.tx, g _ _ A.ty, g _ _ A.m, g _ _ A.mx, g _ _ A.my⟩
theorem MR.two0 {H : AH} {rw ws prs pr pdx lt x0 y0 lm x1 y1 : Addr} {R : List Nat} {W : List (List UInt8)} {z : Nat} {p0 p1 p2 : Int} {G0 L0 G1 L1 : List (Nat × Nat)} (A : MR H rw ws prs pr pdx lt x0 y0 lm x1 y1 R W z p0 p1 p2 G0 L0 G1 L1) : Two H lt (G0.map nI) (L0.map nI) :=
 ⟨_, _, A.t, by rw [← nV_prV]; exact A.tx, by rw [← nV_prV]; exact A.ty⟩
theorem MR.two1 {H : AH} {rw ws prs pr pdx lt x0 y0 lm x1 y1 : Addr} {R : List Nat} {W : List (List UInt8)} {z : Nat} {p0 p1 p2 : Int} {G0 L0 G1 L1 : List (Nat × Nat)} (A : MR H rw ws prs pr pdx lt x0 y0 lm x1 y1 R W z p0 p1 p2 G0 L0 G1 L1) : Two H lm (G1.map nI) (L1.map nI) :=
 ⟨_, _, A.m, by rw [← nV_prV]; exact A.mx, by rw [← nV_prV]; exact A.my⟩
theorem MR.notin {H : AH} {rw ws prs pr pdx lt x0 y0 lm x1 y1 n : Addr} {R : List Nat} {W : List (List UInt8)} {z : Nat} {p0 p1 p2 : Int} {G0 L0 G1 L1 : List (Nat × Nat)} (A : MR H rw ws prs pr pdx lt x0 y0 lm x1 y1 R W z p0 p1 p2 G0 L0 G1 L1) (hn : H n = none) :
 rw ≠ n ∧ ws ≠ n ∧ prs ≠ n ∧ pr ≠ n ∧ pdx ≠ n ∧ lt ≠ n ∧ x0 ≠ n ∧ y0 ≠ n ∧ lm ≠ n ∧ x1 ≠ n ∧ y1 ≠ n :=
 ⟨nW A.rowW.row hn, nW A.rowW.words hn, nW A.prs hn, nW A.price.inst hn, nW A.price.fl hn, nW A.t hn, nW A.tx hn, nW A.ty hn, nW A.m hn, nW A.mx hn, nW A.my hn⟩
theorem MR.frameN {H : AH} {rw ws prs pr pdx lt x0 y0 lm x1 y1 n : Addr} {ob : O} {R : List Nat} {W : List (List UInt8)} {z : Nat} {p0 p1 p2 : Int} {G0 L0 G1 L1 : List (Nat × Nat)} (A : MR H rw ws prs pr pdx lt x0 y0 lm x1 y1 R W z p0 p1 p2 G0 L0 G1 L1)
 (d : rw ≠ n ∧ ws ≠ n ∧ prs ≠ n ∧ pr ≠ n ∧ pdx ≠ n ∧ lt ≠ n ∧ x0 ≠ n ∧ y0 ≠ n ∧ lm ≠ n ∧ x1 ≠ n ∧ y1 ≠ n) : MR (upd H n ob) rw ws prs pr pdx lt x0 y0 lm x1 y1 R W z p0 p1 p2 G0 L0 G1 L1 := by
 obtain ⟨d1, d2, d3, d4, d5, d6, d7, d8, d9, d10, d11⟩ := d
 exact ⟨A.rowW.frame (fun o e => lkn d1 e) (fun o e => lkn d2 e), lkn d3 A.prs, ⟨lkn d4 A.price.inst, lkn d5 A.price.fl⟩, lkn d6 A.t, lkn d7 A.tx, lkn d8 A.ty, lkn d9 A.m, lkn d10 A.mx, lkn d11 A.my⟩
noncomputable def LMap (H : AH) (ac : Addr) (G1 L1 : List (Nat × Nat)) : Nat → Prop
 | 0 => H ac = some (.list [])
 | 1 => ∃ l1, H ac = some (.list [.ref l1]) ∧ H l1 = some (.list (G1.map nV)) ∧ l1 ≠ ac
 | _ => ∃ l1 l2, H ac = some (.list [.ref l1, .ref l2]) ∧ H l1 = some (.list (G1.map nV)) ∧ H l2 = some (.list (L1.map nV))
set_option maxHeartbeats 2000000 in
theorem mapright_ok {G : Gd} {lv : Nat} {b rw ws sh prs : Addr} {R : List Nat} {W : List (List UInt8)} {z w most : Nat} {p0 p1 p2 : Int} {H : AH} {Q : V → AH → Prop} (hb : Box H b) (A : RowW H rw ws R W z) (hsh : H sh = some (.list [.int w, .int most])) (hps : H prs = some (.list [.int p0, .int p1, .int p2]))
 (nrb : rw ≠ b) (nwb : ws ≠ b) (npb : prs ≠ b) (w1 : 1 ≤ w) (w2 : w ≤ 100) (m1 : 2 ≤ most) (m2 : most ≤ 100) (a0 : 0 ≤ p0) (a1 : p0 ≤ 1000) (b0 : 0 ≤ p1) (c0 : 0 ≤ p2) (c1 : p2 ≤ 1000)
 (h : ∀ H', Box H' b → Q (.bool true) H') : waX G (lv + 11) (.ref 561) [.ref b, .ref rw, .ref ws, .ref sh, .ref prs] H Q := by
 refine' wiV (ps := ["box", "row", "words", "shape", "prices"]) (extra := []) ?ho (ok_law_map_right _) rfl rfl ?hb ?_
 case ho => k_is
 case hb => exact fun s vs _ r => bnd5 (fun _ _ _ _ _  => BindsTo.of_eq rfl) r
 intro c hN hG hCV hK hc
 subst hc
 refine (let r0 : Loc := [some (.ref b), some (.ref rw), some (.ref ws), some (.ref sh), some (.ref prs), none, none, none, none, none, none, none]; (?_ : WSs c r0 _ _ _))
 refine zcQ (WS_unlist [5, 6] (.cons (.cons .nil)) rfl (hn2 hN rfl rfl) ?_)
 refine goE hN hG ?_
 refine ⟨_, _, rfl, hsh, rfl, ?_⟩
 refine seq_next ?_
 refine goS hN hG ?_
 refine St.of ?_
 have q1 := A.row
 have q2 := A.words
 have wl : (W.map V.bytes).length = 4 := by rw [List.length_map, A.four]
 have x0 : (W.map V.bytes)[((0 : Int)).toNat]? = some (V.bytes (W.getD 0 [])) := A.wat (k := 0) (by exact J00 (nat_lit 0x11a4202) rfl)
 have y0 := A.wlen (k := 0) (by exact J00 (nat_lit 0x11a4202) rfl)
 have z1 := A.z1
 have z3 := A.z3
 refine zaU q2 (by exact J00 (nat_lit 0x61a0202) rfl) (by exact J00 (nat_lit 0x71a3b9aca00b02) rfl) x0 ?_
 refine St.of ?_
 refine wgQ (by exact J20 (nat_lit 0x1a000186a0b0121a110101a3211) rfl y0 z3) ?_
 refine St.of ?_
 refine zaU hps (by exact J00 (nat_lit 0x61a0202) rfl) (by exact J00 (nat_lit 0x71a3b9aca00b02) rfl) rfl ?_
 refine St.of ?_
 refine zaU hps (by exact J00 (nat_lit 0x61a1202) rfl) (by exact J00 (nat_lit 0x71a3b9aca00b12) rfl) rfl ?_
 refine St.of ?_
 refine zaU hps (by exact J00 (nat_lit 0x61a2202) rfl) (by exact J00 (nat_lit 0x71a3b9aca00b22) rfl) rfl ?_
 refine St.of ?_
 rw [y0]
 refine waZ hK (by exact J10 (nat_lit 0x1a4a20142201) rfl) (priceinit_ok (lv := lv) a0 b0 c0 fun H1 pr pdx P hpr hpdx g1 => ?_)
 refine St.of ?_
 refine WS_assign_comp 9 ["octet"] [] ["bytes"] _ [] rfl (nm hN rfl) hN (by simp) rfl rfl ?_
 refine goE hN hG ?_
 refine wbW ?_
 refine ⟨show (4 : Nat) ≤ szL by decide, fun e0 he0 => ?_⟩
 have hPU : upd H1 e0 (.list [.int 0, .int 97, .int 98, .int 255]) e0 = some (.list (us PU)) := uS _ _ _
 have g2 : ∀ a o, H a = some o → upd H1 e0 (.list [.int 0, .int 97, .int 98, .int 255]) a = some o := fun a o e => lkn (nW (g1 a o e) he0) (g1 a o e)
 have P2 : wdZ (upd H1 e0 (.list [.int 0, .int 97, .int 98, .int 255])) pr pdx p0 p1 p2 := ⟨lkn (nW P.inst he0) P.inst, lkn (nW P.fl he0) P.fl⟩
 generalize upd H1 e0 (.list [.int 0, .int 97, .int 98, .int 255]) = H2 at hPU g2 P2 ⊢
 refine ⟨_, _, zcV hPU, fun c' hN' hG' hCV' hK' hGG hkl acc hacc => LpC (fun _ _ _ => .ex fun (j : Nat) => .ex fun (x : Option V) => .ex fun (H' : AH) => .hy (H' acc = some (.list ((PW.take j).map V.bytes))) fun _ => .hy (∀ a o, H2 a = some o → H' a = some o) fun _ => .at j [x] H')
  (fun P _ _ kk => kk 0 _ _ (uS _ _ _) fun a o e => lkn (nW e hacc) e) ?_⟩
 intro JJ jj _ j x H3 hA g3
 refine tel_at ⟨fun _ => g3 _ _ hPU, fun X hX => ?_, fun ej => ?_⟩
 ·intro r1
  refine wdV 0 (nm hN' rfl) (hkl _ (.head _)) ?_
  unfold us at hX
  refine mapAt hX fun u hu => ?_
  have hjl : j < 4 := (List.getElem?_eq_some_iff.mp hu).1
  refine (?_ : WE c' [some (.int u.toNat)] _ _ _)
  refine goE hN' hG' ?_
  refine wbW ?_
  refine ⟨show (1 : Nat) ≤ szL by decide, fun e1 he1 => ?_⟩
  refine St.of ?_
  refine wkZ (bs := [u]) (uS _ _ _) (show (1 : Nat) ≤ szL by decide) ?_
  have ep : (PW.take j).map V.bytes ++ [V.bytes [u]] = (PW.take (j + 1)).map V.bytes := by
   have : PW[j]? = some [u] := by unfold PW; rw [List.getElem?_map, hu]; rfl
   rw [List.take_add_one, this, List.map_append]; rfl
  exact ⟨_, lkn (nW hA he1) hA, by rw [List.length_map, List.length_take]; exact J20 (nat_lit 0x1a000186a0b0111a421101a1101) rfl hjl (Nat.min_le_left _ _), ep ▸ fun P kk => jj _ kk (j + 1) _ _ (uS _ _ _) (fun a o e => lkn (nW e hacc) (lkn (nW (g3 a o e) he1) (g3 a o e))) rfl⟩
 subst ej
 have hA : H3 acc = some (.list (PW.map V.bytes)) := hA
 have G3 : ∀ a o, H a = some o → H3 a = some o := fun a o e => g3 a o (g2 a o e)
 have P3 := P2.frame g3
 have A3 : RowW H3 rw ws R W z := A.frame (fun o e => G3 _ o e) (fun o e => G3 _ o e)
 have A30 : RowW H3 rw acc R PW 1 := ⟨A3.row, hA, rfl, PW_len, A.lt, A.short, by exact J00 (nat_lit 0x1a1212) rfl, by exact J00 (nat_lit 0x1a3212) rfl⟩
 have MF := mapfacts (most := most) (p0 := p0) (p1 := p1) A3 A30 w1 m1 c0
 have ash := A.short
 have jl := A.jlen
 have jl0 := A30.jlen
 have zr := Nat.mul_le_mul z3 A.short
 have zw := Nat.mul_le_mul z1 w1
 have zm := Nat.mul_le_mul z1 m1
 have e1 : (z : Int) * (w : Int) = ((z * w : Nat) : Int) := by rw [Int.natCast_mul]
 have e2 : (z : Int) * (most : Int) = ((z * most : Nat) : Int) := by rw [Int.natCast_mul]
 have bm1 : (z : Int).natAbs < 2 ^ 60 ∨ (w : Int).natAbs < 2 ^ 60 := .inl (naN (by exact J10 (nat_lit 0x1a3b9aca00b0101a3201) rfl z3))
 have bm2 : (z : Int).natAbs < 2 ^ 60 ∨ (most : Int).natAbs < 2 ^ 60 := .inl (naN (by exact J10 (nat_lit 0x1a3b9aca00b0101a3201) rfl z3))
 refine zaY ?_
 refine St.of ?_
 refine waZ hK (by exact J10 (nat_lit 0x1a4a20141201) rfl) (joined_ok (lv := lv) A30 ?_)
 refine St.of ?_
 refine waZ hK (by exact J10 (nat_lit 0x1a4a2014a201) rfl) (told2_ok (lv := lv) (b := b) (hb.frame fun o e => G3 _ o e) P3 (by exact J20 (nat_lit 0x1a00015f90b0101ac21121a161101) rfl ash jl0) w1 m1 c0 c1 fun H4 lt xt yt ht hxt hyt nlt nxt nyt hb4 g4 => ?_)
 refine St.of ?_
 have A4 : RowW H4 rw ws R W z := A3.frame (fun o e => g4 _ o nrb e) (fun o e => g4 _ o nwb e)
 have P4 : wdZ H4 pr pdx p0 p1 p2 := by
  obtain ⟨_, _, eb⟩ := hb.frame (fun o e => G3 _ o e)
  exact ⟨g4 _ _ (zbW P3.inst eb (fun e => by cases e)) P3.inst, g4 _ _ (zbW P3.fl eb (fun e => by cases e)) P3.fl⟩
 have hps4 := g4 _ _ npb (G3 _ _ hps)
 refine waZ hK (by exact J10 (nat_lit 0x1a4a20141201) rfl) (joined_ok (lv := lv) A4 ?_)
 refine St.of ?_
 refine wkY bm1 ?_
 refine St.of ?_
 refine wkY bm2 ?_
 refine St.of ?_
 rw [e1, e2]
 refine waZ hK (by exact J10 (nat_lit 0x1a4a2014a201) rfl) (told2_ok (lv := lv) (b := b) hb4 P4 (by exact J20 (nat_lit 0x1a00015f90b0121a110101a36c211) rfl jl zr) (by exact J10 (nat_lit 0x1a011201a011612) rfl zw) (by exact J10 (nat_lit 0x1a012201a011622) rfl zm) c0 c1 fun H5 lm xm ym hm hxm hym nlm nxm nym hb5 g5 => ?_)
 have bo : ∀ a, H3 a = none → a ≠ b := fun a e q => by subst q; obtain ⟨_, _, eb⟩ := hb.frame (fun o e => G3 _ o e); rw [eb] at e; cases e
 have M5 : MR H5 rw ws prs pr pdx lt xt yt lm xm ym R W z p0 p1 p2 _ _ _ _ := ⟨A4.frame (fun o e => g5 _ o nrb e) (fun o e => g5 _ o nwb e), g5 _ _ npb hps4, by
  obtain ⟨_, _, eb⟩ := hb4
  exact ⟨g5 _ _ (zbW P4.inst eb (fun e => by cases e)) P4.inst, g5 _ _ (zbW P4.fl eb (fun e => by cases e)) P4.fl⟩, g5 _ _ (bo _ nlt) ht, g5 _ _ (bo _ nxt) hxt, g5 _ _ (bo _ nyt) hyt, hm, hxm, hym⟩
 clear hm hxm hym ht hxt hyt g5 g4 hps4 P4 A4 P3 A3 G3 g3
 generalize gr (oc (waU PW R)) (waU PW R).length w most (waU PW R).length 0 = G0 at MF M5
 generalize leastF (oc (waU PW R)) (waU PW R).length w most (wdW p0 p1 p2) = L0 at MF M5
 generalize gr (oc (waU W R)) (waU W R).length (z * w) (z * most) (waU W R).length 0 = G1 at MF M5
 generalize leastF (oc (waU W R)) (waU W R).length (z * w) (z * most) (wdW p0 p1 p2) = L1 at MF M5
 obtain ⟨o, par1, par2⟩ := MF.par
 have lG1 : (G1.map nV).length = G1.length := by rw [List.length_map]
 have gl1 := MF.glen
 refine wbW ?_
 refine ⟨show (0 : Nat) ≤ szL by decide, fun e0 he0 => ?_⟩
 have M6 := M5.frame (H' := upd H5 e0 (.list [])) fun a o e => lkn (nW e he0) e
 have hb6 : Box (upd H5 e0 (.list [])) b := hb5.frame fun o e => lkn (nW e he0) e
 refine St.of ?_
 refine CO_twonil M6.two0 (uS _ _ _) ?_
 generalize upd H5 e0 (.list []) = H6 at M6 hb6 ⊢
 refine weU ?_
 refine wbW ?_
 refine ⟨show (0 : Nat) ≤ szL by decide, fun e1 he1 => ?_⟩
 have M7 := M6.frame (H' := upd H6 e1 (.list [])) fun a o e => lkn (nW e he1) e
 have hb7 : Box (upd H6 e1 (.list [])) b := hb6.frame fun o e => lkn (nW e he1) e
 refine St.of ?_
 refine CO_twonil M7.two1 (uS _ _ _) ?_
 generalize upd H6 e1 (.list []) = H7 at M7 hb7 ⊢
 have u1 := M7.t
 have u2 := M7.m
 have u3 := M7.tx
 have u4 := M7.mx
 refine weU ?_
 refine St.of ?_
 refine zaU u2 (by exact J00 (nat_lit 0x61a0202) rfl) (by exact J00 (nat_lit 0x71a3b9aca00b02) rfl) rfl ?_
 refine St.of ?_
 refine C_lenl u4 (by exact J20 (nat_lit 0x1a000186a0b0121a110101a3e8311) rfl lG1 gl1) ?_
 refine St.of ?_
 refine zaU u1 (by exact J00 (nat_lit 0x61a0202) rfl) (by exact J00 (nat_lit 0x71a3b9aca00b02) rfl) rfl ?_
 refine wbW ?_
 refine ⟨show (3 : Nat) ≤ szL by decide, fun e2 he2 => ?_⟩
 have M8 := M7.frame (H' := upd H7 e2 (.list [.int 1, .int 1, .int 0])) fun a o e => lkn (nW e he2) e
 have hb8 : Box (upd H7 e2 (.list [.int 1, .int 1, .int 0])) b := hb7.frame fun o e => lkn (nW e he2) e
 have h110 : upd H7 e2 (.list [.int 1, .int 1, .int 0]) e2 = some (.list [.int 1, .int 1, .int 0]) := uS _ _ _
 generalize upd H7 e2 (.list [.int 1, .int 1, .int 0]) = H8 at M8 hb8 h110 ⊢
 refine St.of ?_
 refine waZ hK (by exact J10 (nat_lit 0x1a4a20144201) rfl) (due_ok (lv := lv) M8.rowW h110 M8.tx par1 (by exact J10 (nat_lit 0x1a3e830101a064301) rfl w2) (by exact J00 (nat_lit 0x61a1202) rfl) (by exact J00 (nat_lit 0x61a3e8312) rfl) (by exact J00 (nat_lit 0x61a0202) rfl) (by exact J00 (nat_lit 0x61a3e8302) rfl) fun H9 v hv g9 => ?_)
 have F1 := MF.one v hv
 have M9 := M8.frame g9
 have hb9 := hb8.frame fun o e => g9 _ o e
 have u1 := M9.t
 have u2 := M9.m
 have u3 := M9.ty
 have u4 := M9.my
 refine waV ?_
 refine whZ (by exact fun hq => Nat.lt_irrefl 0 (J21 (nat_lit 0x10a020221a110161a0181171a80101) rfl lG1 F1 hq)) ?_
 refine St.of ?_
 refine zaU u2 (by exact J00 (nat_lit 0x61a1202) rfl) (by exact J00 (nat_lit 0x71a3b9aca00b12) rfl) rfl ?_
 refine St.of ?_
 refine waZ hK (by exact J10 (nat_lit 0x1a4a20143201) rfl) (priceof_ok (lv := lv) M9.price c0 c1 M9.my MF.steps ?_)
 refine St.of ?_
 refine zaU u1 (by exact J00 (nat_lit 0x61a1202) rfl) (by exact J00 (nat_lit 0x71a3b9aca00b12) rfl) rfl ?_
 refine St.of ?_
 refine waZ hK (by exact J10 (nat_lit 0x1a4a20144201) rfl) (due_ok (lv := lv) M9.rowW M9.prs M9.ty par2 (by exact J10 (nat_lit 0x1a3e830101a064301) rfl w2) a0 a1 c0 c1 fun H10 v2 hv2 g10 => ?_)
 have F2 := MF.two v2 hv2
 have M10 := M9.frame g10
 have hb10 := hb9.frame fun o e => g10 _ o e
 generalize tot (wdW p0 p1 p2) L1 = tt at F2 ⊢
 refine waV ?_
 refine whZ (by exact fun hq => Nat.lt_irrefl 0 (J02 (nat_lit 0x10a020261a110171a0111) rfl F2 hq)) ?_
 refine zaV ?_
 refine zaY ?_
 refine waV ?_
 refine zbY (fun hz1 => ?_) (fun hz1 => ?_)
 ·refine ite_tt ?_
  exact h _ hb10
 have hz1 : z = 1 := by exact Nat.le_antisymm (J10 (nat_lit 0x1a1201b1a80112) rfl hz1) (J10 (nat_lit 0x1a011201a0112) rfl z1)
 refine St.of ?_
 refine WE_comp ["one", "two"] ["row", "words"] [] _ [1, 2] rfl hN (by rw [hCV]; simp) rfl rfl ?_
 refine goE hN hG ?_
 have krow : H10 rw = some (.list (ks R)) := M10.rowW.row
 have kwrd := M10.rowW.words
 have ksl : (ks R).length = R.length := ks_len
 refine ⟨_, _, zcV krow, fun c' hN' hG' hCV' hK' hGG hkl ac hac => LpC (fun _ _ _ => .ex fun (i : Nat) => .ex fun (x : Option V) => .ex fun (y : Option V) => .ex fun (n : Nat) => .hy (n ≤ 12 * i) fun _ => .hy (n = 0 → ∀ p ∈ R.take i, ∀ d ∈ R, p ≠ d → W.getD p [] ≠ W.getD d []) fun _ => .at i [x, y, some (.ref rw), some (.ref ws)] (upd H10 ac (.list ((List.replicate n (1 : Int)).map V.int))))
  (fun P _ _ kk => kk 0 _ _ 0 (Nat.zero_le _) fun _ p hp => by rw [List.take_zero] at hp; cases hp) ?_⟩
 intro JJ jj _ i x y n hn hcl
 refine tel_at ⟨fun _ => lkn (nW krow hac) krow, fun X hX => ?_, fun ei => ?_⟩
 ·intro r1
  have hi := (List.getElem?_eq_some_iff.mp hX).1
  unfold ks at hX
  refine mapAt hX fun pa hpa => ?_
  have hpaR := List.mem_of_getElem? hpa
  refine wdV 0 (nm hN' rfl) (hkl _ (.head _)) ?_
  refine (?_ : WE c' [some (.int pa), y, some (.ref rw), some (.ref ws)] _ _ _)
  refine goE hN' hG' ?_
  refine ⟨_, _, zcV (lkn (nW krow hac) krow), LpC (fun _ _ _ => .ex fun (j : Nat) => .ex fun (y : Option V) => .ex fun (n : Nat) => .hy (n ≤ 12 * i + j) fun _ => .hy (n = 0 → (∀ p ∈ R.take i, ∀ d ∈ R, p ≠ d → W.getD p [] ≠ W.getD d []) ∧ ∀ d ∈ R.take j, pa ≠ d → W.getD pa [] ≠ W.getD d []) fun _ => .at j [some (.int pa), y, some (.ref rw), some (.ref ws)] (upd H10 ac (.list ((List.replicate n (1 : Int)).map V.int))))
   (fun P _ _ kk => kk 0 _ n hn fun e => ⟨hcl e, fun d hd => by rw [List.take_zero] at hd; cases hd⟩) ?_⟩
  intro J2 j2 _ j y n hn hcl
  refine tel_at ⟨fun _ => lkn (nW krow hac) krow, fun X hX => ?_, fun ej => ?_⟩
  ·intro r2
   have hj := (List.getElem?_eq_some_iff.mp hX).1
   unfold ks at hX
   refine mapAt hX fun pd hpd => ?_
   have hpdR := List.mem_of_getElem? hpd
   have hta : R.take (j + 1) = R.take j ++ [pd] := by rw [List.take_add_one, hpd]; rfl
   have n144 : n ≤ 12 * 12 + 12 := by exact J50 (nat_lit 0x1a4c2c6c2010dac2112da11211ca213101a441c6310111a2141) rfl ash ksl hi hn hj
   refine wdV 1 (nm hN' rfl) (hkl _ (.tail _ (.head _))) ?_
   have kw : ∀ o, upd H10 ac o ws = some (.list (W.map V.bytes)) := fun o => lkn (nW kwrd hac) kwrd
   have kw0 := kw (.list ((List.replicate n (1 : Int)).map V.int))
   have xa := A.wat (A.lt pa hpaR)
   have xd := A.wat (A.lt pd hpdR)
   have lpa := A.lt pa hpaR
   have lpd := A.lt pd hpdR
   have adv : (pa ≠ pd → W.getD pa [] ≠ W.getD pd []) → n = 0 → (∀ p ∈ R.take i, ∀ d ∈ R, p ≠ d → W.getD p [] ≠ W.getD d []) ∧ ∀ d ∈ R.take (j + 1), pa ≠ d → W.getD pa [] ≠ W.getD d [] := fun hne e => ⟨(hcl e).1, fun d hd => by
    rw [hta] at hd
    rcases List.mem_append.mp hd with q | q
    ·exact (hcl e).2 d q
    ·rw [List.mem_singleton] at q; rw [q]; exact hne⟩
   refine (?_ : WT c' [some (.int pa), some (.int pd), some (.ref rw), some (.ref ws)] _ _ _)
   refine goT hN' hG' ?_
   refine waV ?_
   refine zbY (fun he => ?_) (fun he => ?_)
   ·refine St.of ?_
    refine zaU kw0 (by exact J10 (nat_lit 0x61a80102) rfl) (by exact J10 (nat_lit 0x71a3b9aca00b80111a4201) rfl lpa) xa ?_
    refine St.of ?_
    refine zaU kw0 (by exact J10 (nat_lit 0x61a80102) rfl) (by exact J10 (nat_lit 0x71a3b9aca00b80111a4201) rfl lpd) xd ?_
    refine waV ?_
    refine zbY (fun hw => ?_) (fun hw => ?_)
    ·skip
     refine (?_ : WE c' [some (.int pa), some (.int pd), some (.ref rw), some (.ref ws)] _ _ _)
     refine goE hN' hG' ?_
     have er : (List.replicate n (1 : Int)).map V.int ++ [V.int 1] = (List.replicate (n + 1) (1 : Int)).map V.int := by rw [List.replicate_succ', List.map_append]; rfl
     refine ⟨_, uS _ _ _, by rw [List.length_map, List.length_replicate]; exact J10 (nat_lit 0x1a000186a0b0101a4c2c6c201) rfl n144, ?_⟩
     rw [wcU, er]
     exact fun P kk => j2 _ kk (j + 1) _ (n + 1) (by exact J30 (nat_lit 0x1a441221c6114120101a421c61101) rfl hn) (fun e => by exact ⟨fun hq => fun hq => fun hq => fun hq => fun hq => fun hq => Nat.lt_irrefl 0 (J10 (nat_lit 0x10a020221a0241201) rfl e), fun hq => fun hq => fun hq => fun hq => Nat.lt_irrefl 0 (J10 (nat_lit 0x10a020221a0241201) rfl e)⟩) rfl
    ·exact fun P kk => j2 _ kk (j + 1) _ n (by exact J30 (nat_lit 0x1a441221c6110101a421c61101) rfl hn) (adv fun _ => hw) rfl
   ·exact fun P kk => j2 _ kk (j + 1) _ n (by exact J30 (nat_lit 0x1a441221c6110101a421c61101) rfl hn) (adv fun q => absurd (by exact fun hq => Nat.lt_irrefl 0 (J20 (nat_lit 0x10a020291a81180111a1101) rfl hq (Nat.lt_of_le_of_ne (J20 (nat_lit 0x1a110181a811801) rfl hq) q))) he) rfl
  ·rw [ej, ksl] at hn
   rw [ej, ksl, List.take_length] at hcl
   refine fun P kk => jj _ kk (i + 1) _ _ n (by exact J30 (nat_lit 0x1ac6412110101ac22101a421c61101) rfl ash hn) (fun e p hp => ?_) rfl
   have hta : R.take (i + 1) = R.take i ++ [pa] := by rw [List.take_add_one, hpa]; rfl
   rw [hta] at hp
   rcases List.mem_append.mp hp with q | q
   ·exact (hcl e).1 p q
   ·rw [List.mem_singleton] at q; rw [q]; exact (hcl e).2
 rw [ei, ksl, List.take_length] at hcl
 refine wbW ?_
 refine ⟨show (0 : Nat) ≤ szL by decide, fun e3 he3 => ?_⟩
 have nac : ac ≠ e3 := nW (uS _ _ _) he3
 have M11 := (M10.frame (H' := upd H10 ac (.list ((List.replicate n (1 : Int)).map V.int))) fun a o e => lkn (nW e hac) e).frame (H' := upd (upd H10 ac (.list ((List.replicate n (1 : Int)).map V.int))) e3 (.list [])) fun a o e => lkn (nW e he3) e
 have hb11 : Box (upd (upd H10 ac (.list ((List.replicate n (1 : Int)).map V.int))) e3 (.list [])) b := (hb10.frame (H' := upd H10 ac (.list ((List.replicate n (1 : Int)).map V.int))) fun o e => lkn (nW e hac) e).frame fun o e => lkn (nW e he3) e
 refine St.of ?_
 refine CO_neints (ps := List.replicate n 1) (qs := []) (lkn nac (uS _ _ _)) (uS _ _ _) ?_
 generalize upd (upd H10 ac (.list ((List.replicate n (1 : Int)).map V.int))) e3 (.list []) = H11 at M11 hb11 ⊢
 refine zbY (fun hne => ?_) (fun hne => ?_)
 ·refine ite_tt ?_
  exact h _ hb11
 have hn0 : n = 0 := by
  cases n with
  | zero => rfl
  | succ n => exact absurd (by simp [List.replicate_succ]) hne
 obtain ⟨s1, s2⟩ := MF.same hz1 (hcl hn0)
 refine St.of ?_
 refine WE_comp ["steps"] ["row", "words"] ["_law_mapped"] _ [1, 2] rfl hN (by rw [hCV]; simp) rfl rfl ?_
 refine goE hN hG ?_
 have k11 := M11.t
 refine ⟨_, _, zcV k11, fun c' hN' hG' hCV' hK' hGG hkl ac2 hac2 => LpC (fun _ _ _ => .ex fun (i : Nat) => .ex fun (x : Option V) => .ex fun (H' : AH) => .hy (MR H' rw ws prs pr pdx lt xt yt lm xm ym R W z p0 p1 p2 G0 L0 G1 L1) fun _ => .hy (Box H' b) fun _ => .hy (LMap H' ac2 G1 L1 i) fun _ => .at i [x, some (.ref rw), some (.ref ws)] H')
  (fun P _ _ kk => kk 0 _ _ (M11.frame fun a o e => lkn (nW e hac2) e) (hb11.frame fun o e => lkn (nW e hac2) e) (uS _ _ _)) ?_⟩
 intro J3 j3 _ i x H' M' hb' hL
 have nab : b ≠ ac2 := hb11.elim fun _ ⟨_, e⟩ => nW e hac2
 refine tel_at ⟨fun _ => M'.t, fun X hX => ?_, fun ei => ?_⟩
 ·intro r3
  refine wdV 0 (nm hN' rfl) (hkl _ (.head _)) ?_
  have hK2 : c'.k = lv + 10 := hK'.trans hK
  refine hb'.elim fun _ ⟨_, eb⟩ => ?_
  match i, hX, hL with
  | 0, hX, hL =>
   cases hX
   refine (?_ : WE c' [some (.ref xt), some (.ref rw), some (.ref ws)] _ _ _)
   refine goE hN' hG' ?_
   refine St.of ?_
   refine waZ hK2 (by exact J10 (nat_lit 0x1a4a20141201) rfl) (mapped_ok (lv := lv) M'.rowW M'.tx par1 fun H2 l2 hl2 el2 g2 => ?_)
   have hA := g2 _ _ hL
   rw [← s1] at el2
   have nla : l2 ≠ ac2 := Ne.symm (nW hL hl2)
   exact ⟨[], hA, Nat.zero_le _, fun P kk => j3 _ kk 1 _ _ ((M'.frame g2).frameN (M11.notin hac2)) ((hb'.frame fun o e => g2 _ o e).frame fun o e => lkn nab e) ⟨l2, uS _ _ _, lkn nla el2, nla⟩ rfl⟩
  | 1, hX, hL =>
   cases hX
   obtain ⟨l1, hL, el1, nl1⟩ := hL
   refine (?_ : WE c' [some (.ref yt), some (.ref rw), some (.ref ws)] _ _ _)
   refine goE hN' hG' ?_
   refine St.of ?_
   refine waZ hK2 (by exact J10 (nat_lit 0x1a4a20141201) rfl) (mapped_ok (lv := lv) M'.rowW M'.ty par2 fun H2 l2 hl2 el2 g2 => ?_)
   have hA := g2 _ _ hL
   rw [← s2] at el2
   have nla : l2 ≠ ac2 := Ne.symm (nW hL hl2)
   exact ⟨[.ref l1], hA, (by decide : 1 ≤ 100000), fun P kk => j3 _ kk 2 _ _ ((M'.frame g2).frameN (M11.notin hac2)) ((hb'.frame fun o e => g2 _ o e).frame fun o e => lkn nab e) ⟨l1, l2, uS _ _ _, lkn nl1 (g2 _ _ el1), lkn nla el2⟩ rfl⟩
  | i + 2, hX, _ => cases hX
 subst ei
 obtain ⟨l1, l2, hA, el1, el2⟩ := hL
 refine St.of ?_
 refine CO_eqtwo M'.two1 (⟨l1, l2, hA, by rw [← nV_prV]; exact el1, by rw [← nV_prV]; exact el2⟩ : Two H' ac2 (G1.map nI) (L1.map nI)) ?_
 rw [decide_eq_true ⟨rfl, rfl⟩]
 refine zcX ?_
 exact h _ hb'
set_option tactic.hygienic false
theorem RowW.two {H : AH} {rw ws n : Addr} {ob : O} {R : List Nat} {W : List (List UInt8)} {z : Nat} (A : RowW H rw ws R W z) (n1 : rw ≠ n) (n2 : ws ≠ n) : RowW (upd H n ob) rw ws R W z := A.frame (fun _ e => lkn n1 e) fun _ e => lkn n2 e
theorem Box.new {H : AH} {b n : Addr} {ob : O} (hb : Box H b) (hn : H n = none) : Box (upd H n ob) b ∧ n ≠ b :=
 ⟨hb.frame fun _ e => lkn (nW e hn) e, fun q => by subst q; obtain ⟨_, _, e⟩ := hb; rw [e] at hn; cases hn⟩
theorem two_at {k : Int} {x y : Nat} {p : Nat → Prop} (h0 : 0 ≤ k) (h1 : k < 2) (px : p x) (py : p y) : ∃ w : Nat, [V.int x, V.int y][k.toNat]? = some (V.int w) ∧ p w := by
 have : k = 0 ∨ k = 1 := lti2 (by exact J01 (nat_lit 0x61a010261a0102) rfl h0) (by exact J01 (nat_lit 0x71a220171a2201) rfl h1)
 rcases this with rfl | rfl
 ·exact ⟨x, rfl, px⟩
 ·exact ⟨y, rfl, py⟩
set_option maxHeartbeats 2000000 in
theorem law_ok {G : Gd} {lv : Nat} {H : AH} {Q : V → AH → Prop} (hns : G.ns.length ≤ 1000) (h : ∀ H', Q (.bool true) H') : waX G (lv + 12) (.ref 580) [.ref G.sc] H Q := by
 refine' waY (ps := ["script"]) (extra := []) ?ho (ok_law _) rfl rfl ?hb ?_
 case ho => k_is
 case hb => exact fun s vs _ r => bnd1 (fun _  => BindsTo.of_eq rfl) r
 intro c hN hG hK hc
 subst hc
 refine (let r0 : Loc := [some (.ref c.G.sc), none, none, none, none, none, none, none, none]; (?_ : WSs c r0 _ _ _))
 refine goS hN hG ?_
 refine goK (fun r' H' => ∃ b, r' = [some (.ref c.G.sc), some (.ref b), none, none, none, none, none, none, none] ∧ Box H' b) rfl (fun K kK => ?_) ?_
 ·refine St.of ?_
  refine waZ hK (by exact J10 (nat_lit 0x1a4b20141201) rfl) (lawbox_ok (lv := lv) hns fun H1 b hb1 _ _ => ?_)
  exact kK ⟨b, rfl, hb1⟩
 rintro r' H1 ⟨b, rfl, hb1⟩
 refine goK (fun r' H' => ∃ room : Nat, (room = 6 ∨ room = 12) ∧ r' = [some (.ref c.G.sc), some (.ref b), some (.int room), none, none, none, none, none, none] ∧ Box H' b) rfl (fun K kK => ?_) ?_
 ·refine St.of ?_
  refine C_len_script (by unfold szL; exact J10 (nat_lit 0x1a01000000b0101a3e8301) rfl hns) ?_
  refine waV ?_
  refine zbY (fun h0 => ?_) (fun h0 => ?_)
  ·obtain ⟨d, s, eb⟩ := id hb1
   refine St.of ?_
   refine zaU eb (by exact J00 (nat_lit 0x61a0202) rfl) (by exact J00 (nat_lit 0x71a3b9aca00b02) rfl) rfl ?_
   refine waV ?_
   refine zbY (fun h1 => ?_) (fun h1 => ?_)
   ·skip
    exact kK ⟨6, .inl rfl, rfl, hb1⟩
   ·refine weU ?_
    exact kK ⟨12, .inr rfl, rfl, hb1⟩
  ·refine weU ?_
   exact kK ⟨12, .inr rfl, rfl, hb1⟩
 rintro r' H2 ⟨room, hroom, rfl, hb2⟩
 refine goK (fun r' H' => ∃ z : Nat, 1 ≤ z ∧ z ≤ 3 ∧ r' = [some (.ref c.G.sc), some (.ref b), some (.int room), some (.int z), none, none, none, none, none] ∧ Box H' b) rfl (fun K kK => ?_) ?_
 ·refine wbW ?_
  refine ⟨show (5 : Nat) ≤ szL by decide, fun e0 he0 => ?_⟩
  obtain ⟨hb3, ne0⟩ := hb2.new (ob := .list [.int 1, .int 1, .int 1, .int 2, .int 3]) he0
  refine St.of ?_
  refine waZ hK (by exact J10 (nat_lit 0x1a4b20141201) rfl) (zdZ (lv := lv) hb3 (by exact J00 (nat_lit 0x71a5202) rfl) (by exact J00 (nat_lit 0x71a000f4240b52) rfl) fun k d s k0 k1 => ?_)
  obtain ⟨z, hz, z1, z3⟩ : ∃ z : Nat, [V.int 1, V.int 1, V.int 1, V.int 2, V.int 3][k.toNat]? = some (V.int z) ∧ 1 ≤ z ∧ z ≤ 3 := by
   have : k = 0 ∨ k = 1 ∨ k = 2 ∨ k = 3 ∨ k = 4 := lti5 (by exact J01 (nat_lit 0x61a010261a0102) rfl k0) (by exact J01 (nat_lit 0x71a520171a5201) rfl k1)
   rcases this with rfl | rfl | rfl | rfl | rfl
   ·exact ⟨1, rfl, by decide⟩
   ·exact ⟨1, rfl, by decide⟩
   ·exact ⟨1, rfl, by decide⟩
   ·exact ⟨2, rfl, by decide⟩
   ·exact ⟨3, rfl, by decide⟩
  refine St.of ?_
  refine zaU (lkn ne0 (uS _ _ _)) k0 (by exact J01 (nat_lit 0x71a3b9aca00b0171a5201) rfl k1) hz ?_
  try refine zaU (lkn ne0 (uS _ _ _)) k0 (by omega) hz ?_
  exact kK ⟨z, z1, z3, rfl, ⟨_, _, uS _ _ _⟩⟩
 rintro r' H3 ⟨z, z1, z3, rfl, hb3⟩
 refine goK (fun r' H' => ∃ rw R, r' = [some (.ref c.G.sc), some (.ref b), some (.int room), some (.int z), some (.ref rw), none, none, none, none] ∧ H' rw = some (.list (ks R)) ∧ (∀ k ∈ R, k < 4) ∧ R.length ≤ 12 ∧ rw ≠ b ∧ Box H' b) rfl (fun K kK => ?_) ?_
 ·refine St.of ?_
  refine BO_div (by exact J10 (nat_lit 0x71a8010201a0112) rfl z1) (by exact J10 (nat_lit 0x71a40000000b80101a3201) rfl z3) ?_
  refine St.of ?_
  have er : (room : Int) / (z : Int) = ((room / z : Nat) : Int) := rfl
  have hrz : room / z ≤ 12 := Nat.le_trans (Nat.div_le_self _ _) (by omega)
  rw [er]
  refine waZ hK (by exact J10 (nat_lit 0x1a4b20142201) rfl) (lawrow_ok (lv := lv) hb3 hrz fun H4 l R hl hR hlen hln nlb hb4 g4 => ?_)
  exact kK ⟨l, R, rfl, hl, hR, by exact J20 (nat_lit 0x1ac20101ac21101a1101) rfl hrz hlen, nlb, hb4⟩
 rintro r' H4 ⟨rw, R, rfl, hrw, hR, hlen, nrb, hb4⟩
 refine goK (fun r' H' => ∃ ws W, r' = [some (.ref c.G.sc), some (.ref b), some (.int room), some (.int z), some (.ref rw), some (.ref ws), none, none, none] ∧ RowW H' rw ws R W z ∧ ws ≠ b ∧ Box H' b) rfl (fun K kK => ?_) ?_
 ·refine St.of ?_
  refine waZ hK (by exact J10 (nat_lit 0x1a4b20142201) rfl) (lawwords_ok (lv := lv) hb4 z1 z3 fun H5 l W hW hW4 hWz hln nlb hb5 g5 => ?_)
  exact kK ⟨l, W, rfl, ⟨g5 _ _ nrb hrw, hW, hW4, hWz, hR, hlen, z1, z3⟩, nlb, hb5⟩
 rintro r' H5 ⟨ws, W, rfl, A5, nwb, hb5⟩
 refine goK (fun r' H' => ∃ w : Nat, 1 ≤ w ∧ w ≤ 100 ∧ r' = [some (.ref c.G.sc), some (.ref b), some (.int room), some (.int z), some (.ref rw), some (.ref ws), some (.int w), none, none] ∧ RowW H' rw ws R W z ∧ Box H' b) rfl (fun K kK => ?_) ?_
 ·refine St.of ?_
  refine waZ hK (by exact J10 (nat_lit 0x1a4b20141201) rfl) (zdZ (lv := lv) hb5 (by exact J00 (nat_lit 0x71a8202) rfl) (by exact J00 (nat_lit 0x71a000f4240b82) rfl) fun k d s k0 k1 => ?_)
  refine wbW ?_
  have A6 : RowW (upd H5 b (.list [.int d, .int s])) rw ws R W z := A5.two nrb nwb
  refine ⟨show (2 : Nat) ≤ szL by decide, fun e0 he0 => ?_⟩
  obtain ⟨hb6, ne0⟩ := Box.new (b := b) (ob := .list [.int 40, .int (1 + k)]) ⟨_, _, uS _ _ _⟩ he0
  have A7 := A6.two (ob := .list [.int 40, .int (1 + k)]) (nW A6.row he0) (nW A6.words he0)
  refine St.of ?_
  refine waZ hK (by exact J10 (nat_lit 0x1a4b20141201) rfl) (zdZ (lv := lv) hb6 (by exact J00 (nat_lit 0x71a2202) rfl) (by exact J00 (nat_lit 0x71a000f4240b22) rfl) fun k2 d2 s2 k20 k21 => ?_)
  obtain ⟨w, hw, w1, w2⟩ := two_at (x := 40) (y := (1 + k).toNat) (p := fun w => 1 ≤ w ∧ w ≤ 100) k20 k21 (by exact ⟨J00 (nat_lit 0x1a028312) rfl, J00 (nat_lit 0x1a06430283) rfl⟩) (by exact ⟨J11 (nat_lit 0x1a011261a010291a40112801) rfl k0 (Int.toNat_of_nonneg (J01 (nat_lit 0x61a401120261a0102) rfl k0)), J11 (nat_lit 0x1a06430171a820181a40112801) rfl k1 (Int.toNat_of_nonneg (J01 (nat_lit 0x61a401120261a0102) rfl k0))⟩)
  rw [Int.toNat_of_nonneg (by exact J01 (nat_lit 0x61a401120261a0102) rfl k0 : 0 ≤ 1 + k)] at hw
  refine St.of ?_
  refine zaU (lkn ne0 (uS _ _ _)) k20 (by exact J01 (nat_lit 0x71a3b9aca00b0171a2201) rfl k21) ‹_› ?_
  try refine zaU (lkn ne0 (uS _ _ _)) k20 (by omega) hw ?_
  exact kK ⟨w, w1, w2, rfl, A7.two nrb nwb, ⟨_, _, uS _ _ _⟩⟩
 rintro r' H6 ⟨w, w1, w2, rfl, A6, hb6⟩
 refine goK (fun r' H' => ∃ m : Nat, 2 ≤ m ∧ m ≤ 100 ∧ r' = [some (.ref c.G.sc), some (.ref b), some (.int room), some (.int z), some (.ref rw), some (.ref ws), some (.int w), some (.int m), none] ∧ RowW H' rw ws R W z ∧ Box H' b) rfl (fun K kK => ?_) ?_
 ·refine St.of ?_
  refine waZ hK (by exact J10 (nat_lit 0x1a4b20141201) rfl) (zdZ (lv := lv) hb6 (by exact J00 (nat_lit 0x71a4202) rfl) (by exact J00 (nat_lit 0x71a000f4240b42) rfl) fun k d s k0 k1 => ?_)
  refine wbW ?_
  have A7 : RowW (upd H6 b (.list [.int d, .int s])) rw ws R W z := A6.two nrb nwb
  refine ⟨show (2 : Nat) ≤ szL by decide, fun e0 he0 => ?_⟩
  obtain ⟨hb7, ne0⟩ := Box.new (b := b) (ob := .list [.int 40, .int (2 + k)]) ⟨_, _, uS _ _ _⟩ he0
  have A8 := A7.two (ob := .list [.int 40, .int (2 + k)]) (nW A7.row he0) (nW A7.words he0)
  refine St.of ?_
  refine waZ hK (by exact J10 (nat_lit 0x1a4b20141201) rfl) (zdZ (lv := lv) hb7 (by exact J00 (nat_lit 0x71a2202) rfl) (by exact J00 (nat_lit 0x71a000f4240b22) rfl) fun k2 d2 s2 k20 k21 => ?_)
  obtain ⟨m, hm, m1, m2⟩ := two_at (x := 40) (y := (2 + k).toNat) (p := fun w => 2 ≤ w ∧ w ≤ 100) k20 k21 (by exact ⟨J00 (nat_lit 0x1a028322) rfl, J00 (nat_lit 0x1a06430283) rfl⟩) (by exact ⟨J11 (nat_lit 0x1a012261a010291a40122801) rfl k0 (Int.toNat_of_nonneg (J01 (nat_lit 0x61a401220261a0102) rfl k0)), J11 (nat_lit 0x1a06430171a420181a40122801) rfl k1 (Int.toNat_of_nonneg (J01 (nat_lit 0x61a401220261a0102) rfl k0))⟩)
  rw [Int.toNat_of_nonneg (by exact J01 (nat_lit 0x61a401220261a0102) rfl k0 : 0 ≤ 2 + k)] at hm
  refine St.of ?_
  refine zaU (lkn ne0 (uS _ _ _)) k20 (by exact J01 (nat_lit 0x71a3b9aca00b0171a2201) rfl k21) ‹_› ?_
  try refine zaU (lkn ne0 (uS _ _ _)) k20 (by omega) hm ?_
  exact kK ⟨m, m1, m2, rfl, A8.two nrb nwb, ⟨_, _, uS _ _ _⟩⟩
 rintro r' H7 ⟨m, m1, m2, rfl, A7, hb7⟩
 refine goK (fun r' H' => ∃ (ps : Addr) (p0 p1 p2 : Int), 0 ≤ p0 ∧ p0 ≤ 1000 ∧ 0 ≤ p1 ∧ 0 ≤ p2 ∧ p2 ≤ 1000 ∧ r' = [some (.ref c.G.sc), some (.ref b), some (.int room), some (.int z), some (.ref rw), some (.ref ws), some (.int w), some (.int m), some (.ref ps)] ∧ H' ps = some (.list [.int p0, .int p1, .int p2]) ∧ ps ≠ b ∧ RowW H' rw ws R W z ∧ Box H' b) rfl (fun K kK => ?_) ?_
 ·refine St.of ?_
  refine waZ hK (by exact J10 (nat_lit 0x1a4b20141201) rfl) (zdZ (lv := lv) hb7 (by exact J00 (nat_lit 0x71a8202) rfl) (by exact J00 (nat_lit 0x71a000f4240b82) rfl) fun k d s k0 k1 => ?_)
  refine St.of ?_
  refine waZ hK (by exact J10 (nat_lit 0x1a4b20141201) rfl) (zdZ (lv := lv) ⟨_, _, uS _ _ _⟩ (by exact J00 (nat_lit 0x71a010302) rfl) (by exact J00 (nat_lit 0x71a000f4240b0103) rfl) fun k2 d2 s2 k20 k21 => ?_)
  refine St.of ?_
  refine waZ hK (by exact J10 (nat_lit 0x1a4b20141201) rfl) (zdZ (lv := lv) ⟨_, _, uS _ _ _⟩ (by exact J00 (nat_lit 0x71a3202) rfl) (by exact J00 (nat_lit 0x71a000f4240b32) rfl) fun k3 d3 s3 k30 k31 => ?_)
  refine wbW ?_
  refine ⟨show (3 : Nat) ≤ szL by decide, fun e0 he0 => ?_⟩
  have A8 := ((A7.two (ob := .list [.int d, .int s]) nrb nwb).two (ob := .list [.int d2, .int s2]) nrb nwb).two (ob := .list [.int d3, .int s3]) nrb nwb
  obtain ⟨hb8, ne0⟩ := Box.new (b := b) (ob := .list [.int (1 + k), .int k2, .int k3]) ⟨_, _, uS _ _ _⟩ he0
  exact kK ⟨e0, 1 + k, k2, k3, by exact J01 (nat_lit 0x61a401120261a0102) rfl k0, by exact J01 (nat_lit 0x61a3e834011271a8201) rfl k1, by exact J01 (nat_lit 0x61a010261a0102) rfl k20, by exact J01 (nat_lit 0x61a010261a0102) rfl k30, by exact J01 (nat_lit 0x61a3e830171a3201) rfl k31, rfl, uS _ _ _, ne0, A8.two (nW A8.row he0) (nW A8.words he0), hb8⟩
 rintro r' H8 ⟨ps, p0, p1, p2, a0, a1, b0, c0, c1, rfl, hps, npb, A8, hb8⟩
 refine wbW ?_
 refine ⟨show (2 : Nat) ≤ szL by decide, fun e0 he0 => ?_⟩
 obtain ⟨hb9, ne0⟩ := hb8.new (ob := .list [.int w, .int m]) he0
 refine St.of ?_
 refine waZ hK (by exact J10 (nat_lit 0x1a4b2014b201) rfl) (mapright_ok (lv := lv) hb9 (A8.two (nW A8.row he0) (nW A8.words he0)) (uS _ _ _) (lkn (nW hps he0) hps) nrb nwb npb w1 w2 m1 m2 a0 a1 b0 c0 c1 fun H9 hb10 => ?_)
 refine ite_nt ?_
 refine ite_tt ?_
 refine zaV ?_
 refine zaY ?_
 refine St.of ?_
 refine waZ hK (by exact J10 (nat_lit 0x1a4b2014a201) rfl) (again_ok (lv := lv) hb10 m1 (by exact J10 (nat_lit 0x1a3e830101a064301) rfl m2) hroom fun H10 => ?_)
 refine zcX ?_
 exact h _
end Mine
namespace Mine
theorem nam_law (P : Params) : nsIn (KK P) mainGlobals "law" = some (some (.ref 580)) := by kernel_rfl
theorem whole {w : World} {s₁ : Shared} {mg mb : Str → Option Value} {fa sc : Addr} {items : List Value} {ns : List Int} (KX : (KK w.params).In s₁.heap) (g : s₁.heap.Ns mainGlobals mg) (b : s₁.heap.Ns builtinsNs mb) (lim : s₁.heap.NoLimit)
 (bi : ∀ x : Str, x ≠ "__name__" → mb x = bootBuiltins x) (hg : s₁.gens = #[]) (hfa : mg "law" = some (.ref fa)) (hL : s₁.heap.IsList sc items.toArray) (hI : IntsAre items ns) (hn : ns.length ≤ 63)
 {R E : Value → Shared → Prop} (h : ∀ s', (∀ a o, s₁.heap.get? a = some o → s'.heap.get? a = some o) → s'.os = s₁.os → s'.gens = #[] → R (.bool true) s') :
 wpAny (model PG w) callerA (call (.ref fa) [.ref sc]) R E s₁ := by
 have e : fa = 580 := by
  have q := mg_of KX g (nam_law w.params)
  rw [hfa] at q
  cases q
  rfl
 subst e
 let G : Gd := ⟨w, s₁.heap, s₁.os, KX, mg, mb, g, b, lim, bi, sc, ns, items, hL, hI⟩
 have I : Inv G (fun _ => none) s₁ := ⟨hg, rfl, fun _ _ e => e, fun _ _ _ => rfl, fun _ _ e => (by cases e), fun _ _ e => (by cases e)⟩
 have hA : AOk 12 callerA := ⟨rfl, by decide, by decide⟩
 have W : waX G (0 + 12) (.ref 580) [.ref G.sc] (fun _ => none) (fun X _ => X = .bool true) := law_ok (by show ns.length ≤ 1000; omega) fun _ => rfl
 refine wpAny_mono (W.call callerA s₁ [.ref sc] hA I ⟨rfl, trivial⟩) (fun v s' ⟨X, H', rv, I', _, e⟩ => ?_) fun _ _ e => e.elim
 subst e
 cases rv
 exact h s' I'.base I'.os I'.gens
end Mine
set_option maxRecDepth 100000 in
set_option maxHeartbeats 8000000 in
theorem PySem.Challenge.cw_tk0123_01_holds : PySem.Challenge.rw_tk0123_01.Holds := by
 w_on
 refine holds_law Mine.said fun said => ?_
 refine holds_open (q := Mine.VW) (loose := Mine.lse) (XP := XL Mine.VW []) Mine.lft (Hook.of Mine.HK) (Hook.keeps Mine.HK) (fun s e => xl_of s (Bool.and_eq_true_iff.mp e).1) XL.keeps (by rfl) (by rfl) (by rfl) (fun s e => recFacts_of (Bool.and_eq_true_iff.mp e).2) (by rfl) said (by decide +kernel) ⟨rfl, rfl, rfl, rfl, rfl, by decide +kernel⟩ ?_ ?_
 w_witness2
 k_fill
 intro w s₀ s₁ mg mb G Y fa o pm cd doc dV kV ho hd hcd hD hmg hg args vals as hpre hlay hrd hwl hlo
 have KX := kIn_of Y
 refine Ground.open G ?_
 intro T B D TE TW
 wrow_args hpre hlay hrd hwl hlo
 rename_i ns _ _ _ _ _ _ _ sc items _ hL _ _ _ hI _ hc _
 exact Mine.whole KX (Top.g T) (Top.b T) (Top.nolimit T) (Top.builtins T) hg hmg hL hI (by omega) fun s' k1 k2 k3 => GoodW.toG ⟨.inl ⟨_, .bool true, [], rfl, raisesW_false (by wrow_none_raised), .bool true, postW_of (by wrow_shape) (by wtm_val) (by w_fin), unshared_nil⟩, k1, k2, k3⟩