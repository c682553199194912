import PyProof.Rows.All
import Wide.All
import OpenK.AllK
import Wide.FinOn
import Lean
import PySem.Challenge.RW_sm0100_01
set_option Elab.async false
set_option linter.all false

section
open PySem PySem.W PyProof.Rows
set_option maxRecDepth 100000
set_option maxHeartbeats 0
namespace Mine
noncomputable abbrev pw := PySem.Challenge.pw_sm0100_01
noncomputable abbrev lawL := PySem.Challenge.rw_sm0100_01
noncomputable def viewQ : Program := { pw with main := { pw.main with body := (pw.main.body[96]?).toList } }
noncomputable def looseQ : List Str := (pw.main.scope.names.map (·.1)).filter fun n => !(n == ("law" : Str))
theorem lk2 : PySem.W.Fast.tw8377067652309620493 pw = true := by kernel_rfl
theorem lk3 : PySem.W.R.filterR (PySem.W.Fast.tw13343964577679436407 pw pw.main.body) [⟨⟨[118, 97, 114, 115]⟩⟩, ⟨⟨[100, 105, 114]⟩⟩, ⟨⟨[108, 111, 99, 97, 108, 115]⟩⟩] = [] := by kernel_rfl
theorem lk4 : PySem.W.Fast.tw8326940854005059898 { strict := !(PySem.W.R.allR (PySem.W.Fast.tw5923862056798008813 pw.main.body) (@PySem.W.Fast.tw3471404346716756564 Str (@instBEqOfDecidableEq Str PySem.W.Fast.sDec) PySem.W.Fast.tw17691160309236699985)), foot := none, bare := [] } pw.main.body = true := by kernel_rfl
theorem lk5 : PySem.W.Fast.tw17119622794617984870 pw pw.main.body (fun _ n => PySem.W.Fast.tw17868728402115742887 n) = true := by kernel_rfl
theorem lks : PySem.W.Fast.tw12908688711261696721 pw = true := by
  delta PySem.W.Fast.tw12908688711261696721
  rw [lk3]
  refine look_both (look_both (look_both (look_both ?_ lk2) ?_) lk4) lk5
  · kernel_rfl
  · kernel_rfl
theorem prog_is : lawL.row.prog = pw := by kernel_rfl
theorem prog_it : (PySem.W.Fast.tw2368527892694137696 lawL).prog = pw := by kernel_rfl
theorem lks' : PySem.W.Fast.tw12908688711261696721 (PySem.W.Fast.tw2368527892694137696 lawL).prog = true := by rw [prog_it]; exact lks
theorem said : lawL.wellSaid = true := by
  rw [PySem.W.Fast.te9446332074065402090]
  delta PySem.W.Fast.tw9446332074065402090 PySem.W.Fast.tw17960256430627541270 PySem.W.Fast.tw2436336058641802641
  repeat' (first
    | with_reducible refine look_both ?_ ?_
    | with_reducible exact lks'
    | kernel_rfl)
theorem wit : lawL.row.toRowW.promised := ⟨[.list []], by decide +kernel, by decide +kernel⟩
theorem whole : pw.tablesWhole = true := by
  delta Program.tablesWhole TablesWhole.wProgram TablesWhole.holds Scope.bears
  rw [PySem.W.Fast.te6116379765354995101, PySem.W.Fast.sDec_eq]
  kernel_rfl
theorem bare : lawL.row.prog.bare := by
  rw [prog_is]
  exact ⟨rfl, rfl, rfl, rfl, rfl, whole⟩
theorem okO : (chainsOk viewQ && opensWell lawL.row.prog && (frees lawL.row.toRowW && lawL.row.within.isEmpty)) = true := by kernel_rfl
noncomputable def btOf : Nat → List Obj → BT → BT
  | _, [], t => t
  | n, o :: r, t => btOf (n + 1) r (t.ins n o)
noncomputable def S0 (w : World) (os : OsState) : SharedT := ⟨btOf 0 (boot_heap w.params).objs.toList .nil, 11, (boot_heap w.params).life, Array.mk [], boot_drawn, boot_toks, os⟩
theorem S0_abs (w : World) (os : OsState) : (S0 w os).abs = ⟨boot_heap w.params, Array.mk [], boot_drawn, boot_toks, os⟩ := rfl
noncomputable def runP (ok : Thread → Bool) (st : SharedT → Thread → Option (SharedT × Thread)) : Nat → SharedT → Thread → Option SharedT
  | 0, _, _ => none
  | n + 1, s, t => match through t with
    | true => some s
    | false => match ok t with
      | false => none
      | true => match st s t with
        | some (s', t') => runP ok st n s' t'
        | none => none
theorem runP_of {tb : String → Option Builtin} {p : Program} {w : World} {n₀ : Nat} {ann : Option Value} : ∀ {n : Nat} {s s' : SharedT} {t : Thread}, runP (stepOk n₀ ann) (stepT (denote tb) p w) n s t = some s' → topRun tb p w n₀ ann n s.abs t = some s'.abs
  | 0, _, _, _, h => by cases h
  | n + 1, s, s', t, h => by
    unfold runP at h
    unfold topRun
    cases ht : through t with
    | true => rw [ht] at h; cases h; rfl
    | false =>
      rw [ht] at h
      cases hk : stepOk n₀ ann t with
      | false => rw [hk] at h; cases h
      | true =>
        rw [hk] at h
        cases hs : stepT (denote tb) p w s t with
        | none => rw [hs] at h; cases h
        | some r => obtain ⟨s₂, t₂⟩ := r; rw [hs] at h; rw [stepT_spec hs]; exact runP_of h
theorem left_gen {p q : Program} {loose : List Str} {Xt : Shared → Bool} {α : Type} {Yf : Shared → α} {Ya : World → α} {N M : Nat} {ann : Option Value} {H : World → Heap} {T : World → OsState → SharedT} {g : Array GenState} {d : Drawn} {k m : Nat}
    (hb : ∀ w : World, (fencedOpening treeTable p w N).map (fun s => (s.heap, s.gens, s.drawn, s.toks)) = some (H w, g, d, k)) (ht : ∀ w os, (T w os).abs = ⟨H w, g, d, k, os⟩)
    (sz : ∀ w : World, ((H w).isNs mainGlobals && g.size == 0, (H w).objs.size, (H w).nsMap mainGlobals "__annotations__") = (true, m, ann)) (le : Nat.ble M N = true)
    (h : ∀ (w : World) (os : OsState), (runP (stepOk m ann) (stepT (denote treeTable) p w) M (T w os) (topStub p)).map (fun s => (staticsOk (importedModules p.main.body) (H w) s.abs.heap && namesBound p s.abs.heap && gensDone s.abs && laidKept (H w) s.abs.heap,
        openSeen q loose (importedModules p.main.body) Xt true s.abs, Yf s.abs)) = some (true, openGood q loose, Ya w)) : LeftO p q loose Xt Yf Ya N := by
  intro w
  obtain ⟨s, hs, hv⟩ := Option.map_eq_some_iff.mp (hb w)
  obtain ⟨hh, hg, hd, hk, os⟩ := s
  have z := sz w
  have tt := ht w os
  have h := h w os
  generalize H w = H at *
  cases hv
  unfold openEnds
  rw [hs]
  obtain ⟨s', h1, h2⟩ := Option.map_eq_some_iff.mp h
  have r := topRun_mono (N - M) _ _ _ _ (runP_of h1)
  rw [show M + (N - M) = N by have := Nat.le_of_ble_eq_true le; (first | lia | omega), tt] at r
  simp only [Prod.mk.injEq] at z h2
  show (topFrom treeTable p w N _).map _ = _
  unfold topFrom
  dsimp only
  rw [z.1, z.2.1, z.2.2, r]
  show ((match staticsOk (importedModules p.main.body) hh s'.abs.heap && namesBound p s'.abs.heap && gensDone s'.abs && laidKept hh s'.abs.heap with | true => _ | false => _ : Option Shared)).map _ = _
  rw [h2.1]
  exact congrArg some (Prod.ext h2.2.1 h2.2.2)
theorem b0 : opening pw = plainProg pw.main.scope.names := by kernel_rfl
theorem b1 : ∀ s, fenceModules? pw s = some s := fun s => by kernel_rfl
theorem b2 (w : World) : ((boot_heap w.params).isNs mainGlobals && (Array.mk ([] : List GenState)).size == 0, (boot_heap w.params).objs.size, (boot_heap w.params).nsMap mainGlobals "__annotations__") = (true, 11, some (.ref 6)) := by kernel_rfl
theorem head_run {α : Type} {Yf : Shared → α} {Ya : World → α}
    (h : ∀ (w : World) (os : OsState), (runP (PySem.W.Fast.tw6613529449190102663 11 (some (.ref 6))) (PySem.W.Fast.tw10156331382660048174 (PySem.W.Fast.tw11892475500146522536 PySem.W.Fast.tw14364793385576792824) pw w) 3200 (S0 w os) (topStub pw)).map (fun s => (staticsOk (importedModules pw.main.body) (boot_heap w.params) s.abs.heap && namesBound pw s.abs.heap && gensDone s.abs && laidKept (boot_heap w.params) s.abs.heap,
        PySem.W.Fast.tw4187177175401517315 viewQ looseQ (importedModules pw.main.body) (fun _ => true) true s.abs, Yf s.abs)) = some (true, openGood viewQ looseQ, Ya w)) : LeftO pw viewQ looseQ (fun _ => true) Yf Ya 3200 := by
  rw [← PySem.W.Fast.te6613529449190102663, ← PySem.W.Fast.te10156331382660048174, ← PySem.W.Fast.te11892475500146522536, ← PySem.W.Fast.te14364793385576792824, ← PySem.W.Fast.te4187177175401517315] at h
  exact left_gen (boot_open b0 (by decide) b1) S0_abs b2 (by decide) h
end Mine
end
section
open PySem
namespace Mine
noncomputable abbrev hz (s : Shared) : Nat := s.heap.objs.size
theorem hz_up (h : Heap) (a : Addr) (f : Obj → Obj) : (h.update a f).objs.size = h.objs.size := Heap.size_after_update ..
theorem hz_push (h : Heap) (o : Obj) : (h.push o).objs.size = h.objs.size + 1 := Heap.size_push ..
theorem runs_hz {M : Model} {Γ : Ctx} {p : Pos} {t : Sem Fin} {fs : List Frame} {s s' : Shared} {e : End} (h : Runs M Γ p t fs s e s') : hz s ≤ hz s' := by
  induction h <;> (try simp only [Shared.setGen, hz, hz_up, hz_push] at *) <;> omega
theorem ret_hz {M : Model} {Γ : Ctx} {p : Pos} {s s' : Shared} {r : Result} (h : Returns M Γ p s r s') : hz s ≤ hz s' := runs_hz h
theorem wakes_hz {M : Model} {Γ : Ctx} {p : Pos} {g : Nat} {r : Resume} {s s' : Shared} {res : GenResult} (h : Wakes M Γ p g r s res s') : hz s ≤ hz s' := by
  unfold Wakes at h
  split at h
  · exact h.elim
  · split at h
    · obtain ⟨e₁, s₁, hr, _, _, rfl⟩ := h; exact (runs_hz hr : hz (s.setGen g .running) ≤ hz s₁)
    · rw [h.2]; exact Nat.le_refl _
    · rw [h.2]; exact Nat.le_refl _
  · obtain ⟨e₁, s₁, hr, _, _, rfl⟩ := h; exact (runs_hz hr : hz (s.setGen g .running) ≤ hz s₁)
  · rw [h.2]; exact Nat.le_refl _
  · rw [h.2]; exact Nat.le_refl _
open Sem (wp) in
theorem wp_hz {α : Type} (M : Model) (Γ : Ctx) (n : Nat) (t : Sem α) : ∀ (Q : α → Pos → Shared → Prop) (E : Value → Pos → Shared → Prop) (p : Pos) (s : Shared), n ≤ hz s → wp M Γ t Q E p s →
    wp M Γ t (fun a p' s' => n ≤ hz s' ∧ Q a p' s') (fun e p' s' => n ≤ hz s' ∧ E e p' s') p s := by
  induction t with
  | pure a => intro Q E p s hn h; exact ⟨hn, h⟩
  | raise e => intro Q E p s hn h; exact ⟨hn, h⟩
  | unsupported _ => intro Q E p s _ h; exact h
  | finish _ => intro Q E p s _ h; exact h
  | rule _ k ih => intro Q E p s hn h; exact ih () Q E p s hn h
  | «at» p' k ih => intro Q E p s hn h; exact ih () Q E p' s hn h
  | load a _ k ih => intro Q E p s hn h; obtain ⟨o, ho, h⟩ := h; exact ⟨o, ho, ih o Q E p s hn h⟩
  | update a _ f k ih => intro Q E p s hn h; exact ⟨h.1, ih () Q E p _ (by unfold hz; rw [hz_up]; exact hn) h.2⟩
  | loadIfAlive a k ih => intro Q E p s hn h; exact ih _ Q E p s hn h
  | point _ k ih => intro Q E p s hn h; exact ih () Q E p s hn h
  | register _ _ => intro Q E p s _ h; exact h
  | alloc o k ih => intro Q E p s hn h; exact ih _ Q E p _ (by unfold hz; rw [hz_push]; exact Nat.le_succ_of_le hn) h
  | fresh k ih => intro Q E p s hn h; exact ih _ Q E p _ hn h
  | ask k ih => intro Q E p s hn h; exact ih _ Q E p s hn h
  | choose src m k ih => intro Q E p s hn h; exact ⟨h.1, ih _ Q E p _ hn h.2⟩
  | os q _ k ih => intro Q E p s hn h; exact ih _ Q E p _ hn h
  | call c hd _ _ k ih => intro Q E p s hn h; obtain ⟨r, s', hr, h⟩ := h; exact ⟨r, s', hr, ih r Q E p s' (Nat.le_trans hn (ret_hz hr)) h⟩
  | handled own k ih => intro Q E p s hn h; exact ih _ Q E p s hn h
  | genState g k ih => intro Q E p s hn h; obtain ⟨st, hs, h⟩ := h; exact ⟨st, hs, ih _ Q E p s hn h⟩
  | newGen c k ih => intro Q E p s hn h; exact ih _ Q E p _ hn h
  | resume g r _ k ih => intro Q E p s hn h; obtain ⟨res, s', hw, h⟩ := h; exact ⟨res, s', hw, ih res Q E p s' (Nat.le_trans hn (wakes_hz hw)) h⟩
  | yield _ _ _ _ => intro Q E p s _ h; exact h
  | stack k ih => intro Q E p s hn h; exact ih _ Q E p s hn h
  | fork _ _ => intro Q E p s _ h; exact h
  | thread k ih => intro Q E p s hn h; exact ih _ Q E p s hn h
  | await _ _ _ _ _ => intro Q E p s _ h; exact h
/-- the heap never loses a place -/
theorem with_hz {α : Type} {M : Model} {A : Around} {s : Shared} {t : Sem α} {Q : α → Shared → Prop} {E : Value → Shared → Prop}
    (h : wpAny M A t (fun a s' => s.heap.objs.size ≤ s'.heap.objs.size → Q a s') (fun e s' => s.heap.objs.size ≤ s'.heap.objs.size → E e s') s) : wpAny M A t Q E s :=
  have k : wpAny M A t (fun a s' => s.heap.objs.size ≤ hz s' ∧ (s.heap.objs.size ≤ s'.heap.objs.size → Q a s')) (fun e s' => s.heap.objs.size ≤ hz s' ∧ (s.heap.objs.size ≤ s'.heap.objs.size → E e s')) s :=
    fun Γ p hΓ => wp_hz M Γ s.heap.objs.size t _ _ p s (Nat.le_refl _) (h Γ p hΓ)
  wpAny_mono k (fun _ _ x => x.2 x.1) (fun _ _ x => x.2 x.1)
end Mine
end
section
open PySem
namespace Mine

theorem nn {α : Type} {P : Prop} {a : α} (e : none = some a) : P := nomatch e
theorem tf {P : Prop} (e : true = false) : P := nomatch e
theorem ft {P : Prop} (e : false = true) : P := nomatch e
theorem si {α : Type} {P : α → Prop} {a b : α} (e : some a = some b) (k : P a) : P b := by cases e; exact k
theorem sp {α β : Type} {P : α → β → Prop} {a c : α} {b d : β} (e : some (a, b) = some (c, d)) (k : P a b) : P c d := by cases e; exact k
theorem sp3 {α β γ : Type} {P : α → β → γ → Prop} {a c : α} {b d : β} {x y : γ} (e : some (a, b, x) = some (c, d, y)) (k : P a b x) : P c d y := by cases e; exact k
theorem bs {α β : Type} {P : Prop} {o : Option α} {f : α → Option β} {b : β} (e : o.bind f = some b) (k : ∀ a, o = some a → f a = some b → P) : P := by
  cases o with
  | none => exact nn e
  | some a => exact k a rfl e
theorem bs2 {α γ β : Type} {P : Prop} {o : Option (α × γ)} {f : α × γ → Option β} {b : β} (e : o.bind f = some b) (k : ∀ a c, o = some (a, c) → f (a, c) = some b → P) : P := bs e fun q => k q.1 q.2
theorem ms {α β : Type} {P : β → Prop} {o : Option α} {f : α → β} {b : β} (e : o.map f = some b) (k : ∀ a, o = some a → P (f a)) : P b := by
  cases o with
  | none => exact nn e
  | some a => exact si e (k a rfl)
theorem ms2 {α γ β : Type} {P : β → Prop} {o : Option (α × γ)} {f : α × γ → β} {b : β} (e : o.map f = some b) (k : ∀ a c, o = some (a, c) → P (f (a, c))) : P b := ms e fun q => k q.1 q.2
/-- only where it holds -/
noncomputable def gd {α : Type} (c : Bool) (x : Option α) : Option α := match c with
  | true => x
  | false => none
theorem gs {α : Type} {P : Prop} {c : Bool} {x : Option α} {b : α} (e : gd c x = some b) (k : c = true → x = some b → P) : P := by
  cases c with
  | true => exact k rfl e
  | false => exact nn e
theorem cs {α : Type} {P : Prop} {c : Bool} {x y r : α} (e : cond c x y = r) (k : c = true → x = r → P) (l : c = false → y = r → P) : P := by
  cases c with
  | true => exact k rfl e
  | false => exact l rfl e
theorem os {α : Type} {P : Prop} {x y : Option α} {b : α} (e : x.or y = some b) (k : x = some b → P) (l : y = some b → P) : P := by
  cases x with
  | none => exact l e
  | some a => exact k e

inductive AV where
  | none
  | bool (b : Bool)
  | int (i : Int)
  | str (s : Str)
  | tup (l : List AV)
  | lst (l : List AV)
  | dct (l : List (Str × AV))
  | vec (k i a : AV)
  | rng (a b : Int)
  | item (c d : Nat)
  deriving Inhabited

inductive RV where
  | a (v : AV)
  | r (i : Nat)
  deriving Inhabited

inductive AO where
  | lst (l : List RV)
  | dct (l : List (Str × RV))
  | inst (k i a : RV)
  | well (l : List (Nat × Nat)) (W : List Int)
  | dead
  deriving Inhabited

noncomputable def aInt : AV → Option Int
  | .int i => some i
  | _ => none
noncomputable def aStr : AV → Option Str
  | .str i => some i
  | _ => none
noncomputable def aLst : AV → Option (List AV)
  | .lst l => some l
  | _ => none
noncomputable def aTup : AV → Option (List AV)
  | .tup l => some l
  | _ => none
noncomputable def aDct : AV → Option (List (Str × AV))
  | .dct l => some l
  | _ => none
noncomputable def aBool : AV → Option Bool
  | .bool l => some l
  | _ => none
noncomputable def aVec : AV → Option (AV × AV × AV)
  | .vec k i a => some (k, i, a)
  | _ => none
noncomputable def aRng : AV → Option (Int × Int)
  | .rng a b => some (a, b)
  | _ => none
noncomputable def rA : RV → Option AV
  | .a v => some v
  | .r _ => none
noncomputable def rR : RV → Option Nat
  | .a _ => none
  | .r i => some i
noncomputable def oLst : AO → Option (List RV)
  | .lst l => some l
  | _ => none
noncomputable def oDct : AO → Option (List (Str × RV))
  | .dct l => some l
  | _ => none
noncomputable def oInst : AO → Option (RV × RV × RV)
  | .inst k i a => some (k, i, a)
  | _ => none
noncomputable def one {α : Type} : List α → Option α
  | [a] => some a
  | _ => none
noncomputable def two {α : Type} : List α → Option (α × α)
  | [a, b] => some (a, b)
  | _ => none
theorem intE {P : AV → Prop} {v : AV} {i : Int} (e : aInt v = some i) (k : P (.int i)) : P v := by
  cases v with
  | int j => exact si (P := fun i => P (.int i) → P (.int j)) e id k
  | _ => exact nn e
theorem strE {P : AV → Prop} {v : AV} {i : Str} (e : aStr v = some i) (k : P (.str i)) : P v := by
  cases v with
  | str j => exact si (P := fun i => P (.str i) → P (.str j)) e id k
  | _ => exact nn e
theorem lstE {P : AV → Prop} {v : AV} {i : List AV} (e : aLst v = some i) (k : P (.lst i)) : P v := by
  cases v with
  | lst j => exact si (P := fun i => P (.lst i) → P (.lst j)) e id k
  | _ => exact nn e
theorem tupE {P : AV → Prop} {v : AV} {i : List AV} (e : aTup v = some i) (k : P (.tup i)) : P v := by
  cases v with
  | tup j => exact si (P := fun i => P (.tup i) → P (.tup j)) e id k
  | _ => exact nn e
theorem dctE {P : AV → Prop} {v : AV} {i : List (Str × AV)} (e : aDct v = some i) (k : P (.dct i)) : P v := by
  cases v with
  | dct j => exact si (P := fun i => P (.dct i) → P (.dct j)) e id k
  | _ => exact nn e
theorem boolE {P : AV → Prop} {v : AV} {i : Bool} (e : aBool v = some i) (k : P (.bool i)) : P v := by
  cases v with
  | bool j => exact si (P := fun i => P (.bool i) → P (.bool j)) e id k
  | _ => exact nn e
theorem vecE {P : AV → Prop} {v k i a : AV} (e : aVec v = some (k, i, a)) (h : P (.vec k i a)) : P v := by
  cases v with
  | vec x y z => exact sp3 (P := fun k i a => P (.vec k i a) → P (.vec x y z)) e id h
  | _ => exact nn e
theorem rngE {P : AV → Prop} {v : AV} {a b : Int} (e : aRng v = some (a, b)) (h : P (.rng a b)) : P v := by
  cases v with
  | rng x y => exact sp (P := fun a b => P (.rng a b) → P (.rng x y)) e id h
  | _ => exact nn e
theorem rAE {P : RV → Prop} {v : RV} {i : AV} (e : rA v = some i) (k : P (.a i)) : P v := by
  cases v with
  | a j => exact si (P := fun i => P (.a i) → P (.a j)) e id k
  | r _ => exact nn e
theorem rRE {P : RV → Prop} {v : RV} {i : Nat} (e : rR v = some i) (k : P (.r i)) : P v := by
  cases v with
  | r j => exact si (P := fun i => P (.r i) → P (.r j)) e id k
  | a _ => exact nn e
theorem oLstE {P : AO → Prop} {v : AO} {i : List RV} (e : oLst v = some i) (k : P (.lst i)) : P v := by
  cases v with
  | lst j => exact si (P := fun i => P (.lst i) → P (.lst j)) e id k
  | _ => exact nn e
theorem oDctE {P : AO → Prop} {v : AO} {i : List (Str × RV)} (e : oDct v = some i) (k : P (.dct i)) : P v := by
  cases v with
  | dct j => exact si (P := fun i => P (.dct i) → P (.dct j)) e id k
  | _ => exact nn e
theorem oInstE {P : AO → Prop} {v : AO} {k i a : RV} (e : oInst v = some (k, i, a)) (h : P (.inst k i a)) : P v := by
  cases v with
  | inst x y z => exact sp3 (P := fun k i a => P (.inst k i a) → P (.inst x y z)) e id h
  | _ => exact nn e
theorem oneE {α : Type} {P : List α → Prop} {l : List α} {a : α} (e : one l = some a) (k : P [a]) : P l := by
  match l, e with
  | [b], e => exact si (P := fun a => P [a] → P [b]) e id k
theorem twoE {α : Type} {P : List α → Prop} {l : List α} {a b : α} (e : two l = some (a, b)) (k : P [a, b]) : P l := by
  match l, e with
  | [x, y], e => exact sp (P := fun a b => P [a, b] → P [x, y]) e id k

noncomputable abbrev Loc := List (Str × RV)
noncomputable abbrev Hp := List AO
noncomputable abbrev Sc := List (Str × NameKind)

inductive Flw where
  | next
  | ret (v : RV)

noncomputable def lbeq : List Nat → List Nat → Bool
  | [], ys => ys.isEmpty
  | x :: xs, ys => match ys with
    | [] => false
    | y :: ys => Nat.beq x y && lbeq xs ys
noncomputable def codeL : List Nat → Nat → Nat
  | [], h => h
  | c :: r, h => codeL r (Nat.add (Nat.mul h 1114113) (Nat.succ c))
noncomputable def code (s : Str) : Nat := codeL s.cps.toList 0
noncomputable def seq (a b : Str) : Bool := Nat.beq (code a) (code b) && lbeq a.cps.toList b.cps.toList

/-- the text s, known by its number -/
noncomputable def isS (n : Nat) (s : Str) (f : Str) : Bool := Nat.beq n (code f) && lbeq f.cps.toList s.cps.toList

noncomputable def isN : AV → Bool
  | .none => true
  | _ => false
noncomputable def aItem : AV → Option (Nat × Nat)
  | .item c d => some (c, d)
  | _ => none
mutual
noncomputable def AV.beq : AV → AV → Bool
  | .none, v => isN v
  | .bool a, v => (aBool v).any fun b => a == b
  | .int a, v => (aInt v).any fun b => a == b
  | .str a, v => (aStr v).any fun b => seq a b
  | .tup a, v => (aTup v).any fun b => AV.beqs a b
  | .lst a, v => (aLst v).any fun b => AV.beqs a b
  | .item a b, v => (aItem v).any fun q => a == q.1 && b == q.2
  | .dct _, _ => false
  | .vec _ _ _, _ => false
  | .rng _ _, _ => false
noncomputable def AV.beqs : List AV → List AV → Bool
  | [], m => m.isEmpty
  | x :: xs, m => match m with
    | y :: ys => AV.beq x y && AV.beqs xs ys
    | [] => false
end

structure FD where
  params : List Str
  body : List Stmt
  names : Sc

structure Cfg where
  tab : Str → Option FD
  own : Pos → Bool
  keep : Pos → Bool
  fz : Pos → List (Bool × Str)
  dip : Bool
  orcC : Str → List RV → Option AV
  orcE : Sc → Expr → Loc → Option AV
  orcS : Sc → Stmt → Loc → Hp → Option (Loc × Hp)

structure Ih where
  ev : Sc → Loc → Hp → Expr → Option (RV × Hp)
  tr : Sc → Loc → Hp → Expr → Option (Bool × Hp)
  ex : Sc → Loc → Hp → Stmt → Option (Flw × Loc × Hp)
  exs : Sc → Loc → Hp → List Stmt → Option (Flw × Loc × Hp)
  cl : Str → List RV → Hp → Option (RV × Hp)

noncomputable def alook (x : Str) : List (Str × β) → Option β
  | [] => none
  | p :: r => cond (seq x p.1) (some p.2) (alook x r)
noncomputable def aset (x : Str) (v : β) : List (Str × β) → List (Str × β)
  | [] => [(x, v)]
  | p :: r => cond (seq x p.1) ((p.1, v) :: r) (p :: aset x v r)
noncomputable def nth : List α → Nat → Option α
  | [], _ => none
  | x :: r, i => match i with
    | 0 => some x
    | n + 1 => nth r n
noncomputable def nset : List α → Nat → α → List α
  | [], _, _ => []
  | x :: r, i, y => match i with
    | 0 => y :: r
    | n + 1 => x :: nset r n y

noncomputable def allA : List RV → Option (List AV)
  | [] => some []
  | v :: r => (rA v).bind fun v => (allA r).map (v :: ·)

/-- a new list or a new instance: owned where the table says so -/
noncomputable def lstAt (hp : Hp) (i : Nat) : Option (List RV) := (nth hp i).bind oLst
theorem lstAtE {P : Prop} {hp : Hp} {i : Nat} {l : List RV} (e : lstAt hp i = some l) (k : nth hp i = some (.lst l) → P) : P := bs e fun _ e1 e2 => oLstE (P := fun o => nth hp i = some o → P) e2 k e1
noncomputable def mkLst (own : Bool) (l : List RV) (hp : Hp) : Option (RV × Hp) := gd (Nat.ble l.length 4096) (cond own (some (.r hp.length, hp ++ [.lst l])) ((allA l).map fun vs => (.a (.lst vs), hp)))

noncomputable def asList (hp : Hp) : RV → Option (List RV)
  | .a v => ((aLst v).map fun l => l.map RV.a).or ((aTup v).map fun l => l.map RV.a)
  | .r i => lstAt hp i

noncomputable def vI (v : RV) : Option Int := (rA v).bind aInt
noncomputable def vS (v : RV) : Option Str := (rA v).bind aStr
theorem vIE {P : RV → Prop} {v : RV} {i : Int} (e : vI v = some i) (k : P (.a (.int i))) : P v := by
  cases v with
  | a x => exact intE (P := fun x => P (.a x)) e k
  | r _ => exact nn e
theorem vSE {P : RV → Prop} {v : RV} {i : Str} (e : vS v = some i) (k : P (.a (.str i))) : P v := by
  cases v with
  | a x => exact strE (P := fun x => P (.a x)) e k
  | r _ => exact nn e
noncomputable def three {α : Type} : List α → Option (α × α × α)
  | [a, b, c] => some (a, b, c)
  | _ => none
theorem threeE {α : Type} {P : List α → Prop} {l : List α} {a b c : α} (e : three l = some (a, b, c)) (k : P [a, b, c]) : P l := by
  match l, e with
  | [x, y, z], e => exact sp3 (P := fun a b c => P [a, b, c] → P [x, y, z]) e id k
noncomputable def small (i : Int) : Bool := Nat.blt i.natAbs (2 ^ 62)
noncomputable def intsFrom (a : Int) : Nat → List AV
  | 0 => []
  | n + 1 => .int a :: intsFrom (a + 1) n
noncomputable def iterA : AV → Option (List AV)
  | .lst l => some l
  | .rng a b => gd (small a) (gd (small b) (some (intsFrom a (b - a).toNat)))
  | .dct l => some (l.map fun p => .str p.1)
  | .tup l => some l
  | _ => none
noncomputable def iterOf (v : RV) : Option (List AV) := (rA v).bind iterA

noncomputable def binI (f : Int → Int → Option AV) (a b : AV) : Option AV := (aInt a).bind fun x => (aInt b).bind fun y => f x y
noncomputable def addS (a b : AV) : Option AV := (aStr a).bind fun x => (aStr b).bind fun y => gd (Nat.ble x.length 1000) (gd (Nat.ble y.length 1000) (some (.str (x ++ y))))
noncomputable def mulS (a b : AV) : Option AV := (aStr a).bind fun x => (aInt b).bind fun y => gd (Nat.ble x.length 100) (gd (decide (0 ≤ y)) (gd (decide (y ≤ 100)) (some (.str ⟨((List.replicate y.toNat x.cps.toList).flatten).toArray⟩))))
noncomputable def mulA (a b : AV) : Option AV := (aLst a).bind fun x => (aInt b).bind fun y => gd (decide (0 ≤ y)) (gd (decide (y ≤ 100)) (gd (Nat.ble x.length 100) (some (.lst (List.replicate y.toNat x).flatten))))
noncomputable def binop (op : Operator) (a b : AV) : Option AV := match op with
  | .Add => (binI (fun x y => some (.int (x + y))) a b).or (addS a b)
  | .Sub => binI (fun x y => some (.int (x - y))) a b
  | .Mult => (binI (fun x y => gd (small x) (gd (small y) (some (.int (x * y))))) a b).or ((mulS a b).or (mulA a b))
  | .FloorDiv => binI (fun x y => gd (small y) (gd (decide (0 < y)) (some (.int (Int.fdiv x y))))) a b
  | .Mod => binI (fun x y => gd (small y) (gd (decide (0 < y)) (some (.int (Int.fmod x y))))) a b
  | .Pow => binI (fun x y => gd (decide (x = 10)) (gd (decide (0 ≤ y)) (gd (decide (y ≤ 18)) (some (.int (x ^ y.toNat)))))) a b
  | _ => none

noncomputable def sOk : List Nat → Bool
  | [] => true
  | c :: r => Nat.blt c 1114112 && sOk r
noncomputable def lay : Nat → AV → Bool
  | n, .tup l => match n with
    | n + 1 => l.all (lay n)
    | 0 => false
  | n, .lst l => match n with
    | n + 1 => l.all (lay n)
    | 0 => false
  | n, .item _ _ => Nat.ble 2 n
  | _, .none => true
  | _, .bool _ => true
  | _, .int _ => true
  | _, .str s => sOk s.cps.toList
  | _, .dct _ => false
  | _, .vec _ _ _ => false
  | _, .rng _ _ => false
noncomputable def lays (n : Nat) (x : Str) (l : List AV) : Bool := sOk x.cps.toList && l.all (lay n)
noncomputable def sin (x : Str) : List AV → Option Bool
  | [] => some false
  | a :: r => match a with
    | .str y => cond (seq x y) (some true) (sin x r)
    | .none => sin x r
    | _ => none
/-- None among ints -/
noncomputable def nin : List AV → Option Bool
  | [] => some false
  | a :: r => match a with
    | .int _ => nin r
    | .str s => gd (sOk s.cps.toList) (nin r)
    | _ => none
noncomputable def sidx (x : Str) : List AV → Nat → Option Int
  | [], _ => none
  | a :: r, n => (aStr a).bind fun y => cond (seq x y) (some (n : Int)) (sidx x r (n + 1))

noncomputable def allStr : List AV → Bool
  | [] => true
  | a :: r => (aStr a).isSome && allStr r

noncomputable def LV : List Str := ["0.5", "TRUE", "", "500000003", "kkk"]
noncomputable def n5 : Int := 500000003
/-- the letters: code, digit -/
noncomputable def pA : Nat → Nat → AV
  | 0, d => .int (((d : Int) - 2) * n5)
  | 1, 0 => .tup [.int 1, .int 2]
  | 1, 1 => .tup [.int 0, .int 0]
  | 1, 2 => .tup [.int (-9), .int 8]
  | 1, 3 => .tup [.int 1, .int 0]
  | 1, 4 => .tup [.int 12, .int 1]
  | 1, _ => .tup [.int (-1), .int 0]
  | 2, d => .str ⟨(List.replicate d 107).toArray⟩
  | _, d => .int ((d : Int) % 2)
noncomputable def txt (s : String) : AV := .str (Str.ofString s)
noncomputable def pB : Nat → Nat → AV
  | 0, 0 => txt "-1000000006"
  | 0, 1 => txt "-500000003"
  | 0, 2 => txt "0"
  | 0, 3 => txt "500000003"
  | 0, 4 => txt "1000000006"
  | 0, _ => txt "1500000009"
  | 1, 0 => txt "0.5"
  | 1, 1 => txt "NaN"
  | 1, 2 => txt "-1.125"
  | 1, 3 => txt "Inf"
  | 1, 4 => txt "12"
  | 1, _ => txt "-Inf"
  | 2, d => .str ⟨(List.replicate d 107).toArray⟩
  | _, d => match d % 2 with | 1 => txt "TRUE" | _ => txt "FALSE"
noncomputable def fI (d : Nat) : Int := Int.fmod (((d : Int) - 2) * n5) 5
noncomputable def fT (d : Nat) : AV := match nth LV (fI d).toNat with | some s => .str s | none => .none
noncomputable def dbl : AV → AV
  | .int i => .tup [.int i, .int 1]
  | v => v
noncomputable def fcode (w : AV) : AV := match w with
  | .str s => match sidx s (LV.map AV.str) 0 with
    | some k => .int (k + 1)
    | none => .none
  | _ => .none
noncomputable def bad6 (s : Nat) (d : Nat) : Bool := match pB s d with
  | .str x => match sin x (LV.map AV.str) with | some false => true | _ => false
  | _ => false
noncomputable def isBad (c d : Nat) : Bool := if d < 6 then bad6 (match c with | 3 => 2 | c => c - 5) d else false
noncomputable def lackB (c d : Nat) : Bool := if d < 6 then (if c = 6 then Nat.beq d 1 else false) else true
/-- the digit, or one of the same class: in the levels or not -/
noncomputable def cdig (g : Bool) (s d : Nat) : Nat :=
  if d < 6 then (if bad6 s d = !g then d else match g, s with | true, 0 => 3 | true, 3 => 1 | true, _ => 0 | false, 0 => 0 | false, 3 => 0 | false, _ => 1)
  else match g, s with | true, 0 => 3 | true, 3 => 1 | true, _ => 0 | false, 0 => 0 | false, 3 => 0 | false, _ => 1
/-- what a letter means -/
noncomputable def val (c d : Nat) : AV :=
  if c = 0 then .int d
  else if c < 20 then
    if d < 6 then
      if c < 5 then pA (c - 1) d
      else if c < 9 then pB (c - 5) d
      else if c = 9 then .int (fI d)
      else if c = 10 then fT d
      else if c = 11 then .int (fI d + 1)
      else if c = 12 then dbl (pA 0 d)
      else if c = 13 then dbl (pA 3 d)
      else fcode (pB (c - 15) d)
    else .none
  else if c < 24 then pA (c - 20) (cdig true (c - 20) d)
  else if c < 28 then pA (c - 24) (cdig false (c - 24) d)
  else if c < 32 then pB (c - 28) (cdig true (c - 28) d)
  else if c < 36 then pB (c - 32) (cdig false (c - 32) d)
  else if c < 40 then fcode (pB (c - 36) (cdig true (c - 36) d))
  else .none

noncomputable def isNone? : AV → Option Bool
  | .none => some true
  | .item _ _ => none
  | _ => some false
noncomputable def cmpIs (a b : AV) : Option Bool := cond (isN b) (isNone? a) none
noncomputable def cmpI (f : Int → Int → Bool) (a b : AV) : Option Bool := (aInt a).bind fun x => (aInt b).map fun y => f x y
noncomputable def cmpS (a b : AV) : Option Bool := (aStr a).bind fun x => (aStr b).map fun y => seq x y
noncomputable def cmpQ (a b : AV) : Option Bool := (aLst a).bind fun x => (aLst b).bind fun y => gd (AV.beqs x y) (gd (x.all (lay 12)) (some true))
noncomputable def cmpEq (a b : AV) : Option Bool := (cmpI (fun x y => decide (x = y)) a b).or ((cmpS a b).or (cmpQ a b))
noncomputable def inT (a b : AV) : Option Bool := (aStr a).bind fun x => (aTup b).bind fun l => gd (lays 1 x l) (sin x l)
noncomputable def inL (a b : AV) : Option Bool := (aStr a).bind fun x => (aLst b).bind fun l => gd (lays 1 x l) (sin x l)
noncomputable def inD (a b : AV) : Option Bool := (aStr a).bind fun x => (aDct b).map fun l => (alook x l).isSome
noncomputable def cmpIn (a b : AV) : Option Bool := (inT a b).or ((inL a b).or (inD a b))
noncomputable def cmpNn (a b : AV) : Option Bool := gd (isN a) ((aLst b).bind nin)
noncomputable def cmp0 (op : CmpOp) (a b : AV) : Option Bool := match op with
  | .Is => cmpIs a b
  | .IsNot => (cmpIs a b).map (!·)
  | .Eq => cmpEq a b
  | .NotEq => (cmpEq a b).map (!·)
  | .Lt => cmpI (fun x y => decide (x < y)) a b
  | .LtE => cmpI (fun x y => decide (x ≤ y)) a b
  | .Gt => cmpI (fun x y => decide (x > y)) a b
  | .GtE => cmpI (fun x y => decide (x ≥ y)) a b
  | .In => (cmpIn a b).or (cmpNn a b)
  | .NotIn => (cmpIn a b).map (!·)

/-- all seven say the same -/
noncomputable def sameB (b : Bool) : Option Bool → Bool
  | some c => match b, c with
    | true, true => true
    | false, false => true
    | _, _ => false
  | none => false
noncomputable def cmpL (op : CmpOp) (c : Nat) (y : AV) : Option Bool := (cmp0 op (val c 0) y).bind fun b => gd ((List.range 7).all fun d => sameB b (cmp0 op (val c d) y)) (some b)
noncomputable def cmp (op : CmpOp) (a b : AV) : Option Bool := match aItem a with
  | some q => cmpL op q.1 b
  | none => cmp0 op a b

noncomputable def isNo : CmpOp → Option Bool
  | .Is => some false
  | .IsNot => some true
  | _ => none
noncomputable def cmpV (v : RV) (hp : Hp) : Option AV := match v with
  | .a x => some x
  | .r i => (lstAt hp i).bind fun l => (allA l).map AV.lst
noncomputable def cmpR (op : CmpOp) (a b : RV) (hp : Hp) : Option Bool := match a with
  | .a x => (cmpV b hp).bind fun y => cmp op x y
  | .r i => (rA b).bind fun y => cond (isN y) (isNo op) ((cmpV (.r i) hp).bind fun x => cmp op x y)

noncomputable def idx (n : Nat) (k : Int) : Option Nat := match k with
  | .ofNat m => gd (Nat.blt m n) (gd (Nat.blt m (2 ^ 62)) (some m))
  | .negSucc _ => none
/-- the last item alone, of what is below nought -/
noncomputable def idxN (n : Nat) (k : Int) : Option Nat := match k with
  | .ofNat m => gd (Nat.blt m n) (gd (Nat.blt m (2 ^ 62)) (some m))
  | .negSucc m => gd (Nat.beq m 0) (gd (Nat.blt 0 n) (some (n - 1)))

noncomputable def itemK (v : AV) (k : Int) : Option AV :=
  ((aLst v).bind fun l => (idxN l.length k).bind fun j => nth l j).or
  (((aTup v).bind fun l => (idx l.length k).bind fun j => nth l j).or
   ((aStr v).bind fun x => (idx x.length k).bind fun j => (nth x.cps.toList j).map fun c => .str ⟨#[c]⟩))
noncomputable def getItemI (o i : RV) (hp : Hp) : Option RV := match o with
  | .a v => ((vI i).bind fun k => (itemK v k).map RV.a).or ((aDct v).bind fun l => (vS i).bind fun x => (alook x l).map RV.a)
  | .r n => (vI i).bind fun k => (lstAt hp n).bind fun l => (idxN l.length k).bind fun j => nth l j

noncomputable def natOf : Int → Option Nat
  | .ofNat k => some k
  | .negSucc _ => none
noncomputable def bound : Option RV → Option (Option Nat)
  | none => some none
  | some v => ((vI v).bind natOf).map some
/-- from p to q, both in bounds -/
noncomputable def cut (l : List α) : Option Nat → Option Nat → Option (List α)
  | none, some q => gd (Nat.ble q l.length) (some (l.take q))
  | some p, none => gd (Nat.ble p l.length) (some (l.drop p))
  | some p, some q => gd (Nat.ble q l.length) (gd (Nat.ble p q) (some ((l.drop p).take (q - p))))
  | none, none => none

noncomputable def slL (o : AV) (lo hi : Option RV) (own : Bool) (hp : Hp) : Option (RV × Hp) := (aLst o).bind fun l => gd (Nat.ble l.length 1000) ((bound lo).bind fun p => (bound hi).bind fun q => (cut l p q).bind fun r => mkLst own (r.map RV.a) hp)
noncomputable def slS (o : AV) (lo hi : Option RV) (hp : Hp) : Option (RV × Hp) := (aStr o).bind fun x => gd (Nat.ble x.length 1000) ((bound lo).bind fun p => (bound hi).bind fun q => (cut x.cps.toList p q).map fun r => (.a (.str ⟨r.toArray⟩), hp))
noncomputable def sliceI (o : RV) (lo hi : Option RV) (own : Bool) (hp : Hp) : Option (RV × Hp) := (rA o).bind fun v => (slL v lo hi own hp).or (slS v lo hi hp)

/-- an instance's three -/
noncomputable def fieldsOf (o : RV) (hp : Hp) : Option (RV × RV × RV) := match o with
  | .a v => (aVec v).map fun q => (.a q.1, .a q.2.1, .a q.2.2)
  | .r n => (nth hp n).bind oInst
noncomputable def getAttrI (o : RV) (x : Str) (hp : Hp) : Option RV := (fieldsOf o hp).bind fun q =>
  cond (isS 149352282278887621034 "kind" x) (some q.1) (cond (isS 163313942391692309914780199 "items" x) (some q.2.1) (cond (isS 150988374045039046588367411 "attrs" x) (some q.2.2) none))

noncomputable def dipD (W : List Int) (L : Int) : Nat := match W with
  | [] => 0
  | w :: _ => (Int.fmod w L).toNat
noncomputable def dipR (W : List Int) (L : Int) : List Int := match W with
  | [] => []
  | w :: r => if Int.fdiv w L = 0 then r else Int.fdiv w L :: r

/-- what the next dips give -/
noncomputable def unr : List (Nat × Nat) → List Int → Option (List Int)
  | [], W => some W
  | p :: r, W => gd (decide (dipD W p.1 = p.2)) (unr r (dipR W p.1))

noncomputable def digits : Nat → Nat → List Nat → List Nat
  | 0, _, acc => acc
  | f + 1, n, acc => cond (Nat.blt n 10) ((48 + n) :: acc) (digits f (n / 10) ((48 + n % 10) :: acc))
noncomputable def strOf (i : Int) : Option Str := match i with
  | .ofNat n => gd (Nat.blt n (10 ^ 20)) (some ⟨(digits 21 n []).toArray⟩)
  | .negSucc n => gd (Nat.blt n (10 ^ 20)) (some ⟨(45 :: digits 21 (n + 1) []).toArray⟩)

noncomputable def sumI : List AV → Int → Option Int
  | [], n => some n
  | a :: r, n => (aInt a).bind fun k => gd (Nat.blt k.natAbs (2 ^ 40)) (sumI r (n + k))

noncomputable def strLe : List Nat → List Nat → Bool
  | [], _ => true
  | x :: xs, ys => match ys with
    | [] => false
    | y :: ys => cond (Nat.blt x y) true (Nat.beq x y && strLe xs ys)
noncomputable def insS (x : Str) : List Str → List Str
  | [] => [x]
  | y :: r => cond (strLe x.cps.toList y.cps.toList) (x :: y :: r) (y :: insS x r)
noncomputable def sortS : List Str → List Str
  | [] => []
  | x :: r => insS x (sortS r)

noncomputable def joinI : List RV → Option (List Nat)
  | [] => some []
  | v :: r => (vS v).bind fun x => (joinI r).map (x.cps.toList ++ ·)

/-- built-in functions; `none`: not one of them or not served -/
noncomputable def lenI (n : Nat) (hp : Hp) : Option (RV × Hp) := gd (Nat.ble n 4096) (some (.a (.int n), hp))
noncomputable def lenA : AV → Option Nat
  | .str x => some x.length
  | .dct l => some l.length
  | .lst l => some l.length
  | .tup l => some l.length
  | _ => none
noncomputable def lenOf (v : RV) (hp : Hp) : Option Nat := match v with
  | .a v => lenA v
  | .r i => (nth hp i).bind fun o => ((oLst o).map fun l => l.length).or ((oDct o).map fun l => l.length)
noncomputable def int2 (q : RV × RV) : Option (Int × Int) := (vI q.1).bind fun a => (vI q.2).map fun b => (a, b)
noncomputable def bool? (v : RV) : Option Bool := (rA v).bind aBool
noncomputable def bLen (as : List RV) (hp : Hp) : Option (RV × Hp) := (one as).bind fun v => (lenOf v hp).bind fun n => lenI n hp
noncomputable def bList (as : List RV) (own : Bool) (hp : Hp) : Option (RV × Hp) := (one as).bind fun v => match v with
  | .a v => ((aRng v).bind fun q => gd (small q.1) (gd (small q.2) (mkLst own ((intsFrom q.1 (q.2 - q.1).toNat).map RV.a) hp))).or ((aLst v).bind fun l => mkLst own (l.map RV.a) hp)
  | .r i => (lstAt hp i).bind fun l => mkLst own l hp
noncomputable def bRange (as : List RV) (hp : Hp) : Option (RV × Hp) :=
  ((one as).bind fun v => (vI v).bind fun b => gd (small b) (some (.a (.rng 0 b), hp))).or ((two as).bind fun q => (int2 q).bind fun p => gd (small p.1) (gd (small p.2) (some (.a (.rng p.1 p.2), hp))))
noncomputable def bAbs (as : List RV) (hp : Hp) : Option (RV × Hp) := (one as).bind fun v => (vI v).map fun i => (.a (.int i.natAbs), hp)
noncomputable def bStr (as : List RV) (hp : Hp) : Option (RV × Hp) := (one as).bind fun v => (vI v).bind fun i => (strOf i).map fun s => (.a (.str s), hp)
noncomputable def bInt (as : List RV) (hp : Hp) : Option (RV × Hp) := (one as).bind fun v => (bool? v).map fun b => (.a (.int (if b then 1 else 0)), hp)
noncomputable def bMax (as : List RV) (hp : Hp) : Option (RV × Hp) := (two as).bind fun q => (int2 q).map fun p => (.a (.int (if p.2 > p.1 then p.2 else p.1)), hp)
noncomputable def bSum (as : List RV) (hp : Hp) : Option (RV × Hp) := (one as).bind fun v => (rA v).bind fun v => (aLst v).bind fun l => gd (Nat.ble l.length 1000) ((sumI l 0).map fun n => (.a (.int n), hp))
noncomputable def bSorted (as : List RV) (own : Bool) (hp : Hp) : Option (RV × Hp) := (one as).bind fun v => (rA v).bind fun v => (aDct v).bind fun l => mkLst own ((sortS (l.map (·.1))).map fun x => RV.a (.str x)) hp
noncomputable def bcall (f : Str) (as : List RV) (own : Bool) (hp : Hp) : Option (RV × Hp) :=
  cond (isS 135296121307458 "len" f) (bLen as hp) <|
  cond (isS 280329929742302261966563980743504501142988297463031006267 "isinstance" f) none <|
  cond (isS 150735172563212632512 "list" f) (bList as own hp) <|
  cond (isS 177180180506793946373423634 "range" f) (bRange as hp) <|
  cond (isS 121642392420665 "abs" f) (bAbs as hp) <|
  cond (isS 143984872456540 "str" f) (bStr as hp) <|
  cond (isS 131572388004174 "int" f) (bInt as hp) <|
  cond (isS 136537364627785 "max" f) (bMax as hp) <|
  cond (isS 143984873570648 "sum" f) (bSum as hp) <|
  cond (isS 199115273505642818544607554241175 "sorted" f) (bSorted as own hp) none

inductive MT where
  | append | reverse | get | indexL | indexT | join | rjust | pop
/-- which method it is: known from the object, before the arguments -/
noncomputable def isL (t : MT) (o : RV) (hp : Hp) : Option MT := (rR o).bind fun i => (lstAt hp i).map fun _ => t
noncomputable def mIdx (o : RV) : Option MT := (rA o).bind fun v => ((aLst v).map fun _ => .indexL).or ((aTup v).map fun _ => .indexT)
noncomputable def methT (m : Str) (o : RV) (hp : Hp) : Option MT :=
  cond (isS 168218104209650882398491252621950 "append" m) (isL .append o hp) <|
  cond (isS 219924512007638386909406065844641334019 "reverse" m) (isL .reverse o hp) <|
  cond (isS 129089882423619 "get" m) ((rA o).bind fun v => (aDct v).map fun _ => .get) <|
  cond (isS 163313934094349362741445149 "index" m) (mIdx o) <|
  cond (isS 147969399442049270196 "join" m) ((vS o).map fun _ => .join) <|
  cond (isS 177180192952815193996198461 "rjust" m) ((vS o).map fun _ => .rjust) <|
  cond (isS 140261123555666 "pop" m) (isL .pop o hp) none
noncomputable def idxS (k : RV) (l : List AV) (hp : Hp) : Option (RV × Hp) := (vS k).bind fun x => gd (Nat.ble l.length 1000) (gd (allStr l) ((sidx x l 0).map fun k => (.a (.int k), hp)))
noncomputable def mApp (o : RV) (as : List RV) (hp : Hp) : Option (RV × Hp) := (rR o).bind fun i => (one as).bind fun v => (lstAt hp i).bind fun l => gd (Nat.ble l.length 1000) (some (.a .none, nset hp i (.lst (l ++ [v]))))
noncomputable def mRev (o : RV) (as : List RV) (hp : Hp) : Option (RV × Hp) := (rR o).bind fun i => match as with
  | [] => (lstAt hp i).bind fun l => gd (Nat.ble l.length 1000) (some (.a .none, nset hp i (.lst l.reverse)))
  | _ :: _ => none
noncomputable def mGet (o : RV) (as : List RV) (hp : Hp) : Option (RV × Hp) := (rA o).bind fun v => (aDct v).bind fun l => (one as).bind fun k => (vS k).map fun x => (.a ((alook x l).getD .none), hp)
noncomputable def mJoin (o : RV) (as : List RV) (hp : Hp) : Option (RV × Hp) := (vS o).bind fun x => (one as).bind fun v => gd x.cps.toList.isEmpty ((asList hp v).bind fun l => gd (Nat.ble l.length 20) ((joinI l).bind fun r => gd (Nat.ble r.length 10000) (some (.a (.str ⟨r.toArray⟩), hp))))
noncomputable def mRj (o : RV) (as : List RV) (hp : Hp) : Option (RV × Hp) := (vS o).bind fun x => (two as).bind fun q => (vI q.1).bind fun n => (vS q.2).bind fun y => (one y.cps.toList).bind fun c =>
  gd (decide (0 ≤ n)) (gd (decide (n ≤ 100)) (gd (Nat.ble x.length 1000) (some (.a (.str ⟨(List.replicate (n.toNat - x.length) c ++ x.cps.toList).toArray⟩), hp))))
noncomputable def mPop (o : RV) (as : List RV) (hp : Hp) : Option (RV × Hp) := (rR o).bind fun i => (one as).bind fun k => (vI k).bind fun k => gd (decide (k = 0)) ((lstAt hp i).bind fun l => match l with
  | x :: l => gd (Nat.ble l.length 1000) (some (x, nset hp i (.lst l)))
  | [] => none)
noncomputable def methI (m : MT) (o : RV) (as : List RV) (hp : Hp) : Option (RV × Hp) := match m with
  | .append => mApp o as hp
  | .reverse => mRev o as hp
  | .get => mGet o as hp
  | .indexL => (rA o).bind fun v => (aLst v).bind fun l => (one as).bind fun k => idxS k l hp
  | .indexT => (rA o).bind fun v => (aTup v).bind fun l => (one as).bind fun k => idxS k l hp
  | .join => mJoin o as hp
  | .rjust => mRj o as hp
  | .pop => mPop o as hp

noncomputable def sub1 (i : Nat) (t : AV) : RV → RV
  | .a v => .a v
  | .r j => match Nat.beq i j with
    | true => .a t
    | false => .r j
noncomputable def subO (i : Nat) (t : AV) : AO → AO
  | .lst l => .lst (l.map (sub1 i t))
  | .dct l => .dct (l.map fun p => (p.1, sub1 i t p.2))
  | .inst k x a => .inst (sub1 i t k) (sub1 i t x) (sub1 i t a)
  | .well l W => .well l W
  | .dead => .dead
noncomputable def allAd : List (Str × RV) → Option (List (Str × AV))
  | [] => some []
  | p :: r => (rA p.2).bind fun v => (allAd r).map ((p.1, v) :: ·)
noncomputable def treeOf : AO → Option AV
  | .lst l => (allA l).map AV.lst
  | .dct l => (allAd l).bind fun l => gd (Nat.blt l.length 5) (some (AV.dct l))
  | .inst k i a => (rA k).bind fun k => (rA i).bind fun i => (rA a).map fun a => .vec k i a
  | .well _ _ => none
  | .dead => none
noncomputable def isDead : AO → Bool
  | .dead => true
  | _ => false
noncomputable def refs1 : RV → List Nat
  | .a _ => []
  | .r j => [j]
noncomputable def refsO : AO → List Nat
  | .lst l => l.flatMap refs1
  | .dct l => l.flatMap fun p => refs1 p.2
  | .inst k i a => refs1 k ++ refs1 i ++ refs1 a
  | .well _ _ => []
  | .dead => []
/-- what is reached, the inner first -/
noncomputable def reach (hp : Hp) : Nat → RV → List Nat
  | 0, _ => []
  | _ + 1, .a _ => []
  | f + 1, .r i => match nth hp i with
    | some o => (refsO o).flatMap (fun j => reach hp f (.r j)) ++ [i]
    | none => []
noncomputable def fz1 (i : Nat) (loc : Loc) (hp : Hp) : Option (Loc × Hp) := (nth hp i).bind fun o => cond (isDead o) (some (loc, hp)) ((treeOf o).map fun t => (loc.map fun p => (p.1, sub1 i t p.2), (nset hp i .dead).map (subO i t)))
noncomputable def fzAll : List Nat → Loc → Hp → Option (Loc × Hp)
  | [], loc, hp => some (loc, hp)
  | i :: r, loc, hp => (fz1 i loc hp).bind fun q => fzAll r q.1 q.2
noncomputable def fzL (b : Bool) (v : RV) (hp : Hp) : List Nat := match b, v with
  | true, .r i => (reach hp 4 v).filter fun j => !Nat.beq i j
  | true, .a _ => reach hp 4 v
  | false, _ => reach hp 4 v
noncomputable def fzName (x : Bool × Str) (loc : Loc) (hp : Hp) : Option (Loc × Hp) := match alook x.2 loc with
  | some v => fzAll (fzL x.1 v hp) loc hp
  | none => some (loc, hp)
noncomputable def fzNames : List (Bool × Str) → Loc → Hp → Option (Loc × Hp)
  | [], loc, hp => some (loc, hp)
  | x :: r, loc, hp => (fzName x loc hp).bind fun q => fzNames r q.1 q.2
/-- a result: the one name is the result's own -/
noncomputable def fzRes (v : RV) (hp : Hp) : Option (RV × Hp) := (fzAll (reach hp 4 v) [("", v)] hp).bind fun q => (one q.1).map fun p => (p.2, q.2)

noncomputable def refsOf : List RV → List Nat
  | [] => []
  | .a _ :: r => refsOf r
  | .r i :: r => i :: refsOf r
noncomputable def renum (k : Nat) : List RV → List RV
  | [] => []
  | .a v :: r => .a v :: renum k r
  | .r _ :: r => .r k :: renum (k + 1) r
noncomputable def noR (o : AO) : Bool := (refsO o).isEmpty
noncomputable def getAll (hp : Hp) : List Nat → Option (List AO)
  | [] => some []
  | i :: r => (nth hp i).bind fun o => gd (noR o) ((getAll hp r).map (o :: ·))
noncomputable def putAll : List Nat → List AO → Hp → Hp
  | [], _, hp => hp
  | i :: r, os, hp => match os with
    | o :: os => putAll r os (nset hp i o)
    | [] => hp
noncomputable def nodupN : List Nat → Bool
  | [] => true
  | i :: r => !r.any (Nat.beq i) && nodupN r
noncomputable def isA : RV → Bool
  | .a _ => true
  | .r _ => false
/-- the callee's own objects behind the passed ones, numbered as the caller's -/
noncomputable def shift1 (k n : Nat) : RV → Option RV
  | .a v => some (.a v)
  | .r j => gd (Nat.ble k j) (some (.r (n + (j - k))))
noncomputable def shiftL (k n : Nat) : List RV → Option (List RV)
  | [] => some []
  | v :: r => (shift1 k n v).bind fun w => (shiftL k n r).map (w :: ·)
noncomputable def shiftO (k n : Nat) : AO → Option AO
  | .lst l => (shiftL k n l).map AO.lst
  | .inst x y z => (shift1 k n x).bind fun x => (shift1 k n y).bind fun y => (shift1 k n z).map fun z => .inst x y z
  | .dead => some .dead
  | .dct _ => none
  | .well _ _ => none
noncomputable def shiftH (k n : Nat) : List AO → Option (List AO)
  | [] => some []
  | o :: r => (shiftO k n o).bind fun p => (shiftH k n r).map (p :: ·)

/-- which sort of expression -/
noncomputable def eTag : Expr → Nat
  | .Starred _ _ => 1
  | .Set _ _ _ => 2
  | .ListComp _ _ _ _ => 3
  | .SetComp _ _ _ _ => 3
  | .DictComp _ _ _ _ _ => 3
  | .Name _ _ => 4
  | .Attribute _ _ _ => 5
  | .Subscript _ _ _ => 6
  | .Tuple _ _ _ => 7
  | _ => 0
noncomputable def eName : Expr → Option Str
  | .Name x _ => some x
  | _ => none
noncomputable def eStr : Expr → Option Str
  | .Constant c _ _ => match c with
    | .str x => some x
    | _ => none
  | _ => none
noncomputable def noStar (e : Expr) : Bool := !Nat.beq (eTag e) 1
/-- no unpacking of a written tuple -/
noncomputable def tgtOk (t e : Expr) : Bool := cond (Nat.beq (eTag t) 7) (!Nat.beq (eTag e) 7) (Nat.ble 4 (eTag t))
noncomputable def noSet (e : Expr) : Bool := !Nat.beq (eTag e) 2
noncomputable def noCall0 : Expr → Bool
  | .Call f as ks _ => !(Nat.beq (eTag f) 4 && (as.isEmpty && ks.isEmpty))
  | _ => true
noncomputable def noComp (e : Expr) : Bool := !Nat.beq (eTag e) 3
noncomputable def noRefs : List AO → Bool
  | [] => true
  | o :: r => noR o && noRefs r
noncomputable def cfKeep (as : List RV) (hp os : Hp) (q : RV × Hp) : Option (RV × Hp) := gd (noRefs (q.2.take os.length)) ((shift1 os.length hp.length q.1).bind fun v => (shiftH os.length hp.length (q.2.drop os.length)).map fun more => (v, putAll (refsOf as) (q.2.take os.length) hp ++ more))
noncomputable def cfDrop (as : List RV) (hp os : Hp) (q : RV × Hp) : Option (RV × Hp) := (fzRes q.1 q.2).bind fun q' => gd (isA q'.1) (gd (noRefs (q'.2.take os.length)) (some (q'.1, putAll (refsOf as) (q'.2.take os.length) hp)))
noncomputable def callFn (ih : Ih) (keep : Bool) (f : Str) (as : List RV) (hp : Hp) : Option (RV × Hp) :=
  gd (nodupN (refsOf as)) ((getAll hp (refsOf as)).bind fun os => (ih.cl f (renum 0 as) os).bind fun q => cond keep (cfKeep as hp os q) (cfDrop as hp os q))

noncomputable def mkVec (own : Bool) (k i a : RV) (hp : Hp) : Option (RV × Hp) := cond own (some (.r hp.length, hp ++ [.inst k i a])) ((rA k).bind fun k => (rA i).bind fun i => (rA a).map fun a => (.a (.vec k i a), hp))
noncomputable def vecI (own : Bool) (as : List RV) (hp : Hp) : Option (RV × Hp) := ((two as).bind fun q => mkVec own q.1 q.2 (.a .none) hp).or ((three as).bind fun q => mkVec own q.1 q.2.1 q.2.2 hp)
noncomputable def oWell : AO → Option (List (Nat × Nat) × List Int)
  | .well l W => some (l, W)
  | _ => none
noncomputable def dipV (L : Int) (d : Nat) : RV := .a (cond (decide (L = 7)) (.item 0 d) (.int d))
noncomputable def dipI (as : List RV) (hp : Hp) : Option (RV × Hp) := (two as).bind fun q => (rR q.1).bind fun i => (vI q.2).bind fun L => (nth hp i).bind fun o => (oWell o).bind fun w => gd (decide (1 < L)) (gd (decide (L ≤ 7)) (match w.1 with
  | [] => some (dipV L (dipD w.2 L), nset hp i (.well [] (dipR w.2 L)))
  | p :: r => gd (decide (L = (p.1 : Int))) (some (dipV L p.2, nset hp i (.well r w.2)))))
noncomputable def instI (v : RV) (hp : Hp) : Option (RV × Hp) := (fieldsOf v hp).map fun _ => (.a (.bool true), hp)
noncomputable def callN (cfg : Cfg) (ih : Ih) (pos : Pos) (f : Str) (as : List RV) (hp : Hp) : Option (RV × Hp) :=
  cond (isS 149336482861779908697906204443257 "Vector" f) (vecI (cfg.own pos) as hp) <|
  cond (isS 204539113034125271168301899971054244041851719 "_law_dip" f) (gd cfg.dip (dipI as hp)) <|
  ((cfg.orcC f as).map fun v => (RV.a v, hp)).or ((bcall f as (cfg.own pos) hp).or (callFn ih (cfg.keep pos) f as hp))

noncomputable def nodupS : List Str → Bool
  | [] => true
  | x :: r => !r.any (seq x) && nodupS r

section
variable (cfg : Cfg) (ih : Ih)

noncomputable def evArgs (sc : Sc) (loc : Loc) : Hp → List Expr → Option (List RV × Hp)
  | hp, [] => some ([], hp)
  | hp, e :: r => gd (noStar e) ((ih.ev sc loc hp e).bind fun q => (evArgs sc loc q.2 r).map fun q' => (q.1 :: q'.1, q'.2))
noncomputable def evPairs (sc : Sc) (loc : Loc) : Hp → List (Option Expr) → List Expr → Option (List (Str × RV) × Hp)
  | hp, [], es => match es with
    | [] => some ([], hp)
    | _ :: _ => none
  | hp, k :: ks, es => match es with
    | e :: r => (k.bind eStr).bind fun x => (ih.ev sc loc hp e).bind fun q => (evPairs sc loc q.2 ks r).map fun q' => ((x, q.1) :: q'.1, q'.2)
    | [] => none
noncomputable def evOpt (sc : Sc) (loc : Loc) (hp : Hp) : Option Expr → Option (Option RV × Hp)
  | none => some (none, hp)
  | some e => (ih.ev sc loc hp e).map fun q => (some q.1, q.2)
/-- whether it goes on -/
noncomputable def goOn : BoolOp → Bool → Bool
  | .And, b => b
  | .Or, b => !b
noncomputable def evBool (sc : Sc) (loc : Loc) (op : BoolOp) : Hp → List Expr → Option (RV × Hp)
  | _, [] => none
  | hp, e :: r => match r with
    | [] => ih.ev sc loc hp e
    | _ :: _ => (ih.ev sc loc hp e).bind fun q => (bool? q.1).bind fun b => cond (goOn op b) (evBool sc loc op q.2 r) (some q)
noncomputable def trBool (sc : Sc) (loc : Loc) (op : BoolOp) : Hp → List Expr → Option (Bool × Hp)
  | hp, [] => some (match op with | .And => true | .Or => false, hp)
  | hp, e :: r => (ih.tr sc loc hp e).bind fun q => cond (goOn op q.1) (trBool sc loc op q.2 r) (some q)
noncomputable def tests (sc : Sc) (loc : Loc) (hp : Hp) (l : List Expr) : Option (Bool × Hp) := match l with
  | [] => some (true, hp)
  | e :: r => gd r.isEmpty (ih.tr sc loc hp e)
/-- kinds of names, by the scope's table -/
noncomputable def isLoc (sc : Sc) (x : Str) : Bool := match alook x sc with
  | some .local => true
  | some .cell => true
  | _ => false
noncomputable def isGl (sc : Sc) (x : Str) : Bool := match alook x sc with
  | some .globalImplicit => true
  | _ => false
noncomputable def isLocal (sc : Sc) (x : Str) : Bool := match alook x sc with
  | some .local => true
  | _ => false
noncomputable def isFree (sc : Sc) (x : Str) : Bool := match alook x sc with
  | some .free => true
  | _ => false
noncomputable def noDbg : Sc → Bool
  | [] => true
  | p :: r => !isS 227879657141817482955206015441450581842772891403148 "__debug__" p.1 && (!isS 351093286114700385076772643035581942655367750073701657859784222272809076035 "__classdict__" p.1 && noDbg r)
/-- a comprehension's table: what it takes from around stands there in a cell; no cells of its own; no name twice -/
noncomputable def isCF : Option NameKind → Bool
  | some k => match k with
    | .cell => true
    | .free => true
    | _ => false
  | none => false
noncomputable def scOk (outer : Sc) (x : Str) : NameKind → Bool
  | .free => isCF (alook x outer)
  | .cell => false
  | _ => true
noncomputable def compSc (outer : Sc) : Sc → Bool
  | [] => true
  | p :: r => scOk outer p.1 p.2 && compSc outer r
noncomputable def freeOf (inner : Sc) : Loc → Loc
  | [] => []
  | (x, v) :: r => match isFree inner x with
    | true => (x, v) :: freeOf inner r
    | false => freeOf inner r
noncomputable def comp (sc : Sc) (loc : Loc) (x : Str) (ifs : List Expr) (elt : Expr) : List AV → Hp → Option (List RV × Hp)
  | [], hp => some ([], hp)
  | v :: r, hp => (tests ih sc ((x, .a v) :: loc) hp ifs).bind fun q => cond q.1 ((ih.ev sc ((x, .a v) :: loc) q.2 elt).bind fun q' => (comp sc loc x ifs elt r q'.2).map fun q'' => (q'.1 :: q''.1, q''.2)) (comp sc loc x ifs elt r q.2)

noncomputable def evCmp (sc : Sc) (loc : Loc) (hp : Hp) (l : Expr) (ops : List CmpOp) (rs : List Expr) : Option (Bool × Hp) := (one ops).bind fun op => (one rs).bind fun r => gd (!behindInMarks op r) ((ih.ev sc loc hp l).bind fun q => (ih.ev sc loc q.2 r).bind fun q' => (cmpR op q.1 q'.1 q'.2).map fun b => (b, q'.2))

/-- no name twice, none of the two odd ones, a function's table -/
noncomputable def isFn : ScopeKind → Bool
  | .function => true
  | _ => false
noncomputable def compOk (outer : Sc) (scope : Scope) (x : Str) (iter : Expr) : Bool := isFn scope.kind && (nodupS (scope.names.map (·.1)) && (noDbg scope.names && (compSc outer scope.names && (isLocal scope.names x && noSet iter))))
noncomputable def compG (sc : Sc) (loc : Loc) (hp : Hp) (elt : Expr) (x : Str) (iter : Expr) (ifs : List Expr) (scope : Scope) (pos : Pos) : Option (RV × Hp) :=
  gd (compOk sc scope x iter) ((ih.ev sc loc hp iter).bind fun q => (iterOf q.1).bind fun l => (comp ih scope.names (freeOf scope.names loc) x ifs elt l q.2).bind fun q' => mkLst (cfg.own pos) q'.1 q'.2)
noncomputable def compI (sc : Sc) (loc : Loc) (hp : Hp) (elt : Expr) (gens : List Comprehension) (scope : Scope) (pos : Pos) : Option (RV × Hp) := (one gens).bind fun g => (eName g.target).bind fun x => gd (decide (g.is_async = 0)) (compG cfg ih sc loc hp elt x g.iter g.ifs scope pos)
/-- the value of an assignment: a list made there may stand in its place before the maker's own names go -/
noncomputable def valI (sc : Sc) (loc : Loc) (hp : Hp) (e : Expr) : Option (RV × Hp) := match e with
  | .ListComp elt gens scope pos => compI cfg ih sc loc hp elt gens scope pos
  | .SetComp _ _ _ _ => none
  | .DictComp _ _ _ _ _ => none
  | e => ih.ev sc loc hp e

noncomputable def evCall (sc : Sc) (loc : Loc) (hp : Hp) (f : Expr) (args : List Expr) (pos : Pos) : Option (RV × Hp) := match f with
  | .Attribute o m apos => gd (apos.endLine == pos.line) (gd (noCall0 o) (gd (Nat.ble args.length 3) ((ih.ev sc loc hp o).bind fun q => (methT m q.1 q.2).bind fun mt => (evArgs ih sc loc q.2 args).bind fun q' => methI mt q.1 q'.1 q'.2)))
  | .Name f fp => ((cfg.orcE sc (.Call (.Name f fp) args [] pos) loc).map fun v => (RV.a v, hp)).or <| gd (isGl sc f) <| cond (isS 280329929742302261966563980743504501142988297463031006267 "isinstance" f)
      ((two args).bind fun a => (eName a.2).bind fun c => gd (isS 149336482861779908697906204443257 "Vector" c) (gd (isGl sc c) (gd (noStar a.1) ((ih.ev sc loc hp a.1).bind fun q => instI q.1 q.2))))
      ((evArgs ih sc loc hp args).bind fun q => callN cfg ih pos f q.1 q.2)
  | _ => none
noncomputable def evBin (sc : Sc) (loc : Loc) (hp : Hp) (l : Expr) (op : Operator) (r : Expr) : Option (RV × Hp) := (ih.ev sc loc hp l).bind fun q => (ih.ev sc loc q.2 r).bind fun q' => (rA q.1).bind fun x => (rA q'.1).bind fun y => (binop op x y).map fun z => (.a z, q'.2)
noncomputable def evIf (sc : Sc) (loc : Loc) (hp : Hp) (t b o : Expr) : Option (RV × Hp) := (ih.tr sc loc hp t).bind fun q => cond q.1 (ih.ev sc loc q.2 b) (ih.ev sc loc q.2 o)
noncomputable def evDict (sc : Sc) (loc : Loc) (hp : Hp) (ks : List (Option Expr)) (vs : List Expr) (pos : Pos) : Option (RV × Hp) := (evPairs ih sc loc hp ks vs).bind fun q => gd (nodupS (q.1.map (·.1))) (gd (Nat.blt q.1.length 5) (cond (cfg.own pos) (some (.r q.2.length, q.2 ++ [.dct q.1])) ((allAd q.1).map fun l => (.a (.dct l), q.2))))
noncomputable def evSub (sc : Sc) (loc : Loc) (hp : Hp) (o s : Expr) : Option (RV × Hp) := (ih.ev sc loc hp o).bind fun q => (ih.ev sc loc q.2 s).bind fun q' => (getItemI q.1 q'.1 q'.2).map fun v => (v, q'.2)
noncomputable def evSli (sc : Sc) (loc : Loc) (hp : Hp) (o : Expr) (lo hi : Option Expr) (pos : Pos) : Option (RV × Hp) := (ih.ev sc loc hp o).bind fun q => (evOpt ih sc loc q.2 lo).bind fun q1 => (evOpt ih sc loc q1.2 hi).bind fun q2 => sliceI q.1 q1.1 q2.1 (cfg.own pos) q2.2
noncomputable def evConst (hp : Hp) : Const → Option (RV × Hp)
  | .none => some (.a .none, hp)
  | .bool b => some (.a (.bool b), hp)
  | .int i => some (.a (.int i), hp)
  | .str s => some (.a (.str s), hp)
  | _ => none
noncomputable def evSubs (sc : Sc) (loc : Loc) (hp : Hp) (o s : Expr) (pos : Pos) : Option (RV × Hp) := match s with
  | .Slice lo hi st _ => match st with
    | none => evSli cfg ih sc loc hp o lo hi pos
    | some _ => evSub ih sc loc hp o s
  | _ => evSub ih sc loc hp o s
noncomputable def stepEv (sc : Sc) (loc : Loc) (hp : Hp) (e : Expr) : Option (RV × Hp) := match e with
  | .Constant c _ _ => evConst hp c
  | .Name x _ => (alook x loc).map fun v => (v, hp)
  | .BoolOp op vs _ => evBool ih sc loc op hp vs
  | .BinOp l op r pos => ((cfg.orcE sc (.BinOp l op r pos) loc).map fun v => (RV.a v, hp)).or (evBin ih sc loc hp l op r)
  | .UnaryOp op x _ => match op with
    | .USub => (ih.ev sc loc hp x).bind fun q => (vI q.1).map fun i => (.a (.int (-i)), q.2)
    | _ => none
  | .IfExp t b o pos => ((cfg.orcE sc (.IfExp t b o pos) loc).map fun v => (RV.a v, hp)).or (evIf ih sc loc hp t b o)
  | .Dict ks vs pos => evDict cfg ih sc loc hp ks vs pos
  | .List es pos => (evArgs ih sc loc hp es).bind fun q => mkLst (cfg.own pos) q.1 q.2
  | .Tuple es _ _ => (evArgs ih sc loc hp es).bind fun q => (allA q.1).bind fun l => gd (Nat.ble l.length 4096) (some (.a (.tup l), q.2))
  | .ListComp elt gens scope pos => compI cfg ih sc loc hp elt gens scope pos
  | .Compare l ops rs _ => (evCmp ih sc loc hp l ops rs).map fun q => (.a (.bool q.1), q.2)
  | .Call f args kws pos => gd kws.isEmpty (evCall cfg ih sc loc hp f args pos)
  | .Attribute o x _ => gd (noCall0 o) ((ih.ev sc loc hp o).bind fun q => (getAttrI q.1 x q.2).map fun v => (v, q.2))
  | .Subscript o s pos => evSubs cfg ih sc loc hp o s pos
  | _ => none

noncomputable def stepTr (sc : Sc) (loc : Loc) (hp : Hp) (e : Expr) : Option (Bool × Hp) := match e with
  | .UnaryOp op x _ => match op with
    | .Not => (ih.tr sc loc hp x).map fun q => (!q.1, q.2)
    | _ => none
  | .BoolOp op vs _ => trBool ih sc loc op hp vs
  | .Compare l ops rs _ => evCmp ih sc loc hp l ops rs
  | .IfExp _ _ _ _ => none
  | e => (ih.ev sc loc hp e).bind fun q => (bool? q.1).map fun b => (b, q.2)

noncomputable def attrSet (o : RV) (x : Str) (v : RV) (hp : Hp) : Option Hp := match o with
  | .a o => (aVec o).bind fun _ => gd (isS 199115262720747006069394835636861 "shared" x) ((bool? v).map fun _ => hp)
  | .r i => ((nth hp i).bind oInst).bind fun q => gd (isS 150988374045039046588367411 "attrs" x) (some (nset hp i (.inst q.1 q.2.1 v)))
noncomputable def setL (i : Nat) (k : Int) (v : RV) (hp : Hp) : Option Hp := (natOf k).bind fun n => (lstAt hp i).bind fun l => gd (Nat.blt n l.length) (gd (Nat.blt n (2 ^ 62)) (some (nset hp i (.lst (nset l n v)))))
noncomputable def setD (i : Nat) (x : Str) (v : RV) (hp : Hp) : Option Hp := ((nth hp i).bind oDct).bind fun l => gd (Nat.ble l.length 1000) (some (nset hp i (.dct (aset x v l))))
noncomputable def setItemI (o i v : RV) (hp : Hp) : Option Hp := (rR o).bind fun n => ((vI i).bind fun k => setL n k v hp).or ((vS i).bind fun x => setD n x v hp)
noncomputable def asg3 (sc : Sc) (loc : Loc) (hp : Hp) (ts : List Expr) (v : RV) : Option (Loc × Hp) := (three ts).bind fun t => (eName t.1).bind fun x => (eName t.2.1).bind fun y => (eName t.2.2).bind fun z => ((rA v).bind aTup).bind fun l => (three l).bind fun a =>
  gd (isLoc sc x) (gd (isLoc sc y) (gd (isLoc sc z) (some (aset z (.a a.2.2) (aset y (.a a.2.1) (aset x (.a a.1) loc)), hp))))
noncomputable def assignI (sc : Sc) (loc : Loc) (hp : Hp) (t : Expr) (v : RV) : Option (Loc × Hp) := match t with
  | .Name x _ => gd (isLoc sc x) (some (aset x v loc, hp))
  | .Attribute o x _ => (ih.ev sc loc hp o).bind fun q => (attrSet q.1 x v q.2).map fun hp => (loc, hp)
  | .Subscript o s _ => (ih.ev sc loc hp o).bind fun q => (ih.ev sc loc q.2 s).bind fun q' => (setItemI q.1 q'.1 v q'.2).map fun hp => (loc, hp)
  | .Tuple ts _ _ => asg3 sc loc hp ts v
  | _ => none

noncomputable def forI (sc : Sc) (x : Str) (body : List Stmt) : List AV → Loc → Hp → Option (Flw × Loc × Hp)
  | [], loc, hp => some (.next, loc, hp)
  | v :: r, loc, hp => (ih.exs sc (aset x (.a v) loc) hp body).bind fun q => match q.1 with
    | .next => forI sc x body r q.2.1 q.2.2
    | .ret w => some (.ret w, q.2)
noncomputable def whileI (sc : Sc) (t : Expr) (body : List Stmt) : Nat → Loc → Hp → Option (Flw × Loc × Hp)
  | 0, _, _ => none
  | n + 1, loc, hp => (ih.tr sc loc hp t).bind fun q => match q.1 with
    | false => some (.next, loc, q.2)
    | true => (ih.exs sc loc q.2 body).bind fun q' => match q'.1 with
      | .next => whileI sc t body n q'.2.1 q'.2.2
      | .ret w => some (.ret w, q'.2)

noncomputable def augOp : Operator → Int → Int → Option Int
  | .Add, i, j => some (i + j)
  | .Sub, i, j => some (i - j)
  | _, _, _ => none
noncomputable def isNI : AV → Bool
  | .none => true
  | .int _ => true
  | _ => false
noncomputable def exAug (sc : Sc) (loc : Loc) (hp : Hp) (t : Expr) (op : Operator) (e : Expr) : Option (Flw × Loc × Hp) := (eName t).bind fun x => gd (isLoc sc x) ((alook x loc).bind fun a => (vI a).bind fun i => (ih.ev sc loc hp e).bind fun q => (vI q.1).bind fun j => (augOp op i j).map fun k => (.next, aset x (.a (.int k)) loc, q.2))
noncomputable def exIf (sc : Sc) (loc : Loc) (hp : Hp) (t : Expr) (b o : List Stmt) : Option (Flw × Loc × Hp) := (ih.tr sc loc hp t).bind fun q => cond q.1 (ih.exs sc loc q.2 b) (ih.exs sc loc q.2 o)
noncomputable def exFor (sc : Sc) (loc : Loc) (hp : Hp) (t e : Expr) (b o : List Stmt) : Option (Flw × Loc × Hp) := (eName t).bind fun x => gd o.isEmpty (gd (isLoc sc x) (gd (noSet e) ((ih.ev sc loc hp e).bind fun q => (iterOf q.1).bind fun l => forI ih sc x b l loc q.2)))
noncomputable def stepEx0 (sc : Sc) (loc : Loc) (hp : Hp) (st : Stmt) : Option (Flw × Loc × Hp) := match st with
  | .Return e _ => match e with
    | some e => (ih.ev sc loc hp e).map fun q => (.ret q.1, loc, q.2)
    | none => some (.ret (.a .none), loc, hp)
  | .Assign ts e _ => (one ts).bind fun t => gd (tgtOk t e) ((valI cfg ih sc loc hp e).bind fun q => (assignI ih sc loc q.2 t q.1).map fun q' => (.next, q'.1, q'.2))
  | .AugAssign t op e _ => exAug ih sc loc hp t op e
  | .Expr e _ => gd (noComp e) ((ih.ev sc loc hp e).bind fun q => (rA q.1).bind fun v => gd (isNI v) (some (.next, loc, q.2)))
  | .If t b o pos => ((cfg.orcS sc (.If t b o pos) loc hp).map fun q => (Flw.next, q.1, q.2)).or (exIf ih sc loc hp t b o)
  | .For t e b o _ => exFor ih sc loc hp t e b o
  | .While t b o _ => gd o.isEmpty (whileI ih sc t b 64 loc hp)
  | .Pass _ => some (.next, loc, hp)
  | _ => none

noncomputable def stPos : Stmt → Pos
  | .Assign _ _ p | .AugAssign _ _ _ p | .Expr _ p | .If _ _ _ p | .For _ _ _ _ p | .While _ _ _ p | .Return _ p => p
  | _ => default
noncomputable def stepEx (sc : Sc) (loc : Loc) (hp : Hp) (st : Stmt) : Option (Flw × Loc × Hp) :=
  (stepEx0 cfg ih sc loc hp st).bind fun q => match q.1 with
    | .ret _ => some q
    | .next => (fzNames (cfg.fz (stPos st)) q.2.1 q.2.2).map fun q' => (.next, q'.1, q'.2)

noncomputable def stepExs (sc : Sc) : Loc → Hp → List Stmt → Option (Flw × Loc × Hp)
  | loc, hp, [] => some (.next, loc, hp)
  | loc, hp, st :: r => (ih.ex sc loc hp st).bind fun q => match q.1 with
    | .ret _ => some q
    | .next => stepExs sc q.2.1 q.2.2 r

noncomputable def retV : Flw → RV
  | .ret v => v
  | .next => .a .none
noncomputable def stepCl (f : Str) (as : List RV) (hp : Hp) : Option (RV × Hp) := (cfg.tab f).bind fun d => gd (Nat.beq d.params.length as.length) (gd (d.params.all (isLoc d.names)) ((ih.exs d.names (d.params.zip as) hp d.body).map fun q => (retV q.1, q.2.2)))

noncomputable def stepIh : Ih := ⟨stepEv cfg ih, stepTr ih, stepEx cfg ih, stepExs ih, stepCl cfg ih⟩
end

noncomputable def run (cfg : Cfg) : Nat → Ih
  | 0 => ⟨fun _ _ _ _ => none, fun _ _ _ _ => none, fun _ _ _ _ => none, fun _ _ _ _ => none, fun _ _ _ => none⟩
  | n + 1 => stepIh cfg (run cfg n)

noncomputable def fdAt (p : Program) (i : Nat) : Option FD := match nth p.main.body i with
  | some (.FunctionDef _ a b _ _ _ s _ _ _) => some ⟨a.args.map (·.arg), b, s.names⟩
  | _ => none
noncomputable def namesOf (p : Program) : List (Str × Nat) := p.main.body.zipIdx.filterMap fun st => match st.1 with
  | .FunctionDef n _ _ _ _ _ _ _ _ _ => some (n, st.2)
  | _ => none
end Mine
end
section
open PySem
namespace Mine
set_option maxRecDepth 100000

noncomputable def at_ (p : Pos) (l c : Nat) : Bool := match Nat.beq p.line l with
  | true => Nat.beq p.col c
  | false => false
noncomputable def anyAt (p : Pos) : List (Nat × Nat) → Bool
  | [] => false
  | (l, c) :: r => match at_ p l c with
    | true => true
    | false => anyAt p r
noncomputable def ownSites : List (Nat × Nat) := [(107, 10), (349, 11), (362, 11), (489, 12), (517, 11), (517, 24), (526, 14), (560, 74), (562, 11), (565, 15), (567, 15), (568, 11), (576, 12), (577, 12), (578, 14), (587, 27), (592, 13), (600, 9), (609, 10), (631, 12), (637, 43)]
noncomputable def keepSites : List (Nat × Nat) := [(613, 17), (624, 21)]
noncomputable def fzTab : List (Nat × Nat × List (Bool × Str)) := [(528, 4, [(false, "columns")]), (579, 4, [(false, "sorts"), (false, "table")]), (582, 8, [(true, "columns")]), (594, 4, [(false, "truths")]),
  (601, 4, [(false, "df")]), (617, 8, [(false, "column"), (false, "inside")]), (626, 12, [(false, "inside")]), (612, 4, [(false, "due")])]
noncomputable def fzAt (p : Pos) : List (Nat × Nat × List (Bool × Str)) → List (Bool × Str)
  | [] => []
  | (l, c, x) :: r => match at_ p l c with
    | true => x
    | false => fzAt p r
noncomputable def fzSites (p : Pos) : List (Bool × Str) := fzAt p fzTab

noncomputable def wtxt : Nat → Nat
  | 2 => 3
  | s => s + 5
noncomputable def exPos : Expr → Pos
  | .IfExp _ _ _ p | .Call _ _ _ p | .BinOp _ _ _ p => p
  | _ => default
noncomputable def P := PySem.Challenge.pw_sm0100_01
noncomputable def fdN (i : Nat) : FD := (fdAt P i).elim ⟨[], [], []⟩ id
noncomputable def f6 : { d : FD // fdAt P 6 = some d } := ⟨fdN 6, rfl⟩
noncomputable def f8 : { d : FD // fdAt P 8 = some d } := ⟨fdN 8, rfl⟩
noncomputable def f9 : { d : FD // fdAt P 9 = some d } := ⟨fdN 9, rfl⟩
noncomputable def f10 : { d : FD // fdAt P 10 = some d } := ⟨fdN 10, rfl⟩
noncomputable def f20 : { d : FD // fdAt P 20 = some d } := ⟨fdN 20, rfl⟩
noncomputable def f25 : { d : FD // fdAt P 25 = some d } := ⟨fdN 25, rfl⟩
noncomputable def f26 : { d : FD // fdAt P 26 = some d } := ⟨fdN 26, rfl⟩
noncomputable def f30 : { d : FD // fdAt P 30 = some d } := ⟨fdN 30, rfl⟩
noncomputable def f31 : { d : FD // fdAt P 31 = some d } := ⟨fdN 31, rfl⟩
noncomputable def f32 : { d : FD // fdAt P 32 = some d } := ⟨fdN 32, rfl⟩
noncomputable def f33 : { d : FD // fdAt P 33 = some d } := ⟨fdN 33, rfl⟩
noncomputable def f34 : { d : FD // fdAt P 34 = some d } := ⟨fdN 34, rfl⟩
noncomputable def f36 : { d : FD // fdAt P 36 = some d } := ⟨fdN 36, rfl⟩
noncomputable def f37 : { d : FD // fdAt P 37 = some d } := ⟨fdN 37, rfl⟩
noncomputable def f38 : { d : FD // fdAt P 38 = some d } := ⟨fdN 38, rfl⟩
noncomputable def f39 : { d : FD // fdAt P 39 = some d } := ⟨fdN 39, rfl⟩
noncomputable def f40 : { d : FD // fdAt P 40 = some d } := ⟨fdN 40, rfl⟩
noncomputable def f41 : { d : FD // fdAt P 41 = some d } := ⟨fdN 41, rfl⟩
noncomputable def f49 : { d : FD // fdAt P 49 = some d } := ⟨fdN 49, rfl⟩
noncomputable def f50 : { d : FD // fdAt P 50 = some d } := ⟨fdN 50, rfl⟩
noncomputable def f52 : { d : FD // fdAt P 52 = some d } := ⟨fdN 52, rfl⟩
noncomputable def f53 : { d : FD // fdAt P 53 = some d } := ⟨fdN 53, rfl⟩
noncomputable def f54 : { d : FD // fdAt P 54 = some d } := ⟨fdN 54, rfl⟩
noncomputable def f56 : { d : FD // fdAt P 56 = some d } := ⟨fdN 56, rfl⟩
noncomputable def f58 : { d : FD // fdAt P 58 = some d } := ⟨fdN 58, rfl⟩
noncomputable def f59 : { d : FD // fdAt P 59 = some d } := ⟨fdN 59, rfl⟩
noncomputable def f60 : { d : FD // fdAt P 60 = some d } := ⟨fdN 60, rfl⟩
noncomputable def f61 : { d : FD // fdAt P 61 = some d } := ⟨fdN 61, rfl⟩
noncomputable def f62 : { d : FD // fdAt P 62 = some d } := ⟨fdN 62, rfl⟩
noncomputable def f63 : { d : FD // fdAt P 63 = some d } := ⟨fdN 63, rfl⟩
noncomputable def f64 : { d : FD // fdAt P 64 = some d } := ⟨fdN 64, rfl⟩
noncomputable def f67 : { d : FD // fdAt P 67 = some d } := ⟨fdN 67, rfl⟩
noncomputable def f68 : { d : FD // fdAt P 68 = some d } := ⟨fdN 68, rfl⟩
noncomputable def f74 : { d : FD // fdAt P 74 = some d } := ⟨fdN 74, rfl⟩
noncomputable def f75 : { d : FD // fdAt P 75 = some d } := ⟨fdN 75, rfl⟩
noncomputable def f76 : { d : FD // fdAt P 76 = some d } := ⟨fdN 76, rfl⟩
noncomputable def f77 : { d : FD // fdAt P 77 = some d } := ⟨fdN 77, rfl⟩
noncomputable def f78 : { d : FD // fdAt P 78 = some d } := ⟨fdN 78, rfl⟩
noncomputable def f82 : { d : FD // fdAt P 82 = some d } := ⟨fdN 82, rfl⟩
noncomputable def f83 : { d : FD // fdAt P 83 = some d } := ⟨fdN 83, rfl⟩
noncomputable def f86 : { d : FD // fdAt P 86 = some d } := ⟨fdN 86, rfl⟩
noncomputable def f87 : { d : FD // fdAt P 87 = some d } := ⟨fdN 87, rfl⟩
noncomputable def f88 : { d : FD // fdAt P 88 = some d } := ⟨fdN 88, rfl⟩
noncomputable def f90 : { d : FD // fdAt P 90 = some d } := ⟨fdN 90, rfl⟩
noncomputable def f93 : { d : FD // fdAt P 93 = some d } := ⟨fdN 93, rfl⟩
noncomputable def f94 : { d : FD // fdAt P 94 = some d } := ⟨fdN 94, rfl⟩
noncomputable def f95 : { d : FD // fdAt P 95 = some d } := ⟨fdN 95, rfl⟩
noncomputable def f96 : { d : FD // fdAt P 96 = some d } := ⟨fdN 96, rfl⟩
noncomputable def tabL : List (Nat × Str × FD) := [(237374653509114040060798465534231326119585121174454, (("character" : Str), f6.1)), (251617142733529683116496155502205867285028557095895, (("is_vector" : Str), f8.1)), (251617142733529683080449479303197029341797242897345, (("is_atomic" : Str), f9.1)), (178720886230343785656746520, (("share" : Str), f10.1)), (219453419634374340602420922485238011081392998, (("from_int" : Str), f20.1)), (405951582526419046049391703556035776980412070259037666889376292118832022909, (("nearest_whole" : Str), f25.1)), (217322817519273315401899392785747494015140729, (("exponent" : Str), f26.1)), (317354574965357296280602841420369985221919515536646997069, (("whole_text" : Str), f30.1)), (380785172486085666354435306612550568287825029030021707138243414394129, (("special_text" : Str), f31.1)), (199115255017266789392021068579442, (("scaled" : Str), f32.1)), (341783240893210229593477003600861582355823343062787489529922714, (("significant" : Str), f33.1)), (393915663569638744731759961747494402280660874237428458568668167210281, (("without_tail" : Str), f34.1)), (272396047861842057125084639884723722201487393002011690046, (("fixed_text" : Str), f36.1)), (234367689899250116958467606006012113710875501, (("measures" : Str), f37.1)), (294640760929532738926651548137544805762814514648743582128407710, (("chosen_form" : Str), f38.1)), (176800650123592386433036333220483, (("formed" : Str), f39.1)), (328263122706313046207015140745818767319901908765953078128565200946476, (("common_texts" : Str), f40.1)), (327051248466445450600602110291029216907337448201622588853060792, (("number_text" : Str), f41.1)), (221584008362786895585671113367833986583888738, (("get_attr" : Str), f49.1)), (288263745157939169222409198941838954683154959639860413486, (("label_text" : Str), f50.1)), (321158385909147081639885979860689023318913821549243804850128034, (("label_texts" : Str), f52.1)), (236498295839144533694091014893406803008095056, (("names_of" : Str), f53.1)), (173367621897555299329113051562612, (("dim_of" : Str), f54.1)), (264462196839976762296158273408058941855253293516068684858, (("class_attr" : Str), f56.1)), (251617142733529683089031997484590392899386010829763, (("is_factor" : Str), f58.1)), (380785151861275640842128355983006223467329600061180377275183728362789, (("single_texts" : Str), f59.1)), (376693821814069501852809966164300564173573835508769316806782840289871201654, (("factor_levels" : Str), f60.1)), (263485834394710315376500411815608120963321901417405, (("new_frame" : Str), f61.1)), (272396069225491734532803524857921245052097938930811798591, (("frame_rows" : Str), f62.1)), (328263122706310401606624074473292189032071355397660075848316905129229, (("column_names" : Str), f63.1)), (285619135271929794761957831293020486426656290940974859339, (("kept_attrs" : Str), f64.1)), (285619144766902725284170326873283052605119199240082162731, (("kind_order" : Str), f67.1)), (294640779441863658540036011379293453464686162803678100579943577, (("common_kind" : Str), f68.1)), (309420733438484107494281318438989971525787519663543944250, (("to_integer" : Str), f74.1)), (277728321488470296536095882969838322267483500053446, (("to_double" : Str), f75.1)), (223749300249628068354014142341131141902, (("to_text" : Str), f76.1)), (202713067909068622257235033037207044841, (("item_as" : Str), f77.1)), (431903213582026341775952493716836306715759538072027471735767657866122121692579275, (("is_atomic_kind" : Str), f78.1)), (317354577339112247285897742865166850160305618532639769657, (("with_names" : Str), f82.1)), (187413981884829054498059889501769499360, (("as_kind" : Str), f83.1)), (338110965237879372965587840878169955986128714107275747971451113637112, (("factor_codes" : Str), f86.1)), (285619144766902725284170326873273808431624977138441258033, (("kind_items" : Str), f87.1)), (298842270156929058593005653453291282965024691248463152186, (("put_places" : Str), f88.1)), (321697878637774625597595270392332651389208122125877543074121253061885, (("assign_flags" : Str), f90.1)), (227879684839788408237130334682467751665681387488183, (("_law_pair" : Str), f93.1)), (227879684839788408237130334682473283244196137468862, (("_law_told" : Str), f94.1)), (282855152178207755676715394481108856386342659913160086508995743, (("_law_turned" : Str), f95.1)), (135296116851015, (("law" : Str), f96.1))]
noncomputable def tabLook (f : Str) (n : Nat) : List (Nat × Str × FD) → Option FD
  | [] => none
  | (m, x, d) :: r => match Nat.beq m n with
    | true => match lbeq f.cps.toList x.cps.toList with
      | true => some d
      | false => none
    | false => tabLook f n r
noncomputable def tabOf (f : Str) : Option FD := tabLook f (code f) tabL
noncomputable def cfg0 : Cfg := { tab := tabOf, own := fun p => anyAt p ownSites, keep := fun p => anyAt p keepSites, fz := fzSites, dip := true, orcC := fun _ _ => none, orcE := fun _ _ _ => none, orcS := fun _ _ _ _ => none }
end Mine
end
section
open PySem PySem.W PyProof.Rows PySem.Calls
namespace Mine

structure Gnd where
  prog : Program
  w : World
  h0 : Heap
  C : Addr
  val : Nat → Nat → AV

noncomputable def kent (P : Params) (x : Str) (t : Tok) (v : Value) : DictEntry := ⟨PyData.keyHash P x, .str x t, v⟩
/-- what an instance's dict holds -/
structure VD where
  k : Value
  i : Value
  a : Value
  s : Value
  l : Value
  t1 : Tok
  t2 : Tok
  t3 : Tok
  t4 : Tok
  t5 : Tok
  n : Nat
/-- an instance's dict -/
noncomputable def VD.obj (G : Gnd) (d : VD) : Obj :=
  dictOf [kent G.w.params "kind" d.t1 d.k, kent G.w.params "items" d.t2 d.i, kent G.w.params "attrs" d.t3 d.a, kent G.w.params "shared" d.t4 d.s, kent G.w.params "loose" d.t5 d.l] d.n
/-- all but the two flags -/
noncomputable def VD.core (d : VD) : Value × Value × Value × Tok × Tok × Tok × Tok × Tok := (d.k, d.i, d.a, d.t1, d.t2, d.t3, d.t4, d.t5)
noncomputable def entsOf (o : Obj) : List DictEntry × Nat := match o.data with
  | .dict es n => (es.toList, n)
  | _ => ([], 0)
noncomputable def tokOf (e : DictEntry) : Tok := match e.key with
  | .str _ t => t
  | _ => 0
noncomputable def VD.of (o : Obj) : Option VD := match (entsOf o).1 with
  | [a, b, c, d, e] => some ⟨a.val, b.val, c.val, d.val, e.val, tokOf a, tokOf b, tokOf c, tokOf d, tokOf e, (entsOf o).2⟩
  | _ => none
theorem VD.inj {G : Gnd} {d c : VD} (e : d.obj G = c.obj G) : d = c := Option.some.inj (congrArg VD.of e)

/-- two lists, item by item -/
noncomputable def All2 {α β : Type} (R : α → β → Prop) : List α → List β → Prop
  | [], m => match m with
    | [] => True
    | _ :: _ => False
  | x :: l, m => match m with
    | [] => False
    | y :: m => R x y ∧ All2 R l m
section
variable {α β : Type} {R R' : α → β → Prop}
theorem All2.nil : All2 R [] [] := trivial
theorem All2.cons {x : α} {y : β} {l : List α} {m : List β} (r : R x y) (rs : All2 R l m) : All2 R (x :: l) (y :: m) := ⟨r, rs⟩
theorem All2.nilE {P : List β → Prop} {m : List β} (r : All2 R [] m) (k : P []) : P m := by
  cases m with
  | nil => exact k
  | cons _ _ => exact r.elim
theorem All2.consE {P : List β → Prop} {x : α} {l : List α} {m : List β} (r : All2 R (x :: l) m) (k : ∀ y m, R x y → All2 R l m → P (y :: m)) : P m := by
  cases m with
  | nil => exact r.elim
  | cons y m => exact k y m r.1 r.2
theorem All2.mono (f : ∀ x y, R x y → R' x y) : ∀ {l : List α} {m : List β}, All2 R l m → All2 R' l m := fun {l} => by
  induction l with
  | nil => exact fun {m} r => All2.nilE r trivial
  | cons x l ih => exact fun {m} r => All2.consE r fun y m h hs => ⟨f x y h, ih hs⟩
/-- the same, where more is known of the items -/
theorem All2.monoM : ∀ {l : List α} {m : List β}, (∀ x ∈ l, ∀ y, R x y → R' x y) → All2 R l m → All2 R' l m := fun {l} => by
  induction l with
  | nil => exact fun {m} _ r => All2.nilE r trivial
  | cons x l ih => exact fun {m} f r => All2.consE r fun y m h hs => ⟨f x (.head _) y h, ih (fun x hx => f x (.tail _ hx)) hs⟩
theorem All2.len : ∀ {l : List α} {m : List β}, All2 R l m → l.length = m.length := fun {l} => by
  induction l with
  | nil => exact fun {m} r => All2.nilE (P := fun m => ([] : List α).length = m.length) r rfl
  | cons x l ih => exact fun {m} r => All2.consE (P := fun m => (x :: l).length = m.length) r fun y m h hs => congrArg (· + 1) (ih hs)
theorem All2.append : ∀ {l l' : List α} {m m' : List β}, All2 R l m → All2 R l' m' → All2 R (l ++ l') (m ++ m') := fun {l} => by
  induction l with
  | nil => exact fun {l' m m'} r r' => All2.nilE (P := fun m => All2 R l' (m ++ m')) r r'
  | cons x l ih => exact fun {l' m m'} r r' => All2.consE (P := fun m => All2 R (x :: (l ++ l')) (m ++ m')) r fun y m h hs => ⟨h, ih hs r'⟩
theorem All2.at : ∀ {l : List α} {m : List β} {i : Nat} {x : α}, All2 R l m → nth l i = some x → ∃ y, m[i]? = some y ∧ R x y := fun {l} => by
  induction l with
  | nil => exact fun {m i x} _ e => by cases i <;> exact nn e
  | cons z l ih =>
    exact fun {m i x} r e => All2.consE (P := fun m => ∃ y, m[i]? = some y ∧ R x y) r fun y m h hs => by
      cases i with
      | zero => exact si (P := fun x => ∃ y', (y :: m)[0]? = some y' ∧ R x y') e ⟨y, rfl, h⟩
      | succ i => exact (ih (m := m) hs e : ∃ y, m[i]? = some y ∧ R x y)
theorem All2.map {γ : Type} {f : γ → α} : ∀ {l : List γ} {m : List β}, All2 (fun x => R (f x)) l m → All2 R (l.map f) m := fun {l} => by
  induction l with
  | nil => exact fun {m} r => All2.nilE r trivial
  | cons x l ih => exact fun {m} r => All2.consE r fun y m h hs => ⟨h, ih hs⟩
theorem All2.unmap {γ : Type} {f : γ → α} : ∀ {l : List γ} {m : List β}, All2 R (l.map f) m → All2 (fun x => R (f x)) l m := fun {l} => by
  induction l with
  | nil => exact fun {m} r => All2.nilE (R := R) r trivial
  | cons x l ih => exact fun {m} r => All2.consE (R := R) r fun y m h hs => ⟨h, ih hs⟩
theorem All2.take {n : Nat} : ∀ {l : List α} {m : List β}, All2 R l m → All2 R (l.take n) (m.take n) := fun {l} => by
  induction l generalizing n with
  | nil => exact fun {m} r => All2.nilE (P := fun m => All2 R (([] : List α).take n) (m.take n)) r (by cases n <;> exact trivial)
  | cons x l ih =>
    exact fun {m} r => All2.consE (P := fun m => All2 R ((x :: l).take n) (m.take n)) r fun y m h hs => by
      cases n with
      | zero => exact trivial
      | succ n => exact ⟨h, ih hs⟩
theorem All2.drop {n : Nat} : ∀ {l : List α} {m : List β}, All2 R l m → All2 R (l.drop n) (m.drop n) := fun {l} => by
  induction l generalizing n with
  | nil => exact fun {m} r => All2.nilE (P := fun m => All2 R (([] : List α).drop n) (m.drop n)) r (by cases n <;> exact trivial)
  | cons x l ih =>
    exact fun {m} r => All2.consE (P := fun m => All2 R ((x :: l).drop n) (m.drop n)) r fun y m h hs => by
      cases n with
      | zero => exact ⟨h, hs⟩
      | succ n => exact ih hs
theorem All2.reverse : ∀ {l : List α} {m : List β}, All2 R l m → All2 R l.reverse m.reverse := fun {l} => by
  induction l with
  | nil => exact fun {m} r => All2.nilE (P := fun m => All2 R ([] : List α).reverse m.reverse) r trivial
  | cons x l ih =>
    exact fun {m} r => All2.consE (P := fun m => All2 R (x :: l).reverse m.reverse) r fun y m h hs => by
      rw [List.reverse_cons, List.reverse_cons]; exact (ih hs).append ⟨h, trivial⟩
theorem All2.set {i : Nat} {x : α} {y : β} (q : R x y) : ∀ {l : List α} {m : List β}, All2 R l m → All2 R (nset l i x) (m.set i y) := fun {l} => by
  induction l generalizing i with
  | nil => exact fun {m} r => All2.nilE (P := fun m => All2 R (nset [] i x) (m.set i y)) r trivial
  | cons z l ih =>
    exact fun {m} r => All2.consE (P := fun m => All2 R (nset (z :: l) i x) (m.set i y)) r fun w m h hs => by
      cases i with
      | zero => exact ⟨q, hs⟩
      | succ i => exact ⟨h, ih hs⟩
end
/-- an entry of a dict -/
noncomputable def KVr (G : Gnd) {α : Type} (R : α → Value → Prop) (p : Str × α) (e : DictEntry) : Prop := ∃ t v, e = kent G.w.params p.1 t v ∧ R p.2 v
theorem KVr.mono {G : Gnd} {α : Type} {R R' : α → Value → Prop} (f : ∀ x v, R x v → R' x v) (p : Str × α) (e : DictEntry) (r : KVr G R p e) : KVr G R' p e := by
  obtain ⟨t, v, e, r⟩ := r; exact ⟨t, v, e, f _ _ r⟩

mutual
inductive AR (G : Gnd) (h : Heap) (X : Addr → Prop) : AV → Value → Prop
  | none : AR G h X .none .none
  | bool (b : Bool) : AR G h X (.bool b) (.bool b)
  | int (i : Int) (t : Tok) : AR G h X (.int i) (.int i t)
  | str (s : Str) (t : Tok) : AR G h X (.str s) (.str s t)
  | tupI {l : List AV} {vs : List Value} {a : Addr} {n : Nat} (e : h.get? a = some { cls := .type "tuple", data := .seq vs.toArray n }) (x : ¬ X a) (r : ARsI G h X l vs) : AR G h X (.tup l) (.ref a)
  | lstI {l : List AV} {vs : List Value} {a : Addr} {n : Nat} (e : h.get? a = some (listOf vs.toArray n)) (x : ¬ X a) (r : ARsI G h X l vs) : AR G h X (.lst l) (.ref a)
  | dctI {l : List (Str × AV)} {es : List DictEntry} {a : Addr} {n : Nat} (e : h.get? a = some (dictOf es n)) (x : ¬ X a) (z : l.length < 5) (nd : (l.map (·.1)).Nodup) (r : ARdI G h X l es) : AR G h X (.dct l) (.ref a)
  | vec {k i t : AV} {x d : Addr} {D : VD} (e : h.get? x = some (instObj G.C d)) (e' : h.get? d = some (D.obj G)) (xx : ¬ X x) (xd : ¬ X d)
      (rk : AR G h X k D.k) (ri : AR G h X i D.i) (ra : AR G h X t D.a) : AR G h X (.vec k i t) (.ref x)
  | rng {a b : Int} {r : Addr} {t u v : Tok} (e : IsRange h r a b 1 t u v) (x : ¬ X r) : AR G h X (.rng a b) (.ref r)
  | item {c d : Nat} {v : Value} (z : d < 7) (r : AR G h X (G.val c d) v) : AR G h X (.item c d) v
inductive ARsI (G : Gnd) (h : Heap) (X : Addr → Prop) : List AV → List Value → Prop
  | nil : ARsI G h X [] []
  | cons {x : AV} {v : Value} {l : List AV} {vs : List Value} (r : AR G h X x v) (rs : ARsI G h X l vs) : ARsI G h X (x :: l) (v :: vs)
inductive ARdI (G : Gnd) (h : Heap) (X : Addr → Prop) : List (Str × AV) → List DictEntry → Prop
  | nil : ARdI G h X [] []
  | cons {x : Str} {t : Tok} {y : AV} {v : Value} {l : List (Str × AV)} {es : List DictEntry} (r : AR G h X y v) (rs : ARdI G h X l es) : ARdI G h X ((x, y) :: l) (kent G.w.params x t v :: es)
end
noncomputable abbrev ARs (G : Gnd) (h : Heap) (X : Addr → Prop) : List AV → List Value → Prop := All2 (AR G h X)
noncomputable abbrev ARd (G : Gnd) (h : Heap) (X : Addr → Prop) : List (Str × AV) → List DictEntry → Prop := All2 (KVr G (AR G h X))

noncomputable abbrev Ad := List (Addr × Addr)
noncomputable def ownsO (p : Addr × Addr) : AO → List Addr
  | .dead => []
  | .inst _ _ _ => [p.1, p.2]
  | .lst _ => [p.1]
  | .dct _ => [p.1]
  | .well _ _ => [p.1]
noncomputable def Own (ad : Ad) (hp : Hp) (b : Addr) : Prop := ∃ i p o, nth ad i = some p ∧ nth hp i = some o ∧ b ∈ ownsO p o
noncomputable def Xp (G : Gnd) (F : List Addr) (ad : Ad) (hp : Hp) (b : Nat) : Prop := b < G.h0.objs.size ∨ b ∈ F ∨ Own ad hp b

noncomputable def RVR (G : Gnd) (h : Heap) (X : Addr → Prop) (ad : Ad) : RV → Value → Prop
  | .a v, w => AR G h X v w
  | .r i, w => ∃ p, nth ad i = some p ∧ w = .ref p.1
noncomputable abbrev RVRs (G : Gnd) (h : Heap) (X : Addr → Prop) (ad : Ad) : List RV → List Value → Prop := All2 (RVR G h X ad)
noncomputable abbrev RVRd (G : Gnd) (h : Heap) (X : Addr → Prop) (ad : Ad) : List (Str × RV) → List DictEntry → Prop := All2 (KVr G (RVR G h X ad))

/-- an instance's dict with these three -/
structure InstR (G : Gnd) (h : Heap) (X : Addr → Prop) (ad : Ad) (p : Addr × Addr) (k i t : RV) (D : VD) : Prop where
  e : h.get? p.1 = some (instObj G.C p.2)
  e' : h.get? p.2 = some (D.obj G)
  rk : RVR G h X ad k D.k
  ri : RVR G h X ad i D.i
  ra : RVR G h X ad t D.a
noncomputable def OR (G : Gnd) (h : Heap) (X : Addr → Prop) (ad : Ad) (p : Addr × Addr) : AO → Prop
  | .lst l => ∃ vs n, h.get? p.1 = some (listOf (List.toArray vs) n) ∧ RVRs G h X ad l vs
  | .dct l => ∃ es n, h.get? p.1 = some (dictOf es n) ∧ RVRd G h X ad l es ∧ (l.map (·.1)).Nodup
  | .inst k i t => ∃ D, InstR G h X ad p k i t D
  | .well l W => ∃ W0 vs n, h.get? p.1 = some (listOf (List.toArray vs) n) ∧ IntsAre vs W0 ∧ (∀ x ∈ W0, 0 ≤ x) ∧ W0.length ≤ 64 ∧ unr l W0 = some W
  | .dead => True

structure HR (G : Gnd) (h : Heap) (F : List Addr) (ad : Ad) (hp : Hp) : Prop where
  base : ∀ b o, G.h0.get? b = some o → h.get? b = some o
  size : G.h0.objs.size ≤ h.objs.size
  len : ad.length = hp.length
  obj : ∀ i o p, nth hp i = some o → nth ad i = some p → OR G h (Xp G F ad hp) ad p o
  nd : ∀ i j p q o o' b, i ≠ j → nth ad i = some p → nth ad j = some q → nth hp i = some o → nth hp j = some o' → b ∈ ownsO p o → b ∉ ownsO q o'
  lo : ∀ b : Nat, Own ad hp b → G.h0.objs.size ≤ b ∧ b < h.objs.size ∧ b ∉ F
  fr : ∀ b : Nat, b ∈ F → G.h0.objs.size ≤ b ∧ b < h.objs.size

noncomputable def Flag (G : Gnd) (o : Obj) (h : Heap) (b : Addr) : Prop := ∃ d c : VD, o = d.obj G ∧ h.get? b = some (c.obj G) ∧ d.core = c.core

structure Go (G : Gnd) (W F : List Addr) (ad : Ad) (hp : Hp) (h : Heap) (ad' : Ad) (hp' : Hp) (h' : Heap) : Prop where
  size : h.objs.size ≤ h'.objs.size
  ext : ∀ i p, nth ad i = some p → nth ad' i = some p
  grow : ∀ b : Nat, Own ad' hp' b → Own ad hp b ∨ h.objs.size ≤ b
  keep : ∀ b o, h.get? b = some o → ¬ Own ad hp b → b ∉ W → h'.get? b = some o ∨ (¬ Xp G F ad hp b ∧ Flag G o h' b)

section
variable {G : Gnd} {W F : List Addr} {ad ad' ad'' : Ad} {hp hp' hp'' : Hp} {h h' h'' : Heap} {X X' : Addr → Prop}

theorem ARsI.all2 : ∀ {l : List AV} {vs : List Value}, ARsI G h X l vs → ARs G h X l vs := fun {l} => by
  induction l with
  | nil => intro vs r; cases r; exact trivial
  | cons x l ih =>
    intro vs r
    cases r with
    | cons r rs => exact ⟨r, ih rs⟩
theorem ARs.I : ∀ {l : List AV} {vs : List Value}, ARs G h X l vs → ARsI G h X l vs := fun {l} => by
  induction l with
  | nil => exact fun {m} r => All2.nilE r .nil
  | cons x l ih => exact fun {m} r => All2.consE r fun y m h hs => .cons h (ih hs)
theorem ARdI.all2 : ∀ {l : List (Str × AV)} {vs : List DictEntry}, ARdI G h X l vs → ARd G h X l vs := fun {l} => by
  induction l with
  | nil => intro vs r; cases r; exact trivial
  | cons x l ih =>
    intro vs r
    cases r with
    | cons r rs => exact ⟨⟨_, _, rfl, r⟩, ih rs⟩
theorem ARd.I : ∀ {l : List (Str × AV)} {vs : List DictEntry}, ARd G h X l vs → ARdI G h X l vs := fun {l} => by
  induction l with
  | nil => exact fun {m} r => All2.nilE r .nil
  | cons x l ih => exact fun {m} r => All2.consE r fun y m ⟨t, v, e, r⟩ hs => e ▸ .cons r (ih hs)
theorem AR.tup {l : List AV} {vs : List Value} {a : Addr} {n : Nat} (e : h.get? a = some { cls := .type "tuple", data := .seq vs.toArray n }) (x : ¬ X a) (r : ARs G h X l vs) : AR G h X (.tup l) (.ref a) := .tupI e x (ARs.I r)
theorem AR.lst {l : List AV} {vs : List Value} {a : Addr} {n : Nat} (e : h.get? a = some (listOf vs.toArray n)) (x : ¬ X a) (r : ARs G h X l vs) : AR G h X (.lst l) (.ref a) := .lstI e x (ARs.I r)
theorem AR.dct {l : List (Str × AV)} {es : List DictEntry} {a : Addr} {n : Nat} (e : h.get? a = some (dictOf es n)) (x : ¬ X a) (z : l.length < 5) (nd : (l.map (·.1)).Nodup) (r : ARd G h X l es) : AR G h X (.dct l) (.ref a) := .dctI e x z nd (ARd.I r)

/-- what a value of each sort is -/
structure TupR (G : Gnd) (h : Heap) (X : Addr → Prop) (l : List AV) (a : Addr) (vs : List Value) (n : Nat) : Prop where
  e : h.get? a = some { cls := .type "tuple", data := .seq vs.toArray n }
  x : ¬ X a
  r : ARs G h X l vs
structure LstR (G : Gnd) (h : Heap) (X : Addr → Prop) (l : List AV) (a : Addr) (vs : List Value) (n : Nat) : Prop where
  e : h.get? a = some (listOf vs.toArray n)
  x : ¬ X a
  r : ARs G h X l vs
structure DctR (G : Gnd) (h : Heap) (X : Addr → Prop) (l : List (Str × AV)) (a : Addr) (es : List DictEntry) (n : Nat) : Prop where
  e : h.get? a = some (dictOf es n)
  x : ¬ X a
  z : l.length < 5
  nd : (l.map (·.1)).Nodup
  r : ARd G h X l es
structure VecR (G : Gnd) (h : Heap) (X : Addr → Prop) (k i t : AV) (x d : Addr) (D : VD) : Prop where
  e : h.get? x = some (instObj G.C d)
  e' : h.get? d = some (D.obj G)
  xx : ¬ X x
  xd : ¬ X d
  rk : AR G h X k D.k
  ri : AR G h X i D.i
  ra : AR G h X t D.a
noncomputable def ARinv (G : Gnd) (h : Heap) (X : Addr → Prop) : AV → Value → Prop
  | .none, v => v = .none
  | .bool b, v => v = .bool b
  | .int i, v => ∃ t, v = .int i t
  | .str s, v => ∃ t, v = .str s t
  | .tup l, v => ∃ a vs n, v = .ref a ∧ TupR G h X l a vs n
  | .lst l, v => ∃ a vs n, v = .ref a ∧ LstR G h X l a vs n
  | .dct l, v => ∃ a es n, v = .ref a ∧ DctR G h X l a es n
  | .vec k i t, v => ∃ x d D, v = .ref x ∧ VecR G h X k i t x d D
  | .rng a b, v => ∃ r t u w, v = .ref r ∧ IsRange h r a b 1 t u w ∧ ¬ X r
  | .item c d, v => d < 7 ∧ AR G h X (G.val c d) v
theorem AR.inv {x : AV} {v : Value} (r : AR G h X x v) : ARinv G h X x v := by
  cases r with
  | none => exact rfl
  | bool b => exact rfl
  | int i t => exact ⟨t, rfl⟩
  | str s t => exact ⟨t, rfl⟩
  | tupI e x r => exact ⟨_, _, _, rfl, e, x, r.all2⟩
  | lstI e x r => exact ⟨_, _, _, rfl, e, x, r.all2⟩
  | dctI e x z nd r => exact ⟨_, _, _, rfl, e, x, z, nd, r.all2⟩
  | vec e e' xx xd rk ri ra => exact ⟨_, _, _, rfl, e, e', xx, xd, rk, ri, ra⟩
  | rng e x => exact ⟨_, _, _, _, rfl, e, x⟩
  | item z r => exact ⟨z, r⟩
section
variable {P : Value → Prop} {v : Value}
@[elab_as_elim] theorem AR.noneE (r : AR G h X .none v) (k : P .none) : P v := by rw [show v = .none from r.inv]; exact k
@[elab_as_elim] theorem AR.boolE {b : Bool} (r : AR G h X (.bool b) v) (k : P (.bool b)) : P v := by rw [show v = .bool b from r.inv]; exact k
@[elab_as_elim] theorem AR.intE {i : Int} (r : AR G h X (.int i) v) (k : ∀ t, P (.int i t)) : P v := Exists.elim (show ∃ t, v = .int i t from r.inv) fun t e => e ▸ k t
@[elab_as_elim] theorem AR.strE {i : Str} (r : AR G h X (.str i) v) (k : ∀ t, P (.str i t)) : P v := Exists.elim (show ∃ t, v = .str i t from r.inv) fun t e => e ▸ k t
@[elab_as_elim] theorem AR.tupE {l : List AV} (r : AR G h X (.tup l) v) (k : ∀ a vs n, TupR G h X l a vs n → P (.ref a)) : P v := by
  obtain ⟨a, vs, n, e, q⟩ := (show ∃ a vs n, v = .ref a ∧ TupR G h X l a vs n from r.inv)
  exact e ▸ k a vs n q
@[elab_as_elim] theorem AR.lstE {l : List AV} (r : AR G h X (.lst l) v) (k : ∀ a vs n, LstR G h X l a vs n → P (.ref a)) : P v := by
  obtain ⟨a, vs, n, e, q⟩ := (show ∃ a vs n, v = .ref a ∧ LstR G h X l a vs n from r.inv)
  exact e ▸ k a vs n q
@[elab_as_elim] theorem AR.dctE {l : List (Str × AV)} (r : AR G h X (.dct l) v) (k : ∀ a vs n, DctR G h X l a vs n → P (.ref a)) : P v := by
  obtain ⟨a, vs, n, e, q⟩ := (show ∃ a vs n, v = .ref a ∧ DctR G h X l a vs n from r.inv)
  exact e ▸ k a vs n q
@[elab_as_elim] theorem AR.vecE {x y z : AV} (r : AR G h X (.vec x y z) v) (k : ∀ a d D, VecR G h X x y z a d D → P (.ref a)) : P v := by
  obtain ⟨a, vs, n, e, q⟩ := (show ∃ a d D, v = .ref a ∧ VecR G h X x y z a d D from r.inv)
  exact e ▸ k a vs n q
@[elab_as_elim] theorem AR.rngE {a b : Int} (r : AR G h X (.rng a b) v) (k : ∀ r t u w, IsRange h r a b 1 t u w → ¬ X r → P (.ref r)) : P v := by
  obtain ⟨q, t, u, w, e, q1, q2⟩ := (show ∃ r t u w, v = .ref r ∧ IsRange h r a b 1 t u w ∧ ¬ X r from r.inv)
  exact e ▸ k q t u w q1 q2
variable {x : AV}
@[elab_as_elim] theorem AR.ofInt {i : Int} (e : aInt x = some i) (r : AR G h X x v) (k : ∀ t, P (.int i t)) : P v := Mine.intE (P := fun x => AR G h X x v → P v) e (fun r => r.intE k) r
@[elab_as_elim] theorem AR.ofStr {i : Str} (e : aStr x = some i) (r : AR G h X x v) (k : ∀ t, P (.str i t)) : P v := Mine.strE (P := fun x => AR G h X x v → P v) e (fun r => r.strE k) r
@[elab_as_elim] theorem AR.ofBool {i : Bool} (e : aBool x = some i) (r : AR G h X x v) (k : P (.bool i)) : P v := Mine.boolE (P := fun x => AR G h X x v → P v) e (fun r => r.boolE k) r
@[elab_as_elim] theorem AR.ofLst {l : List AV} (e : aLst x = some l) (r : AR G h X x v) (k : ∀ a vs n, LstR G h X l a vs n → P (.ref a)) : P v := Mine.lstE (P := fun x => AR G h X x v → P v) e (fun r => r.lstE k) r
@[elab_as_elim] theorem AR.ofTup {l : List AV} (e : aTup x = some l) (r : AR G h X x v) (k : ∀ a vs n, TupR G h X l a vs n → P (.ref a)) : P v := Mine.tupE (P := fun x => AR G h X x v → P v) e (fun r => r.tupE k) r
@[elab_as_elim] theorem AR.ofDct {l : List (Str × AV)} (e : aDct x = some l) (r : AR G h X x v) (k : ∀ a vs n, DctR G h X l a vs n → P (.ref a)) : P v := Mine.dctE (P := fun x => AR G h X x v → P v) e (fun r => r.dctE k) r
@[elab_as_elim] theorem AR.ofVec {a b c : AV} (e : aVec x = some (a, b, c)) (r : AR G h X x v) (k : ∀ p d D, VecR G h X a b c p d D → P (.ref p)) : P v := Mine.vecE (P := fun x => AR G h X x v → P v) e (fun r => r.vecE k) r
@[elab_as_elim] theorem AR.ofRng {a b : Int} (e : aRng x = some (a, b)) (r : AR G h X x v) (k : ∀ q t u w, IsRange h q a b 1 t u w → ¬ X q → P (.ref q)) : P v := Mine.rngE (P := fun x => AR G h X x v → P v) e (fun r => r.rngE k) r
@[elab_as_elim] theorem RVR.ofInt {x : RV} {i : Int} (e : vI x = some i) (r : RVR G h X ad x v) (k : ∀ t, P (.int i t)) : P v := Mine.vIE (P := fun x => RVR G h X ad x v → P v) e (fun r => AR.intE r k) r
@[elab_as_elim] theorem RVR.ofStr {x : RV} {i : Str} (e : vS x = some i) (r : RVR G h X ad x v) (k : ∀ t, P (.str i t)) : P v := Mine.vSE (P := fun x => RVR G h X ad x v → P v) e (fun r => AR.strE r k) r
theorem RVR.ofA {x : RV} {y : AV} (e : rA x = some y) (r : RVR G h X ad x v) : AR G h X y v := Mine.rAE (P := fun x => RVR G h X ad x v → AR G h X y v) e (fun r => r) r
@[elab_as_elim] theorem RVR.ofR {x : RV} {i : Nat} (e : rR x = some i) (r : RVR G h X ad x v) (k : ∀ p, nth ad i = some p → P (.ref p.1)) : P v := Mine.rRE (P := fun x => RVR G h X ad x v → P v) e (fun r => Exists.elim r fun p q => q.2 ▸ k p q.1) r
@[elab_as_elim] theorem RVR.rE {i : Nat} (r : RVR G h X ad (.r i) v) (k : ∀ p, nth ad i = some p → P (.ref p.1)) : P v := Exists.elim r fun p q => q.2 ▸ k p q.1
end

theorem Go.refl : Go G W F ad hp h ad hp h := ⟨Nat.le_refl _, fun _ _ e => e, fun _ e => .inl e, fun _ _ e _ _ => .inl e⟩
theorem Xp.of_not {b : Addr} (hF : ¬ (b < G.h0.objs.size ∨ b ∈ F)) (ho : ¬ Own ad hp b) : ¬ Xp G F ad hp b := fun x => x.elim (fun x => hF (.inl x)) fun x => x.elim (fun x => hF (.inr x)) ho
/-- a flagged object, seen once more -/
theorem Flag.trans {o : Obj} {b : Addr} (f : Flag G o h' b) (k : ∀ o', h'.get? b = some o' → h''.get? b = some o' ∨ Flag G o' h'' b) : Flag G o h'' b := by
  obtain ⟨d, c, e1, e2, e3⟩ := f
  rcases k _ e2 with z | ⟨d', c', f1, f2, f3⟩
  · exact ⟨d, c, e1, z, e3⟩
  · exact ⟨d, c', e1, f2, by rw [e3, VD.inj f1, f3]⟩
theorem Go.trans (x : Go G W F ad hp h ad' hp' h') (y : Go G W F ad' hp' h' ad'' hp'' h'') : Go G W F ad hp h ad'' hp'' h'' := by
  refine ⟨Nat.le_trans x.size y.size, fun i p e => y.ext i p (x.ext i p e), fun b hb => (y.grow b hb).elim (x.grow b) fun q => .inr (Nat.le_trans x.size q), fun b o e ho hW => ?_⟩
  have ho' : ¬ Own ad' hp' b := fun q => (x.grow b q).elim ho fun z => absurd (Heap.lt_size e) (Nat.not_lt.mpr z)
  have xp : ¬ Xp G F ad' hp' b → ¬ Xp G F ad hp b := fun q => Xp.of_not (fun z => q (z.elim .inl fun z => .inr (.inl z))) ho
  rcases x.keep b o e ho hW with q | ⟨q1, q2⟩
  · exact (y.keep b o q ho' hW).imp id fun z => ⟨xp z.1, z.2⟩
  · exact .inr ⟨q1, q2.trans fun o' e' => (y.keep b o' e' ho' hW).imp id (·.2)⟩

/-- what a tree stands on stays -/
structure Stay (G : Gnd) (h h' : Heap) (X X' : Addr → Prop) : Prop where
  keep : ∀ b o, h.get? b = some o → ¬ X b → h'.get? b = some o ∨ Flag G o h' b
  non : ∀ b o, h.get? b = some o → ¬ X b → ¬ X' b
theorem Flag.dict {o : Obj} {b : Addr} (x : Flag G o h b) : o.cls = .type "dict" := by
  obtain ⟨d, c, e, _⟩ := x
  exact congrArg (·.cls) e
theorem Stay.at {X X' : Addr → Prop} (S : Stay G h h' X X') {b : Addr} {o : Obj} (e : h.get? b = some o) (x : ¬ X b) (c : o.cls ≠ .type "dict") : h'.get? b = some o :=
  (S.keep b o e x).elim id fun f => absurd f.dict c
theorem dict_flag {l : List (Str × AV)} {es : List DictEntry} {n : Nat} {b : Addr} {X : Addr → Prop} (z : l.length < 5) (r : ARd G h X l es) : ¬ Flag G (dictOf es n) h' b := fun ⟨d, c, e, _⟩ => by
  have q : es.length = 5 := congrArg (fun o => (entsOf o).1.length) e
  rw [r.len, q] at z
  exact absurd z (by decide)
theorem isRange_at {r : Addr} {a b c : Int} {t u v : Tok} (x : IsRange h r a b c t u v) : ∃ o, h.get? r = some o ∧ o.cls = .type "range" ∧ ∀ g : Heap, g.get? r = some o → IsRange g r a b c t u v := ⟨_, x, rfl, fun g eg => eg⟩
theorem ne_tup : ¬ (Value.type "tuple" = Value.type "dict") := fun c => absurd (Value.type.inj c) (by decide)
theorem ne_lst : ¬ (Value.type "list" = Value.type "dict") := fun c => absurd (Value.type.inj c) (by decide)
theorem ne_rng : ¬ (Value.type "range" = Value.type "dict") := fun c => absurd (Value.type.inj c) (by decide)
theorem st_vec (S : Stay G h h' X X') {k i t : AV} {x d : Addr} {D : VD} (e : h.get? x = some (instObj G.C d)) (e' : h.get? d = some (D.obj G)) (xx : ¬ X x) (xd : ¬ X d) (rk : AR G h' X' k D.k) (ri : AR G h' X' i D.i) (ra : AR G h' X' t D.a) : AR G h' X' (.vec k i t) (.ref x) := by
  have q := S.at e xx (fun c => nomatch c)
  have n1 := S.non _ _ e xx
  have n2 := S.non _ _ e' xd
  rcases S.keep _ _ e' xd with z | ⟨d', c, e1, e2, e3⟩
  · exact .vec q z n1 n2 rk ri ra
  · rw [VD.inj e1] at rk ri ra
    exact .vec q e2 n1 n2 ((congrArg (·.1) e3 : d'.k = c.k) ▸ rk) ((congrArg (·.2.1) e3 : d'.i = c.i) ▸ ri) ((congrArg (·.2.2.1) e3 : d'.a = c.a) ▸ ra)
theorem AR.stay {X X' : Addr → Prop} (S : Stay G h h' X X') {x : AV} {v : Value} (r : AR G h X x v) : AR G h' X' x v :=
  AR.rec (motive_1 := fun x v _ => AR G h' X' x v) (motive_2 := fun l vs _ => ARsI G h' X' l vs) (motive_3 := fun l es _ => ARdI G h' X' l es)
    .none .bool .int .str
    (fun e x _ r => .tupI (S.at e x ne_tup) (S.non _ _ e x) r)
    (fun e x _ r => .lstI (S.at e x ne_lst) (S.non _ _ e x) r)
    (fun e x z nd q r => .dctI ((S.keep _ _ e x).elim id fun f => absurd f (dict_flag z q.all2)) (S.non _ _ e x) z nd r)
    (fun e e' xx xd _ _ _ rk ri ra => st_vec S e e' xx xd rk ri ra)
    (fun e x => Exists.elim (isRange_at e) fun o q => .rng (q.2.2 _ (S.at q.1 x (q.2.1 ▸ ne_rng))) (S.non _ _ q.1 x))
    (fun z _ r => .item z r)
    .nil (fun _ _ r rs => .cons r rs) .nil (fun _ _ r rs => .cons r rs) r
theorem ARs.stay {X X' : Addr → Prop} (S : Stay G h h' X X') {l : List AV} {vs : List Value} (r : ARs G h X l vs) : ARs G h' X' l vs := r.mono fun _ _ => AR.stay S
theorem ARd.stay {X X' : Addr → Prop} (S : Stay G h h' X X') {l : List (Str × AV)} {vs : List DictEntry} (r : ARd G h X l vs) : ARd G h' X' l vs := r.mono (KVr.mono fun _ _ => AR.stay S)
theorem RVR.stay {X X' : Addr → Prop} (S : Stay G h h' X X') (E : ∀ i p, nth ad i = some p → nth ad' i = some p) : ∀ {x : RV} {v : Value}, RVR G h X ad x v → RVR G h' X' ad' x v
  | .a _, _, r => AR.stay S r
  | .r _, _, ⟨p, e, q⟩ => ⟨p, E _ _ e, q⟩
theorem RVRs.stay {X X' : Addr → Prop} (S : Stay G h h' X X') (E : ∀ i p, nth ad i = some p → nth ad' i = some p) {l : List RV} {vs : List Value} (r : RVRs G h X ad l vs) : RVRs G h' X' ad' l vs := r.mono fun _ _ => RVR.stay S E
theorem RVRd.stay {X X' : Addr → Prop} (S : Stay G h h' X X') (E : ∀ i p, nth ad i = some p → nth ad' i = some p) {l : List (Str × RV)} {es : List DictEntry} (r : RVRd G h X ad l es) : RVRd G h' X' ad' l es := r.mono (KVr.mono fun _ _ => RVR.stay S E)

theorem Go.stay (x : Go G W F ad hp h ad' hp' h') (hW : ∀ b ∈ W, b ∈ F) : Stay G h h' (Xp G F ad hp) (Xp G F ad' hp') :=
  ⟨fun b o e q => (x.keep b o e (fun z => q (.inr (.inr z))) (fun z => q (.inr (.inl (hW b z))))).imp id (·.2), fun b o e q z =>
    z.elim (fun z => q (.inl z)) fun z => z.elim (fun z => q (.inr (.inl z))) fun z => (x.grow b z).elim (fun y => q (.inr (.inr y))) fun y => absurd (Heap.lt_size e) (Nat.not_lt.mpr y)⟩
theorem RVR.go (x : Go G W F ad hp h ad' hp' h') (hW : ∀ b ∈ W, b ∈ F) {y : RV} {v : Value} (r : RVR G h (Xp G F ad hp) ad y v) : RVR G h' (Xp G F ad' hp') ad' y v := r.stay (x.stay hW) x.ext
theorem RVRs.go (x : Go G W F ad hp h ad' hp' h') (hW : ∀ b ∈ W, b ∈ F) {y : List RV} {v : List Value} (r : RVRs G h (Xp G F ad hp) ad y v) : RVRs G h' (Xp G F ad' hp') ad' y v := RVRs.stay (x.stay hW) x.ext r

/-- a frame: what the names hold -/
structure FRel (G : Gnd) (h : Heap) (F : List Addr) (ad : Ad) (hp : Hp) (env : Env) (sc : Sc) (loc : Loc) : Prop where
  kind : env.scope.kind = .function
  glob : env.globals = mainGlobals
  bltn : env.builtins = builtinsNs
  tyl : ∀ x, alook x sc = some .local → env.kindOf x = some .local
  tyc : ∀ x, alook x sc = some .cell → env.kindOf x = some .cell
  tyf : ∀ x, alook x sc = some .free → env.kindOf x = some .cell ∨ env.kindOf x = some .free
  tyg : ∀ x, alook x sc = some .globalImplicit → env.kindOf x = some .globalImplicit
  nodbg : env.kindOf "__debug__" = none ∧ env.kindOf "__classdict__" = none
  kinds : ∀ x rv, alook x loc = some rv → env.kindOf x = some .local ∨ env.kindOf x = some .cell ∨ env.kindOf x = some .free
  ns : ∃ m, h.Ns env.locals m ∧ ∀ x rv, alook x loc = some rv → env.kindOf x = some .local → ∃ v, m x = some v ∧ RVR G h (Xp G F ad hp) ad rv v
  cell : ∀ x, env.kindOf x = some .cell ∨ env.kindOf x = some .free → ∃ c cv, env.cells.lookup x = some c ∧ h.IsCell c cv ∧ c ∈ F ∧ c ≠ env.locals ∧ ∀ rv, alook x loc = some rv → ∃ v, cv = some v ∧ RVR G h (Xp G F ad hp) ad rv v
  inj : ∀ x y c, env.cells.lookup x = some c → env.cells.lookup y = some c → x = y
  locF : env.locals ∈ F

theorem nsAt0 {a : Addr} {m : Str → Option Value} (n : h.Ns a m) (e : ∀ o, h.get? a = some o → h'.get? a = some o) : h'.Ns a m := by
  obtain ⟨o, es, ep, q, r⟩ := n
  exact ⟨o, es, ep, e o q, r⟩
theorem cellAt0 {c : Addr} {v : Option Value} (n : h.IsCell c v) (e : ∀ o, h.get? c = some o → h'.get? c = some o) : h'.IsCell c v := by
  obtain ⟨o, q, r⟩ := n
  exact ⟨o, e o q, r⟩
/-- a frame is kept where its own objects are kept and values stay -/
theorem FRel.keepF {env : Env} {sc : Sc} {loc : Loc} {F' : List Addr} (R : FRel G h F ad hp env sc loc) (hF : ∀ b ∈ F, b ∈ F') (k : ∀ b ∈ F, ∀ o, h.get? b = some o → h'.get? b = some o) (st : ∀ rv v, RVR G h (Xp G F ad hp) ad rv v → RVR G h' (Xp G F' ad' hp') ad' rv v) : FRel G h' F' ad' hp' env sc loc := by
  obtain ⟨m, n, q⟩ := R.ns
  refine ⟨R.kind, R.glob, R.bltn, R.tyl, R.tyc, R.tyf, R.tyg, R.nodbg, R.kinds, ⟨m, nsAt0 n (k _ R.locF), fun y rv e l => ?_⟩, fun y l => ?_, R.inj, hF _ R.locF⟩
  · obtain ⟨v, e1, e2⟩ := q y rv e l
    exact ⟨v, e1, st _ _ e2⟩
  · obtain ⟨c, cv, e1, e2, e3, e4, e5⟩ := R.cell y l
    refine ⟨c, cv, e1, cellAt0 e2 (k _ e3), hF _ e3, e4, fun rv e => ?_⟩
    obtain ⟨v, e6, e7⟩ := e5 rv e
    exact ⟨v, e6, st _ _ e7⟩
/-- an address of a frame is not changed by a step that does not write the frames -/
theorem Go.frameAt (x : Go G [] F ad hp h ad' hp' h') (H : HR G h F ad hp) {b : Addr} (hb : b ∈ F) {o : Obj} (e : h.get? b = some o) : h'.get? b = some o :=
  (x.keep b o e (fun z => (H.lo b z).2.2 hb) (fun z => nomatch z)).elim id fun f => absurd (.inr (.inl hb)) f.1
theorem nil_sub {α : Type} {P : α → Prop} : ∀ b ∈ ([] : List α), P b := fun _ q => nomatch q
theorem FRel.go {env : Env} {sc : Sc} {loc : Loc} (R : FRel G h F ad hp env sc loc) (H : HR G h F ad hp) (x : Go G [] F ad hp h ad' hp' h') : FRel G h' F ad' hp' env sc loc :=
  R.keepF (fun _ q => q) (fun b hb o e => x.frameAt H hb e) fun rv v r => r.go x nil_sub
end
end Mine
end
section
open PySem PySem.W PyProof.Rows PySem.Calls
namespace Mine

theorem nth_eq {α : Type} : ∀ (l : List α) (i : Nat), nth l i = l[i]? := fun l => by
  induction l with
  | nil => exact fun i => by cases i <;> exact rfl
  | cons x l ih =>
    intro i
    cases i with
    | zero => exact rfl
    | succ i => exact ih i
theorem nset_eq {α : Type} : ∀ (l : List α) (i : Nat) (y : α), nset l i y = l.set i y := fun l => by
  induction l with
  | nil => exact fun i y => by cases i <;> exact rfl
  | cons x l ih =>
    intro i y
    cases i with
    | zero => exact rfl
    | succ i => exact congrArg (x :: ·) (ih i y)
theorem nth_snoc {α : Type} {l : List α} {x : α} : nth (l ++ [x]) l.length = some x := by rw [nth_eq]; simp
theorem nth_app {α : Type} {l r : List α} {i : Nat} {y : α} (e : nth l i = some y) : nth (l ++ r) i = some y := by
  rw [nth_eq] at e ⊢
  rw [List.getElem?_append_left (List.getElem?_eq_some_iff.mp e).1]; exact e
theorem nth_snoc_inv {α : Type} : ∀ {l : List α} {x y : α} {i : Nat}, nth (l ++ [x]) i = some y → nth l i = some y ∨ (i = l.length ∧ y = x) := fun {l} => by
  induction l with
  | nil =>
    intro x y i e
    cases i with
    | zero => exact .inr ⟨rfl, (Option.some.inj e).symm⟩
    | succ i => cases i <;> exact nn e
  | cons z l ih =>
    intro x y i e
    cases i with
    | zero => exact .inl e
    | succ i => exact (ih (i := i) e).imp id fun q => ⟨congrArg (· + 1) q.1, q.2⟩
theorem nth_lt {α : Type} {l : List α} {i : Nat} {y : α} (e : nth l i = some y) : i < l.length := by
  rw [nth_eq] at e; exact (List.getElem?_eq_some_iff.mp e).1
theorem nth_of_lt {α : Type} {l : List α} {i : Nat} (z : i < l.length) : ∃ y, nth l i = some y := ⟨l[i], by rw [nth_eq]; exact List.getElem?_eq_getElem z⟩
theorem nth_nset_same {α : Type} {l : List α} {i : Nat} {x y : α} (e : nth l i = some x) : nth (nset l i y) i = some y := by
  rw [nth_eq, nset_eq]; simp [nth_lt e]
theorem nth_nset_other {α : Type} {l : List α} {i j : Nat} {y : α} (z : i ≠ j) : nth (nset l i y) j = nth l j := by
  rw [nth_eq, nset_eq, nth_eq]; simp [z]
theorem len_nset {α : Type} {l : List α} {i : Nat} {y : α} : (nset l i y).length = l.length := by rw [nset_eq]; simp

section
variable {G : Gnd} {W F : List Addr} {ad ad' ad'' : Ad} {hp hp' hp'' : Hp} {h h' h'' : Heap}

theorem HR.adAt (H : HR G h F ad hp) {i : Nat} {o : AO} (e : nth hp i = some o) : ∃ p, nth ad i = some p := nth_of_lt (by rw [H.len]; exact nth_lt e)
theorem HR.fresh (H : HR G h F ad hp) {b : Nat} (z : h.objs.size ≤ b) : ¬ Xp G F ad hp b := fun q =>
  q.elim (fun q => Nat.not_lt.mpr (Nat.le_trans H.size z) q) fun q => q.elim (fun q => Nat.not_lt.mpr z (H.fr b q).2) fun q => Nat.not_lt.mpr z (H.lo b q).2.1
theorem InstR.stay {X X' : Addr → Prop} (S : Stay G h h' X X') (E : ∀ i p, nth ad i = some p → nth ad' i = some p) {p : Addr × Addr} {k i t : RV} {D : VD} (kp : ∀ b ∈ [p.1, p.2], ∀ ob, h.get? b = some ob → h'.get? b = some ob) (r : InstR G h X ad p k i t D) : InstR G h' X' ad' p k i t D :=
  ⟨kp _ (.head _) _ r.e, kp _ (.tail _ (.head _)) _ r.e', r.rk.stay S E, r.ri.stay S E, r.ra.stay S E⟩
theorem OR.stay {X X' : Addr → Prop} (S : Stay G h h' X X') (E : ∀ i p, nth ad i = some p → nth ad' i = some p) {p : Addr × Addr} {o : AO} (k : ∀ b ∈ ownsO p o, ∀ ob, h.get? b = some ob → h'.get? b = some ob) (r : OR G h X ad p o) : OR G h' X' ad' p o := by
  cases o with
  | lst l =>
    obtain ⟨vs, n, e, r⟩ := r
    exact ⟨vs, n, k _ (.head _) _ e, RVRs.stay S E r⟩
  | dct l =>
    obtain ⟨es, n, e, r, nd⟩ := r
    exact ⟨es, n, k _ (.head _) _ e, RVRd.stay S E r, nd⟩
  | inst x y z => exact Exists.elim r fun D r => ⟨D, r.stay S E k⟩
  | well l W =>
    obtain ⟨W0, vs, n, e, r⟩ := r
    exact ⟨W0, vs, n, k _ (.head _) _ e, r⟩
  | dead => exact trivial

theorem HR.ofGo (H : HR G h F ad hp) (g : Go G [] F ad hp h ad hp h') (k : ∀ b o, Own ad hp b → h.get? b = some o → h'.get? b = some o) : HR G h' F ad hp := by
  refine ⟨fun b o e => ?_, Nat.le_trans H.size g.size, H.len, fun i o p e ep => OR.stay (g.stay nil_sub) (fun _ _ z => z) (fun b hb ob eb => k b ob ⟨i, p, o, ep, e, hb⟩ eb) (H.obj i o p e ep), H.nd, fun b q => ?_, fun b q => ?_⟩
  · have lt : @LT.lt Nat _ b G.h0.objs.size := Heap.lt_size e
    exact (g.keep b o (H.base b o e) (fun q => Nat.not_lt.mpr (H.lo b q).1 lt) (fun z => nomatch z)).elim id fun q => absurd (.inl lt) q.1
  · have := H.lo b q; exact ⟨this.1, Nat.lt_of_lt_of_le this.2.1 g.size, this.2.2⟩
  · have := H.fr b q; exact ⟨this.1, Nat.lt_of_lt_of_le this.2 g.size⟩
theorem Go.ofKeep (k : ∀ b o, h.get? b = some o → h'.get? b = some o) (z : h.objs.size ≤ h'.objs.size) : Go G W F ad hp h ad hp h' :=
  ⟨z, fun _ _ e => e, fun _ e => .inl e, fun b o e _ _ => .inl (k b o e)⟩
theorem HR.keep (H : HR G h F ad hp) (k : ∀ b o, h.get? b = some o → h'.get? b = some o) (z : h.objs.size ≤ h'.objs.size) : HR G h' F ad hp := H.ofGo (Go.ofKeep k z) fun b o _ e => k b o e
theorem push_keep {o : Obj} : ∀ b ob, h.get? b = some ob → (h.push o).get? b = some ob := fun _ _ e => Heap.get?_push_of_some o e
theorem push_size {o : Obj} : h.objs.size ≤ (h.push o).objs.size := by rw [Heap.size_push]; exact Nat.le_succ _
theorem HR.push (H : HR G h F ad hp) {o : Obj} : HR G (h.push o) F ad hp := H.keep push_keep push_size
theorem Go.push {o : Obj} : Go G W F ad hp h ad hp (h.push o) := Go.ofKeep push_keep push_size

theorem own_snoc {p : Addr × Addr} {O : AO} (e : ad.length = hp.length) {b : Addr} (q : Own (ad ++ [p]) (hp ++ [O]) b) : Own ad hp b ∨ b ∈ ownsO p O := by
  obtain ⟨i, p', o', e1, e2, hb⟩ := q
  rcases nth_snoc_inv e1 with z1 | z1
  · rcases nth_snoc_inv e2 with z2 | z2
    · exact .inl ⟨i, p', o', z1, z2, hb⟩
    · exact absurd (nth_lt z1) (by rw [z2.1, e]; exact Nat.lt_irrefl _)
  · rcases nth_snoc_inv e2 with z2 | z2
    · exact absurd (nth_lt z2) (by rw [z1.1, e]; exact Nat.lt_irrefl _)
    · exact .inr (z1.2 ▸ z2.2 ▸ hb)
/-- who owns, in a list that is one longer -/
theorem nd_snoc {p : Addr × Addr} {O : AO} (l : ad.length = hp.length) {i : Nat} {q : Addr × Addr} {o : AO} (e1 : nth (ad ++ [p]) i = some q) (e2 : nth (hp ++ [O]) i = some o) : (nth ad i = some q ∧ nth hp i = some o) ∨ (i = hp.length ∧ q = p ∧ o = O) := by
  rcases nth_snoc_inv e1 with z1 | z1
  · rcases nth_snoc_inv e2 with z2 | z2
    · exact .inl ⟨z1, z2⟩
    · exact absurd (nth_lt z1) (by rw [z2.1, l]; exact Nat.lt_irrefl _)
  · rcases nth_snoc_inv e2 with z2 | z2
    · exact absurd (nth_lt z2) (by rw [z1.1, l]; exact Nat.lt_irrefl _)
    · exact .inr ⟨z2.1, z1.2, z2.2⟩
/-- the objects of a state that is one longer -/
theorem HR.snoc {p : Addr × Addr} {O : AO} {F' : List Addr} {X : Addr → Prop} (H : HR G h F' ad hp) (old : ∀ i o q, nth hp i = some o → nth ad i = some q → OR G h' X (ad ++ [p]) q o) (new : OR G h' X (ad ++ [p]) p O) (ap : ∀ b, Own ad hp b → b ∉ ownsO p O) :
    (∀ i o q, nth (hp ++ [O]) i = some o → nth (ad ++ [p]) i = some q → OR G h' X (ad ++ [p]) q o) ∧
    ∀ i j q q' o o' b, i ≠ j → nth (ad ++ [p]) i = some q → nth (ad ++ [p]) j = some q' → nth (hp ++ [O]) i = some o → nth (hp ++ [O]) j = some o' → b ∈ ownsO q o → b ∉ ownsO q' o' := by
  refine ⟨fun i o q e eq => ?_, fun i j q q' o o' b ij e1 e2 e3 e4 h1 h2 => ?_⟩
  · rcases nd_snoc H.len eq e with z | ⟨_, rfl, rfl⟩
    · exact old i o q z.2 z.1
    · exact new
  · rcases nd_snoc H.len e1 e3 with z | z
    · rcases nd_snoc H.len e2 e4 with y | y
      · exact H.nd i j _ _ _ _ b ij z.1 y.1 z.2 y.2 h1 h2
      · rw [y.2.1, y.2.2] at h2
        exact ap b ⟨i, q, o, z.1, z.2, h1⟩ h2
    · rcases nd_snoc H.len e2 e4 with y | y
      · rw [z.2.1, z.2.2] at h1
        exact ap b ⟨j, q', o', y.1, y.2, h2⟩ h1
      · exact ij (z.1.trans y.1.symm)
theorem own_app {p : Addr × Addr} {O : AO} {b : Addr} (q : Own ad hp b) : Own (ad ++ [p]) (hp ++ [O]) b := by
  obtain ⟨i, p', o', e1, e2, hb⟩ := q
  exact ⟨i, p', o', nth_app e1, nth_app e2, hb⟩
theorem Go.add (H : HR G h F ad hp) (k : ∀ b o, h.get? b = some o → h'.get? b = some o) (z : h.objs.size ≤ h'.objs.size) {p : Addr × Addr} {O : AO} (hO : ∀ b : Nat, b ∈ ownsO p O → h.objs.size ≤ b) : Go G W F ad hp h (ad ++ [p]) (hp ++ [O]) h' :=
  ⟨z, fun _ _ e => nth_app e, fun b q => (own_snoc H.len q).imp id (hO b), fun b o e _ _ => .inl (k b o e)⟩
theorem HR.add (H : HR G h F ad hp) (k : ∀ b o, h.get? b = some o → h'.get? b = some o) (z : h.objs.size ≤ h'.objs.size) {p : Addr × Addr} {O : AO} (hO : ∀ b : Nat, b ∈ ownsO p O → h.objs.size ≤ b ∧ b < h'.objs.size)
    (r : OR G h' (Xp G F (ad ++ [p]) (hp ++ [O])) (ad ++ [p]) p O) : HR G h' F (ad ++ [p]) (hp ++ [O]) := by
  have g : Go G [] F ad hp h (ad ++ [p]) (hp ++ [O]) h' := Go.add H k z fun b hb => (hO b hb).1
  have S := g.stay nil_sub
  have q := H.snoc (fun i o q z1 z2 => OR.stay S g.ext (fun b _ ob eb => k b ob eb) (H.obj i o q z1 z2)) r fun b ob hb => Nat.not_lt.mpr (hO b hb).1 (H.lo b ob).2.1
  refine ⟨fun b o e => k b o (H.base b o e), Nat.le_trans H.size z, by rw [List.length_append, List.length_append, H.len]; rfl, q.1, q.2, fun b q => ?_, fun b q => ?_⟩
  · rcases own_snoc H.len q with q | q
    · have := H.lo b q; exact ⟨this.1, Nat.lt_of_lt_of_le this.2.1 z, this.2.2⟩
    · have := hO b q
      exact ⟨Nat.le_trans H.size this.1, this.2, fun hf => Nat.not_lt.mpr this.1 (H.fr b hf).2⟩
  · have := H.fr b q; exact ⟨this.1, Nat.lt_of_lt_of_le this.2 z⟩

/-- what stands at a place after a change at i -/
theorem at_nset {i : Nat} {p : Addr × Addr} {o o' : AO} (ep : nth ad i = some p) (eo : nth hp i = some o) {j : Nat} {q : Addr × Addr} {o2 : AO} (e1 : nth ad j = some q) (e2 : nth (nset hp i o') j = some o2) : (j = i ∧ q = p ∧ o2 = o') ∨ (i ≠ j ∧ nth hp j = some o2) := by
  by_cases z : i = j
  · subst z
    exact .inl ⟨rfl, Option.some.inj (e1.symm.trans ep), Option.some.inj (e2.symm.trans (nth_nset_same eo))⟩
  · exact .inr ⟨z, (nth_nset_other z).symm.trans e2⟩
theorem own_back {i : Nat} {p : Addr × Addr} {o o' : AO} (ep : nth ad i = some p) (eo : nth hp i = some o) (ho : ∀ b ∈ ownsO p o', b ∈ ownsO p o) {j : Nat} {q : Addr × Addr} {o2 : AO} (e1 : nth ad j = some q) (e2 : nth (nset hp i o') j = some o2) : ∃ o3, nth hp j = some o3 ∧ ∀ b ∈ ownsO q o2, b ∈ ownsO q o3 := by
  rcases at_nset ep eo e1 e2 with ⟨rfl, rfl, rfl⟩ | z
  · exact ⟨o, eo, ho⟩
  · exact ⟨o2, z.2, fun _ z => z⟩
theorem own_nset {i : Nat} {p : Addr × Addr} {o o' : AO} (ep : nth ad i = some p) (eo : nth hp i = some o) (ho : ∀ b ∈ ownsO p o', b ∈ ownsO p o) {b : Addr} (q : Own ad (nset hp i o') b) : Own ad hp b := by
  obtain ⟨j, q', o2, e1, e2, hb⟩ := q
  obtain ⟨o3, e3, k⟩ := own_back ep eo ho e1 e2
  exact ⟨j, q', o3, e1, e3, k b hb⟩
theorem Go.upd {i : Nat} {p : Addr × Addr} {o o' : AO} (ep : nth ad i = some p) (eo : nth hp i = some o) (ho : ∀ b ∈ ownsO p o', b ∈ ownsO p o) (z : h.objs.size ≤ h'.objs.size)
    (k : ∀ b ob, b ∉ ownsO p o → h.get? b = some ob → h'.get? b = some ob) : Go G W F ad hp h ad (nset hp i o') h' :=
  ⟨z, fun _ _ e => e, fun b q => .inl (own_nset ep eo ho q), fun b ob e no _ => .inl (k b ob (fun q => no ⟨i, p, o, ep, eo, q⟩) e)⟩
theorem HR.upd (H : HR G h F ad hp) {i : Nat} {p : Addr × Addr} {o o' : AO} (ep : nth ad i = some p) (eo : nth hp i = some o) (ho : ∀ b ∈ ownsO p o', b ∈ ownsO p o) (z : h.objs.size ≤ h'.objs.size)
    (k : ∀ b ob, b ∉ ownsO p o → h.get? b = some ob → h'.get? b = some ob) (r : OR G h' (Xp G F ad (nset hp i o')) ad p o') : HR G h' F ad (nset hp i o') := by
  have S := (Go.upd (G := G) (W := []) (F := F) ep eo ho z k).stay nil_sub
  refine ⟨fun b ob e => k b ob (fun q => Nat.not_lt.mpr (H.lo b ⟨i, p, o, ep, eo, q⟩).1 (Heap.lt_size e)) (H.base b ob e), Nat.le_trans H.size z, by rw [len_nset]; exact H.len, fun j o2 q e eq => ?_, fun j1 j2 q q' o1 o2 b ij e1 e2 e3 e4 h1 h2 => ?_, fun b q => ?_, fun b q => ?_⟩
  · rcases at_nset ep eo eq e with ⟨rfl, rfl, rfl⟩ | y
    · exact r
    · exact OR.stay S (fun _ _ e => e) (fun b hb ob eb => k b ob (fun q' => H.nd i j p q o o2 b y.1 ep eq eo y.2 q' hb) eb) (H.obj j o2 q y.2 eq)
  · obtain ⟨o3, e5, k5⟩ := own_back ep eo ho e1 e3
    obtain ⟨o4, e6, k6⟩ := own_back ep eo ho e2 e4
    exact H.nd j1 j2 q q' o3 o4 b ij e1 e2 e5 e6 (k5 b h1) (k6 b h2)
  · have := H.lo b (own_nset ep eo ho q); exact ⟨this.1, Nat.lt_of_lt_of_le this.2.1 z, this.2.2⟩
  · have := H.fr b q; exact ⟨this.1, Nat.lt_of_lt_of_le this.2 z⟩

theorem allA_cons {x : RV} {l : List RV} {as : List AV} (e : allA (x :: l) = some as) : ∃ v r, x = .a v ∧ allA l = some r ∧ as = v :: r :=
  bs e fun v e1 e => ms (P := fun as => ∃ v r, x = .a v ∧ allA l = some r ∧ as = v :: r) e fun r e2 => ⟨v, r, rAE (P := fun x => x = .a v) e1 rfl, e2, rfl⟩
theorem RVRs.ofA {X : Addr → Prop} {l : List AV} {vs : List Value} (r : ARs G h X l vs) : RVRs G h X ad (l.map RV.a) vs := All2.map r
theorem RVRs.toA {X : Addr → Prop} : ∀ {l : List RV} {vs : List Value} {as : List AV}, RVRs G h X ad l vs → allA l = some as → ARs G h X as vs := fun {l} => by
  induction l with
  | nil =>
    intro vs as r e
    exact All2.nilE (P := fun vs => ARs G h X as vs) r (si (P := fun as => ARs G h X as []) e trivial)
  | cons x l ih =>
    intro vs as r e
    obtain ⟨v, q, rfl, e1, rfl⟩ := allA_cons e
    exact All2.consE (P := fun vs => ARs G h X (v :: q) vs) r fun y m h hs => ⟨h, ih hs e1⟩
end
end Mine
end
section
open PySem PySem.W PyProof.Rows PySem.Calls
namespace Mine

theorem lbeq_eq : ∀ {a b : List Nat}, lbeq a b = true → a = b := fun {a} => by
  induction a with
  | nil =>
    intro b e
    cases b with
    | nil => exact rfl
    | cons _ _ => exact ft e
  | cons x xs ih =>
    intro b e
    cases b with
    | nil => exact ft e
    | cons y ys =>
      have e := Bool.and_eq_true_iff.mp e
      rw [Nat.eq_of_beq_eq_true e.1, ih e.2]
theorem lbeq_self : ∀ {a : List Nat}, lbeq a a = true := fun {a} => by
  induction a with
  | nil => exact rfl
  | cons x xs ih => exact Bool.and_eq_true_iff.mpr ⟨Nat.beq_refl x, ih⟩
theorem lbeq_iff {a b : List Nat} : lbeq a b = true ↔ a = b := ⟨lbeq_eq, fun e => e ▸ lbeq_self⟩
theorem str_ext {a b : Str} (e : a.cps.toList = b.cps.toList) : a = b := by
  cases a; cases b; simp only [Str.mk.injEq]; exact Array.ext' e
theorem seq_iff {a b : Str} : seq a b = true ↔ a = b := ⟨fun e => str_ext (lbeq_eq (Bool.and_eq_true_iff.mp e).2), fun e => e ▸ Bool.and_eq_true_iff.mpr ⟨Nat.beq_refl _, lbeq_self⟩⟩
theorem seq_false {a b : Str} : seq a b = false ↔ a ≠ b := by
  rw [← Bool.not_eq_true, seq_iff]
theorem isS_true {n : Nat} {x f : Str} (h : isS n x f = true) : f = x := str_ext (lbeq_eq (Bool.and_eq_true_iff.mp h).2)

/-- what a step that makes no owned object hands on -/
noncomputable def FQ (G : Gnd) (s : Shared) (Q : Value → Shared → Prop) (X : Addr → Prop) (z : AV) : Prop :=
  ∀ h' tk v, (∀ b o, s.heap.get? b = some o → h'.get? b = some o) → s.heap.objs.size ≤ h'.objs.size → AR G h' X z v → Q v { s with heap := h', toks := tk }
noncomputable def PQ (G : Gnd) (s : Shared) (Q : Value → Shared → Prop) (F : List Addr) (ad : Ad) (hp : Hp) (rv : RV) (hp' : Hp) : Prop :=
  ∀ ad' h' tk v, HR G h' F ad' hp' → RVR G h' (Xp G F ad' hp') ad' rv v → Go G [] F ad hp s.heap ad' hp' h' → Q v { s with heap := h', toks := tk }
theorem PQ.fq {G : Gnd} {s : Shared} {Q : Value → Shared → Prop} {F : List Addr} {ad : Ad} {hp : Hp} {z : AV} (p : PQ G s Q F ad hp (.a z) hp) (H : HR G s.heap F ad hp) : FQ G s Q (Xp G F ad hp) z :=
  fun h' tk v k sz r => p ad h' tk v (H.keep k sz) r (Go.ofKeep k sz)

noncomputable def Room (A : Around) (n : Nat) : Prop := A.handled = none ∧ A.depth + 3 * n + 10 < recursionLimit ∧ A.units + 16 * n + 100 < cLine
theorem Room.less {A : Around} {n m : Nat} (r : Room A n) (h : m ≤ n) : Room A m :=
  ⟨r.1, Nat.lt_of_le_of_lt (Nat.add_le_add_right (Nat.add_le_add_left (Nat.mul_le_mul_left 3 h) _) _) r.2.1, Nat.lt_of_le_of_lt (Nat.add_le_add_right (Nat.add_le_add_left (Nat.mul_le_mul_left 16 h) _) _) r.2.2⟩

section
variable {G : Gnd} {A : Around} {E : Value → Shared → Prop} {s : Shared} {X : Addr → Prop} {Q : Value → Shared → Prop}

theorem FQ.here {z : AV} {v : Value} (q : FQ G s Q X z) (r : AR G s.heap X z v) (tk : Nat) : Q v { s with toks := tk } := q s.heap tk v (fun _ _ e => e) (Nat.le_refl _) r
theorem FQ.same {z : AV} {v : Value} (q : FQ G s Q X z) (r : AR G s.heap X z v) : Q v s := q s.heap s.toks v (fun _ _ e => e) (Nat.le_refl _) r
theorem small_lt {i : Int} (h : small i = true) : i.natAbs < 2 ^ 62 := by
  unfold small at h
  exact Nat.le_of_ble_eq_true h
theorem small_bits {i : Int} (h : small i = true) : Builtin.Int.intBits i ≤ 64 := by
  have := small_lt h
  exact intBits_le_64 (by lia) (by lia)
theorem small_mul {a b : Int} (h : small a = true) : IntMulOk a b := by
  have := small_bits h
  unfold IntMulOk
  have e : decide (Builtin.Int.intBits a > shortFactorBits) = false := decide_eq_false (Nat.not_lt.mpr (Nat.le_trans this (by decide)))
  rw [e]; exact fun z => ft z
theorem small_pylong {a b : Int} (h : small b = true) : Builtin.divisionGoesByPylong a b = false := by
  refine PyProof.noPylong_of_log2 ?_
  by_cases z : b.natAbs = 0
  · rw [z]; decide
  · exact Nat.lt_trans ((Nat.log2_lt z).mpr (small_lt h)) (by decide)

theorem foldl_arr {α : Type} (l : List (Array α)) (a : Array α) : (l.foldl (fun x y => x ++ y) a).toList = a.toList ++ (l.map Array.toList).flatten := by
  induction l generalizing a with
  | nil => simp
  | cons x l ih => simp only [List.foldl_cons, ih, List.map_cons, List.flatten_cons, Array.toList_append, List.append_assoc]
theorem txt_mul {x : Str} {n : Int} (h : 0 ≤ n) : Txt.mul x n = ⟨((List.replicate n.toNat x.cps.toList).flatten).toArray⟩ := by
  apply str_ext
  unfold Txt.mul
  split
  · have : n.toNat = 0 := by (first | lia | omega)
    rw [this]; rfl
  · split
    · rename_i h1 h2
      rcases Bool.or_eq_true_iff.mp h2 with h2 | h2
      · have : n.toNat = 1 := by have := eq_of_beq h2; (first | lia | omega)
        rw [this]; simp
      · have e : x.cps.toList = [] := by
          have : x.cps.size = 0 := eq_of_beq h2
          exact List.eq_nil_of_length_eq_zero (by simpa using this)
        rw [e]; simp
    · show (List.foldl (fun x1 x2 => x1 ++ x2) #[] (List.replicate n.toNat x.cps)).toList = _
      rw [foldl_arr]; simp
theorem ARs.reps {h : Heap} {l : List AV} {vs : List Value} (r : ARs G h X l vs) : ∀ n : Nat, ARs G h X (List.replicate n l).flatten (List.replicate n vs).flatten
  | 0 => trivial
  | n + 1 => by rw [List.replicate_succ, List.replicate_succ, List.flatten_cons, List.flatten_cons]; exact All2.append r (ARs.reps r n)
theorem ARs.push {h : Heap} {o : Obj} {l : List AV} {vs : List Value} (r : ARs G h X l vs) : ARs G (h.push o) X l vs :=
  ARs.stay ⟨fun b ob e _ => .inl (Heap.get?_push_of_some _ e), fun _ _ _ x => x⟩ r
theorem AR.push {h : Heap} {o : Obj} {x : AV} {v : Value} (r : AR G h X x v) : AR G (h.push o) X x v :=
  r.stay ⟨fun b ob e _ => .inl (Heap.get?_push_of_some _ e), fun _ _ _ x => x⟩
theorem lst_new {h : Heap} {l : List AV} {vs : List Value} {n : Nat} (r : ARs G h X l vs) (fr : ∀ b : Nat, h.objs.size ≤ b → ¬ X b) : AR G (h.push (listOf vs.toArray n)) X (.lst l) (.ref h.objs.size) :=
  .lst (Heap.get?_push_size _ rfl) (fr _ (Nat.le_refl _)) (ARs.push r)
theorem tup_new {h : Heap} {l : List AV} {vs : List Value} {n : Nat} (r : ARs G h X l vs) (fr : ∀ b : Nat, h.objs.size ≤ b → ¬ X b) : AR G (h.push { cls := .type "tuple", data := .seq vs.toArray n }) X (.tup l) (.ref h.objs.size) :=
  .tup (Heap.get?_push_size _ rfl) (fr _ (Nat.le_refl _)) (ARs.push r)
theorem FQ.push {z : AV} {o : Obj} {v : Value} (q : FQ G s Q X z) (r : AR G (s.heap.push o) X z v) (tk : Nat) : Q v { s with heap := s.heap.push o, toks := tk } :=
  q _ tk v push_keep push_size r
theorem fr_self {h : Heap} {L : Addr} {m : Str → Option Value} (n : h.Ns L m) : Fr default L h m := ⟨n, fun b o e => (nomatch (show (default : Heap).get? b = some o from e)), Nat.zero_le _⟩

theorem mulL {l : Addr} {items : Array Value} {k : Nat} {x : Int} {u : Tok} (hl : s.heap.get? l = some (listOf items k)) (hlo : -(2 ^ 63 : Int) ≤ x) (hhi : x < 2 ^ 63) (hsz : items.size * x.toNat ≤ sizeLine)
    (h : Q (.ref s.heap.objs.size) { s with heap := s.heap.push (listOf (List.foldl (fun x1 x2 => x1 ++ x2) #[] (List.replicate (if items.isEmpty = true then 0 else x.toNat) items)) 0) }) :
    wpAny (model G.prog G.w) A (binaryOp .Mult (.ref l) (.int x u)) Q E s := by
  have tl : s.TypeIs (.ref l) "list" := ⟨_, hl, rfl⟩
  have big : Builtin.List.listTooLong (items.size * x.toNat) = false := by simp [Builtin.List.listTooLong]; (first | lia | omega)
  have hz : items.size * x.toNat ≤ 16777216 := by rw [sizeLine_eq] at hsz; exact hsz
  refine wpAny_binaryOp_repeat_ref (T := "list") (U := "int") (by decide) tl (fun s' => typeIs_int s' x u) noFill_list_mul F.fills_int_mul F.slot_int_rmul repeat_list F.slot_int_index.lookup ?_
  refine call_meets F.slot_int_rmul (typeIs_int s x u) F.entry_int_rmul (F.args_int_rmul_2 _ _) (int___rmul___int_list x u l items k) ⟨hl, rfl, tl, ?_⟩
  refine call_meets F.slot_list_mul tl F.entry_list_mul (F.args_list_mul_2 _ _) (AutoListH.list___mul___list_int_3 l items k x u ?_ ?_ ?_) ⟨hl, h⟩
  · simp [Builtin.List.listFitsIndex]; (first | lia | omega)
  · (first | lia | omega)
  · simp [big]

@[elab_as_elim] theorem binI_E {P : Value → Value → Prop} {f : Int → Int → Option AV} {x y z : AV} {v w : Value} {h : Heap} (e : binI f x y = some z) (rx : AR G h X x v) (ry : AR G h X y w) (k : ∀ i j t u, f i j = some z → P (.int i t) (.int j u)) : P v w :=
  bs e fun _ e1 e => bs e fun _ e2 e => by
    refine rx.ofInt e1 fun t => ?_
    refine ry.ofInt e2 fun u => ?_
    exact k _ _ t u e
theorem ne_of_pos {y : Int} (h : decide (0 < y) = true) : y ≠ 0 := Int.ne_of_gt (of_decide_eq_true h)
theorem txt_fit {x : Str} {y : Int} (h1 : x.length ≤ 100) (h2 : 0 ≤ y) (h3 : y ≤ 100) : x.length * y.toNat ≤ 100 * 100 := Nat.mul_le_mul h1 (Int.toNat_le.mpr h3)
theorem mulS_sound {x y z : AV} {v w : Value} (e : mulS x y = some z) (rx : AR G s.heap X x v) (ry : AR G s.heap X y w) (q : FQ G s Q X z) : wpAny (model G.prog G.w) A (binaryOp .Mult v w) Q E s :=
  bs e fun x1 e1 e => bs e fun y1 e2 e => gs e fun h1 e => gs e fun h2 e => gs e fun h3 e => by
    have h1 := Nat.le_of_ble_eq_true h1
    have h2 := of_decide_eq_true h2
    have h3 := of_decide_eq_true h3
    refine rx.ofStr e1 fun t => ry.ofInt e2 fun u => SB.mul ⟨?_, fun h4 _ h5 => ?_, fun h4 _ => ?_⟩ fun t' k => ?_
    · simp only [Bool.or_eq_false_iff, decide_eq_false_iff_not]; (first | lia | omega)
    · have h6 : (x1.length : Int) ≤ 100 := Int.ofNat_le.mpr h1
      have h7 : (x1.length : Int) * y1 ≤ 100 * 100 := Int.mul_le_mul h6 h3 h2 (by decide)
      have h8 := Int.le_ediv_of_mul_le (by (first | lia | omega) : (0 : Int) < y1) (Int.le_trans h7 (by decide : (100 * 100 : Int) ≤ 2 ^ 63 - 1))
      (first | lia | omega)
    · have h7 := txt_fit h1 h2 h3
      exact decide_eq_false (by rw [sizeLine_eq]; (first | lia | omega))
    · rw [txt_mul h2]
      exact si (P := fun z => FQ G s Q X z → _) e (fun q => q.here (.str _ _) _) q
theorem reps_key {vs : List Value} {y : Int} : (List.foldl (fun x1 x2 => x1 ++ x2) #[] (List.replicate (if vs.toArray.isEmpty = true then 0 else y.toNat) vs.toArray)) = ((List.replicate y.toNat vs).flatten).toArray := by
  apply Array.ext'
  rw [foldl_arr]
  cases vs with
  | nil => simp
  | cons v vs => simp
theorem mulA_sound {x y z : AV} {v w : Value} (e : mulA x y = some z) (rx : AR G s.heap X x v) (ry : AR G s.heap X y w) (fr : ∀ b : Nat, s.heap.objs.size ≤ b → ¬ X b) (q : FQ G s Q X z) : wpAny (model G.prog G.w) A (binaryOp .Mult v w) Q E s :=
  bs e fun x1 e1 e => bs e fun y1 e2 e => gs e fun h1 e => gs e fun h2 e => gs e fun h3 e => by
    have h1 := of_decide_eq_true h1
    have h2 := of_decide_eq_true h2
    have h3 := Nat.le_of_ble_eq_true h3
    refine rx.ofLst e1 fun a vs n L => ry.ofInt e2 fun u => ?_
    have hz : vs.length * y1.toNat ≤ 100 * 100 := Nat.mul_le_mul (L.r.len ▸ h3) (Int.toNat_le.mpr h2)
    refine mulL L.e (Int.le_trans (by decide) h1) (Int.lt_of_le_of_lt h2 (by decide)) (Nat.le_trans (by rw [List.size_toArray]; exact hz) (by rw [sizeLine_eq]; decide)) ?_
    rw [reps_key]
    exact si (P := fun z => FQ G s Q X z → _) e (fun q => q.push (lst_new (ARs.reps L.r _) fr) s.toks) q
theorem addS_sound {x y z : AV} {v w : Value} (e : addS x y = some z) (rx : AR G s.heap X x v) (ry : AR G s.heap X y w) (q : FQ G s Q X z) : wpAny (model G.prog G.w) A (binaryOp .Add v w) Q E s :=
  bs e fun x1 e1 e => bs e fun y1 e2 e => gs e fun h1 e => gs e fun h2 e => by
    refine rx.ofStr e1 fun t => ry.ofStr e2 fun u => ?_
    have h := Nat.add_le_add (Nat.le_of_ble_eq_true h1) (Nat.le_of_ble_eq_true h2)
    exact PyProof.Rows.add_str (fun t' tk => si (P := fun z => FQ G s Q X z → _) e (fun q => q.here (.str _ _) _) q) (Nat.le_trans h (by rw [sizeLine_eq]; decide))
theorem FQ.at {z z' : AV} (q : FQ G s Q X z) (e : some z' = some z) : FQ G s Q X z' := si (P := fun z => FQ G s Q X z → FQ G s Q X z') e id q
theorem binop_sound {op : Operator} {x y z : AV} {v w : Value} (e : binop op x y = some z) (rx : AR G s.heap X x v) (ry : AR G s.heap X y w) (fr : ∀ b : Nat, s.heap.objs.size ≤ b → ¬ X b) (q : FQ G s Q X z) :
    wpAny (model G.prog G.w) A (binaryOp op v w) Q E s := by
  cases op with
  | Add => exact os e (fun e => binI_E e rx ry fun i j t u e => PyProof.Rows.add_int ((q.at e).here (.int _ _) _)) fun e => addS_sound e rx ry q
  | Sub => exact binI_E e rx ry fun i j t u e => PyProof.Rows.sub_int ((q.at e).here (.int _ _) _)
  | Mult => exact os e (fun e => binI_E e rx ry fun i j t u e => gs e fun h1 e => gs e fun _ e => PyProof.Rows.mul_int ((q.at e).here (.int _ _) _) (small_mul h1)) fun e => os e (fun e => mulS_sound e rx ry q) fun e => mulA_sound e rx ry fr q
  | FloorDiv => exact binI_E e rx ry fun i j t u e => gs e fun h1 e => gs e fun h2 e => PyProof.Rows.floordiv_int (ne_of_pos h2) ((q.at e).here (.int _ _) _) (.inl (small_pylong h1))
  | Mod => exact binI_E e rx ry fun i j t u e => gs e fun h1 e => gs e fun h2 e => PyProof.Rows.mod_int' (ne_of_pos h2) ((q.at e).here (.int _ _) _)
  | Pow =>
    exact binI_E e rx ry fun i j t u e => gs e fun h1 e => gs e fun h2 e => gs e fun h3 e => by
      have h1 := of_decide_eq_true h1
      subst h1
      have h3 := of_decide_eq_true h3
      exact PyProof.Rows.pow_int_small (of_decide_eq_true h2) (by (first | lia | omega)) (by decide) ((q.at e).here (.int _ _) _)
  | _ => exact nn e
end
end Mine
end
section
open PySem PySem.W PyProof.Rows PySem.Calls
namespace Mine

/-- what the whole asks of its parameters -/
structure HV (G : Gnd) : Prop where
  eq : G.val = val
  lay : ∀ c d, lay 1 (G.val c d) = true
  big : 2 ≤ G.h0.objs.size

noncomputable def toPy (G : Gnd) : Nat → AV → PyData
  | n, .tup l => match n with
    | n + 1 => .tuple (l.map (toPy G n))
    | 0 => .none
  | n, .lst l => match n with
    | n + 1 => .list (l.map (toPy G n))
    | 0 => .none
  | n, .item c d => match n with
    | n + 1 => toPy G n (G.val c d)
    | 0 => .none
  | _, .none => .none
  | _, .bool b => .bool b
  | _, .int i => .int i
  | _, .str s => .str s
  | _, .dct _ => .none
  | _, .vec _ _ _ => .none
  | _, .rng _ _ => .none
theorem sOk_iff : ∀ {l : List Nat}, sOk l = true → ∀ c ∈ l, c < 1114112 := fun {l} => by
  induction l with
  | nil => exact fun _ c h => nomatch h
  | cons c r ih =>
    intro h x hx
    have h := Bool.and_eq_true_iff.mp h
    rcases List.mem_cons.mp hx with rfl | hx
    · exact Nat.le_of_ble_eq_true h.1
    · exact ih h.2 x hx
theorem strOk_of {x : Str} (h : sOk x.cps.toList = true) : PyData.strOk x = true := by
  unfold PyData.strOk
  rw [Array.all_eq_true]
  intro i hi
  exact decide_eq_true (sOk_iff h _ (by simp))
theorem lay_l {n m : Nat} {l : List AV} (ih : ∀ x, lay n x = true → lay m x = true) (h : l.all (lay n) = true) : l.all (lay m) = true := List.all_eq_true.mpr fun x hx => ih x (List.all_eq_true.mp h x hx)
theorem lay0 {x : AV} (h : lay 0 x = true) : ∀ m, lay m x = true := fun m => by
  cases x with
  | tup l => exact ft h
  | lst l => exact ft h
  | item c d => exact ft h
  | dct l => exact ft h
  | vec a b c => exact ft h
  | rng a b => exact ft h
  | _ => cases m <;> exact h
theorem lay_up : ∀ {n m : Nat} {x : AV}, lay n x = true → n ≤ m → lay m x = true := fun {n} => by
  induction n with
  | zero => exact fun {m x} h _ => lay0 h m
  | succ n ih =>
    intro m x h z
    cases m with
    | zero => exact absurd z (Nat.not_succ_le_zero n)
    | succ m =>
      have z := Nat.le_of_succ_le_succ z
      cases x with
      | tup l => exact lay_l (l := l) (fun x q => ih q z) h
      | lst l => exact lay_l (l := l) (fun x q => ih q z) h
      | item c d => exact Nat.ble_eq_true_of_le (Nat.le_trans (Nat.le_of_ble_eq_true h) (Nat.succ_le_succ z))
      | _ => exact h

section
variable {G : Gnd} {h : Heap} {X : Addr → Prop}
theorem depthAll_le {n : Nat} : ∀ {l : List PyData}, (∀ d ∈ l, d.depth ≤ n) → PyData.depthAll l ≤ n
  | [], _ => Nat.zero_le _
  | x :: l, k => by
    unfold PyData.depthAll
    exact Nat.max_le.mpr ⟨k x (.head _), depthAll_le fun d hd => k d (.tail _ hd)⟩
theorem canLayAll {l : List PyData} (k : ∀ d ∈ l, d.canLay0 = true) : PyData.canLayAll0 l = true := by
  induction l with
  | nil => rfl
  | cons x l ih =>
    unfold PyData.canLayAll0
    rw [k x (.head _), ih fun d hd => k d (.tail _ hd)]; rfl
theorem reads_list {f : AV → PyData} : ∀ {l : List AV} {vs : List Value}, ARs G h X l vs → (∀ x ∈ l, ∀ v, AR G h X x v → ∃ as, Reads h v (f x) as) → ∃ as, ReadsAll h vs (l.map f) as := fun {l} => by
  induction l with
  | nil => exact fun {vs} r _ => All2.nilE (P := fun vs => ∃ as, ReadsAll h vs (([] : List AV).map f) as) r ⟨_, .nil⟩
  | cons x l ih =>
    exact fun {vs} r k => All2.consE (P := fun vs => ∃ as, ReadsAll h vs ((x :: l).map f) as) r fun v vs r rs => by
      obtain ⟨as, h1⟩ := k x (.head _) v r
      obtain ⟨bs, h2⟩ := ih rs fun y hy => k y (.tail _ hy)
      exact ⟨_, .cons h1 h2⟩
theorem leaf_reads {n : Nat} {x : AV} {v : Value} (q : lay 0 x = true) (r : AR G h X x v) : ∃ as, Reads h v (toPy G n x) as := by
  cases x with
  | none => exact r.noneE (by cases n <;> exact ⟨_, .none⟩)
  | bool b => exact r.boolE (by cases n <;> exact ⟨_, .bool b⟩)
  | int i => exact r.intE fun t => by cases n <;> exact ⟨_, .int i t⟩
  | str s => exact r.strE fun t => by cases n <;> exact ⟨_, .str s t⟩
  | _ => exact ft q
theorem lay_reads (hv : HV G) : ∀ (n : Nat) (x : AV) (v : Value), lay n x = true → AR G h X x v → ∃ as, Reads h v (toPy G n x) as := fun n => by
  induction n with
  | zero => exact fun x v q r => leaf_reads q r
  | succ n ih =>
    intro x v q r
    cases x with
    | tup l =>
      refine r.tupE fun a vs m T => ?_
      obtain ⟨as, z⟩ := reads_list (f := toPy G n) T.r fun x hx v => ih x v (List.all_eq_true.mp q x hx)
      exact ⟨_, .tuple T.e rfl rfl (by simpa using z)⟩
    | lst l =>
      refine r.lstE fun a vs m T => ?_
      obtain ⟨as, z⟩ := reads_list (f := toPy G n) T.r fun x hx v => ih x v (List.all_eq_true.mp q x hx)
      exact ⟨_, .list T.e rfl rfl (by simpa using z)⟩
    | item c d => exact ih _ v (lay_up (hv.lay c d) (Nat.le_of_succ_le_succ (Nat.le_of_ble_eq_true q))) r.inv.2
    | dct l => exact ft q
    | vec a b c => exact ft q
    | rng a b => exact ft q
    | _ => exact leaf_reads (by exact q) r
theorem leaf_shape {n : Nat} {x : AV} (q : lay 0 x = true) : (toPy G n x).canLay0 = true ∧ (toPy G n x).depth ≤ n := by
  cases x with
  | none => cases n <;> exact ⟨rfl, Nat.zero_le _⟩
  | bool b => cases n <;> exact ⟨rfl, Nat.zero_le _⟩
  | int i => cases n <;> exact ⟨rfl, Nat.zero_le _⟩
  | str s =>
    have := strOk_of (x := s) q
    cases n <;> exact ⟨this, Nat.zero_le _⟩
  | _ => exact ft q
theorem shape_l {n : Nat} {l : List AV} (k : ∀ x ∈ l, (toPy G n x).canLay0 = true ∧ (toPy G n x).depth ≤ n) : PyData.canLayAll0 (l.map (toPy G n)) = true ∧ PyData.depthAll (l.map (toPy G n)) ≤ n := by
  refine ⟨canLayAll fun d hd => ?_, depthAll_le fun d hd => ?_⟩
  · obtain ⟨x, hx, rfl⟩ := List.mem_map.mp hd; exact (k x hx).1
  · obtain ⟨x, hx, rfl⟩ := List.mem_map.mp hd; exact (k x hx).2
theorem lay_shape (hv : HV G) : ∀ (n : Nat) (x : AV), lay n x = true → (toPy G n x).canLay0 = true ∧ (toPy G n x).depth ≤ n := fun n => by
  induction n with
  | zero => exact fun x q => leaf_shape q
  | succ n ih =>
    intro x q
    cases x with
    | tup l =>
      have := shape_l fun x hx => ih x (List.all_eq_true.mp q x hx)
      exact ⟨this.1, Nat.succ_le_succ this.2⟩
    | lst l =>
      have := shape_l fun x hx => ih x (List.all_eq_true.mp q x hx)
      exact ⟨this.1, Nat.succ_le_succ this.2⟩
    | item c d =>
      have k := ih _ (lay_up (hv.lay c d) (Nat.le_of_succ_le_succ (Nat.le_of_ble_eq_true q)))
      exact ⟨k.1, Nat.le_succ_of_le k.2⟩
    | dct l => exact ft q
    | vec a b c => exact ft q
    | rng a b => exact ft q
    | _ => exact leaf_shape (by exact q)
theorem anyE {α : Type} {P : Prop} {o : Option α} {f : α → Bool} (e : o.any f = true) (k : ∀ a, o = some a → f a = true → P) : P := by
  cases o with
  | none => exact ft e
  | some a => exact k a rfl e
theorem itemE {P : AV → Prop} {v : AV} {c d : Nat} (e : aItem v = some (c, d)) (h : P (.item c d)) : P v := by
  cases v with
  | item x y => exact sp (P := fun a b => P (.item a b) → P (.item x y)) e id h
  | _ => exact nn e
theorem beq_eq {x : AV} : ∀ {y : AV}, AV.beq x y = true → x = y := fun {y} =>
  AV.rec (motive_1 := fun x => ∀ y, AV.beq x y = true → x = y) (motive_2 := fun l => ∀ m, AV.beqs l m = true → l = m) (motive_3 := fun _ => True) (motive_4 := fun _ => True)
    (fun y q => by
      cases y with
      | none => exact rfl
      | _ => exact ft q)
    (fun a y q => anyE q fun b e z => boolE e (congrArg _ (eq_of_beq z)))
    (fun a y q => anyE q fun b e z => intE e (congrArg _ (eq_of_beq z)))
    (fun a y q => anyE q fun b e z => strE e (congrArg _ (seq_iff.mp z)))
    (fun a ih y q => anyE q fun b e z => tupE e (congrArg _ (ih b z)))
    (fun a ih y q => anyE q fun b e z => lstE e (congrArg _ (ih b z)))
    (fun a _ y q => ft q) (fun a b c _ _ _ y q => ft q) (fun a b y q => ft q)
    (fun a b y q => anyE q fun p e z => itemE (c := p.1) (d := p.2) e (by rw [eq_of_beq (Bool.and_eq_true_iff.mp z).1, eq_of_beq (Bool.and_eq_true_iff.mp z).2]))
    (fun m q => by
      cases m with
      | nil => exact rfl
      | cons _ _ => exact ft q)
    (fun x xs h1 h2 m q => by
      cases m with
      | nil => exact ft q
      | cons y ys => rw [h1 y (Bool.and_eq_true_iff.mp q).1, h2 ys (Bool.and_eq_true_iff.mp q).2])
    trivial (fun _ _ _ _ => trivial) (fun _ _ _ => trivial) x y
theorem beqs_eq : ∀ {x y : List AV}, AV.beqs x y = true → x = y := fun {x} => by
  induction x with
  | nil =>
    intro m q
    cases m with
    | nil => exact rfl
    | cons _ _ => exact ft q
  | cons x xs ih =>
    intro m q
    cases m with
    | nil => exact ft q
    | cons y ys => rw [beq_eq (Bool.and_eq_true_iff.mp q).1, ih (Bool.and_eq_true_iff.mp q).2]
end
end Mine
end
section
open PySem PySem.W PyProof.Rows PySem.Calls
namespace Mine

section
variable {G : Gnd} {A : Around} {E : Value → Shared → Prop} {s : Shared} {X : Addr → Prop} {Q : Value → Shared → Prop} {h : Heap}

theorem eqv_str {y x : Str} : PyData.eqv (toPy G 1 (.str y)) (.str x) = (y == x) := rfl
theorem sin_any {x : Str} : ∀ {l : List AV} {b : Bool}, sin x l = some b → (l.map (toPy G 1)).any (fun y => PyData.eqv y (.str x)) = b := fun {l} => by
  induction l with
  | nil => exact fun {b} e => si (P := fun b => (([] : List AV).map (toPy G 1)).any (fun y => PyData.eqv y (.str x)) = b) e rfl
  | cons a r ih =>
    intro b e
    rw [List.map_cons, List.any_cons]
    cases a with
    | str y =>
      rw [eqv_str]
      refine cs (show cond (seq x y) (some true) (sin x r) = some b from e) (fun q e => ?_) fun q e => ?_
      · rw [seq_iff.mp q, beq_self_eq_true, Bool.true_or]; exact Option.some.inj e
      · rw [show (y == x) = false from beq_eq_false_iff_ne.mpr (Ne.symm (seq_false.mp q)), Bool.false_or]; exact ih e
    | none => exact ih e
    | _ => exact nn e
theorem nin_any : ∀ {l : List AV} {b : Bool}, nin l = some b → l.all (lay 1) = true ∧ (l.map (toPy G 1)).any (fun y => PyData.eqv y .none) = b := fun {l} => by
  induction l with
  | nil => exact fun {b} e => ⟨rfl, si (P := fun b => (([] : List AV).map (toPy G 1)).any (fun y => PyData.eqv y .none) = b) e rfl⟩
  | cons a r ih =>
    intro b e
    rw [List.map_cons, List.any_cons, List.all_cons]
    cases a with
    | int i => exact ⟨Bool.and_eq_true_iff.mpr ⟨rfl, (ih e).1⟩, (ih e).2⟩
    | str t => exact gs (show gd (sOk t.cps.toList) (nin r) = some b from e) fun q e => ⟨Bool.and_eq_true_iff.mpr ⟨q, (ih e).1⟩, (ih e).2⟩
    | _ => exact nn e

theorem key_is (x y : Str) (t : Tok) (v : Value) : Value.isStrOf x (kent G.w.params y t v).key = (y == x) := rfl
/-- what a dict of text keys gives -/
theorem find_all {α : Type} {R : α → Value → Prop} : ∀ {l : List (Str × α)} {es : List DictEntry}, All2 (KVr G R) l es → ∀ k : Str,
    (alook k l = none ∧ findBy Value.isStrOf es.toArray k = none) ∨ ∃ y v, alook k l = some y ∧ findBy Value.isStrOf es.toArray k = some v ∧ R y v := fun {l} => by
  induction l with
  | nil => exact fun {es} r k => All2.nilE (P := fun es => (alook k ([] : List (Str × α)) = none ∧ findBy Value.isStrOf es.toArray k = none) ∨ _) r (.inl ⟨rfl, rfl⟩)
  | cons p l ih =>
    intro es r k
    refine All2.consE (P := fun es => (alook k (p :: l) = none ∧ findBy Value.isStrOf es.toArray k = none) ∨ ∃ y v, alook k (p :: l) = some y ∧ findBy Value.isStrOf es.toArray k = some v ∧ R y v) r fun en es r rs => ?_
    obtain ⟨t, v, rfl, h⟩ := r
    have ih := ih rs k
    unfold findBy at ih ⊢
    rw [List.find?_toArray] at ih ⊢
    rw [List.find?_cons, key_is]
    show ((cond (seq k p.1) (some p.2) (alook k l)) = none ∧ _) ∨ ∃ y w, (cond (seq k p.1) (some p.2) (alook k l)) = some y ∧ _
    cases q : seq k p.1 with
    | true =>
      rw [← seq_iff.mp q, beq_self_eq_true]
      exact .inr ⟨p.2, v, rfl, rfl, h⟩
    | false =>
      rw [show (p.1 == k) = false from beq_eq_false_iff_ne.mpr (Ne.symm (seq_false.mp q))]
      exact ih
theorem find_ard {l : List (Str × AV)} {es : List DictEntry} (r : ARd G h X l es) (k : Str) : (alook k l = none ∧ findBy Value.isStrOf es.toArray k = none) ∨ ∃ y v, alook k l = some y ∧ findBy Value.isStrOf es.toArray k = some v ∧ AR G h X y v := find_all r k
theorem keys_all {α : Type} {R : α → Value → Prop} : ∀ {l : List (Str × α)} {es : List DictEntry}, All2 (KVr G R) l es → ∀ e ∈ es, ∃ x t, e.key = .str x t ∧ e.hash = PyData.keyHash G.w.params x := fun {l} => by
  induction l with
  | nil => exact fun {es} r => All2.nilE (P := fun es => ∀ e ∈ es, ∃ x t, e.key = .str x t ∧ e.hash = PyData.keyHash G.w.params x) r fun _ m => nomatch m
  | cons p l ih =>
    exact fun {es} r => All2.consE (P := fun es => ∀ e ∈ es, ∃ x t, e.key = .str x t ∧ e.hash = PyData.keyHash G.w.params x) r fun en es r rs e m => by
      rcases List.mem_cons.mp m with z | m
      · obtain ⟨t, v, q, _⟩ := r
        rw [z, q]; exact ⟨_, _, rfl, rfl⟩
      · exact ih rs e m
theorem mapOf_dict {a : Addr} {es : List DictEntry} {n : Nat} (e : h.get? a = some (dictOf es n)) (k : ∀ e ∈ es, ∃ x t, e.key = .str x t ∧ e.hash = PyData.keyHash G.w.params x) :
    h.MapOf (strKind G.prog G.w) a (fun k => findBy Value.isStrOf es.toArray k) :=
  ⟨_, es.toArray, n, e, ⟨rfl, rfl, rfl⟩, rfl, fun e he => by
    obtain ⟨x, t, e1, e2⟩ := k e (by simpa using he)
    exact ⟨x, by rw [e1]; exact strKind_is G.prog G.w x t, e2⟩, fun _ => rfl⟩
theorem not_sys {a : Addr} (sx : X sysModules) (x : ¬ X a) : (a == sysModules) = false := by
  cases q : a == sysModules with
  | false => rfl
  | true => rw [eq_of_beq q] at x; exact absurd sx x

theorem isNone_val {x : AV} {b : Bool} {v : Value} (r : AR G h X x v) (e : isNone? x = some b) : (v == .none) = b := by
  cases r with
  | item z r => exact nn e
  | _ => exact Option.some.inj e
theorem isN_val {P : AV → Prop} {x : AV} (e : isN x = true) (k : P .none) : P x := by
  cases x with
  | none => exact k
  | _ => exact ft e

theorem cmpIs_ok {x y : AV} {b : Bool} {v w : Value} (e : cmpIs x y = some b) (rx : AR G h X x v) (ry : AR G h X y w) : w = .none ∧ (v == .none) = b :=
  cs (show cond (isN y) (isNone? x) none = some b from e) (fun q e => ⟨isN_val (P := fun y => AR G h X y w → w = .none) q (fun r => r.inv) ry, isNone_val rx e⟩) fun _ e => nn e
@[elab_as_elim] theorem cmpI_E {P : Value → Value → Prop} {f : Int → Int → Bool} {x y : AV} {b : Bool} {v w : Value} (e : cmpI f x y = some b) (rx : AR G h X x v) (ry : AR G h X y w) (k : ∀ i j t u, f i j = b → P (.int i t) (.int j u)) : P v w :=
  bs e fun _ e1 e => by
    refine ms (P := fun b => (∀ i j t u, f i j = b → P (.int i t) (.int j u)) → P v w) e (fun _ e2 k => ?_) k
    refine rx.ofInt e1 fun t => ?_
    refine ry.ofInt e2 fun u => ?_
    exact k _ _ t u rfl
theorem str_beq {x y : Str} : (x == y) = seq x y := by
  cases z : seq x y with
  | true => rw [seq_iff.mp z]; exact beq_self_eq_true _
  | false => exact beq_eq_false_iff_ne.mpr (seq_false.mp z)
@[elab_as_elim] theorem cmpS_E {P : Value → Value → Prop} {x y : AV} {b : Bool} {v w : Value} (e : cmpS x y = some b) (rx : AR G h X x v) (ry : AR G h X y w) (k : ∀ (i j : Str) t u, (i == j) = b → P (.str i t) (.str j u)) : P v w :=
  bs e fun _ e1 e => by
    refine ms (P := fun b => (∀ (i j : Str) t u, (i == j) = b → P (.str i t) (.str j u)) → P v w) e (fun _ e2 k => ?_) k
    refine rx.ofStr e1 fun t => ?_
    refine ry.ofStr e2 fun u => ?_
    exact k _ _ t u str_beq
/-- both as data -/
theorem cmpQ_E {P : Prop} (hv : HV G) {x y : AV} {b : Bool} {v w : Value} (e : cmpQ x y = some b) (rx : AR G h X x v) (ry : AR G h X y w)
    (k : ∀ d as bs, Reads h v d as → Reads h w d bs → SeqAt.shaped d = true → PyData.eqv d d = true → b = true → P) : P :=
  bs e fun _ e1 e => bs e fun _ e2 e => gs e fun h1 e => gs e fun h2 e => by
    refine lstE (P := fun x => AR G h X x v → P) e1 (fun rx => ?_) rx
    refine lstE (P := fun y => AR G h X y w → P) e2 (fun ry => ?_) ry
    rw [← beqs_eq h1] at ry
    obtain ⟨as, r1⟩ := lay_reads hv 13 (.lst _) v (by exact h2) rx
    obtain ⟨bs, r2⟩ := lay_reads hv 13 (.lst _) w (by exact h2) ry
    have sh := lay_shape hv 13 (.lst _) (by exact h2)
    exact k _ as bs r1 r2 (Bool.and_eq_true_iff.mpr ⟨sh.1, decide_eq_true (Nat.le_trans sh.2 (by decide))⟩) (SeqAt.eqv_refl _ sh.1) (Option.some.inj e).symm

theorem roomL {A : Around} (rm : Room A 0) {n k : Nat} (h : k ≤ 2) : A.units + k + min n 0 < cLine := Nat.lt_of_le_of_lt (Nat.add_le_add (Nat.add_le_add_left h _) (Nat.min_le_right _ _)) (Nat.lt_of_le_of_lt (Nat.add_le_add_left (by decide : 2 ≤ 16 * 0 + 100) _) rm.2.2)
structure InR (G : Gnd) (A : Around) (E : Value → Shared → Prop) (s : Shared) (v w : Value) (b : Bool) : Prop where
  isIn : ∀ Q : Value → Shared → Prop, (∀ tk, Q (.bool b) { s with toks := tk }) → wpAny (model G.prog G.w) A (compareOp .In v w) Q E s
  notIn : ∀ Q : Value → Shared → Prop, (∀ tk, Q (.bool (!b)) { s with toks := tk }) → wpAny (model G.prog G.w) A (compareOp .NotIn v w) Q E s
theorem inT_ok (hv : HV G) (rm : Room A 0) {x y : AV} {b : Bool} {v w : Value} (e : inT x y = some b) (rx : AR G s.heap X x v) (ry : AR G s.heap X y w) : InR G A E s v w b :=
  bs e fun i e1 e => bs e fun l e2 e => gs e fun hl e => by
    have hl := Bool.and_eq_true_iff.mp hl
    refine tupE (P := fun y => AR G s.heap X y w → InR G A E s v w b) e2 (fun ry => ?_) ry
    refine rx.ofStr e1 fun t => ?_
    obtain ⟨as, r2⟩ := lay_reads hv 2 (.tup l) w (by exact hl.2) ry
    have sh := lay_shape hv 2 (.tup l) (by exact hl.2)
    rw [← sin_any (G := G) e]
    exact ⟨fun Q q => SeqAt.in_tuple_reads (d := .str _) r2 (.str _ _) sh.1 (strOk_of hl.1) (roomL rm (by decide)) (q s.toks), fun Q q => SeqAt.notIn_tuple_reads (d := .str _) r2 (.str _ _) sh.1 (strOk_of hl.1) (roomL rm (by decide)) (q s.toks)⟩
theorem inL_ok (hv : HV G) (rm : Room A 0) {x y : AV} {b : Bool} {v w : Value} (e : inL x y = some b) (rx : AR G s.heap X x v) (ry : AR G s.heap X y w) : InR G A E s v w b :=
  bs e fun i e1 e => bs e fun l e2 e => gs e fun hl e => by
    have hl := Bool.and_eq_true_iff.mp hl
    refine lstE (P := fun y => AR G s.heap X y w → InR G A E s v w b) e2 (fun ry => ?_) ry
    refine rx.ofStr e1 fun t => ?_
    obtain ⟨as, r2⟩ := lay_reads hv 2 (.lst l) w (by exact hl.2) ry
    have sh := lay_shape hv 2 (.lst l) (by exact hl.2)
    rw [← sin_any (G := G) e]
    exact ⟨fun Q q => SeqAt.in_list_reads (d := .str _) r2 (.str _ _) sh.1 (strOk_of hl.1) (roomL rm (by decide)) (q s.toks), fun Q q => SeqAt.notIn_list_reads (d := .str _) r2 (.str _ _) sh.1 (strOk_of hl.1) (roomL rm (by decide)) (q s.toks)⟩
theorem inD_ok (sx : X sysModules) {x y : AV} {b : Bool} {v w : Value} (e : inD x y = some b) (rx : AR G s.heap X x v) (ry : AR G s.heap X y w) : InR G A E s v w b :=
  bs e fun i e1 e => by
    refine ms (P := fun b => InR G A E s v w b) e fun l e2 => ?_
    refine rx.ofStr e1 fun t => ry.ofDct e2 fun a es n D => ?_
    have m := mapOf_dict (G := G) D.e (keys_all D.r)
    rcases find_ard D.r i with ⟨z, f⟩ | ⟨y', v', z, f, _⟩
    · rw [z]; exact ⟨fun Q q => wpAny_in_of (strKind_is G.prog G.w _ _) (not_sys sx D.x) m (by rw [f]; exact q _), fun Q q => wpAny_notIn_of (strKind_is G.prog G.w _ _) (not_sys sx D.x) m (by rw [f]; exact q _)⟩
    · rw [z]; exact ⟨fun Q q => wpAny_in_of (strKind_is G.prog G.w _ _) (not_sys sx D.x) m (by rw [f]; exact q _), fun Q q => wpAny_notIn_of (strKind_is G.prog G.w _ _) (not_sys sx D.x) m (by rw [f]; exact q _)⟩
theorem cmpIn_ok (hv : HV G) (sx : X sysModules) (rm : Room A 0) {x y : AV} {b : Bool} {v w : Value} (e : cmpIn x y = some b) (rx : AR G s.heap X x v) (ry : AR G s.heap X y w) : InR G A E s v w b :=
  os e (fun e => inT_ok hv rm e rx ry) fun e => os e (fun e => inL_ok hv rm e rx ry) fun e => inD_ok sx e rx ry
theorem cmpNn_sound (hv : HV G) (rm : Room A 0) {x y : AV} {b : Bool} {v w : Value} (e : cmpNn x y = some b) (rx : AR G s.heap X x v) (ry : AR G s.heap X y w) (q : Q (.bool b) s) : wpAny (model G.prog G.w) A (compareOp .In v w) Q E s :=
  gs e fun h e => bs e fun l e2 e => by
    obtain ⟨h2, e1⟩ := nin_any (G := G) e
    refine lstE (P := fun y => AR G s.heap X y w → wpAny (model G.prog G.w) A (compareOp .In v w) Q E s) e2 (fun ry => ?_) ry
    refine isN_val (P := fun x => AR G s.heap X x v → wpAny (model G.prog G.w) A (compareOp .In v w) Q E s) h (fun rx => ?_) rx
    refine rx.noneE ?_
    obtain ⟨as, r2⟩ := lay_reads hv 2 (.lst l) w (by exact h2) ry
    exact SeqAt.in_list_reads (d := .none) r2 .none (lay_shape hv 2 (.lst l) (by exact h2)).1 rfl (roomL rm (by decide)) (by rw [e1]; exact q)
theorem cmpEq_ok (hv : HV G) (rm : Room A 0) {x y : AV} {b : Bool} {v w : Value} (e : cmpEq x y = some b) (rx : AR G s.heap X x v) (ry : AR G s.heap X y w) :
    (∀ Q : Value → Shared → Prop, (∀ tk, Q (.bool b) { s with toks := tk }) → wpAny (model G.prog G.w) A (compareOp .Eq v w) Q E s) ∧ ∀ Q : Value → Shared → Prop, (∀ tk, Q (.bool (!b)) { s with toks := tk }) → wpAny (model G.prog G.w) A (compareOp .NotEq v w) Q E s :=
  os e (fun e => cmpI_E e rx ry fun i j t u e => ⟨fun Q q => PyProof.Rows.eq_int (show Q (.bool (decide (i = j))) s from e ▸ q s.toks), fun Q q => PyProof.Rows.ne_int (show Q (.bool (!decide (i = j))) s from e ▸ q s.toks)⟩) fun e =>
  os e (fun e => cmpS_E e rx ry fun i j t u e => ⟨fun Q q => PyProof.Rows.eq_str (e ▸ q s.toks), fun Q q => PyProof.Rows.ne_str (show Q (.bool (!(i == j))) s from e ▸ q s.toks)⟩) fun e =>
  cmpQ_E hv e rx ry fun d as bs r1 r2 sh sf z => ⟨fun Q q => eq_dataH r1 r2 sh sh (Nat.lt_of_le_of_lt (Nat.add_le_add_left (by decide) _) rm.2.2) (by rw [sf, ← z]; exact q s.toks), fun Q q => ne_dataH r1 r2 sh sh (Nat.lt_of_le_of_lt (Nat.add_le_add_left (by decide) _) rm.2.2) (by rw [sf]; exact z ▸ q s.toks)⟩
theorem cmp0_sound (hv : HV G) (sx : X sysModules) {op : CmpOp} {x y : AV} {b : Bool} {v w : Value} (e : cmp0 op x y = some b) (rx : AR G s.heap X x v) (ry : AR G s.heap X y w) (rm : Room A 0)
    (q : ∀ tk, Q (.bool b) { s with toks := tk }) : wpAny (model G.prog G.w) A (compareOp op v w) Q E s := by
  cases op with
  | Is =>
    have h := cmpIs_ok e rx ry
    rw [h.1]; exact is_none (h.2 ▸ q _)
  | IsNot =>
    refine ms (P := fun b => (∀ tk, Q (.bool b) { s with toks := tk }) → wpAny (model G.prog G.w) A (compareOp .IsNot v w) Q E s) e (fun b e q => ?_) q
    have h := cmpIs_ok e rx ry
    rw [h.1]; exact isNot_none (show Q (.bool (!(v == .none))) _ from h.2 ▸ q _)
  | Eq => exact (cmpEq_ok hv rm e rx ry).1 Q q
  | NotEq => exact ms (P := fun b => (∀ tk, Q (.bool b) { s with toks := tk }) → wpAny (model G.prog G.w) A (compareOp .NotEq v w) Q E s) e (fun b e q => (cmpEq_ok hv rm e rx ry).2 Q q) q
  | Lt => exact cmpI_E e rx ry fun i j t u e => PyProof.Rows.lt_int (e ▸ q s.toks)
  | LtE => exact cmpI_E e rx ry fun i j t u e => PyProof.Rows.le_int (e ▸ q s.toks)
  | Gt => exact cmpI_E e rx ry fun i j t u e => PyProof.Rows.gt_int (e ▸ q s.toks)
  | GtE => exact cmpI_E e rx ry fun i j t u e => PyProof.Rows.ge_int (e ▸ q s.toks)
  | In => exact os e (fun e => (cmpIn_ok hv sx rm e rx ry).isIn Q q) fun e => cmpNn_sound hv rm e rx ry (q s.toks)
  | NotIn => exact ms (P := fun b => (∀ tk, Q (.bool b) { s with toks := tk }) → wpAny (model G.prog G.w) A (compareOp .NotIn v w) Q E s) e (fun b e q => (cmpIn_ok hv sx rm e rx ry).notIn Q q) q
theorem sameB_eq {b : Bool} {o : Option Bool} (e : sameB b o = true) : o = some b := by
  cases o with
  | none => exact ft e
  | some c => cases b <;> cases c <;> first | rfl | exact ft e
theorem cmpL_at {op : CmpOp} {c d : Nat} {y : AV} {b : Bool} (e : cmpL op c y = some b) (z : d < 7) : cmp0 op (val c d) y = some b :=
  bs e fun b' _ e => gs e fun h e => Option.some.inj e ▸ sameB_eq (List.all_eq_true.mp h d (List.mem_range.mpr z))
theorem cmp_sound (hv : HV G) (sx : X sysModules) {op : CmpOp} {x y : AV} {b : Bool} {v w : Value} (e : cmp op x y = some b) (rx : AR G s.heap X x v) (ry : AR G s.heap X y w) (rm : Room A 0)
    (q : ∀ tk, Q (.bool b) { s with toks := tk }) : wpAny (model G.prog G.w) A (compareOp op v w) Q E s := by
  cases x with
  | item c d =>
    have r := rx.inv
    exact cmp0_sound hv sx (cmpL_at e r.1) (hv.eq ▸ r.2) ry rm q
  | _ => exact cmp0_sound hv sx e rx ry rm q
end
end Mine
end
section
open PySem PySem.W PyProof.Rows PySem.Calls
namespace Mine

section
variable {G : Gnd} {A : Around} {E : Value → Shared → Prop} {s : Shared} {X : Addr → Prop} {Q : Value → Shared → Prop} {h : Heap} {F : List Addr} {ad : Ad} {hp : Hp}

noncomputable def slN : Expr → Bool
  | .Slice _ _ st _ => st.isNone
  | _ => false
noncomputable def noSlice (e : Expr) : Prop := slN e = false
theorem sub_plain {e : Expr} (h : noSlice e) (o i : Value) : subscripted e false o i = operate [o, i] (getItem o i) := by
  cases e with
  | Slice l u st p =>
    cases st with
    | none => exact tf h
    | some x => exact rfl
  | _ => exact rfl
theorem idx_ok {n j : Nat} {k : Int} (e : idx n k = some j) : k = (j : Int) ∧ j < n ∧ j < 2 ^ 62 := by
  cases k with
  | ofNat m => exact gs (show gd (Nat.blt m n) (gd (Nat.blt m (2 ^ 62)) (some m)) = some j from e) fun h1 e => gs e fun h2 e => Option.some.inj e ▸ ⟨rfl, Nat.le_of_ble_eq_true h1, Nat.le_of_ble_eq_true h2⟩
  | negSucc m => exact nn e
theorem idxN_ok {n j : Nat} {k : Int} (e : idxN n k = some j) : (k = (j : Int) ∧ j < n ∧ j < 2 ^ 62) ∨ (k = -1 ∧ 0 < n ∧ j = n - 1) := by
  cases k with
  | ofNat m => exact .inl (gs (show gd (Nat.blt m n) (gd (Nat.blt m (2 ^ 62)) (some m)) = some j from e) fun h1 e => gs e fun h2 e => Option.some.inj e ▸ ⟨rfl, Nat.le_of_ble_eq_true h1, Nat.le_of_ble_eq_true h2⟩)
  | negSucc m =>
    refine .inr (gs (show gd (Nat.beq m 0) (gd (Nat.blt 0 n) (some (n - 1))) = some j from e) fun h1 e => gs e fun h2 e => ?_)
    rw [Nat.eq_of_beq_eq_true h1]
    exact ⟨rfl, Nat.le_of_ble_eq_true h2, (Option.some.inj e).symm⟩
theorem nat_lt63 {j : Nat} (h : j < 2 ^ 62) : ((j : Nat) : Int) < 2 ^ 63 := Int.lt_of_lt_of_le (Int.ofNat_lt.mpr h) (by decide)
theorem seq_at {j n : Nat} (h : j < n) : seqIndex? (j : Int) n = some j := by
  unfold seqIndex?
  have z2 : (decide (0 ≤ (j : Int)) && decide ((j : Int) < (n : Int))) = true := by rw [decide_eq_true (Int.natCast_nonneg j), decide_eq_true (Int.ofNat_lt.mpr h)]; rfl
  simp only [if_neg (Int.not_lt.mpr (Int.natCast_nonneg j)), z2, if_true, Int.toNat_natCast]
theorem item_list {a : Addr} {vs : List Value} {n j : Nat} {k : Int} {t : Tok} {v : Value} {value slice : Expr} (hs : noSlice slice) (e : s.heap.get? a = some (listOf vs.toArray n)) (i : idxN vs.length k = some j) (hv : vs[j]? = some v) (q : Q v s) :
    wpAny (model G.prog G.w) A (subscriptTail value slice (.ref a) (.int k t)) Q E s := by
  have hl : s.heap.IsList a vs.toArray := ⟨_, e, rfl, n, rfl⟩
  refine tail_any hl.typeIs slot_list_getitem.lookup ?_ (sub_plain hs _ _)
  rcases idxN_ok i with ⟨rfl, h1, h2⟩ | ⟨rfl, h1, rfl⟩
  · exact wpAny_getItem_list hl (Int.natCast_nonneg j) (nat_lt63 h2) (by simpa using hv) q
  · have z : (vs.toArray.size : Int) = vs.length := rfl
    refine wpAny_getItem_list_neg hl (by decide) (by rw [z]; (first | lia | omega)) (by decide) ?_ q
    have : ((-1 : Int) + (vs.toArray.size : Int)).toNat = vs.length - 1 := by rw [z]; (first | lia | omega)
    rw [this]; simpa using hv
theorem item_tuple {a : Addr} {vs : List Value} {n j : Nat} {k : Int} {t : Tok} {v : Value} {value slice : Expr} (hs : noSlice slice) (e : s.heap.get? a = some { cls := .type "tuple", data := .seq vs.toArray n }) (i : idx vs.length k = some j) (hv : vs[j]? = some v) (q : Q v s) :
    wpAny (model G.prog G.w) A (subscriptTail value slice (.ref a) (.int k t)) Q E s := by
  have hl : IsTup s.heap a vs.toArray := ⟨_, e, rfl, n, rfl⟩
  refine tail_any hl.typeIs PyProof.Rows.slot_tuple_getitem.lookup ?_ (sub_plain hs _ _)
  obtain ⟨rfl, h1, h2⟩ := idx_ok i
  exact PyProof.Rows.getItem_tuple hl (Int.le_trans (by decide) (Int.natCast_nonneg j)) (nat_lt63 h2) (j := j) (seq_at (n := vs.toArray.size) h1) (by simpa using hv) q
theorem item_str {x : Str} {u t : Tok} {j c : Nat} {k : Int} {value slice : Expr} (hs : noSlice slice) (i : idx x.length k = some j) (hc : nth x.cps.toList j = some c) (q : ∀ tk t, Q (.str ⟨#[c]⟩ t) { s with toks := tk }) :
    wpAny (model G.prog G.w) A (subscriptTail value slice (.str x u) (.int k t)) Q E s := by
  refine tail_any (typeIs_str s x u) PyProof.Rows.slot_str_getitem.lookup ?_ (sub_plain hs _ _)
  obtain ⟨rfl, h1, h2⟩ := idx_ok i
  refine PyProof.Rows.getItem_str (c := c) (by simp only [Bool.or_eq_false_iff, decide_eq_false_iff_not]; (first | lia | omega)) ?_ (q _ _)
  rw [seq_at h1]
  rw [nth_eq] at hc
  simpa using hc
theorem item_dict {a : Addr} {es : List DictEntry} {n : Nat} {x : Str} {t : Tok} {v : Value} {value slice : Expr} (hs : noSlice slice) (e : s.heap.get? a = some (dictOf es n)) (k : ∀ e ∈ es, ∃ x t, e.key = .str x t ∧ e.hash = PyData.keyHash G.w.params x)
    (hv : findBy Value.isStrOf es.toArray x = some v) (q : ∀ tk, Q v { s with toks := tk }) : wpAny (model G.prog G.w) A (subscriptTail value slice (.ref a) (.str x t)) Q E s := by
  have hm := mapOf_dict e k
  exact tail_any hm.typeIs slot_dict_getitem.lookup (wpAny_getItem_of (strKind_is G.prog G.w x t) hm hv (q _)) (sub_plain hs _ _)

theorem lst_obj (H : HR G h F ad hp) {n : Nat} {l : List RV} {p : Addr × Addr} (el : lstAt hp n = some l) (ep : nth ad n = some p) : ∃ vs m, h.get? p.1 = some (listOf (List.toArray vs) m) ∧ RVRs G h (Xp G F ad hp) ad l vs :=
  lstAtE el fun e => H.obj _ _ p e ep
theorem itemK_sound {o r : AV} {k : Int} {v : Value} {t : Tok} (e : itemK o k = some r) (ro : AR G s.heap X o v) {value slice : Expr} (hs : noSlice slice) (q : ∀ v' tk, AR G s.heap X r v' → Q v' { s with toks := tk }) : wpAny (model G.prog G.w) A (subscriptTail value slice v (.int k t)) Q E s :=
  os e (fun e => bs e fun l e0 e => bs e fun j e1 e2 => by
    refine ro.ofLst e0 fun a vs n L => ?_
    obtain ⟨v', e4, r4⟩ := L.r.at e2
    exact item_list hs L.e (by rw [← L.r.len]; exact e1) e4 (q v' s.toks r4)) fun e =>
  os e (fun e => bs e fun l e0 e => bs e fun j e1 e2 => by
    refine ro.ofTup e0 fun a vs n L => ?_
    obtain ⟨v', e4, r4⟩ := L.r.at e2
    exact item_tuple hs L.e (by rw [← L.r.len]; exact e1) e4 (q v' s.toks r4)) fun e =>
  bs e fun x e0 e => bs e fun j e1 e => by
    refine ms (P := fun r => (∀ v' tk, AR G s.heap X r v' → Q v' { s with toks := tk }) → wpAny (model G.prog G.w) A (subscriptTail value slice v (.int k t)) Q E s) e (fun c e2 q => ?_) q
    refine ro.ofStr e0 fun u => ?_
    exact item_str hs e1 e2 fun tk t => q _ tk (.str _ _)
theorem getItemI_sound (H : HR G s.heap F ad hp) {o i r : RV} {v w : Value} (e : getItemI o i hp = some r) (ro : RVR G s.heap (Xp G F ad hp) ad o v) (ri : RVR G s.heap (Xp G F ad hp) ad i w) {value slice : Expr} (hs : noSlice slice)
    (q : ∀ v' tk, RVR G s.heap (Xp G F ad hp) ad r v' → Q v' { s with toks := tk }) : wpAny (model G.prog G.w) A (subscriptTail value slice v w) Q E s := by
  cases o with
  | a o =>
    refine os e (fun e => bs e fun k e1 e => ?_) fun e => bs e fun l e0 e => bs e fun x e1 e => ?_
    · refine ms (P := fun r => (∀ v' tk, RVR G s.heap (Xp G F ad hp) ad r v' → Q v' { s with toks := tk }) → wpAny (model G.prog G.w) A (subscriptTail value slice v w) Q E s) e (fun y e2 q => ?_) q
      refine ri.ofInt e1 fun t => ?_
      exact itemK_sound e2 ro hs q
    · refine ms (P := fun r => (∀ v' tk, RVR G s.heap (Xp G F ad hp) ad r v' → Q v' { s with toks := tk }) → wpAny (model G.prog G.w) A (subscriptTail value slice v w) Q E s) e (fun y e2 q => ?_) q
      refine ri.ofStr e1 fun t => ?_
      refine AR.ofDct e0 ro fun a es n D => ?_
      rcases find_ard D.r x with ⟨z, _⟩ | ⟨y', v', z, f, r4⟩
      · exact nn (z.symm.trans e2)
      · exact item_dict hs D.e (keys_all D.r) f fun tk => q v' tk (Option.some.inj (z.symm.trans e2) ▸ r4)
  | r n =>
    refine bs e fun k e1 e => bs e fun l el e => bs e fun j e2 e3 => ?_
    refine ri.ofInt e1 fun t => ?_
    refine RVR.rE ro fun p ep => ?_
    obtain ⟨vs, m, eh, rs⟩ := lst_obj H el ep
    obtain ⟨v', e4, r4⟩ := rs.at e3
    exact item_list hs eh (by rw [← rs.len]; exact e2) e4 (q v' s.toks r4)
end
end Mine
end
section
open PySem PySem.W PyProof.Rows PySem.Calls
namespace Mine

section
variable {G : Gnd} {A : Around} {E : Value → Shared → Prop} {s : Shared} {X : Addr → Prop} {Q : Value → Shared → Prop} {h h' : Heap} {W F : List Addr} {ad ad' : Ad} {hp hp' : Hp}

theorem own_one {a : Addr} {O : AO} {h' : Heap} (hO : ownsO (a, a) O = [a]) (fa : h.objs.size ≤ a) (lt : @LT.lt Nat _ a h'.objs.size) : ∀ b : Nat, b ∈ ownsO (a, a) O → h.objs.size ≤ b ∧ b < h'.objs.size := fun b hb => by
  rw [hO] at hb
  rw [List.mem_singleton.mp hb]; exact ⟨fa, lt⟩
/-- a new owned object -/
theorem new_at (H : HR G h F ad hp) {O : AO} {a : Addr} (hO : ownsO (a, a) O = [a]) (k : ∀ b o, h.get? b = some o → h'.get? b = some o) (z : h.objs.size ≤ h'.objs.size) (fa : h.objs.size ≤ a) (lt : @LT.lt Nat _ a h'.objs.size)
    (r : Go G [] F ad hp h (ad ++ [(a, a)]) (hp ++ [O]) h' → OR G h' (Xp G F (ad ++ [(a, a)]) (hp ++ [O])) (ad ++ [(a, a)]) (a, a) O) :
    ∃ ad', HR G h' F ad' (hp ++ [O]) ∧ RVR G h' (Xp G F ad' (hp ++ [O])) ad' (.r hp.length) (.ref a) ∧ Go G [] F ad hp h ad' (hp ++ [O]) h' := by
  have fo := own_one (h' := h') hO fa lt
  have g : Go G [] F ad hp h (ad ++ [(a, a)]) (hp ++ [O]) h' := Go.add H k z fun b hb => (fo b hb).1
  exact ⟨ad ++ [(a, a)], H.add k z fo (r g), ⟨(a, a), by rw [← H.len]; exact nth_snoc, rfl⟩, g⟩
theorem mkLst_at (H : HR G h F ad hp) {own : Bool} {l : List RV} {rv : RV} {vs : List Value} {a : Addr} {n : Nat} (e : mkLst own l hp = some (rv, hp')) (r : RVRs G h (Xp G F ad hp) ad l vs)
    (k : ∀ b o, h.get? b = some o → h'.get? b = some o) (z : h.objs.size ≤ h'.objs.size) (ea : h'.get? a = some (listOf vs.toArray n)) (fa : h.objs.size ≤ a) :
    vs.length ≤ 4096 ∧ ∃ ad', HR G h' F ad' hp' ∧ RVR G h' (Xp G F ad' hp') ad' rv (.ref a) ∧ Go G [] F ad hp h ad' hp' h' :=
  gs e fun sz e => ⟨r.len ▸ Nat.le_of_ble_eq_true sz, cs e
    (fun _ e => sp (P := fun rv hp' => ∃ ad', HR G h' F ad' hp' ∧ RVR G h' (Xp G F ad' hp') ad' rv (.ref a) ∧ Go G [] F ad hp h ad' hp' h') e (new_at H rfl k z fa (Heap.lt_size ea) fun g => ⟨vs, n, ea, RVRs.go g nil_sub r⟩))
    fun _ e => by
      have g : Go G [] F ad hp h ad hp h' := Go.ofKeep k z
      obtain ⟨as, e1, e2⟩ := Option.map_eq_some_iff.mp e
      exact sp (P := fun rv hp' => ∃ ad', HR G h' F ad' hp' ∧ RVR G h' (Xp G F ad' hp') ad' rv (.ref a) ∧ Go G [] F ad hp h ad' hp' h') (congrArg some e2) ⟨ad, H.keep k z, .lst ea (fun q => H.fresh fa q) (ARs.stay (g.stay nil_sub) (RVRs.toA r e1)), g⟩⟩
theorem newList_sound (H : HR G s.heap F ad hp) {own : Bool} {l : List RV} {rv : RV} {vs : List Value} (e : mkLst own l hp = some (rv, hp')) (r : RVRs G s.heap (Xp G F ad hp) ad l vs) (q : PQ G s Q F ad hp rv hp') :
    wpAny (model G.prog G.w) A (newList vs) Q E s := by
  obtain ⟨sz, ad', H', R', g⟩ := mkLst_at H (h' := s.heap.push (listOf vs.toArray 0)) (n := 0) e r push_keep push_size (Heap.get?_push_size _ rfl) (Nat.le_refl _)
  exact wpAny_newList (q ad' _ s.toks _ H' R' g) (Nat.le_trans sz (by rw [sizeLine_eq]; decide))

noncomputable def PartR (G : Gnd) (h : Heap) (X : Addr → Prop) (ad : Ad) : Option RV → Value → Prop
  | none, v => v = .none
  | some r, v => RVR G h X ad r v
noncomputable def ipart : Option Nat → Value → Prop
  | none, v => v = .none
  | some k, v => ∃ t, v = .int (k : Nat) t
theorem natOf_eq {k : Int} {n : Nat} (e : natOf k = some n) : k = (n : Int) := by
  cases k with
  | ofNat m => exact congrArg Int.ofNat (Option.some.inj e)
  | negSucc m => exact nn e
theorem bound_part {o : Option RV} {p : Option Nat} {v : Value} (e : bound o = some p) (r : PartR G h X ad o v) : ipart p v := by
  cases o with
  | none => exact si (P := fun p => ipart p v) e r
  | some x =>
    refine ms (P := fun p => ipart p v) (show ((vI x).bind natOf).map some = some p from e) fun n e => bs e fun k e1 e2 => ?_
    refine RVR.ofInt e1 r fun t => ?_
    exact ⟨t, by rw [natOf_eq e2]⟩
theorem cut_list {l r : List AV} {vs : List Value} {p q : Option Nat} (e : cut l p q = some r) (rs : ARs G h X l vs) :
    ∃ ws, slicePick vs.toArray (p.map fun (k : Nat) => (k : Int)) (q.map fun (k : Nat) => (k : Int)) none = ws.toArray ∧ ARs G h X r ws := by
  have len := rs.len
  have sz : vs.toArray.size = l.length := len.symm
  cases p with
  | none =>
    cases q with
    | none => exact nn e
    | some q => exact gs (show gd (Nat.ble q l.length) (some (l.take q)) = some r from e) fun h1 e => ⟨_, by simpa using slicePick_upto vs.toArray _ (sz ▸ Nat.le_of_ble_eq_true h1), Option.some.inj e ▸ rs.take⟩
  | some p =>
    cases q with
    | none => exact gs (show gd (Nat.ble p l.length) (some (l.drop p)) = some r from e) fun h1 e => ⟨_, by simpa using slicePick_from vs.toArray _ (sz ▸ Nat.le_of_ble_eq_true h1), Option.some.inj e ▸ rs.drop⟩
    | some q => exact gs (show gd (Nat.ble q l.length) (gd (Nat.ble p q) (some ((l.drop p).take (q - p)))) = some r from e) fun h1 e => gs e fun h2 e => ⟨_, by simpa using slicePick_run vs.toArray _ _ (sz ▸ Nat.le_of_ble_eq_true h1) (Nat.le_of_ble_eq_true h2), Option.some.inj e ▸ rs.drop.take⟩
theorem ipart_is {p : Option Nat} {v : Value} (r : ipart p v) : IsPart v (p.map fun (k : Nat) => (k : Int)) := by
  cases p with
  | none => cases r; exact .none
  | some k => obtain ⟨t, rfl⟩ := r; exact .int _ _
theorem len_cps (x : Str) : x.length = x.cps.toList.length := rfl
theorem str_lo0 {x : Str} (hi : Option Int) : Builtin.Str.strSliceIndices none hi 1 x.length = Builtin.Str.strSliceIndices (some ((0 : Nat) : Int)) hi 1 x.length := by
  have z : max (0 : Int) (min 0 (x.length : Int)) = 0 := by rw [Int.min_eq_left (Int.natCast_nonneg _)]; rfl
  simp [Builtin.Str.strSliceIndices, z]
theorem str_hi0 {x : Str} (lo : Option Int) : Builtin.Str.strSliceIndices lo none 1 x.length = Builtin.Str.strSliceIndices lo (some ((x.length : Nat) : Int)) 1 x.length := by
  have z : max (0 : Int) (min (if (x.length : Int) < 0 then (x.length : Int) + (x.length : Int) else (x.length : Int)) (x.length : Int)) = (x.length : Int) := by
    rw [if_neg (Int.not_lt.mpr (Int.natCast_nonneg _)), Int.min_eq_left (Int.le_refl _), Int.max_eq_right (Int.natCast_nonneg _)]
  simp [Builtin.Str.strSliceIndices, z]
theorem str_plain {x : Str} {a b : Nat} (h1 : a ≤ b) (h2 : b ≤ x.length) : (Builtin.Str.strSliceIndices (some (a : Int)) (some (b : Int)) 1 x.length).filterMap (x.cps[·]?) = (x.cps.toList.drop a).take (b - a) ∧
    (Builtin.Str.strSliceIndices (some (a : Int)) (some (b : Int)) 1 x.length).length = ((x.cps.toList.drop a).take (b - a)).length := by
  have h3 : b ≤ x.cps.toList.length := h2
  rw [StrLaws.strSliceIndices_plain h1 h2]
  refine ⟨?_, by rw [List.length_take, List.length_drop, Nat.min_eq_left (Nat.sub_le_sub_right h3 a)]; simp⟩
  have := StrLaws.picks x.cps.toList (b - a) a (by rw [Nat.add_comm, Nat.sub_add_cancel h1]; exact h3)
  simpa using this
theorem cut_str {x : Str} {r : List Nat} {p q : Option Nat} {tp tq : Tok} (e : cut x.cps.toList p q = some r) :
    (slicePicked x (p.map fun (k : Nat) => ((k : Int), tp)) (q.map fun (k : Nat) => ((k : Int), tq)) none).filterMap (x.cps[·]?) = r ∧
    (slicePicked x (p.map fun (k : Nat) => ((k : Int), tp)) (q.map fun (k : Nat) => ((k : Int), tq)) none).length = r.length := by
  cases p with
  | none =>
    cases q with
    | none => exact nn e
    | some q =>
      refine gs (show gd (Nat.ble q x.cps.toList.length) (some (x.cps.toList.take q)) = some r from e) fun h1 e => ?_
      have := str_plain (x := x) (Nat.zero_le q) (Nat.le_of_ble_eq_true h1)
      rw [← str_lo0, Nat.sub_zero, List.drop_zero, Option.some.inj e] at this
      exact this
  | some p =>
    cases q with
    | none =>
      refine gs (show gd (Nat.ble p x.cps.toList.length) (some (x.cps.toList.drop p)) = some r from e) fun h1 e => ?_
      have := str_plain (x := x) (b := x.length) (Nat.le_of_ble_eq_true h1) (Nat.le_refl _)
      rw [← str_hi0, List.take_of_length_le (by rw [List.length_drop]; exact Nat.le_of_eq rfl), Option.some.inj e] at this
      exact this
    | some q =>
      refine gs (show gd (Nat.ble q x.cps.toList.length) (gd (Nat.ble p q) (some ((x.cps.toList.drop p).take (q - p)))) = some r from e) fun h1 e => gs e fun h2 e => ?_
      have := str_plain (x := x) (Nat.le_of_ble_eq_true h2) (Nat.le_of_ble_eq_true h1)
      rw [Option.some.inj e] at this
      exact this
theorem cut_sub {α : Type} {l r : List α} {p q : Option Nat} (e : cut l p q = some r) : List.Sublist r l := by
  cases p with
  | none =>
    cases q with
    | none => exact nn e
    | some q => exact gs (show gd (Nat.ble q l.length) (some (l.take q)) = some r from e) fun h1 e => Option.some.inj e ▸ List.take_sublist ..
  | some p =>
    cases q with
    | none => exact gs (show gd (Nat.ble p l.length) (some (l.drop p)) = some r from e) fun h1 e => Option.some.inj e ▸ List.drop_sublist ..
    | some q => exact gs (show gd (Nat.ble q l.length) (gd (Nat.ble p q) (some ((l.drop p).take (q - p)))) = some r from e) fun h1 e => gs e fun h2 e => Option.some.inj e ▸ (List.take_sublist ..).trans (List.drop_sublist ..)
theorem cut_le {α : Type} {l r : List α} {p q : Option Nat} (e : cut l p q = some r) : r.length ≤ l.length := (cut_sub e).length_le
theorem cut_full {α : Type} {l r : List α} {p q : Option Nat} (e : cut l p q = some r) (h : r.length = l.length) : r = l := (cut_sub e).eq_of_length h
theorem getStr_sound {x : Str} {t : Tok} {a : Addr} {p q : Option Nat} {vl vu : Value} {r : List Nat} (e : cut x.cps.toList p q = some r) (il : ipart p vl) (iu : ipart q vu) (z : x.length ≤ 1000)
    (es : s.heap.get? a = some { cls := .type "slice", data := .fields #[vl, vu, .none] }) (qq : ∀ tk t, Q (.str ⟨r.toArray⟩ t) { s with toks := tk }) : wpAny (model G.prog G.w) A (getItem (.str x t) (.ref a)) Q E s := by
  have one : ∀ {p : Option Nat} {v : Value}, ipart p v → ∃ t, v = partValue (p.map fun (k : Nat) => ((k : Int), t)) := fun {p v} i => by
    cases p with
    | none => cases i; exact ⟨0, rfl⟩
    | some k => obtain ⟨t, rfl⟩ := i; exact ⟨t, rfl⟩
  obtain ⟨t1, rfl⟩ := one il
  obtain ⟨t2, rfl⟩ := one iu
  obtain ⟨c1, c2⟩ := cut_str (tp := t1) (tq := t2) e
  refine wpAny_getItem_str_slice (l := p.map fun (k : Nat) => ((k : Int), t1)) (u := q.map fun (k : Nat) => ((k : Int), t2)) (st := none) ⟨_, es, rfl, rfl⟩ rfl ?_
  have hx := len_cps x
  unfold sliceMade
  split
  · rename_i h
    have h := (Bool.and_eq_true_iff.mp h).2
    have h := eq_of_beq h
    rw [c2, hx] at h
    have : r = x.cps.toList := cut_full e h
    have k := qq s.toks t
    rw [this] at k
    have k2 : (⟨x.cps.toList.toArray⟩ : Str) = x := by cases x; simp
    rw [k2] at k; exact k
  · rw [c1]
    refine ⟨?_, qq _ _⟩
    have : r.length ≤ x.length := by rw [hx]; exact cut_le e
    show r.toArray.size ≤ sizeLine
    rw [List.size_toArray]; exact Nat.le_trans this (Nat.le_trans z (by rw [sizeLine_eq]; decide))
theorem slL_sound (H : HR G s.heap F ad hp) {o : AV} {rv : RV} {lo hi : Option RV} {own : Bool} {v vl vu : Value} {value : Expr} {l u : Option Expr} {p : Pos} (e : slL o lo hi own hp = some (rv, hp'))
    (ro : AR G s.heap (Xp G F ad hp) o v) (rl : PartR G s.heap (Xp G F ad hp) ad lo vl) (ru : PartR G s.heap (Xp G F ad hp) ad hi vu) (q : PQ G s Q F ad hp rv hp') :
    wpAny (model G.prog G.w) A (subscriptTail value (.Slice l u none p) v (.ref s.heap.objs.size)) Q E { s with heap := s.heap.push { cls := .type "slice", data := .fields #[vl, vu, .none] } } :=
  bs e fun _ e0 e => gs e fun z e => bs e fun p1 e1 e => bs e fun q1 e2 e => bs e fun r e3 e => by
    refine ro.ofLst e0 fun a vs n L => ?_
    obtain ⟨ws, pk, rw'⟩ := cut_list e3 L.r
    have hl : s.heap.IsList a vs.toArray := ⟨_, L.e, rfl, n, rfl⟩
    refine tail_any (Heap.IsList.typeIs (s := { s with heap := s.heap.push { cls := .type "slice", data := .fields #[vl, vu, .none] } }) (hl.push _)) slot_list_getitem.lookup ?_ rfl
    refine wpAny_getItem_list_slice (hl.push _) (Heap.IsSliceOf.new ..) (ipart_is (bound_part e1 rl)) (ipart_is (bound_part e2 ru)) .none (fun z => nomatch z) ?_ (Nat.le_trans (Nat.le_of_eq L.r.len.symm) (Nat.le_trans (Nat.le_of_ble_eq_true z) (by rw [sizeLine_eq]; decide)))
    rw [pk]
    obtain ⟨_, ad', H', R', g⟩ := mkLst_at H (h' := (s.heap.push { cls := .type "slice", data := .fields #[vl, vu, .none] }).push (listOf ws.toArray 0)) (n := 0) (a := (s.heap.push { cls := .type "slice", data := .fields #[vl, vu, .none] }).objs.size) e (RVRs.ofA rw')
      (fun b o e => push_keep b o (push_keep b o e)) (Nat.le_trans push_size push_size) (Heap.get?_push_size _ rfl) push_size
    exact q ad' _ s.toks _ H' R' g
theorem slS_sound (H : HR G s.heap F ad hp) {o : AV} {rv : RV} {lo hi : Option RV} {v vl vu : Value} {value : Expr} {l u : Option Expr} {p : Pos} (e : slS o lo hi hp = some (rv, hp'))
    (ro : AR G s.heap (Xp G F ad hp) o v) (rl : PartR G s.heap (Xp G F ad hp) ad lo vl) (ru : PartR G s.heap (Xp G F ad hp) ad hi vu) (q : PQ G s Q F ad hp rv hp') :
    wpAny (model G.prog G.w) A (subscriptTail value (.Slice l u none p) v (.ref s.heap.objs.size)) Q E { s with heap := s.heap.push { cls := .type "slice", data := .fields #[vl, vu, .none] } } :=
  bs e fun x e0 e => gs e fun z e => bs e fun p1 e1 e => bs e fun q1 e2 e => by
    obtain ⟨r, e3, e⟩ := Option.map_eq_some_iff.mp e
    refine sp (P := fun rv hp' => PQ G s Q F ad hp rv hp' → _) (congrArg some e) (fun q => ?_) q
    refine ro.ofStr e0 fun t => ?_
    refine tail_any (typeIs_str _ x t) PyProof.Rows.slot_str_getitem.lookup ?_ rfl
    exact getStr_sound e3 (bound_part e1 rl) (bound_part e2 ru) (Nat.le_of_ble_eq_true z) (Heap.get?_push_size _ rfl) fun tk t => q ad _ tk _ H.push (.str _ t) Go.push
theorem slice_sound (H : HR G s.heap F ad hp) {o rv : RV} {lo hi : Option RV} {own : Bool} {v vl vu : Value} {value : Expr} {l u : Option Expr} {p : Pos} (e : sliceI o lo hi own hp = some (rv, hp'))
    (ro : RVR G s.heap (Xp G F ad hp) ad o v) (rl : PartR G s.heap (Xp G F ad hp) ad lo vl) (ru : PartR G s.heap (Xp G F ad hp) ad hi vu) (q : PQ G s Q F ad hp rv hp') :
    wpAny (model G.prog G.w) A (subscriptTail value (.Slice l u none p) v (.ref s.heap.objs.size)) Q E { s with heap := s.heap.push { cls := .type "slice", data := .fields #[vl, vu, .none] } } :=
  bs e fun x e0 e => os e (fun e => slL_sound H e (RVR.ofA e0 ro) rl ru q) fun e => slS_sound H e (RVR.ofA e0 ro) rl ru q
end
end Mine
end
section
open PySem PySem.W PyProof.Rows PySem.Calls
namespace Mine

/-- the class, in the stood heap -/
structure HI (G : Gnd) (K : Frag) (fI : Addr) : Prop where
  kin : K.In G.h0
  ga : plainGet K G.C "kind" = true
  hd : hasDictIn K G.C = true
  fk : findIn K (.ref G.C) "kind" = some none
  fi : findIn K (.ref G.C) "items" = some none
  fa : findIn K (.ref G.C) "attrs" = some none
  fs : findIn K (.ref G.C) "shared" = some none
  fl : findIn K (.ref G.C) "loose" = some none
  sa : findIn K (.ref G.C) "__setattr__" = some (some (.builtin "object.__setattr__"))
  po : plainOver K G.C = true
  mak : makesIn K G.C = true
  ini : findIn K (.ref G.C) "__init__" = some (some (.ref fI))
  ft : typeIn K (.ref fI) = some (.type "function")

section
variable {G : Gnd} {K : Frag} {fI : Addr} {A : Around} {E : Value → Shared → Prop} {s : Shared} {X : Addr → Prop} {Q : Value → Shared → Prop} {h h' : Heap} {W F : List Addr} {ad ad' : Ad} {hp hp' : Hp}

theorem AR.handed {x : AV} {v : Value} (r : AR G h X x v) : handedIn v = true :=
  AR.rec (motive_1 := fun x v _ => handedIn v = true) (motive_2 := fun _ _ _ => True) (motive_3 := fun _ _ _ => True) rfl (fun _ => rfl) (fun _ _ => rfl) (fun _ _ => rfl) (fun _ _ _ _ => rfl) (fun _ _ _ _ => rfl) (fun _ _ _ _ _ _ => rfl) (fun _ _ _ _ _ _ _ _ _ _ => rfl) (fun _ _ => rfl) (fun _ _ h => h)
    trivial (fun _ _ _ _ => trivial) trivial (fun _ _ _ _ => trivial) r
theorem RVR.handed : ∀ {x : RV} {v : Value}, RVR G h X ad x v → handedIn v = true
  | .a _, _, r => AR.handed r
  | .r _, _, ⟨_, _, e⟩ => by subst e; rfl

theorem vget_k (P : Params) {vk vi va vs vl : Value} {t1 t2 t3 t4 t5 : Tok} : getL "kind" [kent P "kind" t1 vk, kent P "items" t2 vi, kent P "attrs" t3 va, kent P "shared" t4 vs, kent P "loose" t5 vl] = some (some vk) := by kernel_rfl
theorem vget_i (P : Params) {vk vi va vs vl : Value} {t1 t2 t3 t4 t5 : Tok} : getL "items" [kent P "kind" t1 vk, kent P "items" t2 vi, kent P "attrs" t3 va, kent P "shared" t4 vs, kent P "loose" t5 vl] = some (some vi) := by kernel_rfl
theorem vget_a (P : Params) {vk vi va vs vl : Value} {t1 t2 t3 t4 t5 : Tok} : getL "attrs" [kent P "kind" t1 vk, kent P "items" t2 vi, kent P "attrs" t3 va, kent P "shared" t4 vs, kent P "loose" t5 vl] = some (some va) := by kernel_rfl
theorem vput_a (P : Params) {vk vi va vs vl v k : Value} {t1 t2 t3 t4 t5 : Tok} : putL "attrs" (PyData.keyHash P "attrs") k v [kent P "kind" t1 vk, kent P "items" t2 vi, kent P "attrs" t3 va, kent P "shared" t4 vs, kent P "loose" t5 vl] =
  [kent P "kind" t1 vk, kent P "items" t2 vi, kent P "attrs" t3 v, kent P "shared" t4 vs, kent P "loose" t5 vl] := by kernel_rfl
theorem vput_s (P : Params) {vk vi va vs vl v k : Value} {t1 t2 t3 t4 t5 : Tok} : putL "shared" (PyData.keyHash P "shared") k v [kent P "kind" t1 vk, kent P "items" t2 vi, kent P "attrs" t3 va, kent P "shared" t4 vs, kent P "loose" t5 vl] =
  [kent P "kind" t1 vk, kent P "items" t2 vi, kent P "attrs" t3 va, kent P "shared" t4 v, kent P "loose" t5 vl] := by kernel_rfl

theorem inst_at {x d : Addr} {od : Obj} (e : h.get? x = some (instObj G.C d)) (e' : h.get? d = some od) : InstAt h x (instObj G.C d) G.C (some od) := ⟨e, rfl, rfl, e'⟩
theorem HI.here (I : HI G K fI) (H : HR G h F ad hp) : K.In h := fun b o e => H.base b o (I.kin b o e)

theorem inst_get (I : HI G K fI) (KX : K.In s.heap) {x d : Addr} {es : List DictEntry} {n : Nat} {v : Value} {name : Str} {expr : Bool} (e : s.heap.get? x = some (instObj G.C d)) (e' : s.heap.get? d = some (dictOf es n))
    (hf : findIn K (.ref G.C) name = some none) (hl : getL name es = some (some v)) (hv : handedIn v = true) (q : ∀ tk, Q v { s with toks := tk }) : wpAny (model G.prog G.w) A (getAttr (.ref x) name expr) Q E s :=
  get_value KX (inst_at e e') (plainGet_of I.ga).1 (findObj_own I.hd hf rfl hl) hv (q _)

/-- an instance, a tree's or an owned one -/
structure FieldR (G : Gnd) (h : Heap) (X : Addr → Prop) (ad : Ad) (k i a : RV) (x d : Addr) (D : VD) : Prop where
  e : h.get? x = some (instObj G.C d)
  e' : h.get? d = some (D.obj G)
  rk : RVR G h X ad k D.k
  ri : RVR G h X ad i D.i
  ra : RVR G h X ad a D.a
@[elab_as_elim] theorem fieldsE {P : Value → Prop} (H : HR G h F ad hp) {o k i a : RV} {v : Value} (e : fieldsOf o hp = some (k, i, a)) (ro : RVR G h (Xp G F ad hp) ad o v) (q : ∀ x d D, FieldR G h (Xp G F ad hp) ad k i a x d D → P (.ref x)) : P v := by
  cases o with
  | a o =>
    refine ms (P := fun t => t = (k, i, a) → P v) (show (aVec o).map _ = some (k, i, a) from e) (fun p e1 z => ?_) rfl
    refine AR.ofVec (a := p.1) (b := p.2.1) (c := p.2.2) e1 ro fun x d D V => ?_
    refine q x d D ?_
    rw [← (Prod.mk.inj z).1, ← (Prod.mk.inj (Prod.mk.inj z).2).1, ← (Prod.mk.inj (Prod.mk.inj z).2).2]
    exact ⟨V.e, V.e', V.rk, V.ri, V.ra⟩
  | r n =>
    refine bs e fun ob e1 e2 => ?_
    refine RVR.rE ro fun p ep => ?_
    obtain ⟨D, I⟩ := oInstE (P := fun ob => nth hp n = some ob → OR G h (Xp G F ad hp) ad p (.inst k i a)) e2 (fun e1 => H.obj _ _ p e1 ep) e1
    exact q _ _ D ⟨I.e, I.e', I.rk, I.ri, I.ra⟩
theorem getAttrI_sound (I : HI G K fI) (H : HR G s.heap F ad hp) {o r : RV} {v : Value} {name : Str} {expr : Bool} (e : getAttrI o name hp = some r) (ro : RVR G s.heap (Xp G F ad hp) ad o v)
    (q : ∀ v' tk, RVR G s.heap (Xp G F ad hp) ad r v' → Q v' { s with toks := tk }) : wpAny (model G.prog G.w) A (getAttr v name expr) Q E s :=
  bs e fun f e0 e => by
    have KX := I.here H
    refine fieldsE H (k := f.1) (i := f.2.1) (a := f.2.2) e0 ro fun x d D R => ?_
    refine cs e (fun z e => ?_) fun _ e => cs e (fun z e => ?_) fun _ e => cs e (fun z e => ?_) fun _ e => nn e
    · rw [isS_true z]; exact inst_get I KX R.e R.e' I.fk (vget_k _) R.rk.handed fun tk => q _ tk (Option.some.inj e ▸ R.rk)
    · rw [isS_true z]; exact inst_get I KX R.e R.e' I.fi (vget_i _) R.ri.handed fun tk => q _ tk (Option.some.inj e ▸ R.ri)
    · rw [isS_true z]; exact inst_get I KX R.e R.e' I.fa (vget_a _) R.ra.handed fun tk => q _ tk (Option.some.inj e ▸ R.ra)

/-- a store in an instance's dict -/
theorem dict_set {U : Unit → Shared → Prop} (I : HI G K fI) (KX : K.In s.heap) {x d : Addr} {es : List DictEntry} {n : Nat} {v : Value} {name : Str} (e : s.heap.get? x = some (instObj G.C d)) (e' : s.heap.get? d = some (dictOf es n))
    (hf : findIn K (.ref G.C) name = some none) (hk : ∀ en ∈ es, en.refKey = false) (hz : (putL name (PyData.keyHash G.w.params name) (.str name (s.toks + 1)) v es).length ≤ 1000)
    (q : ∀ tk h', Heap.SameBut d s.heap h' → h'.get? d = some (dictOf (putL name (PyData.keyHash G.w.params name) (.str name (s.toks + 1)) v es) (putN name es n)) → U () { s with heap := h', toks := tk }) :
    wpAny (model G.prog G.w) A (setAttr (.ref x) name v) U E s := by
  have J := inst_at e e'
  refine set_plain KX J I.sa ?_
  refine osa_open (s := { s with toks := s.toks + 1 }) KX J I.po (show takerIn K G.C name = some none by unfold takerIn; rw [hf]; rfl) fun b => ?_
  obtain ⟨cd, hc, hd'⟩ := any_some I.hd
  refine wpAny_bind (wpAny_pure (wpAny_bind (wpAny_bind (wpAny_loadPart e (wpAny_bind (Looks.at (looks_clsIn KX hc) ?_))))))
  rw [hd']
  refine wpAny_pure (a := some d) (wpAny_bind (wpAny_pure (wpAny_bind ?_)))
  unfold nsSet
  refine wpAny_bind (wpAny_bind (wpAny_askSetting (wpAny_pure (wpAny_bind (wpAny_mkText (wpAny_bind (wpAny_loadPart e' ?_)))))))
  have c : (!es.toArray.any (·.key.isStr name) && es.toArray.any (·.refKey)) = false := by
    have : es.toArray.any (·.refKey) = false := by
      rw [← Array.any_toList]
      exact List.any_eq_false.mpr fun en he => by rw [hk en he]; decide
    rw [this, Bool.and_false]
  show wpAny _ _ (if aRefKeyMayBeTheName name es.toArray then _ else _) _ _ _
  rw [aRefKeyMayBeTheName_at, c]
  refine wpAny_updatePart e' ?_
  have D' : (s.heap.update d (Obj.putName name (PyData.keyHash G.w.params name) (.str name (s.toks + 1)) v)).get? d = some (dictOf (putL name (PyData.keyHash G.w.params name) (.str name (s.toks + 1)) v es) (putN name es n)) := by
    rw [Heap.get?_update_self _ e' (by rw [putName_dict]; rfl), putName_dict]
  refine wpAny_bind (wpAny_lookBehind D' (pastItsLine_dict (Nat.le_trans hz (by rw [sizeLine_eq]; decide))) ?_)
  exact wpAny_pure (q _ _ (Heap.SameBut.update ..) D')
end
end Mine
end
section
open PySem PySem.W PyProof.Rows PySem.Calls
namespace Mine

section
variable {G : Gnd} {W F F' : List Addr} {ad ad' ad'' : Ad} {hp hp' hp'' : Hp} {h h' h'' : Heap} {X X' : Addr → Prop}

theorem stay_weaken (k : ∀ b, X' b → X b) : Stay G h h X X' := ⟨fun _ _ e _ => .inl e, fun b _ _ x y => x (k b y)⟩
theorem AR.weaken (k : ∀ b, X' b → X b) {x : AV} {v : Value} (r : AR G h X x v) : AR G h X' x v := r.stay (stay_weaken k)
theorem RVR.weaken (k : ∀ b, X' b → X b) {x : RV} {v : Value} (r : RVR G h X ad x v) : RVR G h X' ad x v := r.stay (stay_weaken k) fun _ _ e => e
theorem OR.weaken (k : ∀ b, X' b → X b) {p : Addr × Addr} {o : AO} (r : OR G h X ad p o) : OR G h X' ad p o := OR.stay (stay_weaken k) (fun _ _ e => e) (fun _ _ _ e => e) r
theorem Xp.less (k : ∀ b ∈ F', b ∈ F) {b : Addr} (x : Xp G F' ad hp b) : Xp G F ad hp b := x.imp id fun y => y.imp (k b) id
theorem HR.less (H : HR G h F ad hp) (k : ∀ b ∈ F', b ∈ F) : HR G h F' ad hp :=
  ⟨H.base, H.size, H.len, fun i o p e ep => (H.obj i o p e ep).weaken fun _ => Xp.less k, H.nd, fun b q => ⟨(H.lo b q).1, (H.lo b q).2.1, fun z => (H.lo b q).2.2 (k b z)⟩, fun b q => H.fr b (k b q)⟩
/-- a guarded address more -/
theorem HR.more (H : HR G h F ad hp) {d : Addr} (z : G.h0.objs.size ≤ d) (lt : @LT.lt Nat _ d h.objs.size) (no : ¬ Own ad hp d) (un : ∀ i o p, nth hp i = some o → nth ad i = some p → OR G h (Xp G (d :: F) ad hp) ad p o) : HR G h (d :: F) ad hp := by
  refine ⟨H.base, H.size, H.len, un, H.nd, fun b q => ⟨(H.lo b q).1, (H.lo b q).2.1, fun z => ?_⟩, fun b q => ?_⟩
  · rcases List.mem_cons.mp z with rfl | z
    · exact no q
    · exact (H.lo b q).2.2 z
  · rcases List.mem_cons.mp q with rfl | q
    · exact ⟨z, lt⟩
    · exact H.fr b q
/-- fresh objects are guarded -/
theorem HR.guard (H : HR G h F ad hp) (k : ∀ b o, h.get? b = some o → h'.get? b = some o) (z : h.objs.size ≤ h'.objs.size) (hD : ∀ b ∈ F', b ∈ F ∨ h.objs.size ≤ b ∧ b < h'.objs.size) : HR G h' F' ad hp := by
  have S : Stay G h h' (Xp G F ad hp) (Xp G F' ad hp) := ⟨fun b o e _ => .inl (k b o e), fun b o e q y => by
    rcases y with y | y | y
    · exact q (.inl y)
    · rcases hD b y with w | w
      · exact q (.inr (.inl w))
      · exact absurd (Heap.lt_size e) (Nat.not_lt.mpr w.1)
    · exact q (.inr (.inr y))⟩
  refine ⟨fun b o e => k b o (H.base b o e), Nat.le_trans H.size z, H.len, fun i o p e ep => OR.stay S (fun _ _ e => e) (fun b _ ob eb => k b ob eb) (H.obj i o p e ep), H.nd, fun b q => ⟨(H.lo b q).1, Nat.lt_of_lt_of_le (H.lo b q).2.1 z, fun y => ?_⟩, fun b q => ?_⟩
  · rcases hD b y with w | w
    · exact (H.lo b q).2.2 w
    · exact Nat.not_lt.mpr w.1 (H.lo b q).2.1
  · rcases hD b q with w | w
    · exact ⟨(H.fr b w).1, Nat.lt_of_lt_of_le (H.fr b w).2 z⟩
    · exact ⟨Nat.le_trans H.size w.1, w.2⟩
/-- a step under more guards, seen from outside: the guarded are new or kept -/
theorem Go.unguard {W' : List Addr} (g : Go G W' F' ad hp h ad' hp' h') (k0 : ∀ b o, h''.get? b = some o → h.get? b = some o) (z : h''.objs.size ≤ h.objs.size) (hF : ∀ b ∈ F, b ∈ F') (hW : ∀ b ∈ W', b ∈ W ∨ h''.objs.size ≤ b) : Go G W F ad hp h'' ad' hp' h' := by
  refine ⟨Nat.le_trans z g.size, g.ext, fun b q => (g.grow b q).imp id (Nat.le_trans z), fun b o e no w => ?_⟩
  have w' : b ∉ W' := fun q => (hW b q).elim w fun y => absurd (Heap.lt_size e) (Nat.not_lt.mpr y)
  rcases g.keep b o (k0 b o e) no w' with q | ⟨q1, q2⟩
  · exact .inl q
  · exact .inr ⟨fun y => q1 (Xp.less hF y), q2⟩
/-- a guarded address becomes an owned object -/
theorem HR.give {d : Addr} {O : AO} (H : HR G h (d :: F) ad hp) (hO : ownsO (d, d) O = [d]) (hd : d ∉ F) (r : OR G h (Xp G (d :: F) ad hp) (ad ++ [(d, d)]) (d, d) O) : HR G h F (ad ++ [(d, d)]) (hp ++ [O]) := by
  have own : ∀ b, Own (ad ++ [(d, d)]) (hp ++ [O]) b → Own ad hp b ∨ b = d := fun b q => (own_snoc H.len q).imp id fun z => by rw [hO] at z; exact List.mem_singleton.mp z
  have sub : ∀ b, Xp G F (ad ++ [(d, d)]) (hp ++ [O]) b → Xp G (d :: F) ad hp b := fun b q =>
    q.elim .inl fun q => q.elim (fun q => .inr (.inl (.tail _ q))) fun q => (own b q).elim (fun q => .inr (.inr q)) fun q => .inr (.inl (q ▸ .head _))
  have q := H.snoc (fun i o q z1 z2 => OR.stay (stay_weaken sub) (fun _ _ e => nth_app e) (fun _ _ _ e => e) (H.obj i o q z1 z2)) (r.weaken sub) fun b ob hb => by
    rw [hO] at hb
    exact (H.lo b ob).2.2 (List.mem_singleton.mp hb ▸ .head _)
  refine ⟨H.base, H.size, by rw [List.length_append, List.length_append, H.len]; rfl, q.1, q.2, fun b q => ?_, fun b q => H.fr b (.tail _ q)⟩
  rcases own b q with q | q
  · have := H.lo b q; exact ⟨this.1, this.2.1, fun z => this.2.2 (.tail _ z)⟩
  · have := H.fr b (q ▸ .head _); exact ⟨this.1, this.2, q ▸ hd⟩
theorem Go.give {d : Addr} {O : AO} (g : Go G W F ad hp h ad' hp' h') (H : HR G h' F' ad' hp') (hO : ownsO (d, d) O = [d]) (z : h.objs.size ≤ d) : Go G W F ad hp h (ad' ++ [(d, d)]) (hp' ++ [O]) h' :=
  ⟨g.size, fun i p e => nth_app (g.ext i p e), fun b q => (own_snoc H.len q).elim (g.grow b) fun y => .inr (by rw [hO] at y; rw [List.mem_singleton.mp y]; exact z), g.keep⟩
end

noncomputable def PB (G : Gnd) (s : Shared) (Q : Bool → Shared → Prop) (F : List Addr) (ad : Ad) (hp : Hp) (b : Bool) (hp' : Hp) : Prop :=
  ∀ ad' h' tk, HR G h' F ad' hp' → Go G [] F ad hp s.heap ad' hp' h' → Q b { s with heap := h', toks := tk }
noncomputable def EvAt (G : Gnd) (n : Nat) (sc : Sc) (loc : Loc) (hp : Hp) (e : Expr) (rv : RV) (hp' : Hp) : Prop :=
  ∀ (A : Around) (E : Value → Shared → Prop) (env : Env) (F : List Addr) (ad : Ad) (s : Shared) (Q : Value → Shared → Prop), Room A n → HR G s.heap F ad hp → FRel G s.heap F ad hp env sc loc → PQ G s Q F ad hp rv hp' → wpAny (model G.prog G.w) A (eval e env) Q E s
noncomputable def TrAt (G : Gnd) (n : Nat) (sc : Sc) (loc : Loc) (hp : Hp) (e : Expr) (b : Bool) (hp' : Hp) : Prop :=
  ∀ (A : Around) (E : Value → Shared → Prop) (env : Env) (F : List Addr) (ad : Ad) (s : Shared) (Q : Bool → Shared → Prop), Room A n → HR G s.heap F ad hp → FRel G s.heap F ad hp env sc loc → PB G s Q F ad hp b hp' → wpAny (model G.prog G.w) A (isTrue e env (eval e env)) Q E s
noncomputable def FlR (G : Gnd) (h : Heap) (F : List Addr) (ad : Ad) (hp : Hp) : Flw → Flow → Prop
  | .next, f => f = .next
  | .ret v, f => ∃ w, f = .ret w ∧ RVR G h (Xp G F ad hp) ad v w
/-- the frame's own addresses -/
structure WR (W F : List Addr) (env : Env) : Prop where
  sub : ∀ b ∈ W, b ∈ F
  loc : env.locals ∈ W
  cell : ∀ x c, env.cells.lookup x = some c → c ∈ W
noncomputable def XQ (G : Gnd) (s : Shared) (Q : Flow → Shared → Prop) (W F : List Addr) (ad : Ad) (hp : Hp) (env : Env) (sc : Sc) (fl : Flw) (loc' : Loc) (hp' : Hp) : Prop :=
  ∀ ad' h' tk f, HR G h' F ad' hp' → FRel G h' F ad' hp' env sc loc' → Go G W F ad hp s.heap ad' hp' h' → FlR G h' F ad' hp' fl f → Q f { s with heap := h', toks := tk }
noncomputable def ExAt (G : Gnd) (n : Nat) (sc : Sc) (loc : Loc) (hp : Hp) (st : Stmt) (fl : Flw) (loc' : Loc) (hp' : Hp) : Prop :=
  ∀ (A : Around) (E : Value → Shared → Prop) (env : Env) (W F : List Addr) (ad : Ad) (s : Shared) (Q : Flow → Shared → Prop), Room A n → WR W F env → HR G s.heap F ad hp → FRel G s.heap F ad hp env sc loc → XQ G s Q W F ad hp env sc fl loc' hp' → wpAny (model G.prog G.w) A (exec st env) Q E s
noncomputable def ExsAt (G : Gnd) (n : Nat) (sc : Sc) (loc : Loc) (hp : Hp) (st : List Stmt) (fl : Flw) (loc' : Loc) (hp' : Hp) : Prop :=
  ∀ (A : Around) (E : Value → Shared → Prop) (env : Env) (W F : List Addr) (ad : Ad) (s : Shared) (Q : Flow → Shared → Prop), Room A n → WR W F env → HR G s.heap F ad hp → FRel G s.heap F ad hp env sc loc → XQ G s Q W F ad hp env sc fl loc' hp' → wpAny (model G.prog G.w) A (execs st env) Q E s
/-- a call of a def: the name's value is known -/
noncomputable def ClAt (G : Gnd) (glob : Str → Option Addr) (n : Nat) (f : Str) (as : List RV) (hp : Hp) (rv : RV) (hp' : Hp) : Prop :=
  ∃ fa, glob f = some fa ∧ ∀ (A : Around) (E : Value → Shared → Prop) (F : List Addr) (ad : Ad) (s : Shared) (vs : List Value) (Q : Value → Shared → Prop), Room A n → HR G s.heap F ad hp → RVRs G s.heap (Xp G F ad hp) ad as vs → PQ G s Q F ad hp rv hp' → wpAny (model G.prog G.w) A (call (.ref fa) vs) Q E s
structure SIh (G : Gnd) (glob : Str → Option Addr) (n : Nat) (ih : Ih) : Prop where
  ev : ∀ {sc loc hp e rv hp'}, ih.ev sc loc hp e = some (rv, hp') → EvAt G n sc loc hp e rv hp'
  tr : ∀ {sc loc hp e b hp'}, ih.tr sc loc hp e = some (b, hp') → TrAt G n sc loc hp e b hp'
  ex : ∀ {sc loc hp st fl loc' hp'}, ih.ex sc loc hp st = some (fl, loc', hp') → ExAt G n sc loc hp st fl loc' hp'
  exs : ∀ {sc loc hp st fl loc' hp'}, ih.exs sc loc hp st = some (fl, loc', hp') → ExsAt G n sc loc hp st fl loc' hp'
  cl : ∀ {f as hp rv hp'}, ih.cl f as hp = some (rv, hp') → ClAt G glob n f as hp rv hp'

section
variable {G : Gnd} {glob : Str → Option Addr} {n : Nat} {ih : Ih} {A : Around} {E : Value → Shared → Prop} {s : Shared} {env : Env} {W F : List Addr} {ad ad' : Ad} {hp hp' hp1 hp2 : Hp} {h h' : Heap} {sc : Sc} {loc : Loc}

theorem PQ.after {Q : Value → Shared → Prop} {rv : RV} {tk : Nat} (g : Go G [] F ad hp s.heap ad' hp1 h') (q : PQ G s Q F ad hp rv hp2) : PQ G { s with heap := h', toks := tk } Q F ad' hp1 rv hp2 :=
  fun ad2 h2 tk2 v H R g2 => q ad2 h2 tk2 v H R (g.trans g2)
theorem PB.after {Q : Bool → Shared → Prop} {rv : Bool} {tk : Nat} (g : Go G [] F ad hp s.heap ad' hp1 h') (q : PB G s Q F ad hp rv hp2) : PB G { s with heap := h', toks := tk } Q F ad' hp1 rv hp2 :=
  fun ad2 h2 tk2 H g2 => q ad2 h2 tk2 H (g.trans g2)

theorem SIh.one (I : SIh G glob n ih) {e : Expr} {x : RV} (e1 : ih.ev sc loc hp e = some (x, hp1)) (rm : Room A n) (H : HR G s.heap F ad hp) (R : FRel G s.heap F ad hp env sc loc) {Q : Value → Shared → Prop}
    (q : ∀ ad' h' tk v, HR G h' F ad' hp1 → FRel G h' F ad' hp1 env sc loc → Go G [] F ad hp s.heap ad' hp1 h' → RVR G h' (Xp G F ad' hp1) ad' x v → Q v { s with heap := h', toks := tk }) :
    wpAny (model G.prog G.w) A (eval e env) Q E s :=
  I.ev e1 A E env F ad s Q rm H R fun ad' h' tk v H' r g => q ad' h' tk v H' (R.go H g) g r
theorem SIh.two (I : SIh G glob n ih) {e f : Expr} {x y : RV} (e1 : ih.ev sc loc hp e = some (x, hp1)) (e2 : ih.ev sc loc hp1 f = some (y, hp2)) (rm : Room A n) (H : HR G s.heap F ad hp) (R : FRel G s.heap F ad hp env sc loc) {Q : Value → Value → Shared → Prop}
    (q : ∀ ad' h' tk v w, HR G h' F ad' hp2 → FRel G h' F ad' hp2 env sc loc → Go G [] F ad hp s.heap ad' hp2 h' → RVR G h' (Xp G F ad' hp2) ad' x v → RVR G h' (Xp G F ad' hp2) ad' y w → Q v w { s with heap := h', toks := tk }) :
    wpAny (model G.prog G.w) A (eval e env) (fun v s₁ => wpAny (model G.prog G.w) A (eval f env) (fun w s₂ => Q v w s₂) E s₁) E s :=
  I.one e1 rm H R fun ad1 h1 tk1 v H1 R1 g1 r1 => I.one (s := { s with heap := h1, toks := tk1 }) e2 rm H1 R1 fun ad2 h2 tk2 w H2 R2 g2 r2 => q ad2 h2 tk2 v w H2 R2 (g1.trans g2) (r1.go g2 nil_sub) r2

theorem alook_eq {β : Type} {x : Str} (l : List (Str × β)) : alook x l = l.lookup x := by
  induction l with
  | nil => exact rfl
  | cons p r ih =>
    rw [List.lookup_cons]
    show cond (seq x p.1) (some p.2) (alook x r) = _
    rw [ih, str_beq]
    cases seq x p.1 <;> exact rfl

theorem FRel.notDebug (R : FRel G h F ad hp env sc loc) {x : Str} {k : NameKind} (e : env.kindOf x = some k) : (x == ("__debug__" : Str)) = false ∧ (x == ("__classdict__" : Str)) = false := by
  constructor
  · simp only [beq_eq_false_iff_ne]; rintro rfl; rw [R.nodbg.1] at e; cases e
  · simp only [beq_eq_false_iff_ne]; rintro rfl; rw [R.nodbg.2] at e; cases e
theorem load_sound (R : FRel G s.heap F ad hp env sc loc) {x : Str} {rv : RV} (e : alook x loc = some rv) {Q : Value → Shared → Prop} (q : ∀ v, RVR G s.heap (Xp G F ad hp) ad rv v → Q v s) : wpAny (model G.prog G.w) A (loadName env x) Q E s := by
  rcases R.kinds x rv e with k | k | k
  · obtain ⟨m, ns, f⟩ := R.ns
    obtain ⟨v, e1, e2⟩ := f x rv e k
    exact wpAny_loadName_local R.kind k ns e1 (q v e2)
  · obtain ⟨c, cv, e1, e2, _, _, f⟩ := R.cell x (.inl k)
    obtain ⟨v, rfl, e3⟩ := f rv e
    exact wpAny_loadName_cell R.kind k e1 e2 (q v e3)
  · obtain ⟨c, cv, e1, e2, _, _, f⟩ := R.cell x (.inr k)
    obtain ⟨v, rfl, e3⟩ := f rv e
    exact wpAny_loadName_free R.kind k e1 e2 (q v e3) (R.notDebug k).2
theorem name_sound (R : FRel G s.heap F ad hp env sc loc) {x : Str} {p : Pos} {rv : RV} (e : alook x loc = some rv) {Q : Value → Shared → Prop} (q : ∀ v, RVR G s.heap (Xp G F ad hp) ad rv v → Q v s) : wpAny (model G.prog G.w) A (eval (.Name x p) env) Q E s := by
  refine wpAny_Name (load_sound R e q) ?_
  rcases R.kinds x rv e with k | k | k <;> exact (R.notDebug k).1
theorem PQ.here {Q : Value → Shared → Prop} {rv : RV} {v : Value} (q : PQ G s Q F ad hp rv hp) (H : HR G s.heap F ad hp) (r : RVR G s.heap (Xp G F ad hp) ad rv v) (tk : Nat) : Q v { s with toks := tk } := q ad s.heap tk v H r Go.refl

/-- the arguments, one after another -/
theorem starEach_cons {e : Expr} (h : noStar e = true) (r : List Expr) : starEach (e :: r) env = (false, eval e env) :: starEach r env := by
  cases e with
  | Starred a b => exact ft h
  | _ => exact rfl
theorem args_sound (I : SIh G glob n ih) {pos : Pos} (rm : Room A n) : ∀ {es : List Expr} {hp hp' : Hp} {rs : List RV} {s : Shared} {ad : Ad} {Q : List Value → Shared → Prop}, evArgs ih sc loc hp es = some (rs, hp') → HR G s.heap F ad hp → FRel G s.heap F ad hp env sc loc →
    (∀ ad' h' tk vs, HR G h' F ad' hp' → FRel G h' F ad' hp' env sc loc → Go G [] F ad hp s.heap ad' hp' h' → RVRs G h' (Xp G F ad' hp') ad' rs vs → Q vs { s with heap := h', toks := tk }) →
    wpAny (model G.prog G.w) A (spliced (backTo pos (starEach es env))) Q E s := fun {es} => by
  induction es with
  | nil =>
    intro hp hp' rs s ad Q e H R q
    exact sp (P := fun rs hp' => (∀ ad' h' tk vs, HR G h' F ad' hp' → FRel G h' F ad' hp' env sc loc → Go G [] F ad hp s.heap ad' hp' h' → RVRs G h' (Xp G F ad' hp') ad' rs vs → Q vs { s with heap := h', toks := tk }) → _) e (fun q => spliced_nil (q ad s.heap s.toks [] H R Go.refl trivial)) q
  | cons x r ih' =>
    intro hp hp' rs s ad Q e H R q
    refine gs (show gd (noStar x) ((ih.ev sc loc hp x).bind fun q => (evArgs ih sc loc q.2 r).map fun q' => (q.1 :: q'.1, q'.2)) = some (rs, hp') from e) fun ns e => bs2 e fun v1 hp1 e1 e => ?_
    obtain ⟨⟨vr, hp2⟩, e2, e⟩ := Option.map_eq_some_iff.mp e
    rw [starEach_cons ns]
    refine spliced_cons (I.one e1 rm H R fun ad1 h1 tk1 v H1 R1 g1 r1 => ?_)
    refine ih' (s := { s with heap := h1, toks := tk1 }) e2 H1 R1 fun ad2 h2 tk2 vs H2 R2 g2 r2 => ?_
    exact sp (P := fun rs hp' => (∀ ad' h' tk vs, HR G h' F ad' hp' → FRel G h' F ad' hp' env sc loc → Go G [] F ad hp s.heap ad' hp' h' → RVRs G h' (Xp G F ad' hp') ad' rs vs → Q vs { s with heap := h', toks := tk }) → _) (congrArg some e) (fun q => q ad2 h2 tk2 (v :: vs) H2 R2 (g1.trans g2) ⟨r1.go g2 nil_sub, r2⟩) q

/-- the end, for what is known of the result -/
theorem PQ.at {Q : Value → Shared → Prop} {rv rv' : RV} {hp' hp'' : Hp} (q : PQ G s Q F ad hp rv hp') (e : some (rv', hp'') = some (rv, hp')) : PQ G s Q F ad hp rv' hp'' := sp (P := fun rv hp' => PQ G s Q F ad hp rv hp' → PQ G s Q F ad hp rv' hp'') e id q
theorem EvAt.at {e : Expr} {rv rv' : RV} {hp' hp'' : Hp} (w : EvAt G n sc loc hp e rv' hp'') (z : some (rv', hp'') = some (rv, hp')) : EvAt G n sc loc hp e rv hp' := sp (P := fun rv hp' => EvAt G n sc loc hp e rv hp') z w
theorem const_at {c : Const} {k : Nat} {pos : Pos} {rv : RV} (e : evConst hp c = some (rv, hp')) : EvAt G n sc loc hp (.Constant c k pos) rv hp' := by
  intro A E env F ad s Q rm H R q
  cases c with
  | none => exact wpAny_Constant_none ((q.at e).here H .none s.toks)
  | bool b => exact wpAny_Constant_bool ((q.at e).here H (.bool _) s.toks)
  | int i => exact wpAny_Constant_int ((q.at e).here H (.int _ _) _)
  | str x => exact wpAny_Constant_str ((q.at e).here H (.str _ _) _)
  | _ => exact nn e
end
end Mine
end
section
open PySem PySem.W PyProof.Rows PySem.Calls
namespace Mine

theorem me {α β : Type} {P : Prop} {o : Option α} {f : α → β} {b : β} (e : o.map f = some b) (k : ∀ a, o = some a → some (f a) = some b → P) : P := by
  cases o with
  | none => exact nn e
  | some a => exact k a rfl e
theorem me2 {α γ β : Type} {P : Prop} {o : Option (α × γ)} {f : α × γ → β} {b : β} (e : o.map f = some b) (k : ∀ a c, o = some (a, c) → some (f (a, c)) = some b → P) : P := me e fun q => k q.1 q.2

section
variable {G : Gnd} {glob : Str → Option Addr} {n : Nat} {ih : Ih} {A : Around} {E : Value → Shared → Prop} {s : Shared} {env : Env} {W F : List Addr} {ad ad' : Ad} {hp hp' hp1 hp2 : Hp} {h h' : Heap} {sc : Sc} {loc : Loc}
variable {K : Frag} {fI : Addr}

theorem PB.at {Q : Bool → Shared → Prop} {b b' : Bool} {hp' hp'' : Hp} (q : PB G s Q F ad hp b hp') (e : some (b', hp'') = some (b, hp')) : PB G s Q F ad hp b' hp'' := sp (P := fun b hp' => PB G s Q F ad hp b hp' → PB G s Q F ad hp b' hp'') e id q
theorem TrAt.at {e : Expr} {b b' : Bool} {hp' hp'' : Hp} (w : TrAt G n sc loc hp e b' hp'') (z : some (b', hp'') = some (b, hp')) : TrAt G n sc loc hp e b hp' := sp (P := fun b hp' => TrAt G n sc loc hp e b hp') z w
theorem sys_lt (hv : HV G) : @LT.lt Nat _ sysModules G.h0.objs.size := hv.big
theorem wk_sys (hv : HV G) {x : AV} {v : Value} (r : AR G h (Xp G F ad hp) x v) : AR G h (fun b => b = sysModules) x v := r.weaken fun b z => .inl (z ▸ sys_lt hv)
theorem own_sys (hv : HV G) (H : HR G h F ad hp) {b : Addr} (o : Own ad hp b) : ¬ b = sysModules := fun z => Nat.not_lt.mpr (H.lo b o).1 (z ▸ sys_lt hv)
theorem cmpV_ok (hv : HV G) (H : HR G h F ad hp) {v : RV} {x : AV} {w : Value} (e : cmpV v hp = some x) (r : RVR G h (Xp G F ad hp) ad v w) : AR G h (fun b => b = sysModules) x w := by
  cases v with
  | a y => exact si (P := fun x => AR G h (fun b => b = sysModules) x w) e (wk_sys hv r)
  | r i =>
    refine bs e fun l e1 e2 => ms (P := fun x => AR G h (fun b => b = sysModules) x w) e2 fun as e3 => RVR.rE r fun p ep => ?_
    obtain ⟨vs, n, eh, rs⟩ := lst_obj H e1 ep
    exact .lst eh (own_sys hv H (lstAtE e1 fun e1 => ⟨i, p, _, ep, e1, .head _⟩)) ((rs.toA e3).mono fun _ _ => wk_sys hv)
theorem cmpR_sound (hv : HV G) (H : HR G s.heap F ad hp) {op : CmpOp} {a b : RV} {c : Bool} {v w : Value} {Q : Value → Shared → Prop} (e : cmpR op a b hp = some c) (ra : RVR G s.heap (Xp G F ad hp) ad a v) (rb : RVR G s.heap (Xp G F ad hp) ad b w) (rm : Room A 0)
    (q : ∀ tk, Q (.bool c) { s with toks := tk }) : wpAny (model G.prog G.w) A (compareOp op v w) Q E s := by
  cases a with
  | a x => exact bs e fun y e1 e2 => cmp_sound (X := fun b => b = sysModules) hv rfl e2 (wk_sys hv ra) (cmpV_ok hv H e1 rb) rm q
  | r i =>
    refine bs (f := fun y => cond (isN y) (isNo op) ((cmpV (.r i) hp).bind fun x => cmp op x y)) e fun y e1 e => cs e (fun z e => ?_) fun _ e => bs e fun x e2 e => cmp_sound (X := fun b => b = sysModules) hv rfl e (cmpV_ok hv H e2 ra) (wk_sys hv (rb.ofA e1)) rm q
    have rb' := rb.ofA e1
    refine RVR.rE ra fun p ep => ?_
    refine isN_val (P := fun y => AR G s.heap (Xp G F ad hp) y w → wpAny (model G.prog G.w) A (compareOp op (.ref p.1) w) Q E s) z (fun rb => AR.noneE rb ?_) rb'
    cases op with
    | Is => exact is_none (si (P := fun c => (∀ tk, Q (.bool c) { s with toks := tk }) → Q (.bool false) s) e (fun q => q s.toks) q)
    | IsNot => exact isNot_none (si (P := fun c => (∀ tk, Q (.bool c) { s with toks := tk }) → Q (.bool true) s) e (fun q => q s.toks) q)
    | _ => exact nn e

theorem Room.zero (r : Room A n) : Room A 0 := r.less (Nat.zero_le _)
theorem RVR.boolV {X : Addr → Prop} {rv : RV} {b : Bool} {v : Value} (e : bool? rv = some b) (r : RVR G h X ad rv v) : v = .bool b :=
  bs e fun y e1 e2 => AR.ofBool e2 (RVR.ofA e1 r) rfl

structure CmpI (ih : Ih) (sc : Sc) (loc : Loc) (hp : Hp) (l : Expr) (ops : List CmpOp) (rs : List Expr) (b : Bool) (hp' : Hp) (op : CmpOp) (r : Expr) (x y : RV) (hp1 : Hp) : Prop where
  eo : ops = [op]
  er : rs = [r]
  hm : behindInMarks op r = false
  e1 : ih.ev sc loc hp l = some (x, hp1)
  e2 : ih.ev sc loc hp1 r = some (y, hp')
  e3 : cmpR op x y hp' = some b
theorem evCmp_inv {P : Prop} {l : Expr} {ops : List CmpOp} {rs : List Expr} {b : Bool} (e : evCmp ih sc loc hp l ops rs = some (b, hp')) (k : ∀ op r x y hp1, CmpI ih sc loc hp l ops rs b hp' op r x y hp1 → P) : P :=
  bs e fun op e1 e => bs e fun r e2 e => gs e fun hm e => bs2 e fun x hp1 e3 e => bs2 e fun y hp2 e4 e => me e fun c e5 e =>
    k op r x y hp1 (sp (P := fun b hp' => CmpI ih sc loc hp l ops rs b hp' op r x y hp1) e ⟨oneE (P := fun o => o = [op]) e1 rfl, oneE (P := fun o => o = [r]) e2 rfl, by rw [← Bool.not_eq_true']; exact hm, e3, e4, e5⟩)
theorem evCmp_go (I : SIh G glob n ih) (hv : HV G) {l : Expr} {ops : List CmpOp} {rs : List Expr} {b : Bool} {op : CmpOp} {r : Expr} {x y : RV} (C : CmpI ih sc loc hp l ops rs b hp' op r x y hp1) (rm : Room A n) (H : HR G s.heap F ad hp) (R : FRel G s.heap F ad hp env sc loc) {Q : Value → Shared → Prop}
    (q : ∀ ad' h' tk, HR G h' F ad' hp' → Go G [] F ad hp s.heap ad' hp' h' → Q (.bool b) { s with heap := h', toks := tk }) :
    wpAny (model G.prog G.w) A (eval l env) (fun a s₁ => wpAny (model G.prog G.w) A (eval r env) (fun b s₂ => wpAny (model G.prog G.w) A (compareOp op a b) Q E s₂) E s₁) E s :=
  I.two C.e1 C.e2 rm H R fun ad' h' tk v w H' R' g r1 r2 => cmpR_sound (s := { s with heap := h', toks := tk }) hv H' C.e3 r1 r2 rm.zero fun tk2 => q ad' h' tk2 H' g

theorem boolop_sound (I : SIh G glob n ih) (rm : Room A n) {op : BoolOp} {pos : Pos} : ∀ {es : List Expr} {hp hp' : Hp} {rv : RV} {s : Shared} {ad : Ad} {Q : Value → Shared → Prop}, evBool ih sc loc op hp es = some (rv, hp') → HR G s.heap F ad hp → FRel G s.heap F ad hp env sc loc →
    PQ G s Q F ad hp rv hp' → wpAny (model G.prog G.w) A (boolOp pos op (evalEach es env)) Q E s := fun {es} => by
  induction es with
  | nil => exact fun {hp hp' rv s ad Q} e _ _ _ => nn e
  | cons x r ih' =>
    cases r with
    | nil => exact fun {hp hp' rv s ad Q} e H R q => I.ev e A E env F ad s Q rm H R q
    | cons y r =>
      intro hp hp' rv s ad Q e H R q
      refine bs2 (show (ih.ev sc loc hp x).bind (fun q => (bool? q.1).bind fun b => cond (goOn op b) (evBool ih sc loc op q.2 (y :: r)) (some q)) = some (rv, hp') from e) fun v1 hp1 e1 e => bs e fun b e2 e => ?_
      refine wpAny_bind (I.one e1 rm H R fun ad1 h1 tk1 v H1 R1 g1 r1 => wpAny_bind (wpAny_standAt (wpAny_bind (wpAny_holding ?_))))
      rw [r1.boolV e2]
      rw [r1.boolV e2] at r1
      refine wpAny_truthy_bool ?_
      have go : ∀ {s' : Shared}, goOn op b = true → evBool ih sc loc op hp1 (y :: r) = some (rv, hp') → wpAny (model G.prog G.w) A (boolOp pos op (evalEach (y :: r) env)) Q E { s with heap := h1, toks := tk1 } := fun _ e => ih' (s := { s with heap := h1, toks := tk1 }) e H1 R1 (q.after g1)
      refine cs e (fun z e => ?_) fun z e => ?_
      · have w := go (s' := s) z e
        cases op <;> cases b
        · exact ft z
        · exact w
        · exact w
        · exact ft z
      · have w : wpAny (model G.prog G.w) A (pure (.bool b)) Q E { s with heap := h1, toks := tk1 } := wpAny_pure ((q.at e) ad1 h1 tk1 _ H1 r1 g1)
        cases op <;> cases b
        · exact w
        · exact tf z
        · exact tf z
        · exact w
theorem trBool_sound (I : SIh G glob n ih) (rm : Room A n) {op : BoolOp} : ∀ {es : List Expr} {hp hp' : Hp} {b : Bool} {s : Shared} {ad : Ad} {Q : Bool → Shared → Prop}, trBool ih sc loc op hp es = some (b, hp') → HR G s.heap F ad hp → FRel G s.heap F ad hp env sc loc →
    PB G s Q F ad hp b hp' → wpAny (model G.prog G.w) A (allTrue op es env) Q E s := fun {es} => by
  induction es with
  | nil =>
    intro hp hp' b s ad Q e H R q
    cases op
    · exact wpAny_allTrue_And_nil ((q.at e) ad s.heap s.toks H Go.refl)
    · exact wpAny_allTrue_Or_nil ((q.at e) ad s.heap s.toks H Go.refl)
  | cons x r ih' =>
    intro hp hp' b s ad Q e H R q
    refine bs2 (show (ih.tr sc loc hp x).bind (fun q => cond (goOn op q.1) (trBool ih sc loc op q.2 r) (some q)) = some (b, hp') from e) fun b1 hp1 e1 e => ?_
    have go : trBool ih sc loc op hp1 r = some (b, hp') → ∀ ad1 h1 tk1, HR G h1 F ad1 hp1 → Go G [] F ad hp s.heap ad1 hp1 h1 → wpAny (model G.prog G.w) A (allTrue op r env) Q E { s with heap := h1, toks := tk1 } := fun e ad1 h1 tk1 H1 g1 => ih' (s := { s with heap := h1, toks := tk1 }) e H1 (R.go H g1) (q.after g1)
    have stop : some (b1, hp1) = some (b, hp') → ∀ ad1 h1 tk1, HR G h1 F ad1 hp1 → Go G [] F ad hp s.heap ad1 hp1 h1 → Q b1 { s with heap := h1, toks := tk1 } := fun e => q.at e
    cases op
    · refine wpAny_allTrue_And_cons (I.tr e1 A E env F ad s _ rm H R ?_)
      cases b1
      · exact stop e
      · exact go e
    · refine wpAny_allTrue_Or_cons (I.tr e1 A E env F ad s _ rm H R ?_)
      cases b1
      · exact go e
      · exact stop e

theorem tr_value (I : SIh G glob n ih) {e : Expr} {b : Bool} (ee : ((ih.ev sc loc hp e).bind fun q => (bool? q.1).map fun b => (b, q.2)) = some (b, hp')) (sh : ∀ env, isTrue e env (eval e env) = (do let v ← eval e env; standAt e.pos; holding [v] (truthy v))) : TrAt G n sc loc hp e b hp' :=
  bs2 ee fun v1 hp1 e1 ee => me ee fun b1 e2 ee A E env F ad s Q rm H R q => wpAny_isTrue_value (I.one e1 rm H R fun ad1 h1 tk1 v H1 R1 g1 r1 => by
    rw [r1.boolV e2]
    exact wpAny_truthy_bool ((q.at ee) ad1 h1 tk1 H1 g1)) (sh env)
theorem tr_not (I : SIh G glob n ih) {x : Expr} {pos : Pos} {b : Bool} (ee : (ih.tr sc loc hp x).map (fun q => (!q.1, q.2)) = some (b, hp')) : TrAt G n sc loc hp (.UnaryOp .Not x pos) b hp' :=
  me2 ee fun b1 hp1 e1 e2 A E env F ad s Q rm H R q => wpAny_isTrue_Not (I.tr e1 A E env F ad s _ rm H R fun ad1 h1 tk1 H1 g1 => (q.at e2) ad1 h1 tk1 H1 g1)
theorem tr_cmp (I : SIh G glob n ih) (hv : HV G) {l : Expr} {ops : List CmpOp} {rs : List Expr} {pos : Pos} {b : Bool} (ee : evCmp ih sc loc hp l ops rs = some (b, hp')) : TrAt G n sc loc hp (.Compare l ops rs pos) b hp' :=
  evCmp_inv ee fun op r x y hp1 C A E env F ad s Q rm H R q => by
    rw [C.eo, C.er]
    exact wpAny_isTrue_Compare1 (evCmp_go (Q := fun c s₃ => wpAny (model G.prog G.w) A (truthy c) Q E s₃) I hv C rm H R fun ad1 h1 tk1 H1 g1 => wpAny_truthy_bool (q ad1 h1 tk1 H1 g1)) C.hm
theorem tr_sound (I : SIh G glob n ih) (hv : HV G) {e : Expr} {b : Bool} (ee : stepTr ih sc loc hp e = some (b, hp')) : TrAt G n sc loc hp e b hp' := by
  cases e with
  | UnaryOp op x pos =>
    cases op with
    | Not => exact tr_not I ee
    | _ => exact nn ee
  | BoolOp op vs pos => exact fun A E env F ad s Q rm H R q => wpAny_isTrue_BoolOp (trBool_sound I rm ee H R q)
  | IfExp _ _ _ _ => exact nn ee
  | Compare l ops rs pos => exact tr_cmp I hv ee
  | _ => exact tr_value I ee fun _ => rfl

theorem base_whole {o : Expr} (h : noCall0 o = true) (name : Str) (env : Env) : attributeBase o name env (eval o env) = eval o env := by
  cases o with
  | Call f as ks p =>
    cases f with
    | Name x q =>
      cases as with
      | nil =>
        cases ks with
        | nil => exact ft h
        | cons _ _ => exact rfl
      | cons _ _ => exact rfl
    | _ => exact rfl
  | _ => exact rfl

theorem getL_go (I : SIh G glob n ih) {ol : Option Expr} {orv : Option RV} (e : evOpt ih sc loc hp ol = some (orv, hp')) (rm : Room A n) (H : HR G s.heap F ad hp) (R : FRel G s.heap F ad hp env sc loc) {Q : Value → Shared → Prop}
    (q : ∀ ad' h' tk v, HR G h' F ad' hp' → FRel G h' F ad' hp' env sc loc → Go G [] F ad hp s.heap ad' hp' h' → PartR G h' (Xp G F ad' hp') ad' orv v → Q v { s with heap := h', toks := tk }) :
    wpAny (model G.prog G.w) A (evalPart ol env) Q E s := by
  revert q
  cases ol with
  | none => exact sp (P := fun orv hp' => (∀ ad' h' tk v, HR G h' F ad' hp' → FRel G h' F ad' hp' env sc loc → Go G [] F ad hp s.heap ad' hp' h' → PartR G h' (Xp G F ad' hp') ad' orv v → Q v { s with heap := h', toks := tk }) → wpAny (model G.prog G.w) A (evalPart none env) Q E s) e fun q => wpAny_pure (q ad s.heap s.toks .none H R Go.refl rfl)
  | some x => exact me2 e fun v1 hp1 e1 e => sp (P := fun orv hp' => (∀ ad' h' tk v, HR G h' F ad' hp' → FRel G h' F ad' hp' env sc loc → Go G [] F ad hp s.heap ad' hp' h' → PartR G h' (Xp G F ad' hp') ad' orv v → Q v { s with heap := h', toks := tk }) → wpAny (model G.prog G.w) A (evalPart (some x) env) Q E s) e fun q => I.one e1 rm H R q
theorem PartR.go {o : Option RV} {v : Value} (x : Go G [] F ad hp h ad' hp' h') (r : PartR G h (Xp G F ad hp) ad o v) : PartR G h' (Xp G F ad' hp') ad' o v := by
  cases o with
  | none => exact r
  | some y => exact RVR.go x nil_sub r

section
variable {rv : RV} {pos : Pos}
theorem ev_neg (I : SIh G glob n ih) {x : Expr} (ee : ((ih.ev sc loc hp x).bind fun q => (vI q.1).map fun i => (RV.a (.int (-i)), q.2)) = some (rv, hp')) : EvAt G n sc loc hp (.UnaryOp .USub x pos) rv hp' :=
  bs2 ee fun x hp1 e1 ee => me ee fun i e2 ee A E env F ad s Q rm H R q => wpAny_UnaryOp (I.one e1 rm H R fun ad1 h1 tk1 v H1 R1 g1 r1 =>
    RVR.ofInt (P := fun v => wpAny (model G.prog G.w) A (unaryOp .USub v) Q E { s with heap := h1, toks := tk1 }) e2 r1 fun t => PyProof.Rows.neg_int ((q.at ee) ad1 h1 _ _ H1 (.int _ _) g1))
theorem ev_list (I : SIh G glob n ih) {es : List Expr} {own : Bool} (ee : ((evArgs ih sc loc hp es).bind fun q => mkLst own q.1 q.2) = some (rv, hp')) : EvAt G n sc loc hp (.List es pos) rv hp' :=
  bs2 ee fun rs hp1 e1 ee A E env F ad s Q rm H R q => List_ (args_sound I rm e1 H R fun ad1 h1 tk1 vs H1 R1 g1 r1 => newList_sound (s := { s with heap := h1, toks := tk1 }) H1 ee r1 (q.after g1))
theorem ev_tuple (I : SIh G glob n ih) {es : List Expr} {k : Nat} (ee : ((evArgs ih sc loc hp es).bind fun q => (allA q.1).bind fun l => gd (Nat.ble l.length 4096) (some (RV.a (.tup l), q.2))) = some (rv, hp')) : EvAt G n sc loc hp (.Tuple es k pos) rv hp' :=
  bs2 ee fun rs hp1 e1 ee => bs ee fun l e2 ee => gs ee fun sz ee A E env F ad s Q rm H R q => Tuple_ (args_sound I rm e1 H R fun ad1 h1 tk1 vs H1 R1 g1 r1 => by
    have rl := r1.toA e2
    have sz := Nat.le_of_ble_eq_true sz
    rw [rl.len] at sz
    refine wpAny_newTuple ?_ (by rw [sizeLine_eq]; exact Nat.le_trans sz (by decide))
    have g2 : Go G [] F ad1 hp1 h1 ad1 hp1 (h1.push { cls := .type "tuple", data := .seq vs.toArray 0 }) := Go.push
    exact (q.at ee) ad1 _ tk1 _ H1.push (.tup (Heap.get?_push_size _ rfl) (fun z => H1.fresh (Nat.le_refl _) z) (rl.stay (g2.stay nil_sub))) (g1.trans g2))
theorem ev_cmp (I : SIh G glob n ih) (hv : HV G) {l : Expr} {ops : List CmpOp} {rs : List Expr} (ee : (evCmp ih sc loc hp l ops rs).map (fun q => (RV.a (.bool q.1), q.2)) = some (rv, hp')) : EvAt G n sc loc hp (.Compare l ops rs pos) rv hp' :=
  me2 ee fun b hp1 e1 ee => evCmp_inv e1 fun op r x y hp2 C A E env F ad s Q rm H R q => by
    rw [C.eo, C.er]
    exact wpAny_Compare1 (evCmp_go I hv C rm H R fun ad1 h1 tk1 H1 g1 => (q.at ee) ad1 h1 tk1 _ H1 (.bool _) g1) C.hm
theorem ev_attr (I : SIh G glob n ih) (hi : HI G K fI) {o : Expr} {x : Str} (ee : gd (noCall0 o) ((ih.ev sc loc hp o).bind fun q => (getAttrI q.1 x q.2).map fun v => (v, q.2)) = some (rv, hp')) : EvAt G n sc loc hp (.Attribute o x pos) rv hp' :=
  gs ee fun nc ee => bs2 ee fun y hp1 e1 ee => me ee fun z e2 ee A E env F ad s Q rm H R q => by
    rw [arm_eval_Attribute, base_whole nc]
    refine wpAny_bind (I.one e1 rm H R fun ad1 h1 tk1 v H1 R1 g1 r1 => wpAny_bind (wpAny_standAt (wpAny_bind (wpAny_holding ?_))))
    refine getAttrI_sound (s := { s with heap := h1, toks := tk1 }) hi H1 e2 r1 fun v' tk2 r2 => wpAny_bind (wpAny_letTemporaryGo (wpAny_pure ?_))
    exact (q.at ee) ad1 h1 tk2 v' H1 r2 g1
theorem ev_sub (I : SIh G glob n ih) {o sl : Expr} (ns : noSlice sl) (ee : evSub ih sc loc hp o sl = some (rv, hp')) : EvAt G n sc loc hp (.Subscript o sl pos) rv hp' :=
  bs2 ee fun x hp1 e1 ee => bs2 ee fun y hp2 e2 ee => me ee fun z e3 ee A E env F ad s Q rm H R q => Subscript_ (I.two e1 e2 rm H R fun ad1 h1 tk1 v w H1 R1 g1 r1 r2 =>
    getItemI_sound (s := { s with heap := h1, toks := tk1 }) H1 e3 r1 r2 ns fun v' tk2 r3 => (q.at ee) ad1 h1 tk2 v' H1 r3 g1)
theorem ev_sli (I : SIh G glob n ih) {cfg : Cfg} {o : Expr} {lo hi : Option Expr} {p : Pos} (ee : evSli cfg ih sc loc hp o lo hi pos = some (rv, hp')) : EvAt G n sc loc hp (.Subscript o (.Slice lo hi none p) pos) rv hp' :=
  bs2 ee fun x hp1 e1 ee => bs2 ee fun y hp2 e2 ee => bs2 ee fun z hp3 e3 ee A E env F ad s Q rm H R q => Subscript_ (I.one e1 rm H R fun ad1 h1 tk1 v H1 R1 g1 r1 => wpAny_Slice
    (getL_go (s := { s with heap := h1, toks := tk1 }) I e2 rm H1 R1 fun ad2 h2 tk2 v2 H2 R2 g2 r2 =>
      getL_go (s := { s with heap := h2, toks := tk2 }) I e3 rm H2 R2 fun ad3 h3 tk3 v3 H3 R3 g3 r3 => wpAny_pure
        (slice_sound (s := { s with heap := h3, toks := tk3 }) H3 ee ((r1.go g2 nil_sub).go g3 nil_sub) (r2.go g3) r3 (q.after ((g1.trans g2).trans g3)))))
theorem ev_subs (I : SIh G glob n ih) {cfg : Cfg} {o sl : Expr} (ee : evSubs cfg ih sc loc hp o sl pos = some (rv, hp')) : EvAt G n sc loc hp (.Subscript o sl pos) rv hp' := by
  cases sl with
  | Slice lo hi st p =>
    cases st with
    | none => exact ev_sli I ee
    | some x => exact ev_sub I rfl ee
  | _ => exact ev_sub I rfl ee
/-- which sorts of expression have their own proofs -/
noncomputable def special : Expr → Bool
  | .Dict _ _ _ => true
  | .Call _ _ _ _ => true
  | .ListComp _ _ _ _ => true
  | .IfExp _ _ _ _ => true
  | .BinOp _ _ _ _ => true
  | _ => false
theorem ev_simple (I : SIh G glob n ih) (hv : HV G) (hi : HI G K fI) {cfg : Cfg} {e : Expr} (ee : stepEv cfg ih sc loc hp e = some (rv, hp')) (z : special e = false) : EvAt G n sc loc hp e rv hp' := by
  cases e with
  | Constant c k pos => exact const_at ee
  | Name x pos => exact me ee fun v e1 e2 A E env F ad s Q rm H R q => name_sound R e1 fun v r => (q.at e2).here H r s.toks
  | BoolOp op vs pos => exact fun A E env F ad s Q rm H R q => boolop_sound I rm ee H R q
  | UnaryOp op x pos =>
    cases op with
    | USub => exact ev_neg I ee
    | _ => exact nn ee
  | BinOp l op r p => exact tf z
  | IfExp t b o p => exact tf z
  | Dict a b c => exact tf z
  | Call a b c d => exact tf z
  | ListComp a b c d => exact tf z
  | List es pos => exact ev_list I ee
  | Tuple es k pos => exact ev_tuple I ee
  | Compare l ops rs pos => exact ev_cmp I hv ee
  | Attribute o x pos => exact ev_attr I hi ee
  | Subscript o sl pos => exact ev_subs I ee
  | _ => exact nn ee
theorem bin_plain (I : SIh G glob n ih) {l r : Expr} {op : Operator} (ee : evBin ih sc loc hp l op r = some (rv, hp')) : EvAt G n sc loc hp (.BinOp l op r pos) rv hp' :=
  bs2 ee fun x hp1 e1 ee => bs2 ee fun y hp2 e2 ee => bs ee fun x' e3 ee => bs ee fun y' e4 ee => me ee fun z e5 ee A E env F ad s Q rm H R q =>
    wpAny_BinOp (I.two e1 e2 rm H R fun ad1 h1 tk1 v w H1 R1 g1 r1 r2 =>
      binop_sound (s := { s with heap := h1, toks := tk1 }) e5 (r1.ofA e3) (r2.ofA e4) (fun b z => H1.fresh z) (((q.at ee).after g1).fq H1))
end
end
end Mine
end
section
open PySem PySem.W PyProof.Rows PySem.Calls
namespace Mine

section
variable {G : Gnd} {glob : Str → Option Addr} {n : Nat} {ih : Ih} {A : Around} {E : Value → Shared → Prop} {s : Shared} {env : Env} {W W' F F' : List Addr} {ad ad' : Ad} {hp hp' hp1 hp2 : Hp} {h h' h'' : Heap} {sc : Sc} {loc : Loc} {X X' : Addr → Prop}
variable {K : Frag} {fI : Addr}

theorem Go.wide (g : Go G W F ad hp h ad' hp' h') (k : ∀ b ∈ W, b ∈ W') : Go G W' F ad hp h ad' hp' h' :=
  ⟨g.size, g.ext, g.grow, fun b o e no w => g.keep b o e no fun z => w (k b z)⟩
theorem guard_stay (H : HR G h F ad hp) (k : ∀ b o, h.get? b = some o → h'.get? b = some o) (hD : ∀ b ∈ F', b ∈ F ∨ h.objs.size ≤ b ∧ b < h'.objs.size) : Stay G h h' (Xp G F ad hp) (Xp G F' ad hp) :=
  ⟨fun b o e _ => .inl (k b o e), fun b o e q y => y.elim (fun y => q (.inl y)) fun y => y.elim (fun y => (hD b y).elim (fun w => q (.inr (.inl w))) fun w => absurd (Heap.lt_size e) (Nat.not_lt.mpr w.1)) fun y => q (.inr (.inr y))⟩
theorem FRel.guard (R : FRel G h F ad hp env sc loc) (H : HR G h F ad hp) (k : ∀ b o, h.get? b = some o → h'.get? b = some o) (hD : ∀ b ∈ F', b ∈ F ∨ h.objs.size ≤ b ∧ b < h'.objs.size) (s : ∀ b ∈ F, b ∈ F') : FRel G h' F' ad hp env sc loc :=
  R.keepF s (fun b _ o e => k b o e) fun rv v r => r.stay (guard_stay H k hD) fun _ _ e => e
/-- a guarded address is written -/
theorem wr_stay {d : Addr} (hd : d ∈ F) (hs : Heap.SameBut d h h') : Stay G h h' (Xp G F ad hp) (Xp G F ad hp) :=
  ⟨fun b o e q => .inl ((hs.2 b (fun z => q (.inr (.inl (z ▸ hd))))).trans e), fun b o e q => q⟩
theorem HR.wr (H : HR G h F ad hp) {d : Addr} (hd : d ∈ F) (hs : Heap.SameBut d h h') : HR G h' F ad hp :=
  ⟨fun b o e => (hs.2 b fun z => Nat.not_lt.mpr (H.fr b (z ▸ hd)).1 (Heap.lt_size e)).trans (H.base b o e), by rw [hs.1]; exact H.size, H.len,
    fun i o p e ep => OR.stay (wr_stay hd hs) (fun _ _ e => e) (fun b hb ob eb => (hs.2 b (fun z => (H.lo b ⟨i, p, o, ep, e, hb⟩).2.2 (z ▸ hd))).trans eb) (H.obj i o p e ep), H.nd, fun b q => by rw [hs.1]; exact H.lo b q, fun b q => by rw [hs.1]; exact H.fr b q⟩
theorem Go.wr {d : Addr} (hd : d ∈ W) (hs : Heap.SameBut d h h') : Go G W F ad hp h ad hp h' :=
  ⟨by rw [hs.1]; exact Nat.le_refl _, fun _ _ e => e, fun _ e => .inl e, fun b o e _ w => .inl ((hs.2 b (fun z => w (z ▸ hd))).trans e)⟩

noncomputable def KVv (G : Gnd) (h : Heap) (X : Addr → Prop) (ad : Ad) (p : Str × RV) (q : Str × Value) : Prop := p.1 = q.1 ∧ RVR G h X ad p.2 q.2
noncomputable abbrev KV (G : Gnd) (h : Heap) (X : Addr → Prop) (ad : Ad) : List (Str × RV) → List (Str × Value) → Prop := All2 (KVv G h X ad)
theorem KV.stay (S : Stay G h h' X X') (E : ∀ i p, nth ad i = some p → nth ad' i = some p) {l : List (Str × RV)} {kvs : List (Str × Value)} (r : KV G h X ad l kvs) : KV G h' X' ad' l kvs := r.mono fun _ _ r => ⟨r.1, r.2.stay S E⟩
theorem KV.keys : ∀ {l : List (Str × RV)} {kvs : List (Str × Value)}, KV G h X ad l kvs → l.map (·.1) = kvs.map (·.1) := fun {l} => by
  induction l with
  | nil => exact fun {kvs} r => All2.nilE (P := fun kvs => ([] : List (Str × RV)).map (·.1) = kvs.map (fun x : Str × Value => x.1)) r rfl
  | cons p l ih => exact fun {kvs} r => All2.consE (P := fun kvs => (p :: l).map (·.1) = kvs.map (fun x : Str × Value => x.1)) r fun y m r rs => by rw [List.map_cons, List.map_cons, r.1, ih rs]
theorem ent_is {e : DictEntry} {x : Str} {v : Value} (h1 : (PySem.strKind G.prog G.w).is x e.key = true) (h2 : e.val = v) (k : ∃ k, (PySem.strKind G.prog G.w).is k e.key = true ∧ e.hash = PyData.keyHash G.w.params k) : ∃ t, e = kent G.w.params x t v := by
  obtain ⟨t, ht⟩ := Value.isStrOf_shape h1
  obtain ⟨k0, e1, e2⟩ := k
  obtain ⟨u, hu⟩ := Value.isStrOf_shape e1
  have z : x = k0 := (Value.str.inj (ht.symm.trans hu)).1
  refine ⟨t, ?_⟩
  rw [kent, z, ← e2, ← h2, ← z, ← ht]
theorem kv_from : ∀ {l : List (Str × RV)} {kvs : List (Str × Value)} {es : List DictEntry}, KV G h X ad l kvs → Pairs (PySem.strKind G.prog G.w) es kvs → (∀ e ∈ es, ∃ k, (PySem.strKind G.prog G.w).is k e.key = true ∧ e.hash = PyData.keyHash G.w.params k) → RVRd G h X ad l es := fun {l} => by
  induction l with
  | nil =>
    exact fun {kvs es} r ps _ => All2.nilE (P := fun kvs => Pairs (PySem.strKind G.prog G.w) es kvs → RVRd G h X ad [] es) r (fun ps => by cases ps; exact trivial) ps
  | cons x l ih' =>
    refine fun {kvs es} r ps k => All2.consE (P := fun kvs => Pairs (PySem.strKind G.prog G.w) es kvs → RVRd G h X ad (x :: l) es) r (fun y m r rs ps => ?_) ps
    cases ps with
    | cons h1 h2 ps =>
      obtain ⟨t, e⟩ := ent_is h1 h2 (k _ (.head _))
      exact ⟨⟨t, _, by rw [r.1]; exact e, r.2⟩, ih' rs ps fun e he => k e (.tail _ he)⟩
theorem dict_from {d : Addr} {l : List (Str × RV)} {kvs : List (Str × Value)} (x : h.DictOf (PySem.strKind G.prog G.w) d kvs) (kv : KV G h X ad l kvs) : ∃ es n, h.get? d = some (dictOf es n) ∧ RVRd G h X ad l es := by
  obtain ⟨⟨c, dd, dt, sl⟩, es, ep, ho, ⟨hc, hd, hs⟩, hdat, hk, hp, nd⟩ := x
  simp only at hc hd hs hdat
  subst hc; subst hd; subst hs; subst hdat
  refine ⟨es.toList, ep, by rw [ho], kv_from kv hp fun e he => ?_⟩
  exact hk e (by simpa using he)
theorem kv_to : ∀ {l : List (Str × RV)} {es : List DictEntry}, RVRd G h X ad l es → ∃ kvs, KV G h X ad l kvs ∧ Pairs (PySem.strKind G.prog G.w) es kvs := fun {l} => by
  induction l with
  | nil => exact fun {es} r => All2.nilE (P := fun es => ∃ kvs, KV G h X ad [] kvs ∧ Pairs (PySem.strKind G.prog G.w) es kvs) r ⟨[], trivial, .nil⟩
  | cons x l ih' =>
    refine fun {es} r => All2.consE (P := fun es => ∃ kvs, KV G h X ad (x :: l) kvs ∧ Pairs (PySem.strKind G.prog G.w) es kvs) r fun y m r rs => ?_
    obtain ⟨kvs, h1, h2⟩ := ih' rs
    obtain ⟨t, v, rfl, r⟩ := r
    exact ⟨(x.1, v) :: kvs, ⟨⟨rfl, r⟩, h1⟩, .cons (strKind_is G.prog G.w x.1 t) rfl h2⟩
theorem dict_to {d : Addr} {l : List (Str × RV)} {es : List DictEntry} {n : Nat} (e : h.get? d = some (dictOf es n)) (r : RVRd G h X ad l es) (nd : (l.map (·.1)).Nodup) : ∃ kvs, h.DictOf (PySem.strKind G.prog G.w) d kvs ∧ KV G h X ad l kvs := by
  obtain ⟨kvs, h1, h2⟩ := kv_to r
  refine ⟨kvs, ⟨_, es.toArray, n, e, ⟨rfl, rfl, rfl⟩, rfl, fun en he => ?_, h2, by rw [← h1.keys]; exact nd⟩, h1⟩
  obtain ⟨x, t, e1, e2⟩ := keys_all r en (by simpa using he)
  exact ⟨x, by rw [e1]; exact strKind_is G.prog G.w x t, e2⟩
theorem stored_hit {x : Str} {v v' : Value} {kvs : List (Str × Value)} (no : x ∉ kvs.map (·.1)) : stored ((x, v') :: kvs) x v = (x, v) :: kvs := by
  unfold stored
  rw [if_pos (by simp), List.map_cons]
  simp only [if_true]
  congr 1
  refine (List.map_congr_left (g := id) fun p hp => if_neg fun q => no (by rw [← q]; exact List.mem_map_of_mem hp)).trans (List.map_id _)
theorem stored_miss {x y : Str} {v v' : Value} {kvs : List (Str × Value)} (z : ¬ y = x) : stored ((y, v') :: kvs) x v = (y, v') :: stored kvs x v := by
  unfold stored
  rw [List.any_cons, decide_eq_false (show ¬ (y, v').1 = x from z), Bool.false_or, List.map_cons, if_neg z]
  exact (apply_ite (List.cons (y, v')) _ _ _).symm
theorem stored_kv {x : Str} {y : RV} {v : Value} (r : RVR G h X ad y v) : ∀ {l : List (Str × RV)} {kvs : List (Str × Value)}, KV G h X ad l kvs → (l.map (·.1)).Nodup → KV G h X ad (aset x y l) (stored kvs x v) := fun {l} => by
  induction l with
  | nil => exact fun {kvs} q _ => All2.nilE (P := fun kvs => KV G h X ad [(x, y)] (stored kvs x v)) q ⟨⟨rfl, r⟩, trivial⟩
  | cons p l ih' =>
    refine fun {kvs} q nd => All2.consE (P := fun kvs => KV G h X ad (cond (seq x p.1) ((p.1, y) :: l) (p :: aset x y l)) (stored kvs x v)) q fun u m r' rs => ?_
    obtain ⟨u1, u2⟩ := u
    have nd := List.nodup_cons.mp nd
    cases z : seq x p.1 with
    | true =>
      have z := seq_iff.mp z
      have no : p.1 ∉ m.map (·.1) := KV.keys rs ▸ nd.1
      rw [← z] at no
      rw [← (show p.1 = u1 from r'.1), ← z, stored_hit no]
      exact ⟨⟨rfl, r⟩, rs⟩
    | false =>
      rw [← (show p.1 = u1 from r'.1), stored_miss fun q => seq_false.mp z q.symm]
      exact ⟨⟨rfl, r'.2⟩, ih' rs nd.2⟩
theorem aset_keys {β : Type} {x : Str} {y : β} : ∀ {l : List (Str × β)}, (l.map (·.1)).Nodup → ((aset x y l).map (·.1)).Nodup ∧ ∀ z, z ∈ (aset x y l).map (·.1) → z = x ∨ z ∈ l.map (·.1) := fun {l} => by
  induction l with
  | nil => exact fun _ => ⟨List.nodup_cons.mpr ⟨fun q => (nomatch q), List.nodup_nil⟩, fun z hz => .inl (List.mem_singleton.mp hz)⟩
  | cons p l ih =>
    intro nd
    show ((cond (seq x p.1) ((p.1, y) :: l) (p :: aset x y l)).map (·.1)).Nodup ∧ ∀ z, z ∈ (cond (seq x p.1) ((p.1, y) :: l) (p :: aset x y l)).map (·.1) → z = x ∨ z ∈ p.1 :: l.map (·.1)
    have nd' := List.nodup_cons.mp nd
    cases z : seq x p.1 with
    | true => exact ⟨nd, fun _ hz => .inr hz⟩
    | false =>
      obtain ⟨a, b⟩ := ih nd'.2
      exact ⟨List.nodup_cons.mpr ⟨fun q => (b _ q).elim (fun q => seq_false.mp z q.symm) nd'.1, a⟩, fun u hu => (List.mem_cons.mp hu).elim (fun q => .inr (q ▸ .head _)) fun hu => (b u hu).imp id (.tail _)⟩
theorem merged_new : ∀ (kvs acc : List (Str × Value)), ((acc ++ kvs).map (·.1)).Nodup → merged acc kvs = acc ++ kvs := fun kvs => by
  induction kvs with
  | nil => exact fun acc _ => (List.append_nil acc).symm
  | cons p r ih =>
    intro acc nd
    have e : stored acc p.1 p.2 = acc ++ [p] := by
      unfold stored
      rw [if_neg]
      intro q
      obtain ⟨p', hp, q⟩ := List.any_eq_true.mp q
      rw [List.map_append] at nd
      exact (List.nodup_append.mp nd).2.2 p'.1 (List.mem_map_of_mem hp) p.1 (.head _) (of_decide_eq_true q)
    show merged (stored acc p.1 p.2) r = _
    rw [e, ih (acc ++ [p]) (by rw [List.append_assoc]; exact nd), List.append_assoc]
    exact rfl
theorem nodupS_iff : ∀ {l : List Str}, nodupS l = true → l.Nodup := fun {l} => by
  induction l with
  | nil => exact fun _ => List.nodup_nil
  | cons x r ih =>
    intro e
    obtain ⟨q, e⟩ := Bool.and_eq_true_iff.mp e
    rw [Bool.not_eq_true'] at q
    exact List.nodup_cons.mpr ⟨fun hx => List.any_eq_false.mp q x hx (seq_iff.mpr rfl), ih e⟩

noncomputable def keyTree (env : Env) : Option Expr → Sem Value
  | some e => eval e env
  | none => pure .none
theorem keyE {P : Option Expr → Prop} {k : Option Expr} {x : Str} (e : k.bind eStr = some x) (q : ∀ n p, P (some (.Constant (.str x) n p))) : P k :=
  bs (o := k) (P := P k) e fun e0 e1 e2 => by
    rw [e1]
    cases e0 with
    | Constant c n p =>
      cases c with
      | str y => exact si (P := fun x => (∀ n p, P (some (.Constant (.str x) n p))) → P (some (.Constant (.str y) n p))) e2 (fun q => q n p) q
      | _ => exact nn e2
    | _ => exact nn e2
theorem evPairs_cons {P : Option Expr → List (Str × RV) → Prop} {k : Option Expr} {v : Expr} {ks : List (Option Expr)} {vs : List Expr} {ps : List (Str × RV)} (e : evPairs ih sc loc hp (k :: ks) (v :: vs) = some (ps, hp'))
    (q : ∀ x n p v1 hp1 l, ih.ev sc loc hp v = some (v1, hp1) → evPairs ih sc loc hp1 ks vs = some (l, hp') → P (some (.Constant (.str x) n p)) ((x, v1) :: l)) : P k ps :=
  bs e fun x e1 e => bs2 e fun v1 hp1 e2 e => me2 e fun l hp2 e3 e => keyE (P := fun k => P k ps) e1 fun n p =>
    sp (P := fun ps hp' => (∀ x n p v1 hp1 l, ih.ev sc loc hp v = some (v1, hp1) → evPairs ih sc loc hp1 ks vs = some (l, hp') → P (some (.Constant (.str x) n p)) ((x, v1) :: l)) → P (some (.Constant (.str x) n p)) ps) e (fun q => q x n p v1 hp1 l e2 e3) q
noncomputable def valTrees (pos : Pos) (env : Env) (vs : List Expr) : List (Sem Value) := (evalEach vs env).map fun v => (do let x ← v; standAt pos; pure x : Sem Value)
noncomputable def PShape (env : Env) (pos : Pos) (ks : List (Option Expr)) (vs : List Expr) (ps : List (Str × RV)) : Prop :=
  ((evalEachOpt ks env).zip (valTrees pos env vs) = ((ks.map (keyTree env)).zip (valTrees pos env vs)).map fun p => (some p.1, p.2)) ∧ ks.length = ps.length ∧ vs.length = ps.length
theorem pairs_shape (pos : Pos) : ∀ {ks : List (Option Expr)} {vs : List Expr} {hp hp' : Hp} {ps : List (Str × RV)}, evPairs ih sc loc hp ks vs = some (ps, hp') → PShape env pos ks vs ps := fun {ks} => by
  induction ks with
  | nil =>
    intro vs hp hp' ps e
    cases vs with
    | nil => exact sp (P := fun ps _ => PShape env pos [] [] ps) e ⟨rfl, rfl, rfl⟩
    | cons _ _ => exact nn e
  | cons k ks ih' =>
    intro vs hp hp' ps e
    cases vs with
    | nil => exact nn e
    | cons v vs =>
      refine evPairs_cons (P := fun k ps => PShape env pos (k :: ks) (v :: vs) ps) e fun x n p v1 hp1 l _ e3 => ?_
      have q := ih' e3
      exact ⟨congrArg (fun r => ((some (eval (.Constant (.str x) n p) env) : Option (Sem Value)), (do let x ← eval v env; standAt pos; pure x : Sem Value)) :: r) q.1, congrArg (· + 1) q.2.1, congrArg (· + 1) q.2.2⟩
noncomputable def PairQ (G : Gnd) (s : Shared) (F : List Addr) (ad : Ad) (hp hp' : Hp) (ps : List (Str × RV)) (Q : List (Value × Value) → Shared → Prop) : Prop :=
  ∀ ad' h' tk vs kvs, HR G h' F ad' hp' → Go G [] F ad hp s.heap ad' hp' h' → Carries (PySem.strKind G.prog G.w) vs kvs → KV G h' (Xp G F ad' hp') ad' ps kvs → Q vs { s with heap := h', toks := tk }
theorem pairs_sound (I : SIh G glob n ih) (rm : Room A n) {pos : Pos} : ∀ {ks : List (Option Expr)} {vs : List Expr} {hp hp' : Hp} {ps : List (Str × RV)} {s : Shared} {ad : Ad} {Q : List (Value × Value) → Shared → Prop}, evPairs ih sc loc hp ks vs = some (ps, hp') → HR G s.heap F ad hp → FRel G s.heap F ad hp env sc loc →
    PairQ G s F ad hp hp' ps Q → wpAny (model G.prog G.w) A (evalPairs ((ks.map (keyTree env)).zip (valTrees pos env vs))) Q E s := fun {ks} => by
  induction ks with
  | nil =>
    intro vs hp hp' ps s ad Q e H R q
    cases vs with
    | nil => exact wpAny_pure (sp (P := fun ps hp' => PairQ G s F ad hp hp' ps Q → Q [] s) e (fun q => q ad s.heap s.toks [] [] H Go.refl trivial trivial) q)
    | cons _ _ => exact nn e
  | cons k ks ih' =>
    intro vs hp hp' ps s ad Q e H R q
    cases vs with
    | nil => exact nn e
    | cons v vs =>
      refine evPairs_cons (P := fun k ps => PairQ G s F ad hp hp' ps Q → wpAny (model G.prog G.w) A (evalPairs (((k :: ks).map (keyTree env)).zip (valTrees pos env (v :: vs)))) Q E s) e (fun x n p v1 hp1 l e2 e3 q => ?_) q
      refine wpAny_bind (@wpAny_Constant_str (model G.prog G.w) A E s env x n p _ (wpAny_bind (wpAny_holding (wpAny_bind (I.one (s := { s with toks := s.toks + 1 }) e2 rm H R fun ad1 h1 tk1 w H1 R1 g1 r1 => wpAny_bind (wpAny_standAt (wpAny_pure ?_)))))))
      refine wpAny_bind (wpAny_holding (ih' (s := { s with heap := h1, toks := tk1 }) e3 H1 R1 fun ad2 h2 tk2 ws kvs H2 g2 c r2 => wpAny_pure ?_))
      exact q ad2 h2 tk2 _ ((x, w) :: kvs) H2 (g1.trans g2) ⟨strKind_is G.prog G.w x _, rfl, c⟩ ⟨⟨rfl, r1.go g2 nil_sub⟩, r2⟩

theorem allAd_rvd : ∀ {l : List (Str × RV)} {l' : List (Str × AV)} {es : List DictEntry}, allAd l = some l' → RVRd G h X ad l es → ARd G h X l' es ∧ l'.map (·.1) = l.map (·.1) := fun {l} => by
  induction l with
  | nil => exact fun {l' es} e r => si (P := fun l' => ARd G h X l' es ∧ l'.map (·.1) = []) e ⟨All2.nilE (P := fun es => ARd G h X [] es) r trivial, rfl⟩
  | cons p l ih =>
    exact fun {l' es} e r => bs e fun v e1 e => ms (P := fun l' => ARd G h X l' es ∧ l'.map (·.1) = p.1 :: l.map (·.1)) e fun l2 e2 => All2.consE (P := fun es => ARd G h X ((p.1, v) :: l2) es ∧ p.1 :: l2.map (·.1) = p.1 :: l.map (·.1)) r fun y m r rs =>
      ⟨⟨Exists.elim r fun t r => Exists.elim r fun w r => ⟨t, w, r.1, RVR.ofA e1 r.2⟩, (ih e2 rs).1⟩, congrArg (p.1 :: ·) (ih e2 rs).2⟩

theorem dict_fin {Q : Value → Shared → Prop} {ps : List (Str × RV)} {own : Bool} {rv : RV} {d : Addr} {h1 : Heap} {ad1 : Ad} {tk : Nat} {kvs : List (Str × Value)} (ee : cond own (some (.r hp1.length, hp1 ++ [.dct ps])) ((allAd ps).map fun l => (.a (.dct l), hp1)) = some (rv, hp')) (nd : (ps.map (·.1)).Nodup) (lt : ps.length < 5)
    (q : PQ G s Q F ad hp rv hp') (sz : G.h0.objs.size ≤ d) (z : s.heap.objs.size ≤ d) (dF : d ∉ F) (H1 : HR G h1 (d :: F) ad1 hp1) (g2 : Go G [] F ad hp s.heap ad1 hp1 h1) (kv : KV G h1 (Xp G (d :: F) ad1 hp1) ad1 ps kvs) (D : h1.DictOf (PySem.strKind G.prog G.w) d kvs) : Q (.ref d) { s with heap := h1, toks := tk } := by
  obtain ⟨es, m, eo, rd⟩ := dict_from D kv
  refine cs ee (fun _ ee => ?_) fun _ ee => me ee fun l e2 ee => ?_
  · have H2 := H1.give (O := .dct ps) rfl dF ⟨es, m, eo, rd.stay (stay_weaken fun _ z => z) fun _ _ e => nth_app e, nd⟩
    refine (q.at ee) _ h1 tk _ H2 ⟨(d, d), ?_, rfl⟩ (g2.give (O := .dct ps) H1 rfl z)
    show nth (ad1 ++ _) hp1.length = _
    rw [← H1.len]; exact nth_snoc
  · obtain ⟨rd', ek⟩ := allAd_rvd e2 rd
    exact (q.at ee) ad1 h1 tk _ (H1.less fun b hb => .tail _ hb) (.dct eo (fun z => z.elim (fun z => Nat.not_lt.mpr sz z) fun z => z.elim dF fun z => (H1.lo _ z).2.2 (.head _)) (by rw [← List.length_map (f := (·.1)), ek, List.length_map]; exact lt) (by rw [ek]; exact nd) (rd'.stay (stay_weaken fun b z => Xp.less (fun b hb => .tail _ hb) z))) g2
theorem evalEach_len (vs : List Expr) : (evalEach vs env).length = vs.length := by
  induction vs with
  | nil => rfl
  | cons _ _ ih => exact congrArg (· + 1) ih
theorem push_guard {o : Obj} : ∀ b ∈ h.objs.size :: F, b ∈ F ∨ h.objs.size ≤ b ∧ b < (h.push o).objs.size := fun b hb => (List.mem_cons.mp hb).elim (fun q => .inr ⟨Nat.le_of_eq q.symm, by rw [Heap.size_push, q]; exact Nat.lt_succ_self _⟩) .inl
theorem dict_sound (I : SIh G glob n ih) {ks : List (Option Expr)} {vs : List Expr} {pos : Pos} {cfg : Cfg} {rv : RV} (e0 : evDict cfg ih sc loc hp ks vs pos = some (rv, hp')) : EvAt G n sc loc hp (.Dict ks vs pos) rv hp' :=
  bs2 e0 fun ps hp1 e1 e0' => gs e0' fun nd0 e0'' => gs e0'' fun lt ee A E env F ad s Q rm H R q => by
    have nd := nodupS_iff nd0
    have lt : ps.length < 5 := Nat.le_of_ble_eq_true lt
    have dF : s.heap.objs.size ∉ F := fun z => Nat.lt_irrefl _ (H.fr _ z).2
    have H0 := H.guard (F' := s.heap.objs.size :: F) (push_keep (o := { cls := .type "dict", data := .dict #[] })) push_size push_guard
    have R0 := R.guard (F' := s.heap.objs.size :: F) H (push_keep (o := { cls := .type "dict", data := .dict #[] })) push_guard fun b hb => .tail _ hb
    have ug : ∀ {ad1 h1}, Go G [s.heap.objs.size] (s.heap.objs.size :: F) ad hp (s.heap.push { cls := .type "dict", data := .dict #[] }) ad1 hp1 h1 → Go G [] F ad hp s.heap ad1 hp1 h1 := fun g1 => g1.unguard push_keep push_size (fun b hb => .tail _ hb) fun b hb => .inr (Nat.le_of_eq (List.mem_singleton.mp hb).symm)
    obtain ⟨sh, l1, l2⟩ := pairs_shape (env := env) pos e1
    cases ks with
    | nil =>
      cases vs with
      | nil => exact wpAny_Dict_empty (sp (P := fun ps hp1 => ps = ps ∧ cond (cfg.own pos) (some (.r hp1.length, hp1 ++ [.dct ps])) ((allAd ps).map fun l => (.a (.dct l), hp1)) = some (rv, hp') ∧ (ps.map (·.1)).Nodup ∧ ps.length < 5 → Q (.ref s.heap.objs.size) { s with heap := s.heap.push { cls := .type "dict", data := .dict #[] } }) e1 (fun z => dict_fin (tk := s.toks) (kvs := []) z.2.1 z.2.2.1 z.2.2.2 q H.size (Nat.le_refl _) dF H0 (Go.push) trivial (Heap.DictOf.new _)) ⟨rfl, ee, nd, lt⟩)
      | cons _ _ => exact nn e1
    | cons k ks =>
      have lz : ((List.map (keyTree env) (k :: ks)).zip (valTrees pos env vs)).length = ps.length := by
        rw [List.length_zip, List.length_map, valTrees, List.length_map, evalEach_len, l1, l2, Nat.min_self]
      refine wpAny_Dict_pairs (knd := PySem.strKind G.prog G.w) sh (fun z => ?_) (Nat.le_trans (Nat.le_of_eq lz) (Nat.le_trans (Nat.le_of_lt lt) (by decide))) (pairs_sound I (s := { s with heap := s.heap.push { cls := .type "dict", data := .dict #[] } }) rm e1 H0 R0 fun ad1 h1 tk1 ws kvs H1 g1 c kv => ?_)
      · rw [z, ← l1] at lz; exact Nat.noConfusion lz
      · have nd' : (kvs.map (·.1)).Nodup := by rw [← kv.keys]; exact nd
        refine ⟨kvs, c, Heap.DictOf.at (Heap.DictOf.new s.heap) fun o e => g1.frameAt H0 (.head _) e, fun h2 D hs => ?_⟩
        rw [merged_new kvs [] nd', List.nil_append] at D
        have S2 := wr_stay (G := G) (ad := ad1) (hp := hp1) (F := s.heap.objs.size :: F) (.head _) hs
        exact dict_fin (s := s) ee nd lt q H.size (Nat.le_refl _) dF (H1.wr (.head _) hs) (ug ((g1.wide nil_sub).trans (Go.wr (.head _) hs))) (kv.stay S2 fun _ _ e => e) D
end
end Mine
end
section
open PySem PySem.W PyProof.Rows PySem.Calls
namespace Mine

section
variable {G : Gnd} {glob : Str → Option Addr} {n : Nat} {ih : Ih} {A : Around} {E : Value → Shared → Prop} {s : Shared} {env : Env} {W W' F F' : List Addr} {ad ad' : Ad} {hp hp' hp1 hp2 : Hp} {h h' h'' : Heap} {sc : Sc} {loc loc' : Loc} {X X' : Addr → Prop}
variable {K : Frag} {fI : Addr}

theorem aset_same {β : Type} {x : Str} {v : β} : ∀ {l : List (Str × β)}, alook x (aset x v l) = some v := fun {l} => by
  induction l with
  | nil =>
    show cond (seq x x) (some v) none = some v
    rw [seq_iff.mpr rfl]; exact rfl
  | cons p l ih =>
    show alook x (cond (seq x p.1) ((p.1, v) :: l) (p :: aset x v l)) = some v
    cases z : seq x p.1 with
    | true => show cond (seq x p.1) (some v) _ = _; rw [z]; exact rfl
    | false => show cond (seq x p.1) (some p.2) (alook x (aset x v l)) = _; rw [z]; exact ih
theorem aset_other {β : Type} {x y : Str} {v : β} (ne : ¬ y = x) : ∀ {l : List (Str × β)}, alook y (aset x v l) = alook y l := fun {l} => by
  induction l with
  | nil => show cond (seq y x) (some v) none = none; rw [seq_false.mpr ne]; exact rfl
  | cons p l ih =>
    show alook y (cond (seq x p.1) ((p.1, v) :: l) (p :: aset x v l)) = cond (seq y p.1) (some p.2) (alook y l)
    cases z : seq x p.1 with
    | true =>
      show cond (seq y p.1) (some v) (alook y l) = _
      rw [seq_false.mpr fun q => ne (q.trans (seq_iff.mp z).symm)]; exact rfl
    | false => show cond (seq y p.1) (some p.2) (alook y (aset x v l)) = _; rw [ih]
/-- a stored name's value, or another's as before -/
theorem asetE {β : Type} {P : β → Prop} {x y : Str} {v u : β} {l : List (Str × β)} (e : alook y (aset x v l) = some u) (same : y = x → P v) (other : ¬ y = x → alook y l = some u → P u) : P u :=
  (Decidable.em (y = x)).elim (fun z => si (P := fun u => (alook y l = some u → P u) → P u) (by rw [← e, z]; exact aset_same.symm) (fun _ => same z) (fun q => si (P := P) (by rw [← e, z]; exact aset_same.symm) (same z))) fun z => other z (by rw [← e, aset_other z])
theorem isLoc_kind (R : FRel G h F ad hp env sc loc) {x : Str} (e : isLoc sc x = true) : env.kindOf x = some .local ∨ env.kindOf x = some .cell := by
  unfold isLoc at e
  cases q : alook x sc with
  | none => rw [q] at e; exact ft e
  | some k =>
    rw [q] at e
    cases k with
    | «local» => exact .inl (R.tyl x q)
    | cell => exact .inr (R.tyc x q)
    | _ => exact ft e
theorem st_id {d : Addr} (hd : d ∈ F) (hs : Heap.SameBut d h h') {rv : RV} {v : Value} (r : RVR G h (Xp G F ad hp) ad rv v) : RVR G h' (Xp G F ad hp) ad rv v := r.stay (wr_stay hd hs) fun _ _ e => e
theorem store_local (lF : env.locals ∈ F) (R : FRel G h F ad hp env sc loc) {x : Str} {rv : RV} {v : Value} (k : env.kindOf x = some .local) (r : RVR G h (Xp G F ad hp) ad rv v) {m : Str → Option Value} (f : ∀ y rv, alook y loc = some rv → env.kindOf y = some .local → ∃ v, m y = some v ∧ RVR G h (Xp G F ad hp) ad rv v) {h1 : Heap} {m1 : Str → Option Value} (n1 : h1.Ns env.locals m1) (a1 : m1 x = some v) (a2 : ∀ y, ¬ y = x → m1 y = m y) (hs : Heap.SameBut env.locals h h1) : FRel G h1 F ad hp env sc (aset x rv loc) := by
  refine ⟨R.kind, R.glob, R.bltn, R.tyl, R.tyc, R.tyf, R.tyg, R.nodbg, fun y rv' e => ?_, ⟨m1, n1, fun y rv' e l => ?_⟩, fun y l => ?_, R.inj, lF⟩
  · exact asetE (P := fun _ => env.kindOf y = some .local ∨ env.kindOf y = some .cell ∨ env.kindOf y = some .free) e (fun z => .inl (z ▸ k)) fun _ e => R.kinds y rv' e
  · exact asetE (P := fun rv' => ∃ v, m1 y = some v ∧ RVR G h1 (Xp G F ad hp) ad rv' v) e (fun z => ⟨v, z ▸ a1, st_id lF hs r⟩) fun z e => Exists.elim (f y rv' e l) fun w q => ⟨w, (a2 y z).trans q.1, st_id lF hs q.2⟩
  · obtain ⟨c, cv, e1, e2, e3, e4, e5⟩ := R.cell y l
    refine ⟨c, cv, e1, cellAt0 e2 fun o e => (hs.2 c e4).trans e, e3, e4, fun rv' e => asetE (P := fun rv' => ∃ v, cv = some v ∧ RVR G h1 (Xp G F ad hp) ad rv' v) e (fun z => ?_) fun z e => Exists.elim (e5 rv' e) fun w q => ⟨w, q.1, st_id lF hs q.2⟩⟩
    rw [z, k] at l
    exact l.elim (fun l => nomatch l) fun l => nomatch l
theorem store_cell (R : FRel G h F ad hp env sc loc) {x : Str} {rv : RV} {v : Value} (k : env.kindOf x = some .cell) (r : RVR G h (Xp G F ad hp) ad rv v) {c : Addr} (e1 : env.cells.lookup x = some c) (e3 : c ∈ F) (e4 : c ≠ env.locals) {h1 : Heap} (n1 : h1.IsCell c (some v)) (hs : Heap.SameBut c h h1) : FRel G h1 F ad hp env sc (aset x rv loc) := by
  obtain ⟨m, ns, f⟩ := R.ns
  refine ⟨R.kind, R.glob, R.bltn, R.tyl, R.tyc, R.tyf, R.tyg, R.nodbg, fun y rv' e => ?_, ⟨m, nsAt0 ns fun o e => (hs.2 _ (Ne.symm e4)).trans e, fun y rv' e l => ?_⟩, fun y l => ?_, R.inj, R.locF⟩
  · exact asetE (P := fun _ => env.kindOf y = some .local ∨ env.kindOf y = some .cell ∨ env.kindOf y = some .free) e (fun z => .inr (.inl (z ▸ k))) fun _ e => R.kinds y rv' e
  · exact asetE (P := fun rv' => ∃ v, m y = some v ∧ RVR G h1 (Xp G F ad hp) ad rv' v) e (fun z => by rw [z, k] at l; exact nomatch l) fun z e => Exists.elim (f y rv' e l) fun w q => ⟨w, q.1, st_id e3 hs q.2⟩
  · rcases Decidable.em (y = x) with z | z
    · rw [z]
      exact ⟨c, some v, e1, n1, e3, e4, fun rv' e => si (P := fun rv' => ∃ w, some v = some w ∧ RVR G h1 (Xp G F ad hp) ad rv' w) (aset_same.symm.trans e) ⟨v, rfl, st_id e3 hs r⟩⟩
    · obtain ⟨c', cv', e1', e2', e3', e4', e5'⟩ := R.cell y l
      have ne : c' ≠ c := fun q => z (R.inj y x c (q ▸ e1') e1)
      exact ⟨c', cv', e1', cellAt0 e2' fun o e => (hs.2 _ ne).trans e, e3', e4', fun rv' e => Exists.elim (e5' rv' ((aset_other z).symm.trans e)) fun w q => ⟨w, q.1, st_id e3 hs q.2⟩⟩
theorem store_sound (wr : WR W F env) (H : HR G s.heap F ad hp) (R : FRel G s.heap F ad hp env sc loc) {x : Str} {rv : RV} {v : Value} (hx : isLoc sc x = true) (r : RVR G s.heap (Xp G F ad hp) ad rv v) {Q : Unit → Shared → Prop}
    (q : ∀ h' tk, HR G h' F ad hp → FRel G h' F ad hp env sc (aset x rv loc) → Go G W F ad hp s.heap ad hp h' → Q () { s with heap := h', toks := tk }) : wpAny (model G.prog G.w) A (storeName env x v) Q E s := by
  rcases isLoc_kind R hx with k | k
  · obtain ⟨m, ns, f⟩ := R.ns
    have lF := wr.sub _ wr.loc
    exact wpAny_storeName_local k ns (fun h1 n1 hs => q h1 _ (H.wr lF hs) (store_local lF R k r f n1 (if_pos rfl) (fun y z => if_neg z) hs) (Go.wr wr.loc hs)) (by rw [R.kind]; rfl)
  · obtain ⟨c, cv, e1, e2, e3, e4, e5⟩ := R.cell x (.inl k)
    exact wpAny_storeName_cell R.kind k e1 e2 fun h1 n1 hs => q h1 s.toks (H.wr e3 hs) (store_cell R k r e1 e3 e4 n1 hs) (Go.wr (wr.cell x c e1) hs)

theorem mapSeq_set (its : List Value) (n j : Nat) (v : Value) : ∃ m, Obj.mapSeq (·.setIfInBounds j v) (listOf its.toArray n) = listOf (its.set j v).toArray m := by
  refine ⟨(if (its.toArray.setIfInBounds j v).size == its.toArray.size then n else n + 1), ?_⟩
  simp [Obj.mapSeq]
theorem list_set {l : Addr} {its : List Value} {m : Nat} {k : Int} {t : Tok} {v : Value} {Q : Unit → Shared → Prop} (ho : s.heap.get? l = some (listOf its.toArray m)) (h0 : 0 ≤ k) (hfit : k < 2 ^ 63) (hj : k.toNat < its.length)
    (hQ : ∀ h' m', h'.get? l = some (listOf (its.set k.toNat v).toArray m') → Heap.SameBut l s.heap h' → Q () { s with heap := h' }) : wpAny (model G.prog G.w) A (setItem (.ref l) (.int k t) v) Q E s := by
  have hl : s.heap.IsList l its.toArray := ⟨_, ho, rfl, m, rfl⟩
  unfold setItem
  refine wpAny_holding ?_
  refine wpAny_bind (wpAny_sequenceKey hl.typeIs (by decide) ?_)
  refine wpAny_bind (wpAny_callSpecial?_slot (name := Str.ofString "__setitem__") hl.typeIs slot_list_setitem (wpAny_call_entry slot_list_setitem hl.typeIs entry_list_setitem ?_ (args_list_setitem _ _ _)))
  show wpAny _ _ (Builtin.List.listSubscript? (.int k t) >>= _) _ _ s
  refine wpAny_bind (wpAny_listSubscript_int (fitsIndex_of h0 hfit) ?_)
  clear hfit
  obtain ⟨j, rfl⟩ := Int.eq_ofNat_of_zero_le h0
  have hj : j < its.length := hj
  obtain ⟨m', em⟩ := mapSeq_set its m j v
  have hx : its.toArray[j]? = some its[j] := by rw [List.getElem?_toArray]; exact List.getElem?_eq_getElem hj
  show wpAny _ _ ((seqItemAt l j >>= fun r => pure (r.map (j, ·))) >>= _) _ _ s
  refine wpAny_bind (wpAny_bind (wpAny_seqItemAt ho rfl (wpAny_pure ?_)))
  rw [hx]
  show wpAny _ _ (setSeqItemAt l j v >>= _) _ _ s
  refine wpAny_bind (wpAny_setSeqItemAt ho rfl ?_)
  have fin : (s.heap.update l (Obj.mapSeq (·.setIfInBounds j v))).get? l = some (listOf (its.set j v).toArray m') := by
    rw [Heap.get?_update_self _ ho (by rw [em]; rfl), em]
  exact wpAny_pure ⟨.none, rfl, wpAny_pure (hQ _ m' fin (Heap.SameBut.update ..))⟩

/-- the changed object of an owned one -/
theorem own_step (H : HR G h F ad hp) {i : Nat} {p : Addr × Addr} {o o' : AO} (ep : nth ad i = some p) (eo : nth hp i = some o) (ho : ∀ b ∈ ownsO p o', b ∈ ownsO p o) {d : Addr} (hd : d ∈ ownsO p o) (hs : Heap.SameBut d h h')
    (r : Stay G h h' (Xp G F ad hp) (Xp G F ad (nset hp i o')) → OR G h' (Xp G F ad (nset hp i o')) ad p o') : HR G h' F ad (nset hp i o') ∧ Go G W F ad hp h ad (nset hp i o') h' := by
  have z : h.objs.size ≤ h'.objs.size := by rw [hs.1]; exact Nat.le_refl _
  have k : ∀ b ob, b ∉ ownsO p o → h.get? b = some ob → h'.get? b = some ob := fun b ob nb e => (hs.2 b (fun q => nb (q ▸ hd))).trans e
  have g : ∀ {W : List Addr}, Go G W F ad hp h ad (nset hp i o') h' := Go.upd ep eo ho z k
  exact ⟨H.upd ep eo ho z k (r ((g (W := [])).stay nil_sub)), g⟩
end
end Mine
end
section
open PySem PySem.W PyProof.Rows PySem.Calls
namespace Mine

section
variable {G : Gnd} {glob : Str → Option Addr} {n : Nat} {ih : Ih} {A : Around} {E : Value → Shared → Prop} {s : Shared} {env : Env} {W W' F F' : List Addr} {ad ad' : Ad} {hp hp' hp1 hp2 : Hp} {h h' h'' : Heap} {sc : Sc} {loc loc' : Loc} {X X' : Addr → Prop}
variable {K : Frag} {fI : Addr}

noncomputable def UQ (G : Gnd) (s : Shared) (Q : Unit → Shared → Prop) (F : List Addr) (ad : Ad) (hp hp' : Hp) : Prop :=
  ∀ h' tk, HR G h' F ad hp' → Go G [] F ad hp s.heap ad hp' h' → Q () { s with heap := h', toks := tk }
theorem UQ.at {Q : Unit → Shared → Prop} {hp'' : Hp} (q : UQ G s Q F ad hp hp') (e : some hp'' = some hp') : UQ G s Q F ad hp hp'' := Option.some.inj e ▸ q
theorem vd_ref {d : VD} : ∀ en ∈ [kent G.w.params "kind" d.t1 d.k, kent G.w.params "items" d.t2 d.i, kent G.w.params "attrs" d.t3 d.a, kent G.w.params "shared" d.t4 d.s, kent G.w.params "loose" d.t5 d.l], en.refKey = false := fun en he => by
  simp only [List.mem_cons, List.not_mem_nil, or_false] at he
  rcases he with rfl | rfl | rfl | rfl | rfl <;> exact rfl
/-- a flag is set -/
theorem flag_go {d : Addr} {D C : VD} {h1 : Heap} (e : h.get? d = some (D.obj G)) (hs : Heap.SameBut d h h1) (e1 : h1.get? d = some (C.obj G)) (c : D.core = C.core) (xd : ¬ Xp G F ad hp d) : Go G [] F ad hp h ad hp h1 := by
  refine ⟨by rw [hs.1]; exact Nat.le_refl _, fun _ _ e => e, fun _ e => .inl e, fun b o eb no _ => ?_⟩
  rcases Decidable.em (b = d) with bd | bd
  · rw [bd, e] at eb
    rw [bd, ← Option.some.inj eb]
    exact .inr ⟨xd, D, C, rfl, e1, c⟩
  · exact .inl ((hs.2 b bd).trans eb)
theorem shared_set (I : HI G K fI) (H : HR G s.heap F ad hp) {k i a : AV} {x d : Addr} {D : VD} {v : Value} (V : VecR G s.heap (Xp G F ad hp) k i a x d D) {Q : Unit → Shared → Prop} (q : UQ G s Q F ad hp hp) : wpAny (model G.prog G.w) A (setAttr (.ref x) "shared" v) Q E s := by
  refine dict_set I (I.here H) V.e V.e' I.fs vd_ref (by rw [vput_s]; exact (by decide : 5 ≤ 1000)) fun tk h1 hs eo => ?_
  rw [vput_s] at eo
  have g : Go G [] F ad hp s.heap ad hp h1 := flag_go (C := ⟨D.k, D.i, D.a, v, D.l, D.t1, D.t2, D.t3, D.t4, D.t5, _⟩) V.e' hs eo rfl V.xd
  exact q h1 tk (H.ofGo g fun b o ob e => (hs.2 b fun z => V.xd (.inr (.inr (z ▸ ob)))).trans e) g
theorem attrs_set (I : HI G K fI) (H : HR G s.heap F ad hp) {j : Nat} {k i a rv : RV} {p : Addr × Addr} {v : Value} (el : nth hp j = some (.inst k i a)) (ep : nth ad j = some p) (r : RVR G s.heap (Xp G F ad hp) ad rv v) {Q : Unit → Shared → Prop} (q : UQ G s Q F ad hp (nset hp j (.inst k i rv))) : wpAny (model G.prog G.w) A (setAttr (.ref p.1) "attrs" v) Q E s := by
  obtain ⟨D, V⟩ := (H.obj _ _ p el ep : ∃ D, InstR G s.heap (Xp G F ad hp) ad p k i a D)
  refine dict_set I (I.here H) V.e V.e' I.fa vd_ref (by rw [vput_a]; exact (by decide : 5 ≤ 1000)) fun tk h1 hs eo => ?_
  rw [vput_a] at eo
  have ne : p.1 ≠ p.2 := fun z => absurd (congrArg (·.cls) (Option.some.inj (V.e.symm.trans ((congrArg s.heap.get? z).trans V.e')))) fun c => nomatch c
  have w := own_step (W := []) (o' := .inst k i rv) H ep el (fun _ z => z) (.tail _ (.head _)) hs fun S =>
    ⟨⟨D.k, D.i, v, D.s, D.l, D.t1, D.t2, D.t3, D.t4, D.t5, _⟩, (hs.2 _ ne).trans V.e, eo, V.rk.stay S fun _ _ e => e, V.ri.stay S fun _ _ e => e, r.stay S fun _ _ e => e⟩
  exact q h1 tk w.1 w.2
/-- a store of an attribute -/
theorem attr_store (I : HI G K fI) (H : HR G s.heap F ad hp) {o rv : RV} {ov v : Value} {x : Str} (e : attrSet o x rv hp = some hp') (ro : RVR G s.heap (Xp G F ad hp) ad o ov) (r : RVR G s.heap (Xp G F ad hp) ad rv v) {Q : Unit → Shared → Prop} (q : UQ G s Q F ad hp hp') : wpAny (model G.prog G.w) A (setAttr ov x v) Q E s := by
  cases o with
  | a o =>
    refine bs e fun t e1 e => gs e fun z e => me e fun b e2 e => ?_
    rw [isS_true z]
    exact AR.ofVec (a := t.1) (b := t.2.1) (c := t.2.2) (P := fun ov => wpAny (model G.prog G.w) A (setAttr ov "shared" v) Q E s) e1 ro fun p d D V => shared_set I H V (q.at e)
  | r j =>
    refine bs e fun t e1 e => gs e fun z e => bs e1 fun ob e2 e3 => RVR.rE (P := fun ov => wpAny (model G.prog G.w) A (setAttr ov x v) Q E s) ro fun p ep => ?_
    rw [isS_true z]
    exact attrs_set I H (oInstE (k := t.1) (i := t.2.1) (a := t.2.2) (P := fun ob => nth hp j = some ob → nth hp j = some (.inst t.1 t.2.1 t.2.2)) e3 id e2) ep r (q.at e)

theorem dict_store (H : HR G s.heap F ad hp) {i : Nat} {p : Addr × Addr} {l : List (Str × RV)} {x : Str} {t : Tok} {rv : RV} {v : Value} (ep : nth ad i = some p) (el : nth hp i = some (.dct l)) (sz : l.length ≤ 1000) (r : RVR G s.heap (Xp G F ad hp) ad rv v) {Q : Unit → Shared → Prop}
    (q : UQ G s Q F ad hp (nset hp i (.dct (aset x rv l)))) : wpAny (model G.prog G.w) A (setItem (.ref p.1) (.str x t) v) Q E s := by
  obtain ⟨es, m, eh, rd, nd⟩ := H.obj _ _ p el ep
  obtain ⟨kvs, D, kv⟩ := dict_to eh rd nd
  refine wpAny_setItem_pairs (knd := PySem.strKind G.prog G.w) (strKind_is G.prog G.w x t) D (fun h1 D1 hs => ?_) (by rw [← kv.len, sizeLine_eq]; exact Nat.le_trans sz (by decide))
  have w := own_step (W := []) (o' := .dct (aset x rv l)) H ep el (fun _ z => z) (.head _) hs fun S => by
    obtain ⟨es1, m1, eh1, rd1⟩ := dict_from D1 (stored_kv (x := x) (r.stay S fun _ _ e => e) (kv.stay S fun _ _ e => e) nd)
    exact ⟨es1, m1, eh1, rd1, (aset_keys nd).1⟩
  exact q h1 _ w.1 w.2
theorem list_store (H : HR G s.heap F ad hp) {i j : Nat} {p : Addr × Addr} {l : List RV} {t : Tok} {rv : RV} {v : Value} (ep : nth ad i = some p) (el : nth hp i = some (.lst l)) (lt : j < l.length) (sz : j < 2 ^ 62) (r : RVR G s.heap (Xp G F ad hp) ad rv v) {Q : Unit → Shared → Prop}
    (q : UQ G s Q F ad hp (nset hp i (.lst (nset l j rv)))) : wpAny (model G.prog G.w) A (setItem (.ref p.1) (.int (Int.ofNat j) t) v) Q E s := by
  obtain ⟨vs, m, eh, rs⟩ := H.obj _ _ p el ep
  refine list_set eh (Int.natCast_nonneg _) (nat_lt63 sz) (All2.len rs ▸ lt) fun h1 m1 eh1 hs => ?_
  have w := own_step (W := []) (o' := .lst (nset l j rv)) H ep el (fun _ z => z) (.head _) hs fun S =>
    ⟨_, m1, eh1, All2.set (r.stay S fun _ _ e => e) (RVRs.stay S (fun _ _ e => e) rs)⟩
  exact q h1 s.toks w.1 w.2

theorem RVR.goW (x : Go G W F ad hp h ad' hp' h') (hW : ∀ b ∈ W, b ∈ F) {y : RV} {v : Value} (r : RVR G h (Xp G F ad hp) ad y v) : RVR G h' (Xp G F ad' hp') ad' y v := r.stay (x.stay hW) x.ext

theorem unpack_sized {t : Addr} {items : Array Value} {targets : List (Bool × (Value → Sem Unit))} {Q : Unit → Shared → Prop} (rm : A.handled = none) (ht : s.heap.IsTuple t items) (hn : targets.length = items.size) (hs : targets.findIdx? (·.1) = none)
    (q : ∀ h', (∀ b o, s.heap.get? b = some o → h'.get? b = some o) → s.heap.objs.size ≤ h'.objs.size → wpAny (model G.prog G.w) A (assignInOrder (targets.map (·.2)) items.toList) Q E { s with heap := h' }) : wpAny (model G.prog G.w) A (unpack (.ref t) targets) Q E s := by
  unfold unpack
  rw [hn, hs]
  refine wpAny_bind (wpAny_holding (with_hz (wpAny_unpackItems_tuple rm ht fun h1 ex sz => ?_)))
  exact q h1 (fun b o e => ex b o (Nat.ne_of_lt (Heap.lt_size e)) e) sz
noncomputable def XU (G : Gnd) (W F : List Addr) (ad : Ad) (hp : Hp) (env : Env) (sc : Sc) (loc' : Loc) (s : Shared) (Q : Unit → Shared → Prop) : Prop := ∀ h' tk, HR G h' F ad hp → FRel G h' F ad hp env sc loc' → Go G W F ad hp s.heap ad hp h' → Q () { s with heap := h', toks := tk }
theorem three_sound (rm : Room A n) (wr : WR W F env) (H : HR G s.heap F ad hp) (R : FRel G s.heap F ad hp env sc loc) {x y z : Str} {p1 p2 p3 p4 : Pos} {k : Nat} {a b c : AV} {v : Value} (hx : isLoc sc x = true) (hy : isLoc sc y = true) (hzz : isLoc sc z = true)
    (r : AR G s.heap (Xp G F ad hp) (.tup [a, b, c]) v) {Q : Unit → Shared → Prop} (q : XU G W F ad hp env sc (aset z (.a c) (aset y (.a b) (aset x (.a a) loc))) s Q) :
    wpAny (model G.prog G.w) A (assign (.Tuple [.Name x p1, .Name y p2, .Name z p3] k p4) env v) Q E s :=
  AR.tupE r fun t0 vs n0 T => by
    rw [arm_assign_Tuple]
    refine wpAny_bind (wpAny_standAt ?_)
    refine All2.consE (P := fun vs => s.heap.get? t0 = some { cls := .type "tuple", data := .seq vs.toArray n0 } → _) T.r (fun va vs ra rs => All2.consE (P := fun vs => s.heap.get? t0 = some { cls := .type "tuple", data := .seq (va :: vs).toArray n0 } → _) rs fun vb vs rb rs => All2.consE (P := fun vs => s.heap.get? t0 = some { cls := .type "tuple", data := .seq (va :: vb :: vs).toArray n0 } → _) rs fun vc vs rc rs => All2.nilE (P := fun vs => s.heap.get? t0 = some { cls := .type "tuple", data := .seq (va :: vb :: vc :: vs).toArray n0 } → _) rs fun eo => unpack_sized (items := #[va, vb, vc]) rm.1 ⟨_, eo, rfl, _, rfl⟩ rfl rfl fun h1 k sz => ?_) T.e
    have g1 : Go G [] F ad hp s.heap ad hp h1 := Go.ofKeep k sz
    have ra1 := RVR.go (y := .a a) g1 nil_sub ra
    have rb1 := RVR.go (y := .a b) g1 nil_sub rb
    have rc1 := RVR.go (y := .a c) g1 nil_sub rc
    show wpAny _ _ (assignInOrder [assign (.Name x p1) env, assign (.Name y p2) env, assign (.Name z p3) env] [va, vb, vc]) _ _ _
    refine PyProof.Rows.assignInOrder_cons (wpAny_assign_Name (store_sound (s := { s with heap := h1 }) wr (H.keep k sz) (R.go H g1) hx ra1 fun h2 tk2 H2 R2 g2 => ?_))
    refine PyProof.Rows.assignInOrder_cons (wpAny_assign_Name (store_sound (s := { s with heap := h2, toks := tk2 }) wr H2 R2 hy (RVR.goW g2 wr.sub rb1) fun h3 tk3 H3 R3 g3 => ?_))
    refine PyProof.Rows.assignInOrder_cons (wpAny_assign_Name (store_sound (s := { s with heap := h3, toks := tk3 }) wr H3 R3 hzz (RVR.goW g3 wr.sub (RVR.goW g2 wr.sub rc1)) fun h4 tk4 H4 R4 g4 => ?_))
    exact PyProof.Rows.assignInOrder_nil (q h4 tk4 H4 R4 ((((g1.wide nil_sub).trans g2).trans g3).trans g4))

/-- what follows an assignment -/
noncomputable def AQ (G : Gnd) (W F : List Addr) (ad : Ad) (hp hp' : Hp) (env : Env) (sc : Sc) (loc' : Loc) (s : Shared) (Q : Unit → Shared → Prop) : Prop := ∀ ad' h' tk, HR G h' F ad' hp' → FRel G h' F ad' hp' env sc loc' → Go G W F ad hp s.heap ad' hp' h' → Q () { s with heap := h', toks := tk }
theorem AQ.at {Q : Unit → Shared → Prop} {loc'' : Loc} {hp'' : Hp} (q : AQ G W F ad hp hp' env sc loc' s Q) (e : some (loc'', hp'') = some (loc', hp')) : AQ G W F ad hp hp'' env sc loc'' s Q := sp (P := fun loc' hp' => AQ G W F ad hp hp' env sc loc' s Q → AQ G W F ad hp hp'' env sc loc'' s Q) e id q
theorem as_attr (I : SIh G glob n ih) (hi : HI G K fI) {o : Expr} {x : Str} {pos : Pos} {rv : RV} {v : Value} (e : ((ih.ev sc loc hp o).bind fun q => (attrSet q.1 x rv q.2).map fun hp => (loc, hp)) = some (loc', hp')) (rm : Room A n) (H : HR G s.heap F ad hp) (R : FRel G s.heap F ad hp env sc loc) (r : RVR G s.heap (Xp G F ad hp) ad rv v) {Q : Unit → Shared → Prop}
    (q : AQ G W F ad hp hp' env sc loc' s Q) : wpAny (model G.prog G.w) A (assign (.Attribute o x pos) env v) Q E s :=
  bs2 e fun o1 hp1 e1 e => me e fun hp2 e2 e => by
    rw [arm_assign_Attribute]
    exact wpAny_bind (wpAny_holding (I.one e1 rm H R fun ad1 h1 tk1 w H1 R1 g1 r1 => wpAny_bind (wpAny_standAt (wpAny_bind (wpAny_holding
      (attr_store (s := { s with heap := h1, toks := tk1 }) hi H1 e2 r1 (r.go g1 nil_sub) fun h2 tk2 H2 g2 => wpAny_release ((q.at e) ad1 h2 tk2 H2 (R1.go H1 g2) ((g1.trans g2).wide nil_sub))))))))
theorem setItem_sound (H : HR G s.heap F ad hp) {o i rv : RV} {w u v : Value} (e : setItemI o i rv hp = some hp') (ro : RVR G s.heap (Xp G F ad hp) ad o w) (ri : RVR G s.heap (Xp G F ad hp) ad i u) (r : RVR G s.heap (Xp G F ad hp) ad rv v) {Q : Unit → Shared → Prop} (q : UQ G s Q F ad hp hp') : wpAny (model G.prog G.w) A (setItem w u v) Q E s :=
  bs e fun j e1 e => RVR.ofR e1 ro fun p ep => os e (fun e => bs e fun k e2 e => bs e fun m e3 e => bs e fun l e4 e => gs e fun lt e => gs e fun sz e => RVR.ofInt e2 ri fun t => by
      rw [natOf_eq e3]
      exact list_store H ep (lstAtE e4 id) (Nat.le_of_ble_eq_true lt) (Nat.le_of_ble_eq_true sz) r (q.at e))
    fun e => bs e fun x e2 e => bs e fun l e4 e => gs e fun sz e => RVR.ofStr e2 ri fun t =>
      dict_store H ep (bs e4 fun o e5 e6 => oDctE (P := fun o => nth hp j = some o → nth hp j = some (.dct l)) e6 id e5) (Nat.le_of_ble_eq_true sz) r (q.at e)
theorem as_sub (I : SIh G glob n ih) {o i : Expr} {pos : Pos} {rv : RV} {v : Value} (e : ((ih.ev sc loc hp o).bind fun q => (ih.ev sc loc q.2 i).bind fun q' => (setItemI q.1 q'.1 rv q'.2).map fun hp => (loc, hp)) = some (loc', hp')) (rm : Room A n) (H : HR G s.heap F ad hp) (R : FRel G s.heap F ad hp env sc loc) (r : RVR G s.heap (Xp G F ad hp) ad rv v) {Q : Unit → Shared → Prop}
    (q : AQ G W F ad hp hp' env sc loc' s Q) : wpAny (model G.prog G.w) A (assign (.Subscript o i pos) env v) Q E s :=
  bs2 e fun o1 hp1 e1 e => bs2 e fun i1 hp2 e2 e => me e fun hp3 e3 e => by
    rw [arm_assign_Subscript]
    refine wpAny_bind (wpAny_holding (I.one e1 rm H R fun ad1 h1 tk1 w H1 R1 g1 r1 => wpAny_bind (wpAny_holding (I.one (s := { s with heap := h1, toks := tk1 }) e2 rm H1 R1 fun ad2 h2 tk2 u H2 R2 g2 r2 => wpAny_bind (wpAny_standAt (wpAny_bind (wpAny_holding ?_)))))))
    have g := g1.trans g2
    exact setItem_sound (s := { s with heap := h2, toks := tk2 }) H2 e3 (r1.go g2 nil_sub) r2 (r.go g nil_sub) fun h3 tk3 H3 g3 => wpAny_release ((q.at e) ad2 h3 tk3 H3 (R2.go H2 g3) ((g.trans g3).wide nil_sub))
theorem nameE {P : Expr → Prop} {e : Expr} {x : Str} (z : eName e = some x) (k : ∀ p, P (.Name x p)) : P e := by
  cases e with
  | Name y p => exact si (P := fun x => (∀ p, P (.Name x p)) → P (.Name y p)) z (fun k => k p) k
  | _ => exact nn z
theorem as_three (rm : Room A n) (wr : WR W F env) {ts : List Expr} {k : Nat} {pos : Pos} {rv : RV} {v : Value} (e : asg3 sc loc hp ts rv = some (loc', hp')) (H : HR G s.heap F ad hp) (R : FRel G s.heap F ad hp env sc loc) (r : RVR G s.heap (Xp G F ad hp) ad rv v) {Q : Unit → Shared → Prop}
    (q : AQ G W F ad hp hp' env sc loc' s Q) : wpAny (model G.prog G.w) A (assign (.Tuple ts k pos) env v) Q E s :=
  bs e fun t e1 e => bs e fun x e2 e => bs e fun y e3 e => bs e fun z e4 e => bs e fun l e5 e => bs e fun a e6 e => gs e fun hx e => gs e fun hy e => gs e fun hzz e =>
    threeE (P := fun ts => wpAny (model G.prog G.w) A (assign (.Tuple ts k pos) env v) Q E s) (a := t.1) (b := t.2.1) (c := t.2.2) e1 <|
    nameE (P := fun t1 => wpAny (model G.prog G.w) A (assign (.Tuple [t1, t.2.1, t.2.2] k pos) env v) Q E s) e2 fun p1 =>
    nameE (P := fun t2 => wpAny (model G.prog G.w) A (assign (.Tuple [.Name x p1, t2, t.2.2] k pos) env v) Q E s) e3 fun p2 =>
    nameE (P := fun t3 => wpAny (model G.prog G.w) A (assign (.Tuple [.Name x p1, .Name y p2, t3] k pos) env v) Q E s) e4 fun p3 =>
    bs e5 fun b e7 e8 => three_sound (a := a.1) (b := a.2.1) (c := a.2.2) rm wr H R hx hy hzz (threeE (P := fun l => AR G s.heap (Xp G F ad hp) (.tup l) v → AR G s.heap (Xp G F ad hp) (.tup [a.1, a.2.1, a.2.2]) v) (a := a.1) (b := a.2.1) (c := a.2.2) e6 id (tupE (P := fun b => AR G s.heap (Xp G F ad hp) b v → AR G s.heap (Xp G F ad hp) (.tup l) v) e8 id (r.ofA e7))) fun h1 tk H1 R1 g1 => (q.at e) ad h1 tk H1 R1 g1
theorem assign_sound (I : SIh G glob n ih) (hi : HI G K fI) {t : Expr} {rv : RV} {v : Value} (e : assignI ih sc loc hp t rv = some (loc', hp')) (rm : Room A n) (wr : WR W F env) (H : HR G s.heap F ad hp) (R : FRel G s.heap F ad hp env sc loc) (r : RVR G s.heap (Xp G F ad hp) ad rv v) {Q : Unit → Shared → Prop}
    (q : AQ G W F ad hp hp' env sc loc' s Q) : wpAny (model G.prog G.w) A (assign t env v) Q E s := by
  cases t with
  | Name x pos => exact gs e fun hx e => wpAny_assign_Name (store_sound wr H R hx r fun h1 tk H1 R1 g1 => (q.at e) ad h1 tk H1 R1 g1)
  | Attribute o x pos => exact as_attr I hi e rm H R r q
  | Subscript o i pos => exact as_sub I e rm H R r q
  | Tuple ts k pos => exact as_three rm wr e H R r q
  | _ => exact nn e
end
end Mine
end
section
open PySem PySem.W PyProof.Rows PySem.Calls
namespace Mine

section
variable {G : Gnd} {glob : Str → Option Addr} {n : Nat} {ih : Ih} {A : Around} {E : Value → Shared → Prop} {s : Shared} {env : Env} {W W' F F' : List Addr} {ad ad' : Ad} {hp hp' hp1 hp2 : Hp} {h h' h'' : Heap} {sc : Sc} {loc loc' : Loc} {X X' : Addr → Prop}
variable {K : Frag} {fI : Addr}

theorem any_false {l : List (Bool × Sem Value)} (a : l.all (fun x => !x.1) = true) : l.any (·.1) = false := by
  rw [List.any_eq_false]
  exact fun x hx q => by
    have := List.all_eq_true.mp a x hx
    rw [q] at this
    exact ft this
theorem args_plain {pos : Pos} : ∀ {es : List Expr} {hp hp' : Hp} {rs : List RV}, evArgs ih sc loc hp es = some (rs, hp') → (backTo pos (starEach es env)).all (fun x => !x.1) = true ∧ es.length = rs.length := fun {es} => by
  induction es with
  | nil => exact fun {hp hp' rs} e => sp (P := fun rs _ => _ ∧ [].length = rs.length) e ⟨rfl, rfl⟩
  | cons x r ih' =>
    refine fun {hp hp' rs} e => gs (show gd (noStar x) ((ih.ev sc loc hp x).bind fun q => (evArgs ih sc loc q.2 r).map fun q' => (q.1 :: q'.1, q'.2)) = some (rs, hp') from e) fun ns e => bs2 e fun v1 hp1 e1 e => me2 e fun vr hp2 e2 e => ?_
    have q := ih' e2
    rw [starEach_cons ns]
    exact ⟨q.1, sp (P := fun rs _ => (x :: r).length = rs.length) e (congrArg (· + 1) q.2)⟩
theorem args_eval (I : SIh G glob n ih) {pos : Pos} {f : Value} {es : List Expr} {rs : List RV} (rm : Room A n) (e : evArgs ih sc loc hp es = some (rs, hp')) (H : HR G s.heap F ad hp) (R : FRel G s.heap F ad hp env sc loc) {Q : Args → Shared → Prop}
    (q : ∀ ad' h' tk vs, HR G h' F ad' hp' → FRel G h' F ad' hp' env sc loc → Go G [] F ad hp s.heap ad' hp' h' → RVRs G h' (Xp G F ad' hp') ad' rs vs → Q ⟨vs, []⟩ { s with heap := h', toks := tk }) :
    wpAny (model G.prog G.w) A (evalArgs f true (backTo pos (starEach es env)) []) Q E s := by
  have w := args_sound (E := E) (pos := pos) (Q := fun vs s' => Q ⟨vs, []⟩ s') I rm e H R q
  cases es with
  | nil => exact evalArgs_nil3 (sp (P := fun rs hp' => (∀ ad' h' tk vs, HR G h' F ad' hp' → FRel G h' F ad' hp' env sc loc → Go G [] F ad hp s.heap ad' hp' h' → RVRs G h' (Xp G F ad' hp') ad' rs vs → Q ⟨vs, []⟩ { s with heap := h', toks := tk }) → Q ⟨[], []⟩ s) e (fun q => q ad s.heap s.toks [] H R Go.refl trivial) q)
  | cons x r =>
    refine gs (show gd (noStar x) ((ih.ev sc loc hp x).bind fun q => (evArgs ih sc loc q.2 r).map fun q' => (q.1 :: q'.1, q'.2)) = some (rs, hp') from e) fun ns _ => ?_
    have sh : backTo pos (starEach (x :: r) env) = (false, eval x env) :: backTo pos (starEach r env) := by rw [starEach_cons ns]; rfl
    rw [sh] at w ⊢
    exact Calls.evalArgs_plain w
end
end Mine
end
section
open PySem PySem.W PyProof.Rows PySem.Calls
namespace Mine

section
variable {G : Gnd} {s : Shared} {F : List Addr} {ad : Ad} {hp : Hp} {X : Addr → Prop}

/-- the method's number and its object's type -/
noncomputable def mtT : MT → String
  | .append => "list"
  | .reverse => "list"
  | .indexL => "list"
  | .pop => "list"
  | .get => "dict"
  | .indexT => "tuple"
  | .join => "str"
  | .rjust => "str"
noncomputable def mtId : MT → String
  | .append => "list.append"
  | .reverse => "list.reverse"
  | .get => "dict.get"
  | .indexL => "list.index"
  | .indexT => "tuple.index"
  | .join => "str.join"
  | .rjust => "str.rjust"
  | .pop => "list.pop"
noncomputable def mtName : MT → Str
  | .append => "append"
  | .reverse => "reverse"
  | .get => "get"
  | .indexL => "index"
  | .indexT => "index"
  | .join => "join"
  | .rjust => "rjust"
  | .pop => "pop"
theorem mt_slot (m : MT) : PlainAttrs (mtT m) ∧ Slot (mtT m) (mtName m) (mtId m) ∧ typeOf (.builtin (mtId m)) = pure (.type "method_descriptor") := by
  cases m
  · exact ⟨PySem.F.plainAttrs_list, PySem.F.slot_list_append, PySem.F.type_list_append⟩
  · exact ⟨PySem.F.plainAttrs_list, PySem.F.slot_list_reverse, PySem.F.type_list_reverse⟩
  · exact ⟨PySem.F.plainAttrs_dict, PySem.F.slot_dict_get, PySem.F.type_dict_get⟩
  · exact ⟨PySem.F.plainAttrs_list, PySem.F.slot_list_index, PySem.F.type_list_index⟩
  · exact ⟨PySem.F.plainAttrs_tuple, PySem.F.slot_tuple_index, PySem.F.type_tuple_index⟩
  · exact ⟨PySem.F.plainAttrs_str, PySem.F.slot_str_join, PySem.F.type_str_join⟩
  · exact ⟨PySem.F.plainAttrs_str, PySem.F.slot_str_rjust, PySem.F.type_str_rjust⟩
  · exact ⟨PySem.F.plainAttrs_list, PySem.F.slot_list_pop, PySem.F.type_list_pop⟩
noncomputable def ObR (s : Shared) (v : Value) (ty : String) : Prop := s.TypeIs v ty ∧ ∀ a, v = .ref a → ∃ ob, s.heap.get? a = some ob ∧ ob.dict = none
theorem obR_ref {a : Addr} {ob : Obj} {ty : String} (e : s.heap.get? a = some ob) (hc : ob.cls = .type ty) (hd : ob.dict = none) : ObR s (.ref a) ty := ⟨⟨ob, e, hc⟩, fun b hb => ⟨ob, Value.ref.inj hb ▸ e, hd⟩⟩
theorem obR_str {x : Str} {t : Tok} : ObR s (.str x t) "str" := ⟨typeIs_str _ _ _, fun a ha => nomatch ha⟩
noncomputable def MTR (s : Shared) (m : Str) (v : Value) (t : MT) : Prop := m = mtName t ∧ ObR s v (mtT t)
theorem isL_ok (H : HR G s.heap F ad hp) {m : Str} {o : RV} {v : Value} {t t' : MT} (a : m = mtName t') (l : mtT t' = "list") (e : isL t' o hp = some t) (r : RVR G s.heap (Xp G F ad hp) ad o v) : MTR s m v t :=
  bs e fun i e1 e => ms (P := MTR s m v) e fun _ e2 => ⟨a, RVR.ofR (P := fun v => ObR s v (mtT t')) e1 r fun p ep => by
    obtain ⟨vs, m, eh, _⟩ := lst_obj H e2 ep
    rw [l]
    exact obR_ref eh rfl rfl⟩
theorem mIdx_ok {m : Str} {o : RV} {v : Value} {t : MT} (a : m = "index") (e : mIdx o = some t) (r : RVR G s.heap X ad o v) : MTR s m v t :=
  bs e fun w e1 e => os e (fun e => ms (P := MTR s m v) e fun l e2 => ⟨a, AR.ofLst (P := fun v => ObR s v "list") e2 (r.ofA e1) fun _ _ _ R => obR_ref R.e rfl rfl⟩)
    fun e => ms (P := MTR s m v) e fun l e2 => ⟨a, AR.ofTup (P := fun v => ObR s v "tuple") e2 (r.ofA e1) fun _ _ _ R => obR_ref R.e rfl rfl⟩
theorem mStr_ok {m : Str} {o : RV} {v : Value} {t t' : MT} (a : m = mtName t') (l : mtT t' = "str") (e : ((vS o).map fun _ => t') = some t) (r : RVR G s.heap X ad o v) : MTR s m v t :=
  ms (P := MTR s m v) e fun l e2 => ⟨a, RVR.ofStr (P := fun v => ObR s v (mtT t')) e2 r fun t => by rw [‹mtT t' = "str"›]; exact obR_str⟩
theorem mGet_ok {m : Str} {o : RV} {v : Value} {t : MT} (a : m = "get") (e : ((rA o).bind fun v => (aDct v).map fun _ => MT.get) = some t) (r : RVR G s.heap X ad o v) : MTR s m v t :=
  bs e fun w e1 e => ms (P := MTR s m v) e fun l e2 => ⟨a, AR.ofDct (P := fun v => ObR s v "dict") e2 (r.ofA e1) fun _ _ _ R => obR_ref R.e rfl rfl⟩
theorem methT_ok (H : HR G s.heap F ad hp) {m : Str} {o : RV} {v : Value} {t : MT} (e : methT m o hp = some t) (r : RVR G s.heap (Xp G F ad hp) ad o v) : MTR s m v t :=
  cs e (fun z e => isL_ok H (isS_true z) rfl e r) fun _ e => cs e (fun z e => isL_ok H (isS_true z) rfl e r) fun _ e => cs e (fun z e => mGet_ok (isS_true z) e r) fun _ e => cs e (fun z e => mIdx_ok (isS_true z) e r) fun _ e =>
    cs e (fun z e => mStr_ok (isS_true z) rfl e r) fun _ e => cs e (fun z e => mStr_ok (isS_true z) rfl e r) fun _ e => cs e (fun z e => isL_ok H (isS_true z) rfl e r) fun _ e => nn e
end
end Mine
end
section
open PySem PySem.W PyProof.Rows PySem.Calls
namespace Mine

section
variable {G : Gnd} {glob : Str → Option Addr} {n : Nat} {ih : Ih} {A : Around} {E : Value → Shared → Prop} {s : Shared} {env : Env} {W W' F F' : List Addr} {ad ad' : Ad} {hp hp' hp1 hp2 : Hp} {h h' h'' : Heap} {sc : Sc} {loc loc' : Loc} {X X' : Addr → Prop}
variable {K : Frag} {fI : Addr}

section
variable {P : List Value → Prop} {as : List RV} {vs : List Value}
@[elab_as_elim] theorem RVRs.one {v : RV} (e : one as = some v) (r : RVRs G h X ad as vs) (k : ∀ w, RVR G h X ad v w → P [w]) : P vs :=
  oneE (P := fun as => RVRs G h X ad as vs → P vs) e (fun r => All2.consE r fun w m r rs => All2.nilE (P := fun m => P (w :: m)) rs (k w r)) r
@[elab_as_elim] theorem RVRs.two {q : RV × RV} (e : two as = some q) (r : RVRs G h X ad as vs) (k : ∀ w u, RVR G h X ad q.1 w → RVR G h X ad q.2 u → P [w, u]) : P vs :=
  twoE (a := q.1) (b := q.2) (P := fun as => RVRs G h X ad as vs → P vs) e (fun r => All2.consE r fun w m r rs => All2.consE (P := fun m => P (w :: m)) rs fun u m r' rs => All2.nilE (P := fun m => P (w :: u :: m)) rs (k w u r r')) r
@[elab_as_elim] theorem RVRs.three {q : RV × RV × RV} (e : three as = some q) (r : RVRs G h X ad as vs) (k : ∀ w u t, RVR G h X ad q.1 w → RVR G h X ad q.2.1 u → RVR G h X ad q.2.2 t → P [w, u, t]) : P vs :=
  threeE (a := q.1) (b := q.2.1) (c := q.2.2) (P := fun as => RVRs G h X ad as vs → P vs) e (fun r => All2.consE r fun w m r rs => All2.consE (P := fun m => P (w :: m)) rs fun u m r' rs => All2.consE (P := fun m => P (w :: u :: m)) rs fun t m r'' rs => All2.nilE (P := fun m => P (w :: u :: t :: m)) rs (k w u t r r' r'')) r
end
theorem sz16 {n : Nat} (h : n ≤ 1000) : n ≤ 16777216 := Nat.le_trans h (by decide)
theorem sz16' {n : Nat} (h : n ≤ 1000) : n < 16777216 := Nat.lt_of_le_of_lt h (by decide)
theorem append_sound (H : HR G s.heap F ad hp) {i : Nat} {p : Addr × Addr} {l : List RV} {rv : RV} {v : Value} (ep : nth ad i = some p) (el : nth hp i = some (.lst l)) (sz : l.length ≤ 1000) (r : RVR G s.heap (Xp G F ad hp) ad rv v) {Q : Value → Shared → Prop}
    (q : PQ G s Q F ad hp (.a .none) (nset hp i (.lst (l ++ [rv])))) : wpAny (model G.prog G.w) A (call (.builtin "list.append") [.ref p.1, v]) Q E s := by
  obtain ⟨vs, m, eh, rs⟩ := H.obj _ _ p el ep
  refine PyProof.Rows.append_at eh (fun h1 hs eh1 => ?_) (by rw [List.size_toArray, ← All2.len rs, sizeLine_eq]; first | exact sz16 sz | exact sz16' sz)
  have w := own_step (W := []) (o' := .lst (l ++ [rv])) H ep el (fun _ z => z) (.head _) hs fun S =>
    ⟨vs ++ [v], m + 1, by rw [eh1]; simp [PySem.W.listOf], (RVRs.stay S (fun _ _ e => e) rs).append ⟨r.stay S fun _ _ e => e, trivial⟩⟩
  exact q ad h1 s.toks _ w.1 .none w.2
theorem reverse_sound (H : HR G s.heap F ad hp) {i : Nat} {p : Addr × Addr} {l : List RV} (ep : nth ad i = some p) (el : nth hp i = some (.lst l)) (sz : l.length ≤ 1000) {Q : Value → Shared → Prop}
    (q : PQ G s Q F ad hp (.a .none) (nset hp i (.lst l.reverse))) : wpAny (model G.prog G.w) A (call (.builtin "list.reverse") [.ref p.1]) Q E s := by
  obtain ⟨vs, m, eh, rs⟩ := H.obj _ _ p el ep
  refine call_meets PySem.F.slot_list_reverse ⟨_, eh, rfl⟩ PySem.F.entry_list_reverse (PySem.F.args_list_reverse_1 _) (AutoSeq1.list_reverse_list_0 p.1 vs.toArray m (by rw [List.size_toArray, ← All2.len rs, sizeLine_eq]; first | exact sz16 sz | exact sz16' sz)) ⟨eh, ?_⟩
  have e1 : Obj.mapSeq (fun x => x.reverse) (listOf vs.toArray m) = listOf vs.reverse.toArray m := by simp [Obj.mapSeq, W.listOf]
  have eh1 : (s.heap.update p.1 (Obj.mapSeq fun x => x.reverse)).get? p.1 = some (listOf vs.reverse.toArray m) := by
    rw [Heap.get?_update_self _ eh (by rw [e1]; rfl), e1]
  have w := own_step (W := []) (o' := .lst l.reverse) H ep el (fun _ z => z) (.head _) (Heap.SameBut.update ..) fun S =>
    ⟨vs.reverse, m, eh1, (RVRs.stay S (fun _ _ e => e) rs).reverse⟩
  exact q ad _ s.toks _ w.1 .none w.2

theorem strs_of {X : Addr → Prop} : ∀ {l : List AV} {vs : List Value}, ARs G h X l vs → allStr l = true → ∃ ys, l = ys.map AV.str ∧ StrsAre vs ys := fun {l} => by
  induction l with
  | nil => exact fun {vs} r _ => ⟨[], rfl, All2.nilE (P := fun vs => StrsAre vs []) r .nil⟩
  | cons a l ih =>
    refine fun {vs} r e => All2.consE (P := fun vs => ∃ ys, a :: l = ys.map AV.str ∧ StrsAre vs ys) r fun w m r rs => ?_
    obtain ⟨e1, e2⟩ := Bool.and_eq_true_iff.mp e
    obtain ⟨y, e1⟩ := Option.isSome_iff_exists.mp e1
    obtain ⟨ys, e3, z⟩ := ih rs e2
    refine AR.ofStr (P := fun w => ∃ ys, a :: l = ys.map AV.str ∧ StrsAre (w :: m) ys) e1 r fun t => ⟨y :: ys, ?_, .cons y t z⟩
    rw [e3]
    exact strE (P := fun a => a :: _ = _) e1 rfl
theorem sidx_at {x : Str} : ∀ {ys : List Str} {n : Nat} {k : Int}, sidx x (ys.map AV.str) n = some k → ∃ j : Nat, k = ((n + j : Nat) : Int) ∧ ys[j]? = some x ∧ ∀ m, m < j → ys[m]? ≠ some x := fun {ys} => by
  induction ys with
  | nil => exact fun e => nn e
  | cons y ys ih =>
    refine fun {n k} e => cs (show cond (seq x y) (some (n : Int)) (sidx x (ys.map AV.str) (n + 1)) = some k from e) (fun z e => ?_) fun z e => ?_
    · exact ⟨0, (Option.some.inj e).symm, by rw [seq_iff.mp z]; rfl, fun m hm => absurd hm (Nat.not_lt_zero m)⟩
    · obtain ⟨j, e1, e2, e3⟩ := ih e
      refine ⟨j + 1, by rw [e1, Nat.add_assoc, Nat.add_comm 1 j], e2, fun m hm => ?_⟩
      cases m with
      | zero => exact fun w => seq_false.mp z (Option.some.inj w).symm
      | succ m => exact e3 m (Nat.lt_of_succ_lt_succ hm)
theorem strsAre_len {vs : List Value} {ys : List Str} (sa : StrsAre vs ys) : vs.length = ys.length := by
  induction sa with
  | nil => exact rfl
  | cons _ _ _ ih => exact congrArg (· + 1) ih
theorem strsAre_at {vs : List Value} {ys : List Str} (sa : StrsAre vs ys) : ∀ {j : Nat} {w : Value}, vs[j]? = some w → ∃ t y, w = .str y t ∧ ys[j]? = some y := by
  induction sa with
  | nil => exact fun {j w} e => by cases j <;> exact nn e
  | cons y t r ih =>
    intro j w e
    cases j with
    | zero => exact ⟨t, y, (Option.some.inj e).symm, rfl⟩
    | succ j => exact ih e
noncomputable def isVal (x : Str) : Value → Bool
  | .str y _ => decide (y = x)
  | _ => false
theorem index_list {a : Addr} {vs : List Value} {ys : List Str} {m : Nat} {x : Str} {t : Tok} {j : Nat} (eh : s.heap.get? a = some (listOf vs.toArray m)) (sa : StrsAre vs ys) (sz : vs.length ≤ 1000) (e2 : ys[j]? = some x) (e3 : ∀ m, m < j → ys[m]? ≠ some x)
    {Q : Value → Shared → Prop} (q : ∀ t tk, Q (.int j t) { s with toks := tk }) : wpAny (model G.prog G.w) A (call (.builtin "list.index") [.ref a, .str x t]) Q E s := by
  have hj : j < vs.length := by rw [strsAre_len sa]; exact (List.getElem?_eq_some_iff.mp e2).1
  refine call_meets PySem.F.slot_list_index ⟨_, eh, rfl⟩ PySem.F.entry_list_index (PySem.F.args_list_index_2 _ _) (SeqAt.list_indexAt a vs.toArray m none #[] (.str x t) (isVal x) j (by simpa using hj) (Int.lt_of_lt_of_le (Int.ofNat_lt.mpr (Nat.lt_of_lt_of_le hj sz)) (by decide)) ?_ ?_) ⟨eh, fun y hy => ?_, q _ _⟩
  · obtain ⟨t', y, a1, a2⟩ := strsAre_at sa (List.getElem?_eq_getElem hj)
    rw [List.getElem_toArray, a1]
    exact decide_eq_true (Option.some.inj (a2.symm.trans e2))
  · intro k hk lt
    obtain ⟨t', y, a1, a2⟩ := strsAre_at sa (List.getElem?_eq_getElem (by simpa using hk))
    rw [List.getElem_toArray, a1]
    exact decide_eq_false fun w => e3 k lt (by rw [a2, w])
  · obtain ⟨k, hk, rfl⟩ := List.mem_iff_getElem.mp (by simpa using hy : y ∈ vs)
    obtain ⟨t', y, a1, a2⟩ := strsAre_at sa (List.getElem?_eq_getElem hk)
    rw [a1]
    exact fun prog w E Q hq => wpAny_eqBool_str hq

theorem index_tuple {a : Addr} {vs : List Value} {ys : List Str} {m : Nat} {x : Str} {t : Tok} {j : Nat} (eh : s.heap.get? a = some { cls := .type "tuple", data := .seq vs.toArray m }) (sa : StrsAre vs ys) (e2 : ys[j]? = some x) (e3 : ∀ m, m < j → ys[m]? ≠ some x)
    {Q : Value → Shared → Prop} (q : ∀ t tk, Q (.int j t) { s with toks := tk }) : wpAny (model G.prog G.w) A (call (.builtin "tuple.index") [.ref a, .str x t]) Q E s := by
  have hj : j < vs.length := by rw [strsAre_len sa]; exact (List.getElem?_eq_some_iff.mp e2).1
  refine wpAny_call_entry PySem.F.slot_tuple_index ⟨_, eh, rfl⟩ PySem.F.entry_tuple_index ?_ (PySem.F.args_tuple_index_2 _ _)
  show wpAny _ _ (Builtin.Tuple.tupleItemsOf (.ref a) >>= _) _ _ s
  refine wpAny_bind (tupleItemsOf_ ⟨_, eh, rfl, _, rfl⟩ ?_)
  refine wpAny_bind (wpAny_pure (wpAny_bind (wpAny_pure (wpAny_bind ?_))))
  rw [Std.Legacy.Range.forIn_eq_forIn_range']
  simp only [Std.Legacy.Range.size, Nat.sub_zero, Nat.add_sub_cancel, Nat.div_one, List.size_toArray, Nat.min_self]
  refine wpAny_forIn_list _ (fun rest b s' => ∃ i d, s' = s ∧ i ≤ j ∧ i + d = vs.length ∧ rest = List.range' i d) _ ?_ ?_ _ _ ⟨0, vs.length, rfl, Nat.zero_le _, Nat.zero_add _, rfl⟩
  · rintro k rest b s' ⟨i, d, rfl, hi, hd, hr⟩
    cases d with
    | zero => exact nomatch hr
    | succ d =>
      rw [List.range'_succ] at hr
      obtain ⟨h1, h2⟩ := List.cons.inj hr
      subst h1
      have hk : k < vs.length := hd ▸ Nat.lt_add_of_pos_right (Nat.succ_pos d)
      have hk' := List.getElem?_eq_getElem hk
      obtain ⟨t', y, a1, a2⟩ := strsAre_at sa hk'
      rw [List.getElem?_toArray, hk', a1]
      refine wpAny_bind (wpAny_eqBool_str ?_)
      rcases Decidable.em (y = x) with w | w
      · have : k = j := (Nat.lt_or_ge k j).elim (fun z => absurd (w ▸ a2) (e3 k z)) fun z => Nat.le_antisymm hi z
        rw [decide_eq_true w, this]
        exact wpAny_bind (wpAny_bind (wpAny_mkInt (wpAny_pure (wpAny_pure (wpAny_pure ⟨_, rfl, q _ _⟩)))))
      · rw [decide_eq_false w]
        refine wpAny_pure ⟨k + 1, d, rfl, Nat.lt_of_le_of_ne hi fun z => w ?_, by rw [← hd, Nat.add_assoc, Nat.add_comm 1 d], h2⟩
        rw [z, e2] at a2
        exact (Option.some.inj a2).symm
  · rintro b s' ⟨i, d, rfl, hi, hd, hr⟩
    cases d with
    | zero => exact absurd (Nat.lt_of_le_of_lt hi hj) (Nat.not_lt.mpr (Nat.le_of_eq hd.symm))
    | succ d => exact nomatch (hr.trans List.range'_succ)

theorem join_fold : ∀ (ys : List Str), (Str.join ⟨#[]⟩ ys).cps.toList = (ys.map fun y => y.cps.toList).flatten
  | [] => rfl
  | [y] => by simp [Str.join]
  | y :: z :: r => by
    have := join_fold (z :: r)
    show ((y ++ ⟨#[]⟩ ++ Str.join ⟨#[]⟩ (z :: r) : Str)).cps.toList = _
    have e : (y ++ ⟨#[]⟩ ++ Str.join ⟨#[]⟩ (z :: r) : Str) = ⟨y.cps ++ #[] ++ (Str.join ⟨#[]⟩ (z :: r)).cps⟩ := rfl
    rw [e]
    simp only [Array.toList_append, Array.append_empty, this, List.map_cons, List.flatten_cons]
theorem joinI_strs {X : Addr → Prop} : ∀ {l : List RV} {vs : List Value} {r : List Nat}, RVRs G h X ad l vs → joinI l = some r → ∃ ys, StrsAre vs ys ∧ r = (ys.map fun y => y.cps.toList).flatten := fun {l} => by
  induction l with
  | nil => exact fun {vs r} rs e => si (P := fun r => ∃ ys, StrsAre vs ys ∧ r = (ys.map fun y => y.cps.toList).flatten) e ⟨[], All2.nilE (P := fun vs => StrsAre vs []) rs .nil, rfl⟩
  | cons a l ih =>
    refine fun {vs r} rs e => bs e fun x e1 e => ms (P := fun r => ∃ ys, StrsAre vs ys ∧ r = (ys.map fun y => y.cps.toList).flatten) e fun r2 e2 => All2.consE (P := fun vs => ∃ ys, StrsAre vs ys ∧ x.cps.toList ++ r2 = (ys.map fun y => y.cps.toList).flatten) rs fun w m r1 rs => ?_
    obtain ⟨ys, z, e3⟩ := ih rs e2
    exact RVR.ofStr (P := fun w => ∃ ys, StrsAre (w :: m) ys ∧ x.cps.toList ++ r2 = (ys.map fun y => y.cps.toList).flatten) e1 r1 fun t => ⟨x :: ys, .cons x t z, by rw [e3]; rfl⟩
theorem join_len (ys : List Str) : ((ys.map fun y => y.cps.toList).flatten).length = (ys.map (·.length)).sum := by
  induction ys with
  | nil => rfl
  | cons y ys ih => simp only [List.map_cons, List.flatten_cons, List.length_append, ih, List.sum_cons]; rfl

/-- a list or a tuple -/
structure SeqR (G : Gnd) (h : Heap) (X : Addr → Prop) (ad : Ad) (l : List RV) (a : Addr) (vs : List Value) (n : Nat) : Prop where
  rl : RVRs G h X ad l vs
  eo : h.get? a = some (PySem.W.listOf vs.toArray n) ∨ h.get? a = some { cls := .type "tuple", data := .seq vs.toArray n }
theorem asList_at {P : Value → Prop} (H : HR G h F ad hp) {v : RV} {w : Value} {l : List RV} (e : asList hp v = some l) (r : RVR G h (Xp G F ad hp) ad v w) (k : ∀ a vs n, SeqR G h (Xp G F ad hp) ad l a vs n → P (.ref a)) : P w := by
  cases v with
  | a v =>
    exact os e (fun e => me e fun m e1 e2 => AR.ofLst e1 r fun a vs n R => k a vs n ⟨Option.some.inj e2 ▸ RVRs.ofA R.r, .inl R.e⟩) fun e => me e fun m e1 e2 => AR.ofTup e1 r fun a vs n R => k a vs n ⟨Option.some.inj e2 ▸ RVRs.ofA R.r, .inr R.e⟩
  | r i =>
    refine RVR.rE r fun p ep => ?_
    obtain ⟨vs, m, eh, rs⟩ := lst_obj H e ep
    exact k _ vs m ⟨rs, .inl eh⟩

theorem erase0 {v : Value} {vs : List Value} {m : Nat} : ∃ m', Obj.mapSeq (fun xs => xs.eraseIdxIfInBounds 0) (listOf (v :: vs).toArray m) = listOf vs.toArray m' := by
  refine ⟨(if ((v :: vs).toArray.eraseIdxIfInBounds 0).size == (v :: vs).toArray.size then m else m + 1), ?_⟩
  simp [Obj.mapSeq, W.listOf, Array.eraseIdxIfInBounds]
theorem pop_sound (H : HR G s.heap F ad hp) {i : Nat} {p : Addr × Addr} {x : RV} {l : List RV} {t : Tok} (ep : nth ad i = some p) (el : nth hp i = some (.lst (x :: l))) (sz : l.length ≤ 1000) {Q : Value → Shared → Prop}
    (q : PQ G s Q F ad hp x (nset hp i (.lst l))) : wpAny (model G.prog G.w) A (call (.builtin "list.pop") [.ref p.1, .int 0 t]) Q E s := by
  obtain ⟨vs, m, eh, rs⟩ := (H.obj _ _ p el ep : ∃ vs n, s.heap.get? p.1 = some (listOf (List.toArray vs) n) ∧ RVRs G s.heap (Xp G F ad hp) ad (x :: l) vs)
  refine All2.consE (P := fun vs => s.heap.get? p.1 = some (listOf (List.toArray vs) m) → _) rs (fun v vs r rs eh => ?_) eh
  have hk : seqIndex? 0 (v :: vs).toArray.size = some 0 := by
    unfold seqIndex?
    simp
  refine call_meets PySem.F.slot_list_pop ⟨_, eh, rfl⟩ PySem.F.entry_list_pop (PySem.F.args_list_pop_2 _ _) (PySem.MeetsSeq.list_pop_at p.1 (v :: vs).toArray m 0 t 0 v (by decide) hk (by simp) (by rw [List.size_toArray, List.length_cons, ← All2.len rs, sizeLine_eq]; exact Nat.le_trans (Nat.succ_le_succ sz) (by decide))) ⟨eh, ?_⟩
  obtain ⟨m', e1⟩ := erase0 (v := v) (vs := vs) (m := m)
  have eh1 : (s.heap.update p.1 (Obj.mapSeq fun xs => xs.eraseIdxIfInBounds 0)).get? p.1 = some (listOf vs.toArray m') := by
    rw [Heap.get?_update_self _ eh (by rw [e1]; rfl), e1]
  have hs : Heap.SameBut p.1 s.heap (s.heap.update p.1 (Obj.mapSeq fun xs => xs.eraseIdxIfInBounds 0)) := Heap.SameBut.update ..
  have w := own_step (W := []) (o' := .lst l) H ep el (fun _ z => z) (.head _) hs fun S => ⟨vs, m', eh1, RVRs.stay S (fun _ _ e => e) rs⟩
  exact q ad _ s.toks _ w.1 (r.stay (w.2.stay nil_sub) fun _ _ e => e) w.2

section
variable {o rv : RV} {as : List RV} {ov : Value} {vs : List Value} {Q : Value → Shared → Prop}
theorem m_app (H : HR G s.heap F ad hp) (e : mApp o as hp = some (rv, hp')) (ro : RVR G s.heap (Xp G F ad hp) ad o ov) (ra : RVRs G s.heap (Xp G F ad hp) ad as vs) (q : PQ G s Q F ad hp rv hp') : wpAny (model G.prog G.w) A (call (.builtin "list.append") (ov :: vs)) Q E s :=
  bs e fun i e1 e => bs e fun v e2 e => bs e fun l e3 e => gs e fun sz e => RVR.ofR (P := fun ov => wpAny (model G.prog G.w) A (call (.builtin "list.append") (ov :: vs)) Q E s) e1 ro fun p ep => RVRs.one (P := fun vs => wpAny (model G.prog G.w) A (call (.builtin "list.append") (.ref p.1 :: vs)) Q E s) e2 ra fun w r => append_sound H ep (lstAtE e3 id) (Nat.le_of_ble_eq_true sz) r (q.at e)
theorem m_rev (H : HR G s.heap F ad hp) (e : mRev o as hp = some (rv, hp')) (ro : RVR G s.heap (Xp G F ad hp) ad o ov) (ra : RVRs G s.heap (Xp G F ad hp) ad as vs) (q : PQ G s Q F ad hp rv hp') : wpAny (model G.prog G.w) A (call (.builtin "list.reverse") (ov :: vs)) Q E s := by
  cases as with
  | nil => exact bs e fun i e1 e => bs e fun l e3 e => gs e fun sz e => RVR.ofR (P := fun ov => wpAny (model G.prog G.w) A (call (.builtin "list.reverse") (ov :: vs)) Q E s) e1 ro fun p ep => All2.nilE (P := fun vs => wpAny (model G.prog G.w) A (call (.builtin "list.reverse") (.ref p.1 :: vs)) Q E s) ra (reverse_sound H ep (lstAtE e3 id) (Nat.le_of_ble_eq_true sz) (q.at e))
  | cons _ _ => exact bs e fun _ _ e => nn e
theorem m_get (H : HR G s.heap F ad hp) (sx : ∀ b : Addr, G.h0.objs.size ≤ b → (b == sysModules) = false) (e : mGet o as hp = some (rv, hp')) (ro : RVR G s.heap (Xp G F ad hp) ad o ov) (ra : RVRs G s.heap (Xp G F ad hp) ad as vs) (q : PQ G s Q F ad hp rv hp') : wpAny (model G.prog G.w) A (call (.builtin "dict.get") (ov :: vs)) Q E s :=
  bs e fun v e1 e => bs e fun l e2 e => bs e fun k e3 e => me e fun x e4 e => RVRs.one (P := fun vs => wpAny (model G.prog G.w) A (call (.builtin "dict.get") (ov :: vs)) Q E s) e3 ra fun w r => RVR.ofStr (P := fun w => wpAny (model G.prog G.w) A (call (.builtin "dict.get") [ov, w]) Q E s) e4 r fun t =>
    AR.ofDct (P := fun ov => wpAny (model G.prog G.w) A (call (.builtin "dict.get") [ov, .str x t]) Q E s) e2 (ro.ofA e1) fun a es n D => by
      refine call_meetsIn PySem.F.slot_dict_get ⟨_, D.e, rfl⟩ PySem.F.entry_dict_get (PySem.F.args_dict_get_2 _ _) (meets_dict_get (strKind G.prog G.w) _ (strKind_is G.prog G.w x t) (sx _ (Nat.not_lt.mp fun q => D.x (.inl q)))) ⟨_, mapOf_dict D.e (keys_all D.r), ?_⟩
      have q := q.at e
      rcases find_ard D.r x with ⟨f1, f2⟩ | ⟨y, v, f1, f2, r⟩
      · rw [f1] at q; rw [f2]; exact q.here H .none _
      · rw [f1] at q; rw [f2]; exact q.here H r _
theorem m_idxL (H : HR G s.heap F ad hp) (e : ((rA o).bind fun v => (aLst v).bind fun l => (one as).bind fun k => idxS k l hp) = some (rv, hp')) (ro : RVR G s.heap (Xp G F ad hp) ad o ov) (ra : RVRs G s.heap (Xp G F ad hp) ad as vs) (q : PQ G s Q F ad hp rv hp') : wpAny (model G.prog G.w) A (call (.builtin "list.index") (ov :: vs)) Q E s :=
  bs e fun v e1 e => bs e fun l e2 e => bs e fun k e3 e => bs e fun x e4 e => gs e fun sz e => gs e fun st e => me e fun k e5 e => RVRs.one (P := fun vs => wpAny (model G.prog G.w) A (call (.builtin "list.index") (ov :: vs)) Q E s) e3 ra fun w r => RVR.ofStr (P := fun w => wpAny (model G.prog G.w) A (call (.builtin "list.index") [ov, w]) Q E s) e4 r fun t =>
    AR.ofLst (P := fun ov => wpAny (model G.prog G.w) A (call (.builtin "list.index") [ov, .str x t]) Q E s) e2 (ro.ofA e1) fun a vs n D => by
      have q := q.at e
      obtain ⟨ys, el, sa⟩ := strs_of D.r st
      rw [el] at e5
      obtain ⟨j, ek, e6, e7⟩ := sidx_at e5
      rw [ek, Nat.zero_add] at q
      exact index_list D.e sa (by rw [← All2.len D.r]; exact Nat.le_of_ble_eq_true sz) e6 e7 fun t tk => q.here H (.int _ _) _
theorem m_idxT (H : HR G s.heap F ad hp) (e : ((rA o).bind fun v => (aTup v).bind fun l => (one as).bind fun k => idxS k l hp) = some (rv, hp')) (ro : RVR G s.heap (Xp G F ad hp) ad o ov) (ra : RVRs G s.heap (Xp G F ad hp) ad as vs) (q : PQ G s Q F ad hp rv hp') : wpAny (model G.prog G.w) A (call (.builtin "tuple.index") (ov :: vs)) Q E s :=
  bs e fun v e1 e => bs e fun l e2 e => bs e fun k e3 e => bs e fun x e4 e => gs e fun sz e => gs e fun st e => me e fun k e5 e => RVRs.one (P := fun vs => wpAny (model G.prog G.w) A (call (.builtin "tuple.index") (ov :: vs)) Q E s) e3 ra fun w r => RVR.ofStr (P := fun w => wpAny (model G.prog G.w) A (call (.builtin "tuple.index") [ov, w]) Q E s) e4 r fun t =>
    AR.ofTup (P := fun ov => wpAny (model G.prog G.w) A (call (.builtin "tuple.index") [ov, .str x t]) Q E s) e2 (ro.ofA e1) fun a vs n D => by
      have q := q.at e
      obtain ⟨ys, el, sa⟩ := strs_of D.r st
      rw [el] at e5
      obtain ⟨j, ek, e6, e7⟩ := sidx_at e5
      rw [ek, Nat.zero_add] at q
      exact index_tuple D.e sa e6 e7 fun t tk => q.here H (.int _ _) _
theorem join_ok {ys : List Str} {x : Str} (ex : x = ⟨#[]⟩) (sz : ((ys.map fun y => y.cps.toList).flatten).length ≤ 10000) : (ys.map (·.length)).sum + ys.length * x.length ≤ 16777216 := by
  rw [join_len] at sz
  rw [show x.length = 0 by rw [ex]; rfl]
  exact Nat.le_trans sz (by decide)
theorem join_txt {ys : List Str} {x : Str} (ex : x = ⟨#[]⟩) : Txt.join x ys = ⟨((ys.map fun y => y.cps.toList).flatten).toArray⟩ := by
  apply str_ext
  unfold Txt.join
  rw [StrLaws.glued_eq_join, ex, join_fold]
theorem m_join (H : HR G s.heap F ad hp) (e : mJoin o as hp = some (rv, hp')) (ro : RVR G s.heap (Xp G F ad hp) ad o ov) (ra : RVRs G s.heap (Xp G F ad hp) ad as vs) (q : PQ G s Q F ad hp rv hp') : wpAny (model G.prog G.w) A (call (.builtin "str.join") (ov :: vs)) Q E s :=
  bs e fun x e1 e => bs e fun v e2 e => gs e fun ex e => bs e fun l e3 e => gs e fun _ e => bs e fun r e4 e => gs e fun sz e => RVR.ofStr (P := fun ov => wpAny (model G.prog G.w) A (call (.builtin "str.join") (ov :: vs)) Q E s) e1 ro fun t =>
    RVRs.one (P := fun vs => wpAny (model G.prog G.w) A (call (.builtin "str.join") (.str x t :: vs)) Q E s) e2 ra fun w rw => asList_at (P := fun w => wpAny (model G.prog G.w) A (call (.builtin "str.join") [.str x t, w]) Q E s) H e3 rw fun a vs n S => by
      have q := q.at e
      obtain ⟨ys, sa, er⟩ := joinI_strs S.rl e4
      have ex' : x = ⟨#[]⟩ := str_ext (List.isEmpty_iff.mp ex)
      rw [er] at sz q
      have ok := join_ok ex' (Nat.le_of_ble_eq_true sz)
      have fin : ∀ t' k, Q (.str (Txt.join x ys) t') { s with toks := k } := fun t' k => by rw [join_txt ex']; exact q.here H (.str _ _) _
      exact S.eo.elim (fun eo => join_list ⟨_, eo, rfl, _, rfl⟩ sa ok fin) fun eo => join_tuple ⟨_, eo, rfl, _, rfl⟩ sa ok fin
theorem rj_txt {x : Str} {n : Int} {c : Nat} : Txt.rjustF x n c = ⟨(List.replicate (n.toNat - x.length) c ++ x.cps.toList).toArray⟩ := by
  apply str_ext
  unfold Txt.rjustF
  split
  · have : n.toNat - x.length = 0 := by (first | lia | omega)
    rw [this]; rfl
  · simp [Builtin.Str.padded]
theorem m_rj (H : HR G s.heap F ad hp) (e : mRj o as hp = some (rv, hp')) (ro : RVR G s.heap (Xp G F ad hp) ad o ov) (ra : RVRs G s.heap (Xp G F ad hp) ad as vs) (q : PQ G s Q F ad hp rv hp') : wpAny (model G.prog G.w) A (call (.builtin "str.rjust") (ov :: vs)) Q E s :=
  bs e fun x e1 e => bs e fun p e2 e => bs e fun n e3 e => bs e fun y e4 e => bs e fun c e5 e => gs e fun h1 e => gs e fun h2 e => gs e fun h3 e => RVR.ofStr (P := fun ov => wpAny (model G.prog G.w) A (call (.builtin "str.rjust") (ov :: vs)) Q E s) e1 ro fun t =>
    RVRs.two (P := fun vs => wpAny (model G.prog G.w) A (call (.builtin "str.rjust") (.str x t :: vs)) Q E s) e2 ra fun w u r1 r2 => RVR.ofInt (P := fun w => wpAny (model G.prog G.w) A (call (.builtin "str.rjust") [.str x t, w, u]) Q E s) e3 r1 fun t1 => RVR.ofStr (P := fun u => wpAny (model G.prog G.w) A (call (.builtin "str.rjust") [.str x t, .int n t1, u]) Q E s) e4 r2 fun t2 => by
      have h1 := of_decide_eq_true h1
      have h2 := of_decide_eq_true h2
      have h3 := Nat.le_of_ble_eq_true h3
      have q := q.at e
      have ey : y = ⟨#[c]⟩ := str_ext (oneE (P := fun l => l = [c]) e5 rfl)
      rw [ey]
      refine rjust_fill (padOk_of (by clear q; (first | lia | omega)) (by clear q; (first | lia | omega))) rfl fun t' k => ?_
      show Q (.str (Txt.rjustF x n c) t') _
      rw [rj_txt]
      exact q.here H (.str _ _) _
theorem m_pop (H : HR G s.heap F ad hp) (e : mPop o as hp = some (rv, hp')) (ro : RVR G s.heap (Xp G F ad hp) ad o ov) (ra : RVRs G s.heap (Xp G F ad hp) ad as vs) (q : PQ G s Q F ad hp rv hp') : wpAny (model G.prog G.w) A (call (.builtin "list.pop") (ov :: vs)) Q E s :=
  bs e fun i e1 e => bs e fun k e2 e => bs e fun k e3 e => gs e fun ek e => bs e fun l e4 e => RVR.ofR (P := fun ov => wpAny (model G.prog G.w) A (call (.builtin "list.pop") (ov :: vs)) Q E s) e1 ro fun p ep =>
    RVRs.one (P := fun vs => wpAny (model G.prog G.w) A (call (.builtin "list.pop") (.ref p.1 :: vs)) Q E s) e2 ra fun w r => RVR.ofInt (P := fun w => wpAny (model G.prog G.w) A (call (.builtin "list.pop") [.ref p.1, w]) Q E s) e3 r fun t => by
      rw [of_decide_eq_true ek]
      cases l with
      | nil => exact nn e
      | cons x l => exact gs e fun sz e => pop_sound H ep (lstAtE e4 id) (Nat.le_of_ble_eq_true sz) (q.at e)
theorem methI_sound (H : HR G s.heap F ad hp) (sx : ∀ b : Addr, G.h0.objs.size ≤ b → (b == sysModules) = false) {t : MT} (e : methI t o as hp = some (rv, hp')) (ro : RVR G s.heap (Xp G F ad hp) ad o ov) (ra : RVRs G s.heap (Xp G F ad hp) ad as vs)
    (q : PQ G s Q F ad hp rv hp') : wpAny (model G.prog G.w) A (call (.builtin (mtId t)) (ov :: vs)) Q E s := by
  cases t with
  | append => exact m_app H e ro ra q
  | reverse => exact m_rev H e ro ra q
  | get => exact m_get H sx e ro ra q
  | indexL => exact m_idxL H e ro ra q
  | indexT => exact m_idxT H e ro ra q
  | join => exact m_join H e ro ra q
  | rjust => exact m_rj H e ro ra q
  | pop => exact m_pop H e ro ra q
end
end
end Mine
end
section
open PySem PySem.W PyProof.Rows PySem.Calls
namespace Mine

section
variable {G : Gnd} {glob : Str → Option Addr} {n : Nat} {ih : Ih} {A : Around} {E : Value → Shared → Prop} {s : Shared} {env : Env} {W W' F F' : List Addr} {ad ad' : Ad} {hp hp' hp1 hp2 : Hp} {h h' h'' : Heap} {sc : Sc} {loc loc' : Loc} {X X' : Addr → Prop}
variable {K : Frag} {fI : Addr}

theorem HV.sx (hv : HV G) : ∀ b : Addr, G.h0.objs.size ≤ b → (b == sysModules) = false := fun b z => beq_eq_false_iff_ne.mpr fun q => Nat.not_lt.mpr z (q ▸ sys_lt hv)
theorem lt30 {n : Nat} (la : n ≤ 3) : n + 0 + 0 < 30 := Nat.lt_of_le_of_lt la (by decide)
theorem method_sound (I : SIh G glob n ih) (hv : HV G) {o : Expr} {m : Str} {apos pos : Pos} {args : List Expr} {rv : RV} (hl : (apos.endLine == pos.line) = true) (nc : noCall0 o = true) (la : args.length ≤ 3)
    (ee : ((ih.ev sc loc hp o).bind fun q => (methT m q.1 q.2).bind fun mt => (evArgs ih sc loc q.2 args).bind fun q' => methI mt q.1 q'.1 q'.2) = some (rv, hp')) : EvAt G n sc loc hp (.Call (.Attribute o m apos) args [] pos) rv hp' :=
  bs2 ee fun x hp1 e1 ee => bs ee fun mt e2 ee => bs2 ee fun rs hp2 e3 e4 A E env F ad s Q rm H R q => by
    have p := args_plain (env := env) (pos := pos) e3
    refine wpAny_Call_method_lateS (base_whole nc m env) ?_ hl ?_
    · rw [p.1]
      show (true && true && decide (args.length + 0 + 0 < 30)) = true
      rw [decide_eq_true (lt30 la)]; rfl
    · refine I.one e1 rm H R fun ad1 h1 tk1 v H1 R1 g1 r1 => ?_
      have M := methT_ok (s := { s with heap := h1, toks := tk1 }) H1 e2 r1
      rw [M.1]
      have sl := mt_slot mt
      refine ⟨_, _, sl.1, sl.2.1, sl.2.2, M.2.1, M.2.2, ?_⟩
      exact Calls.callWith_builtin (any_false p.1) (args_eval (s := { s with heap := h1, toks := tk1 }) I rm e3 H1 R1 fun ad2 h2 tk2 vs H2 R2 g2 r2 =>
        methI_sound (s := { s with heap := h2, toks := tk2 }) H2 hv.sx e4 (r1.go g2 nil_sub) r2 (q.after (g1.trans g2)))
end
end Mine
end
section
open PySem PySem.W PyProof.Rows PySem.Calls
set_option maxRecDepth 100000
namespace Mine

section
variable {prog : Program} {w : World} {A : Around} {E : Value → Shared → Prop} {s : Shared}

theorem hint_dict {d : Addr} {kvs : List (Str × Value)} {Q : Bool → Shared → Prop} (hd : (d == sysModules) = false) (hm : s.heap.DictOf (PySem.strKind prog w) d kvs) (sz : kvs.length ≤ 1000)
    (h : ∀ b tk, Q b { s with toks := tk }) : wpAny (model prog w) A (Builtin.List.listLengthHint (.ref d)) Q E s := by
  unfold Builtin.List.listLengthHint
  refine wpAny_bind (wpAny_specialOf hm.typeIs PySem.F.slot_dict_len.lookup ?_)
  generalize hid : ("dict.__len__" : String) = id0
  wp_delta
  rw [show splitId id0 = some ("dict", "__len__") from by subst hid; decide +kernel]
  subst hid
  refine wpAny_bind (wpAny_isInstance (T := "dict") (b := true) hm.typeIs (by rw [isSubtype_type]; kernel_rfl) ?_)
  refine wpAny_ite_split (fun hab => absurd hab (by decide)) (fun _ => ?_)
  refine wpAny_ite_split (fun _ => ?_) (fun hab => absurd (by decide +kernel) hab)
  refine wpAny_bind (wpAny_typeOf hm.typeIs ?_)
  exact wpAny_pure (h false s.toks)

theorem moved_with {wr : List Addr} {s s' : Shared} (hm : Moved wr (fun a b => b = a) s s') : s' = { s with heap := s'.heap, toks := s'.toks } := by
  obtain ⟨h', g', d', tk', os'⟩ := s'
  have e1 : g' = s.gens := hm.gens
  have e2 : d' = s.drawn := hm.drawn
  have e3 : os' = s.os := hm.os
  subst e1 e2 e3
  rfl

theorem keys_strs {kvs : List (Str × Value)} {acc : Array Value} (h : ItemsOf (fun i v => ∃ k x, kvs[i]? = some (k, x) ∧ (PySem.strKind prog w).is k v = true) acc kvs.length) : StrsAre acc.toList (kvs.map (·.1)) := by
  obtain ⟨hs, hi⟩ := h
  have : ∀ (l : List Value) (n : Nat), l.length + n = kvs.length → (∀ j v, l[j]? = some v → ∃ k x, kvs[n + j]? = some (k, x) ∧ (PySem.strKind prog w).is k v = true) → StrsAre l ((kvs.drop n).map (·.1)) := by
    intro l
    induction l with
    | nil => intro n e _; rw [List.drop_of_length_le (by simp at e; (first | lia | omega))]; exact .nil
    | cons v l ih =>
      intro n e hv
      obtain ⟨k, x, e1, e2⟩ := hv 0 v rfl
      have hn : n < kvs.length := by simp at e; (first | lia | omega)
      rw [List.drop_eq_getElem_cons hn, List.map_cons]
      have e3 : kvs[n] = (k, x) := by
        have := List.getElem?_eq_getElem hn
        rw [Nat.add_zero, this] at e1; exact Option.some.inj e1
      rw [e3]
      cases v with
      | str y t =>
        have : y = k := by simpa [PySem.strKind, Value.isStrOf] using e2
        subst this
        exact .cons _ _ (ih (n + 1) (by simp at e; (first | lia | omega)) fun j v ej => by
          obtain ⟨k', x', a, b⟩ := hv (j + 1) v (by simpa using ej)
          exact ⟨k', x', by rw [← a]; congr 1; (first | lia | omega), b⟩)
      | _ => simp [PySem.strKind, Value.isStrOf] at e2
  have := this acc.toList 0 (by simp [hs]) fun j v e => by
    obtain ⟨k, x, a, b⟩ := hi j v (by simpa using e)
    exact ⟨k, x, by simpa using a, b⟩
  simpa using this

theorem collect_dict {d : Addr} {kvs : List (Str × Value)} {Q : List Value → Shared → Prop} (hh : A.handled = none) (hd : (d == sysModules) = false) (hm : s.heap.DictOf (PySem.strKind prog w) d kvs) (sz : kvs.length ≤ 1000)
    (h : ∀ vs h' tk, StrsAre vs (kvs.map (·.1)) → (∀ b o, s.heap.get? b = some o → h'.get? b = some o) → Q vs { s with heap := h', toks := tk }) : wpAny (model prog w) A (collect (.ref d)) Q E s := by
  unfold collect
  refine wpAny_bind (wpAny_runValue (codeAny_builtin PySem.F.entry_proto_collect ?_))
  rw [Around.under_plainId PySem.F.plain_proto_collect _]
  show wpAny _ A.in1 (newList [] >>= fun l => again (.builtin "list.__iadd__" ⟨[l, .ref d], []⟩)) _ _ s
  refine wpAny_bind (wpAny_newObj_type ?_)
  refine wpAny_pure ⟨plainId_quiet PySem.F.plain_list_iadd _, codeAny_builtin PySem.F.entry_list_iadd ?_⟩
  rw [Around.under_plainId PySem.F.plain_list_iadd _]
  have dlt : d < s.heap.objs.size := by obtain ⟨o, _, _, ho, _⟩ := hm; exact Heap.lt_size ho
  have hSd : s.heap.objs.size ≠ d := fun e => Nat.lt_irrefl _ (e ▸ dlt)
  have hS₁ : (s.heap.push { cls := .type "list", data := .seq ([] : List Value).toArray }).get? s.heap.objs.size = some { cls := .type "list", data := .seq ([] : List Value).toArray } := Heap.get?_push_size _ rfl
  have h1 : Builtin.List.listSameRef (.ref s.heap.objs.size) (.ref d) = false := by simp [Builtin.List.listSameRef, hSd]
  have hm1 := Heap.DictOf.push hm { cls := .type "list", data := .seq ([] : List Value).toArray }
  obtain ⟨ep, ha1⟩ := hm1.dictAt
  show wpAny _ A.in1 (Builtin.List.listExtendWith (.ref s.heap.objs.size) (.ref d) (.ref s.heap.objs.size)) _ _ _
  unfold Builtin.List.listExtendWith
  refine wpAny_bind (wpAny_typeOf (T := "dict") hm1.typeIs ?_)
  rw [if_neg (by rw [h1]; decide)]
  refine wpAny_bind (wpAny_pyIter_dict (s := { s with heap := _ }) hd ha1 ?_)
  have ha2 := Heap.DictAt.push ha1 { cls := .type "dict_keyiterator", data := .fields #[.ref d, .int 0 0, .int kvs.length 0, .int ep 0] }
  refine wpAny_bind (wpAny_holding (hint_dict (s := { s with heap := _ }) hd ha2.dictOf sz fun b tk => ?_))
  have sz1 : (s.heap.push { cls := .type "list", data := .seq ([] : List Value).toArray }).objs.size = s.heap.objs.size + 1 := Heap.size_push ..
  have hSI : s.heap.objs.size ≠ (s.heap.push { cls := .type "list", data := .seq ([] : List Value).toArray }).objs.size := by rw [sz1]; exact Nat.ne_of_lt (Nat.lt_succ_self _)
  have hdI : d ≠ (s.heap.push { cls := .type "list", data := .seq ([] : List Value).toArray }).objs.size := by rw [sz1]; exact Nat.ne_of_lt (Nat.lt_succ_of_lt dlt)
  have W := (Walks.dictKeys (prog := prog) (w := w) (A := A.in1) (knd := PySem.strKind prog w) hh (s.heap.push { cls := .type "list", data := .seq ([] : List Value).toArray }).objs.size d hdI kvs ep).toS
  have hS₂ := Heap.get?_push_of_some { cls := .type "dict_keyiterator", data := .fields #[.ref d, .int 0 0, .int kvs.length 0, .int ep 0] } hS₁
  have hit : ((s.heap.push { cls := .type "list", data := .seq ([] : List Value).toArray }).push { cls := .type "dict_keyiterator", data := .fields #[.ref d, .int 0 0, .int kvs.length 0, .int ep 0] }).IsKeyIter (s.heap.push { cls := .type "list", data := .seq ([] : List Value).toArray }).objs.size d 0 kvs.length ep :=
    ⟨_, Heap.get?_push_size _ rfl, rfl, rfl⟩
  have hSf : s.heap.objs.size ∉ [(s.heap.push { cls := .type "list", data := .seq ([] : List Value).toArray }).objs.size, d] := fun hm => by
    rcases List.mem_cons.mp hm with e | hm
    · exact hSI e
    · exact hSd (List.mem_singleton.mp hm)
  have key : ∀ (g : Heap) (c₁ tk : Nat), g.IsKeyIter (s.heap.push { cls := .type "list", data := .seq ([] : List Value).toArray }).objs.size d 0 kvs.length ep → g.DictAt (PySem.strKind prog w) d kvs ep → (∀ b o, s.heap.get? b = some o → g.get? b = some o) →
      g.get? s.heap.objs.size = some { cls := .type "list", data := .seq #[] c₁ } → codeAny (model prog w) A (.builtin "list.extend.loop" ⟨[.ref s.heap.objs.size, .ref (s.heap.push { cls := .type "list", data := .seq ([] : List Value).toArray }).objs.size, .ref s.heap.objs.size], []⟩)
        (fun r s' => match r with | .ok (.ret v) => wpAny (model prog w) A (match v with | .ref a => (do let o ← load a; match o.data with | .seq xs _ => pure xs.toList | _ => unsupported "internal:collect") | _ => unsupported "internal:collect") Q E s' | .ok _ => False | .error e => E e s') { s with heap := g, toks := tk } := by
    intro g c₁ tk hit ha hk hS
    refine codeAny_extend_loopS W (by rw [sizeLine_eq]; (first | lia | omega)) _ hSf _ kvs.length 0 _ #[] c₁ rfl (Nat.zero_le _) ⟨hit, ha⟩ hS (ItemsOf.nil _) fun s' acc' c' hm hS' hacc => ?_
    rw [moved_with hm]
    refine wpAny_bind (wpAny_load hS' ?_)
    refine wpAny_pure (h _ s'.heap s'.toks (keys_strs hacc) fun b o e => ?_)
    refine hm.heap b o (fun hmem => ?_) (hk b o e)
    have lt : b < s.heap.objs.size := Heap.lt_size e
    rcases List.mem_cons.mp hmem with e' | hmem
    · rw [e'] at lt; exact absurd lt (Nat.lt_irrefl _)
    · rw [List.mem_singleton.mp hmem, sz1] at lt; exact absurd lt (by simp)
  have kp : ∀ b o, s.heap.get? b = some o → ((s.heap.push { cls := .type "list", data := .seq ([] : List Value).toArray }).push { cls := .type "dict_keyiterator", data := .fields #[.ref d, .int 0 0, .int kvs.length 0, .int ep 0] }).get? b = some o :=
    fun b o e => Heap.get?_push_of_some _ (Heap.get?_push_of_some _ e)
  refine wpAny_ite_split (fun _ => ?_) (fun _ => wpAny_pure ⟨plainId_quiet PySem.F.plain_extend_loop _, key _ 0 _ hit ha2 kp hS₂⟩)
  refine wpAny_bind (wpAny_rule ?_)
  refine wpAny_bind ?_
  show wpAny _ _ (updateSeq s.heap.objs.size (·.push .none) >>= fun _ => updateSeq s.heap.objs.size (·.pop)) _ _ _
  refine wpAny_bind (wpAny_updateSeq hS₂ rfl ?_)
  have hS₃ := Heap.get?_update_self (Obj.mapSeq (·.push Value.none)) hS₂ rfl
  refine wpAny_updateSeq (hz := by seq_fits) hS₃ rfl ?_
  have hS₄ := Heap.get?_update_self (Obj.mapSeq (·.pop)) hS₃ rfl
  have ot : ∀ b o, b ≠ s.heap.objs.size → ((s.heap.push { cls := .type "list", data := .seq ([] : List Value).toArray }).push { cls := .type "dict_keyiterator", data := .fields #[.ref d, .int 0 0, .int kvs.length 0, .int ep 0] }).get? b = some o →
      ((((s.heap.push { cls := .type "list", data := .seq ([] : List Value).toArray }).push { cls := .type "dict_keyiterator", data := .fields #[.ref d, .int 0 0, .int kvs.length 0, .int ep 0] }).update s.heap.objs.size (Obj.mapSeq (·.push Value.none))).update s.heap.objs.size (Obj.mapSeq (·.pop))).get? b = some o :=
    fun b o hb e => (Heap.get?_update_other _ _ (Ne.symm hb)).trans ((Heap.get?_update_other _ _ (Ne.symm hb)).trans e)
  refine wpAny_pure ⟨plainId_quiet PySem.F.plain_extend_loop _, key _ _ _ (hit.at fun o e => ot _ _ hSI.symm e) (ha2.at' fun o e => ot _ _ hSd.symm e) (fun b o e => ot b o (Nat.ne_of_lt (Heap.lt_size e)) (kp b o e)) hS₄⟩

theorem ltCps_total {a b : List Nat} (h1 : PySem.Spec.ltCps a b = false) (h2 : PySem.Spec.ltCps b a = false) : a = b := by
  rw [ltCps_eq] at h1 h2
  exact List.le_antisymm (List.not_lt.mp (of_decide_eq_false h2)) (List.not_lt.mp (of_decide_eq_false h1))
theorem strLe_lt : ∀ (a b : List Nat), strLe a b = !PySem.Spec.ltCps b a := fun a => by
  induction a with
  | nil => intro b; cases b <;> exact rfl
  | cons x xs ih =>
    intro b
    cases b with
    | nil => exact rfl
    | cons y ys =>
      show cond (Nat.blt x y) true (Nat.beq x y && strLe xs ys) = !(decide (y < x) || (y == x && PySem.Spec.ltCps ys xs))
      rcases Nat.lt_trichotomy x y with h | h | h
      · rw [Nat.blt_eq.mpr h, decide_eq_false (Nat.lt_asymm h), beq_eq_false_iff_ne.mpr (Nat.ne_of_gt h)]; exact rfl
      · rw [h, show Nat.blt y y = false from Bool.eq_false_iff.mpr fun q => Nat.lt_irrefl _ (Nat.blt_eq.mp q), Nat.beq_refl, ih, decide_eq_false (Nat.lt_irrefl y), beq_self_eq_true, Bool.false_or, Bool.true_and, Bool.true_and]; exact rfl
      · rw [show Nat.blt x y = false from Bool.eq_false_iff.mpr fun q => Nat.lt_asymm h (Nat.blt_eq.mp q), show Nat.beq x y = false from Bool.eq_false_iff.mpr fun q => Nat.ne_of_gt h (Nat.eq_of_beq_eq_true q), decide_eq_true h]; exact rfl
theorem insS_perm (x : Str) : ∀ l : List Str, (insS x l).Perm (x :: l) := fun l => by
  induction l with
  | nil => exact .refl _
  | cons y r ih =>
    show (cond (strLe x.cps.toList y.cps.toList) (x :: y :: r) (y :: insS x r)).Perm (x :: y :: r)
    cases strLe x.cps.toList y.cps.toList with
    | true => exact .refl _
    | false => exact (ih.cons y).trans (.swap x y r)
theorem sortS_perm : ∀ l : List Str, (sortS l).Perm l
  | [] => .refl _
  | x :: r => (insS_perm x (sortS r)).trans ((sortS_perm r).cons x)
noncomputable def leS (a b : Str) : Prop := PySem.Spec.ltCps b.cps.toList a.cps.toList = false
theorem leS_trans {a b c : Str} (h1 : leS a b) (h2 : leS b c) : leS a c := by
  unfold leS at *
  rw [ltCps_eq] at *
  exact decide_eq_false (List.not_lt.mpr (List.le_trans (List.not_lt.mp (of_decide_eq_false h1)) (List.not_lt.mp (of_decide_eq_false h2))))
theorem leS_total (a b : Str) : leS a b ∨ leS b a := by
  unfold leS
  rw [ltCps_eq, ltCps_eq]
  rcases List.le_total a.cps.toList b.cps.toList with h | h
  · exact .inl (decide_eq_false (List.not_lt.mpr h))
  · exact .inr (decide_eq_false (List.not_lt.mpr h))
theorem insS_sorted (x : Str) : ∀ {l : List Str}, l.Pairwise leS → (insS x l).Pairwise leS := fun {l} => by
  induction l with
  | nil => exact fun _ => List.pairwise_cons.mpr ⟨fun _ h => (nomatch h), .nil⟩
  | cons y r ih =>
    intro h
    show (cond (strLe x.cps.toList y.cps.toList) (x :: y :: r) (y :: insS x r)).Pairwise leS
    have h' := List.pairwise_cons.mp h
    have q := strLe_lt x.cps.toList y.cps.toList
    cases z : strLe x.cps.toList y.cps.toList with
    | true =>
      rw [z] at q
      have xy : leS x y := by unfold leS; rw [← Bool.not_eq_true']; exact q.symm
      exact List.pairwise_cons.mpr ⟨fun z hz => (List.mem_cons.mp hz).elim (fun e => e ▸ xy) fun hz => leS_trans xy (h'.1 z hz), h⟩
    | false =>
      rw [z] at q
      have yx : leS y x := (leS_total y x).elim id fun z => by unfold leS at z; rw [z] at q; exact ft q
      exact List.pairwise_cons.mpr ⟨fun z hz => (List.mem_cons.mp ((insS_perm x r).mem_iff.mp hz)).elim (fun e => e ▸ yx) fun hz => h'.1 z hz, ih h'.2⟩
theorem sortS_sorted : ∀ l : List Str, (sortS l).Pairwise leS
  | [] => .nil
  | x :: r => insS_sorted x (sortS_sorted r)
theorem rising_pairwise : ∀ (l : List Str) (p : Str), risingS p l = true → (p :: l).Pairwise leS
  | [], p, _ => by simp
  | x :: r, p, h => by
    have h : (!PySem.Spec.ltCps x.cps.toList p.cps.toList && risingS x r) = true := h
    rw [Bool.and_eq_true] at h
    have ih := rising_pairwise r x h.2
    have px : leS p x := by unfold leS; simpa using h.1
    refine List.pairwise_cons.mpr ⟨fun z hz => ?_, ih⟩
    rcases List.mem_cons.mp hz with rfl | hz
    · exact px
    · exact leS_trans px ((List.pairwise_cons.mp ih).1 z hz)
theorem sorted_pairwise : ∀ (l : List Str), sortedS l = true → l.Pairwise leS
  | [], _ => .nil
  | x :: r, h => rising_pairwise r x h
theorem sorted_eq {l ss : List Str} (p : l.Perm ss) (h : sortedS l = true) : l = sortS ss := by
  refine List.Perm.eq_of_pairwise (le := leS) (fun a b _ _ h1 h2 => ?_) (sorted_pairwise l h) (sortS_sorted ss) (p.trans (sortS_perm ss).symm)
  exact str_ext (ltCps_total h2 h1)

theorem sorted_dict {d : Addr} {kvs : List (Str × Value)} {Q : Value → Shared → Prop} (hh : A.handled = none) (hd : (d == sysModules) = false) (hm : s.heap.DictOf (PySem.strKind prog w) d kvs) (sz : kvs.length < 64)
    (h : ∀ a vs n h' tk, StrsAre vs (sortS (kvs.map (·.1))) → (∀ b o, s.heap.get? b = some o → h'.get? b = some o) → s.heap.objs.size ≤ a → h'.get? a = some (listOf (List.toArray vs) n) → Q (.ref a) { s with heap := h', toks := tk }) :
    wpAny (model prog w) A (call (.builtin "sorted") [.ref d]) Q E s := by
  refine Calls.call_function_entry kind_sorted plain_sorted entry_sorted (args_sorted1 _) ?_
  unfold Builtin.«sorted»
  refine wpAny_bind (m := checkCount "sorted" 1 1 _) (wpAny_pure ?_)
  have hh' : A.in1.handled = none := hh
  refine wpAny_bind (with_hz (collect_dict hh' hd hm (by (first | lia | omega)) fun vs h1 tk hS kp hz => ?_))
  refine wpAny_bind (wpAny_newList ?_)
  have hoL : (h1.push (seqObj "list" vs.toArray 0)).get? h1.objs.size = some (seqObj "list" vs.toArray 0) := Heap.get?_push_size _ rfl
  have len : vs.length = kvs.length := by rw [strsAre_len hS, List.length_map]
  refine wpAny_bind (wpAny_holding (wpAny_call_entry slot_list_sort ⟨_, hoL, rfl⟩ entry_list_sort (list_sort_treeK (κ := PyProof.Rows.strKind) strKind_oneLt hoL hS.keysOf (fun v₁ v₂ rest e => keyKind_strs (by rw [← e]; exact hS)) (by (first | lia | omega)) fun st' hp hs => ⟨_, rfl, ?_⟩) (args_list_sort _)))
  refine wpAny_pure ⟨_, rfl, ?_⟩
  obtain ⟨ss', a1, a2, a3⟩ := sorted_out_str hS hp hs
  rw [sorted_eq a2 a3] at a1
  obtain ⟨e, he⟩ := sortedHeap_at (h := h1.push (seqObj "list" vs.toArray 0)) (a := h1.objs.size) (vs := vs) (out := (arrOf st').map (·.2)) (n := 0) hoL
  refine h _ _ e _ tk a1 (fun b o eb => ?_) hz he
  have hb : b < h1.objs.size := Heap.lt_size (kp b o eb)
  rw [sortedHeap_old (Nat.ne_of_lt hb) (by rw [Heap.size_push]; exact Nat.lt_succ_of_lt hb)]
  exact Heap.get?_push_of_some _ (kp b o eb)
end
end Mine
end
section
open PySem PySem.W PyProof.Rows PySem.Calls
set_option maxRecDepth 100000
namespace Mine

theorem digitChar_nat {n : Nat} (h : n < 10) : (Nat.digitChar n).toNat = 48 + n := (by decide : ∀ n : Fin 10, (Nat.digitChar n.1).toNat = 48 + n.1) ⟨n, h⟩
theorem not_blt {n m : Nat} (q : Nat.blt n m = false) : ¬ n < m := fun z => by rw [Nat.blt_eq.mpr z] at q; exact tf q
theorem digits_eq : ∀ (f n : Nat) (acc : List Nat), n < 10 ^ (f + 1) → digits (f + 1) n acc = (Nat.toDigits 10 n).map Char.toNat ++ acc := by
  intro f
  induction f with
  | zero =>
    intro n acc h
    have h : n < 10 := h
    show cond (Nat.blt n 10) _ _ = _
    rw [Nat.blt_eq.mpr h, Nat.toDigits_of_lt_base h]
    exact congrArg (· :: acc) (digitChar_nat h).symm
  | succ f ih =>
    intro n acc h
    show cond (Nat.blt n 10) ((48 + n) :: acc) (digits (f + 1) (n / 10) ((48 + n % 10) :: acc)) = _
    cases q : Nat.blt n 10 with
    | true =>
      have q := Nat.blt_eq.mp q
      rw [Nat.toDigits_of_lt_base q]
      exact congrArg (· :: acc) (digitChar_nat q).symm
    | false =>
      have q := not_blt q
      rw [Nat.toDigits_of_base_le (by decide) (Nat.not_lt.mp q), List.map_append, List.append_assoc]
      refine (ih (n / 10) _ (Nat.div_lt_of_lt_mul (by rw [Nat.pow_succ, Nat.mul_comm] at h; exact h))).trans (congrArg (_ ++ ·) ?_)
      exact congrArg (· :: acc) (digitChar_nat (Nat.mod_lt n (by decide : 0 < 10))).symm
theorem of_app (a b : String) : (Str.ofString (a ++ b)).cps.toList = (Str.ofString a).cps.toList ++ (Str.ofString b).cps.toList := by
  rw [Str.ofString_eq_toList, Str.ofString_eq_toList, Str.ofString_eq_toList]; simp
theorem strOf_eq {i : Int} {x : Str} (e : strOf i = some x) : Str.ofString (toString i) = x ∧ i.natAbs ≤ 10 ^ 20 := by
  cases i with
  | ofNat n =>
    refine gs e fun q e => ?_
    have q : n < 10 ^ 20 := Nat.blt_eq.mp q
    refine ⟨?_, Nat.le_of_lt q⟩
    rw [← Option.some.inj e, text_ofNat, digits_eq 20 n [] (Nat.lt_of_lt_of_le q (Nat.pow_le_pow_right (by decide) (by decide))), List.append_nil]
  | negSucc n =>
    refine gs e fun q e => ?_
    have q : n < 10 ^ 20 := Nat.blt_eq.mp q
    refine ⟨?_, q⟩
    rw [← Option.some.inj e, digits_eq 20 (n + 1) [] (Nat.lt_of_le_of_lt q (Nat.pow_lt_pow_succ (by decide))), List.append_nil]
    apply str_ext
    rw [show toString (Int.negSucc n) = "-" ++ toString (Int.ofNat (n + 1)) from rfl, of_app, text_ofNat]
    rfl

theorem intsFrom_len : ∀ (n : Nat) (a : Int), (intsFrom a n).length = n := fun n => by
  induction n with
  | zero => exact fun _ => rfl
  | succ n ih => exact fun a => congrArg (· + 1) (ih (a + 1))
theorem add_step {a : Int} {i : Nat} : a + 1 + (i : Int) = a + ((i + 1 : Nat) : Int) := by rw [Int.natCast_succ, Int.add_assoc, Int.add_comm 1]
theorem intsFrom_get : ∀ (n : Nat) (a : Int) (i : Nat), i < n → (intsFrom a n)[i]? = some (.int (a + i)) := fun n => by
  induction n with
  | zero => exact fun _ _ h => absurd h (Nat.not_lt_zero _)
  | succ n ih =>
    intro a i h
    cases i with
    | zero => exact congrArg (fun a => some (AV.int a)) (Int.add_zero a).symm
    | succ i => exact (ih (a + 1) i (Nat.lt_of_succ_lt_succ h)).trans (by rw [add_step])

section
variable {G : Gnd} {glob : Str → Option Addr} {n : Nat} {ih : Ih} {A : Around} {E : Value → Shared → Prop} {s : Shared} {env : Env} {W W' F F' : List Addr} {ad ad' : Ad} {hp hp' hp1 hp2 : Hp} {h h' h'' : Heap} {sc : Sc} {loc loc' : Loc} {X X' : Addr → Prop}
variable {K : Frag} {fI : Addr}

theorem ints_are {X : Addr → Prop} : ∀ {vs : List Value} {n : Nat} {a : Int}, vs.length = n → (∀ (j : Nat) (v : Value), vs[j]? = some v → ∃ t, v = Value.int (a + j) t) → ARs G h X (intsFrom a n) vs := fun {vs} => by
  induction vs with
  | nil => intro n a e _; rw [← e]; exact trivial
  | cons v vs ih =>
    intro n a e k
    rw [← e]
    obtain ⟨t, e1⟩ := k 0 v rfl
    refine ⟨?_, ih rfl fun j v ej => ?_⟩
    · rw [e1, Int.natCast_zero, Int.add_zero]; exact .int a t
    · obtain ⟨t, e2⟩ := k (j + 1) v ej
      exact ⟨t, by rw [e2, add_step]⟩
theorem sumI_ok {X : Addr → Prop} : ∀ {l : List AV} {vs : List Value} {k m : Int}, ARs G h X l vs → sumI l k = some m → ∃ ns, IntsAre vs ns ∧ m = k + ns.sum ∧ ns.length = l.length ∧ ∀ x ∈ ns, x.natAbs < 2 ^ 40 := fun {l} => by
  induction l with
  | nil => exact fun {vs k m} r e => ⟨[], All2.nilE (P := fun vs => IntsAre vs []) r .nil, (Option.some.inj e).symm.trans (Int.add_zero k).symm, rfl, fun _ h => nomatch h⟩
  | cons a l ih =>
    refine fun {vs k m} r e => bs e fun i e1 e => gs e fun q e => All2.consE (P := fun vs => ∃ ns, IntsAre vs ns ∧ m = k + ns.sum ∧ ns.length = l.length + 1 ∧ ∀ x ∈ ns, x.natAbs < 2 ^ 40) r fun w vs r rs => ?_
    obtain ⟨ns, a1, a2, a3, a4⟩ := ih rs e
    exact AR.ofInt (P := fun w => ∃ ns, IntsAre (w :: vs) ns ∧ m = k + ns.sum ∧ ns.length = l.length + 1 ∧ ∀ x ∈ ns, x.natAbs < 2 ^ 40) e1 r fun t => ⟨i :: ns, .cons i t a1, by rw [a2, List.sum_cons, Int.add_assoc], congrArg (· + 1) a3, fun y hy => (List.mem_cons.mp hy).elim (fun z => z ▸ Nat.blt_eq.mp q) (a4 y)⟩
theorem sum_bound : ∀ {ns : List Int}, (∀ x ∈ ns, x.natAbs < 2 ^ 40) → ns.sum.natAbs ≤ ns.length * 2 ^ 40 := fun {ns} => by
  induction ns with
  | nil => exact fun _ => Nat.zero_le _
  | cons x ns ih =>
    intro h
    rw [List.sum_cons, List.length_cons, Nat.succ_mul, Nat.add_comm (ns.length * 2 ^ 40)]
    exact Nat.le_trans (Int.natAbs_add_le x ns.sum) (Nat.add_le_add (Nat.le_of_lt (h x (.head _))) (ih fun y hy => h y (.tail _ hy)))

noncomputable def biV (f : Str) : Option Value :=
  cond (isS 135296121307458 "len" f) (some (.builtin "len")) <|
  cond (isS 150735172563212632512 "list" f) (some (.type "list")) <|
  cond (isS 177180180506793946373423634 "range" f) (some (.type "range")) <|
  cond (isS 121642392420665 "abs" f) (some (.builtin "abs")) <|
  cond (isS 143984872456540 "str" f) (some (.type "str")) <|
  cond (isS 131572388004174 "int" f) (some (.type "int")) <|
  cond (isS 136537364627785 "max" f) (some (.builtin "max")) <|
  cond (isS 143984873570648 "sum" f) (some (.builtin "sum")) <|
  cond (isS 199115273505642818544607554241175 "sorted" f) (some (.builtin "sorted")) none

theorem PQ.keep {Q : Value → Shared → Prop} {rv : RV} {v : Value} (q : PQ G s Q F ad hp rv hp) (H : HR G s.heap F ad hp) (k : ∀ b o, s.heap.get? b = some o → h'.get? b = some o) (z : s.heap.objs.size ≤ h'.objs.size) (r : RVR G h' (Xp G F ad hp) ad rv v) (tk : Nat) : Q v { s with heap := h', toks := tk } :=
  q ad h' tk v (H.keep k z) r (Go.ofKeep k z)

theorem rvd_ofA {X : Addr → Prop} {l : List (Str × AV)} {es : List DictEntry} (r : ARd G h X l es) : RVRd G h X ad (l.map fun p => (p.1, RV.a p.2)) es := All2.map (f := fun p : Str × AV => (p.1, RV.a p.2)) (r.mono fun _ _ r => r)
theorem dict_av {X : Addr → Prop} {a : Addr} {l : List (Str × AV)} {es : List DictEntry} {m : Nat} (e : h.get? a = some (dictOf es m)) (r : ARd G h X l es) (nd : (l.map (·.1)).Nodup) : ∃ kvs, h.DictOf (PySem.strKind G.prog G.w) a kvs ∧ kvs.map (·.1) = l.map (·.1) := by
  have mm : (l.map fun p => (p.1, RV.a p.2)).map (·.1) = l.map (·.1) := by rw [List.map_map]; rfl
  obtain ⟨kvs, d1, d2⟩ := dict_to (ad := []) e (rvd_ofA r) (by rw [mm]; exact nd)
  exact ⟨kvs, d1, by rw [← KV.keys d2, mm]⟩
theorem strs_ars {X : Addr → Prop} {vs : List Value} {ss : List Str} (sa : StrsAre vs ss) : ARs G h X (ss.map AV.str) vs := by
  induction sa with
  | nil => exact trivial
  | cons x t r ih => exact ⟨.str x t, ih⟩
theorem rvrs_keep (k : ∀ b o, h.get? b = some o → h'.get? b = some o) {X : Addr → Prop} {l : List RV} {vs : List Value} (r : RVRs G h X ad l vs) : RVRs G h' X ad l vs := RVRs.stay ⟨fun b o e _ => .inl (k b o e), fun _ _ _ x => x⟩ (fun _ _ e => e) r

theorem mkLst_len {own : Bool} {l : List RV} {rv : RV} (e : mkLst own l hp = some (rv, hp')) : l.length ≤ 4096 := gs e fun z _ => Nat.le_of_ble_eq_true z
theorem range_small {a b : Int} (sa : small a = true) (sb : small b = true) : Builtin.Range.small a b 1 = true := by
  have sa := small_lt sa
  have sb := small_lt sb
  exact small_one (by (first | lia | omega)) (by (first | lia | omega)) (by (first | lia | omega)) (by (first | lia | omega))
theorem range_size (a b : Int) : Builtin.Range.rangeSize a b 1 = ((b - a).toNat : Nat) := by
  rw [rangeSize_one]; split <;> (first | lia | omega)
theorem lt63 {n : Nat} (h : n ≤ 4096) : (n : Int) < 2 ^ 63 := Int.lt_of_le_of_lt (Int.ofNat_le.mpr h) (by decide)
theorem ge63 {n : Nat} (h : n ≤ 4096) : ¬ (n : Int) ≥ 2 ^ 63 := Int.not_le.mpr (lt63 h)
theorem list_range_sound (H : HR G s.heap F ad hp) (hh : A.handled = none) {a b : Int} {own : Bool} {rv : RV} {v : Value} (sa : small a = true) (sb : small b = true) (e : mkLst own ((intsFrom a (b - a).toNat).map RV.a) hp = some (rv, hp')) (r : AR G s.heap (Xp G F ad hp) (.rng a b) v) {Q : Value → Shared → Prop}
    (q : PQ G s Q F ad hp rv hp') : wpAny (model G.prog G.w) A (call (.type "list") [v]) Q E s :=
  r.rngE fun rr t u w ir xx => by
    have len := mkLst_len e
    rw [List.length_map, intsFrom_len] at len
    refine with_hz (call_list_range hh ir (range_small sa sb) (range_size a b) (by first | exact Nat.le_trans len (by decide) | exact Nat.lt_of_le_of_lt len (by decide) | exact lt63 len) fun h1 tk acc c k e1 it hz => ?_)
    obtain ⟨iz, ii⟩ := it
    have ar : ARs G s.heap (Xp G F ad hp) (intsFrom a (b - a).toNat) acc.toList := ints_are iz fun j v ej => by
      obtain ⟨t, z⟩ := ii j v (by rw [← Array.getElem?_toList]; exact ej)
      exact ⟨t, by rw [z, Int.mul_one]⟩
    obtain ⟨_, ad', H1, r1, g1⟩ := mkLst_at H e (.ofA ar) k hz (e1 : h1.get? s.heap.objs.size = some (PySem.W.listOf acc.toList.toArray c)) (Nat.le_refl _)
    exact q ad' h1 tk _ H1 r1 g1
theorem list_copy_sound (H : HR G s.heap F ad hp) {a : Addr} {l : List RV} {vs : List Value} {m : Nat} {own : Bool} {rv : RV} (eh : s.heap.get? a = some (listOf vs.toArray m)) (r : RVRs G s.heap (Xp G F ad hp) ad l vs) (e : mkLst own l hp = some (rv, hp')) {Q : Value → Shared → Prop}
    (q : PQ G s Q F ad hp rv hp') : wpAny (model G.prog G.w) A (call (.type "list") [.ref a]) Q E s := by
  have len := mkLst_len e
  rw [All2.len r] at len
  refine with_hz (call_list_seq a (.inl rfl) eh rfl rfl (fun h1 c k e1 hz => ?_) (by rw [List.size_toArray, sizeLine_eq]; exact Nat.le_trans len (by decide)))
  obtain ⟨_, ad', H1, r1, g1⟩ := mkLst_at H e r k hz e1 (Nat.le_refl _)
  exact q ad' h1 s.toks _ H1 r1 g1

section
variable {as : List RV} {rv : RV} {vs : List Value} {Q : Value → Shared → Prop}
noncomputable def SX (G : Gnd) : Prop := ∀ b : Addr, G.h0.objs.size ≤ b → (b == sysModules) = false
theorem SX.hi (sx : SX G) {a : Addr} (xx : ¬ Xp G F ad hp a) : (a == sysModules) = false := sx _ (Nat.not_lt.mp fun z => xx (.inl z))
theorem b_lenA (H : HR G s.heap F ad hp) (sx : SX G) {v : AV} {n : Nat} {w : Value} (e : lenA v = some n) (sz : n ≤ 4096) (r : AR G s.heap (Xp G F ad hp) v w) (q : PQ G s Q F ad hp (.a (.int n)) hp) : wpAny (model G.prog G.w) A (call (.builtin "len") [w]) Q E s := by
  cases v with
  | str x =>
    rw [← Option.some.inj e] at sz q
    exact r.strE fun t => PyProof.Rows.len_str (ge63 sz) (q.here H (.int _ _) _)
  | dct l =>
    rw [← Option.some.inj e] at sz q
    refine r.dctE fun a es m D => ?_
    obtain ⟨kvs, d1, d2⟩ := dict_av D.e D.r D.nd
    have len : kvs.length = l.length := by rw [← List.length_map (f := fun p : Str × Value => p.1), d2, List.length_map]
    rw [← len] at q sz
    exact call_len_dict (sx.hi D.x) d1 (lt63 sz) (q.here H (.int _ _) _)
  | lst l =>
    rw [← Option.some.inj e] at sz q
    refine r.lstE fun a vs m D => ?_
    rw [All2.len D.r] at q sz
    exact PySem.Calls.call_len_list (l := a) (items := vs.toArray) ⟨_, D.e, rfl, _, rfl⟩ (lt63 sz) (q.here H (.int _ _) _)
  | tup l =>
    rw [← Option.some.inj e] at sz q
    refine r.tupE fun a vs m D => ?_
    rw [All2.len D.r] at q sz
    exact PyProof.Rows.len_tuple (items := vs.toArray) ⟨_, D.e, rfl, _, rfl⟩ (lt63 sz) (q.here H (.int _ _) _)
  | _ => exact nn e
theorem b_lenR (H : HR G s.heap F ad hp) (sx : SX G) {i n : Nat} {w : Value} (e : ((nth hp i).bind fun o => ((oLst o).map fun l => l.length).or ((oDct o).map fun l => l.length)) = some n) (sz : n ≤ 4096) (r : RVR G s.heap (Xp G F ad hp) ad (.r i) w) (q : PQ G s Q F ad hp (.a (.int n)) hp) : wpAny (model G.prog G.w) A (call (.builtin "len") [w]) Q E s :=
  RVR.rE r fun p ep => bs e fun o e1 e => os e (fun e => me e fun l e2 e => by
      obtain ⟨vs, m, eh, rs⟩ := oLstE (P := fun o => nth hp i = some o → ∃ vs m, s.heap.get? p.1 = some (listOf (List.toArray vs) m) ∧ RVRs G s.heap (Xp G F ad hp) ad l vs) e2 (fun e1 => H.obj _ _ p e1 ep) e1
      rw [← Option.some.inj e, All2.len rs] at q sz
      exact PySem.Calls.call_len_list (l := p.1) (items := vs.toArray) ⟨_, eh, rfl, _, rfl⟩ (lt63 sz) (q.here H (.int _ _) _))
    fun e => me e fun l e2 e => by
      have e1 := oDctE (P := fun o => nth hp i = some o → nth hp i = some (.dct l)) e2 id e1
      obtain ⟨es, m, eh, rd, nd⟩ := H.obj _ _ p e1 ep
      obtain ⟨kvs, d1, d2⟩ := dict_to eh rd nd
      rw [← Option.some.inj e, All2.len d2] at q sz
      exact call_len_dict (sx _ (H.lo p.1 ⟨_, _, _, ep, e1, .head _⟩).1) d1 (lt63 sz) (q.here H (.int _ _) _)
theorem b_len (H : HR G s.heap F ad hp) (sx : SX G) (e : bLen as hp = some (rv, hp')) (ra : RVRs G s.heap (Xp G F ad hp) ad as vs) (q : PQ G s Q F ad hp rv hp') : wpAny (model G.prog G.w) A (call (.builtin "len") vs) Q E s :=
  bs e fun v e1 e => bs e fun n e2 e => gs e fun sz e => RVRs.one e1 ra fun w r => by
    have q := q.at e
    cases v with
    | a v => exact b_lenA H sx e2 (Nat.le_of_ble_eq_true sz) r q
    | r i => exact b_lenR H sx e2 (Nat.le_of_ble_eq_true sz) r q
theorem b_list (H : HR G s.heap F ad hp) (hh : A.handled = none) {own : Bool} (e : bList as own hp = some (rv, hp')) (ra : RVRs G s.heap (Xp G F ad hp) ad as vs) (q : PQ G s Q F ad hp rv hp') : wpAny (model G.prog G.w) A (call (.type "list") vs) Q E s :=
  bs e fun v e1 e => RVRs.one e1 ra fun w r => by
    cases v with
    | a v =>
      refine os e (fun e => bs e fun ab e2 e => gs e fun sa e => gs e fun sb e => ?_) fun e => bs e fun l e2 e => ?_
      · exact list_range_sound H hh sa sb e (rngE (P := fun v => AR G s.heap (Xp G F ad hp) v w → AR G s.heap (Xp G F ad hp) (.rng ab.1 ab.2) w) (a := ab.1) (b := ab.2) e2 id r) q
      · exact AR.ofLst (P := fun w => wpAny (model G.prog G.w) A (call (.type "list") [w]) Q E s) e2 r fun a vs n D => list_copy_sound H D.e (RVRs.ofA D.r) e q
    | r i =>
      refine bs e fun l e2 e => RVR.rE r fun p ep => ?_
      obtain ⟨vs, m, eh, rs⟩ := lst_obj H e2 ep
      exact list_copy_sound H eh rs e q
theorem rng_new (H : HR G s.heap F ad hp) {a b : Int} {t u v : Tok} {tk : Nat} (q : PQ G s Q F ad hp (.a (.rng a b)) hp) : Q (.ref s.heap.objs.size) { s with heap := s.heap.push { cls := .type "range", data := .fields #[.int a t, .int b u, .int 1 v] }, toks := tk } :=
  q ad _ tk _ H.push (.rng (IsRange.new _ _ _ _ _ _ _) (H.fresh (Nat.le_refl _))) Go.push
theorem b_range (H : HR G s.heap F ad hp) (e : bRange as hp = some (rv, hp')) (ra : RVRs G s.heap (Xp G F ad hp) ad as vs) (q : PQ G s Q F ad hp rv hp') : wpAny (model G.prog G.w) A (call (.type "range") vs) Q E s :=
  os e (fun e => bs e fun v e1 e => bs e fun b e2 e => gs e fun _ e => RVRs.one e1 ra fun w r => RVR.ofInt (P := fun w => wpAny (model G.prog G.w) A (call (.type "range") [w]) Q E s) e2 r fun t => call_range_1 (rng_new H (q.at e)))
    fun e => bs e fun p e1 e => bs e fun ab e2 e => bs e2 fun a e3 e2 => me e2 fun b e4 e2 => gs e fun _ e => gs e fun _ e => RVRs.two e1 ra fun w u r1 r2 => RVR.ofInt (P := fun w => wpAny (model G.prog G.w) A (call (.type "range") [w, u]) Q E s) e3 r1 fun t => RVR.ofInt (P := fun u => wpAny (model G.prog G.w) A (call (.type "range") [.int a t, u]) Q E s) e4 r2 fun t' =>
      call_range_2 (rng_new H (si (P := fun ab => PQ G s Q F ad hp (.a (.rng ab.1 ab.2)) hp → PQ G s Q F ad hp (.a (.rng a b)) hp) e2 id (q.at e)))
theorem b_abs (H : HR G s.heap F ad hp) (e : bAbs as hp = some (rv, hp')) (ra : RVRs G s.heap (Xp G F ad hp) ad as vs) (q : PQ G s Q F ad hp rv hp') : wpAny (model G.prog G.w) A (call (.builtin "abs") vs) Q E s :=
  bs e fun v e1 e => me e fun i e2 e => RVRs.one e1 ra fun w r => RVR.ofInt (P := fun w => wpAny (model G.prog G.w) A (call (.builtin "abs") [w]) Q E s) e2 r fun t => call_abs_int fun u tk => by
    rw [show (if i < 0 then -i else i) = (i.natAbs : Int) by clear q; split <;> (first | lia | omega)]
    exact (q.at e).here H (.int _ _) _
theorem log_ok {i : Int} (e : i.natAbs ≤ 10 ^ 20) : i.natAbs.log2 < 1920 := by
  rcases Nat.eq_zero_or_pos i.natAbs with z | z
  · rw [z]; decide
  · exact (Nat.log2_lt (Nat.ne_of_gt z)).mpr (Nat.lt_of_le_of_lt e (Nat.lt_of_lt_of_le (by decide : 10 ^ 20 < 2 ^ 100) (Nat.pow_le_pow_right (by decide) (by decide))))
theorem b_str (H : HR G s.heap F ad hp) (e : bStr as hp = some (rv, hp')) (ra : RVRs G s.heap (Xp G F ad hp) ad as vs) (q : PQ G s Q F ad hp rv hp') : wpAny (model G.prog G.w) A (call (.type "str") vs) Q E s :=
  bs e fun v e1 e => bs e fun i e2 e => me e fun x e3 e => RVRs.one e1 ra fun w r => RVR.ofInt (P := fun w => wpAny (model G.prog G.w) A (call (.type "str") [w]) Q E s) e2 r fun t => by
    have z := strOf_eq e3
    refine PySem.P.str_of_int (log_ok z.2) ?_
    rw [show ((toString i : String) : Str) = x from z.1]
    exact (q.at e).here H (.str _ _) _
theorem b_int (H : HR G s.heap F ad hp) (e : bInt as hp = some (rv, hp')) (ra : RVRs G s.heap (Xp G F ad hp) ad as vs) (q : PQ G s Q F ad hp rv hp') : wpAny (model G.prog G.w) A (call (.type "int") vs) Q E s :=
  bs e fun v e1 e => me e fun i e2 e => RVRs.one e1 ra fun w r => by
    rw [r.boolV e2]
    exact call_int_bool ((q.at e).here H (.int _ _) _)
theorem b_max (H : HR G s.heap F ad hp) (hh : A.handled = none) (e : bMax as hp = some (rv, hp')) (ra : RVRs G s.heap (Xp G F ad hp) ad as vs) (q : PQ G s Q F ad hp rv hp') : wpAny (model G.prog G.w) A (call (.builtin "max") vs) Q E s :=
  bs e fun p e1 e => me e fun ab e2 e => bs e2 fun a e3 e2 => me e2 fun b e4 e2 => RVRs.two e1 ra fun w u r1 r2 => RVR.ofInt (P := fun w => wpAny (model G.prog G.w) A (call (.builtin "max") [w, u]) Q E s) e3 r1 fun t => RVR.ofInt (P := fun u => wpAny (model G.prog G.w) A (call (.builtin "max") [.int a t, u]) Q E s) e4 r2 fun t' => by
    have q := si (P := fun ab => PQ G s Q F ad hp (.a (.int (if ab.2 > ab.1 then ab.2 else ab.1))) hp → PQ G s Q F ad hp (.a (.int (if b > a then b else a))) hp) e2 id (q.at e)
    refine with_hz (max_two_ints hh fun h1 tk k hz => q.keep H k hz ?_ tk)
    rcases Decidable.em (b > a) with z | z
    · rw [if_pos z, if_pos z]; exact .int _ _
    · rw [if_neg z, if_neg z]; exact .int _ _
theorem b_sum (H : HR G s.heap F ad hp) (hh : A.handled = none) (e : bSum as hp = some (rv, hp')) (ra : RVRs G s.heap (Xp G F ad hp) ad as vs) (q : PQ G s Q F ad hp rv hp') : wpAny (model G.prog G.w) A (call (.builtin "sum") vs) Q E s :=
  bs e fun v e1 e => bs e fun x e2 e => bs e fun l e3 e => gs e fun sz e => me e fun m e4 e => RVRs.one e1 ra fun w r => AR.ofLst (P := fun w => wpAny (model G.prog G.w) A (call (.builtin "sum") [w]) Q E s) e3 (r.ofA e2) fun a vs n D => by
    have q := q.at e
    obtain ⟨ns, a1, a2, a3, a4⟩ := sumI_ok D.r e4
    have sz := Nat.le_of_ble_eq_true sz
    have fit : PySem.SumFits ns := sumFits_small (fun x hx => by have := a4 x hx; clear q; (first | lia | omega)) (a3 ▸ Nat.le_trans sz (by decide))
    obtain ⟨xs, ex⟩ := a1.allInts.items
    have en : ns = xs.toList.map (·.1) := by
      rw [← nums_intItems, ← ex]; exact a1.numsOf.symm
    have nl : ns.length = xs.size := by rw [en]; simp
    refine with_hz (sum_intList hh (xs := xs) ⟨_, D.e, rfl, _, by rw [← ex]⟩ (fun j hj => ?_) fun h1 tk t' k hz => ?_)
    · rw [numAt_eq, preSum_eq, ← en]; exact fit j (by rw [nl]; exact hj)
    · rw [show preSum (numAt xs) xs.size = m by rw [preSum_eq, ← en, List.take_of_length_le (Nat.le_of_eq nl), a2, Int.zero_add]]
      exact q.keep H k hz (.int _ _) tk
theorem b_sorted (H : HR G s.heap F ad hp) (hh : A.handled = none) (sx : SX G) {own : Bool} (e : bSorted as own hp = some (rv, hp')) (ra : RVRs G s.heap (Xp G F ad hp) ad as vs) (q : PQ G s Q F ad hp rv hp') : wpAny (model G.prog G.w) A (call (.builtin "sorted") vs) Q E s :=
  bs e fun v e1 e => bs e fun x e2 e => bs e fun l e3 e => RVRs.one e1 ra fun w r => AR.ofDct (P := fun w => wpAny (model G.prog G.w) A (call (.builtin "sorted") [w]) Q E s) e3 (r.ofA e2) fun a es n D => by
    obtain ⟨kvs, d1, d2⟩ := dict_av D.e D.r D.nd
    have len : kvs.length = l.length := by rw [← List.length_map (f := fun p : Str × Value => p.1), d2, List.length_map]
    refine with_hz (sorted_dict hh (sx.hi D.x) d1 (by rw [len]; exact Nat.lt_of_lt_of_le D.z (by decide)) fun a vs m h1 tk sa k fa ea hz => ?_)
    rw [d2] at sa
    have r2 : RVRs G s.heap (Xp G F ad hp) ad _ vs := .ofA (strs_ars sa)
    rw [List.map_map] at r2
    obtain ⟨_, ad', H1, r1, g1⟩ := mkLst_at H e r2 k hz ea fa
    exact q ad' h1 tk _ H1 r1 g1

/-- one of two alike tables -/
theorem bi2 {c : Bool} {x y : Option (RV × Hp)} {r : RV × Hp} {X Y : Option Value} {R : Value → Prop} (e : cond c x y = some r) (k : x = some r → ∃ v, X = some v ∧ R v) (l : y = some r → ∃ v, Y = some v ∧ R v) : ∃ v, cond c X Y = some v ∧ R v := by
  cases c with
  | true => exact k e
  | false => exact l e
noncomputable def isB (v : Value) : Prop := (∃ id, v = .builtin id) ∨ ∃ t, v = .type t
theorem bcall_v {f : Str} {own : Bool} {r : RV × Hp} (e : bcall f as own hp = some r) : ∃ v, biV f = some v ∧ isB v :=
  have b : ∀ {id : String}, ∃ v, some (Value.builtin id) = some v ∧ isB v := ⟨_, rfl, .inl ⟨_, rfl⟩⟩
  have t : ∀ {id : String}, ∃ v, some (Value.type id) = some v ∧ isB v := ⟨_, rfl, .inr ⟨_, rfl⟩⟩
  bi2 e (fun _ => b) fun e => cs e (fun _ e => nn e) fun _ e => bi2 e (fun _ => t) fun e => bi2 e (fun _ => t) fun e => bi2 e (fun _ => b) fun e => bi2 e (fun _ => t) fun e => bi2 e (fun _ => t) fun e => bi2 e (fun _ => b) fun e => bi2 e (fun _ => b) fun e => bi2 e (fun _ => b) fun e => nn e
theorem bcall_sound (H : HR G s.heap F ad hp) (hh : A.handled = none) (sx : SX G) {f : Str} {own : Bool} (e : bcall f as own hp = some (rv, hp')) (ra : RVRs G s.heap (Xp G F ad hp) ad as vs)
    (q : PQ G s Q F ad hp rv hp') : ∃ v, biV f = some v ∧ wpAny (model G.prog G.w) A (call v vs) Q E s :=
  have b : ∀ {v : Value}, wpAny (model G.prog G.w) A (call v vs) Q E s → ∃ v', some v = some v' ∧ wpAny (model G.prog G.w) A (call v' vs) Q E s := fun w => ⟨_, rfl, w⟩
  bi2 e (fun e => b (b_len H sx e ra q)) fun e => cs e (fun _ e => nn e) fun _ e => bi2 e (fun e => b (b_list H hh e ra q)) fun e => bi2 e (fun e => b (b_range H e ra q)) fun e => bi2 e (fun e => b (b_abs H e ra q)) fun e => bi2 e (fun e => b (b_str H e ra q)) fun e => bi2 e (fun e => b (b_int H e ra q)) fun e =>
    bi2 e (fun e => b (b_max H hh e ra q)) fun e => bi2 e (fun e => b (b_sum H hh e ra q)) fun e => bi2 e (fun e => b (b_sorted H hh sx e ra q)) fun e => nn e
end
end
end Mine
end
section
open PySem PySem.W PyProof.Rows PySem.Calls
set_option maxRecDepth 100000
namespace Mine

/-- a def of the text as it lies in the heap -/
structure FnAt (G : Gnd) (fa : Addr) (d : FD) where
  o : Obj
  fd : FuncData
  at_ : G.h0.get? fa = some o
  data : o.data = .func fd
  body : fd.body = .stmts d.body
  names : fd.scope.names = d.names
  globals : fd.globals = mainGlobals
  builtins : fd.builtins = builtinsNs
  clo : fd.closure = []
  co : fd.scope.isCoroutine = false
  gen : fd.scope.isGenerator = false
  kind : fd.scope.kind = .function
  code : G.h0.CodeRec fd.code fd.qualname
  lim : G.h0.NoLimit
  nodup : d.params.Nodup
  noFree : ∀ x, d.names.lookup x ≠ some .free
  nodbg : d.names.lookup ("__debug__" : Str) = none ∧ d.names.lookup ("__classdict__" : Str) = none
  bind : ∀ (s : Shared) (vals : List Value), (∀ b o, G.h0.get? b = some o → s.heap.get? b = some o) → vals.length = d.params.length → BindsTo s fd ⟨vals, []⟩ (d.params.zip vals)

theorem lookup_mem {α : Type} : ∀ {l : List (Str × α)} {x : Str} {v : α}, l.lookup x = some v → (x, v) ∈ l := fun e => mem_of_lookup e
theorem cells_has : ∀ (names : List (Str × NameKind)) (n : Nat) (acc : List (Str × Addr)) (x : Str), (names.lookup x = some .cell ∨ (acc.lookup x).isSome = true) → ((cellsFrom n names acc).lookup x).isSome = true := fun names => by
  induction names with
  | nil => exact fun n acc x h => h.elim (fun h => nn h) id
  | cons p r ih =>
    intro n acc x h
    obtain ⟨y, k⟩ := p
    rw [List.lookup_cons] at h
    cases k with
    | cell =>
      refine ih (n + 1) ((y, n) :: acc) x ?_
      rw [List.lookup_cons]
      cases q : x == y with
      | true => exact .inr rfl
      | false => rw [q] at h; exact h
    | _ =>
      refine ih n acc x (h.elim (fun h => ?_) .inr)
      cases q : x == y with
      | true => rw [q] at h; exact nomatch (Option.some.inj h)
      | false => rw [q] at h; exact .inl h
theorem bindL_other {kindOf : Str → Option NameKind} : ∀ {l : List (Str × Value)} {m : Str → Option Value} {x : Str}, x ∉ l.map (·.1) → bindL kindOf l m x = m x := fun {l} => by
  induction l with
  | nil => exact fun _ => rfl
  | cons p r ih =>
    intro m x h
    have h := not_or.mp fun z => h (List.mem_cons.mpr z)
    unfold bindL
    rw [ih h.2]
    split
    · exact if_neg h.1
    · rfl
theorem bindC_other {kindOf : Str → Option NameKind} : ∀ {l : List (Str × Value)} {m : Str → Option Value} {x : Str}, x ∉ l.map (·.1) → bindC kindOf l m x = m x := fun {l} => by
  induction l with
  | nil => exact fun _ => rfl
  | cons p r ih =>
    intro m x h
    have h := not_or.mp fun z => h (List.mem_cons.mpr z)
    unfold bindC
    rw [ih h.2]
    split
    · rfl
    · exact if_neg h.1
theorem look_at {α : Type} {P : Prop} {p : Str × α} {r : List (Str × α)} {x : Str} {v : α} (e : (p :: r).lookup x = some v) (k : x = p.1 → p.2 = v → P) (l : r.lookup x = some v → P) : P := by
  rw [List.lookup_cons] at e
  cases q : x == p.1 with
  | true => rw [q] at e; exact k (eq_of_beq q) (Option.some.inj e)
  | false => rw [q] at e; exact l e
theorem bindL_at {kindOf : Str → Option NameKind} : ∀ {l : List (Str × Value)} {m : Str → Option Value} {x : Str} {v : Value}, (l.map (·.1)).Nodup → l.lookup x = some v → kindOf x = some .local → bindL kindOf l m x = some v := fun {l} => by
  induction l with
  | nil => exact fun _ e _ => nn e
  | cons p r ih =>
    intro m x v nd e k
    have nd := List.nodup_cons.mp nd
    unfold bindL
    refine look_at e (fun q z => ?_) fun e => ih nd.2 e k
    rw [q] at k ⊢
    rw [bindL_other nd.1, if_pos k, ← z]; exact if_pos rfl
theorem bindC_at {kindOf : Str → Option NameKind} : ∀ {l : List (Str × Value)} {m : Str → Option Value} {x : Str} {v : Value}, (l.map (·.1)).Nodup → l.lookup x = some v → kindOf x ≠ some .local → bindC kindOf l m x = some v := fun {l} => by
  induction l with
  | nil => exact fun _ e _ => nn e
  | cons p r ih =>
    intro m x v nd e k
    have nd := List.nodup_cons.mp nd
    unfold bindC
    refine look_at e (fun q z => ?_) fun e => ih nd.2 e k
    rw [q] at k ⊢
    rw [bindC_other nd.1, if_neg k, ← z]; exact if_pos rfl

section
variable {G : Gnd} {glob : Str → Option Addr} {n : Nat} {ih : Ih} {A : Around} {E : Value → Shared → Prop} {s : Shared} {env : Env} {W W' F F' : List Addr} {ad ad' : Ad} {hp hp' hp1 hp2 : Hp} {h h' h'' : Heap} {sc : Sc} {loc loc' : Loc} {X X' : Addr → Prop}
variable {K : Frag} {fI : Addr}

theorem zip_look {X : Addr → Prop} {ad : Ad} : ∀ {ps : List Str} {as : List RV} {vs : List Value} {x : Str} {rv : RV}, RVRs G h X ad as vs → alook x (ps.zip as) = some rv → ∃ v, (ps.zip vs).lookup x = some v ∧ RVR G h X ad rv v := fun {ps} => by
  induction ps with
  | nil => exact fun _ e => nn e
  | cons p ps ih =>
    intro as
    cases as with
    | nil => exact fun _ e => nn e
    | cons a as =>
      refine fun {vs x rv} r e => All2.consE (P := fun vs => ∃ v, ((p :: ps).zip vs).lookup x = some v ∧ RVR G h X ad rv v) r fun y m r rs => ?_
      rw [List.zip_cons_cons, List.lookup_cons, str_beq]
      refine cs (show cond (seq x p) (some a) (alook x (ps.zip as)) = some rv from e) (fun z e => ?_) fun z e => ?_
      · rw [z]; exact ⟨y, rfl, Option.some.inj e ▸ r⟩
      · rw [z]; exact ih rs e
theorem alook_mem {β : Type} {x : Str} {v : β} : ∀ {l : List (Str × β)}, alook x l = some v → (x, v) ∈ l := fun e => mem_of_lookup (by rw [← alook_eq]; exact e)

theorem room_deeper {env : Env} (r : Room A (n + 1)) : Room (A.deeper env) n := by
  refine ⟨r.1, ?_, ?_⟩
  · have := r.2.1; show A.depth + 1 + 3 * n + 10 < _; (first | lia | omega)
  · have := r.2.2; show A.units + 3 + 16 * n + 100 < _; (first | lia | omega)
theorem isLoc_or {sc : Sc} {x : Str} (e : isLoc sc x = true) : alook x sc = some .local ∨ alook x sc = some .cell := by
  unfold isLoc at e
  cases q : alook x sc with
  | none => rw [q] at e; exact ft e
  | some k =>
    rw [q] at e
    cases k with
    | «local» => exact .inl rfl
    | cell => exact .inr rfl
    | _ => exact ft e

theorem cl_of {d : FD} {fa : Addr} {f : Str} {as : List RV} {fl : Flw} (fn : FnAt G fa d) (eg : glob f = some fa) (el : d.params.length = as.length) (ek : d.params.all (isLoc d.names) = true) (ex : ExsAt G n d.names (d.params.zip as) hp d.body fl loc' hp1) : ClAt G glob (n + 1) f as hp (retV fl) hp1 := by
  have f := fn
  refine ⟨fa, eg, fun A E F ad s vs Q rm H ra q => wpAny_call ?_⟩
  have lv : vs.length = d.params.length := by rw [← All2.len ra, el]
  have kp := H.base
  have hnames : (d.params.zip vs).map (·.1) = d.params := List.map_fst_zip (by rw [lv]; exact Nat.le_refl _)
  have kinds : ∀ x ∈ d.params, d.names.lookup x = some .local ∨ d.names.lookup x = some .cell := fun x hx => by
    rw [← alook_eq]
    exact isLoc_or (List.all_eq_true.mp ek x hx)
  refine codeAny_call_function (a := fa) (o := f.o) (fd := f.fd) (by have := rm.2.1; (first | lia | omega)) (kp _ _ f.at_) f.data f.co f.gen f.body (f.code.keeps kp) (f.bind s vs kp lv _ _ _ _ ?_)
  rw [f.clo]
  refine wpAny_newFunctionEnv_cells f.kind (fun x hx => ?_) fun env he s1 x => ⟨(f.lim.keeps kp).keeps x.toInCall.keep, codeAny_func ?_⟩
  · rw [f.names]
    have hx' : x.1 ∈ d.params := by rw [← hnames]; exact List.mem_map_of_mem hx
    rcases kinds x.1 hx' with z | z
    · exact .inl z
    · exact .inr ⟨z, cells_has _ _ _ _ (.inl (by rw [z]))⟩
  · have hk : env.kindOf = fun y => d.names.lookup y := by
      subst he; funext y; show f.fd.scope.names.lookup y = _; rw [f.names]
    have hl : env.locals = s.heap.objs.size := by subst he; rfl
    have hsc : env.scope.kind = .function := by subst he; exact f.kind
    have hgl : env.globals = mainGlobals := by subst he; exact f.globals
    have hbl : env.builtins = builtinsNs := by subst he; exact f.builtins
    have hcs : env.cells = cellsFrom (s.heap.objs.size + 1) d.names [] := by
      subst he; show cellsFrom _ f.fd.scope.names [] = _; rw [f.names]
    clear he
    obtain ⟨h1, tk, rfl⟩ := x.toInCall.same
    have keep : ∀ b o, s.heap.get? b = some o → h1.get? b = some o := x.toInCall.keep
    have ltL : env.locals < h1.objs.size := by obtain ⟨o, _, _, eo, _⟩ := x.toInCall.ns; exact Heap.lt_size eo
    have hz : s.heap.objs.size ≤ h1.objs.size := by rw [← hl]; exact Nat.le_of_lt ltL
    have hc : ∀ y c, env.cells.lookup y = some c → s.heap.objs.size ≤ c ∧ c < h1.objs.size ∧ c ≠ env.locals := fun y c ec => by
      have a1 := x.above y c (mem_of_lookup ec)
      have a2 := (x.cell y c ec).lt
      rw [hl] at a1 ⊢
      exact ⟨Nat.le_of_lt a1, a2, Nat.ne_of_gt a1⟩
    let Wf : List Addr := env.locals :: env.cells.filterMap fun p => if env.cells.lookup p.1 = some p.2 then some p.2 else none
    have wm : ∀ b ∈ Wf, b = env.locals ∨ ∃ y, env.cells.lookup y = some b := fun b hb => by
      rcases List.mem_cons.mp hb with z | hb
      · exact .inl z
      · obtain ⟨p, _, e⟩ := List.mem_filterMap.mp hb
        split at e
        · rename_i z; cases e; exact .inr ⟨_, z⟩
        · cases e
    have cm : ∀ y c, env.cells.lookup y = some c → c ∈ Wf := fun y c ec => .tail _ (List.mem_filterMap.mpr ⟨(y, c), mem_of_lookup ec, by rw [if_pos ec]⟩)
    have hD : ∀ b ∈ Wf ++ F, b ∈ F ∨ s.heap.objs.size ≤ b ∧ b < h1.objs.size := fun b hb => by
      rcases List.mem_append.mp hb with hb | hb
      · rcases wm b hb with rfl | ⟨y, ec⟩
        · exact .inr ⟨by rw [hl]; exact Nat.le_refl _, ltL⟩
        · exact .inr ⟨(hc y b ec).1, (hc y b ec).2.1⟩
      · exact .inl hb
    have H1 : HR G h1 (Wf ++ F) ad hp := H.guard keep hz hD
    have S := guard_stay H keep hD
    have ra1 : RVRs G h1 (Xp G (Wf ++ F) ad hp) ad as vs := RVRs.stay S (fun _ _ e => e) ra
    have lk : ∀ y rv, alook y (d.params.zip as) = some rv → y ∈ d.params := fun y rv e => (List.of_mem_zip (alook_mem e)).1
    have R1 : FRel G h1 (Wf ++ F) ad hp env d.names (d.params.zip as) := by
      refine ⟨hsc, hgl, hbl, fun y e => by rw [hk]; rw [alook_eq] at e; exact e, fun y e => by rw [hk]; rw [alook_eq] at e; exact e, fun y e => ?_, fun y e => by rw [hk]; rw [alook_eq] at e; exact e, ?_, fun y rv e => ?_, ⟨_, x.toInCall.ns, fun y rv e k => ?_⟩, fun y k => ?_, fun y z c e1 e2 => ?_, List.mem_append_left _ (.head _)⟩
      · rw [alook_eq] at e; exact absurd e (f.noFree y)
      · rw [hk]; exact f.nodbg
      · rw [hk]
        exact (kinds y (lk y rv e)).imp id .inl
      · obtain ⟨v, e1, e2⟩ := zip_look ra1 e
        exact ⟨v, bindL_at (by rw [hnames]; exact f.nodup) e1 k, e2⟩
      · have k : env.kindOf y = some .cell := by
          rcases k with k | k
          · exact k
          · rw [hk] at k; exact absurd k (f.noFree y)
        have : (env.cells.lookup y).isSome = true := by
          rw [hcs]; rw [hk] at k; exact cells_has _ _ _ _ (.inl k)
        obtain ⟨c, ec⟩ := Option.isSome_iff_exists.mp this
        refine ⟨c, _, ec, x.cell y c ec, List.mem_append_left _ (cm y c ec), (hc y c ec).2.2, fun rv e => ?_⟩
        obtain ⟨v, e1, e2⟩ := zip_look ra1 e
        exact ⟨v, bindC_at (by rw [hnames]; exact f.nodup) e1 (by rw [k]; decide), e2⟩
      · exact name_of_addr x.apart (mem_of_lookup e1) (mem_of_lookup e2)
    have wr : WR Wf (Wf ++ F) env := ⟨fun b hb => List.mem_append_left _ hb, .head _, cm⟩
    refine ex (A.deeper env) _ env Wf (Wf ++ F) ad { s with heap := h1, toks := tk } _ (room_deeper rm) wr H1 R1 fun ad2 h2 tk2 fl2 H2 R2 g2 r2 => ?_
    have g : Go G [] F ad hp s.heap ad2 hp1 h2 := Go.unguard g2 keep hz (fun b hb => List.mem_append_right _ hb) fun b hb => by
      rcases wm b hb with rfl | ⟨y, ec⟩
      · exact .inr (by rw [hl]; exact Nat.le_refl _)
      · exact .inr (hc y b ec).1
    have H3 := H2.less (F' := F) fun b hb => List.mem_append_right _ hb
    have sub : ∀ b, Xp G F ad2 hp1 b → Xp G (Wf ++ F) ad2 hp1 b := fun b => Xp.less fun b hb => List.mem_append_right _ hb
    cases fl with
    | next =>
      have r2 : fl2 = .next := r2
      subst r2
      exact q ad2 h2 tk2 .none H3 .none g
    | ret v =>
      obtain ⟨w, rfl, r3⟩ := r2
      exact q ad2 h2 tk2 w H3 (r3.weaken sub) g

theorem ClAt.at {f : Str} {as : List RV} {rv rv' : RV} {hp' hp'' : Hp} (w : ClAt G glob n f as hp rv' hp'') (z : some (rv', hp'') = some (rv, hp')) : ClAt G glob n f as hp rv hp' := sp (P := fun rv hp' => ClAt G glob n f as hp rv hp') z w
theorem cl_sound (I : SIh G glob n ih) {cfg : Cfg} (gf : ∀ f d, cfg.tab f = some d → ∃ fa, glob f = some fa ∧ Nonempty (FnAt G fa d)) {f : Str} {as : List RV} {rv : RV} (ee : stepCl cfg ih f as hp = some (rv, hp')) : ClAt G glob (n + 1) f as hp rv hp' :=
  bs ee fun d ed ee => gs ee fun el ee => gs ee fun ek ee => me ee fun q e1 e2 => Exists.elim (gf _ d ed) fun fa z => z.2.elim fun f => (cl_of f z.1 (Nat.eq_of_beq_eq_true el) ek (I.exs (fl := q.1) (loc' := q.2.1) (hp' := q.2.2) e1)).at e2
end
end Mine
end
section
open PySem PySem.W PyProof.Rows PySem.Calls
set_option maxRecDepth 100000
namespace Mine

section
variable {G : Gnd} {glob : Str → Option Addr} {n : Nat} {ih : Ih} {A : Around} {E : Value → Shared → Prop} {s : Shared} {env : Env} {W W' F F' : List Addr} {ad ad' : Ad} {hp hp' hp1 hp2 : Hp} {h h' h'' : Heap} {sc : Sc} {loc loc' loc1 : Loc} {X X' : Addr → Prop}
variable {K : Frag} {fI : Addr}

theorem ownsO_sub {i : Nat} {t : AV} {p : Addr × Addr} (o : AO) : ownsO p (subO i t o) = ownsO p o := by cases o <;> exact rfl
theorem nth_map {α β : Type} (f : α → β) (l : List α) (i : Nat) : nth (l.map f) i = (nth l i).map f := by rw [nth_eq, nth_eq, List.getElem?_map]
theorem alook_map {β γ : Type} (f : β → γ) (x : Str) (l : List (Str × β)) : alook x (l.map fun p => (p.1, f p.2)) = (alook x l).map f := by
  induction l with
  | nil => exact rfl
  | cons p r ih =>
    show cond (seq x p.1) (some (f p.2)) (alook x (r.map fun p => (p.1, f p.2))) = (cond (seq x p.1) (some p.2) (alook x r)).map f
    rw [ih]
    cases seq x p.1 <;> exact rfl

structure FzR (G : Gnd) (h : Heap) (F : List Addr) (ad : Ad) (hp : Hp) (loc : Loc) (hp' : Hp) (loc' : Loc) : Prop where
  hr : HR G h F ad hp'
  own : ∀ b, Own ad hp' b → Own ad hp b
  names : loc'.map (·.1) = loc.map (·.1)
  vals : ∀ x rv, alook x loc' = some rv → ∃ rv0, alook x loc = some rv0 ∧ ∀ w, RVR G h (Xp G F ad hp) ad rv0 w → RVR G h (Xp G F ad hp') ad rv w
theorem FzR.refl (H : HR G h F ad hp) : FzR G h F ad hp loc hp loc := ⟨H, fun _ z => z, rfl, fun _ rv e => ⟨rv, e, fun _ r => r⟩⟩
theorem FzR.trans (a : FzR G h F ad hp loc hp1 loc1) (b : FzR G h F ad hp1 loc1 hp' loc') : FzR G h F ad hp loc hp' loc' :=
  ⟨b.hr, fun x z => a.own x (b.own x z), b.names.trans a.names, fun x rv e => Exists.elim (b.vals x rv e) fun r1 q1 => Exists.elim (a.vals x r1 q1.1) fun r0 q0 => ⟨r0, q0.1, fun w r => q1.2 w (q0.2 w r)⟩⟩
theorem FzR.at {loc'' : Loc} {hp'' : Hp} (w : FzR G h F ad hp loc hp'' loc'') (e : some (loc'', hp'') = some (loc', hp')) : FzR G h F ad hp loc hp' loc' := sp (P := fun loc' hp' => FzR G h F ad hp loc hp' loc') e w

theorem tree_ok {X' : Addr → Prop} {p : Addr × Addr} {o : AO} {t : AV} (e : treeOf o = some t) (r : OR G h X ad p o) (k : ∀ b, X' b → X b) (no : ∀ b ∈ ownsO p o, ¬ X' b) : AR G h X' t (.ref p.1) := by
  cases o with
  | lst l =>
    obtain ⟨vs, n, eh, rs⟩ := r
    exact ms (P := fun t => AR G h X' t (.ref p.1)) e fun as e1 => .lst eh (no _ (.head _)) (ARs.stay (stay_weaken k) (RVRs.toA rs e1))
  | dct l =>
    obtain ⟨es, n, eh, rd, nd⟩ := r
    refine bs e fun as e1 e => gs e fun z e => si (P := fun t => AR G h X' t (.ref p.1)) e ?_
    have a := allAd_rvd e1 rd
    exact .dct eh (no _ (.head _)) (Nat.blt_eq.mp z) (by rw [a.2]; exact nd) (ARd.stay (stay_weaken k) a.1)
  | inst a b c =>
    obtain ⟨D, I⟩ := r
    exact bs e fun k' e1 e => bs e fun i' e2 e => ms (P := fun t => AR G h X' t (.ref p.1)) e fun a' e3 => .vec I.e I.e' (no _ (.head _)) (no _ (.tail _ (.head _))) (AR.weaken k (I.rk.ofA e1)) (AR.weaken k (I.ri.ofA e2)) (AR.weaken k (I.ra.ofA e3))
  | well _ _ => exact nn e
  | dead => exact nn e

theorem sub1_ok {X' : Addr → Prop} {i : Nat} {t : AV} {p : Addr × Addr} (ep : nth ad i = some p) (k : ∀ b, X' b → X b) (ht : AR G h X' t (.ref p.1)) : ∀ (v : RV) (w : Value), RVR G h X ad v w → RVR G h X' ad (sub1 i t v) w := fun v w r => by
  cases v with
  | a v => exact AR.weaken k r
  | r j =>
    refine RVR.rE r fun q eq => ?_
    have sh : sub1 i t (.r j) = (match Nat.beq i j with | true => RV.a t | false => RV.r j) := rfl
    rw [sh]
    cases z : Nat.beq i j with
    | true =>
      rw [← Nat.eq_of_beq_eq_true z, ep] at eq
      exact Option.some.inj eq ▸ ht
    | false => exact ⟨q, eq, rfl⟩
theorem subO_ok {X' : Addr → Prop} {i : Nat} {t : AV} {p q : Addr × Addr} (ep : nth ad i = some p) (k : ∀ b, X' b → X b) (ht : AR G h X' t (.ref p.1)) {o : AO} (r : OR G h X ad q o) : OR G h X' ad q (subO i t o) := by
  have s := sub1_ok ep k ht
  cases o with
  | lst l =>
    obtain ⟨vs, n, e, r⟩ := r
    exact ⟨vs, n, e, All2.map (f := sub1 i t) (r.mono s)⟩
  | dct l =>
    obtain ⟨es, n, e, r, nd⟩ := r
    exact ⟨es, n, e, All2.map (f := fun p : Str × RV => (p.1, sub1 i t p.2)) (r.mono (KVr.mono s)), by rw [List.map_map]; exact nd⟩
  | inst a b c =>
    obtain ⟨D, I⟩ := r
    exact ⟨D, I.e, I.e', s _ _ I.rk, s _ _ I.ri, s _ _ I.ra⟩
  | well _ _ => exact r
  | dead => exact trivial

theorem fz_at {i : Nat} {o : AO} (eo : nth hp i = some o) {t : AV} {j : Nat} {o' : AO} (ej : nth ((nset hp i .dead).map (subO i t)) j = some o') : (j = i ∧ o' = .dead) ∨ (j ≠ i ∧ ∃ o0, nth hp j = some o0 ∧ o' = subO i t o0) := by
  rw [nth_map] at ej
  refine ms (P := fun o' => (j = i ∧ o' = .dead) ∨ (j ≠ i ∧ ∃ o0, nth hp j = some o0 ∧ o' = subO i t o0)) ej fun o0 e0 => ?_
  rcases Decidable.em (j = i) with z | z
  · rw [z, nth_nset_same eo] at e0
    exact .inl ⟨z, by rw [← Option.some.inj e0]; rfl⟩
  · rw [nth_nset_other (Ne.symm z)] at e0
    exact .inr ⟨z, o0, e0, rfl⟩
theorem fz_own {i : Nat} {o : AO} (eo : nth hp i = some o) {t : AV} {b : Addr} (q : Own ad ((nset hp i .dead).map (subO i t)) b) : ∃ j q o0, j ≠ i ∧ nth ad j = some q ∧ nth hp j = some o0 ∧ b ∈ ownsO q o0 := by
  obtain ⟨j, q, o', e1, e2, e3⟩ := q
  rcases fz_at eo e2 with ⟨_, z⟩ | ⟨z, o0, e0, z'⟩
  · rw [z] at e3; exact nomatch e3
  · rw [z', ownsO_sub] at e3
    exact ⟨j, q, o0, z, e1, e0, e3⟩
theorem fz1_go (H : HR G h F ad hp) {i : Nat} {o : AO} {t : AV} (eo : nth hp i = some o) (et : treeOf o = some t) : FzR G h F ad hp loc ((nset hp i .dead).map (subO i t)) (loc.map fun p => (p.1, sub1 i t p.2)) := by
  obtain ⟨p, ep⟩ := H.adAt eo
  have own' : ∀ b, Own ad ((nset hp i .dead).map (subO i t)) b → Own ad hp b := fun b ob => by
    obtain ⟨j, q, o0, _, e1, e2, e3⟩ := fz_own eo ob; exact ⟨j, q, o0, e1, e2, e3⟩
  have sub : ∀ b, Xp G F ad ((nset hp i .dead).map (subO i t)) b → Xp G F ad hp b := fun b x => x.imp id fun y => y.imp id (own' b)
  have ht : AR G h (Xp G F ad ((nset hp i .dead).map (subO i t))) t (.ref p.1) := tree_ok et (H.obj i o p eo ep) sub fun b hb x => by
    have lo := H.lo b ⟨i, p, o, ep, eo, hb⟩
    rcases x with x | x | x
    · exact absurd x (Nat.not_lt.mpr lo.1)
    · exact lo.2.2 x
    · obtain ⟨j, q, o0, z, e1, e2, e3⟩ := fz_own eo x
      exact H.nd i j p q o o0 b (Ne.symm z) ep e1 eo e2 hb e3
  have back : ∀ {j q o' b}, nth ((nset hp i .dead).map (subO i t)) j = some o' → b ∈ ownsO q o' → ∃ o0, nth hp j = some o0 ∧ b ∈ ownsO q o0 := fun {j q o' b} e hb => by
    rcases fz_at eo e with ⟨_, z⟩ | ⟨_, o0, e0, z⟩
    · rw [z] at hb; exact nomatch hb
    · rw [z, ownsO_sub] at hb; exact ⟨o0, e0, hb⟩
  refine ⟨⟨H.base, H.size, by rw [List.length_map, len_nset, H.len], fun j o' q ej eq => ?_, fun j j' q q' o1 o2 b ne e1 e2 e3 e4 h1 h2 => ?_, fun b ob => H.lo b (own' b ob), H.fr⟩, own', by rw [List.map_map]; rfl, fun x rv ex => ?_⟩
  · rcases fz_at eo ej with ⟨_, z⟩ | ⟨_, o0, e0, z⟩
    · rw [z]; exact trivial
    · rw [z]; exact subO_ok ep sub ht (H.obj j o0 q e0 eq)
  · exact Exists.elim (back e3 h1) fun o0 z => Exists.elim (back e4 h2) fun o0' z' => H.nd j j' q q' o0 o0' b ne e1 e2 z.1 z'.1 z.2 z'.2
  · rw [alook_map] at ex
    exact ms (P := fun rv => ∃ rv0, alook x loc = some rv0 ∧ ∀ w, RVR G h (Xp G F ad hp) ad rv0 w → RVR G h (Xp G F ad ((nset hp i .dead).map (subO i t))) ad rv w) ex fun rv0 e0 => ⟨rv0, e0, fun w r => sub1_ok ep sub ht _ _ r⟩
theorem fz1_ok (H : HR G h F ad hp) {i : Nat} (e : fz1 i loc hp = some (loc', hp')) : FzR G h F ad hp loc hp' loc' :=
  bs e fun o eo e => cs e (fun _ e => (FzR.refl H).at e) fun _ e => me e fun t et e => (fz1_go H eo et).at e
theorem fzAll_ok : ∀ {is : List Nat} {loc loc' : Loc} {hp hp' : Hp}, HR G h F ad hp → fzAll is loc hp = some (loc', hp') → FzR G h F ad hp loc hp' loc' := fun {is} => by
  induction is with
  | nil => exact fun H e => (FzR.refl H).at e
  | cons i r ih => exact fun H e => bs2 e fun l1 h1 e1 e2 => (fz1_ok H e1).trans (ih (fz1_ok H e1).hr e2)
theorem fzName_ok (H : HR G h F ad hp) {x : Bool × Str} (e : fzName x loc hp = some (loc', hp')) : FzR G h F ad hp loc hp' loc' := by
  unfold fzName at e
  cases q : alook x.2 loc with
  | none => rw [q] at e; exact (FzR.refl H).at e
  | some v => rw [q] at e; exact fzAll_ok H e
theorem fzNames_ok : ∀ {xs : List (Bool × Str)} {loc loc' : Loc} {hp hp' : Hp}, HR G h F ad hp → fzNames xs loc hp = some (loc', hp') → FzR G h F ad hp loc hp' loc' := fun {xs} => by
  induction xs with
  | nil => exact fun H e => (FzR.refl H).at e
  | cons i r ih => exact fun H e => bs2 e fun l1 h1 e1 e2 => (fzName_ok H e1).trans (ih (fzName_ok H e1).hr e2)
structure FzV (G : Gnd) (h : Heap) (F : List Addr) (ad : Ad) (hp : Hp) (v : RV) (hp' : Hp) (w : RV) : Prop where
  hr : HR G h F ad hp'
  own : ∀ b, Own ad hp' b → Own ad hp b
  val : ∀ u, RVR G h (Xp G F ad hp) ad v u → RVR G h (Xp G F ad hp') ad w u
theorem fzRes_ok (H : HR G h F ad hp) {v w : RV} (e : fzRes v hp = some (w, hp')) : FzV G h F ad hp v hp' w :=
  bs2 e fun l h1 e1 e => me e fun p e2 e => by
    have a := fzAll_ok H e1
    refine sp (P := fun w hp' => FzV G h F ad hp v hp' w) e ⟨a.hr, a.own, ?_⟩
    have el : l = [p] := oneE (P := fun l => l = [p]) e2 rfl
    subst el
    obtain ⟨rv0, e0, k⟩ := a.vals p.1 p.2 (by show cond (seq p.1 p.1) _ _ = _; rw [seq_iff.mpr rfl]; rfl)
    rw [show p.1 = "" from (List.cons.inj a.names).1] at e0
    have : alook "" [(("" : Str), v)] = some v := by show cond (seq "" "") _ _ = _; rw [seq_iff.mpr rfl]; rfl
    rw [this] at e0
    exact Option.some.inj e0 ▸ k
theorem FRel.fz (R : FRel G h F ad hp env sc loc) (z : FzR G h F ad hp loc hp' loc') : FRel G h F ad hp' env sc loc' := by
  obtain ⟨m, ns, k⟩ := R.ns
  refine ⟨R.kind, R.glob, R.bltn, R.tyl, R.tyc, R.tyf, R.tyg, R.nodbg, fun x rv e => Exists.elim (z.vals x rv e) fun rv0 q => R.kinds x rv0 q.1, ⟨m, ns, fun x rv e l => Exists.elim (z.vals x rv e) fun rv0 q => Exists.elim (k x rv0 q.1 l) fun v u => ⟨v, u.1, q.2 v u.2⟩⟩, fun x l => ?_, R.inj, R.locF⟩
  obtain ⟨c, cv, e1, e2, e3, e4, e5⟩ := R.cell x l
  exact ⟨c, cv, e1, e2, e3, e4, fun rv e => Exists.elim (z.vals x rv e) fun rv0 q => Exists.elim (e5 rv0 q.1) fun v u => ⟨v, u.1, q.2 v u.2⟩⟩
theorem Go.fz (g : Go G W F ad hp h ad' hp1 h') (k : ∀ b, Own ad' hp2 b → Own ad' hp1 b) : Go G W F ad hp h ad' hp2 h' := ⟨g.size, g.ext, fun b q => g.grow b (k b q), g.keep⟩
end
end Mine
end
section
open PySem PySem.W PyProof.Rows PySem.Calls
set_option maxRecDepth 100000
namespace Mine

theorem nth_mem {α : Type} {l : List α} {m : Nat} {x : α} (e : nth l m = some x) : x ∈ l := by
  rw [nth_eq] at e; exact List.mem_of_getElem? e
theorem nodup_nth {js : List Nat} (nd : js.Nodup) {m m' : Nat} {i : Nat} (e : nth js m = some i) (e' : nth js m' = some i) : m = m' := by
  rw [nth_eq] at e e'
  obtain ⟨h1, a⟩ := List.getElem?_eq_some_iff.mp e
  obtain ⟨h2, b⟩ := List.getElem?_eq_some_iff.mp e'
  have pw := List.pairwise_iff_getElem.mp nd
  rcases Nat.lt_trichotomy m m' with z | z | z
  · exact absurd (a.trans b.symm) (pw m m' h1 h2 z)
  · exact z
  · exact absurd (b.trans a.symm) (pw m' m h2 h1 z)
theorem nth_take {α : Type} {l : List α} {k i : Nat} {x : α} (e : nth (l.take k) i = some x) : nth l i = some x ∧ i < k := by
  have z := nth_lt e
  rw [List.length_take] at z
  have z := Nat.lt_of_lt_of_le z (Nat.min_le_left _ _)
  rw [nth_eq, List.getElem?_take_of_lt z, ← nth_eq] at e
  exact ⟨e, z⟩
theorem nth_take' {α : Type} {l : List α} {k i : Nat} {x : α} (e : nth l i = some x) (z : i < k) : nth (l.take k) i = some x := by
  rw [nth_eq, List.getElem?_take_of_lt z, ← nth_eq]; exact e
theorem nth_drop {α : Type} {l : List α} {k i : Nat} : nth (l.drop k) i = nth l (k + i) := by rw [nth_eq, nth_eq, List.getElem?_drop]
theorem nth_append {α : Type} {l r : List α} {i : Nat} {x : α} (e : nth (l ++ r) i = some x) : nth l i = some x ∨ ∃ j, i = l.length + j ∧ nth r j = some x := by
  rw [nth_eq] at e
  rcases Nat.lt_or_ge i l.length with z | z
  · left; rw [nth_eq]; rwa [List.getElem?_append_left z] at e
  · exact .inr ⟨i - l.length, (Nat.add_sub_of_le z).symm, by rw [nth_eq]; rwa [List.getElem?_append_right z] at e⟩
theorem nth_append' {α : Type} {l r : List α} {j : Nat} : nth (l ++ r) (l.length + j) = nth r j := by
  rw [nth_eq, nth_eq, List.getElem?_append_right (Nat.le_add_right _ _), Nat.add_sub_cancel_left]

section
variable {G : Gnd} {glob : Str → Option Addr} {n : Nat} {ih : Ih} {A : Around} {E : Value → Shared → Prop} {s : Shared} {env : Env} {W W' F F0 F' : List Addr} {ad ad0 ad1 ad' : Ad} {hp hp' hp1 hp2 : Hp} {h h' h'' : Heap} {sc : Sc} {loc loc' loc1 : Loc} {X X' : Addr → Prop}
variable {K : Frag} {fI : Addr}

theorem nodupN_iff : ∀ {l : List Nat}, nodupN l = true → l.Nodup := fun {l} => by
  induction l with
  | nil => exact fun _ => List.nodup_nil
  | cons i r ih =>
    intro e
    obtain ⟨e1, e2⟩ := Bool.and_eq_true_iff.mp e
    rw [Bool.not_eq_true'] at e1
    exact List.nodup_cons.mpr ⟨fun hi => List.any_eq_false.mp e1 i hi (Nat.beq_refl i), ih e2⟩
theorem refs_none1 {v : RV} {w : Value} (e : refs1 v = []) (r : RVR G h X ad v w) : RVR G h X ad' v w := by
  cases v with
  | a v => exact r
  | r i => exact nomatch e
theorem refs_none {l : List RV} {vs : List Value} (e : l.flatMap refs1 = []) (r : RVRs G h X ad l vs) : RVRs G h X ad' l vs := r.monoM fun x hx _ r => refs_none1 (List.flatMap_eq_nil_iff.mp e x hx) r
theorem refs_noneO {p : Addr × Addr} {o : AO} (e : refsO o = []) (r : OR G h X ad p o) : OR G h X ad' p o := by
  cases o with
  | lst l =>
    obtain ⟨vs, n, eh, r⟩ := r
    exact ⟨vs, n, eh, refs_none e r⟩
  | dct l =>
    obtain ⟨es, n, eh, r, nd⟩ := r
    exact ⟨es, n, eh, All2.monoM (fun x hx _ r => Exists.elim r fun t r => Exists.elim r fun v r => ⟨t, v, r.1, refs_none1 (List.flatMap_eq_nil_iff.mp e x hx) r.2⟩) r, nd⟩
  | inst a b c =>
    obtain ⟨D, I⟩ := r
    have e := List.append_eq_nil_iff.mp e
    have e1 := List.append_eq_nil_iff.mp e.1
    exact ⟨D, I.e, I.e', refs_none1 e1.1 I.rk, refs_none1 e1.2 I.ri, refs_none1 e.2 I.ra⟩
  | well _ _ => exact r
  | dead => exact trivial

noncomputable def othersL (js : List Nat) (ad : Ad) (hp : Hp) : List Addr := (List.range hp.length).flatMap fun i => if i ∈ js then [] else ((nth ad i).bind fun p => (nth hp i).map fun o => ownsO p o).getD []
theorem others_mem {js : List Nat} {b : Addr} : b ∈ othersL js ad hp ↔ ∃ i p o, i ∉ js ∧ nth ad i = some p ∧ nth hp i = some o ∧ b ∈ ownsO p o := by
  unfold othersL
  rw [List.mem_flatMap]
  constructor
  · rintro ⟨i, hi, hb⟩
    rcases Decidable.em (i ∈ js) with nj | nj
    · rw [if_pos nj] at hb; exact nomatch hb
    · rw [if_neg nj] at hb
      cases e1 : nth ad i with
      | none => rw [e1] at hb; exact nomatch hb
      | some p =>
        cases e2 : nth hp i with
        | none => rw [e1, e2] at hb; exact nomatch hb
        | some o => rw [e1, e2] at hb; exact ⟨i, p, o, nj, e1, e2, hb⟩
  · rintro ⟨i, p, o, nj, e1, e2, hb⟩
    refine ⟨i, List.mem_range.mpr (nth_lt e2), ?_⟩
    rw [if_neg nj, e1, e2]; exact hb

/-- the passed objects, first -/
structure Here (ad : Ad) (hp : Hp) (os : List AO) (ad0 : Ad) (m i : Nat) (p : Addr × Addr) (o : AO) : Prop where
  e1 : nth ad i = some p
  e2 : nth hp i = some o
  e3 : nth ad0 m = some p
  e4 : nth os m = some o
  er : refsO o = []
theorem getAll_ok (H : HR G h F ad hp) : ∀ {js : List Nat} {os : List AO}, getAll hp js = some os → os.length = js.length ∧
    ∀ m i, nth js m = some i → ∃ p o, Here ad hp os (js.map fun i => (nth ad i).getD (0, 0)) m i p o := fun {js} => by
  induction js with
  | nil => exact fun {os} e => si (P := fun os => os.length = 0 ∧ _) e ⟨rfl, fun m i e => by cases m <;> exact nn e⟩
  | cons j js ih' =>
    refine fun {os} e => bs e fun o eo e => gs e fun er e => ms (P := fun os => os.length = js.length + 1 ∧ ∀ m i, nth (j :: js) m = some i → ∃ p o, Here ad hp os ((j :: js).map fun i => (nth ad i).getD (0, 0)) m i p o) e fun os' e1 => ?_
    obtain ⟨a, b⟩ := ih' e1
    obtain ⟨p, ep⟩ := H.adAt eo
    refine ⟨congrArg (· + 1) a, fun m i em => ?_⟩
    cases m with
    | zero =>
      refine ⟨p, o, ?_⟩
      rw [← (Option.some.inj em : j = i)]
      exact ⟨ep, eo, by show some ((nth ad j).getD (0, 0)) = some p; rw [ep]; rfl, rfl, List.isEmpty_iff.mp er⟩
    | succ m =>
      obtain ⟨p, o, q⟩ := b m i em
      exact ⟨p, o, q.e1, q.e2, q.e3, q.e4, q.er⟩

structure Fc (F : List Addr) (ad : Ad) (hp : Hp) (js : List Nat) (os : List AO) (ad0 : Ad) (F0 : List Addr) : Prop where
  nodup : js.Nodup
  len : os.length = js.length
  at_ : ∀ m i, nth js m = some i → ∃ p o, Here ad hp os ad0 m i p o
  guards : ∀ b, b ∈ F0 ↔ b ∈ F ∨ ∃ i p o, i ∉ js ∧ nth ad i = some p ∧ nth hp i = some o ∧ b ∈ ownsO p o
section
variable {js : List Nat} {os : List AO}
theorem Fc.idx (f : Fc F ad hp js os ad0 F0) {m : Nat} {o : AO} (e : nth os m = some o) : ∃ i p, nth js m = some i ∧ Here ad hp os ad0 m i p o := by
  obtain ⟨i, ei⟩ := nth_of_lt (l := js) (i := m) (by rw [← f.len]; exact nth_lt e)
  obtain ⟨p, o', q⟩ := f.at_ m i ei
  exact ⟨i, p, ei, Option.some.inj (q.e4.symm.trans e) ▸ q⟩
theorem Fc.own (f : Fc F ad hp js os ad0 F0) {b : Addr} (ob : Own ad0 os b) : ∃ m i p o, nth js m = some i ∧ Here ad hp os ad0 m i p o ∧ b ∈ ownsO p o := by
  obtain ⟨m, p, o, e1, e2, e3⟩ := ob
  obtain ⟨i, p', a, q⟩ := f.idx e2
  exact ⟨m, i, p', o, a, q, Option.some.inj (e1.symm.trans q.e3) ▸ e3⟩
theorem Fc.own0 (f : Fc F ad hp js os ad0 F0) {b : Addr} (ob : Own ad0 os b) : Own ad hp b := by
  obtain ⟨m, i, p, o, a, q, e3⟩ := f.own ob
  exact ⟨i, p, o, q.e1, q.e2, e3⟩
theorem Fc.sub (f : Fc F ad hp js os ad0 F0) (b : Addr) (x : Xp G F0 ad0 os b) : Xp G F ad hp b :=
  x.elim .inl fun x => x.elim (fun x => ((f.guards b).mp x).elim (fun x => .inr (.inl x)) fun ⟨i, p, o, _, e1, e2, e3⟩ => .inr (.inr ⟨i, p, o, e1, e2, e3⟩)) fun x => .inr (.inr (f.own0 x))
theorem Fc.FF (f : Fc F ad hp js os ad0 F0) (b : Addr) (hb : b ∈ F) : b ∈ F0 := (f.guards b).mpr (.inl hb)
theorem Fc.hr (f : Fc F ad hp js os ad0 F0) (H : HR G h F ad hp) (l : ad0.length = js.length) : HR G h F0 ad0 os := by
  refine ⟨H.base, H.size, l.trans f.len.symm, fun m o p e1 e2 => ?_, fun m m' p q o o' b ne e1 e2 e3 e4 h1 h2 => ?_, fun b ob => ?_, fun b hb => ?_⟩
  · obtain ⟨i, p', a, q⟩ := f.idx e1
    rw [← Option.some.inj (q.e3.symm.trans e2)]
    exact (refs_noneO q.er (H.obj i o p' q.e2 q.e1)).weaken f.sub
  · obtain ⟨i, p', a1, q1⟩ := f.idx e3
    obtain ⟨j, q', a2, q2⟩ := f.idx e4
    rw [← Option.some.inj (q1.e3.symm.trans e1)] at h1
    rw [← Option.some.inj (q2.e3.symm.trans e2)] at h2
    exact H.nd i j p' q' o o' b (fun z => ne (nodup_nth f.nodup a1 (z ▸ a2))) q1.e1 q2.e1 q1.e2 q2.e2 h1 h2
  · obtain ⟨m, i, p, o, a, q, e3⟩ := f.own ob
    have lo := H.lo b ⟨i, p, o, q.e1, q.e2, e3⟩
    exact ⟨lo.1, lo.2.1, fun hb => ((f.guards b).mp hb).elim lo.2.2 fun ⟨j, q', o', nj, f1, f2, f3⟩ => H.nd i j p q' o o' b (fun z => nj (z ▸ nth_mem a)) q.e1 f1 q.e2 f2 e3 f3⟩
  · exact ((f.guards b).mp hb).elim (H.fr b) fun ⟨j, q, o', nj, f1, f2, f3⟩ => have lo := H.lo b ⟨j, q, o', f1, f2, f3⟩; ⟨lo.1, lo.2.1⟩
structure Foc (G : Gnd) (h : Heap) (F : List Addr) (ad : Ad) (hp : Hp) (js : List Nat) (os : List AO) (ad0 : Ad) (F0 : List Addr) : Prop where
  hr : HR G h F0 ad0 os
  fc : Fc F ad hp js os ad0 F0
theorem focus (H : HR G h F ad hp) (nd : js.Nodup) (e : getAll hp js = some os) : Foc G h F ad hp js os (js.map fun i => (nth ad i).getD (0, 0)) (F ++ othersL js ad hp) := by
  have q := getAll_ok H e
  have f : Fc F ad hp js os (js.map fun i => (nth ad i).getD (0, 0)) (F ++ othersL js ad hp) := ⟨nd, q.1, q.2, fun b => by rw [List.mem_append, others_mem]⟩
  exact ⟨f.hr H (by rw [List.length_map]), f⟩
end
theorem renum_ok {X' : Addr → Prop} (k : ∀ b, X' b → X b) : ∀ {as : List RV} {vs : List Value} {j : Nat}, (∀ m i, nth (refsOf as) m = some i → nth ad0 (j + m) = nth ad i) → RVRs G h X ad as vs → RVRs G h X' ad0 (renum j as) vs := fun {as} => by
  induction as with
  | nil => exact fun {vs j} _ r => All2.nilE (P := fun vs => RVRs G h X' ad0 [] vs) r trivial
  | cons a as ih =>
    cases a with
    | a v => exact fun {vs j} q r => All2.consE (P := fun vs => RVRs G h X' ad0 (.a v :: renum j as) vs) r fun y m r rs => ⟨AR.weaken k r, ih q rs⟩
    | r i =>
      exact fun {vs j} q r => All2.consE (P := fun vs => RVRs G h X' ad0 (.r j :: renum (j + 1) as) vs) r fun y m r rs => ⟨RVR.rE (P := fun y => RVR G h X' ad0 (.r j) y) r fun p ep => ⟨p, (q 0 i rfl).trans ep, rfl⟩, ih (fun m i e => by rw [Nat.add_assoc, Nat.add_comm 1 m]; exact q (m + 1) i e) rs⟩

theorem putAll_len : ∀ {js : List Nat} {os : List AO} {hp : Hp}, (putAll js os hp).length = hp.length := fun {js} => by
  induction js with
  | nil => exact rfl
  | cons i r ih =>
    intro os hp
    cases os with
    | nil => exact rfl
    | cons o os => exact (ih : (putAll r os (nset hp i o)).length = _).trans len_nset
theorem putAll_other : ∀ {js : List Nat} {os : List AO} {hp : Hp} {i : Nat}, i ∉ js → nth (putAll js os hp) i = nth hp i := fun {js} => by
  induction js with
  | nil => exact fun _ => rfl
  | cons j r ih =>
    intro os hp i h
    cases os with
    | nil => exact rfl
    | cons o os => exact (ih (os := os) (hp := nset hp j o) fun z => h (.tail _ z)).trans (nth_nset_other fun z => h (z ▸ .head _))
theorem putAll_at : ∀ {js : List Nat} {os : List AO} {hp : Hp} {m i : Nat} {o x : AO}, js.Nodup → nth js m = some i → nth os m = some o → nth hp i = some x → nth (putAll js os hp) i = some o := fun {js} => by
  induction js with
  | nil => exact fun {os hp m i o x} _ e _ _ => by cases m <;> exact nn e
  | cons j r ih =>
    intro os hp m i o x nd e1 e2 ex
    have nd := List.nodup_cons.mp nd
    cases os with
    | nil => cases m <;> exact nn e2
    | cons o' os =>
      cases m with
      | zero =>
        have ej : j = i := Option.some.inj e1
        rw [← ej] at ex ⊢
        exact (putAll_other nd.1).trans ((nth_nset_same ex).trans e2)
      | succ m => exact ih nd.2 e1 e2 ((nth_nset_other (show j ≠ i from fun z => nd.1 (by rw [z]; exact nth_mem (m := m) e1))).trans ex)
theorem noRefs_at : ∀ {l : List AO} {m : Nat} {o : AO}, noRefs l = true → nth l m = some o → refsO o = [] := fun {l} => by
  induction l with
  | nil => exact fun {m o} _ e => by cases m <;> exact nn e
  | cons x l ih =>
    intro m o h e
    have h := Bool.and_eq_true_iff.mp h
    cases m with
    | zero => exact Option.some.inj e ▸ List.isEmpty_iff.mp h.1
    | succ m => exact ih h.2 e
section
variable {k n' : Nat} {X' : Addr → Prop}
theorem shift1_ok (kx : ∀ b, X' b → X b) (hk : ∀ j, k ≤ j → nth ad' (n' + (j - k)) = nth ad1 j) {v v' : RV} {w : Value} (e : shift1 k n' v = some v') (r : RVR G h X ad1 v w) : RVR G h X' ad' v' w := by
  cases v with
  | a v => exact si (P := fun v' => RVR G h X' ad' v' w) e (AR.weaken kx r)
  | r j => exact gs e fun z e => si (P := fun v' => RVR G h X' ad' v' w) e (RVR.rE r fun p ep => ⟨p, (hk _ (Nat.le_of_ble_eq_true z)).trans ep, rfl⟩)
theorem shiftL_ok (kx : ∀ b, X' b → X b) (hk : ∀ j, k ≤ j → nth ad' (n' + (j - k)) = nth ad1 j) : ∀ {l l' : List RV} {vs : List Value}, shiftL k n' l = some l' → RVRs G h X ad1 l vs → RVRs G h X' ad' l' vs := fun {l} => by
  induction l with
  | nil => exact fun {l' vs} e r => si (P := fun l' => RVRs G h X' ad' l' vs) e (All2.nilE (P := fun vs => RVRs G h X' ad' [] vs) r trivial)
  | cons v l ih => exact fun {l' vs} e r => bs e fun w e1 e => ms (P := fun l' => RVRs G h X' ad' l' vs) e fun l2 e2 => All2.consE (P := fun vs => RVRs G h X' ad' (w :: l2) vs) r fun y m r rs => ⟨shift1_ok kx hk e1 r, ih e2 rs⟩
theorem shift_own {o o' : AO} {p : Addr × Addr} (e : shiftO k n' o = some o') : ownsO p o' = ownsO p o := by
  cases o with
  | lst l => exact ms (P := fun o' => ownsO p o' = [p.1]) e fun l2 _ => rfl
  | inst a b c => exact bs e fun a2 f1 e => bs e fun b2 f2 e => ms (P := fun o' => ownsO p o' = [p.1, p.2]) e fun c2 _ => rfl
  | dead => exact si (P := fun o' => ownsO p o' = []) e rfl
  | dct _ => exact nn e
  | well _ _ => exact nn e
theorem shiftO_ok (kx : ∀ b, X' b → X b) (hk : ∀ j, k ≤ j → nth ad' (n' + (j - k)) = nth ad1 j) {o o' : AO} {p : Addr × Addr} (e : shiftO k n' o = some o') (r : OR G h X ad1 p o) : OR G h X' ad' p o' := by
  cases o with
  | lst l =>
    obtain ⟨vs, n, eh, rs⟩ := r
    exact ms (P := fun o' => OR G h X' ad' p o') e fun l2 e1 => ⟨vs, n, eh, shiftL_ok kx hk e1 rs⟩
  | inst a b c =>
    obtain ⟨D, I⟩ := r
    exact bs e fun a2 f1 e => bs e fun b2 f2 e => ms (P := fun o' => OR G h X' ad' p o') e fun c2 f3 => ⟨D, I.e, I.e', shift1_ok kx hk f1 I.rk, shift1_ok kx hk f2 I.ri, shift1_ok kx hk f3 I.ra⟩
  | dead => exact si (P := fun o' => OR G h X' ad' p o') e trivial
  | dct _ => exact nn e
  | well _ _ => exact nn e
theorem shiftH_at : ∀ {l l' : List AO} {m : Nat} {o' : AO}, shiftH k n' l = some l' → nth l' m = some o' → ∃ o, nth l m = some o ∧ shiftO k n' o = some o' := fun {l} => by
  induction l with
  | nil => exact fun {l' m o'} e => si (P := fun l' => nth l' m = some o' → _) e fun e => by cases m <;> exact nn e
  | cons o l ih =>
    exact fun {l' m o'} e => bs e fun p e1 e => ms (P := fun l' => nth l' m = some o' → ∃ o0, nth (o :: l) m = some o0 ∧ shiftO k n' o0 = some o') e fun l2 e2 e' => by
      cases m with
      | zero => exact ⟨o, rfl, e1.trans e'⟩
      | succ m => exact ih (m := m) e2 e'
theorem shiftH_len : ∀ {l l' : List AO}, shiftH k n' l = some l' → l'.length = l.length := fun {l} => by
  induction l with
  | nil => exact fun {l'} e => si (P := fun l' => l'.length = 0) e rfl
  | cons o l ih => exact fun {l'} e => bs e fun p e1 e => ms (P := fun l' => l'.length = l.length + 1) e fun l2 e2 => congrArg (· + 1) (ih e2)
end

/-- where one of the callee's objects goes -/
noncomputable def Ix (js : List Nat) (n l : Nat) (i m : Nat) : Prop := (nth js m = some i ∧ m < n) ∨ (n ≤ m ∧ i = l + (m - n))
theorem Ix.fn {js : List Nat} {n l i j m : Nat} (a : Ix js n l i m) (b : Ix js n l j m) : i = j := by
  rcases a with a | a <;> rcases b with b | b
  · exact Option.some.inj (a.1.symm.trans b.1)
  · exact absurd a.2 (Nat.not_lt.mpr b.1)
  · exact absurd b.2 (Nat.not_lt.mpr a.1)
  · exact a.2.trans b.2.symm
section
variable {js : List Nat} {os more : List AO}
structure Inn (G : Gnd) (h' : Heap) (F0 : List Addr) (ad1 : Ad) (hp1 : Hp) (adm : Ad) (js : List Nat) (n l : Nat) (i : Nat) (o : AO) (p : Addr × Addr) (m : Nat) (o1 : AO) : Prop where
  e1 : nth hp1 m = some o1
  e2 : nth ad1 m = some p
  ow : ownsO p o = ownsO p o1
  ix : Ix js n l i m
  ok : ∀ X' : Addr → Prop, (∀ b, X' b → Xp G F0 ad1 hp1 b) → OR G h' (Xp G F0 ad1 hp1) ad1 p o1 → OR G h' X' adm p o
theorem mg_hk (H : HR G h F ad hp) (n : Nat) : ∀ j, n ≤ j → nth (ad ++ ad1.drop n) (hp.length + (j - n)) = nth ad1 j := fun j hj => by
  rw [← H.len, nth_append', nth_drop, Nat.add_sub_of_le hj]
/-- what stands where -/
theorem mg_at (H : HR G h F ad hp) (f : Fc F ad hp js os ad0 F0) (g : Go G [] F0 ad0 os h ad1 hp1 h') (nr : noRefs (hp1.take os.length) = true) (lo : os.length ≤ hp1.length) (sh : shiftH os.length hp.length (hp1.drop os.length) = some more)
    {i : Nat} {o : AO} {p : Addr × Addr} (e1 : nth (putAll js (hp1.take os.length) hp ++ more) i = some o) (e2 : nth (ad ++ ad1.drop os.length) i = some p) : (i ∉ js ∧ nth hp i = some o ∧ nth ad i = some p) ∨ ∃ m o1, Inn G h' F0 ad1 hp1 (ad ++ ad1.drop os.length) js os.length hp.length i o p m o1 := by
  have plen : (putAll js (hp1.take os.length) hp).length = hp.length := putAll_len
  rcases nth_append e1 with e1 | ⟨m, em, e1'⟩
  · have lt : i < hp.length := by rw [← plen]; exact nth_lt e1
    have ep : nth ad i = some p := (nth_append e2).elim id fun ⟨m, e, _⟩ => absurd lt (Nat.not_lt.mpr (by rw [e, H.len]; exact Nat.le_add_right _ _))
    rcases Decidable.em (i ∈ js) with ij | ij
    · obtain ⟨m, hm, em⟩ := List.mem_iff_getElem.mp ij
      have em : nth js m = some i := by rw [nth_eq, List.getElem?_eq_getElem hm, em]
      obtain ⟨p', o', q⟩ := f.at_ m i em
      have mlt : m < os.length := by rw [f.len]; exact hm
      obtain ⟨o2, eo2⟩ := nth_of_lt (l := hp1) (i := m) (Nat.lt_of_lt_of_le mlt lo)
      have z := nth_take' eo2 mlt
      have eo := Option.some.inj ((putAll_at (hp := hp) f.nodup em z q.e2).symm.trans e1)
      rw [eo] at eo2 z
      exact .inr ⟨m, o, eo2, (g.ext _ _ q.e3).trans (q.e1.symm.trans ep), rfl, .inl ⟨em, mlt⟩, fun X' s r => (refs_noneO (noRefs_at nr z) r).weaken s⟩
    · rw [putAll_other ij] at e1
      exact .inl ⟨ij, e1, ep⟩
  · obtain ⟨o1, a, b⟩ := shiftH_at sh e1'
    rw [nth_drop] at a
    rw [plen] at em
    rw [em, ← H.len, nth_append', nth_drop] at e2
    exact .inr ⟨os.length + m, o1, a, e2, shift_own b, .inr ⟨Nat.le_add_right _ _, by rw [em, Nat.add_sub_cancel_left]⟩, fun X' s r => shiftO_ok s (mg_hk H _) b r⟩
theorem mg_own (H : HR G h F ad hp) (f : Fc F ad hp js os ad0 F0) (g : Go G [] F0 ad0 os h ad1 hp1 h') (nr : noRefs (hp1.take os.length) = true) (lo : os.length ≤ hp1.length) (sh : shiftH os.length hp.length (hp1.drop os.length) = some more)
    {b : Addr} (ob : Own (ad ++ ad1.drop os.length) (putAll js (hp1.take os.length) hp ++ more) b) : b ∈ F0 ∧ Own ad hp b ∨ Own ad1 hp1 b := by
  obtain ⟨i, p, o, e1, e2, e3⟩ := ob
  rcases mg_at H f g nr lo sh e2 e1 with ⟨nj, a, c⟩ | ⟨m, o1, q⟩
  · exact .inl ⟨(f.guards b).mpr (.inr ⟨i, p, o, nj, c, a, e3⟩), i, p, o, c, a, e3⟩
  · exact .inr ⟨m, p, o1, q.e2, q.e1, q.ow ▸ e3⟩
structure MgR (G : Gnd) (h h' : Heap) (F F0 : List Addr) (ad : Ad) (hp : Hp) (ad1 : Ad) (hp1 : Hp) (n : Nat) (adm : Ad) (hpm : Hp) : Prop where
  hr : HR G h' F adm hpm
  go : Go G [] F ad hp h adm hpm h'
  sub : ∀ b, Xp G F adm hpm b → Xp G F0 ad1 hp1 b
  hk : ∀ j, n ≤ j → nth adm (hp.length + (j - n)) = nth ad1 j
theorem mg_go (H : HR G h F ad hp) (f : Fc F ad hp js os ad0 F0) (g : Go G [] F0 ad0 os h ad1 hp1 h') (nr : noRefs (hp1.take os.length) = true) (lo : os.length ≤ hp1.length) (sh : shiftH os.length hp.length (hp1.drop os.length) = some more) :
    Go G [] F ad hp h (ad ++ ad1.drop os.length) (putAll js (hp1.take os.length) hp ++ more) h' := by
  refine ⟨g.size, fun _ _ e => nth_app e, fun b ob => (mg_own H f g nr lo sh ob).elim (fun x => .inl x.2) fun x => (g.grow b x).imp f.own0 id, fun b o e no w => ?_⟩
  exact (g.keep b o e (fun x => no (f.own0 x)) w).imp id fun x => ⟨fun y => x.1 (y.elim .inl fun y => y.elim (fun y => .inr (.inl (f.FF b y))) fun y => absurd y no), x.2⟩
theorem merge (H : HR G h F ad hp) (fo : Foc G h F ad hp js os ad0 F0) (H1 : HR G h' F0 ad1 hp1) (g : Go G [] F0 ad0 os h ad1 hp1 h') (nr : noRefs (hp1.take os.length) = true) (lo : os.length ≤ hp1.length)
    (sh : shiftH os.length hp.length (hp1.drop os.length) = some more) :
    MgR G h h' F F0 ad hp ad1 hp1 os.length (ad ++ ad1.drop os.length) (putAll js (hp1.take os.length) hp ++ more) := by
  have f := fo.fc
  have own := fun {b : Addr} => mg_own (b := b) H f g nr lo sh
  have at_ := fun {i : Nat} {o : AO} {p : Addr × Addr} => mg_at (i := i) (o := o) (p := p) H f g nr lo sh
  have go := mg_go H f g nr lo sh
  have sub : ∀ b, Xp G F (ad ++ ad1.drop os.length) (putAll js (hp1.take os.length) hp ++ more) b → Xp G F0 ad1 hp1 b := fun b x =>
    x.elim .inl fun x => x.elim (fun x => .inr (.inl (f.FF b x))) fun x => (own x).elim (fun x => .inr (.inl x.1)) fun x => .inr (.inr x)
  have mixed : ∀ {i p o b m q o1}, i ∉ js → nth hp i = some o → nth ad i = some p → b ∈ ownsO p o → nth hp1 m = some o1 → nth ad1 m = some q → b ∈ ownsO q o1 → False := fun {i p o b m q o1} nj a c h1 a' c' h2 => (H1.lo b ⟨m, q, o1, c', a', h2⟩).2.2 ((f.guards b).mpr (.inr ⟨i, p, o, nj, c, a, h1⟩))
  refine ⟨⟨H1.base, H1.size, ?_, fun i o p e1 e2 => ?_, fun i j p q o o' b ne e1 e2 e3 e4 h1 h2 => ?_, fun b ob => ?_, fun b hb => ⟨(H.fr b hb).1, Nat.lt_of_lt_of_le (H.fr b hb).2 g.size⟩⟩, go, sub, mg_hk H _⟩
  · rw [List.length_append, List.length_append, putAll_len, shiftH_len sh, List.length_drop, List.length_drop, H.len, H1.len]
  · rcases at_ e1 e2 with ⟨nj, a, c⟩ | ⟨m, o1, q⟩
    · refine OR.stay (go.stay (F := F) nil_sub) (fun _ _ e => nth_app e) (fun b hb ob eb => ?_) (H.obj i o p a c)
      have b0 : b ∈ F0 := (f.guards b).mpr (.inr ⟨i, p, o, nj, c, a, hb⟩)
      exact (g.keep b ob eb (fun x => (fo.hr.lo b x).2.2 b0) fun z => nomatch z).elim id fun x => absurd (.inr (.inl b0)) x.1
    · exact q.ok _ sub (H1.obj m o1 p q.e1 q.e2)
  · rcases at_ e3 e1 with ⟨nj, a, c⟩ | ⟨m, o1, x⟩ <;> rcases at_ e4 e2 with ⟨nj', a', c'⟩ | ⟨m', o1', x'⟩
    · exact H.nd i j p q o o' b ne c c' a a' h1 h2
    · exact mixed nj a c h1 x'.e1 x'.e2 (x'.ow ▸ h2)
    · exact mixed nj' a' c' h2 x.e1 x.e2 (x.ow ▸ h1)
    · exact H1.nd m m' p q o1 o1' b (fun z => ne (x.ix.fn (z ▸ x'.ix))) x.e2 x'.e2 x.e1 x'.e1 (x.ow ▸ h1) (x'.ow ▸ h2)
  · rcases own ob with x | x
    · have lo := H.lo b x.2
      exact ⟨lo.1, Nat.lt_of_lt_of_le lo.2.1 g.size, lo.2.2⟩
    · have lo := H1.lo b x
      exact ⟨lo.1, lo.2.1, fun z => lo.2.2 (f.FF b z)⟩
end
end
end Mine
end
section
open PySem PySem.W PyProof.Rows PySem.Calls
set_option maxRecDepth 100000
namespace Mine

section
variable {G : Gnd} {glob : Str → Option Addr} {n : Nat} {ih : Ih} {A : Around} {E : Value → Shared → Prop} {s : Shared} {env : Env} {W W' F F0 F' : List Addr} {ad ad0 ad1 ad' : Ad} {hp hp' hp1 hp2 : Hp} {h h' h'' h1 : Heap} {sc : Sc} {loc loc' loc1 : Loc} {X X' : Addr → Prop}
variable {K : Frag} {fI : Addr}

theorem own_take {k : Nat} {b : Addr} (ob : Own (ad1.take k) (hp1.take k) b) : Own ad1 hp1 b := by
  obtain ⟨i, p, o, e1, e2, e3⟩ := ob
  exact ⟨i, p, o, (nth_take e1).1, (nth_take e2).1, e3⟩
theorem HR.drop (H : HR G h F ad1 hp1) {k : Nat} (nr : noRefs (hp1.take k) = true) : HR G h F (ad1.take k) (hp1.take k) :=
  have sub : ∀ b, Xp G F (ad1.take k) (hp1.take k) b → Xp G F ad1 hp1 b := fun b x => x.imp id fun y => y.imp id own_take
  ⟨H.base, H.size, by rw [List.length_take, List.length_take, H.len], fun i o p e1 e2 => (refs_noneO (noRefs_at nr e1) (H.obj i o p (nth_take e1).1 (nth_take e2).1)).weaken sub,
    fun i j p q o o' b ne e1 e2 e3 e4 h1 h2 => H.nd i j p q o o' b ne (nth_take e1).1 (nth_take e2).1 (nth_take e3).1 (nth_take e4).1 h1 h2, fun b ob => H.lo b (own_take ob), H.fr⟩
theorem len_le {js : List Nat} {os : List AO} (f : Foc G h F ad hp js os ad0 F0) (g : ∀ i p, nth ad0 i = some p → nth ad1 i = some p) (l1 : ad1.length = hp1.length) : os.length ≤ hp1.length := by
  rw [← f.hr.len, ← l1]
  refine Nat.le_of_not_lt fun z => ?_
  obtain ⟨p, ep⟩ := nth_of_lt z
  exact Nat.lt_irrefl _ (nth_lt (g _ _ ep))
section
variable {as : List RV} {os : List AO} {v1 rv : RV} {w : Value} {Q : Value → Shared → Prop} {tk1 : Nat}
theorem keep_ok (H : HR G s.heap F ad hp) (f : Foc G s.heap F ad hp (refsOf as) os ad0 F0) (H1 : HR G h1 F0 ad1 hp1) (g1 : Go G [] F0 ad0 os s.heap ad1 hp1 h1) (r1 : RVR G h1 (Xp G F0 ad1 hp1) ad1 v1 w) (q : PQ G s Q F ad hp rv hp') (e : cfKeep as hp os (v1, hp1) = some (rv, hp')) : Q w { s with heap := h1, toks := tk1 } :=
  gs e fun nr e => bs e fun v2 e3 e => me e fun more e4 e =>
    have M := merge H f H1 g1 nr (len_le f g1.ext H1.len) e4
    (q.at e) _ h1 tk1 w M.hr (shift1_ok M.sub M.hk e3 r1) M.go
theorem drop_ok (H : HR G s.heap F ad hp) (f : Foc G s.heap F ad hp (refsOf as) os ad0 F0) (H1 : HR G h1 F0 ad1 hp1) (g1 : Go G [] F0 ad0 os s.heap ad1 hp1 h1) (r1 : RVR G h1 (Xp G F0 ad1 hp1) ad1 v1 w) (q : PQ G s Q F ad hp rv hp') (e : cfDrop as hp os (v1, hp1) = some (rv, hp')) : Q w { s with heap := h1, toks := tk1 } :=
  bs2 e fun v2 hp2 e3 e => gs e fun ia e => gs e fun nr e => by
    have z := fzRes_ok H1 e3
    have g2 := Go.fz g1 z.own
    have g3 : Go G [] F0 ad0 os s.heap (ad1.take os.length) (hp2.take os.length) h1 :=
      ⟨g2.size, fun i p e => nth_take' (g2.ext i p e) (by have := nth_lt e; rw [f.hr.len] at this; exact this), fun b ob => g2.grow b (own_take ob), g2.keep⟩
    have tt : (hp2.take os.length).take os.length = hp2.take os.length := by rw [List.take_take, Nat.min_self]
    have dt : ∀ {α : Type} (l : List α), (l.take os.length).drop os.length = [] := fun l => by rw [List.drop_eq_nil_iff, List.length_take]; exact Nat.min_le_left _ _
    have M := merge (more := []) H f (z.hr.drop nr) g3 (by rw [tt]; exact nr) (by rw [List.length_take]; exact Nat.le_min.mpr ⟨Nat.le_refl _, len_le (hp1 := hp2) f g2.ext z.hr.len⟩) (by rw [dt]; rfl)
    rw [dt, List.append_nil, List.append_nil, tt] at M
    cases v2 with
    | r _ => exact ft ia
    | a v2 => exact (q.at e) ad h1 tk1 w M.hr (AR.weaken (fun b x => (M.sub b x).imp id fun x => x.imp id own_take) (z.val w r1)) M.go
end
theorem callFn_sound (I : SIh G glob n ih) {keep : Bool} {f : Str} {as : List RV} {rv : RV} (ee : callFn ih keep f as hp = some (rv, hp')) : ClAt G glob n f as hp rv hp' :=
  gs ee fun nd ee => bs ee fun os e1 ee => bs2 ee fun v1 hp1 e2 ee => by
    obtain ⟨fa, eg, k⟩ := I.cl e2
    refine ⟨fa, eg, fun A E F ad s vs Q rm H ra q => ?_⟩
    have f := focus H (nodupN_iff nd) e1
    refine k A E _ _ s vs Q rm f.hr (renum_ok f.fc.sub (fun m i e => ?_) ra) fun ad1 h1 tk1 w H1 r1 g1 => cs ee (fun _ ee => keep_ok H f H1 g1 r1 q ee) fun _ ee => drop_ok H f H1 g1 r1 q ee
    obtain ⟨p, o, x⟩ := f.fc.at_ m i e
    rw [Nat.zero_add]; exact x.e3.trans x.e1.symm
end
end Mine
end
section
open PySem PySem.W PyProof.Rows PySem.Calls
set_option maxRecDepth 100000
namespace Mine

/-- the class's own maker -/
noncomputable def initStmts (p : Fin 40 → Pos) (k : Fin 5 → Nat) : List Stmt :=
  [.Assign [.Attribute (.Name "self" (p 0)) "kind" (p 1)] (.Name "kind" (p 2)) (p 3),
   .Assign [.Attribute (.Name "self" (p 4)) "items" (p 5)] (.Name "items" (p 6)) (p 7),
   .Assign [.Attribute (.Name "self" (p 8)) "attrs" (p 9)] (.Name "attrs" (p 10)) (p 11),
   .Assign [.Attribute (.Name "self" (p 12)) "shared" (p 13)] (.Constant (.bool false) (k 0) (p 14)) (p 15),
   .Assign [.Attribute (.Name "self" (p 16)) "loose" (p 17)] (.Constant (.bool false) (k 1) (p 18)) (p 19)]
structure InitAt (G : Gnd) (fI : Addr) where
  o : Obj
  fd : FuncData
  at_ : G.h0.get? fI = some o
  data : o.data = .func fd
  p : Fin 40 → Pos
  k : Fin 5 → Nat
  body : fd.body = .stmts (initStmts p k)
  names : fd.scope.names = [(("self" : Str), NameKind.local), (("kind" : Str), NameKind.local), (("items" : Str), NameKind.local), (("attrs" : Str), NameKind.local)]
  clo : fd.closure = []
  co : fd.scope.isCoroutine = false
  gen : fd.scope.isGenerator = false
  kind : fd.scope.kind = .function
  code : G.h0.CodeRec fd.code fd.qualname
  lim : G.h0.NoLimit
  bind3 : ∀ (s : Shared) (a b c : Value), (∀ b o, G.h0.get? b = some o → s.heap.get? b = some o) → BindsTo s fd ⟨[a, b, c], []⟩ [("self", a), ("kind", b), ("items", c), ("attrs", .none)]
  bind4 : ∀ (s : Shared) (a b c d : Value), (∀ b o, G.h0.get? b = some o → s.heap.get? b = some o) → BindsTo s fd ⟨[a, b, c, d], []⟩ [("self", a), ("kind", b), ("items", c), ("attrs", d)]

section
variable {G : Gnd} {glob : Str → Option Addr} {n : Nat} {ih : Ih} {A : Around} {E : Value → Shared → Prop} {s : Shared} {env : Env} {W W' F F0 F' : List Addr} {ad ad0 ad1 ad' : Ad} {hp hp' hp1 hp2 : Hp} {h h' h'' : Heap} {sc : Sc} {loc loc' loc1 : Loc} {X X' : Addr → Prop}
variable {K : Frag} {fI : Addr}

theorem init_stmt (I : HI G K fI) (KX : K.In s.heap) {m : Str → Option Value} {x d : Addr} {es : List DictEntry} {n : Nat} {v : Value} {name : Str} {p0 p1 p2 : Pos} {e : Expr} {Q : Flow → Shared → Prop}
    (ek : env.scope.kind = .function) (kk : env.kindOf "self" = some .local) (ns : s.heap.Ns env.locals m) (ms : m "self" = some (.ref x)) (dL : env.locals ≠ d)
    (ev : ∀ (U : Value → Shared → Prop), (∀ tk, U v { s with toks := tk }) → wpAny (model G.prog G.w) A (eval e env) U E s) (hsw : swapsWithSole [.Attribute (.Name "self" p0) name p1] e p2.line env = pure false)
    (e1 : s.heap.get? x = some (instObj G.C d)) (e2 : s.heap.get? d = some (dictOf es n)) (hf : findIn K (.ref G.C) name = some none) (hk : ∀ en ∈ es, en.refKey = false) (sz : ∀ t, (putL name (PyData.keyHash G.w.params name) (.str name t) v es).length ≤ 1000)
    (q : ∀ h' tk t, Heap.SameBut d s.heap h' → h'.Ns env.locals m → h'.get? d = some (dictOf (putL name (PyData.keyHash G.w.params name) (.str name t) v es) (putN name es n)) → Q .next { s with heap := h', toks := tk }) :
    wpAny (model G.prog G.w) A (exec (.Assign [.Attribute (.Name "self" p0) name p1] e p2) env) Q E s := by
  refine wpAny_Assign_stores (ev _ fun tk => ?_) hsw rfl
  show wpAny _ _ (assign (.Attribute (.Name "self" p0) name p1) env v) _ _ _
  rw [arm_assign_Attribute]
  refine wpAny_bind (wpAny_holding (wpAny_Name (wpAny_loadName_local ek kk ns ms ?_)))
  refine wpAny_bind (wpAny_standAt (wpAny_bind (wpAny_holding ?_)))
  refine dict_set (s := { s with toks := tk }) I KX e1 e2 hf hk (sz _) fun tk2 h1 hs ed => wpAny_release ?_
  exact q h1 tk2 _ hs (ns.sameBut hs dL) ed

theorem vput_1 (P : Params) {vk : Value} {t1 : Tok} : putL "kind" (PyData.keyHash P "kind") (.str "kind" t1) vk [] = [kent P "kind" t1 vk] := by kernel_rfl
theorem vput_2 (P : Params) {vk vi : Value} {t1 t2 : Tok} : putL "items" (PyData.keyHash P "items") (.str "items" t2) vi [kent P "kind" t1 vk] = [kent P "kind" t1 vk, kent P "items" t2 vi] := by kernel_rfl
theorem vput_3 (P : Params) {vk vi va : Value} {t1 t2 t3 : Tok} : putL "attrs" (PyData.keyHash P "attrs") (.str "attrs" t3) va [kent P "kind" t1 vk, kent P "items" t2 vi] = [kent P "kind" t1 vk, kent P "items" t2 vi, kent P "attrs" t3 va] := by kernel_rfl
theorem vput_4 (P : Params) {vk vi va vs : Value} {t1 t2 t3 t4 : Tok} : putL "shared" (PyData.keyHash P "shared") (.str "shared" t4) vs [kent P "kind" t1 vk, kent P "items" t2 vi, kent P "attrs" t3 va] = [kent P "kind" t1 vk, kent P "items" t2 vi, kent P "attrs" t3 va, kent P "shared" t4 vs] := by kernel_rfl
theorem vput_5 (P : Params) {vk vi va vs vl : Value} {t1 t2 t3 t4 t5 : Tok} : putL "loose" (PyData.keyHash P "loose") (.str "loose" t5) vl [kent P "kind" t1 vk, kent P "items" t2 vi, kent P "attrs" t3 va, kent P "shared" t4 vs] = [kent P "kind" t1 vk, kent P "items" t2 vi, kent P "attrs" t3 va, kent P "shared" t4 vs, kent P "loose" t5 vl] := by kernel_rfl

structure VD.Is (D : VD) (k i a : Value) : Prop where
  k : D.k = k
  i : D.i = i
  a : D.a = a
/-- a new instance -/
structure Made (G : Gnd) (h h' : Heap) (vk vi va : Value) (x d : Addr) (D : VD) : Prop where
  kp : ∀ b o, h.get? b = some o → h'.get? b = some o
  fx : h.objs.size ≤ x
  fd : h.objs.size ≤ d
  ex : h'.get? x = some (instObj G.C d)
  ed : h'.get? d = some (D.obj G)
  is : D.Is vk vi va
theorem init_run (I : HI G K fI) (J : InitAt G fI) (KX : K.In s.heap) (kp : ∀ b o, G.h0.get? b = some o → s.heap.get? b = some o) {x d : Addr} {vk vi va : Value} {args : List Value} (hargs : args = [vk, vi] ∧ va = .none ∨ args = [vk, vi, va])
    (rm : A.depth < recursionLimit) (hne : x ≠ d) (hd : G.h0.objs.size ≤ d) (e1 : s.heap.get? x = some (instObj G.C d)) (e2 : s.heap.get? d = some (dictOf [] 0)) {R : Result → Shared → Prop}
    (q : ∀ h' tk D, (∀ b o, b ≠ d → s.heap.get? b = some o → h'.get? b = some o) → h'.get? d = some (VD.obj G D) → D.Is vk vi va → R (.ok (.ret .none)) { s with heap := h', toks := tk }) :
    codeAny (model G.prog G.w) A (.call (.ref fI) ⟨.ref x :: args, []⟩) R s := by
  have hb : BindsTo s J.fd ⟨.ref x :: args, []⟩ [("self", .ref x), ("kind", vk), ("items", vi), ("attrs", va)] := by
    rcases hargs with ⟨rfl, rfl⟩ | rfl
    · exact J.bind3 s _ _ _ kp
    · exact J.bind4 s _ _ _ _ kp
  refine codeAny_call_def (fd := J.fd) (body := initStmts J.p J.k) rm (kp _ _ J.at_) J.data (J.lim.keeps kp) (J.code.keeps kp) J.body hb ?_ ?_ (fun h1 ns k1 => ?_) J.co J.gen J.kind
  · rw [J.names]; intro y hy; simp only [List.mem_cons, List.not_mem_nil, or_false] at hy
    rcases hy with rfl | rfl | rfl | rfl <;> decide
  · rw [J.names]; intro y hy; simp only [List.mem_cons, List.not_mem_nil, or_false] at hy
    rcases hy with rfl | rfl | rfl | rfl <;> rfl
  · generalize hE : callEnv J.fd s.heap.objs.size fI = env
    have ek : env.scope.kind = .function := by subst hE; exact J.kind
    have kk : ∀ y, env.kindOf y = List.lookup y [(("self" : Str), NameKind.local), (("kind" : Str), NameKind.local), (("items" : Str), NameKind.local), (("attrs" : Str), NameKind.local)] := fun y => by
      subst hE; show J.fd.scope.names.lookup y = _; rw [J.names]
    have hL : env.locals = s.heap.objs.size := by subst hE; rfl
    have dL : env.locals ≠ d := by rw [hL]; exact Nat.ne_of_gt (Heap.lt_size e2)
    have kx : ∀ {g : Heap}, (∀ b o, b ≠ d → s.heap.get? b = some o → g.get? b = some o) → K.In g := fun k b o e => k b o (fun z => by
      have := Heap.lt_size (I.kin b o e)
      subst z
      exact absurd this (Nat.not_lt.mpr hd)) (KX b o e)
    have ms : ∀ y v, ([("self", Value.ref x), ("kind", vk), ("items", vi), ("attrs", va)] : List (Str × Value)).reverse.lookup y = some v → (fun y => ([("self", Value.ref x), ("kind", vk), ("items", vi), ("attrs", va)] : List (Str × Value)).reverse.lookup y) y = some v := fun _ _ e => e
    generalize hm : (fun y => ([("self", Value.ref x), ("kind", vk), ("items", vi), ("attrs", va)] : List (Str × Value)).reverse.lookup y) = m at ns ms
    rw [← hL] at ns
    have m0 : m "self" = some (.ref x) := by subst hm; rfl
    have m1 : m "kind" = some vk := by subst hm; rfl
    have m2 : m "items" = some vi := by subst hm; rfl
    have m3 : m "attrs" = some va := by subst hm; rfl
    have nm : ∀ {s : Shared} {y : Str} {v : Value} {pos : Pos}, (y == ("__debug__" : Str)) = false → env.kindOf y = some .local → s.heap.Ns env.locals m → m y = some v → ∀ (A : Around) (E U : Value → Shared → Prop), (∀ tk, U v { s with toks := tk }) → wpAny (model G.prog G.w) A (eval (.Name y pos) env) U E s :=
      fun nd k ns e A E U hu => wpAny_Name (wpAny_loadName_local ek k ns e (hu _)) nd
    have step : ∀ {a b : Heap}, Heap.SameBut d a b → (∀ b o, b ≠ d → s.heap.get? b = some o → a.get? b = some o) → ∀ c o, c ≠ d → s.heap.get? c = some o → b.get? c = some o := fun hs k c o hc e => (hs.2 c hc).trans (k c o hc e)
    have k1' : ∀ b o, b ≠ d → s.heap.get? b = some o → h1.get? b = some o := fun b o _ e => k1 b o e
    unfold initStmts
    refine wpAny_execs_cons (init_stmt (s := { s with heap := h1, toks := _ }) (v := vk) I (kx k1') ek (kk _) ns m0 dL (fun U hu => nm (by decide) (kk _) ns m1 _ _ U hu) rfl (k1 _ _ e1) (k1 _ _ e2) I.fk (fun _ h => nomatch h) (fun t => by rw [vput_1]; exact (by decide : 1 ≤ 1000)) fun h2 tk2 t1 hs2 ns2 ed2 => ?_)
    rw [vput_1] at ed2
    have k2 := step hs2 k1'
    dsimp only
    refine wpAny_execs_cons (init_stmt (s := { s with heap := h2, toks := tk2 }) (v := vi) I (kx k2) ek (kk _) ns2 m0 dL (fun U hu => nm (by decide) (kk _) ns2 m2 _ _ U hu) rfl (k2 _ _ hne e1) ed2 I.fi (fun en he => ?_) (fun t => by rw [vput_2]; exact (by decide : 2 ≤ 1000)) fun h3 tk3 t2 hs3 ns3 ed3 => ?_)
    · simp only [List.mem_cons, List.not_mem_nil, or_false] at he; rw [he]; rfl
    rw [vput_2] at ed3
    have k3 := step hs3 k2
    dsimp only
    refine wpAny_execs_cons (init_stmt (s := { s with heap := h3, toks := tk3 }) (v := va) I (kx k3) ek (kk _) ns3 m0 dL (fun U hu => nm (by decide) (kk _) ns3 m3 _ _ U hu) rfl (k3 _ _ hne e1) ed3 I.fa (fun en he => ?_) (fun t => by rw [vput_3]; exact (by decide : 3 ≤ 1000)) fun h4 tk4 t3 hs4 ns4 ed4 => ?_)
    · simp only [List.mem_cons, List.not_mem_nil, or_false] at he; rcases he with rfl | rfl <;> rfl
    rw [vput_3] at ed4
    have k4 := step hs4 k3
    dsimp only
    refine wpAny_execs_cons (init_stmt (s := { s with heap := h4, toks := tk4 }) (v := .bool false) I (kx k4) ek (kk _) ns4 m0 dL (fun U hu => wpAny_Constant_bool (hu _)) rfl (k4 _ _ hne e1) ed4 I.fs (fun en he => ?_) (fun t => by rw [vput_4]; exact (by decide : 4 ≤ 1000)) fun h5 tk5 t4 hs5 ns5 ed5 => ?_)
    · simp only [List.mem_cons, List.not_mem_nil, or_false] at he; rcases he with rfl | rfl | rfl <;> rfl
    rw [vput_4] at ed5
    have k5 := step hs5 k4
    dsimp only
    refine wpAny_execs_cons (init_stmt (s := { s with heap := h5, toks := tk5 }) (v := .bool false) I (kx k5) ek (kk _) ns5 m0 dL (fun U hu => wpAny_Constant_bool (hu _)) rfl (k5 _ _ hne e1) ed5 I.fl (fun en he => ?_) (fun t => by rw [vput_5]; exact (by decide : 5 ≤ 1000)) fun h6 tk6 t5 hs6 ns6 ed6 => ?_)
    · simp only [List.mem_cons, List.not_mem_nil, or_false] at he; rcases he with rfl | rfl | rfl | rfl <;> rfl
    rw [vput_5] at ed6
    exact wpAny_execs_nil (q h6 tk6 ⟨vk, vi, va, .bool false, .bool false, t1, t2, t3, t4, t5, _⟩ (step hs6 k5) ed6 ⟨rfl, rfl, rfl⟩)

theorem vec_make (I : HI G K fI) (J : InitAt G fI) (H : HR G s.heap F ad hp) {vk vi va : Value} {args : List Value} (hargs : args = [vk, vi] ∧ va = .none ∨ args = [vk, vi, va]) (rm : Room A 0) {Q : Value → Shared → Prop}
    (q : ∀ x d h' tk D, Made G s.heap h' vk vi va x d D → Q (.ref x) { s with heap := h', toks := tk }) :
    wpAny (model G.prog G.w) A (call (.ref G.C) args) Q E s := by
  have KX := I.here H
  refine wpAny_call ?_
  obtain ⟨hh, g, d, t, os⟩ := s
  refine make_core (makes_of KX I.mak) (looks_findIn KX I.ini) (fun self => bind_fn KX self I.ft) (.inl rfl) ?_
  have kk : ∀ b o, hh.get? b = some o → ((hh.push emptyDict).push (instObj G.C hh.objs.size)).get? b = some o := fun b o e => Heap.get?_push_of_some _ (Heap.get?_push_of_some _ e)
  have hx : ((hh.push emptyDict).push (instObj G.C hh.objs.size)).get? (hh.objs.size + 1) = some (instObj G.C hh.objs.size) := by heap_get
  have hd : ((hh.push emptyDict).push (instObj G.C hh.objs.size)).get? hh.objs.size = some (dictOf [] 0) := Heap.get?_push_of_some _ (Heap.get?_push_size _ rfl)
  refine init_run (s := ⟨_, g, d, t, os⟩) I J (fun b o e => kk b o (KX b o e)) (fun b o e => kk b o (H.base b o e)) hargs ?_ (Nat.succ_ne_self _) H.size hx hd fun h1 tk D k ed eD => ?_
  · have := rm.2.1
    have w : Code.weight (.builtin "type.__call__" ⟨.ref G.C :: args, []⟩) = 1 := rfl
    show A.depth + Code.weight _ < _
    rw [w]; (first | lia | omega)
  · exact ⟨rfl, q _ _ h1 tk D ⟨fun b o e => k b o (Nat.ne_of_lt (Heap.lt_size e)) (kk b o e), Nat.le_succ _, Nat.le_refl _, k _ _ (Nat.succ_ne_self _) hx, ed, eD⟩⟩
end
end Mine
end
section
open PySem PySem.W PyProof.Rows PySem.Calls
set_option maxRecDepth 100000
namespace Mine

/-- what is known of the ground -/
structure Env0 (G : Gnd) (K : Frag) (fI : Addr) (glob : Str → Option Addr) (mg mb : Str → Option Value) (cfg : Cfg) (N : Nat) : Prop where
  hv : HV G
  hi : HI G K fI
  ini : Nonempty (InitAt G fI)
  ns : G.h0.Ns mainGlobals mg
  nb : G.h0.Ns builtinsNs mb
  fn : ∀ f fa, glob f = some fa → mg f = some (.ref fa)
  kf : ∀ f fa, glob f = some fa → keepIn K (.ref fa) = true
  bl : ∀ f v, biV f = some v → mg f = none ∧ mb f = some v
  vec : mg "Vector" = some (.ref G.C)
  kv : keepIn K (.ref G.C) = true
  isi : mg "isinstance" = none ∧ mb "isinstance" = some (.builtin "isinstance")
  gf : ∀ f d, cfg.tab f = some d → ∃ fa, glob f = some fa ∧ Nonempty (FnAt G fa d)
  dip : cfg.dip = true → ∀ {as hp rv hp'}, dipI as hp = some (rv, hp') → ClAt G glob N "_law_dip" as hp rv hp'
  orcC : ∀ {f as v}, cfg.orcC f as = some v → ∀ hp, ClAt G glob N f as hp (.a v) hp
  orcE : ∀ {sc e loc v}, cfg.orcE sc e loc = some v → ∀ hp, EvAt G N sc loc hp e (.a v) hp
  orcS : ∀ {sc st loc hp q}, cfg.orcS sc st loc hp = some q → ExAt G N sc loc hp st .next q.1 q.2

section
variable {G : Gnd} {glob : Str → Option Addr} {n N : Nat} {ih : Ih} {A : Around} {E : Value → Shared → Prop} {s : Shared} {env : Env} {W W' F F0 F' : List Addr} {ad ad0 ad1 ad' : Ad} {hp hp' hp1 hp2 : Hp} {h h' h'' : Heap} {sc : Sc} {loc loc' loc1 : Loc} {X X' : Addr → Prop}
variable {K : Frag} {fI : Addr} {mg mb : Str → Option Value} {cfg : Cfg}

theorem ClAt.up {f : Str} {as : List RV} {rv : RV} {m : Nat} (c : ClAt G glob n f as hp rv hp') (h : n ≤ m) : ClAt G glob m f as hp rv hp' := by
  obtain ⟨fa, e, k⟩ := c
  exact ⟨fa, e, fun A E F ad s vs Q rm => k A E F ad s vs Q (rm.less h)⟩
theorem EvAt.up {e : Expr} {rv : RV} {m : Nat} (c : EvAt G n sc loc hp e rv hp') (h : n ≤ m) : EvAt G m sc loc hp e rv hp' :=
  fun A E env F ad s Q rm => c A E env F ad s Q (rm.less h)
theorem ExAt.up {st : Stmt} {fl : Flw} {m : Nat} (c : ExAt G n sc loc hp st fl loc' hp') (h : n ≤ m) : ExAt G m sc loc hp st fl loc' hp' :=
  fun A E env W F ad s Q rm => c A E env W F ad s Q (rm.less h)

/-- a name of the text or of the built-ins -/
noncomputable def NameV (mg mb : Str → Option Value) (f : Str) (v : Value) : Prop := mg f = some v ∨ mg f = none ∧ mb f = some v
theorem isGl_at {x : Str} (g : isGl sc x = true) : alook x sc = some .globalImplicit := by
  unfold isGl at g
  cases q : alook x sc with
  | none => rw [q] at g; exact ft g
  | some k =>
    rw [q] at g
    cases k with
    | globalImplicit => exact rfl
    | _ => exact ft g
theorem gname (Z : Env0 G K fI glob mg mb cfg N) (H : HR G s.heap F ad hp) (R : FRel G s.heap F ad hp env sc loc) {f : Str} {v : Value} (g : isGl sc f = true) (nv : NameV mg mb f v) {pos : Pos} {Q : Value → Shared → Prop} (q : Q v s) : wpAny (model G.prog G.w) A (eval (.Name f pos) env) Q E s := by
  have k := R.tyg f (isGl_at g)
  refine Calls.Name_function_global R.kind k ?_ (R.notDebug k).1
  have n1 : s.heap.Ns env.globals mg := by rw [R.glob]; exact Z.ns.keeps H.base
  exact nv.elim (fun e => Calls.loadGlobal_global n1 e q) fun e => Calls.loadGlobal_builtin n1 e.1 (by rw [R.bltn]; exact Z.nb.keeps H.base) e.2 q

noncomputable def Callee (K : Frag) (v : Value) : Prop := keepIn K v = true ∨ isB v
theorem call_name (Z : Env0 G K fI glob mg mb cfg N) (I : SIh G glob n ih) {f : Str} {v : Value} {fp pos : Pos} {args : List Expr} {rs : List RV} {rv : RV} (g : isGl sc f = true) (nv : NameV mg mb f v) (ck : Callee K v) (e : evArgs ih sc loc hp args = some (rs, hp1)) (rm : Room A n) (H : HR G s.heap F ad hp) (R : FRel G s.heap F ad hp env sc loc) {Q : Value → Shared → Prop}
    (w : ∀ ad' h' tk vs, HR G h' F ad' hp1 → RVRs G h' (Xp G F ad' hp1) ad' rs vs → PQ G { s with heap := h', toks := tk } Q F ad' hp1 rv hp' → wpAny (model G.prog G.w) A (call v vs) Q E { s with heap := h', toks := tk }) (q : PQ G s Q F ad hp rv hp') :
    wpAny (model G.prog G.w) A (eval (.Call (.Name f fp) args [] pos) env) Q E s := by
  refine PyProof.Rows.Call_Name rfl (gname Z H R g nv ?_)
  have p1 := any_false (args_plain (env := env) (pos := pos) e).1
  have fin : ∀ {P : Args → Shared → Prop}, (∀ ad' h' tk vs, HR G h' F ad' hp1 → wpAny (model G.prog G.w) A (call v vs) Q E { s with heap := h', toks := tk } → P ⟨vs, []⟩ { s with heap := h', toks := tk }) → wpAny (model G.prog G.w) A (evalArgs v true (backTo pos (starEach args env)) []) P E s := fun k =>
    args_eval I rm e H R fun ad1 h1 tk1 vs H1 R1 g1 r1 => k ad1 h1 tk1 vs H1 (w ad1 h1 tk1 vs H1 r1 (q.after g1))
  rcases ck with ck | ⟨id, rfl⟩ | ⟨t, rfl⟩
  · exact callWith_of (P := fun h => K.In h) (by rw [p1]; rfl) (keeps_K ck) (fin fun ad1 h1 tk1 vs H1 c => ⟨Z.hi.here H1, c⟩)
  · exact Calls.callWith_builtin p1 (fin fun ad1 h1 tk1 vs H1 c => c)
  · exact PySem.callWith_type p1 (fin fun ad1 h1 tk1 vs H1 c => c)

theorem mkVec_at (I : HI G K fI) (J : InitAt G fI) (H : HR G s.heap F ad hp) {own : Bool} {k i a rv : RV} {vk vi va : Value} {args : List Value} (e : mkVec own k i a hp = some (rv, hp')) (hargs : args = [vk, vi] ∧ va = .none ∨ args = [vk, vi, va]) (rm : Room A 0)
    (rk : RVR G s.heap (Xp G F ad hp) ad k vk) (ri : RVR G s.heap (Xp G F ad hp) ad i vi) (ra : RVR G s.heap (Xp G F ad hp) ad a va) {Q : Value → Shared → Prop} (q : PQ G s Q F ad hp rv hp') : wpAny (model G.prog G.w) A (call (.ref G.C) args) Q E s := by
  refine with_hz (vec_make I J H hargs rm fun x d h1 tk D M hz => ?_)
  rw [← M.is.k] at rk
  rw [← M.is.i] at ri
  rw [← M.is.a] at ra
  refine cs e (fun _ e => ?_) fun _ e => bs e fun k' e1 e => bs e fun i' e2 e => me e fun a' e3 e => ?_
  · have fo : ∀ b : Nat, b ∈ ownsO (x, d) (.inst k i a) → s.heap.objs.size ≤ b ∧ b < h1.objs.size := fun b hb =>
      (List.mem_cons.mp hb).elim (fun z => by rw [z]; exact ⟨M.fx, Heap.lt_size M.ex⟩) fun hb => by rw [List.mem_singleton.mp hb]; exact ⟨M.fd, Heap.lt_size M.ed⟩
    have g : Go G [] F ad hp s.heap (ad ++ [(x, d)]) (hp ++ [.inst k i a]) h1 := Go.add H M.kp hz fun b hb => (fo b hb).1
    refine (q.at e) _ h1 tk _ (H.add M.kp hz fo ⟨D, M.ex, M.ed, rk.go g nil_sub, ri.go g nil_sub, ra.go g nil_sub⟩) ⟨(x, d), ?_, rfl⟩ g
    rw [← H.len]; exact nth_snoc
  · have S := (Go.ofKeep (G := G) (W := []) (F := F) (ad := ad) (hp := hp) M.kp hz).stay nil_sub
    exact (q.at e).keep H M.kp hz (.vec M.ex M.ed (fun y => H.fresh M.fx y) (fun y => H.fresh M.fd y) (AR.stay S (rk.ofA e1)) (AR.stay S (ri.ofA e2)) (AR.stay S (ra.ofA e3))) tk

theorem vecI_sound (I : HI G K fI) (J : InitAt G fI) (H : HR G s.heap F ad hp) {own : Bool} {as : List RV} {rv : RV} {vs : List Value} (e : vecI own as hp = some (rv, hp')) (rm : Room A 0) (r : RVRs G s.heap (Xp G F ad hp) ad as vs) {Q : Value → Shared → Prop} (q : PQ G s Q F ad hp rv hp') : wpAny (model G.prog G.w) A (call (.ref G.C) vs) Q E s :=
  os e (fun e => bs e fun p e1 e => RVRs.two e1 r fun w u r1 r2 => mkVec_at I J H e (.inl ⟨rfl, rfl⟩) rm r1 r2 AR.none q) fun e => bs e fun p e1 e => RVRs.three e1 r fun w u t r1 r2 r3 => mkVec_at I J H e (.inr rfl) rm r1 r2 r3 q

theorem instI_sound (I : HI G K fI) (H : HR G s.heap F ad hp) {v rv : RV} {w : Value} (e : instI v hp = some (rv, hp')) (r : RVR G s.heap (Xp G F ad hp) ad v w) {Q : Value → Shared → Prop} (q : PQ G s Q F ad hp rv hp') : wpAny (model G.prog G.w) A (call (.builtin "isinstance") [w, .ref G.C]) Q E s :=
  me e fun p e0 e => fieldsE (P := fun w => wpAny (model G.prog G.w) A (call (.builtin "isinstance") [w, .ref G.C]) Q E s) H (k := p.1) (i := p.2.1) (a := p.2.2) e0 r fun x d D R =>
    isi_call (t := .ref G.C) (I.here H) (fun M => (Looks.ld (part := none) R.e).andThen .now) (by unfold isIn; simp) (fun z => nomatch z) ((q.at e).here H (.bool true) s.toks)

/-- a call of a name's value -/
structure CallR (G : Gnd) (K : Frag) (mg mb : Str → Option Value) (n : Nat) (f : Str) (as : List RV) (hp : Hp) (rv : RV) (hp' : Hp) (v : Value) : Prop where
  nv : NameV mg mb f v
  ck : Callee K v
  k : ∀ (A : Around) (E : Value → Shared → Prop) (F : List Addr) (ad : Ad) (s : Shared) (vs : List Value) (Q : Value → Shared → Prop), Room A n → HR G s.heap F ad hp → RVRs G s.heap (Xp G F ad hp) ad as vs → PQ G s Q F ad hp rv hp' → wpAny (model G.prog G.w) A (call v vs) Q E s
theorem callN_cl (Z : Env0 G K fI glob mg mb cfg N) {f : Str} {as : List RV} {rv : RV} {m : Nat} (c : ClAt G glob m f as hp rv hp') (le : m ≤ n) : ∃ v, CallR G K mg mb n f as hp rv hp' v := by
  obtain ⟨fa, e, k⟩ := c
  exact ⟨.ref fa, .inl (Z.fn f fa e), .inl (Z.kf f fa e), fun A E F ad s vs Q rm => k A E F ad s vs Q (rm.less le)⟩
theorem callN_sound (Z : Env0 G K fI glob mg mb cfg N) (I : SIh G glob n ih) (nN : N ≤ n) {pos : Pos} {f : Str} {as : List RV} {rv : RV} (e : callN cfg ih pos f as hp = some (rv, hp')) : ∃ v, CallR G K mg mb n f as hp rv hp' v := by
  refine cs e (fun z e => ?_) fun _ e => cs e (fun z e => ?_) fun _ e => os e (fun e => ?_) fun e => os e (fun e => ?_) fun e => callN_cl Z (callFn_sound I e) (Nat.le_refl _)
  · obtain ⟨J⟩ := Z.ini
    rw [isS_true z]
    exact ⟨_, .inl Z.vec, .inl Z.kv, fun A E F ad s vs Q rm H r q => vecI_sound Z.hi J H e rm.zero r q⟩
  · rw [isS_true z]
    exact gs e fun zd e => callN_cl Z (Z.dip zd e) nN
  · exact me e fun v eo e => callN_cl Z ((Z.orcC eo hp).at e) nN
  · obtain ⟨v, e1, e2⟩ := bcall_v e
    refine ⟨v, .inr (Z.bl f v e1), .inr e2, fun A E F ad s vs Q rm H r q => ?_⟩
    obtain ⟨v', e1', w⟩ := bcall_sound (E := E) (A := A) H rm.1 Z.hv.sx e r q
    exact Option.some.inj (e1'.symm.trans e1) ▸ w
end
end Mine
end
section
open PySem PySem.W PyProof.Rows PySem.Calls
set_option maxRecDepth 100000
namespace Mine

section
variable {G : Gnd} {glob : Str → Option Addr} {n N : Nat} {ih : Ih} {A : Around} {E : Value → Shared → Prop} {s : Shared} {env : Env} {W W' F F0 F' : List Addr} {ad ad0 ad1 ad' : Ad} {hp hp' hp1 hp2 : Hp} {h h' h'' : Heap} {sc : Sc} {loc loc' loc1 : Loc} {X X' : Addr → Prop}
variable {K : Frag} {fI : Addr} {mg mb : Str → Option Value} {cfg : Cfg}

theorem isinst_sound (Z : Env0 G K fI glob mg mb cfg N) (I : SIh G glob n ih) {fp cp pos : Pos} {e : Expr} {rv : RV} (g : isGl sc "isinstance" = true) (g' : isGl sc "Vector" = true) (ns : noStar e = true) (ee : ((ih.ev sc loc hp e).bind fun q => instI q.1 q.2) = some (rv, hp')) :
    EvAt G n sc loc hp (.Call (.Name "isinstance" fp) [e, .Name "Vector" cp] [] pos) rv hp' :=
  bs2 ee fun v hp1 e1 e2 A E env F ad s Q rm H R q => by
    have sh : backTo pos (starEach [e, .Name "Vector" cp] env) = [(false, eval e env), (false, eval (.Name "Vector" cp) env)] := by rw [starEach_cons ns]; rfl
    refine PyProof.Rows.Call_Name sh (gname Z H R g (.inr Z.isi) ?_)
    refine Calls.callWith_builtin rfl (Calls.evalArgs_plain (Calls.spliced_cons (I.one e1 rm H R fun ad1 h1 tk1 v1 H1 R1 g1 r1 => Calls.spliced_cons (gname (s := { s with heap := h1, toks := tk1 }) Z H1 R1 g' (.inl Z.vec) (Calls.spliced_nil ?_)))))
    exact instI_sound (s := { s with heap := h1, toks := tk1 }) Z.hi H1 e2 r1 (q.after g1)
theorem call_sound (Z : Env0 G K fI glob mg mb cfg N) (I : SIh G glob n ih) (nN : N ≤ n) {f : Expr} {args : List Expr} {kws : List Keyword} {pos : Pos} {rv : RV} (ee : gd kws.isEmpty (evCall cfg ih sc loc hp f args pos) = some (rv, hp')) : EvAt G n sc loc hp (.Call f args kws pos) rv hp' :=
  gs ee fun ek ee => by
    rw [List.isEmpty_iff.mp ek]
    cases f with
    | Attribute o m apos => exact gs ee fun e1 ee => gs ee fun e2 ee => gs ee fun e3 ee => method_sound I Z.hv e1 e2 (Nat.le_of_ble_eq_true e3) ee
    | Name f fp =>
      refine os ee (fun ee => me ee fun v eo ee => ((Z.orcE eo hp).up nN).at ee) fun ee => gs ee fun eg ee => cs ee (fun z ee => bs ee fun a e1 ee => bs ee fun c e2 ee => gs ee fun z' ee => gs ee fun g' ee => gs ee fun ns ee => ?_) fun _ ee => bs2 ee fun rs hp1 e1 e2 => ?_
      · rw [isS_true z] at eg ⊢
        rw [isS_true z'] at g' e2
        exact twoE (a := a.1) (b := a.2) (P := fun args => EvAt G n sc loc hp (.Call (.Name "isinstance" fp) args [] pos) rv hp') e1 (nameE (P := fun e => EvAt G n sc loc hp (.Call (.Name "isinstance" fp) [a.1, e] [] pos) rv hp') e2 fun cp => isinst_sound Z I eg g' ns ee)
      · obtain ⟨v, C⟩ := callN_sound Z I nN e2
        exact fun A E env F ad s Q rm H R q => call_name Z I eg C.nv C.ck e1 rm H R (fun ad1 h1 tk1 vs H1 r1 q1 => C.k A E F ad1 { s with heap := h1, toks := tk1 } vs Q rm H1 r1 q1) q
    | _ => exact nn ee

theorem ifexp_sound (Z : Env0 G K fI glob mg mb cfg N) (I : SIh G glob n ih) (nN : N ≤ n) {t b o : Expr} {pos : Pos} {rv : RV} (ee : ((cfg.orcE sc (.IfExp t b o pos) loc).map fun v => (RV.a v, hp)).or (evIf ih sc loc hp t b o) = some (rv, hp')) : EvAt G n sc loc hp (.IfExp t b o pos) rv hp' :=
  os ee (fun ee => me ee fun v eo ee => ((Z.orcE eo hp).up nN).at ee) fun ee => bs2 ee fun c hp1 e1 e2 A E env F ad s Q rm H R q =>
    wpAny_IfExp (I.tr e1 A E env F ad s _ rm H R fun ad1 h1 tk1 H1 g1 => by
      have go : ∀ e, ih.ev sc loc hp1 e = some (rv, hp') → wpAny (model G.prog G.w) A (eval e env) Q E { s with heap := h1, toks := tk1 } := fun e e2 => I.ev e2 A E env F ad1 { s with heap := h1, toks := tk1 } Q rm H1 (R.go H g1) (q.after g1)
      cases c
      · exact go o e2
      · exact go b e2)
theorem binop_arm (Z : Env0 G K fI glob mg mb cfg N) (I : SIh G glob n ih) (nN : N ≤ n) {l r : Expr} {op : Operator} {pos : Pos} {rv : RV} (ee : ((cfg.orcE sc (.BinOp l op r pos) loc).map fun v => (RV.a v, hp)).or (evBin ih sc loc hp l op r) = some (rv, hp')) : EvAt G n sc loc hp (.BinOp l op r pos) rv hp' :=
  os ee (fun ee => me ee fun v eo ee => ((Z.orcE eo hp).up nN).at ee) fun ee => bin_plain I ee
end
end Mine
end
section
open PySem PySem.W PyProof.Rows PySem.Calls
set_option maxRecDepth 100000
namespace Mine

section
variable {G : Gnd} {glob : Str → Option Addr} {n N : Nat} {ih : Ih} {A : Around} {E : Value → Shared → Prop} {s : Shared} {env : Env} {W W' F F0 F' T : List Addr} {ad ad0 ad1 ad' : Ad} {hp hp' hp1 hp2 : Hp} {h h' h'' : Heap} {sc : Sc} {loc loc' loc0 loc1 : Loc} {X X' : Addr → Prop}
variable {K : Frag} {fI : Addr} {mg mb : Str → Option Value} {cfg : Cfg}

/-- a frame moves -/
theorem FRel.to (R : FRel G h F ad hp env sc loc) (lT : env.locals ∈ T) (kl : ∀ o, h.get? env.locals = some o → h'.get? env.locals = some o) (kc : ∀ x c, env.cells.lookup x = some c → (env.kindOf x = some .cell ∨ env.kindOf x = some .free) → c ∈ T ∧ ∀ o, h.get? c = some o → h'.get? c = some o)
    (st : ∀ rv v, RVR G h (Xp G F ad hp) ad rv v → RVR G h' (Xp G T ad' hp') ad' rv v) : FRel G h' T ad' hp' env sc loc := by
  obtain ⟨m, ns, f⟩ := R.ns
  refine ⟨R.kind, R.glob, R.bltn, R.tyl, R.tyc, R.tyf, R.tyg, R.nodbg, R.kinds, ⟨m, nsAt0 ns kl, fun x rv e l => Exists.elim (f x rv e l) fun v q => ⟨v, q.1, st _ _ q.2⟩⟩, fun x l => ?_, R.inj, lT⟩
  obtain ⟨c, cv, e1, e2, e3, e4, e5⟩ := R.cell x l
  have k := kc x c e1 l
  exact ⟨c, cv, e1, cellAt0 e2 k.2, k.1, e4, fun rv e => Exists.elim (e5 rv e) fun v q => ⟨v, q.1, st _ _ q.2⟩⟩
theorem FRel.cF (R : FRel G h F ad hp env sc loc) (x : Str) (c : Addr) (e : env.cells.lookup x = some c) (l : env.kindOf x = some .cell ∨ env.kindOf x = some .free) : c ∈ F := by
  obtain ⟨c', cv, e1, _, e3, _⟩ := R.cell x l
  exact Option.some.inj (e1.symm.trans e) ▸ e3

theorem wrk_stay {d : Addr} (hd : d ∈ F) (k : ∀ b o, b ≠ d → h.get? b = some o → h'.get? b = some o) : Stay G h h' (Xp G F ad hp) (Xp G F ad hp) :=
  ⟨fun b o e x => .inl (k b o (fun z => x (.inr (.inl (z ▸ hd)))) e), fun _ _ _ x => x⟩
theorem HR.wrk (H : HR G h F ad hp) {d : Addr} (hd : d ∈ F) (k : ∀ b o, b ≠ d → h.get? b = some o → h'.get? b = some o) (z : h.objs.size ≤ h'.objs.size) : HR G h' F ad hp :=
  ⟨fun b o e => k b o (fun q => Nat.not_lt.mpr (H.fr b (q ▸ hd)).1 (Heap.lt_size e)) (H.base b o e), Nat.le_trans H.size z, H.len, fun i o p e ep => OR.stay (wrk_stay hd k) (fun _ _ e => e) (fun b hb ob eb => k b ob (fun q => (H.lo b ⟨i, p, o, ep, e, hb⟩).2.2 (q ▸ hd)) eb) (H.obj i o p e ep), H.nd,
    fun b q => ⟨(H.lo b q).1, Nat.lt_of_lt_of_le (H.lo b q).2.1 z, (H.lo b q).2.2⟩, fun b q => ⟨(H.fr b q).1, Nat.lt_of_lt_of_le (H.fr b q).2 z⟩⟩
theorem Go.wrk {d : Addr} (hd : d ∈ W) (k : ∀ b o, b ≠ d → h.get? b = some o → h'.get? b = some o) (z : h.objs.size ≤ h'.objs.size) : Go G W F ad hp h ad hp h' :=
  ⟨z, fun _ _ e => e, fun _ q => .inl q, fun b o e _ w => .inl (k b o (fun q => w (q ▸ hd)) e)⟩
theorem FRel.wrk (R : FRel G h F ad hp env sc loc) {d : Addr} (hd : d ∈ F) (k : ∀ b o, b ≠ d → h.get? b = some o → h'.get? b = some o) (dl : d ≠ env.locals) (dc : ∀ x c, env.cells.lookup x = some c → d ≠ c) : FRel G h' F ad hp env sc loc :=
  R.to R.locF (fun o e => k _ o (Ne.symm dl) e) (fun x c ec l => ⟨R.cF x c ec l, fun o e => k _ o (Ne.symm (dc x c ec)) e⟩) fun _ _ r => r.stay (wrk_stay hd k) fun _ _ e => e
theorem FRel.less (R : FRel G h F' ad hp env sc loc) (R0 : FRel G h'' F ad1 hp1 env sc loc0) (k : ∀ b ∈ F, b ∈ F') : FRel G h F ad hp env sc loc :=
  R.to R0.locF (fun _ e => e) (fun x c ec l => ⟨R0.cF x c ec l, fun _ e => e⟩) fun _ _ r => r.weaken fun _ => Xp.less k

noncomputable def Feet (G : Gnd) (h : Heap) (X : Addr → Prop) (fp : List Addr) (I : Addr) : Prop := ∀ b ∈ fp, b ≠ I → ∃ o, h.get? b = some o ∧ ¬ X b ∧ ∀ g, ¬ Flag G o g b
theorem Feet.stay {fp : List Addr} {I : Addr} (f : Feet G h X fp I) (S : Stay G h h' X X') : Feet G h' X' fp I := fun b hb ne =>
  Exists.elim (f b hb ne) fun o q => ⟨o, (S.keep b o q.1 q.2.1).elim id fun z => absurd z (q.2.2 _), S.non b o q.1 q.2.1, q.2.2⟩
structure ItR (G : Gnd) (A : Around) (h0 : Heap) (X : Addr → Prop) (l : List AV) (I : Addr) where
  fp : List Addr
  P : Nat → Value → Prop
  St : Nat → Heap → Prop
  W : Walks G.prog G.w A I fp [I] l.length P St
  vals : ∀ i v, P i v → ∀ x, nth l i = some x → AR G h0 X x v
  feet : Feet G h0 X fp I
theorem nth_get {α : Type} {l : List α} {i : Nat} {x : α} (e : nth l i = some x) : l[i]? = some x := by rw [← nth_eq]; exact e
noncomputable def OpQ (G : Gnd) (A : Around) (s : Shared) (X : Addr → Prop) (l : List AV) (Q : Value → Shared → Prop) : Prop := ∀ (io : Obj) (It : ItR G A s.heap X l s.heap.objs.size), It.St 0 (s.heap.push io) → Q (.ref s.heap.objs.size) { s with heap := s.heap.push io }
theorem feet_two {a I : Addr} {o : Obj} (eo : h.get? a = some o) (xx : ¬ X a) (nf : ∀ g, ¬ Flag G o g a) : Feet G h X [I, a] I := fun b hb nb =>
  (List.mem_cons.mp hb).elim (fun z => absurd z nb) fun hb => by rw [List.mem_singleton.mp hb]; exact ⟨o, eo, xx, nf⟩
theorem feet_two' {a I : Addr} {o : Obj} (eo : h.get? a = some o) (xx : ¬ X a) (nf : o.cls ≠ .type "dict") : Feet G h X [I, a] I := feet_two eo xx fun _ f => nf f.dict
section
variable {v : Value} {l : List AV} {Q : Value → Shared → Prop}
theorem all2_get {vs : List Value} {i : Nat} {v : Value} {x : AV} (rl : ARs G h X l vs) (p : vs.toArray[i]? = some v) (ex : nth l i = some x) : AR G h X x v := by
  obtain ⟨v2, f1, f2⟩ := All2.at rl ex
  rw [List.getElem?_toArray, f1] at p
  exact Option.some.inj p ▸ f2
theorem it_list (hh : A.handled = none) (r : AR G s.heap X (.lst l) v) (q : OpQ G A s X l Q) : wpAny (model G.prog G.w) A (pyIter v) Q E s :=
  r.lstE fun a vs m D => by
    have hne : a ≠ s.heap.objs.size := Nat.ne_of_lt (Heap.lt_size D.e)
    have en : vs.toArray.size = l.length := (All2.len D.r).symm
    exact wpAny_pyIter_list ⟨_, D.e, rfl, _, rfl⟩ (q _ ⟨_, _, _, en ▸ Walks.list hh s.heap.objs.size a hne vs.toArray, fun i v' p x ex => all2_get D.r p ex, feet_two' D.e D.x ne_lst⟩ ⟨⟨_, Heap.get?_push_size _ rfl, rfl, rfl⟩, ⟨_, Heap.get?_push_of_some _ D.e, rfl, _, rfl⟩⟩)
theorem it_tup (hh : A.handled = none) (r : AR G s.heap X (.tup l) v) (q : OpQ G A s X l Q) : wpAny (model G.prog G.w) A (pyIter v) Q E s :=
  r.tupE fun a vs m D => by
    have hne : a ≠ s.heap.objs.size := Nat.ne_of_lt (Heap.lt_size D.e)
    have en : vs.toArray.size = l.length := (All2.len D.r).symm
    exact wpAny_pyIter_tuple ⟨_, D.e, rfl, _, rfl⟩ (q _ ⟨_, _, _, en ▸ Walks.tuple hh s.heap.objs.size a hne vs.toArray, fun i v' p x ex => all2_get D.r p ex, feet_two' D.e D.x ne_tup⟩ ⟨⟨_, Heap.get?_push_size _ rfl, rfl, rfl⟩, ⟨_, Heap.get?_push_of_some _ D.e, rfl, _, rfl⟩⟩)
theorem it_rng (hh : A.handled = none) {a b : Int} (sa : small a = true) (sb : small b = true) (r : AR G s.heap X (.rng a b) v) (q : OpQ G A s X (intsFrom a (b - a).toNat) Q) : wpAny (model G.prog G.w) A (pyIter v) Q E s :=
  r.rngE fun rr t u w ir xx => by
    have en : (b - a).toNat = (intsFrom a (b - a).toNat).length := (intsFrom_len _ _).symm
    refine wpAny_pyIter_range ir (range_small sa sb) (q _ ⟨_, _, _, en ▸ Walks.range hh s.heap.objs.size a 1 (b - a).toNat, fun i v' p x ex => ?_, fun b hb nb => absurd (List.mem_singleton.mp hb) nb⟩ ?_)
    · obtain ⟨t, rfl⟩ := p
      have lt : i < (b - a).toNat := by have := nth_lt ex; rwa [intsFrom_len] at this
      have := nth_get ex
      rw [intsFrom_get _ _ _ lt] at this
      rw [← Option.some.inj this, Int.mul_one]; exact .int _ _
    · show IsRangeIter _ _ _ _ _
      rw [range_size]
      have := Heap.get?_push_size s.heap (o := { cls := .type "range_iterator", data := .fields #[rawInt a, rawInt ((b - a).toNat : Nat), rawInt 1] }) rfl
      rw [intsFrom_len]
      simpa using this
theorem it_dct (hh : A.handled = none) (sx : SX G) {ld : List (Str × AV)} (r : AR G s.heap (Xp G F ad hp) (.dct ld) v) (q : OpQ G A s (Xp G F ad hp) (ld.map fun p => .str p.1) Q) : wpAny (model G.prog G.w) A (pyIter v) Q E s :=
  r.dctE fun a es m D => by
    obtain ⟨kvs, d1, d2⟩ := dict_av D.e D.r D.nd
    obtain ⟨ep, d3⟩ := d1.dictAt
    have hne : a ≠ s.heap.objs.size := Nat.ne_of_lt (Heap.lt_size D.e)
    have en : kvs.length = (ld.map fun p => AV.str p.1).length := by rw [List.length_map, ← List.length_map (f := fun p : Str × Value => p.1), d2, List.length_map]
    refine wpAny_pyIter_dict (sx.hi D.x) d3 (q _ ⟨_, _, _, en ▸ Walks.dictKeys (knd := PySem.strKind G.prog G.w) hh s.heap.objs.size a hne kvs ep, fun i v' p x ex => ?_, feet_two D.e D.x fun g => dict_flag D.z D.r⟩ ⟨⟨_, Heap.get?_push_size _ rfl, rfl, by rw [← en]; rfl⟩, d3.push _⟩)
    obtain ⟨k, y, f1, f2⟩ := p
    rw [nth_map] at ex
    refine ms (P := fun x => AR G s.heap (Xp G F ad hp) x v') ex fun w f3 => ?_
    have f4 : (kvs.map (·.1))[i]? = some k := by rw [List.getElem?_map, f1]; rfl
    rw [d2, List.getElem?_map, nth_get f3] at f4
    obtain ⟨t, ht⟩ := Value.isStrOf_shape f2
    rw [ht, ← (Option.some.inj f4 : w.1 = k)]
    exact .str _ _
end
theorem iter_open (hh : A.handled = none) (sx : SX G) {rv : RV} {v : Value} {l : List AV} (e : iterOf rv = some l) (r : RVR G s.heap (Xp G F ad hp) ad rv v) {Q : Value → Shared → Prop}
    (q : OpQ G A s (Xp G F ad hp) l Q) : wpAny (model G.prog G.w) A (pyIter v) Q E s :=
  bs e fun x e1 e => by
    have r := r.ofA e1
    cases x with
    | lst l' => exact it_list hh r (Option.some.inj e ▸ q)
    | tup l' => exact it_tup hh r (Option.some.inj e ▸ q)
    | dct l' => exact it_dct hh sx r (Option.some.inj e ▸ q)
    | rng a b => exact gs e fun sa e => gs e fun sb e => it_rng hh sa sb r (Option.some.inj e ▸ q)
    | _ => exact nn e
end
end Mine
end
section
open PySem PySem.W PyProof.Rows PySem.Calls
set_option maxRecDepth 100000
namespace Mine

section
variable {G : Gnd} {glob : Str → Option Addr} {n N : Nat} {ih : Ih} {A : Around} {E : Value → Shared → Prop} {s : Shared} {env : Env} {W W' F F0 F' : List Addr} {ad ad0 ad1 ad3 ad6 ad' : Ad} {hp hp' hp1 hp2 hp3 hp6 : Hp} {h h' h'' h0 h1 h3 h4 h6 : Heap} {sc : Sc} {loc loc' loc0 loc1 loc3 : Loc} {X X' : Addr → Prop}
variable {K : Frag} {fI : Addr} {mg mb : Str → Option Value} {cfg : Cfg} {Q : Flow → Shared → Prop}

theorem XQ.at {fl fl' : Flw} {loc'' : Loc} {hp'' : Hp} (q : XQ G s Q W F ad hp env sc fl loc' hp') (e : some (fl', loc'', hp'') = some (fl, loc', hp')) : XQ G s Q W F ad hp env sc fl' loc'' hp'' := sp3 (P := fun fl loc' hp' => XQ G s Q W F ad hp env sc fl loc' hp' → XQ G s Q W F ad hp env sc fl' loc'' hp'') e id q
theorem WR.more (wr : WR W F env) (k : ∀ b ∈ F, b ∈ F') : WR W F' env := ⟨fun b hb => k b (wr.sub b hb), wr.loc, wr.cell⟩
theorem drop_cons {α : Type} {l : List α} {i : Nat} {x : α} {r : List α} (e : l.drop i = x :: r) : nth l i = some x ∧ l.drop (i + 1) = r ∧ i < l.length := by
  have e0 : (l.drop i)[0]? = some x := by rw [e]; rfl
  rw [List.getElem?_drop, Nat.add_zero] at e0
  exact ⟨by rw [nth_eq]; exact e0, by rw [← List.drop_drop, e]; rfl, (List.getElem?_eq_some_iff.mp e0).1⟩
theorem FlR.weaken {fl : Flw} {f : Flow} (r : FlR G h F' ad hp fl f) (k : ∀ b ∈ F, b ∈ F') : FlR G h F ad hp fl f := by
  cases fl with
  | next => exact r
  | ret w => exact Exists.elim r fun u q => ⟨u, q.1, q.2.weaken fun b => Xp.less k⟩

/-- the state of a walk: the walker is guarded, the thing walked is still there -/
structure Mid (G : Gnd) (W F : List Addr) (I : Addr) (ad : Ad) (hp : Hp) (h0 : Heap) (fp : List Addr) (ad' : Ad) (hp' : Hp) (h' : Heap) : Prop where
  hr : HR G h' (I :: F) ad' hp'
  go : Go G (I :: W) (I :: F) ad hp h0 ad' hp' h'
  feet : Feet G h' (Xp G (I :: F) ad' hp') fp I
section
variable {I : Addr} {fp : List Addr} {l : List AV} {hI : Heap}
theorem Mid.step (M : Mid G W F I ad hp h0 fp ad3 hp3 h3) (k : ∀ b o, b ≠ I → h3.get? b = some o → h4.get? b = some o) (hz : h3.objs.size ≤ h4.objs.size) : Mid G W F I ad hp h0 fp ad3 hp3 h4 :=
  ⟨M.hr.wrk (.head _) k hz, M.go.trans (Go.wrk (.head _) k hz), M.feet.stay (wrk_stay (.head _) k)⟩
theorem Mid.on (M : Mid G W F I ad hp h0 fp ad3 hp3 h4) (wr : WR W F env) (H6 : HR G h6 (I :: F) ad6 hp6) (g : Go G W (I :: F) ad3 hp3 h4 ad6 hp6 h6) : Mid G W F I ad hp h0 fp ad6 hp6 h6 :=
  ⟨H6, M.go.trans (g.wide fun b hb => .tail _ hb), M.feet.stay (g.stay fun b hb => .tail _ (wr.sub b hb))⟩
theorem Mid.stay (M : Mid G W F I ad hp h0 fp ad3 hp3 h4) (wr : WR W F env) : Stay G h0 h4 (Xp G (I :: F) ad hp) (Xp G (I :: F) ad3 hp3) := M.go.stay fun b hb => (List.mem_cons.mp hb).elim (fun z => z ▸ .head _) fun hb => .tail _ (wr.sub b hb)
theorem Mid.at (M : Mid G W F I ad hp h0 fp ad3 hp3 h4) (wr : WR W F env) (IW : I ∉ W) (g : Go G W (I :: F) ad3 hp3 h4 ad6 hp6 h6) : ∀ b ∈ fp, ∀ o, h4.get? b = some o → h6.get? b = some o := fun b hb o eo => by
  rcases Decidable.em (b = I) with z | z
  · rw [z] at eo ⊢
    exact (g.keep _ o eo (fun y => (M.hr.lo _ y).2.2 (.head _)) IW).elim id fun y => absurd (.inr (.inl (.head _))) y.1
  · obtain ⟨o', eo', xo, nf⟩ := M.feet b hb z
    rw [← Option.some.inj (eo'.symm.trans eo)]
    exact (g.keep _ _ eo' (fun y => xo (.inr (.inr y))) (fun y => xo (.inr (.inl (.tail _ (wr.sub b y)))))).elim id fun y => absurd y.2 (nf _)

structure LS where
  i : Nat
  r : List AV
  ad : Ad
  hp : Hp
  loc : Loc
  h : Heap
  tk : Nat
/-- where a loop stands -/
structure FT (G : Gnd) (A : Around) (W F : List Addr) (env : Env) (sc : Sc) (f : List AV → Loc → Hp → Option (Flw × Loc × Hp)) (s : Shared) (fl : Flw) (loc' : Loc) (hp' : Hp) (l : List AV) (I : Addr) (ad1 : Ad) (hp1 : Hp) (h0 : Heap) (fp : List Addr) (St : Nat → Heap → Prop) (k : Nat) (s' : Shared) (x : LS) : Prop where
  es : s' = { s with heap := x.h, toks := x.tk }
  ek : k = l.length - x.i
  hi : x.i ≤ l.length
  er : l.drop x.i = x.r
  ef : f x.r x.loc x.hp = some (fl, loc', hp')
  st : St x.i x.h
  M : Mid G W F I ad1 hp1 h0 fp x.ad x.hp x.h
  R : FRel G x.h (I :: F) x.ad x.hp env sc x.loc
theorem guard_new {o : Obj} : ∀ b ∈ (h.objs.size : Addr) :: F, b ∈ F ∨ h.objs.size ≤ b ∧ b < (h.push o).objs.size := push_guard
theorem mid_end {io : Obj} {tk3 : Nat} {fl : Flw} {fl' : Flow} (R1 : FRel G h1 F ad1 hp1 env sc loc) (g1 : Go G [] F ad hp s.heap ad1 hp1 h1) (q : XQ G s Q W F ad hp env sc fl loc' hp') (H3 : HR G h3 (h1.objs.size :: F) ad3 hp') (R3 : FRel G h3 (h1.objs.size :: F) ad3 hp' env sc loc') (g3 : Go G (h1.objs.size :: W) (h1.objs.size :: F) ad1 hp1 (h1.push io) ad3 hp' h3) (f3 : FlR G h3 (h1.objs.size :: F) ad3 hp' fl fl') : Q fl' { s with heap := h3, toks := tk3 } :=
  q ad3 h3 tk3 fl' (H3.less fun b hb => .tail _ hb) (R3.less R1 fun b hb => .tail _ hb) ((g1.wide nil_sub).trans (g3.unguard push_keep push_size (fun b hb => .tail _ hb) fun b hb => (List.mem_cons.mp hb).elim (fun z => .inr (Nat.le_of_eq z.symm)) .inl)) (f3.weaken fun b hb => .tail _ hb)
end
theorem for_sound (Z : Env0 G K fI glob mg mb cfg N) (I : SIh G glob n ih) {x : Str} {px pos : Pos} {e : Expr} {b : List Stmt} {fl : Flw} (hx : isLoc sc x = true) (ns : noSet e = true) (ee : ((ih.ev sc loc hp e).bind fun q => (iterOf q.1).bind fun l => forI ih sc x b l loc q.2) = some (fl, loc', hp')) :
    ExAt G n sc loc hp (.For (.Name x px) e b [] pos) fl loc' hp' :=
  bs2 ee fun v hp1 e1 ee => bs ee fun l e2 e3 A E env W F ad s Q rm wr H R q => by
    refine wpAny_For (I.one e1 rm H R fun ad1 h1 tk1 v1 H1 R1 g1 r1 => iter_open (s := { s with heap := h1, toks := tk1 }) rm.1 Z.hv.sx e2 r1 fun io It st0 => ?_) (fun y => ?_)
    · have S2 := guard_stay H1 (F' := h1.objs.size :: F) (push_keep (o := io)) guard_new
      have nF : ∀ {b}, b ∈ F → h1.objs.size ≠ b := fun {b} hb => Nat.ne_of_gt (H1.fr b hb).2
      have IW : h1.objs.size ∉ W := fun z => nF (wr.sub _ z) rfl
      have wr2 : WR W (h1.objs.size :: F) env := wr.more fun b hb => .tail _ hb
      have rw_ : ∀ {ad3 hp3 loc3} {h3 h4 : Heap}, FRel G h3 (h1.objs.size :: F) ad3 hp3 env sc loc3 → (∀ b o, b ≠ h1.objs.size → h3.get? b = some o → h4.get? b = some o) → FRel G h4 (h1.objs.size :: F) ad3 hp3 env sc loc3 := fun R3 k4 => R3.wrk (.head _) k4 (nF R1.locF) fun x c ec => nF (wr.sub _ (wr.cell x c ec))
      refine codeAny_forLoop (fun k s' => ∃ y : LS, FT G A W F env sc (forI ih sc x b) s fl loc' hp' l h1.objs.size ad1 hp1 (h1.push io) It.fp It.St k s' y) ?_ (l.length - 0)
        ⟨⟨0, l, ad1, hp1, loc, h1.push io, tk1⟩, rfl, rfl, Nat.zero_le _, rfl, e3, st0, ⟨H1.guard push_keep push_size guard_new, Go.refl, It.feet.stay S2⟩, R1.guard H1 push_keep guard_new fun b hb => .tail _ hb⟩
      intro k s' ⟨⟨i, r, ad3, hp3, loc3, h3, tk3⟩, T⟩
      rw [T.es, T.ek]
      have M := T.M
      have k4' : ∀ {h4 : Heap}, (∀ b, b ∉ [h1.objs.size] → ∀ o, h3.get? b = some o → h4.get? b = some o) → ∀ b o, b ≠ h1.objs.size → h3.get? b = some o → h4.get? b = some o := fun k4 b o ne e => k4 b (fun z => ne (List.mem_singleton.mp z)) o e
      cases r with
      | nil =>
        have hil : i = l.length := Nat.le_antisymm T.hi (List.drop_eq_nil_iff.mp T.er)
        rw [hil]
        have st := T.st
        rw [hil] at st
        exact with_hz (It.W.done _ _ _ st fun h4 tk4 k4 hz4 => wpAny_execs_nil (have M4 := M.step (k4' fun b hb o => k4 b o hb) hz4; mid_end (s := s) (fl := .next) R1 g1 (q.at T.ef) M4.hr (rw_ T.R (k4' fun b hb o => k4 b o hb)) M4.go rfl))
      | cons av r =>
        have D := drop_cons T.er
        refine bs T.ef fun q3 eb ef => with_hz (It.W.item i _ _ _ D.2.2 T.st fun v4 h4 tk4 p4 st4 k4 hz4 => ?_)
        have M4 := M.step (k4' fun b hb o => k4 b o hb) hz4
        have ar := ((It.vals i v4 p4 av D.1).stay S2).stay (M4.stay wr)
        refine wpAny_assign_Name (store_sound (s := { s with heap := h4, toks := tk4 }) (rv := .a av) wr2 M4.hr (rw_ T.R (k4' fun b hb o => k4 b o hb)) hx ar fun h5 tk5 H5 R5 g5 => ?_)
        refine I.exs (fl := q3.1) (loc' := q3.2.1) (hp' := q3.2.2) eb A _ env W _ ad3 { s with heap := h5, toks := tk5 } _ rm wr2 H5 R5 fun ad6 h6 tk6 f6 H6 R6 g6 fr6 => ?_
        have g56 := g5.trans g6
        have M6 := M4.on wr H6 g56
        obtain ⟨fl3, loc4, hp4⟩ := q3
        cases fl3 with
        | next =>
          rw [(fr6 : f6 = .next)]
          exact ⟨l.length - (i + 1), Nat.sub_lt_sub_left D.2.2 (Nat.lt_succ_self i), ⟨i + 1, r, ad6, hp4, loc4, h6, tk6⟩, rfl, rfl, D.2.2, D.2.1, ef, It.W.frame _ _ _ st4 (M4.at wr IW g56), M6, R6⟩
        | ret w =>
          obtain ⟨u, eu, c⟩ := fr6
          rw [eu]
          exact mid_end (s := s) (fl := .ret w) (hp' := hp4) (loc' := loc4) R1 g1 (q.at ef) M6.hr R6 M6.go ⟨u, rfl, c⟩
    · cases e <;> first | exact rfl | exact ft ns

/-- where a while stands -/
structure WT (G : Gnd) (W F : List Addr) (env : Env) (sc : Sc) (f : Nat → Loc → Hp → Option (Flw × Loc × Hp)) (s : Shared) (fl : Flw) (loc' : Loc) (hp' : Hp) (ad : Ad) (hp : Hp) (k : Nat) (s' : Shared) (x : LS) : Prop where
  es : s' = { s with heap := x.h, toks := x.tk }
  ef : f k x.loc x.hp = some (fl, loc', hp')
  H : HR G x.h F x.ad x.hp
  R : FRel G x.h F x.ad x.hp env sc x.loc
  g : Go G W F ad hp s.heap x.ad x.hp x.h
theorem while_sound (I : SIh G glob n ih) {t : Expr} {b : List Stmt} {pos : Pos} {fl : Flw} {fuel : Nat} (ee : whileI ih sc t b fuel loc hp = some (fl, loc', hp')) : ExAt G n sc loc hp (.While t b [] pos) fl loc' hp' := by
  intro A E env W F ad s Q rm wr H R q
  refine wpAny_While (codeAny_whileLoop (fun k s' => ∃ x : LS, WT G W F env sc (whileI ih sc t b) s fl loc' hp' ad hp k s' x) ?_ fuel ⟨⟨0, [], ad, hp, loc, s.heap, s.toks⟩, rfl, ee, H, R, Go.refl⟩)
  intro k s' ⟨⟨i0, r0, ad1, hp1, loc1, h1, tk1⟩, T⟩
  rw [T.es]
  have ef := T.ef
  cases k with
  | zero => exact nn ef
  | succ k =>
    refine bs2 ef fun c hp2 e1 e => I.tr e1 A _ env F ad1 { s with heap := h1, toks := tk1 } _ rm T.H T.R fun ad2 h2 tk2 H2 g2 => ?_
    have R2 := T.R.go T.H g2
    have g12 := T.g.trans (g2.wide nil_sub)
    cases c with
    | false => exact wpAny_execs_nil ((q.at e) ad2 h2 tk2 .next H2 R2 g12 rfl)
    | true =>
      refine bs e fun q3 e2 e => I.exs (fl := q3.1) (loc' := q3.2.1) (hp' := q3.2.2) e2 A _ env W F ad2 { s with heap := h2, toks := tk2 } _ rm wr H2 R2 fun ad3 h3 tk3 f3 H3 R3 g3 fr3 => ?_
      obtain ⟨fl3, loc3, hp3⟩ := q3
      cases fl3 with
      | next =>
        rw [(fr3 : f3 = .next)]
        exact ⟨k, Nat.lt_succ_self _, ⟨0, [], ad3, hp3, loc3, h3, tk3⟩, rfl, e, H3, R3, g12.trans g3⟩
      | ret w =>
        obtain ⟨u, eu, c⟩ := fr3
        rw [eu]
        exact (q.at e) ad3 h3 tk3 _ H3 R3 (g12.trans g3) ⟨u, rfl, c⟩
end
end Mine
end
section
open PySem PySem.W PyProof.Rows PySem.Calls
set_option maxRecDepth 100000
namespace Mine

section
variable {G : Gnd} {glob : Str → Option Addr} {n N : Nat} {ih : Ih} {A : Around} {E : Value → Shared → Prop} {s : Shared} {env : Env} {W W' F F0 F' T : List Addr} {ad ad0 ad1 ad' : Ad} {hp hp' hp1 hp2 : Hp} {h h' h'' : Heap} {scope : Scope} {x : Str} {sc sc' : Sc} {loc loc' loc0 loc1 : Loc} {X X' : Addr → Prop}
variable {K : Frag} {fI : Addr} {mg mb : Str → Option Value} {cfg : Cfg}

theorem FRel.shift (R : FRel G h F' ad hp env sc loc) (R0 : FRel G h'' F ad0 hp1 env sc loc0) (k : ∀ b ∈ F, b ∈ T) (sub : ∀ b, Xp G T ad' hp' b → Xp G F' ad hp b) (ext : ∀ i p, nth ad i = some p → nth ad' i = some p) : FRel G h T ad' hp' env sc loc :=
  R.to (k _ R0.locF) (fun _ e => e) (fun x c ec l => ⟨k _ (R0.cF x c ec l), fun _ e => e⟩) fun _ _ r => r.stay (stay_weaken sub) ext

noncomputable def isFr (outer : Sc) (y : Str) : Prop := alook y outer = some .cell ∨ alook y outer = some .free
theorem isCF_at {sc : Sc} {y : Str} (h : isCF (alook y sc) = true) : isFr sc y := by
  unfold isFr
  cases q : alook y sc with
  | none => rw [q] at h; exact ft h
  | some k =>
    rw [q] at h
    cases k with
    | cell => exact .inl rfl
    | free => exact .inr rfl
    | _ => exact ft h
theorem compSc_ok : ∀ {names : Sc}, compSc sc names = true → (∀ p ∈ names, p.2 ≠ .cell) ∧ ∀ p ∈ names, p.2 = .free → isFr sc p.1 := fun {names} => by
  induction names with
  | nil => exact fun _ => ⟨fun _ h => (nomatch h), fun _ h => (nomatch h)⟩
  | cons p r ih =>
    intro h
    obtain ⟨y, k⟩ := p
    obtain ⟨h1, h2⟩ := Bool.and_eq_true_iff.mp h
    have q := ih h2
    refine ⟨fun p hp => (List.mem_cons.mp hp).elim (fun z => ?_) (q.1 p), fun p hp => (List.mem_cons.mp hp).elim (fun z e => ?_) (q.2 p)⟩
    · rw [z]
      intro e
      rw [show k = .cell from e] at h1
      exact ft h1
    · rw [z] at e ⊢
      rw [show k = .free from e] at h1
      exact isCF_at h1
theorem not_isS {m : Nat} {x y : Str} (em : m = code x) (e : (!isS m x y) = true) : (x == y) = false := by
  rw [Bool.not_eq_true'] at e
  rw [beq_eq_false_iff_ne]
  intro q
  unfold isS at e
  rw [em, q, Nat.beq_refl, lbeq_self] at e
  exact tf e
theorem noDbg_ok : ∀ {names : Sc}, noDbg names = true → names.lookup ("__debug__" : Str) = none ∧ names.lookup ("__classdict__" : Str) = none := fun {names} => by
  induction names with
  | nil => exact fun _ => ⟨rfl, rfl⟩
  | cons p r ih =>
    intro h
    obtain ⟨h1, h⟩ := Bool.and_eq_true_iff.mp h
    obtain ⟨h2, h⟩ := Bool.and_eq_true_iff.mp h
    rw [List.lookup_cons, List.lookup_cons, not_isS (by decide +kernel) h1, not_isS (by decide +kernel) h2]
    exact ih h
structure CompT (sc : Sc) (scope : Scope) (x : Str) : Prop where
  kind : scope.kind = .function
  nodup : (scope.names.map (·.1)).Nodup
  nodbg : scope.names.lookup ("__debug__" : Str) = none ∧ scope.names.lookup ("__classdict__" : Str) = none
  nocell : ∀ p ∈ scope.names, p.2 ≠ .cell
  free : ∀ p ∈ scope.names, p.2 = .free → isFr sc p.1
  loc : scope.names.lookup x = some .local
theorem isFn_at {k : ScopeKind} (e : isFn k = true) : k = .function := by
  cases k with
  | function => exact rfl
  | _ => exact ft e
theorem isLocal_at {x : Str} (e : isLocal sc x = true) : alook x sc = some .local := by
  unfold isLocal at e
  cases q : alook x sc with
  | none => rw [q] at e; exact ft e
  | some k =>
    rw [q] at e
    cases k with
    | «local» => exact rfl
    | _ => exact ft e
theorem isFree_at {x : Str} (e : isFree sc x = true) : alook x sc = some .free := by
  unfold isFree at e
  cases q : alook x sc with
  | none => rw [q] at e; exact ft e
  | some k =>
    rw [q] at e
    cases k with
    | free => exact rfl
    | _ => exact ft e
theorem compOk_ok {scope : Scope} {x : Str} {iter : Expr} (e : compOk sc scope x iter = true) : CompT sc scope x ∧ noSet iter = true := by
  obtain ⟨h0, e⟩ := Bool.and_eq_true_iff.mp e
  obtain ⟨h1, e⟩ := Bool.and_eq_true_iff.mp e
  obtain ⟨h2, e⟩ := Bool.and_eq_true_iff.mp e
  obtain ⟨h3, e⟩ := Bool.and_eq_true_iff.mp e
  obtain ⟨h4, h5⟩ := Bool.and_eq_true_iff.mp e
  have q := compSc_ok h3
  exact ⟨⟨isFn_at h0, nodupS_iff h1, noDbg_ok h2, q.1, q.2, by rw [← alook_eq]; exact isLocal_at h4⟩, h5⟩
noncomputable def closeL (cells : List (Str × Addr)) : List (Str × NameKind) → List (Str × Addr) → List (Str × Addr)
  | [], acc => acc
  | (y, k) :: r, acc => closeL cells r (if k == .free then (y, (cells.lookup y).getD 0) :: acc else acc)
theorem close_for {scope : Scope} (hf : ∀ p ∈ scope.names, p.2 = .free → ∃ c, env.cells.lookup p.1 = some c) : closureFor scope env = pure (closeL env.cells scope.names []) := by
  unfold closureFor
  have : ∀ (l : List (Str × NameKind)) (acc : List (Str × Addr)), (∀ p ∈ l, p.2 = .free → ∃ c, env.cells.lookup p.1 = some c) →
      (forIn l acc (fun x cs => do
        let (name, kind) := x
        if kind == .free then do
          let c ← cellOf env name
          pure (ForInStep.yield ((name, c) :: cs))
        else pure (ForInStep.yield cs)) : Sem (List (Str × Addr))) = pure (closeL env.cells l acc) := by
    intro l
    induction l with
    | nil => intro acc _; rw [List.forIn_nil]; rfl
    | cons p r ih =>
      intro acc h
      obtain ⟨y, k⟩ := p
      rw [List.forIn_cons]
      have ih' := fun acc => ih acc fun p hp => h p (.tail _ hp)
      unfold closeL
      by_cases z : k = .free
      · subst z
        obtain ⟨c, ec⟩ := h (y, .free) (.head _) rfl
        have e1 : cellOf env y = pure c := by unfold cellOf; rw [ec]
        simp only [beq_self_eq_true, if_true, e1, pure_bind]
        rw [ih', ec]; rfl
      · have z' : (k == NameKind.free) = false := by simpa using z
        simp only [z', Bool.false_eq_true, if_false, pure_bind]
        exact ih' acc
  have t := this scope.names [] hf
  simp only [bind_pure] at t ⊢
  refine Eq.trans ?_ t
  rfl

theorem close_at {cells : List (Str × Addr)} : ∀ {l : List (Str × NameKind)} {acc : List (Str × Addr)} {y : Str} {c : Addr}, (∀ p ∈ l, p.2 = .free → ∃ c, cells.lookup p.1 = some c) → (closeL cells l acc).lookup y = some c → acc.lookup y = some c ∨ cells.lookup y = some c := fun {l} => by
  induction l with
  | nil => exact fun _ e => .inl e
  | cons p r ih =>
    intro acc y c h e
    refine (ih (fun p hp => h p (.tail _ hp)) (show (closeL cells r (if p.2 == .free then (p.1, (cells.lookup p.1).getD 0) :: acc else acc)).lookup y = some c from e)).elim (fun e1 => ?_) .inr
    cases hk : p.2 == NameKind.free with
    | true =>
      rw [hk] at e1
      obtain ⟨c0, e0⟩ := h p (.head _) (eq_of_beq hk)
      exact look_at (show ((p.1, (cells.lookup p.1).getD 0) :: acc).lookup y = some c from e1) (fun q z => .inr (by rw [q, ← z, e0]; rfl)) .inl
    | false => rw [hk] at e1; exact .inl e1
theorem close_has {cells : List (Str × Addr)} : ∀ {l : List (Str × NameKind)} {acc : List (Str × Addr)} {y : Str}, ((y, NameKind.free) ∈ l ∨ (acc.lookup y).isSome = true) → ((closeL cells l acc).lookup y).isSome = true := fun {l} => by
  induction l with
  | nil => exact fun h => h.elim (fun h => nomatch h) id
  | cons p r ih =>
    intro acc y h
    show ((closeL cells r (if p.2 == .free then (p.1, (cells.lookup p.1).getD 0) :: acc else acc)).lookup y).isSome = true
    cases hk : p.2 == NameKind.free with
    | true =>
      refine ih ?_
      show _ ∨ (((p.1, (cells.lookup p.1).getD 0) :: acc).lookup y).isSome = true
      rw [List.lookup_cons]
      cases q : y == p.1 with
      | true => exact .inr rfl
      | false => exact h.imp (fun h => (List.mem_cons.mp h).elim (fun z => absurd (congrArg (·.1) z) (beq_eq_false_iff_ne.mp q)) id) id
    | false => exact ih (h.imp (fun h => (List.mem_cons.mp h).elim (fun z => absurd (congrArg (·.2) z).symm (beq_eq_false_iff_ne.mp hk)) id) id)

theorem relabel_look {env : Env} {scope : Scope} (y : Str) : (relabel scope env).names.lookup y = (scope.names.lookup y).map fun k => if (k == NameKind.free && env.scope.kind == .function && env.kindOf y == some .cell) then NameKind.cell else k := by
  unfold relabel
  dsimp only
  generalize scope.names = l
  induction l with
  | nil => rfl
  | cons p r ih =>
    obtain ⟨z, k⟩ := p
    rw [List.map_cons]
    have hh : (if (k == NameKind.free && env.scope.kind == .function && env.kindOf z == some .cell) = true then (z, NameKind.cell) else (z, k)) = (z, if (k == NameKind.free && env.scope.kind == .function && env.kindOf z == some .cell) = true then NameKind.cell else k) := by split <;> rfl
    show List.lookup y ((if (k == NameKind.free && env.scope.kind == .function && env.kindOf z == some .cell) = true then (z, NameKind.cell) else (z, k)) :: _) = _
    rw [hh, List.lookup_cons, List.lookup_cons]
    cases q : y == z with
    | true =>
      have e := eq_of_beq q
      subst e
      rfl
    | false => exact ih

theorem look_free {inner : Sc} : ∀ {loc : Loc} {y : Str} {rv : RV}, alook y (freeOf inner loc) = some rv → alook y loc = some rv ∧ isFree inner y = true := fun {loc} => by
  induction loc with
  | nil => exact fun e => nn e
  | cons p r ih =>
    intro y rv e
    obtain ⟨z, v⟩ := p
    have sh : freeOf inner ((z, v) :: r) = (match isFree inner z with | true => (z, v) :: freeOf inner r | false => freeOf inner r) := rfl
    rw [sh] at e
    show cond (seq y z) (some v) (alook y r) = some rv ∧ _
    cases hf : isFree inner z with
    | true =>
      rw [hf] at e
      refine cs (show cond (seq y z) (some v) (alook y (freeOf inner r)) = some rv from e) (fun q e => ?_) fun q e => ?_
      · rw [q]; exact ⟨e, by rw [seq_iff.mp q]; exact hf⟩
      · rw [q]; exact ih e
    | false =>
      rw [hf] at e
      have w := ih e
      refine ⟨?_, w.2⟩
      cases q : seq y z with
      | true => rw [seq_iff.mp q, hf] at w; exact ft w.2
      | false => exact w.1

theorem FRel.fk (R : FRel G h F ad hp env sc loc) {y : Str} (f : isFr sc y) : env.kindOf y = some .cell ∨ env.kindOf y = some .free := by
  rcases f with f | f
  · exact .inl (R.tyc y f)
  · exact R.tyf y f
theorem CompT.cells (T : CompT sc scope x) (R : FRel G h F ad hp env sc loc) : ∀ p ∈ scope.names, p.2 = .free → ∃ c, env.cells.lookup p.1 = some c := fun p hp e => by
  obtain ⟨c, _, e1, _⟩ := R.cell p.1 (R.fk (T.free p hp e))
  exact ⟨c, e1⟩
theorem inner_frame {scope : Scope} {x : Str} {C : Addr} {m : Str → Option Value} {v : Value} {av : AV} (R : FRel G h F ad hp env sc loc) (T : CompT sc scope x) (hC : C ∈ F) (ne : ∀ y c, env.cells.lookup y = some c → env.kindOf y = some .cell ∨ env.kindOf y = some .free → c ≠ C) (ns : h.Ns C m) (mx : m x = some v) (ar : AR G h (Xp G F ad hp) av v) :
    FRel G h F ad hp (compEnvC scope (closeL env.cells scope.names []) C env) scope.names ((x, .a av) :: freeOf scope.names loc) := by
  have hk : ∀ y, (compEnvC scope (closeL env.cells scope.names []) C env).kindOf y = (scope.names.lookup y).map fun k => if (k == NameKind.free && env.scope.kind == .function && env.kindOf y == some .cell) then NameKind.cell else k := fun y => relabel_look y
  have notfree : ∀ {y k}, scope.names.lookup y = some k → k ≠ .free → (compEnvC scope (closeL env.cells scope.names []) C env).kindOf y = some k := fun {y k} e nk => by
    rw [hk, e]
    have : (k == NameKind.free) = false := by simpa using nk
    simp only [Option.map_some, this, Bool.false_and, Bool.false_eq_true, if_false]
  have isfree : ∀ {y}, scope.names.lookup y = some .free → (compEnvC scope (closeL env.cells scope.names []) C env).kindOf y = some .cell ∨ (compEnvC scope (closeL env.cells scope.names []) C env).kindOf y = some .free := fun {y} e => by
    rw [hk, e]
    simp only [Option.map_some]
    split
    · exact .inl rfl
    · exact .inr rfl
  have back : ∀ {y}, (compEnvC scope (closeL env.cells scope.names []) C env).kindOf y = some .cell ∨ (compEnvC scope (closeL env.cells scope.names []) C env).kindOf y = some .free → scope.names.lookup y = some .free := fun {y} e => by
    rw [hk] at e
    cases q : scope.names.lookup y with
    | none => rw [q] at e; rcases e with e | e <;> cases e
    | some k =>
      have nc := T.nocell _ (mem_of_lookup q)
      by_cases z : k = .free
      · rw [z]
      · have : (k == NameKind.free) = false := by simpa using z
        rw [q] at e
        simp only [Option.map_some, this, Bool.false_and, Bool.false_eq_true, if_false, Option.some.injEq] at e
        rcases e with e | e
        · exact absurd e nc
        · exact absurd e z
  have lx : ∀ {y rv}, alook y ((x, RV.a av) :: freeOf scope.names loc) = some rv → (y = x ∧ rv = .a av) ∨ (alook y loc = some rv ∧ scope.names.lookup y = some .free) := fun {y rv} e =>
    cs (show cond (seq y x) (some (RV.a av)) (alook y (freeOf scope.names loc)) = some rv from e) (fun q e => .inl ⟨seq_iff.mp q, (Option.some.inj e).symm⟩) fun _ e => have w := look_free e; .inr ⟨w.1, by rw [← alook_eq]; exact isFree_at w.2⟩
  have frm : ∀ {y}, scope.names.lookup y = some .free → env.kindOf y = some .cell ∨ env.kindOf y = some .free := fun {y} e => R.fk (T.free (y, .free) (mem_of_lookup e) rfl)
  refine ⟨T.kind, R.glob, R.bltn, fun y e => ?_, fun y e => ?_, fun y e => ?_, fun y e => ?_, ⟨?_, ?_⟩, fun y rv e => ?_, ⟨m, ns, fun y rv e l => ?_⟩, fun y l => ?_, fun y z c e1 e2 => ?_, hC⟩
  · rw [alook_eq] at e; exact notfree e (by decide)
  · rw [alook_eq] at e; exact absurd rfl (T.nocell _ (mem_of_lookup e))
  · rw [alook_eq] at e; exact isfree e
  · rw [alook_eq] at e; exact notfree e (by decide)
  · rw [hk, T.nodbg.1]; rfl
  · rw [hk, T.nodbg.2]; rfl
  · rcases lx e with ⟨rfl, _⟩ | ⟨_, e⟩
    · exact .inl (notfree T.loc (by decide))
    · exact .inr (isfree e)
  · rcases lx e with ⟨rfl, rfl⟩ | ⟨_, e⟩
    · exact ⟨v, mx, ar⟩
    · rcases isfree e with z | z <;> rw [z] at l <;> cases l
  · have ef := back l
    obtain ⟨c, cv, e1, e2, e3, e4, e5⟩ := R.cell y (frm ef)
    have some_ := close_has (cells := env.cells) (acc := []) (.inl (mem_of_lookup ef))
    obtain ⟨c', ec'⟩ := Option.isSome_iff_exists.mp some_
    rcases close_at (T.cells R) ec' with z | z
    · cases z
    · rw [e1] at z; cases z
      refine ⟨c, cv, ec', e2, e3, ne y c e1 (frm ef), fun rv e => ?_⟩
      rcases lx e with ⟨rfl, _⟩ | ⟨e, _⟩
      · rw [T.loc] at ef; cases ef
      · exact e5 rv e
  · rcases close_at (T.cells R) e1 with z1 | z1
    · cases z1
    · rcases close_at (T.cells R) e2 with z2 | z2
      · cases z2
      · exact R.inj y z c z1 z2
end
end Mine
end
section
open PySem PySem.W PyProof.Rows PySem.Calls
set_option maxRecDepth 100000
namespace Mine

theorem lookup_of_mem {α : Type} : ∀ {l : List (Str × α)} {p : Str × α}, (l.map (·.1)).Nodup → p ∈ l → l.lookup p.1 = some p.2 := fun {l} => by
  induction l with
  | nil => exact fun _ h => nomatch h
  | cons q r ih =>
    intro p nd h
    have nd := List.nodup_cons.mp nd
    rw [List.lookup_cons]
    cases z : p.1 == q.1 with
    | true => exact (List.mem_cons.mp h).elim (fun e => by rw [e]) fun h => absurd (List.mem_map_of_mem (f := fun x : Str × α => x.1) h) (by rw [eq_of_beq z]; exact nd.1)
    | false => exact (List.mem_cons.mp h).elim (fun e => absurd (congrArg (·.1) e) (beq_eq_false_iff_ne.mp z)) (ih nd.2)

section
variable {G : Gnd} {glob : Str → Option Addr} {n N : Nat} {ih : Ih} {A : Around} {E : Value → Shared → Prop} {s : Shared} {env : Env} {W W' F F0 F' T : List Addr} {ad ad0 ad1 ad3 ad7 ad' : Ad} {hp hp' hp1 hp2 hp3 hp7 : Hp} {h h' h'' h1 h3 h4 h5 h7 : Heap} {scope : Scope} {x : Str} {sc sc' : Sc} {loc loc' loc0 loc1 : Loc} {X X' : Addr → Prop}
variable {K : Frag} {fI : Addr} {mg mb : Str → Option Value} {cfg : Cfg}

theorem FRel.wrk2 (R : FRel G h F' ad hp env sc loc) (R0 : FRel G h'' F ad0 hp1 env sc loc0) {d : Addr} (hd : d ∈ F') (nd : d ∉ F) (k : ∀ b o, b ≠ d → h.get? b = some o → h'.get? b = some o) : FRel G h' F' ad hp env sc loc :=
  R.to R.locF (fun o e => k _ o (fun z => nd (z ▸ R0.locF)) e) (fun x c ec l => ⟨R.cF x c ec l, fun o e => k _ o (fun z => nd (z ▸ R0.cF x c ec l)) e⟩) fun _ _ r => r.stay (wrk_stay hd k) fun _ _ e => e

theorem tests_sound (I : SIh G glob n ih) {ifs : List Expr} {b : Bool} {cenv : Env} (rm : Room A n) (e : tests ih sc loc hp ifs = some (b, hp')) (H : HR G s.heap F ad hp) (R : FRel G s.heap F ad hp cenv sc loc) {Q : Bool → Shared → Prop} (q : PB G s Q F ad hp b hp') :
    wpAny (model G.prog G.w) A (forIn ifs true fun c r => if r = true then do let ok ← isTrue c cenv (eval c cenv); pure (ForInStep.yield ok) else pure (ForInStep.yield r)) Q E s := by
  cases ifs with
  | nil => rw [List.forIn_nil]; exact wpAny_pure ((q.at e) ad s.heap s.toks H Go.refl)
  | cons c r =>
    refine gs e fun er e => ?_
    rw [List.isEmpty_iff.mp er, List.forIn_cons]
    refine wpAny_bind ?_
    rw [if_pos rfl]
    refine wpAny_bind (I.tr e A E cenv F ad s _ rm H R fun ad1 h1 tk1 H1 g1 => wpAny_pure ?_)
    dsimp only
    rw [List.forIn_nil]
    exact wpAny_pure (q ad1 h1 tk1 H1 g1)

/-- the end of a list's making -/
structure Done (G : Gnd) (s : Shared) (F : List Addr) (ad : Ad) (hp : Hp) (env : Env) (sc : Sc) (loc : Loc) (rv : RV) (hp' : Hp) (D C : Addr) (ad' : Ad) (h' : Heap) : Prop where
  hr : HR G h' (C :: F) ad' hp'
  fr : FRel G h' (C :: F) ad' hp' env sc loc
  go : Go G [] F ad hp s.heap ad' hp' h'
  rv : RVR G h' (Xp G (C :: F) ad' hp') ad' rv (.ref D)
  ns : ∃ m, h'.Ns C m
  new : s.heap.objs.size ≤ C
  dc : D ≠ C

/-- the three new objects of a list's making: its names, the list, the walker -/
structure CG (F : List Addr) (h1 h4 : Heap) (C D I : Addr) : Prop where
  kp : ∀ b o, h1.get? b = some o → h4.get? b = some o
  hz : h1.objs.size ≤ h4.objs.size
  ge : ∀ b ∈ [C, D, I], h1.objs.size ≤ b ∧ b < h4.objs.size
  dc : D ≠ C
  ic : I ≠ C
  id : I ≠ D
  nF : ∀ b ∈ F, b < h1.objs.size
section
variable {C D I : Addr}
theorem three_mem {b : Addr} (hb : b ∈ C :: D :: I :: F) : b ∈ [C, D, I] ∨ b ∈ F := List.mem_append.mp (show b ∈ [C, D, I] ++ F from hb)
theorem three_in : ∀ b ∈ [C, D, I], b ∈ C :: D :: I :: F := fun _ hb => List.mem_append_left F hb
theorem F_in : ∀ b ∈ F, b ∈ C :: D :: I :: F := fun _ hb => List.mem_append_right [C, D, I] hb
theorem CG.no (c : CG F h1 h4 C D I) {b : Addr} (hb : b ∈ [C, D, I]) : b ∉ F := fun z => Nat.not_lt.mpr (c.ge b hb).1 (c.nF b z)
theorem CG.two (c : CG F h1 h4 C D I) : ∀ b ∈ C :: D :: I :: F, b ∈ F ∨ h1.objs.size ≤ b ∧ b < h4.objs.size := fun b hb => (three_mem hb).elim (fun z => .inr (c.ge b z)) .inl
theorem wC : C ∈ [C, D, I] := .head _
theorem wD : D ∈ [C, D, I] := .tail _ (.head _)
theorem wI : I ∈ [C, D, I] := .tail _ (.tail _ (.head _))
theorem push_lt {o : Obj} : h.objs.size < (h.push o).objs.size := by rw [Heap.size_push]; exact Nat.lt_succ_self _
theorem cg_of {o1 o2 o3 : Obj} (H : HR G h1 F ad1 hp1) (sb : Heap.SameBut ((h1.push o1).push o2).objs.size (((h1.push o1).push o2).push o3) h4) : CG F h1 h4 ((h1.push o1).push o2).objs.size (h1.push o1).objs.size h1.objs.size := by
  have l1 := push_lt (h := h1) (o := o1)
  have l2 := push_lt (h := h1.push o1) (o := o2)
  have l3 : ((h1.push o1).push o2).objs.size < h4.objs.size := by rw [sb.1]; exact push_lt
  have l13 := Nat.lt_trans l1 l2
  refine ⟨fun b o e => (sb.2 b (Nat.ne_of_lt (Nat.lt_trans (Heap.lt_size e) l13))).trans (push_keep _ _ (push_keep _ _ (push_keep _ _ e))), Nat.le_of_lt (Nat.lt_trans l13 l3), fun b hb => ?_, Nat.ne_of_lt l2, Nat.ne_of_lt l13, Nat.ne_of_lt l1, fun b hb => (H.fr b hb).2⟩
  rcases List.mem_cons.mp hb with z | hb
  · rw [z]; exact ⟨Nat.le_of_lt l13, l3⟩
  rcases List.mem_cons.mp hb with z | hb
  · rw [z]; exact ⟨Nat.le_of_lt l1, Nat.lt_trans l2 l3⟩
  · rw [List.mem_singleton.mp hb]; exact ⟨Nat.le_refl _, Nat.lt_trans l13 l3⟩

/-- what holds during a list's making -/
structure CH (G : Gnd) (F : List Addr) (env : Env) (sc : Sc) (loc : Loc) (C D I : Addr) (ad1 : Ad) (hp1 : Hp) (h4 : Heap) (fp : List Addr) (acc : List RV) (ad3 : Ad) (hp3 : Hp) (h3 : Heap) (vs : List Value) (m3 : Nat) (m : Str → Option Value) : Prop where
  H : HR G h3 (C :: D :: I :: F) ad3 hp3
  R : FRel G h3 (C :: D :: I :: F) ad3 hp3 env sc loc
  g : Go G [C, D, I] (C :: D :: I :: F) ad1 hp1 h4 ad3 hp3 h3
  ft : Feet G h3 (Xp G (C :: D :: I :: F) ad3 hp3) fp I
  ns : h3.Ns C m
  d : h3.get? D = some (PySem.W.listOf vs.toArray m3)
  rs : RVRs G h3 (Xp G (C :: D :: I :: F) ad3 hp3) ad3 acc vs
section
variable {h0 : Heap} {fp : List Addr} {acc : List RV} {vs vs' : List Value} {m3 m3' : Nat} {m m' : Str → Option Value}
/-- one of the three changes -/
theorem CH.wr (c : CH G F env sc loc C D I ad1 hp1 h4 fp acc ad3 hp3 h3 vs m3 m) (R1 : FRel G h0 F ad0 hp2 env sc loc0) (k0 : CG F h1 h4 C D I) {b : Addr} (hb : b ∈ [C, D, I]) (k : ∀ a o, a ≠ b → h3.get? a = some o → h5.get? a = some o) (hz : h3.objs.size ≤ h5.objs.size) (ns : h5.Ns C m') (d : h5.get? D = some (PySem.W.listOf vs.toArray m3)) : CH G F env sc loc C D I ad1 hp1 h4 fp acc ad3 hp3 h5 vs m3 m' :=
  have S := wrk_stay (G := G) (ad := ad3) (hp := hp3) (three_in (F := F) b hb) k
  ⟨c.H.wrk (three_in b hb) k hz, c.R.wrk2 R1 (three_in b hb) (k0.no hb) k, c.g.trans (Go.wrk hb k hz), c.ft.stay S, ns, d, RVRs.stay S (fun _ _ e => e) c.rs⟩
theorem CH.stI (c : CH G F env sc loc C D I ad1 hp1 h4 fp acc ad3 hp3 h3 vs m3 m) (R1 : FRel G h0 F ad0 hp2 env sc loc0) (k0 : CG F h1 h4 C D I) (k : ∀ a o, a ≠ I → h3.get? a = some o → h5.get? a = some o) (hz : h3.objs.size ≤ h5.objs.size) : CH G F env sc loc C D I ad1 hp1 h4 fp acc ad3 hp3 h5 vs m3 m :=
  c.wr R1 k0 wI k hz (nsAt0 c.ns fun o e => k _ o k0.ic.symm e) (k _ _ k0.id.symm c.d)
theorem CH.stD (c : CH G F env sc loc C D I ad1 hp1 h4 fp acc ad3 hp3 h3 vs m3 m) (R1 : FRel G h0 F ad0 hp2 env sc loc0) (k0 : CG F h1 h4 C D I) (k : ∀ a o, a ≠ D → h3.get? a = some o → h5.get? a = some o) (hz : h3.objs.size ≤ h5.objs.size) {w8 : RV} {w : Value} (r : RVR G h3 (Xp G (C :: D :: I :: F) ad3 hp3) ad3 w8 w) (d : h5.get? D = some (PySem.W.listOf (vs ++ [w]).toArray (m3 + 1))) : CH G F env sc loc C D I ad1 hp1 h4 fp (acc ++ [w8]) ad3 hp3 h5 (vs ++ [w]) (m3 + 1) m :=
  have S := wrk_stay (G := G) (ad := ad3) (hp := hp3) (three_in (F := F) D wD) k
  ⟨c.H.wrk (three_in D wD) k hz, c.R.wrk2 R1 (three_in D wD) (k0.no wD) k, c.g.trans (Go.wrk wD k hz), c.ft.stay S, nsAt0 c.ns fun o e => k _ o k0.dc.symm e, d, (RVRs.stay S (fun _ _ e => e) c.rs).append ⟨r.stay S fun _ _ e => e, trivial⟩⟩
theorem CH.at (c : CH G F env sc loc C D I ad1 hp1 h4 fp acc ad3 hp3 h3 vs m3 m) (g : Go G [] (C :: D :: I :: F) ad3 hp3 h3 ad7 hp7 h7) {b : Addr} (hb : b ∈ [C, D, I]) {o : Obj} (e : h3.get? b = some o) : h7.get? b = some o :=
  (g.keep _ o e (fun y => (c.H.lo _ y).2.2 (three_in b hb)) fun z => nomatch z).elim id fun y => absurd (.inr (.inl (three_in b hb))) y.1
theorem CH.go (c : CH G F env sc loc C D I ad1 hp1 h4 fp acc ad3 hp3 h3 vs m3 m) (H7 : HR G h7 (C :: D :: I :: F) ad7 hp7) (g : Go G [] (C :: D :: I :: F) ad3 hp3 h3 ad7 hp7 h7) : CH G F env sc loc C D I ad1 hp1 h4 fp acc ad7 hp7 h7 vs m3 m :=
  ⟨H7, c.R.go c.H g, c.g.trans (g.wide nil_sub), c.ft.stay (g.stay nil_sub), nsAt0 c.ns fun o e => c.at g wC e, c.at g wD c.d, c.rs.go g nil_sub⟩
theorem CH.keepF (c : CH G F env sc loc C D I ad1 hp1 h4 fp acc ad3 hp3 h3 vs m3 m) (g : Go G [] (C :: D :: I :: F) ad3 hp3 h3 ad7 hp7 h7) : ∀ b ∈ fp, ∀ o, h3.get? b = some o → h7.get? b = some o := fun b hb o eo => by
  rcases Decidable.em (b = I) with z | z
  · rw [z] at eo ⊢; exact c.at g wI eo
  · obtain ⟨o', eo', xo, nf⟩ := c.ft b hb z
    rw [← Option.some.inj (eo'.symm.trans eo)]
    exact (g.keep _ _ eo' (fun y => xo (.inr (.inr y))) fun z => nomatch z).elim id fun y => absurd y.2 (nf _)
theorem CH.ne (c : CH G F env sc loc C D I ad1 hp1 h4 fp acc ad3 hp3 h3 vs m3 m) {d : Addr} (hd : d ∈ [C, D, I]) (di : I ≠ d) : ∀ b ∈ fp, b ≠ d := fun b hb z => by
  obtain ⟨o, _, xo, _⟩ := c.ft b hb fun y => di (y.symm.trans z)
  exact xo (.inr (.inl (z ▸ three_in d hd)))
end
theorem comp_end (hs0 : G.h0.objs.size ≤ h1.objs.size) {use : Option (Value → Sem Unit)} {Q : Value → Shared → Prop} {rv : RV} {L : List RV} {own : Bool} {tk : Nat} {vs : List Value} {m3 : Nat} {m : Str → Option Value} {fp : List Addr} (k0 : CG F h1 h4 C D I) (R1 : FRel G h1 F ad1 hp1 env sc loc) (g1 : Go G [] F ad hp s.heap ad1 hp1 h1) (e4 : mkLst own L hp2 = some (rv, hp'))
    (fin : ∀ D C ad' h' tk, Done G s F ad hp env sc loc rv hp' D C ad' h' → compPost (model G.prog G.w) A E use Q (.ref D) C (.ok .next) { s with heap := h', toks := tk }) (c : CH G F env sc loc C D I ad1 hp1 h4 fp L ad3 hp2 h3 vs m3 m) : compPost (model G.prog G.w) A E use Q (.ref D) C (.ok .next) { s with heap := h3, toks := tk } := by
  have gs' := g1.trans (c.g.unguard k0.kp k0.hz F_in fun b hb => .inr (k0.ge b hb).1 : Go G [] F ad1 hp1 h1 ad3 hp2 h3)
  have newC := Nat.le_trans g1.size (k0.ge C wC).1
  have inC : ∀ b ∈ C :: F, b ∈ C :: D :: I :: F := fun b hb => (List.mem_cons.mp hb).elim (fun z => z ▸ three_in C wC) (F_in b)
  have inD : ∀ b ∈ D :: C :: F, b ∈ C :: D :: I :: F := fun b hb => (List.mem_cons.mp hb).elim (fun z => by rw [z]; exact three_in D wD) (inC b)
  have ndc : D ∉ C :: F := fun z => (List.mem_cons.mp z).elim k0.dc (k0.no wD)
  have subC : ∀ b, Xp G (C :: F) ad3 hp2 b → Xp G (C :: D :: I :: F) ad3 hp2 b := fun b => Xp.less inC
  refine gs e4 fun _ e4 => cs e4 (fun _ e4 => ?_) fun _ e4 => me e4 fun as ea e4 => ?_
  · have ext : ∀ i p, nth ad3 i = some p → nth (ad3 ++ [(D, D)]) i = some p := fun _ _ e => nth_app e
    have H5 := (c.H.less inD).give (O := .lst L) rfl ndc ⟨vs, m3, c.d, RVRs.stay (stay_weaken fun b => Xp.less inD) ext c.rs⟩
    have sub5 : ∀ b, Xp G (C :: F) (ad3 ++ [(D, D)]) (hp2 ++ [.lst L]) b → Xp G (C :: D :: I :: F) ad3 hp2 b := fun b z => z.elim .inl fun z => z.elim (fun z => .inr (.inl (inC b z))) fun z => (own_snoc c.H.len z).elim (fun z => .inr (.inr z)) fun z => .inr (.inl (by rw [show b = D from List.mem_singleton.mp z]; exact three_in D wD))
    refine fin D C _ h3 tk (sp (P := fun rv hp' => Done G s F ad hp env sc loc rv hp' D C (ad3 ++ [(D, D)]) h3) e4 ⟨H5, c.R.shift R1 (fun b hb => .tail _ hb) sub5 ext, gs'.give (O := .lst L) c.H rfl (Nat.le_trans g1.size (k0.ge D wD).1), ⟨(D, D), ?_, rfl⟩, ⟨m, c.ns⟩, newC, k0.dc⟩)
    rw [← c.H.len]; exact nth_snoc
  · refine fin D C ad3 h3 tk (sp (P := fun rv hp' => Done G s F ad hp env sc loc rv hp' D C ad3 h3) e4 ⟨c.H.less inC, c.R.shift R1 (fun b hb => .tail _ hb) subC (fun _ _ e => e), gs', .lst c.d (fun z => z.elim (fun z => Nat.not_lt.mpr (Nat.le_trans hs0 (k0.ge D wD).1) z) fun z => z.elim ndc fun z => (c.H.lo _ z).2.2 (three_in D wD)) (ARs.stay (stay_weaken subC) (RVRs.toA c.rs ea)), ⟨m, c.ns⟩, newC, k0.dc⟩)

structure CS where
  i : Nat
  r : List AV
  acc : List RV
  vs : List Value
  m3 : Nat
  m : Str → Option Value
  ad : Ad
  hp : Hp
  h : Heap
  tk : Nat
  L : List RV
/-- where the making of a list stands -/
structure CT (G : Gnd) (F : List Addr) (env : Env) (sc : Sc) (loc : Loc) (C D I : Addr) (ad1 : Ad) (hp1 : Hp) (h4 : Heap) (fp : List Addr) (St : Nat → Heap → Prop) (s : Shared) (f : List AV → Hp → Option (List RV × Hp)) (hp2 : Hp) (l : List AV) (L : List RV) (k : Nat) (s' : Shared) (x : CS) : Prop where
  es : s' = { s with heap := x.h, toks := x.tk }
  ek : k = l.length - x.i
  hi : x.i ≤ l.length
  er : l.drop x.i = x.r
  ec : f x.r x.hp = some (x.L, hp2)
  eL : x.acc ++ x.L = L
  st : St x.i x.h
  c : CH G F env sc loc C D I ad1 hp1 h4 fp x.acc x.ad x.hp x.h x.vs x.m3 x.m
end
theorem comp_one (I : SIh G glob n ih) {elt : Expr} {ifs : List Expr} {av : AV} {r : List AV} {L2 : List RV} {env0 cenv : Env} {pos0 : Unit} (rm : Room A n) (e : comp ih scope.names (freeOf scope.names loc) x ifs elt (av :: r) hp3 = some (L2, hp2)) (H : HR G s.heap T ad3 hp3) (R : FRel G s.heap T ad3 hp3 cenv scope.names ((x, .a av) :: freeOf scope.names loc)) {Q : Bool → Shared → Prop}
    (no : ∀ ad7 h7 tk7 hp7, comp ih scope.names (freeOf scope.names loc) x ifs elt r hp7 = some (L2, hp2) → HR G h7 T ad7 hp7 → Go G [] T ad3 hp3 s.heap ad7 hp7 h7 → Q false { s with heap := h7, toks := tk7 })
    (yes : ∀ ad7 h7 tk7 hp7 w8 hp8 L3, ih.ev scope.names ((x, .a av) :: freeOf scope.names loc) hp7 elt = some (w8, hp8) → comp ih scope.names (freeOf scope.names loc) x ifs elt r hp8 = some (L3, hp2) → L2 = w8 :: L3 → HR G h7 T ad7 hp7 → Go G [] T ad3 hp3 s.heap ad7 hp7 h7 → Q true { s with heap := h7, toks := tk7 }) :
    wpAny (model G.prog G.w) A (forIn ifs true fun c r => if r = true then do let ok ← isTrue c cenv (eval c cenv); pure (ForInStep.yield ok) else pure (ForInStep.yield r)) Q E s :=
  bs2 e fun b hp7 e5 ec => tests_sound I rm e5 H R fun ad7 h7 tk7 H7 g7 => by
    cases b with
    | false => exact no ad7 h7 tk7 hp7 ec H7 g7
    | true => exact bs2 ec fun w8 hp8 e8 ec => me2 ec fun L3 hp9 e9 ec => sp (P := fun L2 hp2 => (L2 = w8 :: L3 → _ → Q true { s with heap := h7, toks := tk7 }) → comp ih scope.names (freeOf scope.names loc) x ifs elt r hp8 = some (L3, hp2) → Q true { s with heap := h7, toks := tk7 }) ec (fun k _ => k rfl trivial) (fun el _ => yes ad7 h7 tk7 hp7 w8 hp8 L3 e8 (sp (P := fun _ hp2 => comp ih scope.names (freeOf scope.names loc) x ifs elt r hp8 = some (L3, hp2)) ec e9) el H7 g7) (sp (P := fun _ hp2 => comp ih scope.names (freeOf scope.names loc) x ifs elt r hp8 = some (L3, hp2)) ec e9)
theorem comp_run2 (Z : Env0 G K fI glob mg mb cfg N) (I : SIh G glob n ih) {elt iter : Expr} {px : Pos} {ifs : List Expr} {pos p0 : Pos} {rv v : RV} {l : List AV} {L : List RV} {own : Bool} (ok : compOk sc scope x iter = true)
    (e2 : iterOf v = some l) (e3 : comp ih scope.names (freeOf scope.names loc) x ifs elt l hp1 = some (L, hp2)) (e4 : mkLst own L hp2 = some (rv, hp'))
    (rm : Room A n) (H : HR G s.heap F ad hp) (R : FRel G s.heap F ad hp env sc loc) {use : Option (Value → Sem Unit)} {Q : Value → Shared → Prop}
    (wi : ∀ {Q' : Value → Shared → Prop}, (∀ ad1 h1 tk1 v1, HR G h1 F ad1 hp1 → FRel G h1 F ad1 hp1 env sc loc → Go G [] F ad hp s.heap ad1 hp1 h1 → RVR G h1 (Xp G F ad1 hp1) ad1 v v1 → Q' v1 { s with heap := h1, toks := tk1 }) → wpAny (model G.prog G.w) A (eval iter env) Q' E s)
    (fin : ∀ D C ad' h' tk, Done G s F ad hp env sc loc rv hp' D C ad' h' → compPost (model G.prog G.w) A E use Q (.ref D) C (.ok .next) { s with heap := h', toks := tk }) :
    wpAny (model G.prog G.w) A (comprehension (.ListComp elt [⟨.Name x px, iter, ifs, 0⟩] scope pos) scope env p0 (newList []) false (eval iter env) use) Q E s := by
  obtain ⟨TT, nset⟩ := compOk_ok ok
  refine wpAny_comprehension_free (cl := closeL env.cells scope.names []) rfl (fun y => ?_) (close_for (TT.cells R)) TT.kind (fun p hp e => by rw [lookup_of_mem TT.nodup hp, e]) ?_
  · cases iter <;> first | exact rfl | exact ft nset
  refine wi fun ad1 h1 tk1 v1 H1 R1 g1 r1 => ?_
  refine iter_open (s := { s with heap := h1, toks := tk1 }) rm.1 Z.hv.sx e2 r1 fun io It st0 => ?_
  dsimp only at It st0 ⊢
  refine wpAny_newList ?_ (by rw [sizeLine_eq]; exact Nat.zero_le _)
  refine wpAny_newFunctionEnv TT.nocell (fun y hy => nomatch hy) (fun h4 ns4 sb4 => ?_) TT.kind
  dsimp only at ns4 sb4 ⊢
  have k0 := cg_of H1 sb4
  have dl4 : h4.get? (h1.push io).objs.size = some (PySem.W.listOf ([] : List Value).toArray 0) := (sb4.2 _ k0.dc).trans (Heap.get?_push_of_some _ (Heap.get?_push_size _ rfl))
  have S4 := guard_stay H1 k0.kp k0.two
  have st4 : It.St 0 h4 := It.W.frame _ _ _ st0 fun b hb o eo => by
    refine (sb4.2 b fun z => ?_).trans (Heap.get?_push_of_some _ (Heap.get?_push_of_some _ eo))
    rcases Decidable.em (b = h1.objs.size) with y | y
    · exact k0.ic (y.symm.trans z)
    · obtain ⟨o', eo', _⟩ := It.feet b hb y
      exact Nat.lt_irrefl _ (Nat.lt_of_lt_of_le (Heap.lt_size eo') (z ▸ (k0.ge _ wC).1))
  have V4 : ∀ i v, It.P i v → ∀ x, nth l i = some x → AR G h4 (Xp G (_ :: _ :: _ :: F) ad1 hp1) x v := fun i v p x ex => (It.vals i v p x ex).stay S4
  have C4 := (⟨H1.guard k0.kp k0.hz k0.two, R1.guard H1 k0.kp k0.two F_in, Go.refl, It.feet.stay S4, ns4, dl4, trivial⟩ : CH G F env sc loc _ _ _ ad1 hp1 h4 It.fp [] ad1 hp1 h4 [] 0 _)
  have lenL := mkLst_len e4
  have hs0 := H1.size
  clear S4 dl4 ns4 sb4 wi
  generalize (((h1.push io).push { cls := .type "list", data := .seq ([] : List Value).toArray }).objs.size) = C at k0 V4 C4 ⊢
  generalize (h1.push io).objs.size = D at k0 V4 C4 ⊢
  generalize (h1.objs.size : Addr) = Ia at It st0 k0 V4 C4 st4 ⊢
  have loop : ∀ tk0, codeAny (model G.prog G.w) A (.compLoop (.ListComp elt [⟨.Name x px, iter, ifs, 0⟩] scope pos) 0 (.ref Ia) (.ref D) (compEnvC scope (closeL env.cells scope.names []) C env)) (compPost (model G.prog G.w) A E use Q (.ref D) C) { s with heap := h4, toks := tk0 } := fun tk0 => by
    refine codeAny_compLoop_tests (fun k s' => ∃ y : CS, CT G F env sc loc C D Ia ad1 hp1 h4 It.fp It.St s (comp ih scope.names (freeOf scope.names loc) x ifs elt) hp2 l L k s' y) ?_ (l.length - 0)
      ⟨⟨0, l, [], [], 0, _, ad1, hp1, h4, tk0, L⟩, rfl, rfl, Nat.zero_le _, rfl, e3, rfl, st4, C4⟩
    intro k s' ⟨⟨i, r, acc, vs, m3, m, ad3, hp3, h3, tk3, L2⟩, Tt⟩
    rw [Tt.es, Tt.ek]
    have c := Tt.c
    have eL := Tt.eL
    cases r with
    | nil =>
      have hil : i = l.length := Nat.le_antisymm Tt.hi (List.drop_eq_nil_iff.mp Tt.er)
      rw [hil]
      have st := Tt.st
      rw [hil] at st
      refine with_hz (It.W.done _ _ _ st fun h5 tk5 k5 hz5 => ?_)
      have c5 := c.stI R1 k0 (fun b o ne e => k5 b o (fun z => ne (List.mem_singleton.mp z)) e) hz5
      exact sp (P := fun L2 hp2' => acc ++ L2 = L → mkLst own L hp2' = some (rv, hp') → compPost (model G.prog G.w) A E use Q (.ref D) C (.ok .next) { s with heap := h5, toks := tk5 }) Tt.ec (fun eL e4 => comp_end hs0 k0 R1 g1 e4 fin (by rw [← eL, List.append_nil]; exact c5)) eL e4
    | cons av r =>
      have Dr := drop_cons Tt.er
      refine with_hz (It.W.item i _ _ _ Dr.2.2 Tt.st fun v5 h5 tk5 p5 st5 k5 hz5 => ?_)
      have c5 := c.stI R1 k0 (fun b o ne e => k5 b o (fun z => ne (List.mem_singleton.mp z)) e) hz5
      have ar5 := (V4 i v5 p5 av Dr.1).stay (c5.g.stay three_in)
      have kx : (compEnvC scope (closeL env.cells scope.names []) C env).kindOf x = some .local := lookup_relabel_local TT.loc
      refine wpAny_assign_Name (wpAny_storeName_local kx c5.ns (fun h6 ns6 sb6 => ?_) (by show (scope.kind == .class || (scope.kind == .module && _)) = false; rw [TT.kind]; rfl))
      have k6 : ∀ b o, b ≠ C → h5.get? b = some o → h6.get? b = some o := fun b o ne e => (sb6.2 b ne).trans e
      have c6 := c5.wr R1 k0 wC k6 (by rw [sb6.1]; exact Nat.le_refl _) ns6 (k6 _ _ k0.dc c5.d)
      have ar6 := ar5.stay (wrk_stay (three_in (F := F) C wC) k6)
      have st6 : It.St (i + 1) h6 := It.W.frame _ _ _ st5 fun b hb o eo => k6 b o (c5.ne wC k0.ic b hb) eo
      have inner : FRel G h6 (C :: D :: Ia :: F) ad3 hp3 (compEnvC scope (closeL env.cells scope.names []) C env) scope.names ((x, .a av) :: freeOf scope.names loc) :=
        inner_frame c6.R TT (three_in C wC) (fun y c ec kc z => k0.no wC (z ▸ R1.cF y c ec kc)) ns6 (if_pos rfl) ar6
      have dec : l.length - (i + 1) < l.length - i := Nat.sub_lt_sub_left Dr.2.2 (Nat.lt_succ_self i)
      refine comp_one (s := { s with heap := h6, toks := tk5 + 1 }) (env0 := env) (pos0 := ()) I rm Tt.ec c6.H inner (fun ad7 h7 tk7 hp7 ec H7 g7 => ?_) fun ad7 h7 tk7 hp7 w8 hp8 L3 e8 e9 el H7 g7 => ?_
      · rw [if_neg (by decide)]
        exact ⟨l.length - (i + 1), dec, ⟨i + 1, r, acc, vs, m3, _, ad7, hp7, h7, tk7, L2⟩, rfl, rfl, Dr.2.2, Dr.2.1, ec, eL, It.W.frame _ _ _ st6 (c6.keepF g7), c6.go H7 g7⟩
      · rw [if_pos rfl]
        refine I.one (s := { s with heap := h7, toks := tk7 }) e8 rm H7 (inner.go c6.H g7) fun ad8 h8 tk8 w H8 _ g8 r8 => ?_
        have g78 := g7.trans g8
        have c8 := c6.go H8 g78
        rw [el] at eL
        have la : vs.length < 4096 := by
          rw [← eL, List.length_append, List.length_cons] at lenL
          rw [← All2.len c8.rs]
          exact Nat.lt_of_lt_of_le (Nat.lt_of_lt_of_le (Nat.lt_succ_self _) (Nat.add_le_add_left (Nat.succ_le_succ (Nat.zero_le _)) _)) lenL
        refine PyProof.Rows.append_at (s := { s with heap := h8, toks := tk8 }) c8.d (fun h9 sb9 d9 => ?_) (by rw [List.size_toArray, sizeLine_eq]; exact Nat.le_trans (Nat.le_of_lt la) (by decide))
        have k9 : ∀ b o, b ≠ D → h8.get? b = some o → h9.get? b = some o := fun b o ne e => (sb9.2 b ne).trans e
        exact ⟨l.length - (i + 1), dec, ⟨i + 1, r, acc ++ [w8], vs ++ [w], m3 + 1, _, ad8, hp8, h9, tk8, L3⟩, rfl, rfl, Dr.2.2, Dr.2.1, e9, by rw [List.append_assoc]; exact eL, It.W.frame _ _ _ (It.W.frame _ _ _ st6 (c6.keepF g78)) (fun b hb o e => k9 b o (c8.ne wD k0.id b hb) e), c8.stD R1 k0 k9 (by rw [sb9.1]; exact Nat.le_refl _) r8 (by rw [d9]; simp [PySem.W.listOf])⟩
  exact codeAny_compStart_list (loop _) (It.W.self 0 _ _ _ st4 (loop _))
theorem comp_run (Z : Env0 G K fI glob mg mb cfg N) (I : SIh G glob n ih) {elt iter : Expr} {px : Pos} {ifs : List Expr} {pos p0 : Pos} {rv : RV} (ok : compOk sc scope x iter = true)
    (ee : ((ih.ev sc loc hp iter).bind fun q => (iterOf q.1).bind fun l => (comp ih scope.names (freeOf scope.names loc) x ifs elt l q.2).bind fun q' => mkLst (cfg.own pos) q'.1 q'.2) = some (rv, hp'))
    (rm : Room A n) (H : HR G s.heap F ad hp) (R : FRel G s.heap F ad hp env sc loc) {use : Option (Value → Sem Unit)} {Q : Value → Shared → Prop}
    (fin : ∀ D C ad' h' tk, Done G s F ad hp env sc loc rv hp' D C ad' h' → compPost (model G.prog G.w) A E use Q (.ref D) C (.ok .next) { s with heap := h', toks := tk }) :
    wpAny (model G.prog G.w) A (comprehension (.ListComp elt [⟨.Name x px, iter, ifs, 0⟩] scope pos) scope env p0 (newList []) false (eval iter env) use) Q E s :=
  bs2 ee fun v hp1 e1 ee => bs ee fun l e2 ee => bs2 ee fun L hp2 e3 e4 => comp_run2 Z I ok e2 e3 e4 rm H R (fun q => I.one e1 rm H R q) fin
end
end Mine
end
section
open PySem PySem.W PyProof.Rows PySem.Calls
set_option maxRecDepth 100000
namespace Mine

section
variable {G : Gnd} {glob : Str → Option Addr} {n N : Nat} {ih : Ih} {A : Around} {E : Value → Shared → Prop} {s : Shared} {env : Env} {W W' F F0 F' T : List Addr} {ad ad0 ad1 ad' : Ad} {hp hp' hp1 hp2 : Hp} {h h' h'' : Heap} {scope : Scope} {x : Str} {sc sc' : Sc} {loc loc' loc0 loc1 : Loc} {X X' : Addr → Prop}
variable {K : Frag} {fI : Addr} {mg mb : Str → Option Value} {cfg : Cfg}

theorem comp_shape {P : List Comprehension → Prop} {elt : Expr} {gens : List Comprehension} {pos : Pos} {rv : RV} (ee : compI cfg ih sc loc hp elt gens scope pos = some (rv, hp')) (k : ∀ x px iter ifs, compOk sc scope x iter = true →
    ((ih.ev sc loc hp iter).bind fun q => (iterOf q.1).bind fun l => (comp ih scope.names (freeOf scope.names loc) x ifs elt l q.2).bind fun q' => mkLst (cfg.own pos) q'.1 q'.2) = some (rv, hp') → P [⟨.Name x px, iter, ifs, 0⟩]) : P gens :=
  bs ee fun g e1 ee => bs ee fun x e2 ee => gs ee fun z ee => gs ee fun ok ee => oneE (P := P) e1 (by
    obtain ⟨t, iter, ifs, as⟩ := g
    rw [show as = 0 from of_decide_eq_true z]
    exact nameE (P := fun t => P [⟨t, iter, ifs, 0⟩]) e2 fun px => k x px iter ifs ok ee)
structure DoneE (G : Gnd) (s : Shared) (F : List Addr) (ad : Ad) (hp : Hp) (env : Env) (sc : Sc) (loc : Loc) (rv : RV) (hp' : Hp) (D : Addr) (ad' : Ad) (g : Heap) : Prop where
  hr : HR G g F ad' hp'
  fr : FRel G g F ad' hp' env sc loc
  go : Go G [] F ad hp s.heap ad' hp' g
  rv : RVR G g (Xp G F ad' hp') ad' rv (.ref D)
theorem same_keep {C : Addr} {g : Heap} (sb : Heap.SameBut C h g) : (∀ b o, b ≠ C → h.get? b = some o → g.get? b = some o) ∧ h.objs.size ≤ g.objs.size := ⟨fun b o ne e => (sb.2 b ne).trans e, by rw [sb.1]; exact Nat.le_refl _⟩
theorem Done.nC {D C : Addr} {rv : RV} (d : Done G s F ad hp env sc loc rv hp' D C ad' h') (H : HR G s.heap F ad hp) : C ∉ F := fun q => Nat.not_lt.mpr d.new (H.fr C q).2
theorem Done.end {D C : Addr} {rv : RV} (d : Done G s F ad hp env sc loc rv hp' D C ad' h') (H : HR G s.heap F ad hp) (R : FRel G s.heap F ad hp env sc loc) {g : Heap} (sb : Heap.SameBut C h' g) : DoneE G s F ad hp env sc loc rv hp' D ad' g := by
  have k := same_keep sb
  have S := wrk_stay (G := G) (ad := ad') (hp := hp') (F := C :: F) (.head _) k.1
  refine ⟨(d.hr.wrk (.head _) k.1 k.2).less fun b hb => .tail _ hb, (d.fr.wrk2 R (.head _) (d.nC H) k.1).less R fun b hb => .tail _ hb, ?_, (d.rv.stay S fun _ _ e => e).weaken fun b => Xp.less fun b hb => .tail _ hb⟩
  exact ((d.go.wide nil_sub).trans (Go.wrk (.head _) k.1 k.2) : Go G [C] F ad hp s.heap ad' hp' g).unguard (fun _ _ e => e) (Nat.le_refl _) (fun _ hb => hb) fun b hb => .inr (by rw [List.mem_singleton.mp hb]; exact d.new)

theorem comp_sound (Z : Env0 G K fI glob mg mb cfg N) (I : SIh G glob n ih) {elt : Expr} {gens : List Comprehension} {pos : Pos} {rv : RV} (ee : compI cfg ih sc loc hp elt gens scope pos = some (rv, hp')) : EvAt G n sc loc hp (.ListComp elt gens scope pos) rv hp' :=
  comp_shape (P := fun gens => EvAt G n sc loc hp (.ListComp elt gens scope pos) rv hp') ee fun x px iter ifs ok ee A E env F ad s Q rm H R q => by
    rw [eval_ListComp]
    refine comp_run Z I ok ee rm H R fun D C ad1 h1 tk1 d => ?_
    obtain ⟨m, ns⟩ := d.ns
    exact ⟨m, ns, fun g sb => have w := d.end H R sb; q ad1 g tk1 _ w.hr w.rv w.go⟩

theorem ev_sound (Z : Env0 G K fI glob mg mb cfg N) (I : SIh G glob n ih) (nN : N ≤ n) {e : Expr} {rv : RV} (ee : stepEv cfg ih sc loc hp e = some (rv, hp')) : EvAt G n sc loc hp e rv hp' := by
  cases sp_ : special e with
  | false => exact ev_simple I Z.hv Z.hi ee sp_
  | true =>
    cases e with
    | Dict ks vs pos => exact dict_sound I ee
    | Call f as kw pos => exact call_sound Z I nN ee
    | ListComp a b c d => exact comp_sound Z I ee
    | IfExp t b o p => exact ifexp_sound Z I nN ee
    | BinOp l op r p => exact binop_arm Z I nN ee
    | _ => exact ft sp_

theorem swapped_none {t e : Expr} (h : tgtOk t e = true) : swappedStores [t] e env = pure none := by
  cases t with
  | Tuple a b c =>
    cases e with
    | Tuple _ _ _ => exact ft h
    | _ => exact rfl
  | _ => first | exact rfl | exact ft h
theorem asg_one {t e : Expr} (h : tgtOk t e = true) (v : Value) : assignAll v ((assignEach [t] env).map (·.2)) = assign t env v := by
  cases t <;> first | exact rfl | exact ft h

theorem asg_plain (Z : Env0 G K fI glob mg mb cfg N) (I : SIh G glob n ih) {t e : Expr} {pos : Pos} {rv : RV} (ok : tgtOk t e = true) (e2 : assignI ih sc loc hp1 t rv = some (loc', hp')) (hs : swapsWithSole [t] e pos.line env = pure false) (ev : EvAt G n sc loc hp e rv hp1)
    {Q : Flow → Shared → Prop} (rm : Room A n) (wr : WR W F env) (H : HR G s.heap F ad hp) (R : FRel G s.heap F ad hp env sc loc) (q : XQ G s Q W F ad hp env sc .next loc' hp') : wpAny (model G.prog G.w) A (exec (.Assign [t] e pos) env) Q E s :=
  wpAny_Assign_stores (ev A E env F ad s _ rm H R fun ad1 h1 tk1 v H1 r1 g1 => by
    rw [asg_one ok]
    exact assign_sound (s := { s with heap := h1, toks := tk1 }) I Z.hi e2 rm wr H1 (R.go H g1) r1 fun ad2 h2 tk2 H2 R2 g2 => q ad2 h2 tk2 .next H2 R2 ((g1.wide nil_sub).trans g2) rfl) hs (swapped_none ok)
theorem Done.wrote {D C : Addr} {rv : RV} {ad2 : Ad} {h2 : Heap} (d : Done G s F ad hp env sc loc rv hp1 D C ad1 h') (H : HR G s.heap F ad hp) (R : FRel G s.heap F ad hp env sc loc) {g : Heap} (sb : Heap.SameBut C h2 g) (H2 : HR G h2 (C :: F) ad2 hp') (R2 : FRel G h2 (C :: F) ad2 hp' env sc loc') (g2 : Go G W (C :: F) ad1 hp1 h' ad2 hp' h2) :
    HR G g F ad2 hp' ∧ FRel G g F ad2 hp' env sc loc' ∧ Go G W F ad hp s.heap ad2 hp' g := by
  have k := same_keep sb
  have g3 : Go G (C :: W) (C :: F) ad1 hp1 h' ad2 hp' g := (g2.wide fun b hb => .tail _ hb).trans (Go.wrk (.head _) k.1 k.2)
  have g4 : Go G (C :: W) F ad1 hp1 h' ad2 hp' g := g3.unguard (fun _ _ e => e) (Nat.le_refl _) (fun b hb => .tail _ hb) fun b hb => .inl hb
  exact ⟨(H2.wrk (.head _) k.1 k.2).less fun b hb => .tail _ hb, (R2.wrk2 R (.head _) (d.nC H) k.1).less R fun b hb => .tail _ hb, ((d.go.wide nil_sub).trans g4).unguard (fun _ _ e => e) (Nat.le_refl _) (fun _ hb => hb) fun b hb => (List.mem_cons.mp hb).elim (fun z => .inr (z ▸ d.new)) .inl⟩
theorem Done.keepC {D C : Addr} {rv : RV} {ad2 : Ad} {h2 : Heap} (d : Done G s F ad hp env sc loc rv hp1 D C ad1 h') (H : HR G s.heap F ad hp) (wr : WR W F env) (g2 : Go G W (C :: F) ad1 hp1 h' ad2 hp' h2) (o : Obj) (eo : h'.get? C = some o) : h2.get? C = some o :=
  (g2.keep C o eo (fun y => (d.hr.lo _ y).2.2 (.head _)) (fun y => d.nC H (wr.sub _ y))).elim id fun y => absurd (.inr (.inl (.head _))) y.1
theorem asg_comp (Z : Env0 G K fI glob mg mb cfg N) (I : SIh G glob n ih) {t elt : Expr} {gens : List Comprehension} {p pos : Pos} {rv : RV} (ok : tgtOk t (.ListComp elt gens scope p) = true) (e1 : compI cfg ih sc loc hp elt gens scope p = some (rv, hp1)) (e2 : assignI ih sc loc hp1 t rv = some (loc', hp')) (hb : swapsWithSole [t] (.ListComp elt gens scope p) pos.line env = pure true)
    {Q : Flow → Shared → Prop} (rm : Room A n) (wr : WR W F env) (H : HR G s.heap F ad hp) (R : FRel G s.heap F ad hp env sc loc) (q : XQ G s Q W F ad hp env sc .next loc' hp') : wpAny (model G.prog G.w) A (exec (.Assign [t] (.ListComp elt gens scope p) pos) env) Q E s := by
  refine comp_shape (P := fun gens => swapsWithSole [t] (.ListComp elt gens scope p) pos.line env = pure true → wpAny (model G.prog G.w) A (exec (.Assign [t] (.ListComp elt gens scope p) pos) env) Q E s) e1 (fun x px iter ifs ok' ee hb => ?_) hb
  rw [exec_Assign_arm]
  refine wpAny_bind (wpAny_standAt ?_)
  rw [hb]
  refine wpAny_bind (wpAny_pure ?_)
  rw [if_pos rfl]
  refine wpAny_bind ?_
  show wpAny _ _ (comprehension _ scope env _ (newList []) false (eval iter env) (some fun v => assignAll v ((assignEach [t] env).map (·.2))) >>= fun _ => pure ()) _ _ _
  refine wpAny_bind (comp_run Z I ok' ee rm H R fun D C ad1 h1 tk1 d => ?_)
  show wpAny _ _ (assignAll (.ref D) ((assignEach [t] env).map (·.2))) _ _ _
  rw [asg_one ok]
  refine assign_sound (s := { s with heap := h1, toks := tk1 }) I Z.hi e2 rm (wr.more fun b hb => .tail _ hb) d.hr d.fr d.rv fun ad2 h2 tk2 H2 R2 g2 => ?_
  obtain ⟨m, ns⟩ := d.ns
  exact ⟨m, nsAt0 ns (d.keepC H wr g2), fun g sb => wpAny_pure (wpAny_pure (have w := d.wrote H R sb H2 R2 g2; q ad2 g tk2 .next w.1 w.2.1 w.2.2 rfl))⟩
theorem asg_sound (Z : Env0 G K fI glob mg mb cfg N) (I : SIh G glob n ih) {t e : Expr} {pos : Pos} {rv : RV} (ok : tgtOk t e = true) (e1 : valI cfg ih sc loc hp e = some (rv, hp1)) (e2 : assignI ih sc loc hp1 t rv = some (loc', hp')) :
    ExAt G n sc loc hp (.Assign [t] e pos) .next loc' hp' := by
  intro A E env W F ad s Q rm wr H R q
  cases e with
  | ListComp elt gens scope p =>
    obtain ⟨b, hb⟩ : ∃ b, swapsWithSole [t] (.ListComp elt gens scope p) pos.line env = pure b := by cases t <;> exact ⟨_, rfl⟩
    cases b with
    | false => exact asg_plain Z I ok e2 hb (comp_sound Z I e1) rm wr H R q
    | true => exact asg_comp Z I ok e1 e2 hb rm wr H R q
  | SetComp _ _ _ _ => exact nn e1
  | DictComp _ _ _ _ _ => exact nn e1
  | _ => exact asg_plain Z I ok e2 rfl (I.ev e1) rm wr H R q
end
end Mine
end
section
open PySem PySem.W PyProof.Rows PySem.Calls
set_option maxRecDepth 100000
namespace Mine

section
variable {G : Gnd} {glob : Str → Option Addr} {n N : Nat} {ih : Ih} {A : Around} {E : Value → Shared → Prop} {s : Shared} {env : Env} {W W' F F0 F' T : List Addr} {ad ad0 ad1 ad' : Ad} {hp hp' hp1 hp2 : Hp} {h h' h'' : Heap} {scope : Scope} {x : Str} {sc sc' : Sc} {loc loc' loc0 loc1 : Loc} {X X' : Addr → Prop}
variable {K : Frag} {fI : Addr} {mg mb : Str → Option Value} {cfg : Cfg}

theorem ExAt.at {st : Stmt} {fl fl' : Flw} {loc'' : Loc} {hp'' : Hp} (w : ExAt G n sc loc hp st fl' loc'' hp'') (e : some (fl', loc'', hp'') = some (fl, loc', hp')) : ExAt G n sc loc hp st fl loc' hp' := sp3 (P := fun fl loc' hp' => ExAt G n sc loc hp st fl loc' hp') e w
theorem interactive_fn (R : FRel G h F ad hp env sc loc) : interactive env = false := by
  unfold interactive
  rw [R.kind]; rfl
theorem aug_sound (I : SIh G glob n ih) {t : Expr} {pos : Pos} {op : Operator} {e : Expr} {fl : Flw} (ee : exAug ih sc loc hp t op e = some (fl, loc', hp')) : ExAt G n sc loc hp (.AugAssign t op e pos) fl loc' hp' :=
  bs ee fun x e1 ee => gs ee fun hx ee => bs ee fun a ea ee => bs ee fun i ei ee => bs2 ee fun v hp1 e2 ee => bs ee fun j ej ee => me ee fun k ek ee => nameE (P := fun t => ExAt G n sc loc hp (.AugAssign t op e pos) fl loc' hp') e1 fun px A E env W F ad s Q rm wr H R q => by
    refine wpAny_AugAssign_Name (load_sound R ea fun old ro => I.one e2 rm H R fun ad1 h1 tk1 w H1 R1 g1 r1 => ?_)
    have fin : ∀ {u : Tok} {tk : Nat}, wpAny (model G.prog G.w) A (storeName env x (.int k u)) (fun _ => Q .next) E { s with heap := h1, toks := tk } := fun {u tk} =>
      store_sound (s := { s with heap := h1, toks := tk }) (rv := .a (.int k)) wr H1 R1 hx (AR.int k u) fun h2 tk2 H2 R2 g2 => (q.at ee) ad1 h2 tk2 .next H2 R2 ((g1.wide nil_sub).trans g2) rfl
    obtain ⟨t1, ei⟩ := RVR.ofInt (P := fun v => ∃ t, v = .int i t) ei ro fun t => ⟨t, rfl⟩
    obtain ⟨t2, ej⟩ := RVR.ofInt (P := fun v => ∃ t, v = .int j t) ej r1 fun t => ⟨t, rfl⟩
    rw [ei, ej]
    cases op with
    | Add => rw [← Option.some.inj ek] at fin; exact PyProof.Rows.iadd_int fin
    | Sub => rw [← Option.some.inj ek] at fin; exact PyProof.Rows.isub_int fin
    | _ => exact nn ek
theorem assign_arm (Z : Env0 G K fI glob mg mb cfg N) (I : SIh G glob n ih) {ts : List Expr} {e : Expr} {pos : Pos} {fl : Flw} (ee : ((one ts).bind fun t => gd (tgtOk t e) ((valI cfg ih sc loc hp e).bind fun q => (assignI ih sc loc q.2 t q.1).map fun q' => (Flw.next, q'.1, q'.2))) = some (fl, loc', hp')) : ExAt G n sc loc hp (.Assign ts e pos) fl loc' hp' :=
  bs ee fun t e0 ee => gs ee fun ok ee => bs2 ee fun v hp1 e1 ee => me2 ee fun l2 hp2 e2 e3 => oneE (P := fun ts => ExAt G n sc loc hp (.Assign ts e pos) fl loc' hp') e0 ((asg_sound Z I ok e1 e2).at e3)
theorem expr_arm (I : SIh G glob n ih) {e : Expr} {pos : Pos} {fl : Flw} (ee : gd (noComp e) ((ih.ev sc loc hp e).bind fun q => (rA q.1).bind fun v => gd (isNI v) (some (Flw.next, loc, q.2))) = some (fl, loc', hp')) : ExAt G n sc loc hp (.Expr e pos) fl loc' hp' :=
  gs ee fun nc ee => bs2 ee fun v hp1 e1 ee => bs ee fun x e2 ee => gs ee fun ni ee A E env W F ad s Q rm wr H R q =>
    wpAny_Expr (I.one e1 rm H R fun ad1 h1 tk1 v1 H1 R1 g1 r1 => by
      have z := (q.at ee) ad1 h1 tk1 .next H1 R1 (g1.wide nil_sub) rfl
      have r := r1.ofA e2
      cases x with
      | none => rw [(r.inv : v1 = .none)]; exact z
      | int i =>
        obtain ⟨t, e⟩ := (r.inv : ∃ t, v1 = .int i t)
        rw [e]; exact z
      | _ => exact ft ni) (interactive_fn R) (by cases e <;> first | exact rfl | exact ft nc)
theorem XQ.after {Q : Flow → Shared → Prop} {fl : Flw} {h1 : Heap} {tk1 : Nat} (q : XQ G s Q W F ad hp env sc fl loc' hp') (g1 : Go G W F ad hp s.heap ad1 hp1 h1) : XQ G { s with heap := h1, toks := tk1 } Q W F ad1 hp1 env sc fl loc' hp' := fun ad2 h2 tk2 f H2 R2 g2 r2 => q ad2 h2 tk2 f H2 R2 (g1.trans g2) r2
theorem if_arm (Z : Env0 G K fI glob mg mb cfg N) (I : SIh G glob n ih) (nN : N ≤ n) {t : Expr} {b o : List Stmt} {pos : Pos} {fl : Flw} (ee : ((cfg.orcS sc (.If t b o pos) loc hp).map fun q => (Flw.next, q.1, q.2)).or (exIf ih sc loc hp t b o) = some (fl, loc', hp')) : ExAt G n sc loc hp (.If t b o pos) fl loc' hp' :=
  os ee (fun ee => me ee fun q eo ee => ((Z.orcS eo).up nN).at ee) fun ee => bs2 ee fun c hp1 e1 ee A E env W F ad s Q rm wr H R q =>
    wpAny_If (I.tr e1 A E env F ad s _ rm H R fun ad1 h1 tk1 H1 g1 => by
      have go : ∀ b, ih.exs sc loc hp1 b = some (fl, loc', hp') → wpAny (model G.prog G.w) A (execs b env) Q E { s with heap := h1, toks := tk1 } := fun b ee => I.exs ee A E env W F ad1 { s with heap := h1, toks := tk1 } Q rm wr H1 (R.go H g1) (q.after (g1.wide nil_sub))
      cases c
      · exact go o ee
      · exact go b ee)
theorem for_arm (Z : Env0 G K fI glob mg mb cfg N) (I : SIh G glob n ih) {t e : Expr} {b o : List Stmt} {pos : Pos} {fl : Flw} (ee : exFor ih sc loc hp t e b o = some (fl, loc', hp')) : ExAt G n sc loc hp (.For t e b o pos) fl loc' hp' :=
  bs ee fun x e1 ee => gs ee fun eo ee => gs ee fun hx ee => gs ee fun ns ee => by
    rw [List.isEmpty_iff.mp eo]
    exact nameE (P := fun t => ExAt G n sc loc hp (.For t e b [] pos) fl loc' hp') e1 fun px => for_sound Z I hx ns ee
theorem ret_arm (I : SIh G glob n ih) {e : Option Expr} {pos : Pos} {fl : Flw} (ee : stepEx0 cfg ih sc loc hp (.Return e pos) = some (fl, loc', hp')) : ExAt G n sc loc hp (.Return e pos) fl loc' hp' := by
  cases e with
  | none => exact fun A E env W F ad s Q rm wr H R q => wpAny_Return_none ((q.at ee) ad s.heap s.toks _ H R Go.refl ⟨_, rfl, AR.none⟩)
  | some e => exact me2 ee fun v hp1 e1 e2 A E env W F ad s Q rm wr H R q => wpAny_Return_some (I.one e1 rm H R fun ad1 h1 tk1 v1 H1 R1 g1 r1 => (q.at e2) ad1 h1 tk1 _ H1 R1 (g1.wide nil_sub) ⟨_, rfl, r1⟩)
theorem ex0_sound (Z : Env0 G K fI glob mg mb cfg N) (I : SIh G glob n ih) (nN : N ≤ n) {st : Stmt} {fl : Flw} (ee : stepEx0 cfg ih sc loc hp st = some (fl, loc', hp')) : ExAt G n sc loc hp st fl loc' hp' := by
  cases st with
  | Return e pos => exact ret_arm I ee
  | Assign ts e pos => exact assign_arm Z I ee
  | AugAssign t op e pos => exact aug_sound I ee
  | Expr e pos => exact expr_arm I ee
  | If t b o pos => exact if_arm Z I nN ee
  | For t e b o pos => exact for_arm Z I ee
  | While t b o pos => exact gs ee fun eo ee => by rw [List.isEmpty_iff.mp eo]; exact while_sound I ee
  | Pass pos => exact fun A E env W F ad s Q rm wr H R q => wpAny_Pass ((q.at ee) ad s.heap s.toks _ H R Go.refl rfl)
  | _ => exact nn ee

theorem ex_sound (Z : Env0 G K fI glob mg mb cfg N) (I : SIh G glob n ih) (nN : N ≤ n) {st : Stmt} {fl : Flw} (ee : stepEx cfg ih sc loc hp st = some (fl, loc', hp')) : ExAt G n sc loc hp st fl loc' hp' :=
  bs ee fun q3 e1 e2 => by
    obtain ⟨f1, l1, hp1⟩ := q3
    have w := ex0_sound Z I nN e1
    cases f1 with
    | ret v => exact w.at e2
    | next =>
      exact me2 e2 fun l2 hp2 e3 e4 A E env W F ad s Q rm wr H R q => w A E env W F ad s Q rm wr H R fun ad1 h1 tk1 f H1 R1 g1 r1 =>
        have z := fzNames_ok H1 e3
        (q.at e4) ad1 h1 tk1 f z.hr (R1.fz z) (g1.fz z.own) r1

theorem exs_sound (I : SIh G glob n ih) {sts : List Stmt} : ∀ {loc : Loc} {hp : Hp} {fl : Flw} {loc' : Loc} {hp' : Hp}, stepExs ih sc loc hp sts = some (fl, loc', hp') → ExsAt G n sc loc hp sts fl loc' hp' := by
  induction sts with
  | nil => exact fun ee A E env W F ad s Q rm wr H R q => wpAny_execs_nil ((q.at ee) ad s.heap s.toks _ H R Go.refl rfl)
  | cons st r ihr =>
    refine fun {loc hp fl loc' hp'} ee => bs ee fun q3 e1 e2 => ?_
    obtain ⟨f1, l1, hp1⟩ := q3
    refine fun A E env W F ad s Q rm wr H R q => wpAny_execs_cons (I.ex e1 A E env W F ad s _ rm wr H R fun ad1 h1 tk1 f H1 R1 g1 r1 => ?_)
    cases f1 with
    | ret v =>
      obtain ⟨w, ew, r2⟩ := r1
      rw [ew]
      exact (q.at e2) ad1 h1 tk1 _ H1 R1 g1 ⟨w, rfl, r2⟩
    | next =>
      rw [(r1 : f = .next)]
      exact ihr e2 A E env W F ad1 { s with heap := h1, toks := tk1 } Q rm wr H1 R1 (q.after g1)

theorem step_sound (Z : Env0 G K fI glob mg mb cfg N) (I : SIh G glob n ih) (nN : N ≤ n) : SIh G glob (n + 1) (stepIh cfg ih) where
  ev := fun e => (ev_sound Z I nN e).up (Nat.le_succ n)
  tr := fun e => fun A E env F ad s Q rm => tr_sound I Z.hv e A E env F ad s Q (rm.less (Nat.le_succ n))
  ex := fun e => (ex_sound Z I nN e).up (Nat.le_succ n)
  exs := fun e => fun A E env W F ad s Q rm => exs_sound I e A E env W F ad s Q (rm.less (Nat.le_succ n))
  cl := fun e => cl_sound I Z.gf e
theorem run_sound (Z : Env0 G K fI glob mg mb cfg N) : ∀ k, SIh G glob (N + k) (run cfg k)
  | 0 => ⟨fun e => nn e, fun e => nn e, fun e => nn e, fun e => nn e, fun e => nn e⟩
  | k + 1 => step_sound Z (run_sound Z k) (Nat.le_add_right N k)
end
end Mine
end
section
open PySem PySem.W PyProof.Rows PySem.Calls
set_option maxRecDepth 100000
namespace Mine

section
variable {G : Gnd} {glob : Str → Option Addr} {n N : Nat} {ih : Ih} {A : Around} {E : Value → Shared → Prop} {s : Shared} {env : Env} {W W' F F0 F' T : List Addr} {ad ad0 ad1 ad' : Ad} {hp hp' hp1 hp2 : Hp} {h h' h'' : Heap} {scope : Scope} {x : Str} {sc sc' : Sc} {loc loc' loc0 loc1 : Loc} {X X' : Addr → Prop}
variable {K : Frag} {fI : Addr} {mg mb : Str → Option Value} {cfg : Cfg}

theorem FRel.conv (R : FRel G h F ad hp env sc loc) (kF : ∀ b ∈ F, b ∈ F') (vals : ∀ y rv, alook y loc' = some rv → ∃ rv0, alook y loc = some rv0 ∧ ∀ w, RVR G h (Xp G F ad hp) ad rv0 w → RVR G h (Xp G F' ad' hp') ad' rv w) : FRel G h F' ad' hp' env sc loc' := by
  obtain ⟨m, ns, k⟩ := R.ns
  refine ⟨R.kind, R.glob, R.bltn, R.tyl, R.tyc, R.tyf, R.tyg, R.nodbg, fun x rv e => Exists.elim (vals x rv e) fun rv0 q => R.kinds x rv0 q.1, ⟨m, ns, fun x rv e l => Exists.elim (vals x rv e) fun rv0 q => Exists.elim (k x rv0 q.1 l) fun v u => ⟨v, u.1, q.2 v u.2⟩⟩, fun x l => ?_, R.inj, kF _ R.locF⟩
  obtain ⟨c, cv, e1, e2, e3, e4, e5⟩ := R.cell x l
  exact ⟨c, cv, e1, e2, kF _ e3, e4, fun rv e => Exists.elim (vals x rv e) fun rv0 q => Exists.elim (e5 rv0 q.1) fun v u => ⟨v, u.1, q.2 v u.2⟩⟩

theorem foc_nil (H : HR G h F ad hp) : Foc G h F ad hp [] [] [] (F ++ othersL [] ad hp) := focus H List.nodup_nil rfl
theorem foc_sub (H : HR G h F ad hp) : ∀ b, Xp G (F ++ othersL [] ad hp) [] [] b → Xp G F ad hp b := (foc_nil H).fc.sub
structure MN (G : Gnd) (h h' : Heap) (F : List Addr) (ad : Ad) (hp : Hp) : Prop where
  hr : HR G h' F ad hp
  go : Go G [] F ad hp h ad hp h'
  sub : ∀ b, Xp G F ad hp b → Xp G (F ++ othersL [] ad hp) [] [] b
theorem merge_nil (H : HR G h F ad hp) (H1 : HR G h' (F ++ othersL [] ad hp) [] []) (g : Go G [] (F ++ othersL [] ad hp) [] [] h [] [] h') : MN G h h' F ad hp := by
  have M : MgR G h h' F (F ++ othersL [] ad hp) ad hp [] [] 0 (ad ++ []) (hp ++ []) := merge (more := []) H (foc_nil H) H1 g rfl (Nat.le_refl _) rfl
  rw [List.append_nil, List.append_nil] at M
  exact ⟨M.hr, M.go, M.sub⟩

/-- an expression whose value stands on no owned thing -/
theorem ev_nil {e : Expr} {v : AV} (w : EvAt G n sc loc [] e (.a v) []) (vals : ∀ y rv, alook y loc = some rv → ∃ u, rv = .a u) (sub : ∀ y u, alook y loc = some (.a u) → ∃ u0, alook y loc0 = some (.a u0) ∧ ∀ (h : Heap) (X : Addr → Prop) w, AR G h X u0 w → AR G h X u w) : EvAt G n sc loc0 hp e (.a v) hp := by
  intro A E env F ad s Q rm H R q
  have sb := foc_sub H
  refine w A E env (F ++ othersL [] ad hp) [] s Q rm (foc_nil H).hr (R.conv (fun b hb => List.mem_append_left _ hb) fun y rv e => ?_) fun ad1 h1 tk1 u H1 r1 g1 => ?_
  · obtain ⟨u, eu⟩ := vals y rv e
    rw [eu] at e ⊢
    obtain ⟨u0, e0, k⟩ := sub y u e
    exact ⟨.a u0, e0, fun w r => AR.weaken sb (k _ _ w r)⟩
  · have l := H1.len
    cases ad1 with
    | cons _ _ => exact nomatch l
    | nil => exact have M := merge_nil H H1 g1; q ad h1 tk1 u M.hr (AR.weaken M.sub r1) M.go

theorem no_own {k : Nat} {b : Addr} : ¬ Own ad0 (List.replicate k .dead) b := fun ⟨i, p, o, _, e2, e3⟩ => by
  rw [List.eq_of_mem_replicate (nth_mem e2)] at e3; exact nomatch e3
theorem hr_dead (H : HR G h F [] []) (k : Nat) (ad0 : Ad) (l : ad0.length = k) : HR G h F ad0 (List.replicate k .dead) :=
  ⟨H.base, H.size, by rw [l, List.length_replicate], fun i o p e _ => by rw [List.eq_of_mem_replicate (nth_mem e)]; exact trivial, fun i j p q o o' b _ e1 _ e3 _ h1 _ => absurd ⟨i, p, o, e1, e3, h1⟩ (no_own (b := b)), fun b ob => absurd ob no_own, H.fr⟩
theorem refs_at {X : Addr → Prop} : ∀ {as : List RV} {vs : List Value}, RVRs G h X ad as vs → ∀ i ∈ refsOf as, ∃ p, nth ad i = some p := fun {as} => by
  induction as with
  | nil => exact fun _ _ hi => nomatch hi
  | cons a as ih =>
    cases a with
    | a v => exact fun {vs} r i hi => All2.consE (P := fun _ => ∃ p, nth ad i = some p) r fun y m r rs => ih rs i hi
    | r j => exact fun {vs} r i hi => All2.consE (P := fun _ => ∃ p, nth ad i = some p) r fun y m r rs => (List.mem_cons.mp hi).elim (fun z => by rw [z]; exact Exists.elim r fun p q => ⟨p, q.1⟩) fun hi => ih rs i hi
/-- a call that leaves what it is handed alone -/
noncomputable def callDead (ih : Ih) (f : Str) (as : List RV) : Option AV := (ih.cl f (renum 0 as) (List.replicate (refsOf as).length .dead)).bind fun q => (fzRes q.1 q.2).bind fun q' => rA q'.1
theorem dead_sound (I : SIh G glob n ih) {f : Str} {as : List RV} {v : AV} (e : callDead ih f as = some v) : ClAt G glob n f as hp (.a v) hp :=
  bs2 e fun v1 hp1 e1 e2 => bs2 e2 fun v2 hp2 ef e3 => by
    obtain ⟨fa, eg, k⟩ := I.cl e1
    refine ⟨fa, eg, fun A E F ad s vs Q rm H ra q => ?_⟩
    have sb := foc_sub H
    have H0 := hr_dead (foc_nil H).hr (refsOf as).length ((refsOf as).map fun i => (nth ad i).getD (0, 0)) (List.length_map _)
    have sb0 : ∀ b, Xp G (F ++ othersL [] ad hp) ((refsOf as).map fun i => (nth ad i).getD (0, 0)) (List.replicate (refsOf as).length .dead) b → Xp G F ad hp b := fun b x => sb b (x.imp id fun y => y.imp id fun z => absurd z no_own)
    have ra0 := renum_ok (j := 0) (ad0 := (refsOf as).map fun i => (nth ad i).getD (0, 0)) sb0 (fun m i e => by
      obtain ⟨p, ep⟩ := refs_at ra i (nth_mem e)
      rw [Nat.zero_add, nth_map, e, Option.map_some, ep]; rfl) ra
    refine k A E _ _ s vs Q rm H0 ra0 fun ad1 h1 tk1 w H1 r1 g1 => ?_
    have z := fzRes_ok H1 ef
    have H3 := z.hr.drop (k := 0) (by rw [List.take_zero]; rfl)
    rw [List.take_zero, List.take_zero] at H3
    have g3 : Go G [] (F ++ othersL [] ad hp) [] [] s.heap [] [] h1 := ⟨g1.size, fun _ _ e => e, fun b ob => .inl ob, fun b o e _ w => (g1.keep b o e no_own w).imp id fun z => ⟨fun y => z.1 (y.imp id fun y => y.imp id fun ⟨i, p, o, e, _⟩ => nomatch e), z.2⟩⟩
    have M := merge_nil H H3 g3
    exact q ad h1 tk1 w M.hr (AR.weaken (fun b x => (M.sub b x).imp id fun y => y.imp id fun ⟨i, p, o, e, _⟩ => nomatch e) (RVR.ofA e3 (z.val w r1))) M.go
end
end Mine
end
section
open PySem PySem.W PyProof.Rows PySem.Calls
set_option maxRecDepth 100000
namespace Mine

theorem zip_some {l : List Str} {vs : List Value} (e : vs.length = l.length) : ∀ n ∈ l, ((l.zip vs).lookup n).isSome = true := by
  induction l generalizing vs with
  | nil => intro n h; cases h
  | cons x l ih =>
    cases vs with
    | nil => cases e
    | cons v vs =>
      intro n h
      rw [List.zip_cons_cons, List.lookup_cons]
      cases q : n == x with
      | true => rfl
      | false =>
        rcases List.mem_cons.mp h with rfl | h
        · simp at q
        · exact ih (by simpa using e) n h
theorem zip_map {l : List Str} {vs : List Value} (nd : l.Nodup) (e : vs.length = l.length) : l.filterMap (fun n => ((l.zip vs).lookup n).map (n, ·)) = l.zip vs := by
  have : ∀ (l' : List Str) (vs' : List Value) (pre : List (Str × Value)), l'.Nodup → vs'.length = l'.length → (∀ n ∈ l', pre.lookup n = none) → l'.filterMap (fun n => ((pre ++ l'.zip vs').lookup n).map (n, ·)) = l'.zip vs' := by
    intro l'
    induction l' with
    | nil => intros; rfl
    | cons x l ih =>
      intro vs' pre nd e hp
      cases vs' with
      | nil => cases e
      | cons v vs' =>
        rw [List.nodup_cons] at nd
        have h1 : (pre ++ (x :: l).zip (v :: vs')).lookup x = some v := by
          rw [List.lookup_append, hp x (.head _)]
          simp
        rw [List.filterMap_cons, h1]
        simp only [Option.map_some, List.zip_cons_cons]
        congr 1
        have := ih vs' (pre ++ [(x, v)]) nd.2 (by simpa using e) (fun n hn => by
          rw [List.lookup_append, hp n (.tail _ hn)]
          have ne : n ≠ x := fun z => nd.1 (z ▸ hn)
          have : (n == x) = false := by simpa using ne
          simp [List.lookup_cons, this])
        rw [List.append_assoc] at this
        exact this
  simpa using this l vs [] nd e (fun _ _ => rfl)

theorem bind_plain {s : Shared} {fd : FuncData} {vals : List Value} {r : Option (Array Value)} (hp : fd.params.posonlyargs = []) (hk : fd.params.kwonlyargs = []) (hv : fd.params.vararg = none) (hw : fd.params.kwarg = none)
    (nd : (fd.params.args.map (·.arg)).Nodup) (hl : vals.length = (fd.params.args.map (·.arg)).length) (hd : ∀ (M : Model) (A : Around) (E : Value → Shared → Prop) (Q : Option (Array Value) → Shared → Prop), Q r s → wpAny M A (seqItems? fd.defaults) Q E s) :
    BindsTo s fd ⟨vals, []⟩ ((fd.params.args.map (·.arg)).zip vals) := by
  intro M A E Q hq
  unfold bindArgs
  simp only [hp, hk, hv, hw, List.map_nil, List.nil_append, List.append_nil, List.forIn_nil, pure_bind]
  refine wpAny_bind (hd M A E _ ?_)
  have h1 : ¬ (decide (vals.length > (fd.params.args.map (·.arg)).length) && (none : Option Arg).isNone) = true := by simp [hl]
  rw [if_neg h1]
  generalize fd.params.args.map (·.arg) = l at nd hl h1 hq ⊢
  have so := zip_some (vs := vals) hl
  have h2 : ∀ k, (List.filter (fun n => ((l.zip vals).lookup n).isNone) (l.take k)).isEmpty = true := fun k => by
    rw [List.isEmpty_iff, List.filter_eq_nil_iff]
    intro n hn
    have := so n (List.mem_of_mem_take hn)
    cases q : (l.zip vals).lookup n with
    | none => rw [q] at this; cases this
    | some v => simp
  rw [if_neg (by rw [h2]; simp)]
  have h3 : ∀ (l' : List (Str × Value)), (∀ x ∈ l', x.1 ∈ l) → (forIn l' (l.zip vals) (fun (x : Str × Value) (slots : List (Str × Value)) => (if (slots.lookup x.1).isNone = true then pure (ForInStep.yield (slots ++ [(x.1, x.2)])) else pure (ForInStep.yield slots) : Sem (ForInStep (List (Str × Value))))) : Sem (List (Str × Value))) = pure (l.zip vals) := by
    intro l'
    induction l' with
    | nil => intro _; rw [List.forIn_nil]
    | cons x r ih =>
      intro hx
      have := so x.1 (hx x (.head _))
      rw [List.forIn_cons]
      cases q : (l.zip vals).lookup x.1 with
      | none => rw [q] at this; cases this
      | some v =>
        rw [if_neg (by simp), pure_bind]
        exact ih fun y hy => hx y (.tail _ hy)
  rw [h3 _ (fun x hx => List.mem_of_mem_drop (List.of_mem_zip hx).1), pure_bind]
  rw [if_neg (by simp)]
  have h4 : (l.filterMap fun n => ((l.zip vals).lookup n).map (n, ·)) = l.zip vals := zip_map nd hl
  rw [h4]
  exact wpAny_pure hq

noncomputable def fdOf (K : Frag) (a : Addr) : Option FuncData := match K.lookup a with
  | some o => (match o.data with | .func fd => some fd | _ => none)
  | none => none
noncomputable def dfltOk (K : Frag) : Value → Bool
  | .none => true
  | .ref t => (match K.lookup t with | some ⟨_, _, .seq _ _, _⟩ => true | _ => false)
  | _ => false
noncomputable def fdChk (K : Frag) (fd : FuncData) : Bool :=
  Nat.beq fd.globals mainGlobals && Nat.beq fd.builtins builtinsNs && fd.closure.isEmpty && !fd.scope.isCoroutine && !fd.scope.isGenerator && (match fd.scope.kind with | .function => true | _ => false) && codeIn K fd.code fd.qualname &&
  fd.params.posonlyargs.isEmpty && fd.params.kwonlyargs.isEmpty && fd.params.vararg.isNone && fd.params.kwarg.isNone && nodupS (fd.params.args.map (·.arg)) && noDbg fd.scope.names && fd.scope.names.all (fun p => match p.2 with | .free => false | _ => true) && dfltOk K fd.defaults
structure FnOk (K : Frag) (fa : Addr) (d : FD) : Prop where
  some : (fdOf K fa).isSome = true
  body : ((fdOf K fa).getD default).body = .stmts d.body
  names : ((fdOf K fa).getD default).scope.names = d.names
  params : ((fdOf K fa).getD default).params.args.map (·.arg) = d.params
  chk : fdChk K ((fdOf K fa).getD default) = true
theorem dflt_run {K : Frag} {v : Value} (e : dfltOk K v = true) : ∃ r : Option (Array Value), ∀ s : Shared, K.In s.heap → ∀ (M : Model) (A : Around) (E : Value → Shared → Prop) (Q : Option (Array Value) → Shared → Prop), Q r s → wpAny M A (seqItems? v) Q E s := by
  unfold dfltOk at e
  split at e
  · refine ⟨none, fun s _ M A E Q q => ?_⟩
    exact wpAny_pure q
  · split at e
    · rename_i ho
      exact ⟨some _, fun s X M A E Q q => wpAny_seqItems (X _ _ ho) rfl q⟩
    · cases e
  · cases e
theorem fnAt_of {G : Gnd} {K : Frag} {fa : Addr} {d : FD} (KX : K.In G.h0) (lim : G.h0.NoLimit) (h : FnOk K fa d) : Nonempty (FnAt G fa d) := by
  obtain ⟨h1, h2, h3, h4, h5⟩ := h
  cases e : fdOf K fa with
  | none => rw [e] at h1; cases h1
  | some fd =>
    rw [e] at h2 h3 h4 h5
    simp only [Option.getD_some] at h2 h3 h4 h5
    have ⟨o, eo, ed⟩ : ∃ o, K.lookup fa = some o ∧ o.data = .func fd := by
      unfold fdOf at e
      split at e
      · rename_i o eo
        split at e
        · rename_i ed; cases e; exact ⟨o, eo, ed⟩
        · cases e
      · cases e
    unfold fdChk at h5
    simp only [Bool.and_eq_true] at h5
    obtain ⟨⟨⟨⟨⟨⟨⟨⟨⟨⟨⟨⟨⟨⟨c1, c2⟩, c3⟩, c4⟩, c5⟩, c6⟩, c7⟩, c8⟩, c9⟩, c10⟩, c11⟩, c12⟩, c13⟩, c14⟩, c15⟩ := h5
    have k6 : fd.scope.kind = .function := by
      split at c6
      · assumption
      · cases c6
    obtain ⟨r, hr⟩ := dflt_run c15
    refine ⟨{ o := o, fd := fd, at_ := KX _ _ eo, data := ed, body := h2, names := h3, globals := Nat.eq_of_beq_eq_true c1, builtins := Nat.eq_of_beq_eq_true c2, clo := List.isEmpty_iff.mp c3, co := by simpa using c4, gen := by simpa using c5, kind := k6, code := codeRec_of KX c7, lim := lim, nodup := by rw [← h4]; exact nodupS_iff c12, noFree := fun x z => ?_, nodbg := by rw [← h3]; exact noDbg_ok c13, bind := fun s vals kp hl => ?_ }⟩
    · rw [← h3] at z
      have := List.all_eq_true.mp c14 _ (mem_of_lookup z)
      cases this
    · rw [← h4] at hl ⊢
      exact bind_plain (List.isEmpty_iff.mp c8) (List.isEmpty_iff.mp c9) (Option.isNone_iff_eq_none.mp c10) (Option.isNone_iff_eq_none.mp c11) (nodupS_iff c12) hl (hr s fun b o e => kp b o (KX b o e))
end Mine
end
section
open PySem PySem.W PyProof.Rows PySem.Calls
set_option maxRecDepth 100000
namespace Mine
noncomputable def fdip : { d : FD // fdAt P 92 = some d } := ⟨_, rfl⟩
noncomputable def cfg00 : Cfg := { cfg0 with dip := false }

section
variable {G : Gnd} {glob : Str → Option Addr} {n N : Nat} {ih : Ih} {A : Around} {E : Value → Shared → Prop} {s : Shared} {env : Env} {W W' F F0 F' T : List Addr} {ad ad0 ad1 ad' : Ad} {hp hp' hp1 hp2 : Hp} {h h' h'' : Heap} {scope : Scope} {x : Str} {sc sc' : Sc} {loc loc' loc0 loc1 : Loc} {X X' : Addr → Prop}
variable {K : Frag} {fI : Addr} {mg mb : Str → Option Value} {cfg : Cfg}

theorem exs_nil : ExsAt G n sc loc hp [] .next loc hp := fun _ _ _ _ _ ad s Q _ _ H R q => wpAny_execs_nil (q ad s.heap s.toks _ H R Go.refl rfl)
theorem exs_cons {st : Stmt} {r : List Stmt} {fl : Flw} (a : ExAt G n sc loc hp st .next loc1 hp1) (b : ExsAt G n sc loc1 hp1 r fl loc' hp') : ExsAt G n sc loc hp (st :: r) fl loc' hp' :=
  fun A E env W F ad s Q rm wr H R q => wpAny_execs_cons (a A E env W F ad s _ rm wr H R fun ad1 h1 tk1 f H1 R1 g1 r1 => by
    rw [(r1 : f = .next)]
    exact b A E env W F ad1 { s with heap := h1, toks := tk1 } Q rm wr H1 R1 (q.after g1))
theorem exs_stop {st : Stmt} {r : List Stmt} {v : RV} (a : ExAt G n sc loc hp st (.ret v) loc1 hp1) : ExsAt G n sc loc hp (st :: r) (.ret v) loc1 hp1 :=
  fun A E env W F ad s Q rm wr H R q => wpAny_execs_cons (a A E env W F ad s _ rm wr H R fun ad1 h1 tk1 f H1 R1 g1 r1 => by
    obtain ⟨w, ew, r2⟩ := r1
    rw [ew]
    exact q ad1 h1 tk1 _ H1 R1 g1 ⟨w, rfl, r2⟩)

noncomputable def intsR (W : List Int) : List RV := W.map fun w => .a (.int w)
theorem ints_rvrs {X : Addr → Prop} {vs : List Value} {W : List Int} (r : IntsAre vs W) : RVRs G h X ad (intsR W) vs := by
  induction r with
  | nil => exact trivial
  | cons n t r ih => exact ⟨AR.int n t, ih⟩
theorem rvrs_ints {X : Addr → Prop} : ∀ {W : List Int} {vs : List Value}, RVRs G h X ad (intsR W) vs → IntsAre vs W := fun {W} => by
  induction W with
  | nil => exact fun {vs} r => All2.nilE (P := fun vs => IntsAre vs []) r .nil
  | cons w W ih => exact fun {vs} r => All2.consE (P := fun vs => IntsAre vs (w :: W)) r fun y m r rs => AR.intE (P := fun y => IntsAre (y :: m) (w :: W)) r fun t => .cons w t (ih rs)
theorem nth_one {α : Type} {o x : α} {i : Nat} (e : nth [o] i = some x) : i = 0 ∧ o = x := by
  cases i with
  | zero => exact ⟨rfl, Option.some.inj e⟩
  | succ i => exact nn e
theorem own_1 {o o' : AO} {b : Addr} (e : ∀ p, ownsO p o' = ownsO p o) (q : Own ad [o'] b) : Own ad [o] b := by
  obtain ⟨i, p, x, e1, e2, e3⟩ := q
  have z := nth_one e2
  exact ⟨0, p, o, z.1 ▸ e1, rfl, by rw [← e, z.2]; exact e3⟩
theorem xp_one {o o' : AO} (e : ∀ p, ownsO p o' = ownsO p o) : Xp G F ad [o'] = Xp G F ad [o] := funext fun b => propext ⟨fun x => x.imp id fun x => x.imp id (own_1 e), fun x => x.imp id fun x => x.imp id (own_1 fun p => (e p).symm)⟩
theorem hr_one' {o o' : AO} (H : HR G h F ad [o]) (e : ∀ p, ownsO p o' = ownsO p o) (k : ∀ X (ad' : Ad) p, nth ad 0 = some p → OR G h X ad p o → OR G h X ad p o') : HR G h F ad [o'] := by
  refine ⟨H.base, H.size, H.len, fun i x p e1 e2 => ?_, fun i j p q x y b ne e1 e2 e3 e4 h1 h2 => absurd ((nth_one e3).1.trans (nth_one e4).1.symm) ne, fun b ob => H.lo b (own_1 e ob), H.fr⟩
  have z := nth_one e1
  rw [xp_one e, ← z.2]
  rw [z.1] at e2
  exact k _ ad _ e2 (H.obj 0 o p rfl e2)
theorem hr_one {o o' : AO} (H : HR G h F ad [o]) (e : ∀ p, ownsO p o' = ownsO p o) (k : ∀ X ad p, OR G h X ad p o → OR G h X ad p o') : HR G h F ad [o'] := hr_one' H e fun X _ p _ r => k X ad p r
theorem hr_well {l : List (Nat × Nat)} {W0 : List Int} (H : HR G h F ad [.well l W0]) : ∃ W1, unr l W1 = some W0 ∧ (∀ x ∈ W1, 0 ≤ x) ∧ W1.length ≤ 64 ∧ HR G h F ad [.lst (intsR W1)] := by
  obtain ⟨p, ep⟩ := H.adAt (i := 0) (o := .well l W0) rfl
  obtain ⟨W1, vs, m, e, r, nn, le, u⟩ := H.obj 0 _ p rfl ep
  refine ⟨W1, u, nn, le, hr_one' H (fun _ => rfl) fun X ad' p' ep' _ => ?_⟩
  rw [← Option.some.inj ((ep : nth ad 0 = some p).symm.trans ep')]
  exact ⟨vs, m, e, ints_rvrs r⟩
theorem well_hr {l : List (Nat × Nat)} {W0 W1 : List Int} (H : HR G h F ad [.lst (intsR W1)]) (nn : ∀ x ∈ W1, 0 ≤ x) (le : W1.length ≤ 64) (u : unr l W1 = some W0) : HR G h F ad [.well l W0] := hr_one H (fun _ => rfl) fun X ad p ⟨vs, n, e, r⟩ => ⟨W1, vs, n, e, rvrs_ints r, nn, le, u⟩

noncomputable def dloc (L : Int) : Loc := [("well", .r 0), ("limit", .a (.int L))]
noncomputable def dS (i : Nat) : Stmt := (nth fdip.1.body i).getD (.Pass default)
theorem dbody : fdip.1.body = [dS 0, dS 1, dS 2, dS 3, dS 4] := rfl
theorem dip_nil (I : SIh G glob n (run cfg00 9)) {L : Int} : ExsAt G n fdip.1.names (dloc L) [.lst []] fdip.1.body (.ret (.a (.int 0))) (dloc L) [.lst []] := I.exs (by kernel_rfl)

theorem dip_len (Z : Env0 G K fI glob mg mb cfg00 N) (I : SIh G glob n (run cfg00 9)) {L : Int} {x : RV} {l : List RV} (le : l.length ≤ 63) : ExAt G n fdip.1.names (dloc L) [.lst (x :: l)] (dS 0) .next (dloc L) [.lst (x :: l)] := by
  intro A E env W F ad s Q rm wr H R q
  show wpAny _ _ (exec (.If (.Compare (.Call (.Name "len" ⟨542, 7, 542, 10⟩) [.Name "well" ⟨542, 11, 542, 15⟩] [] ⟨542, 7, 542, 16⟩) [.Eq] [.Constant (.int 0) 0 ⟨542, 20, 542, 21⟩] ⟨542, 7, 542, 21⟩) _ [] ⟨542, 4, 543, 16⟩) env) _ _ _
  refine wpAny_If (wpAny_isTrue_Compare1 ?_ rfl)
  have eb : bcall "len" [.r 0] false [.lst (x :: l)] = some (.a (.int ((l.length + 1 : Nat) : Int)), [.lst (x :: l)]) := by
    have : bcall "len" [.r 0] false [.lst (x :: l)] = gd (Nat.ble (l.length + 1) 4096) (some (.a (.int ((l.length + 1 : Nat) : Int)), [.lst (x :: l)])) := by kernel_rfl
    rw [this, Nat.ble_eq_true_of_le (Nat.le_trans (Nat.succ_le_succ le) (by decide))]
    exact rfl
  refine call_name (v := .builtin "len") (rv := .a (.int ((l.length + 1 : Nat) : Int))) (hp' := [.lst (x :: l)]) Z I (by kernel_rfl) (.inr (Z.bl _ _ (by kernel_rfl))) (.inr (.inl ⟨_, rfl⟩)) (rs := [.r 0]) (hp1 := [.lst (x :: l)]) (by kernel_rfl) rm H R (fun ad1 h1 tk1 vs H1 r1 q1 => ?_) (fun ad1 h1 tk1 v H1 r1 g1 => ?_)
  · obtain ⟨v, e1, w⟩ := bcall_sound (E := E) (A := A) H1 rm.1 Z.hv.sx eb r1 q1
    exact Option.some.inj ((by kernel_rfl : biV "len" = some (.builtin "len")).symm.trans e1) ▸ w
  · obtain ⟨t, ev⟩ := (AR.inv r1 : ∃ t, v = .int ((l.length + 1 : Nat) : Int) t)
    rw [ev]
    refine wpAny_Constant_int (PyProof.Rows.eq_int (wpAny_truthy_bool ?_))
    rw [show (((l.length + 1 : Nat) : Int) == 0) = false from beq_eq_false_iff_ne.mpr (Int.ne_of_gt (Int.natCast_succ_pos _))]
    exact wpAny_execs_nil (q ad1 h1 _ .next H1 (R.go H g1) (g1.wide nil_sub) rfl)

noncomputable def dloc2 (L k : Int) : Loc := [("well", .r 0), ("limit", .a (.int L)), ("digit", .a (.int k))]
noncomputable def dT : Expr := match dS 3 with | .If t _ _ _ => t | _ => .Name "" default
noncomputable def dB3 : List Stmt := match dS 3 with | .If _ b _ _ => b | _ => []
theorem dS3 : ∃ p, dS 3 = .If dT dB3 [] p := ⟨_, rfl⟩
theorem dip_pop (Z : Env0 G K fI glob mg mb cfg00 N) (I : SIh G glob n (run cfg00 9)) {L k : Int} {x : Int} {l : List RV} (le : l.length ≤ 63) : ExsAt G n fdip.1.names (dloc2 L k) [.lst (.a (.int x) :: l)] dB3 .next (dloc2 L k) [.lst l] := by
  have ev : EvAt G n fdip.1.names (dloc2 L k) [.lst (.a (.int x) :: l)] (.Call (.Attribute (.Name "well" ⟨547, 8, 547, 12⟩) "pop" ⟨547, 8, 547, 16⟩) [.Constant (.int 0) 0 ⟨547, 17, 547, 18⟩] [] ⟨547, 8, 547, 19⟩) (.a (.int x)) [.lst l] := by
    refine method_sound I Z.hv rfl rfl (by decide) ?_
    have e1 : (run cfg00 9).ev fdip.1.names (dloc2 L k) [.lst (.a (.int x) :: l)] (.Name "well" ⟨547, 8, 547, 12⟩) = some (.r 0, [.lst (.a (.int x) :: l)]) := by kernel_rfl
    have e2 : methT "pop" (.r 0) [.lst (.a (.int x) :: l)] = some .pop := by kernel_rfl
    have e3 : evArgs (run cfg00 9) fdip.1.names (dloc2 L k) [.lst (.a (.int x) :: l)] [.Constant (.int 0) 0 ⟨547, 17, 547, 18⟩] = some ([.a (.int 0)], [.lst (.a (.int x) :: l)]) := by kernel_rfl
    have e4 : methI .pop (.r 0) [.a (.int 0)] [.lst (.a (.int x) :: l)] = some (.a (.int x), [.lst l]) := by
      have : methI .pop (.r 0) [.a (.int 0)] [.lst (.a (.int x) :: l)] = gd (Nat.ble l.length 1000) (some (.a (.int x), [.lst l])) := by rfl
      rw [this, Nat.ble_eq_true_of_le (Nat.le_trans le (by decide) : l.length ≤ 1000)]
      exact rfl
    rw [e1, Option.bind_some, e2, Option.bind_some, e3, Option.bind_some]
    exact e4
  intro A E env W F ad s Q rm wr H R q
  show wpAny _ _ (execs [.Expr (.Call (.Attribute (.Name "well" ⟨547, 8, 547, 12⟩) "pop" ⟨547, 8, 547, 16⟩) [.Constant (.int 0) 0 ⟨547, 17, 547, 18⟩] [] ⟨547, 8, 547, 19⟩) ⟨547, 8, 547, 19⟩] env) _ _ _
  refine wpAny_execs_cons (wpAny_Expr (ev A E env F ad s _ rm H R fun ad1 h1 tk1 v H1 r1 g1 => ?_) (interactive_fn R) rfl)
  obtain ⟨t, ev⟩ := (AR.inv r1 : ∃ t, v = .int x t)
  rw [ev]
  exact wpAny_execs_nil (q ad1 h1 tk1 .next H1 (R.go H g1) (g1.wide nil_sub) rfl)
theorem dip_if (Z : Env0 G K fI glob mg mb cfg00 N) (I : SIh G glob n (run cfg00 9)) {L k : Int} {x : Int} {l : List RV} (le : l.length ≤ 63) : ExAt G n fdip.1.names (dloc2 L k) [.lst (.a (.int x) :: l)] (dS 3) .next (dloc2 L k) [.lst (if x = 0 then l else .a (.int x) :: l)] := by
  obtain ⟨p, e⟩ := dS3
  rw [e]
  have tr : TrAt G n fdip.1.names (dloc2 L k) [.lst (.a (.int x) :: l)] dT (decide (x = 0)) [.lst (.a (.int x) :: l)] := I.tr (by kernel_rfl)
  intro A E env W F ad s Q rm wr H R q
  refine wpAny_If (tr A E env F ad s _ rm H R fun ad1 h1 tk1 H1 g1 => ?_)
  have R1 := R.go H g1
  by_cases z : x = 0
  · rw [if_pos z] at q
    rw [decide_eq_true z]
    exact dip_pop Z I le A E env W F ad1 { s with heap := h1, toks := tk1 } Q rm wr H1 R1 fun ad2 h2 tk2 f H2 R2 g2 r2 => q ad2 h2 tk2 f H2 R2 ((g1.wide nil_sub).trans g2) r2
  · rw [if_neg z] at q
    rw [decide_eq_false z]
    exact wpAny_execs_nil (q ad1 h1 tk1 .next H1 R1 (g1.wide nil_sub) rfl)
theorem dip_run (Z : Env0 G K fI glob mg mb cfg00 N) (I : SIh G glob n (run cfg00 9)) {L : Int} (hL : L = 2 ∨ L = 3 ∨ L = 4 ∨ L = 5 ∨ L = 6 ∨ L = 7) {w : Int} {W0 : List Int} (le : W0.length ≤ 63) :
    ExsAt G n fdip.1.names (dloc L) [.lst (intsR (w :: W0))] fdip.1.body (.ret (.a (.int (Int.fmod w L)))) (dloc2 L (Int.fmod w L)) [.lst (intsR (dipR (w :: W0) L))] := by
  have le' : (intsR W0).length ≤ 63 := by unfold intsR; rw [List.length_map]; exact le
  have er : intsR (dipR (w :: W0) L) = if Int.fdiv w L = 0 then intsR W0 else .a (.int (Int.fdiv w L)) :: intsR W0 := by
    have : dipR (w :: W0) L = if Int.fdiv w L = 0 then W0 else Int.fdiv w L :: W0 := rfl
    rw [this]
    split <;> rfl
  rw [er, dbody]
  refine exs_cons (dip_len Z I le') ?_
  have s2 : (run cfg00 9).ex fdip.1.names (dloc L) [.lst (intsR (w :: W0))] (dS 1) = some (.next, dloc2 L (Int.fmod w L), [.lst (intsR (w :: W0))]) := by
    rcases hL with rfl | rfl | rfl | rfl | rfl | rfl <;> kernel_rfl
  have s3 : (run cfg00 9).ex fdip.1.names (dloc2 L (Int.fmod w L)) [.lst (intsR (w :: W0))] (dS 2) = some (.next, dloc2 L (Int.fmod w L), [.lst (.a (.int (Int.fdiv w L)) :: intsR W0)]) := by
    rcases hL with rfl | rfl | rfl | rfl | rfl | rfl <;> kernel_rfl
  refine exs_cons (I.ex s2) (exs_cons (I.ex s3) (exs_cons (dip_if Z I le') (exs_stop (I.ex ?_))))
  kernel_rfl

theorem ClAt.conv {f : Str} {as : List RV} {o o1 o' o1' : AO} {rv rv' : RV} {fa : Addr} (eg0 : glob f = some fa) (c : ClAt G glob n f as [o] rv [o1]) {Q : Value → Shared → Prop} {vs : List Value} (rm : Room A n) (H : HR G s.heap F ad [o']) (pre : HR G s.heap F ad [o]) (post : ∀ {h F ad}, HR G h F ad [o1] → HR G h F ad [o1']) (e0 : ∀ p, ownsO p o' = ownsO p o) (e1 : ∀ p, ownsO p o1' = ownsO p o1)
    (val : ∀ {h : Heap} {X : Addr → Prop} {ad : Ad} {v : Value}, RVR G h X ad rv v → RVR G h X ad rv' v) (ra : RVRs G s.heap (Xp G F ad [o']) ad as vs) (q : PQ G s Q F ad [o'] rv' [o1']) : wpAny (model G.prog G.w) A (call (.ref fa) vs) Q E s := by
  obtain ⟨fa', eg, k⟩ := c
  rw [Option.some.inj (eg0.symm.trans eg)]
  refine k A E F ad s vs Q rm pre (by rw [← xp_one e0]; exact ra) fun ad1 h1 tk v H1 r1 g1 => q ad1 h1 tk v (post H1) (by rw [xp_one e1]; exact val r1) ⟨g1.size, g1.ext, fun b ob => (g1.grow b (own_1 e1 ob)).imp (own_1 fun p => (e0 p).symm) id, fun b ob eb nb w => ?_⟩
  exact (g1.keep b ob eb (fun z => nb (own_1 (fun p => (e0 p).symm) z)) w).imp id fun z => ⟨by rw [xp_one e0]; exact z.1, z.2⟩
end
end Mine
end
section
open PySem PySem.W PyProof.Rows PySem.Calls
set_option maxRecDepth 100000
namespace Mine

section
variable {G : Gnd} {glob : Str → Option Addr} {n N : Nat} {ih : Ih} {A : Around} {E : Value → Shared → Prop} {s : Shared} {env : Env} {W W' F F0 F' T : List Addr} {ad ad0 ad1 ad' : Ad} {hp hp' hp1 hp2 : Hp} {h h' h'' : Heap} {scope : Scope} {x : Str} {sc sc' : Sc} {loc loc' loc0 loc1 : Loc} {X X' : Addr → Prop}
variable {K : Frag} {fI : Addr} {mg mb : Str → Option Value} {cfg : Cfg}

theorem fmod_lt {w L : Int} (h : 0 < L) : 0 ≤ Int.fmod w L ∧ Int.fmod w L < L := ⟨Int.fmod_nonneg_of_pos w h, Int.fmod_lt_of_pos w h⟩
theorem dipR_ok {W0 : List Int} {L : Int} (h : 0 < L) (nn : ∀ x ∈ W0, 0 ≤ x) (le : W0.length ≤ 64) : (∀ x ∈ dipR W0 L, 0 ≤ x) ∧ (dipR W0 L).length ≤ 64 := by
  cases W0 with
  | nil => exact ⟨fun x h => (nomatch h), Nat.zero_le _⟩
  | cons w r =>
    show (∀ x ∈ (if Int.fdiv w L = 0 then r else Int.fdiv w L :: r), 0 ≤ x) ∧ (if Int.fdiv w L = 0 then r else Int.fdiv w L :: r).length ≤ 64
    split
    · exact ⟨fun x h => nn x (.tail _ h), Nat.le_of_succ_le le⟩
    · exact ⟨fun x hx => (List.mem_cons.mp hx).elim (fun z => z ▸ Int.fdiv_nonneg (nn w (.head _)) (Int.le_of_lt h)) fun hx => nn x (.tail _ hx), le⟩
theorem dip_val (hv0 : ∀ d, G.val 0 d = .int d) {L : Int} {d : Nat} {k : Int} (ek : k = d) (lt : k < L) {v : Value} (r : AR G h' X (.int k) v) : RVR G h' X ad (dipV L d) v := by
  rw [ek] at r lt
  show AR G h' X (cond (decide (L = 7)) (.item 0 d) (.int d)) v
  cases z : decide (L = 7) with
  | true =>
    rw [of_decide_eq_true z] at lt
    exact .item (Int.ofNat_lt.mp lt) (by rw [hv0]; exact r)
  | false => exact r
/-- what a dip says of the well it stands for -/
structure DS (L : Int) (W1 : List Int) (rv : RV) (hp' : Hp) (l' : List (Nat × Nat)) (W' : List Int) : Prop where
  h1 : 1 < L
  h2 : L ≤ 7
  rv : rv = dipV L (dipD W1 L)
  hp : hp' = [.well l' W']
  u : unr l' (dipR W1 L) = some W'
theorem dip_step {l : List (Nat × Nat)} {W0 W1 : List Int} {L : Int} {rv : RV} (e : dipI [.r 0, .a (.int L)] [.well l W0] = some (rv, hp')) (u : unr l W1 = some W0) : ∃ l' W', DS L W1 rv hp' l' W' := by
  cases l with
  | nil =>
    refine gs (show gd (decide (1 < L)) (gd (decide (L ≤ 7)) (some (dipV L (dipD W0 L), [.well [] (dipR W0 L)]))) = some (rv, hp') from e) fun h1 e => gs e fun h2 e => ?_
    rw [Option.some.inj u]
    exact sp (P := fun rv hp' => ∃ l' W', DS L W0 rv hp' l' W') e ⟨[], _, of_decide_eq_true h1, of_decide_eq_true h2, rfl, rfl, rfl⟩
  | cons p r =>
    refine gs (show gd (decide (1 < L)) (gd (decide (L ≤ 7)) (gd (decide (L = (p.1 : Int))) (some (dipV L p.2, [.well r W0])))) = some (rv, hp') from e) fun h1 e => gs e fun h2 e => gs e fun h3 e => gs (show gd (decide (dipD W1 p.1 = p.2)) (unr r (dipR W1 p.1)) = some W0 from u) fun z u => ?_
    have h3 := of_decide_eq_true h3
    exact sp (P := fun rv hp' => ∃ l' W', DS L W1 rv hp' l' W') e ⟨r, W0, of_decide_eq_true h1, of_decide_eq_true h2, by rw [h3, of_decide_eq_true z], rfl, by rw [h3]; exact u⟩
theorem six {L : Int} (h1 : 1 < L) (h2 : L ≤ 7) : L = 2 ∨ L = 3 ∨ L = 4 ∨ L = 5 ∨ L = 6 ∨ L = 7 := by
  have e := Int.toNat_of_nonneg (Int.le_of_lt (Int.lt_trans (by decide : (0 : Int) < 1) h1))
  rw [← e] at h1 h2 ⊢
  exact (by decide : ∀ n : Fin 8, (1 : Int) < (n.1 : Nat) → ((n.1 : Nat) : Int) = 2 ∨ ((n.1 : Nat) : Int) = 3 ∨ ((n.1 : Nat) : Int) = 4 ∨ ((n.1 : Nat) : Int) = 5 ∨ ((n.1 : Nat) : Int) = 6 ∨ ((n.1 : Nat) : Int) = 7) ⟨L.toNat, Nat.lt_succ_of_le (Int.ofNat_le.mp h2)⟩ h1
theorem dip_at (Z : Env0 G K fI glob mg mb cfg00 N) (hv0 : ∀ d, G.val 0 d = .int d) {fa : Addr} (fn : FnAt G fa fdip.1) (eg : glob "_law_dip" = some fa) {l : List (Nat × Nat)} {W0 : List Int} {L : Int} {rv : RV} (e : dipI [.r 0, .a (.int L)] [.well l W0] = some (rv, hp')) : ClAt G glob (N + 10) "_law_dip" [.r 0, .a (.int L)] [.well l W0] rv hp' := by
  have I := run_sound Z 9
  refine ⟨fa, eg, fun A E F ad s vs Q rm H ra q => ?_⟩
  obtain ⟨W1, u, nn, le, H1⟩ := hr_well H
  obtain ⟨l', W', D⟩ := dip_step e u
  have h0 : 0 < L := Int.lt_trans (by decide) D.h1
  have k := dipR_ok (W0 := W1) (L := L) h0 nn le
  rw [D.rv, D.hp] at q
  have fin : ∀ {k0 : Int} {loc' : Loc}, ExsAt G (N + 9) fdip.1.names (dloc L) [.lst (intsR W1)] fdip.1.body (.ret (.a (.int k0))) loc' [.lst (intsR (dipR W1 L))] → k0 = (dipD W1 L : Nat) → k0 < L → wpAny (model G.prog G.w) A (call (.ref fa) vs) Q E s := fun {k0 loc'} ex ek lt => by
    have c : ClAt G glob (N + 9 + 1) "_law_dip" [.r 0, .a (.int L)] [.lst (intsR W1)] (retV (.ret (.a (.int k0)))) [.lst (intsR (dipR W1 L))] := cl_of (loc' := loc') fn eg (by kernel_rfl) (by kernel_rfl) ex
    exact c.conv (rv' := dipV L (dipD W1 L)) eg rm H H1 (fun H => well_hr H k.1 k.2 D.u) (fun _ => rfl) (fun _ => rfl) (fun r => dip_val hv0 ek lt r) ra q
  cases W1 with
  | nil => exact fin (dip_nil I) rfl h0
  | cons w r => exact fin (dip_run Z I (six D.h1 D.h2) (Nat.le_of_succ_le_succ le)) (Int.toNat_of_nonneg (fmod_lt (w := w) h0).1).symm (fmod_lt h0).2

/-- only the dip -/
noncomputable def ihD : Ih := ⟨fun _ _ _ _ => none, fun _ _ _ _ => none, fun _ _ _ _ => none, fun _ _ _ _ => none, fun f as hp => gd (decide (f = "_law_dip")) ((two as).bind fun q => (rR q.1).bind fun i => gd (decide (i = 0)) ((vI q.2).bind fun L => (one hp).bind fun o => (oWell o).bind fun w => dipI [.r 0, .a (.int L)] [.well w.1 w.2]))⟩
theorem oWellE {P : AO → Prop} {v : AO} {w : List (Nat × Nat) × List Int} (e : oWell v = some w) (k : P (.well w.1 w.2)) : P v := by
  cases v with
  | well x y => exact si (P := fun w => P (.well w.1 w.2) → P (.well x y)) e id k
  | _ => exact nn e
theorem ihD_sound (Z : Env0 G K fI glob mg mb cfg00 N) (hv0 : ∀ d, G.val 0 d = .int d) {fa : Addr} (fn : FnAt G fa fdip.1) (eg : glob "_law_dip" = some fa) : SIh G glob (N + 10) ihD := by
  refine ⟨fun e => nn e, fun e => nn e, fun e => nn e, fun e => nn e, fun {f as hp rv hp'} e => gs e fun z e => bs e fun q e1 e => bs e fun i e2 e => gs e fun ei e => bs e fun L e3 e => bs e fun o e4 e => bs e fun w e5 e => ?_⟩
  rw [of_decide_eq_true z]
  rw [of_decide_eq_true ei] at e2
  exact twoE (a := q.1) (b := q.2) (P := fun as => ClAt G glob (N + 10) "_law_dip" as hp rv hp') e1 (rRE (P := fun x => ClAt G glob (N + 10) "_law_dip" [x, q.2] hp rv hp') e2 (vIE (P := fun x => ClAt G glob (N + 10) "_law_dip" [.r 0, x] hp rv hp') e3 (oneE (P := fun hp => ClAt G glob (N + 10) "_law_dip" [.r 0, .a (.int L)] hp rv hp') e4 (oWellE (P := fun o => ClAt G glob (N + 10) "_law_dip" [.r 0, .a (.int L)] [o] rv hp') e5 (dip_at Z hv0 fn eg e)))))
theorem dip_call {l : List (Nat × Nat)} {W0 : List Int} {L : Int} {i : Nat} {v : AV} {l' : List (Nat × Nat)} {W' : List Int} (ew : nth hp i = some (.well l W0)) (e2 : dipI [.r 0, .a (.int L)] [.well l W0] = some (.a v, [.well l' W'])) : callFn ihD false "_law_dip" [.r i, .a (.int L)] hp = some (.a v, nset hp i (.well l' W')) := by
  have e1 : getAll hp [i] = some [.well l W0] := by
    show (nth hp i).bind _ = _
    rw [ew]; rfl
  have e2' : ihD.cl "_law_dip" [.r 0, .a (.int L)] [.well l W0] = some (.a v, [.well l' W']) := e2
  show (getAll hp [i]).bind (fun os => (ihD.cl "_law_dip" [.r 0, .a (.int L)] os).bind fun q => cfDrop [.r i, .a (.int L)] hp os q) = _
  rw [e1, Option.bind_some, e2']
  rfl
theorem dip_sound (Z : Env0 G K fI glob mg mb cfg00 N) (hv0 : ∀ d, G.val 0 d = .int d) {fa : Addr} (fn : FnAt G fa fdip.1) (eg : glob "_law_dip" = some fa) {as : List RV} {rv : RV} (e : dipI as hp = some (rv, hp')) : ClAt G glob (N + 10) "_law_dip" as hp rv hp' :=
  bs e fun q e1 e => bs e fun i e2 e => bs e fun L e3 e => bs e fun o e4 e => bs e fun w e5 e => gs e fun h1 e => gs e fun h2 e => by
    refine twoE (a := q.1) (b := q.2) (P := fun as => ClAt G glob (N + 10) "_law_dip" as hp rv hp') e1 (rRE (P := fun x => ClAt G glob (N + 10) "_law_dip" [x, q.2] hp rv hp') e2 (vIE (P := fun x => ClAt G glob (N + 10) "_law_dip" [.r i, x] hp rv hp') e3 (callFn_sound (keep := false) (ihD_sound Z hv0 fn eg) ?_)))
    have ew := oWellE (P := fun o => nth hp i = some o → nth hp i = some (.well w.1 w.2)) e5 id e4
    obtain ⟨l, W0⟩ := w
    cases l with
    | nil => exact sp (P := fun rv hp' => callFn ihD false "_law_dip" [.r i, .a (.int L)] hp = some (rv, hp')) e (dip_call ew (by
        show gd (decide (1 < L)) (gd (decide (L ≤ 7)) _) = _
        rw [h1, h2]; rfl))
    | cons p r =>
      exact gs e fun h3 e => sp (P := fun rv hp' => callFn ihD false "_law_dip" [.r i, .a (.int L)] hp = some (rv, hp')) e (dip_call ew (by
        show gd (decide (1 < L)) (gd (decide (L ≤ 7)) (gd (decide (L = (p.1 : Int))) _)) = _
        rw [h1, h2, h3]; rfl))
end
end Mine
end
section
open PySem PySem.W PyProof.Rows PySem.Calls
set_option maxRecDepth 100000
namespace Mine

noncomputable def flat1 : AV → AV
  | .item c d => val c d
  | x => x
noncomputable def flat : AV → AV
  | .tup l => .tup (l.map flat1)
  | x => flat1 x
noncomputable def okD1 : AV → Bool
  | .item _ d => Nat.blt d 7
  | _ => true
noncomputable def okD : AV → Bool
  | .tup l => l.all okD1
  | x => okD1 x
noncomputable def pick (loc : Loc) : List Str → Loc
  | [] => []
  | y :: r => match (alook y loc).bind rA with
    | some v => (y, .a v) :: pick loc r
    | none => pick loc r
/-- the seven runs of an expression in which one name's letter is spelt out -/
noncomputable def chk1 (sc : Sc) (e : Expr) (x : Str) (f R : Nat → AV) (others : List Str) (loc : Loc) (k : Nat) : Bool :=
  ((run cfg0 12).ev sc ((x, .a (f k)) :: pick loc others) [] e).any fun q => q.2.isEmpty && ((rA q.1).any fun w => AV.beq w (flat (R k)) && okD (R k))
noncomputable def chk (sc : Sc) (e : Expr) (x : Str) (f R : Nat → AV) (others : List Str) (loc : Loc) (m : Nat) : Bool := (List.range m).all (chk1 sc e x f R others loc)
noncomputable def chkR (sc : Sc) (e : Expr) (x : Str) (f R : Nat → AV) (others : List Str) (loc : Loc) (d : Nat) : Option AV := gd (chk sc e x f R others loc 7) (some (R d))
/-- the pair at hand -/
noncomputable def prOf (loc : Loc) : Option (AV × AV) := (((alook "pair" loc).bind rA).bind aTup).bind two
noncomputable def fstI (loc : Loc) : Option ((Nat × Nat) × AV) := (prOf loc).bind fun q => (aItem q.1).map fun i => (i, q.2)
noncomputable def sndI (loc : Loc) : Option ((Nat × Nat) × AV) := (prOf loc).bind fun q => (aItem q.2).map fun i => (i, q.1)
noncomputable def oneI (x : Str) (loc : Loc) : Option (Nat × Nat) := ((alook x loc).bind rA).bind aItem
/-- the same by a table over the letters' kinds: each entry is closed, so that the kernel looks at it once -/
noncomputable def levV : AV := .lst [.str "0.5", .str "TRUE", .str "", .str "500000003", .str "kkk"]
noncomputable def isLev (loc : Loc) : Bool := ((alook "levels" loc).bind rA).any fun v => AV.beq v levV
noncomputable def chkC (sc : Sc) (e : Expr) (x : Str) (R : Nat → Nat → AV) (c : Nat) : Bool := chk sc e x (fun k => val c k) (R c) ["levels"] [("levels", .a levV)] 7
noncomputable def chkT (sc : Sc) (e : Expr) (x : Str) (R : Nat → Nat → AV) : List Bool := (List.range 40).map (chkC sc e x R)
noncomputable def chkL (sc : Sc) (e : Expr) (x : Str) (R : Nat → Nat → AV) (loc : Loc) (q : Nat × Nat) : Option AV := gd (isLev loc) (gd ((nth (chkT sc e x R) q.1).any id) (some (R q.1 q.2)))
noncomputable def orcE2 (sc : Sc) (e : Expr) (loc : Loc) : Option AV := let p := exPos e
  cond (at_ p 583 21) ((fstI loc).bind fun q => chkR sc e "pair" (fun k => .tup [val q.1.1 k, q.2]) (fun k => .tup [.item 9 k, .item 10 k]) ["levels"] loc q.1.2) <|
  cond (at_ p 585 46) ((fstI loc).bind fun q => chkR sc e "pair" (fun k => .tup [val q.1.1 k, q.2]) (fun k => .item 11 k) [] loc q.1.2) <|
  cond (at_ p 567 16) ((fstI loc).bind fun q => chkR sc e "pair" (fun k => .tup [val q.1.1 k, q.2]) (fun k => .item (cond (Nat.beq q.1.1 1) 12 13) k) [] loc q.1.2) <|
  cond (at_ p 596 26) ((sndI loc).bind fun q => chkR sc e "pair" (fun k => .tup [q.2, val q.1.1 k]) (fun k => .int (cond (lackB q.1.1 k) 1 0)) [] loc q.1.2) <|
  cond (at_ p 495 25) ((oneI "one" loc).bind fun q => chkL sc e "one" (fun c k => .item (c + 8) k) loc q) <|
  cond (at_ p 620 39) ((oneI "word" loc).bind fun q => chkL sc e "word" (fun c k => cond (Nat.blt c 32) (.item (c + 8) k) .none) loc q) none

/-- a letter's kind -/
noncomputable def kindT : List (Nat × Str) := [(1, "integer"), (2, "double"), (3, "character"), (4, "logical"), (20, "integer"), (21, "double"), (22, "character"), (23, "logical"), (24, "integer"), (25, "double"), (26, "character"), (27, "logical")]
noncomputable def textL (c : Nat) : Nat := cond (Nat.beq c 3) 3 (cond (Nat.blt c 5) (c + 4) (c + 8))
noncomputable def sameK (k : Str) (c : Nat) : Bool := kindT.any fun q => Nat.beq c q.1 && seq k q.2
noncomputable def convT : List (Nat × Str × Nat) := [(1, "character", 5), (2, "character", 6), (3, "character", 7), (4, "character", 8), (1, "double", 12), (4, "double", 13), (4, "integer", 4)]
noncomputable def conv (c : Nat) (t : Str) : Option Nat := (convT.find? fun q => Nat.beq c q.1 && seq t q.2.1).map fun q => q.2.2
noncomputable def four {α : Type} : List α → Option (α × α × α × α)
  | [a, b, c, d] => some (a, b, c, d)
  | _ => none
theorem fourE {α : Type} {P : List α → Prop} {l : List α} {q : α × α × α × α} (e : four l = some q) (k : P [q.1, q.2.1, q.2.2.1, q.2.2.2]) : P l := by
  match l, e with
  | [x, y, z, w], e => exact si (P := fun q => P [q.1, q.2.1, q.2.2.1, q.2.2.2] → P [x, y, z, w]) e id k
noncomputable def itemR (v : RV) : Option (Nat × Nat) := (rA v).bind aItem
noncomputable def orcC2 (f : Str) (as : List RV) : Option AV :=
  cond (isS 227879684839788408237130334682467751665681387488183 "_law_pair" f) ((two as).bind fun q => (vI q.1).bind fun s => (natOf s).bind fun s => (itemR q.2).bind fun i => gd (Nat.beq i.1 0) (gd (Nat.blt s 4) (some (.tup [.item (s + 1) i.2, .item (wtxt s) i.2])))) <|
  cond (isS 202713067909068622257235033037207044841 "item_as" f) ((four as).bind fun q => (vS q.1).bind fun k => (itemR q.2.1).bind fun i => (vS q.2.2.1).bind fun t => (rR q.2.2.2).bind fun _ => gd (sameK k i.1) ((conv i.1 t).map fun c' => .item c' i.2)) <|
  cond (isS 288263745157939169222409198941838954683154959639860413486 "label_text" f) ((two as).bind fun q => (vS q.1).bind fun k => (itemR q.2).bind fun i => gd (sameK k i.1) (some (.item (textL i.1) i.2))) none
noncomputable def cfg2 : Cfg := { cfg0 with orcC := orcC2, orcE := orcE2 }
end Mine
end
section
open PySem PySem.W PyProof.Rows PySem.Calls
set_option maxRecDepth 100000
namespace Mine

section
variable {G : Gnd} {glob : Str → Option Addr} {n N : Nat} {ih : Ih} {A : Around} {E : Value → Shared → Prop} {s : Shared} {env : Env} {W W' F F0 F' T : List Addr} {ad ad0 ad1 ad' : Ad} {hp hp' hp1 hp2 : Hp} {h h' h'' : Heap} {scope : Scope} {x : Str} {sc sc' : Sc} {loc loc' loc0 loc1 : Loc} {X X' : Addr → Prop}
variable {K : Frag} {fI : Addr} {mg mb : Str → Option Value} {cfg : Cfg}

theorem flat1_ar (hv : G.val = val) {x : AV} {v : Value} (o : okD1 x = true) (r : AR G h X (flat1 x) v) : AR G h X x v := by
  cases x with
  | item c d => exact .item (Nat.blt_eq.mp o) (by rw [hv]; exact r)
  | _ => exact r
theorem flat_ar (hv : G.val = val) {x : AV} {v : Value} (r : AR G h X (flat x) v) (o : okD x = true) : AR G h X x v := by
  cases x with
  | tup l => exact AR.tupE (P := fun v => AR G h X (.tup l) v) (show AR G h X (.tup (l.map flat1)) v from r) fun a vs n D => .tup D.e D.x (All2.monoM (fun x hx v r => flat1_ar hv (List.all_eq_true.mp o x hx) r) (All2.unmap (R := AR G h X) D.r))
  | item c d => exact flat1_ar hv o r
  | _ => exact r
theorem chk_at {P : Prop} {e : Expr} {f R : Nat → AV} {others : List Str} {k : Nat} (c : chk sc e x f R others loc 7 = true) (z : k < 7) (q : (run cfg0 12).ev sc ((x, .a (f k)) :: pick loc others) [] e = some (.a (flat (R k)), []) → okD (R k) = true → P) : P :=
  anyE (List.all_eq_true.mp c k (List.mem_range.mpr z)) fun q' e1 e2 => by
    obtain ⟨e3, e4⟩ := Bool.and_eq_true_iff.mp e2
    refine anyE e4 fun w e5 e6 => ?_
    obtain ⟨e7, e8⟩ := Bool.and_eq_true_iff.mp e6
    refine q ?_ e8
    obtain ⟨q1, q2⟩ := q'
    rw [e1, show q2 = [] from List.isEmpty_iff.mp e3, ← beq_eq e7]
    exact rAE (P := fun q1 => some (q1, []) = some (RV.a w, [])) e5 rfl
theorem pick_look : ∀ {others : List Str} {y : Str} {rv : RV}, alook y (pick loc others) = some rv → ∃ u, rv = .a u ∧ alook y loc = some (.a u) := fun {others} => by
  induction others with
  | nil => exact fun e => nn e
  | cons z r ih =>
    intro y rv e
    unfold pick at e
    cases q : (alook z loc).bind rA with
    | none => rw [q] at e; exact ih e
    | some v =>
      rw [q] at e
      refine cs (show cond (seq y z) (some (RV.a v)) (alook y (pick loc r)) = some rv from e) (fun w e => ?_) fun _ e => ih e
      rw [seq_iff.mp w]
      exact ⟨v, (Option.some.inj e).symm, bs q fun u e1 e2 => rAE (P := fun u => alook z loc = some u → alook z loc = some (.a v)) e2 id e1⟩
theorem FRel.val_at (R : FRel G h F ad hp env sc loc) {u : AV} (e : alook x loc = some (.a u)) : ∃ w, AR G h (Xp G F ad hp) u w := by
  have cell : (env.kindOf x = some .cell ∨ env.kindOf x = some .free) → ∃ w, AR G h (Xp G F ad hp) u w := fun k => by
    obtain ⟨c, cv, _, _, _, _, f⟩ := R.cell x k
    exact Exists.elim (f _ e) fun v q => ⟨v, q.2⟩
  rcases R.kinds x _ e with k | k | k
  · obtain ⟨m, _, f⟩ := R.ns
    exact Exists.elim (f x _ e k) fun v q => ⟨v, q.2⟩
  · exact cell (.inl k)
  · exact cell (.inr k)
theorem cons_look {P : RV → Prop} {y : Str} {v : AV} {r : Loc} {rv : RV} (e : alook y ((x, .a v) :: r) = some rv) (a : y = x → P (.a v)) (b : alook y r = some rv → P rv) : P rv :=
  cs (show cond (seq y x) (some (RV.a v)) (alook y r) = some rv from e) (fun z e => si e (a (seq_iff.mp z))) fun _ e => b e
theorem chk_sound (Z : Env0 G K fI glob mg mb cfg0 N) {e : Expr} {f R : Nat → AV} {others : List Str} {d : Nat} {v u : AV} (c : chkR sc e x f R others loc d = some v) (ex : alook x loc = some (.a u)) (hu : ∀ {h : Heap} {X : Addr → Prop} {w : Value}, AR G h X u w → d < 7 ∧ AR G h X (f d) w) :
    EvAt G (N + 12) sc loc hp e (.a v) hp :=
  gs c fun ck c A E env F ad s Q rm H R0 q => by
    obtain ⟨w0, r0⟩ := R0.val_at ex
    refine chk_at ck (hu r0).1 fun ew eo => ?_
    have w1 : EvAt G (N + 12) sc loc hp e (.a (flat (R d))) hp := by
      refine ev_nil ((run_sound Z 12).ev ew) (fun y rv e => cons_look (P := fun rv => ∃ u, rv = .a u) e (fun _ => ⟨_, rfl⟩) fun e => Exists.elim (pick_look e) fun u q => ⟨u, q.1⟩) fun y t e => ?_
      refine cons_look (P := fun rv => rv = .a t → ∃ u0, alook y loc = some (.a u0) ∧ ∀ (h : Heap) (X : Addr → Prop) w, AR G h X u0 w → AR G h X t w) e (fun z et => ⟨u, by rw [z]; exact ex, fun h X w r => RV.a.inj et ▸ (hu r).2⟩) (fun e _ => ?_) rfl
      obtain ⟨t', a, b⟩ := pick_look e
      exact ⟨t, by rw [b, ← a], fun _ _ _ r => r⟩
    rw [← Option.some.inj c] at q
    exact w1 A E env F ad s Q rm H R0 fun ad1 h1 tk v1 H1 r1 g1 => q ad1 h1 tk v1 H1 (flat_ar Z.hv.eq r1 eo) g1
theorem one_ar (hv : G.val = val) {c d : Nat} {w : Value} (r : AR G h X (.item c d) w) : d < 7 ∧ AR G h X (val c d) w := by
  have z : d < 7 ∧ AR G h X (G.val c d) w := r.inv
  rw [hv] at z
  exact z
theorem fst_ar (hv : G.val = val) {q : Nat × Nat} {y : AV} {w : Value} (r : AR G h X (.tup [.item q.1 q.2, y]) w) : q.2 < 7 ∧ AR G h X (.tup [val q.1 q.2, y]) w :=
  AR.tupE (P := fun w => q.2 < 7 ∧ AR G h X (.tup [val q.1 q.2, y]) w) r fun a vs n D => All2.consE (P := fun vs => h.get? a = some { cls := .type "tuple", data := .seq vs.toArray n } → q.2 < 7 ∧ AR G h X (.tup [val q.1 q.2, y]) (.ref a)) D.r (fun u m r1 rs e => ⟨(one_ar hv r1).1, .tup e D.x ⟨(one_ar hv r1).2, rs⟩⟩) D.e
theorem snd_ar (hv : G.val = val) {q : Nat × Nat} {y : AV} {w : Value} (r : AR G h X (.tup [y, .item q.1 q.2]) w) : q.2 < 7 ∧ AR G h X (.tup [y, val q.1 q.2]) w :=
  AR.tupE (P := fun w => q.2 < 7 ∧ AR G h X (.tup [y, val q.1 q.2]) w) r fun a vs n D => All2.consE (P := fun vs => h.get? a = some { cls := .type "tuple", data := .seq vs.toArray n } → q.2 < 7 ∧ AR G h X (.tup [y, val q.1 q.2]) (.ref a)) D.r (fun u m r1 rs => All2.consE (P := fun m => h.get? a = some { cls := .type "tuple", data := .seq (u :: m).toArray n } → q.2 < 7 ∧ AR G h X (.tup [y, val q.1 q.2]) (.ref a)) rs fun u' m' r2 rs e => ⟨(one_ar hv r2).1, .tup e D.x ⟨r1, (one_ar hv r2).2, rs⟩⟩) D.e
theorem itemE' {P : AV → Prop} {v : AV} {q : Nat × Nat} (e : aItem v = some q) (k : P (.item q.1 q.2)) : P v := itemE (c := q.1) (d := q.2) e k
theorem pr_at {q : AV × AV} (e : prOf loc = some q) : alook "pair" loc = some (.a (.tup [q.1, q.2])) :=
  bs e fun l e1 e2 => bs e1 fun v e3 e4 => bs e3 fun r e5 e6 => rAE (P := fun r => alook "pair" loc = some r → alook "pair" loc = some (.a (.tup [q.1, q.2]))) e6 (tupE (P := fun v => alook "pair" loc = some (.a v) → alook "pair" loc = some (.a (.tup [q.1, q.2]))) e4 (twoE (a := q.1) (b := q.2) (P := fun l => alook "pair" loc = some (.a (.tup l)) → alook "pair" loc = some (.a (.tup [q.1, q.2]))) e2 id)) e5
theorem fstE {q : (Nat × Nat) × AV} (e : fstI loc = some q) : alook "pair" loc = some (.a (.tup [.item q.1.1 q.1.2, q.2])) :=
  bs e fun p e1 e => ms (P := fun q => alook "pair" loc = some (.a (.tup [.item q.1.1 q.1.2, q.2]))) e fun i e2 => itemE' (P := fun v => alook "pair" loc = some (.a (.tup [v, p.2])) → alook "pair" loc = some (.a (.tup [.item i.1 i.2, p.2]))) e2 id (pr_at e1)
theorem sndE {q : (Nat × Nat) × AV} (e : sndI loc = some q) : alook "pair" loc = some (.a (.tup [q.2, .item q.1.1 q.1.2])) :=
  bs e fun p e1 e => ms (P := fun q => alook "pair" loc = some (.a (.tup [q.2, .item q.1.1 q.1.2]))) e fun i e2 => itemE' (P := fun v => alook "pair" loc = some (.a (.tup [p.1, v])) → alook "pair" loc = some (.a (.tup [p.1, .item i.1 i.2]))) e2 id (pr_at e1)
theorem oneIE {q : Nat × Nat} (e : oneI x loc = some q) : alook x loc = some (.a (.item q.1 q.2)) :=
  bs e fun v e3 e4 => bs e3 fun r e5 e6 => rAE (P := fun r => alook x loc = some r → alook x loc = some (.a (.item q.1 q.2))) e6 (itemE' (P := fun v => alook x loc = some (.a v) → alook x loc = some (.a (.item q.1 q.2))) e4 id) e5
noncomputable def levL : Loc := [("levels", .a levV)]
theorem isLev_pick (e : isLev loc = true) : pick loc ["levels"] = levL := anyE e fun v e1 e2 => by
  unfold pick
  rw [e1, beq_eq e2]
  rfl
theorem chkL_R {e : Expr} {R : Nat → Nat → AV} {q : Nat × Nat} {v : AV} (c : chkL sc e x R loc q = some v) : chkR sc e x (fun k => val q.1 k) (R q.1) ["levels"] loc q.2 = some v :=
  gs c fun l c => gs c fun t c => anyE t fun b e1 e2 => by
    unfold chkT at e1
    rw [nth_map, nth_eq] at e1
    obtain ⟨i, h1, h2⟩ := Option.map_eq_some_iff.mp e1
    obtain rfl : i = q.1 := (List.getElem?_eq_some_iff.mp h1).elim fun _ z => by rw [← z, List.getElem_range]
    have k : chk sc e x (fun k => val q.1 k) (R q.1) ["levels"] loc 7 = true := by
      have h2 : chk sc e x (fun k => val q.1 k) (R q.1) ["levels"] levL 7 = true := h2.trans e2
      unfold chk chk1 at h2 ⊢
      rw [isLev_pick l]
      rw [isLev_pick (loc := levL) (by kernel_rfl)] at h2
      exact h2
    unfold chkR
    rw [k]
    exact c
theorem orcE2_sound (Z : Env0 G K fI glob mg mb cfg0 N) {e : Expr} {v : AV} (c : orcE2 sc e loc = some v) : EvAt G (N + 12) sc loc hp e (.a v) hp :=
  have f : ∀ {R : Nat → AV} {others : List Str} {q : (Nat × Nat) × AV}, chkR sc e "pair" (fun k => .tup [val q.1.1 k, q.2]) R others loc q.1.2 = some v → fstI loc = some q → EvAt G (N + 12) sc loc hp e (.a v) hp := fun c z => chk_sound Z c (fstE z) fun r => fst_ar Z.hv.eq r
  have o : ∀ {x : Str} {R : Nat → AV} {others : List Str} {q : Nat × Nat}, chkR sc e x (fun k => val q.1 k) R others loc q.2 = some v → oneI x loc = some q → EvAt G (N + 12) sc loc hp e (.a v) hp := fun c z => chk_sound Z c (oneIE z) fun r => one_ar Z.hv.eq r
  cs c (fun _ c => bs c fun q z c => f c z) fun _ c => cs c (fun _ c => bs c fun q z c => f c z) fun _ c => cs c (fun _ c => bs c fun q z c => f c z) fun _ c => cs c (fun _ c => bs c fun q z c => chk_sound Z c (sndE z) fun r => snd_ar Z.hv.eq r) fun _ c => cs c (fun _ c => bs c fun q z c => o (chkL_R c) z) fun _ c => cs c (fun _ c => bs c fun q z c => o (chkL_R c) z) fun _ c => nn c

theorem cl_digit {f : Str} {as : List RV} {as0 : Nat → List RV} {r : AV} {r0 : Nat → AV} {d : Nat} (hd : ∀ {h : Heap} {X : Addr → Prop} {ad : Ad} {vs : List Value}, RVRs G h X ad as vs → d < 7 ∧ RVRs G h X ad (as0 d) vs) (c : ∀ k, k < 7 → ClAt G glob n f (as0 k) hp (.a (r0 k)) hp)
    (vr : ∀ {h : Heap} {X : Addr → Prop} {v : Value}, d < 7 → AR G h X (r0 d) v → AR G h X r v) : ClAt G glob n f as hp (.a r) hp := by
  obtain ⟨fa, eg, _⟩ := c 0 (by decide)
  refine ⟨fa, eg, fun A E F ad s vs Q rm H ra q => ?_⟩
  have z := hd ra
  obtain ⟨fa', eg', k⟩ := c d z.1
  rw [Option.some.inj (eg.symm.trans eg')]
  exact k A E F ad s vs Q rm H z.2 fun ad1 h1 tk v H1 r1 g1 => q ad1 h1 tk v H1 (vr z.1 r1) g1
end
noncomputable def isR (o : Option AV) (r : AV) : Bool := o.any fun w => AV.beq w r
theorem isR_at {o : Option AV} {r : AV} (e : isR o r = true) : o = some r := anyE e fun w e1 e2 => by rw [e1, beq_eq e2]
theorem lpB : ((List.range 4).all fun s => (List.range 7).all fun k => isR (callDead (run cfg0 60) "_law_pair" [.a (.int (s : Nat)), .a (.int (k : Nat))]) (flat (.tup [.item (s + 1) k, .item (wtxt s) k]))) = true := by kernel_rfl
theorem iaB : (kindT.all fun q => convT.all fun t => !Nat.beq q.1 t.1 || (List.range 7).all fun k => isR (callDead (run cfg0 60) "item_as" [.a (.str q.2), .a (val q.1 k), .a (.str t.2.1), .r 0]) (flat (.item t.2.2 k))) = true := by kernel_rfl
theorem ltB : (kindT.all fun q => (List.range 7).all fun k => isR (callDead (run cfg0 60) "label_text" [.a (.str q.2), .a (val q.1 k)]) (flat (.item (textL q.1) k))) = true := by kernel_rfl
theorem range_at {m k : Nat} {p : Nat → Bool} (e : (List.range m).all p = true) (z : k < m) : p k = true := List.all_eq_true.mp e k (List.mem_range.mpr z)
section
variable {G : Gnd} {glob : Str → Option Addr} {n N : Nat} {hp : Hp} {K : Frag} {fI : Addr} {mg mb : Str → Option Value} {h : Heap} {X : Addr → Prop} {ad : Ad}
theorem okI {c d : Nat} (z : d < 7) : okD (.item c d) = true := Nat.blt_eq.mpr z
theorem law_pair_sound (I : SIh G glob n (run cfg0 60)) (hv : G.val = val) {s d : Nat} (hs : s < 4) : ClAt G glob n "_law_pair" [.a (.int (s : Nat)), .a (.item 0 d)] hp (.a (.tup [.item (s + 1) d, .item (wtxt s) d])) hp :=
  cl_digit (d := d) (as0 := fun k => [.a (.int (s : Nat)), .a (.int (k : Nat))]) (r0 := fun k => flat (.tup [.item (s + 1) k, .item (wtxt s) k])) (fun {h X ad vs} r => All2.consE (P := fun vs => d < 7 ∧ RVRs G h X ad [.a (.int (s : Nat)), .a (.int (d : Nat))] vs) r fun u m r1 rs => All2.consE (P := fun m => d < 7 ∧ RVRs G h X ad [.a (.int (s : Nat)), .a (.int (d : Nat))] (u :: m)) rs fun u' m' r2 rs => ⟨(one_ar hv r2).1, r1, (one_ar hv r2).2, rs⟩)
    (fun k z => dead_sound I (isR_at (range_at (range_at lpB hs) z))) fun z r => flat_ar hv r (Bool.and_eq_true_iff.mpr ⟨okI (c := s + 1) z, Bool.and_eq_true_iff.mpr ⟨okI (c := wtxt s) z, rfl⟩⟩)
theorem any_mem {α : Type} {l : List α} {p : α → Bool} (e : l.any p = true) : ∃ a ∈ l, p a = true := List.any_eq_true.mp e
theorem sameK_at {k : Str} {c : Nat} (e : sameK k c = true) : (c, k) ∈ kindT := by
  obtain ⟨q, hq, e⟩ := List.any_eq_true.mp e
  obtain ⟨e1, e2⟩ := Bool.and_eq_true_iff.mp e
  rw [Nat.eq_of_beq_eq_true e1, seq_iff.mp e2]; exact hq
theorem conv_at {c c' : Nat} {t : Str} (e : conv c t = some c') : (c, t, c') ∈ convT :=
  ms (P := fun c' => (c, t, c') ∈ convT) e fun q e => by
    obtain ⟨e1, e2⟩ := Bool.and_eq_true_iff.mp (List.find?_some (p := fun q : Nat × Str × Nat => Nat.beq c q.1 && seq t q.2.1) e)
    rw [Nat.eq_of_beq_eq_true e1, seq_iff.mp e2]; exact List.mem_of_find?_eq_some e
theorem item_as_sound (I : SIh G glob n (run cfg0 60)) (hv : G.val = val) {k t : Str} {c c' d i : Nat} (hk : sameK k c = true) (hc : conv c t = some c') : ClAt G glob n "item_as" [.a (.str k), .a (.item c d), .a (.str t), .r i] hp (.a (.item c' d)) hp :=
  cl_digit (d := d) (as0 := fun j => [.a (.str k), .a (val c j), .a (.str t), .r i]) (r0 := fun j => flat (.item c' j)) (fun {h X ad vs} r => All2.consE (P := fun vs => d < 7 ∧ RVRs G h X ad [.a (.str k), .a (val c d), .a (.str t), .r i] vs) r fun u m r1 rs => All2.consE (P := fun m => d < 7 ∧ RVRs G h X ad [.a (.str k), .a (val c d), .a (.str t), .r i] (u :: m)) rs fun u' m' r2 rs => ⟨(one_ar hv r2).1, r1, (one_ar hv r2).2, rs⟩)
    (fun j z => dead_sound I (show callDead (run cfg0 60) "item_as" [.a (.str k), .a (val c j), .a (.str t), .r 0] = _ from by
      have w := List.all_eq_true.mp (List.all_eq_true.mp iaB _ (sameK_at hk)) _ (conv_at hc)
      rw [show Nat.beq (c, k).1 (c, t, c').1 = true from Nat.beq_refl c] at w
      exact isR_at (range_at w z))) fun z r => flat_ar hv r (okI z)
theorem label_sound (I : SIh G glob n (run cfg0 60)) (hv : G.val = val) {k : Str} {c d : Nat} (hk : sameK k c = true) : ClAt G glob n "label_text" [.a (.str k), .a (.item c d)] hp (.a (.item (textL c) d)) hp :=
  cl_digit (d := d) (as0 := fun j => [.a (.str k), .a (val c j)]) (r0 := fun j => flat (.item (textL c) j)) (fun {h X ad vs} r => All2.consE (P := fun vs => d < 7 ∧ RVRs G h X ad [.a (.str k), .a (val c d)] vs) r fun u m r1 rs => All2.consE (P := fun m => d < 7 ∧ RVRs G h X ad [.a (.str k), .a (val c d)] (u :: m)) rs fun u' m' r2 rs => ⟨(one_ar hv r2).1, r1, (one_ar hv r2).2, rs⟩)
    (fun j z => dead_sound I (isR_at (range_at (List.all_eq_true.mp ltB _ (sameK_at hk)) z))) fun z r => flat_ar hv r (okI z)
theorem itemRE {P : RV → Prop} {v : RV} {q : Nat × Nat} (e : itemR v = some q) (k : P (.a (.item q.1 q.2))) : P v := bs e fun x e1 e2 => rAE e1 (itemE' (P := fun x => P (.a x)) e2 k)
theorem orcC2_sound (I : SIh G glob n (run cfg0 60)) (hv : G.val = val) {f : Str} {as : List RV} {v : AV} (e : orcC2 f as = some v) : ClAt G glob n f as hp (.a v) hp := by
  refine cs e (fun z e => ?_) fun _ e => cs e (fun z e => ?_) fun _ e => cs e (fun z e => ?_) fun _ e => nn e
  · rw [isS_true z]
    exact bs e fun q e1 e => bs e fun s e2 e => bs e fun m e3 e => bs e fun i e4 e => gs e fun ez e => gs e fun hs e => twoE (a := q.1) (b := q.2) (P := fun as => ClAt G glob n "_law_pair" as hp (.a v) hp) e1 (vIE (P := fun x => ClAt G glob n "_law_pair" [x, q.2] hp (.a v) hp) e2 (itemRE (P := fun x => ClAt G glob n "_law_pair" [.a (.int s), x] hp (.a v) hp) e4 (by
      rw [natOf_eq e3, Nat.eq_of_beq_eq_true ez]
      exact si (P := fun v => ClAt G glob n "_law_pair" [.a (.int (m : Nat)), .a (.item 0 i.2)] hp (.a v) hp) e (law_pair_sound I hv (Nat.blt_eq.mp hs)))))
  · rw [isS_true z]
    exact bs e fun q e1 e => bs e fun k e2 e => bs e fun i e3 e => bs e fun t e4 e => bs e fun j e5 e => gs e fun hk e => ms (P := fun v => ClAt G glob n "item_as" as hp (.a v) hp) e fun c' hc => fourE (P := fun as => ClAt G glob n "item_as" as hp (.a (.item c' i.2)) hp) e1 (vSE (P := fun x => ClAt G glob n "item_as" [x, q.2.1, q.2.2.1, q.2.2.2] hp (.a (.item c' i.2)) hp) e2 (itemRE (P := fun x => ClAt G glob n "item_as" [.a (.str k), x, q.2.2.1, q.2.2.2] hp (.a (.item c' i.2)) hp) e3 (vSE (P := fun x => ClAt G glob n "item_as" [.a (.str k), .a (.item i.1 i.2), x, q.2.2.2] hp (.a (.item c' i.2)) hp) e4 (rRE (P := fun x => ClAt G glob n "item_as" [.a (.str k), .a (.item i.1 i.2), .a (.str t), x] hp (.a (.item c' i.2)) hp) e5 (item_as_sound I hv hk hc)))))
  · rw [isS_true z]
    exact bs e fun q e1 e => bs e fun k e2 e => bs e fun i e3 e => gs e fun hk e => si (P := fun v => ClAt G glob n "label_text" as hp (.a v) hp) e (twoE (a := q.1) (b := q.2) (P := fun as => ClAt G glob n "label_text" as hp (.a (.item (textL i.1) i.2)) hp) e1 (vSE (P := fun x => ClAt G glob n "label_text" [x, q.2] hp (.a (.item (textL i.1) i.2)) hp) e2 (itemRE (P := fun x => ClAt G glob n "label_text" [.a (.str k), x] hp (.a (.item (textL i.1) i.2)) hp) e3 (label_sound I hv hk))))
theorem env2 (Z : Env0 G K fI glob mg mb cfg0 10) : Env0 G K fI glob mg mb cfg2 70 :=
  { Z with
    dip := fun z {as hp rv hp'} e => (Z.dip z e).up (by decide)
    orcC := fun e hp => orcC2_sound (run_sound Z 60) Z.hv.eq e
    orcE := fun e hp => (orcE2_sound Z e).up (by decide)
    orcS := fun e => nn e }
end
end Mine
end
section
open PySem PySem.W PyProof.Rows PySem.Calls
set_option maxRecDepth 100000
namespace Mine

/-- like Go, but of the owned only the first k must stay in their places -/
structure GoN (G : Gnd) (k : Nat) (W F : List Addr) (ad : Ad) (hp : Hp) (h : Heap) (ad' : Ad) (hp' : Hp) (h' : Heap) : Prop where
  size : h.objs.size ≤ h'.objs.size
  ext : ∀ i p, i < k → nth ad i = some p → nth ad' i = some p
  grow : ∀ b : Nat, Own ad' hp' b → Own ad hp b ∨ h.objs.size ≤ b
  keep : ∀ b o, h.get? b = some o → ¬ Own ad hp b → b ∉ W → h'.get? b = some o ∨ (¬ Xp G F ad hp b ∧ Flag G o h' b)
noncomputable abbrev MPost := Flw → Loc → Hp → Prop
noncomputable def XN (G : Gnd) (k : Nat) (s : Shared) (Q : Flow → Shared → Prop) (W F : List Addr) (ad : Ad) (hp : Hp) (env : Env) (sc : Sc) (fl : Flw) (loc' : Loc) (hp' : Hp) : Prop :=
  ∀ ad' h' tk f, HR G h' F ad' hp' → FRel G h' F ad' hp' env sc loc' → GoN G k W F ad hp s.heap ad' hp' h' → FlR G h' F ad' hp' fl f → Q f { s with heap := h', toks := tk }
noncomputable def ExN (G : Gnd) (n k : Nat) (sc : Sc) (loc : Loc) (hp : Hp) (st : Stmt) (P : MPost) : Prop :=
  ∀ (A : Around) (E : Value → Shared → Prop) (env : Env) (W F : List Addr) (ad : Ad) (s : Shared) (Q : Flow → Shared → Prop), Room A n → WR W F env → HR G s.heap F ad hp → FRel G s.heap F ad hp env sc loc → (∀ fl loc' hp', P fl loc' hp' → XN G k s Q W F ad hp env sc fl loc' hp') → wpAny (model G.prog G.w) A (exec st env) Q E s
noncomputable def ExsN (G : Gnd) (n k : Nat) (sc : Sc) (loc : Loc) (hp : Hp) (st : List Stmt) (P : MPost) : Prop :=
  ∀ (A : Around) (E : Value → Shared → Prop) (env : Env) (W F : List Addr) (ad : Ad) (s : Shared) (Q : Flow → Shared → Prop), Room A n → WR W F env → HR G s.heap F ad hp → FRel G s.heap F ad hp env sc loc → (∀ fl loc' hp', P fl loc' hp' → XN G k s Q W F ad hp env sc fl loc' hp') → wpAny (model G.prog G.w) A (execs st env) Q E s

section
variable {G : Gnd} {glob : Str → Option Addr} {n N k : Nat} {ih : Ih} {A : Around} {E : Value → Shared → Prop} {s : Shared} {env : Env} {W W' F F0 F' T : List Addr} {ad ad0 ad1 ad' ad'' : Ad} {hp hp' hp1 hp2 hp'' : Hp} {h h' h'' : Heap} {scope : Scope} {x : Str} {sc sc' : Sc} {loc loc' loc0 loc1 : Loc} {X X' : Addr → Prop}
variable {K : Frag} {fI : Addr} {mg mb : Str → Option Value} {cfg : Cfg} {P P' : MPost} {st : Stmt} {r : List Stmt}

theorem Go.toN (g : Go G W F ad hp h ad' hp' h') : GoN G k W F ad hp h ad' hp' h' := ⟨g.size, fun i p _ e => g.ext i p e, g.grow, g.keep⟩
theorem GoN.refl : GoN G k W F ad hp h ad hp h := (Go.refl).toN
theorem GoN.trans (x : GoN G k W F ad hp h ad' hp' h') (y : GoN G k W F ad' hp' h' ad'' hp'' h'') : GoN G k W F ad hp h ad'' hp'' h'' := by
  refine ⟨Nat.le_trans x.size y.size, fun i p z e => y.ext i p z (x.ext i p z e), fun b hb => (y.grow b hb).elim (x.grow b) fun q => .inr (Nat.le_trans x.size q), fun b o e ho hW => ?_⟩
  have ho' : ¬ Own ad' hp' b := fun q => (x.grow b q).elim ho fun z => absurd (Heap.lt_size e) (Nat.not_lt.mpr z)
  have xp : ¬ Xp G F ad' hp' b → ¬ Xp G F ad hp b := fun q => Xp.of_not (fun z => q (z.elim .inl fun z => .inr (.inl z))) ho
  rcases x.keep b o e ho hW with q | ⟨q1, q2⟩
  · exact (y.keep b o q ho' hW).imp id fun z => ⟨xp z.1, z.2⟩
  · exact .inr ⟨q1, q2.trans fun o' e' => (y.keep b o' e' ho' hW).imp id (·.2)⟩
theorem GoN.wide (g : GoN G k W F ad hp h ad' hp' h') (q : ∀ b ∈ W, b ∈ W') : GoN G k W' F ad hp h ad' hp' h' := ⟨g.size, g.ext, g.grow, fun b o e no w => g.keep b o e no fun z => w (q b z)⟩
theorem GoN.stay (x : GoN G k W F ad hp h ad' hp' h') (hW : ∀ b ∈ W, b ∈ F) : Stay G h h' (Xp G F ad hp) (Xp G F ad' hp') := by
  refine ⟨fun b o e q => ?_, fun b o e q z => ?_⟩
  · exact (x.keep b o e (fun z => q (.inr (.inr z))) (fun z => q (.inr (.inl (hW b z))))).imp id (·.2)
  · rcases z with z | z | z
    · exact q (.inl z)
    · exact q (.inr (.inl z))
    · rcases x.grow b z with y | y
      · exact q (.inr (.inr y))
      · exact absurd (Heap.lt_size e) (Nat.not_lt.mpr y)
theorem GoN.unguard {W' : List Addr} (g : GoN G k W' F' ad hp h ad' hp' h') (k0 : ∀ b o, h''.get? b = some o → h.get? b = some o) (z : h''.objs.size ≤ h.objs.size) (hF : ∀ b ∈ F, b ∈ F') (hW : ∀ b ∈ W', b ∈ W ∨ h''.objs.size ≤ b) : GoN G k W F ad hp h'' ad' hp' h' := by
  refine ⟨Nat.le_trans z g.size, g.ext, fun b q => (g.grow b q).imp id (Nat.le_trans z), fun b o e no w => ?_⟩
  have w' : b ∉ W' := fun q => (hW b q).elim w fun y => absurd (Heap.lt_size e) (Nat.not_lt.mpr y)
  rcases g.keep b o (k0 b o e) no w' with q | ⟨q1, q2⟩
  · exact .inl q
  · exact .inr ⟨fun y => q1 (Xp.less hF y), q2⟩

theorem ExAt.toN {fl : Flw} (x : ExAt G n sc loc hp st fl loc' hp') (p : P fl loc' hp') : ExN G n k sc loc hp st P :=
  fun A E env W F ad s Q rm wr H R q => x A E env W F ad s Q rm wr H R fun ad1 h1 tk f H1 R1 g1 r1 => q _ _ _ p ad1 h1 tk f H1 R1 g1.toN r1
theorem ExsAt.toN {fl : Flw} (x : ExsAt G n sc loc hp r fl loc' hp') (p : P fl loc' hp') : ExsN G n k sc loc hp r P :=
  fun A E env W F ad s Q rm wr H R q => x A E env W F ad s Q rm wr H R fun ad1 h1 tk f H1 R1 g1 r1 => q _ _ _ p ad1 h1 tk f H1 R1 g1.toN r1
theorem ExN.weaken (x : ExN G n k sc loc hp st P) (p : ∀ fl loc hp, P fl loc hp → P' fl loc hp) : ExN G n k sc loc hp st P' :=
  fun A E env W F ad s Q rm wr H R q => x A E env W F ad s Q rm wr H R fun fl l h z => q fl l h (p _ _ _ z)
theorem ExsN.weaken (x : ExsN G n k sc loc hp r P) (p : ∀ fl loc hp, P fl loc hp → P' fl loc hp) : ExsN G n k sc loc hp r P' :=
  fun A E env W F ad s Q rm wr H R q => x A E env W F ad s Q rm wr H R fun fl l h z => q fl l h (p _ _ _ z)
theorem ExsN.up {m : Nat} (x : ExsN G n k sc loc hp r P) (le : n ≤ m) : ExsN G m k sc loc hp r P := fun A E env W F ad s Q rm => x A E env W F ad s Q (rm.less le)
theorem ExN.up {m : Nat} (x : ExN G n k sc loc hp st P) (le : n ≤ m) : ExN G m k sc loc hp st P := fun A E env W F ad s Q rm => x A E env W F ad s Q (rm.less le)
theorem ExsN.nil (p : P .next loc hp) : ExsN G n k sc loc hp [] P := exs_nil.toN p
theorem XN.after {Q : Flow → Shared → Prop} {fl : Flw} {tk : Nat} (g : GoN G k W F ad hp s.heap ad1 hp1 h1) (q : XN G k s Q W F ad hp env sc fl loc' hp') : XN G k { s with heap := h1, toks := tk } Q W F ad1 hp1 env sc fl loc' hp' :=
  fun ad2 h2 tk2 f H2 R2 g2 r2 => q ad2 h2 tk2 f H2 R2 (g.trans g2) r2
theorem execs_append (env : Env) (b : List Stmt) : ∀ a : List Stmt, execs (a ++ b) env = (do match ← execs a env with | .next => execs b env | f => pure f)
  | [] => by rw [execs_nil, pure_bind]; rfl
  | st :: a => by
    rw [List.cons_append, execs_cons, execs_cons, bind_assoc]
    congr 1
    funext f
    cases f with
    | next => exact execs_append env b a
    | _ => rw [pure_bind]
theorem ExsN.append {a b : List Stmt} (x : ExsN G n k sc loc hp a (fun fl loc hp => match fl with | .next => ExsN G n k sc loc hp b P | .ret v => P (.ret v) loc hp)) : ExsN G n k sc loc hp (a ++ b) P := by
  intro A E env W F ad s Q rm wr H R q
  rw [execs_append]
  refine wpAny_bind (x A E env W F ad s _ rm wr H R fun fl l1 hp1 p ad1 h1 tk f H1 R1 g1 r1 => ?_)
  cases fl with
  | next =>
    have r1 : f = .next := r1
    subst r1
    exact p A E env W F ad1 { s with heap := h1, toks := tk } Q rm wr H1 R1 fun fl l2 hp2 z => XN.after g1 (q fl l2 hp2 z)
  | ret v =>
    obtain ⟨w, rfl, r2⟩ := r1
    exact wpAny_pure (q _ _ _ p ad1 h1 tk _ H1 R1 g1 ⟨w, rfl, r2⟩)
theorem ExsN.cons (x : ExN G n k sc loc hp st (fun fl loc hp => match fl with | .next => ExsN G n k sc loc hp r P | .ret v => P (.ret v) loc hp)) : ExsN G n k sc loc hp (st :: r) P := by
  intro A E env W F ad s Q rm wr H R q
  refine wpAny_execs_cons (x A E env W F ad s _ rm wr H R fun fl l1 hp1 p ad1 h1 tk f H1 R1 g1 r1 => ?_)
  cases fl with
  | next =>
    have r1 : f = .next := r1
    subst r1
    exact p A E env W F ad1 { s with heap := h1, toks := tk } Q rm wr H1 R1 fun fl l2 hp2 z => XN.after g1 (q fl l2 hp2 z)
  | ret v =>
    obtain ⟨w, rfl, r2⟩ := r1
    exact q _ _ _ p ad1 h1 tk _ H1 R1 g1 ⟨w, rfl, r2⟩

/-- the same things told in another way -/
noncomputable def Cv (G : Gnd) (k : Nat) (sc : Sc) (loc : Loc) (hp : Hp) (loc1 : Loc) (hp1 : Hp) : Prop := ∀ (h : Heap) (F : List Addr) (ad : Ad) (env : Env), HR G h F ad hp → FRel G h F ad hp env sc loc → ∃ ad1, HR G h F ad1 hp1 ∧ FRel G h F ad1 hp1 env sc loc1 ∧ (∀ b, Own ad1 hp1 b → Own ad hp b) ∧ ∀ i p, i < k → nth ad i = some p → nth ad1 i = some p
theorem Cv.go (own : ∀ b, Own ad1 hp1 b → Own ad hp b) (ext : ∀ i p, i < k → nth ad i = some p → nth ad1 i = some p) : GoN G k W F ad hp h ad1 hp1 h := ⟨Nat.le_refl _, ext, fun b q => .inl (own b q), fun b o e _ _ => .inl e⟩
theorem Cv.trans (a : Cv G k sc loc hp loc1 hp1) (b : Cv G k sc loc1 hp1 loc' hp') : Cv G k sc loc hp loc' hp' := fun h F ad env H R => by
  obtain ⟨ad1, H1, R1, o1, e1⟩ := a h F ad env H R
  obtain ⟨ad2, H2, R2, o2, e2⟩ := b h F ad1 env H1 R1
  exact ⟨ad2, H2, R2, fun x q => o1 x (o2 x q), fun i p z e => e2 i p z (e1 i p z e)⟩
theorem Cv.refl : Cv G k sc loc hp loc hp := fun h F ad env H R => ⟨ad, H, R, fun _ q => q, fun _ _ _ e => e⟩
theorem ExsN.pre (c : Cv G k sc loc hp loc1 hp1) (x : ExsN G n k sc loc1 hp1 r P) : ExsN G n k sc loc hp r P := by
  intro A E env W F ad s Q rm wr H R q
  obtain ⟨ad1, H1, R1, o1, e1⟩ := c s.heap F ad env H R
  exact x A E env W F ad1 s Q rm wr H1 R1 fun fl l2 hp2 z ad2 h2 tk f H2 R2 g2 r2 => q fl l2 hp2 z ad2 h2 tk f H2 R2 ((Cv.go o1 e1).trans g2) r2
theorem ExN.pre (c : Cv G k sc loc hp loc1 hp1) (x : ExN G n k sc loc1 hp1 st P) : ExN G n k sc loc hp st P := by
  intro A E env W F ad s Q rm wr H R q
  obtain ⟨ad1, H1, R1, o1, e1⟩ := c s.heap F ad env H R
  exact x A E env W F ad1 s Q rm wr H1 R1 fun fl l2 hp2 z ad2 h2 tk f H2 R2 g2 r2 => q fl l2 hp2 z ad2 h2 tk f H2 R2 ((Cv.go o1 e1).trans g2) r2
/-- the end told in another way -/
theorem ExN.post (x : ExN G n k sc loc hp st (fun fl l h => match fl with | .next => ∃ l' h', Cv G k sc l h l' h' ∧ P .next l' h' | .ret v => P (.ret v) l h)) : ExN G n k sc loc hp st P := by
  intro A E env W F ad s Q rm wr H R q
  refine x A E env W F ad s Q rm wr H R fun fl l1 hp1 p ad1 h1 tk f H1 R1 g1 r1 => ?_
  cases fl with
  | next =>
    obtain ⟨l2, hp2, c, p⟩ := p
    obtain ⟨ad2, H2, R2, o2, e2⟩ := c h1 F ad1 env H1 R1
    exact q _ _ _ p ad2 h1 tk f H2 R2 (g1.trans (Cv.go o2 e2)) r1
  | ret v => exact q _ _ _ p ad1 h1 tk f H1 R1 g1 r1
theorem ExsN.post (x : ExsN G n k sc loc hp r (fun fl l h => match fl with | .next => ∃ l' h', Cv G k sc l h l' h' ∧ P .next l' h' | .ret v => P (.ret v) l h)) : ExsN G n k sc loc hp r P := by
  intro A E env W F ad s Q rm wr H R q
  refine x A E env W F ad s Q rm wr H R fun fl l1 hp1 p ad1 h1 tk f H1 R1 g1 r1 => ?_
  cases fl with
  | next =>
    obtain ⟨l2, hp2, c, p⟩ := p
    obtain ⟨ad2, H2, R2, o2, e2⟩ := c h1 F ad1 env H1 R1
    exact q _ _ _ p ad2 h1 tk f H2 R2 (g1.trans (Cv.go o2 e2)) r1
  | ret v => exact q _ _ _ p ad1 h1 tk f H1 R1 g1 r1
end
end Mine
end
section
open PySem PySem.W PyProof.Rows PySem.Calls
set_option maxRecDepth 100000
namespace Mine

section
variable {G : Gnd} {glob : Str → Option Addr} {n N k : Nat} {ih : Ih} {A : Around} {E : Value → Shared → Prop} {s : Shared} {env : Env} {W W' F F0 F' T : List Addr} {ad ad0 ad1 ad3 ad6 ad' ad'' : Ad} {hp hp' hp1 hp2 hp3 hp6 hp'' : Hp} {h h' h'' h0 h1 h3 h4 h6 : Heap} {loc3 : Loc} {scope : Scope} {x : Str} {sc sc' : Sc} {loc loc' loc0 loc1 : Loc} {X X' : Addr → Prop}
variable {K : Frag} {fI : Addr} {mg mb : Str → Option Value} {cfg : Cfg} {P P' : MPost} {st : Stmt} {r : List Stmt}

structure MidN (G : Gnd) (k : Nat) (W F : List Addr) (I : Addr) (ad : Ad) (hp : Hp) (h0 : Heap) (fp : List Addr) (ad' : Ad) (hp' : Hp) (h' : Heap) : Prop where
  hr : HR G h' (I :: F) ad' hp'
  go : GoN G k (I :: W) (I :: F) ad hp h0 ad' hp' h'
  feet : Feet G h' (Xp G (I :: F) ad' hp') fp I
theorem GoN.wrk {d : Addr} (hd : d ∈ W) (q : ∀ b o, b ≠ d → h.get? b = some o → h'.get? b = some o) (z : h.objs.size ≤ h'.objs.size) : GoN G k W F ad hp h ad hp h' := (Go.wrk hd q z).toN

section
variable {I : Addr} {fp : List Addr} {l : List AV}
theorem MidN.step (M : MidN G k W F I ad hp h0 fp ad3 hp3 h3) (q : ∀ b o, b ≠ I → h3.get? b = some o → h4.get? b = some o) (hz : h3.objs.size ≤ h4.objs.size) : MidN G k W F I ad hp h0 fp ad3 hp3 h4 :=
  ⟨M.hr.wrk (.head _) q hz, M.go.trans (GoN.wrk (.head _) q hz), M.feet.stay (wrk_stay (.head _) q)⟩
theorem MidN.on (M : MidN G k W F I ad hp h0 fp ad3 hp3 h4) (wr : WR W F env) (H6 : HR G h6 (I :: F) ad6 hp6) (g : GoN G k W (I :: F) ad3 hp3 h4 ad6 hp6 h6) : MidN G k W F I ad hp h0 fp ad6 hp6 h6 :=
  ⟨H6, M.go.trans (g.wide fun b hb => .tail _ hb), M.feet.stay (g.stay fun b hb => .tail _ (wr.sub b hb))⟩
theorem MidN.stay (M : MidN G k W F I ad hp h0 fp ad3 hp3 h4) (wr : WR W F env) : Stay G h0 h4 (Xp G (I :: F) ad hp) (Xp G (I :: F) ad3 hp3) := M.go.stay fun b hb => (List.mem_cons.mp hb).elim (fun z => z ▸ .head _) fun hb => .tail _ (wr.sub b hb)
theorem MidN.at (M : MidN G k W F I ad hp h0 fp ad3 hp3 h4) (wr : WR W F env) (IW : I ∉ W) (g : GoN G k W (I :: F) ad3 hp3 h4 ad6 hp6 h6) : ∀ b ∈ fp, ∀ o, h4.get? b = some o → h6.get? b = some o := fun b hb o eo => by
  rcases Decidable.em (b = I) with z | z
  · rw [z] at eo ⊢
    exact (g.keep _ o eo (fun y => (M.hr.lo _ y).2.2 (.head _)) IW).elim id fun y => absurd (.inr (.inl (.head _))) y.1
  · obtain ⟨o', eo', xo, nf⟩ := M.feet b hb z
    rw [← Option.some.inj (eo'.symm.trans eo)]
    exact (g.keep _ _ eo' (fun y => xo (.inr (.inr y))) (fun y => xo (.inr (.inl (.tail _ (wr.sub b y)))))).elim id fun y => absurd y.2 (nf _)
/-- where a loop stands -/
structure FN (G : Gnd) (k : Nat) (W F : List Addr) (env : Env) (sc : Sc) (Inv : Nat → Loc → Hp → Prop) (s : Shared) (l : List AV) (I : Addr) (ad1 : Ad) (hp1 : Hp) (h0 : Heap) (fp : List Addr) (St : Nat → Heap → Prop) (m : Nat) (s' : Shared) (x : LS) : Prop where
  es : s' = { s with heap := x.h, toks := x.tk }
  ek : m = l.length - x.i
  hi : x.i ≤ l.length
  er : l.drop x.i = x.r
  ef : Inv x.i x.loc x.hp
  st : St x.i x.h
  M : MidN G k W F I ad1 hp1 h0 fp x.ad x.hp x.h
  R : FRel G x.h (I :: F) x.ad x.hp env sc x.loc
theorem midN_end {Q : Flow → Shared → Prop} {io : Obj} {tk3 : Nat} {fl : Flw} {fl' : Flow} (R1 : FRel G h1 F ad1 hp1 env sc loc) (g1 : Go G [] F ad hp s.heap ad1 hp1 h1) (q : XN G k s Q W F ad hp env sc fl loc' hp') (H3 : HR G h3 (h1.objs.size :: F) ad3 hp') (R3 : FRel G h3 (h1.objs.size :: F) ad3 hp' env sc loc') (g3 : GoN G k (h1.objs.size :: W) (h1.objs.size :: F) ad1 hp1 (h1.push io) ad3 hp' h3) (f3 : FlR G h3 (h1.objs.size :: F) ad3 hp' fl fl') : Q fl' { s with heap := h3, toks := tk3 } :=
  q ad3 h3 tk3 fl' (H3.less fun b hb => .tail _ hb) (R3.less R1 fun b hb => .tail _ hb) ((g1.wide nil_sub).toN.trans (g3.unguard push_keep push_size (fun b hb => .tail _ hb) fun b hb => (List.mem_cons.mp hb).elim (fun z => .inr (Nat.le_of_eq z.symm)) .inl)) (f3.weaken fun b hb => .tail _ hb)
end
/-- a for over a frozen thing, with an invariant of its own -/
theorem forN (Z : Env0 G K fI glob mg mb cfg N) (I : SIh G glob n ih) {x : Str} {px pos : Pos} {e : Expr} {b : List Stmt} {rv : RV} {l : List AV} (hx : isLoc sc x = true) (ns : noSet e = true) (e1 : ih.ev sc loc hp e = some (rv, hp1)) (e2 : iterOf rv = some l)
    (Inv : Nat → Loc → Hp → Prop) (i0 : Inv 0 loc hp1) (body : ∀ i av loc hp, nth l i = some av → Inv i loc hp → ExsN G n k sc (aset x (.a av) loc) hp b (fun fl loc' hp' => match fl with | .next => Inv (i + 1) loc' hp' | .ret v => P (.ret v) loc' hp')) (last : ∀ loc hp, Inv l.length loc hp → P .next loc hp) :
    ExN G n k sc loc hp (.For (.Name x px) e b [] pos) P := fun A E env W F ad s Q rm wr H R q => by
  refine wpAny_For (I.one e1 rm H R fun ad1 h1 tk1 v1 H1 R1 g1 r1 => iter_open (s := { s with heap := h1, toks := tk1 }) rm.1 Z.hv.sx e2 r1 fun io It st0 => ?_) (fun y => ?_)
  · have S2 := guard_stay H1 (F' := h1.objs.size :: F) (push_keep (o := io)) guard_new
    have nF : ∀ {b}, b ∈ F → h1.objs.size ≠ b := fun {b} hb => Nat.ne_of_gt (H1.fr b hb).2
    have IW : h1.objs.size ∉ W := fun z => nF (wr.sub _ z) rfl
    have wr2 : WR W (h1.objs.size :: F) env := wr.more fun b hb => .tail _ hb
    have rw_ : ∀ {ad3 hp3 loc3} {h3 h4 : Heap}, FRel G h3 (h1.objs.size :: F) ad3 hp3 env sc loc3 → (∀ b o, b ≠ h1.objs.size → h3.get? b = some o → h4.get? b = some o) → FRel G h4 (h1.objs.size :: F) ad3 hp3 env sc loc3 := fun R3 k4 => R3.wrk (.head _) k4 (nF R1.locF) fun x c ec => nF (wr.sub _ (wr.cell x c ec))
    refine codeAny_forLoop (fun m s' => ∃ y : LS, FN G k W F env sc Inv s l h1.objs.size ad1 hp1 (h1.push io) It.fp It.St m s' y) ?_ (l.length - 0)
      ⟨⟨0, l, ad1, hp1, loc, h1.push io, tk1⟩, rfl, rfl, Nat.zero_le _, rfl, i0, st0, ⟨H1.guard push_keep push_size guard_new, GoN.refl, It.feet.stay S2⟩, R1.guard H1 push_keep guard_new fun b hb => .tail _ hb⟩
    intro m s' ⟨⟨i, r, ad3, hp3, loc3, h3, tk3⟩, T⟩
    rw [T.es, T.ek]
    have M := T.M
    have k4' : ∀ {h4 : Heap}, (∀ b, b ∉ [h1.objs.size] → ∀ o, h3.get? b = some o → h4.get? b = some o) → ∀ b o, b ≠ h1.objs.size → h3.get? b = some o → h4.get? b = some o := fun k4 b o ne e => k4 b (fun z => ne (List.mem_singleton.mp z)) o e
    cases r with
    | nil =>
      have hil : i = l.length := Nat.le_antisymm T.hi (List.drop_eq_nil_iff.mp T.er)
      rw [hil]
      have st := T.st
      have ef := T.ef
      rw [hil] at st ef
      exact with_hz (It.W.done _ _ _ st fun h4 tk4 k4 hz4 => wpAny_execs_nil (have M4 := M.step (k4' fun b hb o => k4 b o hb) hz4; midN_end (s := s) (fl := .next) R1 g1 (q _ _ _ (last _ _ ef)) M4.hr (rw_ T.R (k4' fun b hb o => k4 b o hb)) M4.go rfl))
    | cons av r =>
      have D := drop_cons T.er
      refine with_hz (It.W.item i _ _ _ D.2.2 T.st fun v4 h4 tk4 p4 st4 k4 hz4 => ?_)
      have M4 := M.step (k4' fun b hb o => k4 b o hb) hz4
      have ar := ((It.vals i v4 p4 av D.1).stay S2).stay (M4.stay wr)
      refine wpAny_assign_Name (store_sound (s := { s with heap := h4, toks := tk4 }) (rv := .a av) wr2 M4.hr (rw_ T.R (k4' fun b hb o => k4 b o hb)) hx ar fun h5 tk5 H5 R5 g5 => ?_)
      refine body i av loc3 hp3 D.1 T.ef A _ env W _ ad3 { s with heap := h5, toks := tk5 } _ rm wr2 H5 R5 fun fl3 loc4 hp4 pp ad6 h6 tk6 f6 H6 R6 g6 fr6 => ?_
      have g56 := (g5.toN).trans g6
      have M6 := M4.on wr H6 g56
      cases fl3 with
      | next =>
        rw [(fr6 : f6 = .next)]
        exact ⟨l.length - (i + 1), Nat.sub_lt_sub_left D.2.2 (Nat.lt_succ_self i), ⟨i + 1, r, ad6, hp4, loc4, h6, tk6⟩, rfl, rfl, D.2.2, D.2.1, pp, It.W.frame _ _ _ st4 (M4.at wr IW g56), M6, R6⟩
      | ret w =>
        obtain ⟨u, eu, c⟩ := fr6
        rw [eu]
        exact midN_end (s := s) (fl := .ret w) (hp' := hp4) (loc' := loc4) R1 g1 (q _ _ _ pp) M6.hr R6 M6.go ⟨u, rfl, c⟩
  · cases e <;> first | exact rfl | exact ft ns
end
end Mine
end
section
open PySem PySem.W PyProof.Rows PySem.Calls
set_option maxRecDepth 100000
namespace Mine

noncomputable def selL : List Str → Loc → Loc
  | [], _ => []
  | y :: r, loc => match alook y loc with
    | some v => (y, v) :: selL r loc
    | none => selL r loc
noncomputable def refOk (m : Nat) : RV → Bool
  | .a _ => true
  | .r j => Nat.blt j m
noncomputable def locOk (m : Nat) (l : Loc) : Bool := l.all fun p => refOk m p.2
noncomputable def dropOk (m : Nat) (hp : Hp) : Bool := Nat.ble hp.length m || noRefs (hp.take m)
/-- the names that are needed later, the first m objects -/
noncomputable def finR (names : List Str) (m : Nat) (q : Flw × Loc × Hp) : Option (Loc × Hp) := match q.1 with
  | .next => gd (locOk m (selL names q.2.1)) (gd (dropOk m q.2.2) (some (selL names q.2.1, q.2.2.take m)))
  | .ret _ => none
noncomputable def fin (names : List Str) (m : Nat) (o : Option (Flw × Loc × Hp)) : Option (Loc × Hp) := o.bind (finR names m)

section
variable {G : Gnd} {glob : Str → Option Addr} {n N k m : Nat} {ih : Ih} {A : Around} {E : Value → Shared → Prop} {s : Shared} {env : Env} {W W' F F0 F' T : List Addr} {ad ad0 ad1 ad' ad'' : Ad} {hp hp' hp1 hp2 hp'' : Hp} {h h' h'' : Heap} {scope : Scope} {x : Str} {sc sc' : Sc} {loc loc' loc0 loc1 : Loc} {X X' : Addr → Prop}
variable {K : Frag} {fI : Addr} {mg mb : Str → Option Value} {cfg : Cfg} {P P' : MPost} {st : Stmt} {r : List Stmt}

theorem selL_look : ∀ {names : List Str} {y : Str} {rv : RV}, alook y (selL names loc) = some rv → alook y loc = some rv := fun {names} => by
  induction names with
  | nil => exact fun e => nn e
  | cons z r ih =>
    intro y rv e
    unfold selL at e
    cases q : alook z loc with
    | none => rw [q] at e; exact ih e
    | some v =>
      rw [q] at e
      refine cs (show cond (seq y z) (some v) (alook y (selL r loc)) = some rv from e) (fun w e => ?_) fun _ e => ih e
      rw [seq_iff.mp w]; exact q.trans e
theorem locOk_at {loc : Loc} {y : Str} {j : Nat} (o : locOk m loc = true) (e : alook y loc = some (.r j)) : j < m := Nat.blt_eq.mp (List.all_eq_true.mp o _ (alook_mem e))
theorem Cv.fin (km : k ≤ m) {names : List Str} (l1 : locOk m (selL names loc) = true) (l2 : dropOk m hp = true) : Cv G k sc loc hp (selL names loc) (hp.take m) := fun h F ad env H R => by
  have HD : HR G h F (ad.take m) (hp.take m) := by
    rcases Bool.or_eq_true_iff.mp l2 with z | z
    · have z := Nat.le_of_ble_eq_true z
      rw [List.take_of_length_le z, List.take_of_length_le (by rw [H.len]; exact z)]
      exact H
    · exact H.drop z
  have sub : ∀ b, Xp G F (ad.take m) (hp.take m) b → Xp G F ad hp b := fun b x => x.imp id fun y => y.imp id own_take
  refine ⟨ad.take m, HD, R.conv (fun _ z => z) fun y rv e => ⟨rv, selL_look e, fun w r => ?_⟩, fun b => own_take, fun i p z e => nth_take' e (Nat.lt_of_lt_of_le z km)⟩
  cases rv with
  | a v => exact AR.weaken sub r
  | r j => exact RVR.rE (P := fun w => RVR G h (Xp G F (ad.take m) (hp.take m)) (ad.take m) (.r j) w) r fun p ep => ⟨p, nth_take' ep (locOk_at l1 e), rfl⟩
theorem finE {P : Loc → Hp → Prop} {fl : Flw} {l1 : Loc} {h1 : Hp} {names : List Str} {m : Nat} (e : finR names m (fl, l1, h1) = some (loc', hp')) (q : fl = .next → locOk m (selL names l1) = true → dropOk m h1 = true → P (selL names l1) (h1.take m)) : P loc' hp' := by
  cases fl with
  | next => exact gs e fun a e => gs e fun b e => sp e (q rfl a b)
  | ret _ => exact nn e
/-- a stretch run by the interpreter -/
theorem block (I : SIh G glob n ih) {names : List Str} {r : List Stmt} (m : Nat) (km : k ≤ m) (e : fin names m (ih.exs sc loc hp r) = some (loc', hp')) (p : P .next loc' hp') : ExsN G n k sc loc hp r P :=
  bs e fun q e1 e => finE (P := fun loc' hp' => P .next loc' hp' → ExsN G n k sc loc hp r P) (fl := q.1) (l1 := q.2.1) (h1 := q.2.2) e (fun z a b p => ExsN.post ((I.exs (fl := .next) (loc' := q.2.1) (hp' := q.2.2) (z ▸ e1)).toN ⟨_, _, Cv.fin km a b, p⟩)) p
theorem block1 (I : SIh G glob n ih) {names : List Str} {st : Stmt} (m : Nat) (km : k ≤ m) (e : fin names m (ih.ex sc loc hp st) = some (loc', hp')) (p : P .next loc' hp') : ExN G n k sc loc hp st P :=
  bs e fun q e1 e => finE (P := fun loc' hp' => P .next loc' hp' → ExN G n k sc loc hp st P) (fl := q.1) (l1 := q.2.1) (h1 := q.2.2) e (fun z a b p => ExN.post ((I.ex (fl := .next) (loc' := q.2.1) (hp' := q.2.2) (z ▸ e1)).toN ⟨_, _, Cv.fin km a b, p⟩)) p
theorem Cv.vals (v : ∀ y rv, alook y loc' = some rv → ∃ rv0, alook y loc = some rv0 ∧ ∀ (h : Heap) (X : Addr → Prop) (ad : Ad) w, RVR G h X ad rv0 w → RVR G h X ad rv w) : Cv G k sc loc hp loc' hp := fun h F ad env H R =>
  ⟨ad, H, R.conv (fun _ z => z) (fun y rv e => by obtain ⟨r0, e0, q⟩ := v y rv e; exact ⟨r0, e0, fun w => q h _ ad w⟩), fun _ q => q, fun _ _ _ e => e⟩

theorem unr_snoc {W1 : List Int} {L : Nat} : ∀ {l : List (Nat × Nat)} {W0 : List Int}, unr l W0 = some W1 → unr (l ++ [(L, dipD W1 L)]) W0 = some (dipR W1 L) := fun {l} => by
  induction l with
  | nil =>
    intro W0 e
    rw [Option.some.inj e]
    show gd (decide (dipD W1 L = dipD W1 L)) (some (dipR W1 L)) = _
    rw [decide_eq_true rfl]; rfl
  | cons p r ih =>
    refine fun {W0} e => gs (show gd (decide (dipD W0 p.1 = p.2)) (unr r (dipR W0 p.1)) = some W1 from e) fun z e => ?_
    show gd (decide (dipD W0 p.1 = p.2)) (unr (r ++ _) (dipR W0 p.1)) = _
    rw [z]; exact ih e
theorem dipD_lt {W1 : List Int} {L : Nat} (hL : 0 < L) : dipD W1 L < L := by
  cases W1 with
  | nil => exact hL
  | cons w r => exact Int.ofNat_lt.mp (by show (((Int.fmod w L).toNat : Nat) : Int) < L; rw [Int.toNat_of_nonneg (fmod_lt (w := w) (L := (L : Int)) (Int.ofNat_lt.mpr hL)).1]; exact (fmod_lt (Int.ofNat_lt.mpr hL)).2)
theorem nth_first {o o' x : AO} {i : Nat} (ow : ∀ p, ownsO p o' = ownsO p o) (e : nth (o' :: hp) i = some x) : ∃ y, nth (o :: hp) i = some y ∧ ∀ p, ownsO p x = ownsO p y := by
  cases i with
  | zero => exact ⟨o, rfl, fun p => Option.some.inj e ▸ ow p⟩
  | succ i => exact ⟨x, e, fun _ => rfl⟩
theorem own_first {o o' : AO} {b : Addr} (ow : ∀ p, ownsO p o' = ownsO p o) (q : Own ad (o' :: hp) b) : Own ad (o :: hp) b := by
  obtain ⟨i, p, x, e1, e2, e3⟩ := q
  obtain ⟨y, e4, e5⟩ := nth_first ow e2
  exact ⟨i, p, y, e1, e4, e5 p ▸ e3⟩
theorem Cv.draw {l : List (Nat × Nat)} {W1 : List Int} {L : Nat} : Cv G k sc loc (.well l W1 :: hp) loc (.well (l ++ [(L, dipD W1 L)]) (dipR W1 L) :: hp) := fun h F ad env H R => by
  have own : ∀ b, Own ad (.well (l ++ [(L, dipD W1 L)]) (dipR W1 L) :: hp) b → Own ad (.well l W1 :: hp) b := fun b => own_first fun _ => rfl
  have xp : Xp G F ad (.well (l ++ [(L, dipD W1 L)]) (dipR W1 L) :: hp) = Xp G F ad (.well l W1 :: hp) := funext fun b => propext ⟨fun x => x.imp id fun x => x.imp id (own b), fun x => x.imp id fun x => x.imp id (own_first (o := .well (l ++ [(L, dipD W1 L)]) (dipR W1 L)) (o' := .well l W1) fun _ => rfl)⟩
  refine ⟨ad, ⟨H.base, H.size, H.len, fun i o p e1 e2 => ?_, fun i j p q o o' b ne e1 e2 e3 e4 h1 h2 => ?_, fun b ob => H.lo b (own b ob), H.fr⟩, R.conv (fun _ z => z) fun y rv e => ⟨rv, e, fun w r => by rw [xp]; exact r⟩, own, fun _ _ _ e => e⟩
  · rw [xp]
    cases i with
    | zero =>
      obtain ⟨W0, vs, n, a, b, c, d, e⟩ := H.obj 0 _ p rfl e2
      exact si (P := fun o => OR G h (Xp G F ad (.well l W1 :: hp)) ad p o) e1 ⟨W0, vs, n, a, b, c, d, unr_snoc e⟩
    | succ i => exact H.obj (i + 1) o p e1 e2
  · obtain ⟨o1, a1, b1⟩ := nth_first (o := .well l W1) (o' := .well (l ++ [(L, dipD W1 L)]) (dipR W1 L)) (fun _ => rfl) e3
    obtain ⟨o2, a2, b2⟩ := nth_first (o := .well l W1) (o' := .well (l ++ [(L, dipD W1 L)]) (dipR W1 L)) (fun _ => rfl) e4
    exact H.nd i j p q o1 o2 b ne e1 e2 a1 a2 (b1 p ▸ h1) (b2 q ▸ h2)
theorem ExsN.draw {l : List (Nat × Nat)} {W1 : List Int} {L : Nat} (hL : 0 < L) (x : ∀ d W', d < L → ExsN G n k sc loc (.well (l ++ [(L, d)]) W' :: hp) r P) : ExsN G n k sc loc (.well l W1 :: hp) r P :=
  ExsN.pre Cv.draw (x _ _ (dipD_lt hL))
theorem ExsN.draws {L : Nat} (hL : 0 < L) : ∀ {q : Nat} {l : List (Nat × Nat)} {W1 : List Int}, (∀ (ds : List Nat) W', ds.length = q → (∀ d ∈ ds, d < L) → ExsN G n k sc loc (.well (l ++ ds.map fun d => (L, d)) W' :: hp) r P) → ExsN G n k sc loc (.well l W1 :: hp) r P
  | 0, l, W1, x => by
    have := x [] W1 rfl (fun _ h => (nomatch h))
    rw [List.map_nil, List.append_nil] at this
    exact this
  | q + 1, l, W1, x => ExsN.draw hL fun d W' hd => ExsN.draws (q := q) hL fun ds W'' e hs => by
    have := x (d :: ds) W'' (by rw [List.length_cons, e]) fun y hy => by
      rcases List.mem_cons.mp hy with rfl | hy
      · exact hd
      · exact hs y hy
    rw [List.map_cons] at this
    rw [List.append_assoc]
    exact this
/-- an if, by its test -/
theorem ifN (I : SIh G glob n ih) {t : Expr} {b o : List Stmt} {pos : Pos} {c : Bool} (e : ih.tr sc loc hp t = some (c, hp1)) (x : ExsN G n k sc loc hp1 (match c with | true => b | false => o) P) : ExN G n k sc loc hp (.If t b o pos) P := by
  intro A E env W F ad s Q rm wr H R q
  refine wpAny_If (I.tr e A E env F ad s _ rm H R fun ad1 h1 tk1 H1 g1 => ?_)
  have q1 : ∀ fl l h, P fl l h → XN G k { s with heap := h1, toks := tk1 } Q W F ad1 hp1 env sc fl l h := fun fl l h z => XN.after (g1.wide nil_sub).toN (q fl l h z)
  cases c
  · exact x A E env W F ad1 { s with heap := h1, toks := tk1 } Q rm wr H1 (R.go H g1) q1
  · exact x A E env W F ad1 { s with heap := h1, toks := tk1 } Q rm wr H1 (R.go H g1) q1
theorem Cv.fz {xs : List (Bool × Str)} (e : fzNames xs loc hp = some (loc', hp')) : Cv G k sc loc hp loc' hp' := fun h F ad env H R => by
  have z := fzNames_ok H e
  exact ⟨ad, z.hr, R.fz z, z.own, fun _ _ _ e => e⟩
/-- an if whose branch ends with next and names are frozen after it -/
theorem blockR (I : SIh G glob n ih) {r : List Stmt} {v : RV} (e : ih.exs sc loc hp r = some (.ret v, loc', hp')) (p : P (.ret v) loc' hp') : ExsN G n k sc loc hp r P := (I.exs e).toN p

open Classical in
/-- one known value -/
noncomputable def plugEv (sc : Sc) (loc : Loc) (hp : Hp) (e : Expr) (r : RV × Hp) : Ih :=
  ⟨fun sc' l h e' => if sc' = sc ∧ l = loc ∧ h = hp ∧ e' = e then some r else none, fun _ _ _ _ => none, fun _ _ _ _ => none, fun _ _ _ _ => none, fun _ _ _ => none⟩
open Classical in
theorem plugEv_ok {e : Expr} {rv : RV} (w : EvAt G n sc loc hp e rv hp') : SIh G glob n (plugEv sc loc hp e (rv, hp')) where
  ev := fun {sc' l h e' rv' h'} q => by
    unfold plugEv at q
    dsimp only at q
    split at q
    · rename_i z
      obtain ⟨rfl, rfl, rfl, rfl⟩ := z
      cases q; exact w
    · cases q
  tr := fun q => nn q
  ex := fun q => nn q
  exs := fun q => nn q
  cl := fun q => nn q
theorem plugEv_at {e : Expr} {r : RV × Hp} : (plugEv sc loc hp e r).ev sc loc hp e = some r := if_pos ⟨rfl, rfl, rfl, rfl⟩
theorem val_plain {cfg : Cfg} {e : Expr} (nc : noComp e = true) : valI cfg ih sc loc hp e = ih.ev sc loc hp e := by
  cases e <;> first | exact rfl | exact ft nc
theorem asgN (Z : Env0 G K fI glob mg mb cfg N) {e : Expr} {rv : RV} {px pos : Pos} (w : EvAt G n sc loc hp e rv hp') (nc : noComp e = true) (hx : isLoc sc x = true) (ok : tgtOk (.Name x px) e = true) : ExAt G n sc loc hp (.Assign [.Name x px] e pos) .next (aset x rv loc) hp' := by
  refine asg_sound Z (plugEv_ok (glob := glob) w) ok (rv := rv) (hp1 := hp') ((val_plain nc).trans plugEv_at) ?_
  show gd (isLoc sc x) (some (aset x rv loc, hp')) = _
  rw [hx]; rfl
theorem evCallN (Z : Env0 G K fI glob mg mb cfg N) (I : SIh G glob n ih) {m : Nat} {f : Str} {args : List Expr} {rs : List RV} {rv : RV} {fp pos : Pos} (g : isGl sc f = true) (e : evArgs ih sc loc hp args = some (rs, hp1)) (c : ClAt G glob m f rs hp1 rv hp') (mn : m ≤ n) : EvAt G n sc loc hp (.Call (.Name f fp) args [] pos) rv hp' := by
  intro A E env F ad s Q rm H R q
  obtain ⟨fa, ef, w⟩ := c.up mn
  exact call_name Z I g (.inl (Z.fn f fa ef)) (.inl (Z.kf f fa ef)) e rm H R (fun ad1 h1 tk1 vs H1 r1 q1 => w A E F ad1 _ vs Q rm H1 r1 q1) q

open Classical in
noncomputable def plugCl (f : Str) (as : List RV) (hp : Hp) (r : RV × Hp) : Ih :=
  ⟨fun _ _ _ _ => none, fun _ _ _ _ => none, fun _ _ _ _ => none, fun _ _ _ _ => none, fun f' as' h => if f' = f ∧ as' = as ∧ h = hp then some r else none⟩
open Classical in
theorem plugCl_ok {f : Str} {as : List RV} {rv : RV} (w : ClAt G glob n f as hp rv hp') : SIh G glob n (plugCl f as hp (rv, hp')) where
  ev := fun q => nn q
  tr := fun q => nn q
  ex := fun q => nn q
  exs := fun q => nn q
  cl := fun {f' as' h rv' h'} q => by
    unfold plugCl at q
    dsimp only at q
    split at q
    · rename_i z
      obtain ⟨rfl, rfl, rfl⟩ := z
      cases q; exact w
    · cases q
/-- after a call of a def -/
noncomputable def aft (keep : Bool) (as : List RV) (hp os : Hp) (q : RV × Hp) : Option (RV × Hp) := cond keep (cfKeep as hp os q) (cfDrop as hp os q)
theorem clFocus {f : Str} {as : List RV} {os hp0 : Hp} {rv0 rv : RV} (keep : Bool) (nd : nodupN (refsOf as) = true) (e1 : getAll hp (refsOf as) = some os) (c : ClAt G glob n f (renum 0 as) os rv0 hp0) (e2 : aft keep as hp os (rv0, hp0) = some (rv, hp')) : ClAt G glob n f as hp rv hp' := by
  refine callFn_sound (plugCl_ok c) (keep := keep) ?_
  unfold callFn
  rw [nd, e1]
  show ((plugCl f (renum 0 as) os (rv0, hp0)).cl f (renum 0 as) os).bind (aft keep as hp os) = _
  rw [show (plugCl f (renum 0 as) os (rv0, hp0)).cl f (renum 0 as) os = some (rv0, hp0) from if_pos ⟨rfl, rfl, rfl⟩]
  exact e2

theorem ExsN.at {fl : Flw} (x : ExsN G n hp.length sc loc hp r (fun fl' _ h => fl' = fl ∧ h = hp')) : ExsAt G n sc loc hp r fl [] hp' := by
  intro A E env W F ad s Q rm wr H R q
  refine x A E env W F ad s Q rm wr H R ?_
  rintro fl' l h ⟨rfl, rfl⟩ ad1 h1 tk f H1 R1 g1 r1
  refine q ad1 h1 tk f H1 (R1.conv (fun _ z => z) fun y rv e => nn e) ⟨g1.size, fun i p e => g1.ext i p (by rw [← H.len]; exact nth_lt e) e, g1.grow, g1.keep⟩ r1
theorem clN (Z : Env0 G K fI glob mg mb cfg N) {f : Str} {d : FD} {as : List RV} {rv : RV} (et : cfg.tab f = some d) (el : d.params.length = as.length) (ek : d.params.all (isLoc d.names) = true) (x : ExsN G n hp.length d.names (d.params.zip as) hp d.body (fun fl _ h => fl = .ret rv ∧ h = hp')) : ClAt G glob (n + 1) f as hp rv hp' := by
  obtain ⟨fa, eg, ⟨fn⟩⟩ := Z.gf f d et
  exact cl_of fn eg el ek x.at
end
end Mine
end
section
open PySem PySem.W PyProof.Rows PySem.Calls
set_option maxRecDepth 100000
namespace Mine

noncomputable def tA {β : Type} : Nat → (Nat → β) → List β
  | 0, _ => []
  | n + 1, f => f n :: tA n f
noncomputable def tB {β : Type} : Nat → (Nat → β) → List β
  | 0, _ => []
  | n + 1, f => f n :: tB n f
theorem tab {β : Type} {f g : Nat → β} : ∀ {n : Nat}, tA n f = tB n g → ∀ {i}, i < n → f i = g i
  | n + 1, e, i, h => by
    have e : f n :: tA n f = g n :: tB n g := e
    have e1 := List.head_eq_of_cons_eq e
    have e2 := List.tail_eq_of_cons_eq e
    by_cases z : i = n
    · rw [z]; exact e1
    · exact tab e2 (by (first | lia | omega))
noncomputable def tk {α : Type} : Nat → (Nat → α) → List α
  | 0, _ => []
  | n + 1, f => f 0 :: tk n fun i => f (i + 1)
theorem tk_of {α : Type} [Inhabited α] : ∀ {n : Nat} {l : List α}, l.length = n → ∃ f, l = tk n f
  | 0, [], _ => ⟨fun _ => default, rfl⟩
  | n + 1, a :: r, h => by
    obtain ⟨f, e⟩ := tk_of (Nat.succ.inj h)
    exact ⟨fun i => match i with | 0 => a | i + 1 => f i, by rw [e]; rfl⟩
theorem tkk_of {α : Type} [Inhabited α] {t : Nat} : ∀ {n : Nat} {l : List (List α)}, l.length = n → (∀ r ∈ l, r.length = t) → ∃ f : Nat → Nat → α, l = tk n fun i => tk t (f i)
  | 0, [], _, _ => ⟨fun _ _ => default, rfl⟩
  | n + 1, a :: r, h, q => by
    obtain ⟨f, e⟩ := tkk_of (Nat.succ.inj h) fun x hx => q x (.tail _ hx)
    obtain ⟨g, e'⟩ := tk_of (q a (.head _))
    exact ⟨fun i => match i with | 0 => g | i + 1 => f i, by rw [e, e']; rfl⟩
/-- the digits of a number -/
noncomputable def digs (L : Nat) : Nat → Nat → List Nat
  | 0, _ => []
  | n + 1, c => c % L :: digs L n (c / L)
theorem digs_of {L : Nat} (hL : 0 < L) : ∀ {n : Nat} {l : List Nat}, l.length = n → (∀ d ∈ l, d < L) → ∃ c, c < L ^ n ∧ l = digs L n c
  | 0, [], _, _ => ⟨0, Nat.one_pos, rfl⟩
  | n + 1, a :: r, h, q => by
    obtain ⟨c, h1, e⟩ := digs_of hL (Nat.succ.inj h) fun x hx => q x (.tail _ hx)
    have ha := q a (.head _)
    refine ⟨a + L * c, ?_, ?_⟩
    · rw [Nat.pow_succ, Nat.mul_comm (L ^ n)]
      calc a + L * c < L + L * c := Nat.add_lt_add_right ha _
        _ = L * (c + 1) := by rw [Nat.mul_add, Nat.mul_one, Nat.add_comm]
        _ ≤ L * L ^ n := Nat.mul_le_mul_left _ h1
    · show _ = (a + L * c) % L :: digs L n ((a + L * c) / L)
      rw [Nat.add_mul_mod_self_left, Nat.mod_eq_of_lt ha, Nat.add_mul_div_left _ _ hL, Nat.div_eq_of_lt ha, Nat.zero_add, ← e]
noncomputable def bits (n c : Nat) : List Bool := (digs 2 n c).map fun d => Nat.beq d 1
theorem bits_of {n : Nat} {l : List Bool} (h : l.length = n) : ∃ c, c < 2 ^ n ∧ l = bits n c := by
  obtain ⟨c, h1, h2⟩ := digs_of (L := 2) (by decide) (n := n) (l := l.map fun b => b.toNat) (by rw [List.length_map]; exact h) fun d hd => by
    obtain ⟨b, _, rfl⟩ := List.mem_map.mp hd
    exact Bool.toNat_lt b
  refine ⟨c, h1, ?_⟩
  unfold bits
  rw [← h2, List.map_map]
  refine (List.map_id l).symm.trans (List.map_congr_left fun b _ => ?_)
  cases b <;> rfl
/-- a list that has x in a place below three -/
noncomputable def ins3 {α : Type} : Nat → (Nat → α) → α → List α → List α
  | 0, _, x, r => x :: r
  | 1, f, x, r => f 0 :: x :: r
  | _, f, x, r => f 0 :: f 1 :: x :: r
theorem ins3_of {α : Type} : ∀ {i : Nat} {l : List α} {x : α}, nth l i = some x → i < 3 → ∃ f r, l = ins3 i f x r
  | 0, y :: r, x, h, _ => by
    have h : some y = some x := h
    cases h; exact ⟨fun _ => y, r, rfl⟩
  | 1, a :: y :: r, x, h, _ => by
    have h : some y = some x := h
    cases h; exact ⟨fun _ => a, r, rfl⟩
  | 2, a :: b :: y :: r, x, h, _ => by
    have h : some y = some x := h
    cases h; exact ⟨fun i => match i with | 0 => a | _ => b, r, rfl⟩
  | i + 3, _, _, _, h => absurd h (by (first | lia | omega))
theorem cg1 {α δ : Type} {f g : α → δ} (h : f = g) (a : α) : f a = g a := by rw [h]
theorem cg2 {α β δ : Type} {f g : α → β → δ} (h : f = g) (a : α) (b : β) : f a b = g a b := by rw [h]
theorem cg3 {α β γ δ : Type} {f g : α → β → γ → δ} (h : f = g) (a : α) (b : β) (c : γ) : f a b c = g a b c := by rw [h]
theorem cg4 {α β γ ε δ : Type} {f g : α → β → γ → ε → δ} (h : f = g) (a : α) (b : β) (c : γ) (e : ε) : f a b c e = g a b c e := by rw [h]
theorem cg5 {α β γ ε ζ δ : Type} {f g : α → β → γ → ε → ζ → δ} (h : f = g) (a : α) (b : β) (c : γ) (e : ε) (z : ζ) : f a b c e z = g a b c e z := by rw [h]
theorem cg6 {α β γ ε ζ η δ : Type} {f g : α → β → γ → ε → ζ → η → δ} (h : f = g) (a : α) (b : β) (c : γ) (e : ε) (z : ζ) (y : η) : f a b c e z y = g a b c e z y := by rw [h]
theorem cg7 {α β γ ε ζ η θ δ : Type} {f g : α → β → γ → ε → ζ → η → θ → δ} (h : f = g) (a : α) (b : β) (c : γ) (e : ε) (z : ζ) (y : η) (t : θ) : f a b c e z y t = g a b c e z y t := by rw [h]
theorem cg8 {α β γ ε ζ η θ ι δ : Type} {f g : α → β → γ → ε → ζ → η → θ → ι → δ} (h : f = g) (a : α) (b : β) (c : γ) (e : ε) (z : ζ) (y : η) (t : θ) (i : ι) : f a b c e z y t i = g a b c e z y t i := by rw [h]
theorem cg9 {α β γ ε ζ η θ ι κ δ : Type} {f g : α → β → γ → ε → ζ → η → θ → ι → κ → δ} (h : f = g) (a : α) (b : β) (c : γ) (e : ε) (z : ζ) (y : η) (t : θ) (i : ι) (k : κ) : f a b c e z y t i k = g a b c e z y t i k := by rw [h]
theorem cg10 {α β γ ε ζ η θ ι κ μ δ : Type} {f g : α → β → γ → ε → ζ → η → θ → ι → κ → μ → δ} (h : f = g) (a : α) (b : β) (c : γ) (e : ε) (z : ζ) (y : η) (t : θ) (i : ι) (k : κ) (m : μ) : f a b c e z y t i k m = g a b c e z y t i k m := by rw [h]
/-- where a look is only asked on a condition -/
theorem ofc {α : Type} {b : Bool} {x y d : α} (h : cond b x d = cond b y d) (hb : b = true) : x = y := by subst hb; exact h
theorem lts {a b : Nat} (h : a ≤ b) : a < b + 1 := Nat.lt_succ_of_le h
theorem pred_of {z : Nat} (h : 1 ≤ z) : ∃ y, z = y + 1 := ⟨z - 1, (Nat.sub_add_cancel h).symm⟩
/-- a list of values as a function -/
noncomputable def pk {α : Type} [Inhabited α] : List α → Nat → α
  | [], _ => default
  | a :: _, 0 => a
  | _ :: r, i + 1 => pk r i
end Mine
end
section
open PySem PySem.W PyProof.Rows PySem.Calls
set_option maxRecDepth 100000
namespace Mine

noncomputable def lawB : List Stmt := f96.1.body
noncomputable def lawS : Sc := f96.1.names
noncomputable def part (a b : Nat) : List Stmt := (lawB.drop a).take b
noncomputable def ktxt : List Str := ["logical", "integer", "double", "character"]
noncomputable def intL (l : List Int) : AV := .lst (l.map AV.int)
noncomputable def baseL (w t : Nat) (r : Loc) : Loc := ("well", .r 0) :: ("wide", .a (.int w)) :: ("tall", .a (.int t)) :: ("ranks", .a (intL [1, 2, 3, 0])) :: ("kinds", .a (.lst (ktxt.map AV.str))) :: ("levels", .a (.lst (LV.map AV.str))) :: r
noncomputable def baseN : List Str := ["well", "wide", "tall", "ranks", "kinds", "levels"]

noncomputable def nmA : List Str := baseN ++ (["sorts", "table", "columns"] : List Str)
noncomputable abbrev Col := Nat × List Nat
/-- letters of an item and of its text -/
noncomputable def lA : Nat → Nat
  | 0 => 1 | 1 => 2 | 2 => 3 | 3 => 4 | 4 => 9 | _ => 1
noncomputable def lB : Nat → Nat
  | 0 => 5 | 1 => 6 | 2 => 3 | 3 => 8 | 4 => 10 | _ => 5
noncomputable def lI : Nat → Nat
  | 4 => 11 | v => lA v
noncomputable def srt : Nat → Nat
  | 5 => 0 | v => v
noncomputable def rk : Nat → Nat
  | 0 => 1 | 1 => 2 | 2 => 3 | 3 => 0 | 4 => 1 | _ => 1
noncomputable def kstr : Nat → Str
  | 0 => "logical" | 1 => "integer" | 2 => "double" | _ => "character"
noncomputable def chV (l : List Str) : AV := .vec (.str "character") (.lst (l.map AV.str)) .none
/-- a column's attributes: none, a unit, a factor's -/
noncomputable def attr : Nat → AV
  | 0 => .none
  | 1 => .dct [("unit", chV ["cm"])]
  | _ => .dct [("levels", chV LV), ("class", chV ["factor"])]
noncomputable def att : Nat → Nat
  | 4 => 2 | 5 => 1 | _ => 0
noncomputable def vecC (a r : Nat) (l : List AV) : AV := .vec (.str (kstr r)) (.lst l) (attr a)
noncomputable def colV (c : Col) : AV := vecC (att c.1) (rk c.1) (c.2.map fun d => .item (lI c.1) d)
noncomputable def pairL (a b d : Nat) : AV := .tup [.item a d, .item b d]
noncomputable def tabV (c : Col) : AV := .lst (c.2.map fun d => pairL (lA c.1) (lB c.1) d)
noncomputable def srtV (c : Col) : AV := .int (srt c.1)

section
variable {G : Gnd} {glob : Str → Option Addr} {n N k m : Nat} {ih : Ih} {A : Around} {E : Value → Shared → Prop} {s : Shared} {env : Env} {W W' F F0 F' T : List Addr} {ad ad0 ad1 ad' ad'' : Ad} {hp hp' hp1 hp2 hp'' : Hp} {h h' h'' : Heap} {scope : Scope} {x : Str} {sc sc' : Sc} {loc loc' loc0 loc1 : Loc} {X X' : Addr → Prop}
variable {K : Frag} {fI : Addr} {mg mb : Str → Option Value} {cfg : Cfg} {P P' : MPost} {st : Stmt} {r : List Stmt}

theorem segA (I : SIh G glob n (run cfg2 60)) {W0 : List Int} (p : ∀ w t W', 1 ≤ w → w ≤ 3 → t ≤ 3 → P .next (baseL w t [("sorts", .r 1), ("table", .r 2), ("columns", .r 3)]) [.well [] W', .lst [], .lst [], .lst []]) :
    ExsN G n 0 lawS [("well", .r 0)] [.well [] W0] (part 1 8) P := by
  refine ExsN.draw (L := 3) (by decide) fun d0 _ h0 => ExsN.draw (L := 4) (by decide) fun d1 W' h1 => ?_
  have h0 : d0 = 0 ∨ d0 = 1 ∨ d0 = 2 := by (first | lia | omega)
  have h1 : d1 = 0 ∨ d1 = 1 ∨ d1 = 2 ∨ d1 = 3 := by (first | lia | omega)
  have pp := p (1 + (d0 + 1) % 3) ((d1 + 2) % 4) W' (by (first | lia | omega)) (by (first | lia | omega)) (by (first | lia | omega))
  rcases h0 with rfl | rfl | rfl <;> rcases h1 with rfl | rfl | rfl | rfl
  all_goals exact block I (names := nmA) 4 (by decide) (by kernel_rfl) pp
end
end Mine
end
section
open PySem PySem.W PyProof.Rows PySem.Calls
set_option maxRecDepth 100000
namespace Mine

noncomputable def s9 : { q : Pos × Expr × List Stmt × Pos // part 9 1 = [.For (.Name "_" q.1) q.2.1 q.2.2.1 [] q.2.2.2] } := ⟨(_, _, _, _), by rfl⟩
noncomputable def hpB (W : List Int) (cols : List Col) : Hp := [.well [] W, .lst (cols.map fun c => .a (srtV c)), .lst (cols.map fun c => .a (tabV c)), .lst (cols.map fun c => .a (colV c))]
noncomputable def locB (w t : Nat) : Loc := baseL w t [("sorts", .r 1), ("table", .r 2), ("columns", .r 3)]
structure Cok (t : Nat) (c : Col) : Prop where
  v : c.1 < 6
  l : c.2.length = t
  d : ∀ d ∈ c.2, d < 7

section
variable {G : Gnd} {glob : Str → Option Addr} {n N k m : Nat} {ih : Ih} {A : Around} {E : Value → Shared → Prop} {s : Shared} {env : Env} {W W' F F0 F' T : List Addr} {ad ad0 ad1 ad' ad'' : Ad} {hp hp' hp1 hp2 hp'' : Hp} {h h' h'' : Heap} {scope : Scope} {x : Str} {sc sc' : Sc} {loc loc' loc0 loc1 : Loc} {X X' : Addr → Prop}
variable {K : Frag} {fI : Addr} {mg mb : Str → Option Value} {cfg : Cfg} {P P' : MPost} {st : Stmt} {r : List Stmt}

theorem len3 {α : Type} {l : List α} {t : Nat} (h : l.length = t) (le : t ≤ 3) : (l = [] ∧ t = 0) ∨ (∃ a, l = [a] ∧ t = 1) ∨ (∃ a b, l = [a, b] ∧ t = 2) ∨ (∃ a b c, l = [a, b, c] ∧ t = 3) := by
  match l, h with
  | [], h => exact .inl ⟨rfl, h.symm⟩
  | [a], h => exact .inr (.inl ⟨a, rfl, h.symm⟩)
  | [a, b], h => exact .inr (.inr (.inl ⟨a, b, rfl, h.symm⟩))
  | [a, b, c], h => exact .inr (.inr (.inr ⟨a, b, c, rfl, h.symm⟩))
  | a :: b :: c :: d :: r, h => simp at h; (first | lia | omega)
theorem len2 {α : Type} {l : List α} {t : Nat} (h : l.length = t) (le : t < 3) : (l = [] ∧ t = 0) ∨ (∃ a, l = [a] ∧ t = 1) ∨ (∃ a b, l = [a, b] ∧ t = 2) := by
  rcases len3 h (Nat.le_of_lt le) with z | z | z | ⟨_, _, _, _, rfl⟩
  · exact .inl z
  · exact .inr (.inl z)
  · exact .inr (.inr z)
  · exact absurd le (by decide)

noncomputable def dsB (v : Nat) (ds : List Nat) : List (Nat × Nat) := match v with
  | 0 => (5, 0) :: ds.map (fun d => (7, d)) ++ [(2, 0)]
  | 5 => (5, 0) :: ds.map (fun d => (7, d)) ++ [(2, 1)]
  | v => (5, v) :: ds.map fun d => (7, d)
theorem bodyB_k : tA 6 (fun v => tA 4 (fun t => tA 3 (fun i => fun (av : AV) (w : Nat) (d : Nat → Nat) (cols : Nat → Col) (W0 : List Int) => fin nmA 4 ((run cfg2 60).exs lawS (aset "_" (.a av) (locB w t)) [.well (dsB v (tk t d)) W0, .lst ((tk i cols).map fun c => .a (srtV c)), .lst ((tk i cols).map fun c => .a (tabV c)), .lst ((tk i cols).map fun c => .a (colV c))] s9.1.2.2.1)))) =
    tB 6 (fun v => tB 4 (fun t => tB 3 (fun i => fun av w d cols W0 => some (locB w t, hpB W0 (tk i cols ++ [(v, tk t d)]))))) := by kernel_rfl
theorem bodyB (I : SIh G glob n (run cfg2 60)) {w t i : Nat} (ht : t ≤ 3) (hi : i < 3) {W0 : List Int} {av : AV} {cols : List Col} (hc : cols.length = i) (p : ∀ c W', Cok t c → P .next (locB w t) (hpB W' (cols ++ [c]))) :
    ExsN G n 0 lawS (aset "_" (.a av) (locB w t)) (hpB W0 cols) s9.1.2.2.1 P := by
  obtain ⟨g, rfl⟩ := tk_of hc
  refine ExsN.draw (L := 5) (by decide) fun s W1 hs => ExsN.draws (L := 7) (by decide) (q := t) fun ds W2 hl hd => ?_
  have key : ∀ v W', v < 6 → ExsN G n 0 lawS (aset "_" (.a av) (locB w t)) [.well (dsB v ds) W', .lst ((tk i g).map fun c => .a (srtV c)), .lst ((tk i g).map fun c => .a (tabV c)), .lst ((tk i g).map fun c => .a (colV c))] s9.1.2.2.1 P := fun v W' hv => by
    have pp := p (v, ds) W' ⟨hv, hl, hd⟩
    obtain ⟨f, rfl⟩ := tk_of hl
    exact block I (names := nmA) 4 (by decide) (cg5 (tab (tab (tab bodyB_k hv) (lts ht)) hi) av w f g W') pp
  match s, hs with
  | 0, _ =>
    refine ExsN.draw (L := 2) (by decide) fun u W3 hu => ?_
    match u, hu with
    | 0, _ => exact key 0 W3 (by decide)
    | 1, _ => exact key 5 W3 (by decide)
  | 1, _ => exact key 1 W2 (by decide)
  | 2, _ => exact key 2 W2 (by decide)
  | 3, _ => exact key 3 W2 (by decide)
  | 4, _ => exact key 4 W2 (by decide)
/-- after the building loop -/
noncomputable def locC (w t : Nat) (cols : List Col) (r : Loc) : Loc := baseL w t (("sorts", .a (.lst (cols.map srtV))) :: ("table", .a (.lst (cols.map tabV))) :: ("columns", .a (.lst (cols.map colV))) :: r)
theorem segB (Z : Env0 G K fI glob mg mb cfg2 N) (I : SIh G glob n (run cfg2 60)) {w t : Nat} (hw : 1 ≤ w ∧ w ≤ 3) (ht : t ≤ 3) {W0 : List Int} (p : ∀ cols W', cols.length = w → (∀ c ∈ cols, Cok t c) → P .next (locC w t cols []) [.well [] W']) :
    ExsN G n 0 lawS (locB w t) (hpB W0 []) (part 9 1) P := by
  rw [s9.2]
  refine ExsN.cons (ExN.weaken (P := fun fl l h => match fl with | .next => P .next l h | .ret _ => False) ?_ fun fl l h z => ?_)
  · refine ExN.post (ExN.weaken (P := fun fl l h => match fl with | .next => ∃ cols W', cols.length = w ∧ (∀ c ∈ cols, Cok t c) ∧ l = locB w t ∧ h = hpB W' cols | .ret _ => False) ?_ ?_)
    · have hw' : w = 1 ∨ w = 2 ∨ w = 3 := by (first | lia | omega)
      have e1 : (run cfg2 60).ev lawS (locB w t) (hpB W0 []) s9.1.2.1 = some (.a (.rng 0 w), hpB W0 []) := by
        rcases hw' with rfl | rfl | rfl <;> kernel_rfl
      have e2 : iterOf (.a (.rng 0 w)) = some (intsFrom 0 w) := by
        rcases hw' with rfl | rfl | rfl <;> rfl
      refine forN Z I (by kernel_rfl) (by kernel_rfl) e1 e2 (fun i l h => ∃ cols W', cols.length = i ∧ (∀ c ∈ cols, Cok t c) ∧ l = locB w t ∧ h = hpB W' cols) ⟨[], W0, rfl, fun _ h => (nomatch h), rfl, rfl⟩ ?_ ?_
      · rintro i av l h ei ⟨cols, W1, e, ok, rfl, rfl⟩
        have hi : i < 3 := by have := nth_lt ei; rw [intsFrom_len] at this; (first | lia | omega)
        refine bodyB I ht hi e fun c W' hc => ⟨cols ++ [c], W', by rw [List.length_append, e]; rfl, fun c' hc' => ?_, rfl, rfl⟩
        rcases List.mem_append.mp hc' with z | z
        · exact ok _ z
        · rw [List.mem_singleton.mp z]; exact hc
      · rintro l h ⟨cols, W1, e, ok, rfl, rfl⟩
        rw [intsFrom_len] at e
        exact ⟨cols, W1, e, ok, rfl, rfl⟩
    · intro fl l h z
      cases fl with
      | ret _ => exact z.elim
      | next =>
        obtain ⟨cols, W1, e, ok, rfl, rfl⟩ := z
        refine ⟨_, _, Cv.trans (Cv.fz (xs := [(false, "sorts"), (false, "table"), (false, "columns")]) (loc' := locC w t cols []) (hp' := [.well [] W1, .dead, .dead, .dead]) ?_) (Cv.fin (names := nmA) (m := 1) (Nat.zero_le _) (by kernel_rfl) (by kernel_rfl)), p cols W1 e ok⟩
        rcases len3 e (by (first | lia | omega)) with ⟨rfl, rfl⟩ | ⟨d0, rfl, rfl⟩ | ⟨d0, d1, rfl, rfl⟩ | ⟨d0, d1, d2, rfl, rfl⟩ <;> kernel_rfl
  · cases fl with
    | ret _ => exact z.elim
    | next => exact ExsN.nil z
end
end Mine
end
section
open PySem PySem.W PyProof.Rows PySem.Calls
set_option maxRecDepth 100000
namespace Mine

noncomputable def s12 : { q : Pos × Expr × List Stmt × Pos // part 12 1 = [.For (.Name "pairs" q.1) q.2.1 q.2.2.1 [] q.2.2.2] } := ⟨(_, _, _, _), by rfl⟩
noncomputable def nmC : List Str := nmA ++ (["truths"] : List Str)
noncomputable def nmC' : List Str := nmC ++ (["lacks"] : List Str)
noncomputable def bitA (b : Bool) : AV := .int (match b with | true => 1 | false => 0)
noncomputable def locT (w t : Nat) (cols : List Col) (b : Bool) : Loc := locC w t cols [("truths", .r 1), ("lacks", .a (.bool b))]
noncomputable def hpT (W : List Int) (bss : List (List Bool)) : Hp := [.well [] W, .lst (bss.flatten.map fun b => .a (bitA b))]
noncomputable def truA (bss : List (List Bool)) : AV := .lst (bss.flatten.map bitA)

section
variable {G : Gnd} {glob : Str → Option Addr} {n N k m : Nat} {ih : Ih} {A : Around} {E : Value → Shared → Prop} {s : Shared} {env : Env} {W W' F F0 F' T : List Addr} {ad ad0 ad1 ad' ad'' : Ad} {hp hp' hp1 hp2 hp'' : Hp} {h h' h'' : Heap} {scope : Scope} {x : Str} {sc sc' : Sc} {loc loc' loc0 loc1 : Loc} {X X' : Addr → Prop}
variable {K : Frag} {fI : Addr} {mg mb : Str → Option Value} {cfg : Cfg} {P P' : MPost} {st : Stmt} {r : List Stmt}

theorem len4 {α : Type} {l : List α} {t : Nat} (h : l.length = t) (le : t ≤ 3) : (t = 0 ∧ l = []) ∨ (t = 1 ∧ ∃ a, l = [a]) ∨ (t = 2 ∧ ∃ a b, l = [a, b]) ∨ (t = 3 ∧ ∃ a b c, l = [a, b, c]) := by
  rcases len3 h le with ⟨a, b⟩ | ⟨a, b, c⟩ | ⟨a, b, c, d⟩ | ⟨a, b, c, d, e⟩
  · exact .inl ⟨b, a⟩
  · exact .inr (.inl ⟨c, a, b⟩)
  · exact .inr (.inr (.inl ⟨d, a, b, c⟩))
  · exact .inr (.inr (.inr ⟨e, a, b, c, d⟩))
theorem l0 {α : Type} {l : List α} (h : l.length = 0) : l = [] := List.length_eq_zero_iff.mp h
theorem l1 {α : Type} {l : List α} (h : l.length = 1) : ∃ a, l = [a] := by
  rcases len3 h (by decide) with ⟨_, z⟩ | ⟨a, e, _⟩ | ⟨_, _, _, z⟩ | ⟨_, _, _, _, z⟩
  · cases z
  · exact ⟨a, e⟩
  · cases z
  · cases z
theorem l2 {α : Type} {l : List α} (h : l.length = 2) : ∃ a b, l = [a, b] := by
  rcases len3 h (by decide) with ⟨_, z⟩ | ⟨_, _, z⟩ | ⟨a, b, e, _⟩ | ⟨_, _, _, _, z⟩
  · cases z
  · cases z
  · exact ⟨a, b, e⟩
  · cases z
theorem l3 {α : Type} {l : List α} (h : l.length = 3) : ∃ a b c, l = [a, b, c] := by
  rcases len3 h (by decide) with ⟨_, z⟩ | ⟨_, _, z⟩ | ⟨_, _, _, z⟩ | ⟨a, b, c, e, _⟩
  · cases z
  · cases z
  · cases z
  · exact ⟨a, b, c, e⟩
theorem bit2 {b : Nat} (h : b < 2) : b = 0 ∨ b = 1 := by (first | lia | omega)

theorem bodyT0_k : tA 3 (fun i => tA 4 (fun t => tA (2 ^ t) (fun c => fun (w : Nat) (v : Nat) (cols : List Col) (d : Nat → Nat) (g : Nat → Nat → Bool) (W0 : List Int) => fin nmC' 2 ((run cfg2 60).exs lawS (aset "pairs" (.a (tabV (v, tk t d))) (locT w t cols false)) [.well ((digs 2 t c).map fun d => (2, d)) W0, .lst ((tk i fun j => tk t (g j)).flatten.map fun b => .a (bitA b))] s12.1.2.2.1)))) =
    tB 3 (fun i => tB 4 (fun t => tB (2 ^ t) (fun c => fun w v cols d g W0 => some (locT w t cols false, hpT W0 ((tk i fun j => tk t (g j)) ++ [bits t c]))))) := by kernel_rfl
theorem bodyT0 (I : SIh G glob n (run cfg2 60)) {w t i : Nat} (ht : t ≤ 3) (hi : i < 3) {W0 : List Int} {cols : List Col} {c : Col} (hc : Cok t c) {bss : List (List Bool)} (hb : bss.length = i) (hr : ∀ r ∈ bss, r.length = t) (p : ∀ (r : List Bool) W', r.length = t → P .next (locT w t cols false) (hpT W' (bss ++ [r]))) :
    ExsN G n 0 lawS (aset "pairs" (.a (tabV c)) (locT w t cols false)) (hpT W0 bss) s12.1.2.2.1 P := by
  refine ExsN.draws (L := 2) (by decide) (q := t) fun bs W1 hl hd => ?_
  obtain ⟨v, ds⟩ := c
  obtain ⟨d, rfl⟩ := tk_of hc.l
  obtain ⟨g, rfl⟩ := tkk_of hb hr
  have pp := p (bs.map fun b => Nat.beq b 1) W1 (by rw [List.length_map, hl])
  obtain ⟨c, h, rfl⟩ := digs_of (by decide) hl hd
  exact block I (names := nmC') 2 (by decide) (cg6 (tab (tab (tab bodyT0_k hi) (lts ht)) h) w v cols d g W1) pp
theorem v6 {v : Nat} (h : v < 6) : v = 0 ∨ v = 1 ∨ v = 2 ∨ v = 3 ∨ v = 4 ∨ v = 5 := (by decide : ∀ n : Fin 6, n.1 = 0 ∨ n.1 = 1 ∨ n.1 = 2 ∨ n.1 = 3 ∨ n.1 = 4 ∨ n.1 = 5) ⟨v, h⟩
theorem bodyT1_k : tA 3 (fun i => tA 4 (fun t => tA 6 (fun v => fun (w : Nat) (cols : List Col) (d : Nat → Nat) (g : Nat → Nat → Bool) (W0 : List Int) => fin nmC' 2 ((run cfg2 60).exs lawS (aset "pairs" (.a (tabV (v, tk t d))) (locT w t cols true)) (hpT W0 (tk i fun j => tk t (g j))) s12.1.2.2.1)))) =
    tB 3 (fun i => tB 4 (fun t => tB 6 (fun v => fun w cols d g W0 => some (locT w t cols true, hpT W0 ((tk i fun j => tk t (g j)) ++ [(tk t d).map fun d => lackB (lB v) d]))))) := by kernel_rfl
theorem bodyT1 (I : SIh G glob n (run cfg2 60)) {w t i : Nat} (ht : t ≤ 3) (hi : i < 3) {W0 : List Int} {cols : List Col} {c : Col} (hc : Cok t c) {bss : List (List Bool)} (hb : bss.length = i) (hr : ∀ r ∈ bss, r.length = t) (p : ∀ (r : List Bool) W', r.length = t → P .next (locT w t cols true) (hpT W' (bss ++ [r]))) :
    ExsN G n 0 lawS (aset "pairs" (.a (tabV c)) (locT w t cols true)) (hpT W0 bss) s12.1.2.2.1 P := by
  obtain ⟨v, ds⟩ := c
  obtain ⟨d, rfl⟩ := tk_of hc.l
  obtain ⟨g, rfl⟩ := tkk_of hb hr
  have pp := p ((tk t d).map fun d => lackB (lB v) d) W0 (by rw [List.length_map]; exact hc.l)
  exact block I (names := nmC') 2 (by decide) (cg5 (tab (tab (tab bodyT1_k hi) (lts ht)) hc.v) w cols d g W0) pp
theorem segCf_k : tA 3 (fun i => tA 4 (fun t => fun (cols : List Col) (b : Bool) (g : Nat → Nat → Bool) (W1 : List Int) => fzNames [(false, "truths")] (locT (i + 1) t cols b) (hpT W1 (tk (i + 1) fun j => tk t (g j))))) =
    tB 3 (fun i => tB 4 (fun t => fun cols b g W1 => some (locC (i + 1) t cols [("truths", .a (truA (tk (i + 1) fun j => tk t (g j)))), ("lacks", .a (.bool b))], [AO.well [] W1, .dead]))) := by kernel_rfl
theorem segC (Z : Env0 G K fI glob mg mb cfg2 N) (I : SIh G glob n (run cfg2 60)) {w t : Nat} (hw : 1 ≤ w ∧ w ≤ 3) (ht : t ≤ 3) {cols : List Col} (hc : cols.length = w) (ok : ∀ c ∈ cols, Cok t c) {W0 : List Int} (p : ∀ bss W', bss.length = w → (∀ r ∈ bss, r.length = t) → P .next (locC w t cols [("truths", .a (truA bss))]) [.well [] W']) :
    ExsN G n 0 lawS (locC w t cols []) [.well [] W0] (part 10 3) P := by
  show ExsN G n 0 lawS _ _ (part 10 2 ++ part 12 1) P
  refine ExsN.append (ExsN.draw (L := 2) (by decide) fun b W1 hb => ?_)
  have step : ∀ b : Bool, ExsN G n 0 lawS (locT w t cols b) (hpT W1 []) (part 12 1) P := fun b => by
    rw [s12.2]
    refine ExsN.cons (ExN.weaken (P := fun fl l h => match fl with | .next => P .next l h | .ret _ => False) ?_ fun fl l h z => ?_)
    · refine ExN.post (ExN.weaken (P := fun fl l h => match fl with | .next => ∃ bss W', bss.length = w ∧ (∀ r ∈ bss, r.length = t) ∧ l = locT w t cols b ∧ h = hpT W' bss | .ret _ => False) ?_ ?_)
      · have e1 : (run cfg2 60).ev lawS (locT w t cols b) (hpT W1 []) s12.1.2.1 = some (.a (.lst (cols.map tabV)), hpT W1 []) := by kernel_rfl
        refine forN Z I (by kernel_rfl) (by kernel_rfl) e1 rfl (fun i l h => ∃ bss W', bss.length = i ∧ (∀ r ∈ bss, r.length = t) ∧ l = locT w t cols b ∧ h = hpT W' bss) ⟨[], W1, rfl, fun _ h => (nomatch h), rfl, rfl⟩ ?_ ?_
        · rintro i av l h ei ⟨bss, W2, e, hr, rfl, rfl⟩
          rw [nth_map] at ei
          obtain ⟨c, ec, rfl⟩ := Option.map_eq_some_iff.mp ei
          have hi : i < 3 := by have := nth_lt ec; (first | lia | omega)
          have fin : ∀ (r : List Bool) (W' : List Int), r.length = t → ∃ bss' W'', bss'.length = i + 1 ∧ (∀ r ∈ bss', r.length = t) ∧ locT w t cols b = locT w t cols b ∧ hpT W' (bss ++ [r]) = hpT W'' bss' := fun r W' hl =>
            ⟨bss ++ [r], W', by rw [List.length_append, e]; rfl, fun r' hr' => by
              rcases List.mem_append.mp hr' with z | z
              · exact hr _ z
              · rw [List.mem_singleton.mp z]; exact hl, rfl, rfl⟩
          cases b
          · exact bodyT0 I ht hi (ok c (nth_mem ec)) e hr fin
          · exact bodyT1 I ht hi (ok c (nth_mem ec)) e hr fin
        · rintro l h ⟨bss, W2, e, hr, rfl, rfl⟩
          rw [List.length_map, hc] at e
          exact ⟨bss, W2, e, hr, rfl, rfl⟩
      · intro fl l h z
        cases fl with
        | ret _ => exact z.elim
        | next =>
          obtain ⟨bss, W1, e, hr, rfl, rfl⟩ := z
          refine ⟨_, _, Cv.trans (Cv.fz (xs := [(false, "truths")]) (loc' := locC w t cols [("truths", .a (truA bss)), ("lacks", .a (.bool b))]) (hp' := [.well [] W1, .dead]) ?_) (Cv.fin (names := nmC) (m := 1) (Nat.zero_le _) (by kernel_rfl) (by kernel_rfl)), p bss W1 e hr⟩
          obtain ⟨w, rfl⟩ := pred_of hw.1
          obtain ⟨g, rfl⟩ := tkk_of e hr
          exact (cg4 (tab (tab segCf_k (Nat.lt_of_succ_le hw.2)) (lts ht)) cols b g W1)
    · cases fl with
      | ret _ => exact z.elim
      | next => exact ExsN.nil z
  rcases bit2 hb with rfl | rfl
  · exact block I (names := nmC') 2 (by decide) (by kernel_rfl) (step false)
  · exact block I (names := nmC') 2 (by decide) (by kernel_rfl) (step true)
end
end Mine
end
section
open PySem PySem.W PyProof.Rows PySem.Calls
set_option maxRecDepth 100000
namespace Mine

noncomputable def rhV (t : Nat) (b : Nat) : AV := match b with
  | 0 => .vec (.str "integer") (.lst (intsFrom 1 t)) .none
  | _ => chV ((["r", "1", "3"] : List Str).take t)
noncomputable def frA (w t b : Nat) : AV := .dct [("names", chV ((["x", "y", "x"] : List Str).take w)), ("class", chV ["data.frame"]), ("row.names", rhV t b)]
noncomputable def dfV (w t b : Nat) (cs : List AV) : AV := .vec (.str "list") (.lst cs) (frA w t b)
noncomputable def flV (w t : Nat) (tl : List AV) : AV := .vec (.str "logical") (.lst tl) (.dct [("dim", .vec (.str "integer") (.lst [.int t, .int w]) .none)])
noncomputable def nmD : List Str := nmC ++ (["df", "flags"] : List Str)
noncomputable def nmD' : List Str := nmD ++ (["count"] : List Str)
noncomputable def locD (w t : Nat) (ss ts cs tr : AV) (df fl : AV) (r : Loc) : Loc := baseL w t (("sorts", .a ss) :: ("table", .a ts) :: ("columns", .a cs) :: ("truths", .a tr) :: ("df", .a df) :: ("flags", .a fl) :: r)
noncomputable def cntB : List Bool → Nat
  | [] => 0
  | true :: r => cntB r + 1
  | false :: r => cntB r
noncomputable def szF (c way : Nat) : Nat := if c = 0 ∨ way = 0 then 1 else if way = 2 ∧ c % 2 = 0 then c / 2 else c
noncomputable def freshA (fs : Nat) (fd : List Nat) : AV := .lst (fd.map fun d => pairL (lA fs) (lB fs) d)
noncomputable def valV (fs : Nat) (fd : List Nat) : AV := .vec (.str (kstr (rk fs))) (.lst (fd.map fun d => .item (lA fs) d)) .none
noncomputable def locE (fs z : Nat) (fr va : AV) (due : RV) (al us : AV) : Loc := [("fresh_sort", .a (.int fs)), ("size", .a (.int z)), ("fresh", .a fr), ("value", .a va), ("due", due), ("alerted", .a al), ("used", .a us)]
noncomputable def nmE : List Str := nmD ++ (["fresh_sort", "size", "fresh", "value", "due", "alerted", "used"] : List Str)
noncomputable def s18 : { q : Pos × Pos × Pos × Pos × Pos // part 18 1 = [.Assign [.Name "count" q.1] (.Call (.Name "sum" q.2.1) [.Name "truths" q.2.2.1] [] q.2.2.2.1) q.2.2.2.2] } := ⟨(_, _, _, _, _), by rfl⟩

section
variable {G : Gnd} {glob : Str → Option Addr} {n N k m : Nat} {ih : Ih} {A : Around} {E : Value → Shared → Prop} {s : Shared} {env : Env} {W W' F F0 F' T : List Addr} {ad ad0 ad1 ad' ad'' : Ad} {hp hp' hp1 hp2 hp'' : Hp} {h h' h'' : Heap} {scope : Scope} {x : Str} {sc sc' : Sc} {loc loc' loc0 loc1 : Loc} {X X' : Addr → Prop}
variable {K : Frag} {fI : Addr} {mg mb : Str → Option Value} {cfg : Cfg} {P P' : MPost} {st : Stmt} {r : List Stmt}

theorem lcons {α : Type} {l : List α} {n : Nat} (h : l.length = n + 1) : ∃ a r, l = a :: r ∧ r.length = n := by
  cases l with
  | nil => cases h
  | cons a r => exact ⟨a, r, rfl, Nat.succ.inj h⟩
theorem segD_k : tA 2 (fun b => tA 3 (fun w => tA 4 (fun t => fun (ss : AV) (ts : AV) (C : Nat → AV) (X : Nat → AV) (W0 : List Int) => fin nmD 1 ((run cfg2 60).exs lawS (baseL (w + 1) t [("sorts", .a ss), ("table", .a ts), ("columns", .a (.lst (tk (w + 1) C))), ("truths", .a (.lst (tk ((w + 1) * t) X)))]) [.well [(2, b)] W0] (part 13 5))))) =
    tB 2 (fun b => tB 3 (fun w => tB 4 (fun t => fun ss ts C X W0 => some (locD (w + 1) t ss ts (.lst (tk (w + 1) C)) (.lst (tk ((w + 1) * t) X)) (dfV (w + 1) t b (tk (w + 1) C)) (flV (w + 1) t (tk ((w + 1) * t) X)) [], [.well [] W0])))) := by kernel_rfl
theorem segD (I : SIh G glob n (run cfg2 60)) {w t : Nat} (hw : 1 ≤ w ∧ w ≤ 3) (ht : t ≤ 3) {ss ts : AV} {cs tl : List AV} (hc : cs.length = w) (hl : tl.length = w * t) {W0 : List Int} (p : ∀ b W', P .next (locD w t ss ts (.lst cs) (.lst tl) (dfV w t b cs) (flV w t tl) []) [.well [] W']) :
    ExsN G n 0 lawS (baseL w t [("sorts", .a ss), ("table", .a ts), ("columns", .a (.lst cs)), ("truths", .a (.lst tl))]) [.well [] W0] (part 13 5) P := by
  refine ExsN.draw (L := 2) (by decide) fun b W1 hb => ?_
  obtain ⟨w, rfl⟩ := pred_of hw.1
  obtain ⟨C, rfl⟩ := tk_of hc
  obtain ⟨X, rfl⟩ := tk_of hl
  exact block I (names := nmD) 1 (by decide) (cg5 (tab (tab (tab segD_k hb) (Nat.lt_of_succ_le hw.2)) (lts ht)) ss ts C X W1) (p b W1)
theorem sum_bits : ∀ (bs : List Bool) (a : Nat), sumI (bs.map bitA) (a : Int) = some ((a + cntB bs : Nat) : Int)
  | [], a => rfl
  | true :: r, a => by
    show sumI (r.map bitA) ((a : Int) + 1) = _
    have := sum_bits r (a + 1)
    rw [show a + cntB (true :: r) = a + 1 + cntB r by show a + (cntB r + 1) = _; (first | lia | omega)]
    exact this
  | false :: r, a => by
    show sumI (r.map bitA) ((a : Int) + 0) = _
    rw [Int.add_zero]
    exact sum_bits r a
theorem segS (Z : Env0 G K fI glob mg mb cfg2 N) (I : SIh G glob n (run cfg2 60)) {w t : Nat} {ss ts cs df fl : AV} {bs : List Bool} (hl : bs.length ≤ 9) (p : P .next (locD w t ss ts cs (.lst (bs.map bitA)) df fl [("count", .a (.int (cntB bs : Nat)))]) hp) :
    ExsN G n 0 lawS (locD w t ss ts cs (.lst (bs.map bitA)) df fl []) hp (part 18 1) P := by
  rw [s18.2]
  refine ExsN.cons (ExAt.toN (asgN Z (I.ev (e := .Call (.Name "sum" s18.1.2.1) [.Name "truths" s18.1.2.2.1] [] s18.1.2.2.2.1) (rv := .a (.int (cntB bs : Nat))) (hp' := hp) ?_) rfl (by kernel_rfl) rfl) (ExsN.nil p))
  have h1 : sumI (bs.map bitA) 0 = some ((cntB bs : Nat) : Int) := by
    have := sum_bits bs 0
    rw [Nat.zero_add] at this
    exact this
  have h2 : Nat.ble (bs.map bitA).length 1000 = true := by
    rw [List.length_map]
    exact Nat.ble_eq_true_of_le (by (first | lia | omega))
  generalize bs.map bitA = tl at h1 h2 ⊢
  have e1 : (run cfg2 60).ev lawS (locD w t ss ts cs (.lst tl) df fl []) hp (.Call (.Name "sum" s18.1.2.1) [.Name "truths" s18.1.2.2.1] [] s18.1.2.2.2.1) = (match (match Nat.ble tl.length 1000 with | true => (sumI tl 0).map fun n => (RV.a (.int n), hp) | false => none) with | some r => some r | none => callFn (run cfg2 59) false "sum" [.a (.lst tl)] hp) := by kernel_rfl
  rw [e1, h1, h2]
  rfl
theorem segE_k : tA 10 (fun c => tA 3 (fun way => tA 4 (fun fs => fun (x : Nat → AV) (y : Nat → Nat) (f : Nat → Nat) (W0 : List Int) => fin nmE 2 ((run cfg2 60).exs lawS (locD (y 0) (y 1) (x 0) (x 1) (x 2) (x 3) (x 4) (x 5) [("count", .a (.int c))]) [.well ((4, fs) :: (3, way) :: (tk (szF c way) f).map fun d => (7, d)) W0] (part 19 8))))) =
    tB 10 (fun c => tB 3 (fun way => tB 4 (fun fs => fun x y f W0 => some (locD (y 0) (y 1) (x 0) (x 1) (x 2) (x 3) (x 4) (x 5) (locE fs (tk (szF c way) f).length (freshA fs (tk (szF c way) f)) (valV fs (tk (szF c way) f)) (.r 1) (.int 0) (.int 0)), [.well [] W0, .lst []])))) := by kernel_rfl
theorem szF_in {c way : Nat} (hc : c ≤ 9) : 1 ≤ szF c way ∧ szF c way ≤ 9 := by unfold szF; split <;> (try split) <;> (first | lia | omega)
theorem segE (I : SIh G glob n (run cfg2 60)) {w t c : Nat} (hc : c ≤ 9) {ss ts cs tr df fl : AV} {W0 : List Int} (p : ∀ fs fd W', fs < 4 → fd ≠ [] → fd.length ≤ 9 → (∀ d ∈ fd, d < 7) → P .next (locD w t ss ts cs tr df fl (locE fs fd.length (freshA fs fd) (valV fs fd) (.r 1) (.int 0) (.int 0))) [.well [] W', .lst []]) :
    ExsN G n 0 lawS (locD w t ss ts cs tr df fl [("count", .a (.int c))]) [.well [] W0] (part 19 8) P := by
  refine ExsN.draw (L := 4) (by decide) fun fs W1 hf => ExsN.draw (L := 3) (by decide) fun way W2 hw => ExsN.draws (L := 7) (by decide) (q := szF c way) fun fd W3 hl hd => ?_
  have hz := szF_in (way := way) hc
  have pp := p fs fd W3 hf (fun z => by rw [z] at hl; rw [← hl] at hz; exact absurd hz.1 (by decide)) (hl ▸ hz.2) hd
  clear p hd hz
  obtain ⟨f, rfl⟩ := tk_of hl
  exact block I (names := nmE) 2 (by decide) (cg4 (tab (tab (tab segE_k (lts hc)) hw) hf) (pk [ss, ts, cs, tr, df, fl]) (pk [w, t]) f W3) pp
end
end Mine
end
section
open PySem PySem.W PyProof.Rows PySem.Calls
set_option maxRecDepth 100000
namespace Mine

noncomputable def s27 : { q : Pos × Expr × List Stmt × Pos // part 27 1 = [.For (.Name "at" q.1) q.2.1 q.2.2.1 [] q.2.2.2] } := ⟨(_, _, _, _), by rfl⟩
noncomputable def dueB : List Stmt := s27.1.2.2.1
noncomputable def duep (a b : Nat) : List Stmt := (dueB.drop a).take b
noncomputable def hitL : Nat → List Bool → List AV
  | _, [] => []
  | i, true :: r => .int i :: hitL (i + 1) r
  | i, false :: r => hitL (i + 1) r
noncomputable def cyc {α : Type} (ps : List α) (d : α) (z : Nat) : Nat → Nat → List α
  | _, 0 => []
  | u, n + 1 => (nth ps (u % z)).getD d :: cyc ps d z (u + 1) n
noncomputable def puts : List AV → List Bool → List AV → List AV
  | x :: xs, false :: bs, ys => x :: puts xs bs ys
  | _ :: xs, true :: bs, y :: ys => y :: puts xs bs ys
  | _, _, _ => []
/-- an item of rank a as one of rank b -/
noncomputable def cvL : Nat → Nat → Nat
  | 0, 0 => 4 | 0, 1 => 4 | 0, 2 => 13 | 0, _ => 8
  | 1, 1 => 1 | 1, 2 => 12 | 1, _ => 5
  | 2, 2 => 2 | 2, _ => 6
  | _, _ => 3
noncomputable def mx (a b : Nat) : Nat := match Nat.blt a b with | true => b | false => a
noncomputable def badD (fs d : Nat) : Bool := isBad (lB fs) d
noncomputable def codeA (fs d : Nat) : AV := match Nat.beq d 6, badD fs d with
  | false, false => .item (36 + fs) d
  | _, _ => .none
noncomputable def newR (c : Col) (r : List Bool) (fs : Nat) : Nat := match cntB r, c.1 with
  | 0, v => rk v
  | _, 4 => 1
  | _, v => mx (rk v) (rk fs)
noncomputable def newI (c : Col) (r : List Bool) (fs : Nat) (cd : List Nat) : List AV := match cntB r, c.1 with
  | 0, v => c.2.map fun d => .item (lI v) d
  | _, 4 => puts (c.2.map fun d => .item 11 d) r (cd.map (codeA fs))
  | _, v => puts (c.2.map fun d => .item (cvL (rk v) (mx (rk v) (rk fs))) d) r (cd.map fun d => .item (cvL (rk fs) (mx (rk v) (rk fs))) d)
noncomputable def anyBad (fs : Nat) : List Nat → Bool
  | [] => false
  | d :: r => match badD fs d with
    | true => true
    | false => anyBad fs r
noncomputable def alN (c : Col) (r : List Bool) (fs : Nat) (cd : List Nat) : Nat := match cntB r, c.1 with
  | 0, _ => 0
  | _, 4 => match anyBad fs cd with | true => 1 | false => 0
  | _, _ => 0
noncomputable def toldCh (l : List Str) : AV := .lst [.str "character", .lst (l.map AV.str), .lst []]
noncomputable def besA : Nat → AV
  | 0 => .lst []
  | 1 => .lst [.lst [.str "unit", toldCh ["cm"]]]
  | _ => .lst [.lst [.str "class", toldCh ["factor"]], .lst [.str "levels", toldCh LV]]
noncomputable def toldC (a r : Nat) (l : List AV) : AV := .lst [.str (kstr r), .lst l, besA a]
noncomputable def locU (atv : AV) (r : Loc) : Loc := ("at", .a atv) :: r
noncomputable def nmU : List Str := nmE ++ (["at", "column"] : List Str)
noncomputable def nmV : List Str := nmU ++ (["hit"] : List Str)
noncomputable def nmW : List Str := nmV ++ (["comes"] : List Str)

section
variable {G : Gnd} {glob : Str → Option Addr} {n N k m : Nat} {ih : Ih} {A : Around} {E : Value → Shared → Prop} {s : Shared} {env : Env} {W W' F F0 F' T : List Addr} {ad ad0 ad1 ad' ad'' : Ad} {hp hp' hp1 hp2 hp'' : Hp} {h h' h'' : Heap} {scope : Scope} {x : Str} {sc sc' : Sc} {loc loc' loc0 loc1 : Loc} {X X' : Addr → Prop}
variable {K : Frag} {fI : Addr} {mg mb : Str → Option Value} {cfg : Cfg} {P P' : MPost} {st : Stmt} {r : List Stmt}

theorem nth_form {α : Type} {l : List α} {i : Nat} {x : α} (h : nth l i = some x) (hi : i < 3) : (i = 0 ∧ ∃ r, l = x :: r) ∨ (i = 1 ∧ ∃ a r, l = a :: x :: r) ∨ (i = 2 ∧ ∃ a b r, l = a :: b :: x :: r) := by
  match i, l, h with
  | 0, _ :: r, h => cases h; exact .inl ⟨rfl, r, rfl⟩
  | 1, a :: _ :: r, h => cases h; exact .inr (.inl ⟨rfl, a, r, rfl⟩)
  | 2, a :: b :: _ :: r, h => cases h; exact .inr (.inr ⟨rfl, a, b, r, rfl⟩)
  | i + 3, _, _ => (first | lia | omega)
theorem due0_k : tA 3 (fun i => tA 4 fun t => tA 6 fun v => fun (x : Nat → AV) (y : Nat → Nat) (d : Nat → Nat) (W0 : List Int) (dl : List RV) (f : Nat → AV) (r : List AV) => fin nmU 4 ((run cfg2 60).exs lawS (locD (y 0) t (x 0) (x 1) (.lst (ins3 i f (colV (v, tk t d)) r)) (x 2) (x 3) (x 4) (locE (y 1) (y 2) (x 5) (x 6) (.r 1) (x 7) (x 8) ++ locU (.int (i : Nat)) [])) [.well [] W0, .lst dl] (duep 0 1))) =
    tB 3 (fun i => tB 4 fun t => tB 6 fun v => fun x y d W0 dl f r => some (locD (y 0) t (x 0) (x 1) (.lst (ins3 i f (colV (v, tk t d)) r)) (x 2) (x 3) (x 4) (locE (y 1) (y 2) (x 5) (x 6) (.r 1) (x 7) (x 8) ++ locU (.int (i : Nat)) [("column", .r 3)]), [.well [] W0, .lst dl, .lst ((tk t d).map fun d => .a (.item (lI v) d)), .lst [.a (.str (kstr (rk v))), .r 2, .a (besA (att v))]])) := by kernel_rfl
theorem due0 (I : SIh G glob n (run cfg2 60)) {w t i fs z : Nat} (hi : i < 3) (ht : t ≤ 3) {ss ts tr df fl fr va al us : AV} {cs : List AV} {c : Col} (hc : Cok t c) (e : nth cs i = some (colV c)) {W0 : List Int} {dl : List RV}
    (p : P .next (locD w t ss ts (.lst cs) tr df fl (locE fs z fr va (.r 1) al us ++ locU (.int (i : Nat)) [("column", .r 3)])) [.well [] W0, .lst dl, .lst (c.2.map fun d => .a (.item (lI c.1) d)), .lst [.a (.str (kstr (rk c.1))), .r 2, .a (besA (att c.1))]]) :
    ExsN G n 0 lawS (locD w t ss ts (.lst cs) tr df fl (locE fs z fr va (.r 1) al us ++ locU (.int (i : Nat)) [])) [.well [] W0, .lst dl] (duep 0 1) P := by
  obtain ⟨v, ds⟩ := c
  obtain ⟨d, rfl⟩ := tk_of hc.l
  obtain ⟨f, r, rfl⟩ := ins3_of e hi
  exact block I (names := nmU) 4 (by decide) (cg7 (tab (tab (tab due0_k hi) (Nat.lt_succ_of_le ht)) hc.v) (pk [ss, ts, tr, df, fl, fr, va, al, us]) (pk [w, fs, z]) d W0 dl f r) p
theorem due1_k : tA 3 (fun i => tA 4 fun t => tA (2 ^ t) fun b => fun (x : Nat → AV) (y : Nat → Nat) (xs : Nat → AV) (ys : List AV) (W0 : List Int) (l : Nat → List RV) => fin nmV 4 ((run cfg2 60).exs lawS (locD (y 0) t (x 0) (x 1) (x 2) (.lst (tk (i * t) xs ++ ((bits t b).map bitA ++ ys))) (x 3) (x 4) (locE (y 1) (y 2) (x 5) (x 6) (.r 1) (x 7) (x 8) ++ locU (.int (i : Nat)) [("column", .r 3)])) [.well [] W0, .lst (l 0), .lst (l 1), .lst (l 2)] (duep 1 1))) =
    tB 3 (fun i => tB 4 fun t => tB (2 ^ t) fun b => fun x y xs ys W0 l => some (locD (y 0) t (x 0) (x 1) (x 2) (.lst (tk (i * t) xs ++ ((bits t b).map bitA ++ ys))) (x 3) (x 4) (locE (y 1) (y 2) (x 5) (x 6) (.r 1) (x 7) (x 8) ++ locU (.int (i : Nat)) [("column", .r 3), ("hit", .a (.lst (hitL 0 (bits t b))))]), [.well [] W0, .lst (l 0), .lst (l 1), .lst (l 2)])) := by kernel_rfl
theorem due1 (I : SIh G glob n (run cfg2 60)) {w t i fs z : Nat} (hi : i < 3) (ht : t ≤ 3) {ss ts cs df fl fr va al us : AV} {xs ys : List AV} {r : List Bool} (hr : r.length = t) (hx : xs.length = i * t) {W0 : List Int} {dl il cl : List RV}
    (p : P .next (locD w t ss ts cs (.lst (xs ++ (r.map bitA ++ ys))) df fl (locE fs z fr va (.r 1) al us ++ locU (.int (i : Nat)) [("column", .r 3), ("hit", .a (.lst (hitL 0 r)))])) [.well [] W0, .lst dl, .lst il, .lst cl]) :
    ExsN G n 0 lawS (locD w t ss ts cs (.lst (xs ++ (r.map bitA ++ ys))) df fl (locE fs z fr va (.r 1) al us ++ locU (.int (i : Nat)) [("column", .r 3)])) [.well [] W0, .lst dl, .lst il, .lst cl] (duep 1 1) P := by
  obtain ⟨b, hb, rfl⟩ := bits_of hr
  obtain ⟨f, rfl⟩ := tk_of hx
  exact block I (names := nmV) 4 (by decide) (cg6 (tab (tab (tab due1_k hi) (Nat.lt_succ_of_le ht)) hb) (pk [ss, ts, cs, df, fl, fr, va, al, us]) (pk [w, fs, z]) f ys W0 (pk [dl, il, cl])) p
theorem due2_k : tA 9 (fun z => tA 7 fun u => tA 4 fun q => fun (x : Nat → AV) (y : Nat → Nat) (ps hs : Nat → AV) (W0 : List Int) (l : Nat → List RV) => fin nmW 4 ((run cfg2 60).exs lawS (locD (y 0) (y 1) (x 0) (x 1) (x 2) (x 3) (x 4) (x 5) (locE (y 2) (z + 1) (.lst (tk (z + 1) ps)) (x 6) (.r 1) (x 7) (.int u) ++ locU (x 8) [("column", .r 3), ("hit", .a (.lst (tk q hs)))])) [.well [] W0, .lst (l 0), .lst (l 1), .lst (l 2)] (duep 2 2))) =
    tB 9 (fun z => tB 7 fun u => tB 4 fun q => fun x y ps hs W0 l => some (locD (y 0) (y 1) (x 0) (x 1) (x 2) (x 3) (x 4) (x 5) (locE (y 2) (z + 1) (.lst (tk (z + 1) ps)) (x 6) (.r 1) (x 7) (.int ((u + q : Nat) : Int)) ++ locU (x 8) [("column", .r 3), ("hit", .a (.lst (tk q hs))), ("comes", .a (.lst (cyc (tk (z + 1) ps) .none (z + 1) u q)))]), [.well [] W0, .lst (l 0), .lst (l 1), .lst (l 2)])) := by kernel_rfl
theorem due2 (I : SIh G glob n (run cfg2 60)) {w t i fs z u q : Nat} (hz : 1 ≤ z ∧ z ≤ 9) (hu : u ≤ 6) (hq : q ≤ 3) {ss ts cs tr df fl va al atv : AV} {hs ps : List AV} (hh : hs.length = q) (hp : ps.length = z) {W0 : List Int} {dl il cl : List RV}
    (p : P .next (locD w t ss ts cs tr df fl (locE fs z (.lst ps) va (.r 1) al (.int ((u + q : Nat) : Int)) ++ locU atv [("column", .r 3), ("hit", .a (.lst hs)), ("comes", .a (.lst (cyc ps .none z u q)))])) [.well [] W0, .lst dl, .lst il, .lst cl]) :
    ExsN G n 0 lawS (locD w t ss ts cs tr df fl (locE fs z (.lst ps) va (.r 1) al (.int u) ++ locU atv [("column", .r 3), ("hit", .a (.lst hs))])) [.well [] W0, .lst dl, .lst il, .lst cl] (duep 2 2) P := by
  obtain ⟨z, rfl⟩ : ∃ y, z = y + 1 := ⟨z - 1, by (first | lia | omega)⟩
  obtain ⟨f, rfl⟩ := tk_of hp
  obtain ⟨g, rfl⟩ := tk_of hh
  exact block I (names := nmW) 4 (by decide) (cg6 (tab (tab (tab due2_k (Nat.lt_of_succ_le hz.2)) (Nat.lt_succ_of_le hu)) (Nat.lt_succ_of_le hq)) (pk [ss, ts, cs, tr, df, fl, va, al, atv]) (pk [w, t, fs]) f g W0 (pk [dl, il, cl])) p
end
end Mine
end
section
open PySem PySem.W PyProof.Rows PySem.Calls
set_option maxRecDepth 100000
set_option maxHeartbeats 0
namespace Mine

noncomputable def s4 : { q : (Expr × List Stmt × Pos) × (Expr × List Stmt × Pos) // duep 4 1 = [.If q.1.1 q.1.2.1 [.If q.2.1 q.2.2.1 [] q.2.2.2] q.1.2.2] } := ⟨((_, _, _), (_, _, _)), by rfl⟩
noncomputable def fB : List Stmt := s4.1.1.2.1
noncomputable def nB : List Stmt := s4.1.2.2.1
noncomputable def nmR : List Str := nmW ++ (["rank", "inside"] : List Str)
noncomputable def nmX : List Str := nmE ++ (["column"] : List Str)
noncomputable def nmP : List Str := nmU ++ (["rank", "inside"] : List Str)
noncomputable def locUa (col : AV) : Loc := [("column", .a col)]
noncomputable def nmL : List Str := nmR ++ (["late"] : List Str)

section
variable {G : Gnd} {glob : Str → Option Addr} {n N k m : Nat} {ih : Ih} {A : Around} {E : Value → Shared → Prop} {s : Shared} {env : Env} {W W' F F0 F' T : List Addr} {ad ad0 ad1 ad' ad'' : Ad} {hp hp' hp1 hp2 hp'' : Hp} {h h' h'' : Heap} {scope : Scope} {x : Str} {sc sc' : Sc} {loc loc' loc0 loc1 : Loc} {X X' : Addr → Prop}
variable {K : Frag} {fI : Addr} {mg mb : Str → Option Value} {cfg : Cfg} {P P' : MPost} {st : Stmt} {r : List Stmt}

theorem due4z_k : tA 3 (fun i => tA 4 (fun t => fun (x : Nat → AV) (y : Nat → Nat) (D : Nat → AV) (l : Nat → AV) (W0 : List Int) => fin nmE 2 ((run cfg2 60).exs lawS (locD (y 0) t (x 0) (x 1) (x 2) (x 3) (x 4) (x 5) (locE (y 1) (y 2) (x 6) (x 7) (.r 1) (x 8) (x 9) ++ locU (x 12) [("column", .r 3), ("hit", .a (.lst [])), ("comes", .a (.lst []))])) [.well [] W0, .lst ((tk i D).map RV.a), .lst ((tk t l).map RV.a), .lst [.a (x 10), .r 2, .a (x 11)]] (duep 4 2)))) =
    tB 3 (fun i => tB 4 (fun t => fun x y D l W0 => some (locD (y 0) t (x 0) (x 1) (x 2) (x 3) (x 4) (x 5) (locE (y 1) (y 2) (x 6) (x 7) (.r 1) (x 8) (x 9)), [.well [] W0, .lst ((tk i D ++ [AV.lst [(x 10), .lst (tk t l), (x 11)]]).map RV.a)]))) := by kernel_rfl
theorem due4z (I : SIh G glob n (run cfg2 60)) {w t i fs z : Nat} (hi : i < 3) {ss ts cs tr df fl fr va al us kd bes atv : AV} {Ds il : List AV} (hD : Ds.length = i) (hl : il.length = t) (ht : t ≤ 3) {W0 : List Int}
    (p : P .next (locD w t ss ts cs tr df fl (locE fs z fr va (.r 1) al us)) [.well [] W0, .lst ((Ds ++ [AV.lst [kd, .lst il, bes]]).map RV.a)]) :
    ExsN G n 0 lawS (locD w t ss ts cs tr df fl (locE fs z fr va (.r 1) al us ++ locU atv [("column", .r 3), ("hit", .a (.lst [])), ("comes", .a (.lst []))])) [.well [] W0, .lst (Ds.map RV.a), .lst (il.map RV.a), .lst [.a kd, .r 2, .a bes]] (duep 4 2) P := by
  obtain ⟨D, rfl⟩ := tk_of hD
  obtain ⟨l, rfl⟩ := tk_of hl
  exact block I (names := nmE) 2 (by decide) (cg5 (tab (tab due4z_k hi) (lts ht)) (pk [ss, ts, cs, tr, df, fl, fr, va, al, us, kd, bes, atv]) (pk [w, fs, z]) D l W0) p
/-- the tests of the two ifs -/
theorem tst_n_k : tA 3 (fun i => tA 4 (fun v => tA 3 (fun q => fun (x : Nat → AV) (y : Nat → Nat) (f : Nat → AV) (r : List AV) (h : Nat → AV) (hp : Hp) => (run cfg2 60).tr lawS (locD (y 0) (y 1) (.lst (ins3 i f (.int (v : Nat)) r)) (x 0) (x 1) (x 2) (x 3) (x 4) (locE (y 2) (y 3) (x 5) (x 6) (.r 1) (x 7) (x 8) ++ locU (.int (i : Nat)) [("column", .r 3), ("hit", .a (.lst (tk (q + 1) h))), ("comes", .a (x 9))])) hp s4.1.1.1))) =
    tB 3 (fun i => tB 4 (fun v => tB 3 (fun q => fun x y f r h hp => some (false, hp)))) := by kernel_rfl
theorem tst_n {w t i fs z v q : Nat} (hi : i < 3) (hv : v < 4) (hq : q ≤ 3) (hn : q ≠ 0) {SS hs : List AV} (es : nth SS i = some (.int (v : Nat))) (hh : hs.length = q) {ts cs tr df fl fr va al us cm : AV} :
    (run cfg2 60).tr lawS (locD w t (.lst SS) ts cs tr df fl (locE fs z fr va (.r 1) al us ++ locU (.int (i : Nat)) [("column", .r 3), ("hit", .a (.lst hs)), ("comes", .a cm)])) hp s4.1.1.1 = some (false, hp) := by
  obtain ⟨q, rfl⟩ := pred_of (Nat.pos_of_ne_zero hn)
  obtain ⟨f, r, rfl⟩ := ins3_of es hi
  obtain ⟨h, rfl⟩ := tk_of hh
  exact (cg6 (tab (tab (tab tst_n_k hi) hv) hq) (pk [ts, cs, tr, df, fl, fr, va, al, us, cm]) (pk [w, t, fs, z]) f r h hp)
theorem tst_n2_k : tA 3 (fun q => fun (x : Nat → AV) (y : Nat → Nat) (h : Nat → AV) (hp : Hp) => (run cfg2 60).tr lawS (locD (y 0) (y 1) (x 0) (x 1) (x 2) (x 3) (x 4) (x 5) (locE (y 2) (y 3) (x 6) (x 7) (.r 1) (x 8) (x 9) ++ locU (x 11) [("column", .r 3), ("hit", .a (.lst (tk (q + 1) h))), ("comes", .a (x 10))])) hp s4.1.2.1) =
    tB 3 (fun q => fun x y h hp => some (true, hp)) := by kernel_rfl
theorem tst_n2 {w t fs z q : Nat} (hq : q ≤ 3) (hn : q ≠ 0) {hs : List AV} (hh : hs.length = q) {ss ts cs tr df fl fr va al us cm atv : AV} :
    (run cfg2 60).tr lawS (locD w t ss ts cs tr df fl (locE fs z fr va (.r 1) al us ++ locU atv [("column", .r 3), ("hit", .a (.lst hs)), ("comes", .a cm)])) hp s4.1.2.1 = some (true, hp) := by
  obtain ⟨q, rfl⟩ := pred_of (Nat.pos_of_ne_zero hn)
  obtain ⟨h, rfl⟩ := tk_of hh
  exact (cg4 (tab tst_n2_k hq) (pk [ss, ts, cs, tr, df, fl, fr, va, al, us, cm, atv]) (pk [w, t, fs, z]) h hp)
theorem tst_f_k : tA 3 (fun i => tA 3 (fun q => fun (x : Nat → AV) (y : Nat → Nat) (f : Nat → AV) (r : List AV) (h : Nat → AV) (hp : Hp) => (run cfg2 60).tr lawS (locD (y 0) (y 1) (.lst (ins3 i f (.int 4) r)) (x 0) (x 1) (x 2) (x 3) (x 4) (locE (y 2) (y 3) (x 5) (x 6) (.r 1) (x 7) (x 8) ++ locU (.int (i : Nat)) [("column", .r 3), ("hit", .a (.lst (tk (q + 1) h))), ("comes", .a (x 9))])) hp s4.1.1.1)) =
    tB 3 (fun i => tB 3 (fun q => fun x y f r h hp => some (true, hp))) := by kernel_rfl
theorem tst_f {w t i fs z q : Nat} (hi : i < 3) (hq : q ≤ 3) (hn : q ≠ 0) {SS hs : List AV} (es : nth SS i = some (.int 4)) (hh : hs.length = q) {ts cs tr df fl fr va al us cm : AV} :
    (run cfg2 60).tr lawS (locD w t (.lst SS) ts cs tr df fl (locE fs z fr va (.r 1) al us ++ locU (.int (i : Nat)) [("column", .r 3), ("hit", .a (.lst hs)), ("comes", .a cm)])) hp s4.1.1.1 = some (true, hp) := by
  obtain ⟨q, rfl⟩ := pred_of (Nat.pos_of_ne_zero hn)
  obtain ⟨f, r, rfl⟩ := ins3_of es hi
  obtain ⟨h, rfl⟩ := tk_of hh
  exact (cg6 (tab (tab tst_f_k hi) hq) (pk [ts, cs, tr, df, fl, fr, va, al, us, cm]) (pk [w, t, fs, z]) f r h hp)
/-- rank and inside -/
theorem due_n1_k : tA 3 (fun i => tA 4 (fun t => tA 4 (fun v => tA 4 (fun fs => fun (x : Nat → AV) (y : Nat → Nat) (f : Nat → AV) (r : List AV) (g : Nat → AV) (o : List AV) (d : Nat → Nat) (W0 : List Int) (l : Nat → List RV) => fin nmR 5 ((run cfg2 60).exs lawS (locD (y 0) t (.lst (ins3 i f (.int (v : Nat)) r)) (.lst (ins3 i g (tabV (v, tk t d)) o)) (x 0) (x 1) (x 2) (x 3) (locE fs (y 1) (x 4) (x 5) (.r 1) (x 6) (x 7) ++ locU (.int (i : Nat)) [("column", .r 3), ("hit", .a (x 8)), ("comes", .a (x 9))])) [.well [] W0, .lst (l 0), .lst (l 1), .lst (l 2)] (nB.take 2)))))) =
    tB 3 (fun i => tB 4 (fun t => tB 4 (fun v => tB 4 (fun fs => fun x y f r g o d W0 l => some (locD (y 0) t (.lst (ins3 i f (.int (v : Nat)) r)) (.lst (ins3 i g (tabV (v, tk t d)) o)) (x 0) (x 1) (x 2) (x 3) (locE fs (y 1) (x 4) (x 5) (.r 1) (x 6) (x 7) ++ locU (.int (i : Nat)) [("column", .r 3), ("hit", .a (x 8)), ("comes", .a (x 9)), ("rank", .a (.int (mx (rk v) (rk fs) : Nat))), ("inside", .r 4)]), [.well [] W0, .lst (l 0), .lst (l 1), .lst (l 2), .lst ((tk t d).map fun d => .a (.item (cvL (rk v) (mx (rk v) (rk fs))) d))]))))) := by kernel_rfl
theorem due_n1 (I : SIh G glob n (run cfg2 60)) {w t i fs z v : Nat} (hi : i < 3) (hv : v < 4) (hf : fs < 4) {SS TS : List AV} {ds : List Nat} (es : nth SS i = some (.int (v : Nat))) (et : nth TS i = some (tabV (v, ds))) (ht : t ≤ 3) (hds : ds.length = t)
    {cs tr df fl fr va al us hs cm : AV} {dl il cl : List RV} {W0 : List Int}
    (p : P .next (locD w t (.lst SS) (.lst TS) cs tr df fl (locE fs z fr va (.r 1) al us ++ locU (.int (i : Nat)) [("column", .r 3), ("hit", .a hs), ("comes", .a cm), ("rank", .a (.int (mx (rk v) (rk fs) : Nat))), ("inside", .r 4)])) [.well [] W0, .lst dl, .lst il, .lst cl, .lst (ds.map fun d => .a (.item (cvL (rk v) (mx (rk v) (rk fs))) d))]) :
    ExsN G n 0 lawS (locD w t (.lst SS) (.lst TS) cs tr df fl (locE fs z fr va (.r 1) al us ++ locU (.int (i : Nat)) [("column", .r 3), ("hit", .a hs), ("comes", .a cm)])) [.well [] W0, .lst dl, .lst il, .lst cl] (nB.take 2) P := by
  obtain ⟨f, r, rfl⟩ := ins3_of es hi
  obtain ⟨g, o, rfl⟩ := ins3_of et hi
  obtain ⟨d, rfl⟩ := tk_of hds
  exact block I (names := nmR) 5 (by decide) (cg9 (tab (tab (tab (tab due_n1_k hi) (lts ht)) hv) hf) (pk [cs, tr, df, fl, fr, va, al, us, hs, cm]) (pk [w, z]) f r g o d W0 (pk [dl, il, cl])) p
/-- late -/
theorem due_n2_k : tA 4 (fun q => tA 4 (fun fs => tA 4 (fun m => fun (x : Nat → AV) (y : Nat → Nat) (c : Nat → Nat) (W0 : List Int) (l : Nat → List RV) => cond (Nat.ble (rk fs) m) (fin nmL 5 ((run cfg2 60).exs lawS (locD (y 0) (y 1) (x 0) (x 1) (x 2) (x 3) (x 4) (x 5) (locE fs (y 2) (x 6) (x 7) (.r 1) (x 8) (x 9) ++ locU (x 11) [("column", .r 3), ("hit", .a (x 10)), ("comes", .a (.lst ((tk q c).map (pairL (lA fs) (lB fs))))), ("rank", .a (.int (m : Nat))), ("inside", .r 4)])) [.well [] W0, .lst (l 0), .lst (l 1), .lst (l 2), .lst (l 3)] ((nB.drop 2).take 1))) none))) =
    tB 4 (fun q => tB 4 (fun fs => tB 4 (fun m => fun x y c W0 l => cond (Nat.ble (rk fs) m) (some (locD (y 0) (y 1) (x 0) (x 1) (x 2) (x 3) (x 4) (x 5) (locE fs (y 2) (x 6) (x 7) (.r 1) (x 8) (x 9) ++ locU (x 11) [("column", .r 3), ("hit", .a (x 10)), ("comes", .a (.lst ((tk q c).map (pairL (lA fs) (lB fs))))), ("rank", .a (.int (m : Nat))), ("inside", .r 4), ("late", .a (.lst ((tk q c).map fun d => .item (cvL (rk fs) m) d)))]), [.well [] W0, .lst (l 0), .lst (l 1), .lst (l 2), .lst (l 3)])) none))) := by kernel_rfl
theorem due_n2 (I : SIh G glob n (run cfg2 60)) {w t fs z m q : Nat} (hm : m < 4) (hf : fs < 4) (hmf : rk fs ≤ m) {cd : List Nat} (hq : q ≤ 3) (hcd : cd.length = q)
    {ss ts cs tr df fl fr va al us hs atv : AV} {dl il cl nl : List RV} {W0 : List Int}
    (p : P .next (locD w t ss ts cs tr df fl (locE fs z fr va (.r 1) al us ++ locU atv [("column", .r 3), ("hit", .a hs), ("comes", .a (.lst (cd.map (pairL (lA fs) (lB fs))))), ("rank", .a (.int (m : Nat))), ("inside", .r 4), ("late", .a (.lst (cd.map fun d => .item (cvL (rk fs) m) d)))])) [.well [] W0, .lst dl, .lst il, .lst cl, .lst nl]) :
    ExsN G n 0 lawS (locD w t ss ts cs tr df fl (locE fs z fr va (.r 1) al us ++ locU atv [("column", .r 3), ("hit", .a hs), ("comes", .a (.lst (cd.map (pairL (lA fs) (lB fs))))), ("rank", .a (.int (m : Nat))), ("inside", .r 4)])) [.well [] W0, .lst dl, .lst il, .lst cl, .lst nl] ((nB.drop 2).take 1) P := by
  obtain ⟨c, rfl⟩ := tk_of hcd
  exact block I (names := nmL) 5 (by decide) (ofc (cg5 (tab (tab (tab due_n2_k (lts hq)) hf) hm) (pk [ss, ts, cs, tr, df, fl, fr, va, al, us, hs, atv]) (pk [w, t, z]) c W0 (pk [dl, il, cl, nl])) (Nat.ble_eq_true_of_le hmf)) p
/-- the late ones come inside -/
theorem due_n3_k : tA 3 (fun i => tA 4 (fun t => tA (2 ^ t) (fun b => fun (x : Nat → AV) (y : Nat → Nat) (D : Nat → AV) (J : Nat → AV) (X : Nat → AV) (Y : Nat → AV) (W0 : List Int) => fin nmP 5 ((run cfg2 60).exs lawS (locD (y 0) t (x 0) (x 1) (x 2) (x 3) (x 4) (x 5) (locE (y 1) (y 2) (x 6) (x 7) (.r 1) (x 8) (x 9) ++ locU (x 14) [("column", .r 3), ("hit", .a (.lst (hitL 0 (bits t b)))), ("comes", .a (x 10)), ("rank", .a (x 11)), ("inside", .r 4), ("late", .a (.lst (tk (cntB (bits t b)) Y)))])) [.well [] W0, .lst ((tk i D).map RV.a), .lst ((tk t J).map RV.a), .lst [.a (x 12), .r 2, .a (x 13)], .lst ((tk t X).map RV.a)] ((nB.drop 3).take 1))))) =
    tB 3 (fun i => tB 4 (fun t => tB (2 ^ t) (fun b => fun x y D J X Y W0 => some (locD (y 0) t (x 0) (x 1) (x 2) (x 3) (x 4) (x 5) (locE (y 1) (y 2) (x 6) (x 7) (.r 1) (x 8) (x 9) ++ locU (x 14) [("column", .r 3), ("rank", .a (x 11)), ("inside", .a (.lst (puts (tk t X) (bits t b) (tk (cntB (bits t b)) Y))))]), [.well [] W0, .lst ((tk i D).map RV.a), .lst ((tk t J).map RV.a), .lst [.a (x 12), .r 2, .a (x 13)], .dead])))) := by kernel_rfl
theorem due_n3 (I : SIh G glob n (run cfg2 60)) {w t i fs z : Nat} (hi : i < 3) (ht : t ≤ 3) {Ds xs ys Is : List AV} {r : List Bool} (hD : Ds.length = i) (hr : r.length = t) (hI : Is.length = t) (hx : xs.length = t) (hy : ys.length = cntB r)
    {ss ts cs tr df fl fr va al us cm rkv kd bes atv : AV} {W0 : List Int}
    (p : P .next (locD w t ss ts cs tr df fl (locE fs z fr va (.r 1) al us ++ locU atv [("column", .r 3), ("rank", .a rkv), ("inside", .a (.lst (puts xs r ys)))])) [.well [] W0, .lst (Ds.map RV.a), .lst (Is.map RV.a), .lst [.a kd, .r 2, .a bes], .dead]) :
    ExsN G n 0 lawS (locD w t ss ts cs tr df fl (locE fs z fr va (.r 1) al us ++ locU atv [("column", .r 3), ("hit", .a (.lst (hitL 0 r))), ("comes", .a cm), ("rank", .a rkv), ("inside", .r 4), ("late", .a (.lst ys))])) [.well [] W0, .lst (Ds.map RV.a), .lst (Is.map RV.a), .lst [.a kd, .r 2, .a bes], .lst (xs.map RV.a)] ((nB.drop 3).take 1) P := by
  obtain ⟨D, rfl⟩ := tk_of hD
  obtain ⟨J, rfl⟩ := tk_of hI
  obtain ⟨X, rfl⟩ := tk_of hx
  obtain ⟨b, hb, rfl⟩ := bits_of hr
  obtain ⟨Y, rfl⟩ := tk_of hy
  exact block I (names := nmP) 5 (by decide) (cg7 (tab (tab (tab due_n3_k hi) (lts ht)) hb) (pk [ss, ts, cs, tr, df, fl, fr, va, al, us, cm, rkv, kd, bes, atv]) (pk [w, fs, z]) D J X Y W0) p
/-- the new column, and it is due -/
theorem due_n4_k : tA 3 (fun i => tA 4 (fun m => fun (x : Nat → AV) (y : Nat → Nat) (D : Nat → AV) (il : List RV) (W0 : List Int) => fin nmX 2 ((run cfg2 60).exs lawS (locD (y 0) (y 1) (x 0) (x 1) (x 2) (x 3) (x 4) (x 5) (locE (y 2) (y 3) (x 6) (x 7) (.r 1) (x 8) (x 9) ++ locU (x 13) [("column", .r 3), ("rank", .a (.int (m : Nat))), ("inside", .a (x 10))])) [.well [] W0, .lst ((tk i D).map RV.a), .lst il, .lst [.a (x 11), .r 2, .a (x 12)], .dead] (nB.drop 4)))) =
    tB 3 (fun i => tB 4 (fun m => fun x y D il W0 => some (locD (y 0) (y 1) (x 0) (x 1) (x 2) (x 3) (x 4) (x 5) (locE (y 2) (y 3) (x 6) (x 7) (.r 1) (x 8) (x 9) ++ locUa (.lst [.str (kstr m), (x 10), (x 12)])), [.well [] W0, .lst ((tk i D).map RV.a)]))) := by kernel_rfl
theorem due_n4 (I : SIh G glob n (run cfg2 60)) {w t i fs z m : Nat} (hi : i < 3) (hm : m < 4) {Ds : List AV} (hD : Ds.length = i)
    {ss ts cs tr df fl fr va al us ins kd bes atv : AV} {il : List RV} {W0 : List Int}
    (p : P .next (locD w t ss ts cs tr df fl (locE fs z fr va (.r 1) al us ++ locUa (.lst [.str (kstr m), ins, bes]))) [.well [] W0, .lst (Ds.map RV.a)]) :
    ExsN G n 0 lawS (locD w t ss ts cs tr df fl (locE fs z fr va (.r 1) al us ++ locU atv [("column", .r 3), ("rank", .a (.int (m : Nat))), ("inside", .a ins)])) [.well [] W0, .lst (Ds.map RV.a), .lst il, .lst [.a kd, .r 2, .a bes], .dead] (nB.drop 4) P := by
  obtain ⟨D, rfl⟩ := tk_of hD
  exact block I (names := nmX) 2 (by decide) (cg5 (tab (tab due_n4_k hi) hm) (pk [ss, ts, cs, tr, df, fl, fr, va, al, us, ins, kd, bes, atv]) (pk [w, t, fs, z]) D il W0) p
theorem due5_k : tA 3 (fun i => fun (x : Nat → AV) (y : Nat → Nat) (D : Nat → AV) (W0 : List Int) => fin nmE 2 ((run cfg2 60).exs lawS (locD (y 0) (y 1) (x 0) (x 1) (x 2) (x 3) (x 4) (x 5) (locE (y 2) (y 3) (x 6) (x 7) (.r 1) (x 8) (x 9) ++ locUa (x 10))) [.well [] W0, .lst ((tk i D).map RV.a)] (duep 5 1))) =
    tB 3 (fun i => fun x y D W0 => some (locD (y 0) (y 1) (x 0) (x 1) (x 2) (x 3) (x 4) (x 5) (locE (y 2) (y 3) (x 6) (x 7) (.r 1) (x 8) (x 9)), [.well [] W0, .lst ((tk i D ++ [(x 10)]).map RV.a)])) := by kernel_rfl
theorem due5 (I : SIh G glob n (run cfg2 60)) {w t i fs z : Nat} (hi : i < 3) {Ds : List AV} (hD : Ds.length = i)
    {ss ts cs tr df fl fr va al us col : AV} {W0 : List Int}
    (p : P .next (locD w t ss ts cs tr df fl (locE fs z fr va (.r 1) al us)) [.well [] W0, .lst ((Ds ++ [col]).map RV.a)]) :
    ExsN G n 0 lawS (locD w t ss ts cs tr df fl (locE fs z fr va (.r 1) al us ++ locUa col)) [.well [] W0, .lst (Ds.map RV.a)] (duep 5 1) P := by
  obtain ⟨D, rfl⟩ := tk_of hD
  exact block I (names := nmE) 2 (by decide) (cg4 (tab due5_k hi) (pk [ss, ts, cs, tr, df, fl, fr, va, al, us, col]) (pk [w, t, fs, z]) D W0) p
end
end Mine
end
section
open PySem PySem.W PyProof.Rows PySem.Calls
set_option maxRecDepth 100000
set_option maxHeartbeats 0
namespace Mine

/-- a drawn letter by its class: none, in the levels, not in them -/
noncomputable def clP (fs : Nat) : Nat × Nat → AV
  | (0, _) => .tup [.none, .none]
  | (1, e) => pairL (20 + fs) (28 + fs) e
  | (_, e) => pairL (24 + fs) (32 + fs) e
noncomputable def clA (fs : Nat) : Nat × Nat → AV
  | (0, _) => .none
  | (1, e) => .item (20 + fs) e
  | (_, e) => .item (24 + fs) e
noncomputable def codeK (fs : Nat) : Nat × Nat → AV
  | (1, e) => .item (36 + fs) e
  | _ => .none
noncomputable def anyK : List (Nat × Nat) → Bool
  | [] => false
  | (2, _) :: _ => true
  | _ :: r => anyK r
noncomputable def clsK (fs e : Nat) : Nat := match Nat.beq e 6, badD fs e with
  | true, _ => 0
  | false, false => 1
  | false, true => 2
noncomputable def kk (fs e : Nat) : Nat × Nat := (clsK fs e, e)

/-- classes and letters -/
noncomputable def kz : List Nat → (Nat → Nat) → List (Nat × Nat)
  | [], _ => []
  | a :: r, e => (a, e 0) :: kz r fun i => e (i + 1)
theorem kz_of : ∀ {n : Nat} {l : List (Nat × Nat)}, l.length = n → (∀ p ∈ l, p.1 < 3) → ∃ c, c < 3 ^ n ∧ ∃ e, l = kz (digs 3 n c) e := by
  intro n l h q
  obtain ⟨c, h1, h2⟩ := digs_of (L := 3) (by decide) (l := l.map (·.1)) (n := n) (by rw [List.length_map]; exact h) fun d hd => by
    obtain ⟨p, hp, rfl⟩ := List.mem_map.mp hd
    exact q p hp
  refine ⟨c, h1, ?_⟩
  rw [← h2]
  clear h h1 h2 q
  induction l with
  | nil => exact ⟨fun _ => 0, rfl⟩
  | cons p r ih =>
    obtain ⟨e, ih⟩ := ih
    exact ⟨fun i => match i with | 0 => p.2 | i + 1 => e i, congrArg (p :: ·) ih⟩

section
variable {G : Gnd} {glob : Str → Option Addr} {n N k m : Nat} {ih : Ih} {A : Around} {E : Value → Shared → Prop} {s : Shared} {env : Env} {W W' F F0 F' T : List Addr} {ad ad0 ad1 ad' ad'' : Ad} {hp hp' hp1 hp2 hp'' : Hp} {h h' h'' : Heap} {scope : Scope} {x : Str} {sc sc' : Sc} {loc loc' loc0 loc1 : Loc} {X X' : Addr → Prop}
variable {K : Frag} {fI : Addr} {mg mb : Str → Option Value} {cfg : Cfg} {P P' : MPost} {st : Stmt} {r : List Stmt}

theorem c3 {k : Nat} (h : k < 3) : k = 0 ∨ k = 1 ∨ k = 2 := (by decide : ∀ n : Fin 3, n.1 = 0 ∨ n.1 = 1 ∨ n.1 = 2) ⟨k, h⟩
theorem c4 {k : Nat} (h : k < 4) : k = 0 ∨ k = 1 ∨ k = 2 ∨ k = 3 := (by decide : ∀ n : Fin 4, n.1 = 0 ∨ n.1 = 1 ∨ n.1 = 2 ∨ n.1 = 3) ⟨k, h⟩
noncomputable def f2A (fs : Nat) := tA 4 (fun t => tA (2 ^ t) (fun b => tA (3 ^ cntB (bits t b)) (fun c => fun (x : Nat → AV) (y : Nat → Nat) (J : Nat → AV) (e : Nat → Nat) (dl : List RV) (W0 : List Int) => fin nmU 4 ((run cfg2 60).exs lawS (locD (y 0) t (x 0) (x 1) (x 2) (x 3) (x 4) (x 5) (locE fs (y 1) (x 6) (x 7) (.r 1) (.int ((y 2) : Nat)) (x 8) ++ locU (x 11) [("column", .r 3), ("hit", .a (.lst (hitL 0 (bits t b)))), ("comes", .a (.lst ((kz (digs 3 (cntB (bits t b)) c) e).map (clP fs))))])) [.well [] W0, .lst dl, .lst ((tk t J).map RV.a), .lst [.a (x 9), .r 2, .a (x 10)]] fB))))
noncomputable def f2B (fs : Nat) := tB 4 (fun t => tB (2 ^ t) (fun b => tB (3 ^ cntB (bits t b)) (fun c => fun (x : Nat → AV) (y : Nat → Nat) (J : Nat → AV) (e : Nat → Nat) (dl : List RV) (W0 : List Int) => (some (locD (y 0) t (x 0) (x 1) (x 2) (x 3) (x 4) (x 5) (locE fs (y 1) (x 6) (x 7) (.r 1) (.int (((y 2) + match anyK (kz (digs 3 (cntB (bits t b)) c) e) with | true => 1 | false => 0 : Nat) : Int)) (x 8) ++ locU (x 11) [("column", .r 3)]), [.well [] W0, .lst dl, .lst ((puts (tk t J) (bits t b) ((kz (digs 3 (cntB (bits t b)) c) e).map (codeK fs))).map RV.a), .lst [.a (x 9), .r 2, .a (x 10)]]) : Option (Loc × Hp)))))
theorem f2_0 : f2A 0 = f2B 0 := by kernel_rfl
theorem f2_1 : f2A 1 = f2B 1 := by kernel_rfl
theorem f2_2 : f2A 2 = f2B 2 := by kernel_rfl
theorem f2_3 : f2A 3 = f2B 3 := by kernel_rfl
theorem due_f2_k {fs : Nat} (h : fs < 4) : f2A fs = f2B fs := by
  rcases c4 h with rfl | rfl | rfl | rfl
  · exact f2_0
  · exact f2_1
  · exact f2_2
  · exact f2_3
theorem due_f2 (I : SIh G glob n (run cfg2 60)) {w t fs z al : Nat} (hf : fs < 4) {Is : List AV} {ks : List (Nat × Nat)} {r : List Bool} (ht : t ≤ 3) (hr : r.length = t) (hI : Is.length = t) (hk : ks.length = cntB r) (hc : ∀ p ∈ ks, p.1 < 3)
    {ss ts cs tr df fl fr va us kd bes atv : AV} {dl : List RV} {W0 : List Int}
    (p : P .next (locD w t ss ts cs tr df fl (locE fs z fr va (.r 1) (.int ((al + match anyK ks with | true => 1 | false => 0 : Nat) : Int)) us ++ locU atv [("column", .r 3)])) [.well [] W0, .lst dl, .lst ((puts Is r (ks.map (codeK fs))).map RV.a), .lst [.a kd, .r 2, .a bes]]) :
    ExsN G n 0 lawS (locD w t ss ts cs tr df fl (locE fs z fr va (.r 1) (.int (al : Nat)) us ++ locU atv [("column", .r 3), ("hit", .a (.lst (hitL 0 r))), ("comes", .a (.lst (ks.map (clP fs))))])) [.well [] W0, .lst dl, .lst (Is.map RV.a), .lst [.a kd, .r 2, .a bes]] fB P := by
  obtain ⟨J, rfl⟩ := tk_of hI
  obtain ⟨b, hb, rfl⟩ := bits_of hr
  obtain ⟨c, hk', e, rfl⟩ := kz_of hk hc
  exact block I (names := nmU) 4 (by decide) (cg6 (tab (tab (tab (due_f2_k hf) (lts ht)) hb) hk') (pk [ss, ts, cs, tr, df, fl, fr, va, us, kd, bes, atv]) (pk [w, z, al]) J e dl W0) p
/-- the column is frozen -/
theorem due_f4_k : tA 3 (fun i => tA 4 (fun t => fun (x : Nat → AV) (y : Nat → Nat) (D : Nat → AV) (J : Nat → AV) (W0 : List Int) => fzNames [(false, "column")] (locD (y 0) t (x 0) (x 1) (x 2) (x 3) (x 4) (x 5) (locE (y 1) (y 2) (x 6) (x 7) (.r 1) (x 8) (x 9) ++ locU (x 12) [("column", .r 3)])) [.well [] W0, .lst ((tk i D).map RV.a), .lst ((tk t J).map RV.a), .lst [.a (x 10), .r 2, .a (x 11)]])) =
    tB 3 (fun i => tB 4 (fun t => fun x y D J W0 => some (locD (y 0) t (x 0) (x 1) (x 2) (x 3) (x 4) (x 5) (locE (y 1) (y 2) (x 6) (x 7) (.r 1) (x 8) (x 9) ++ locU (x 12) [("column", .a (.lst [(x 10), .lst (tk t J), (x 11)]))]), [AO.well [] W0, .lst ((tk i D).map RV.a), .dead, .dead]))) := by kernel_rfl
theorem due_f4d_k : tA 3 (fun i => fun (D : Nat → AV) (W0 : List Int) => dropOk 2 [AO.well [] W0, .lst ((tk i D).map RV.a), .dead, .dead]) = tB 3 (fun _ => fun _ _ => true) := by kernel_rfl
theorem due_f4 {w t i fs z : Nat} (hi : i < 3) {Ds Is : List AV} (hD : Ds.length = i) (ht : t ≤ 3) (hI : Is.length = t) {ss ts cs tr df fl fr va al us kd bes atv : AV} {W0 : List Int} :
    Cv G 0 sc (locD w t ss ts cs tr df fl (locE fs z fr va (.r 1) al us ++ locU atv [("column", .r 3)])) [.well [] W0, .lst (Ds.map RV.a), .lst (Is.map RV.a), .lst [.a kd, .r 2, .a bes]]
      (locD w t ss ts cs tr df fl (locE fs z fr va (.r 1) al us ++ locUa (.lst [kd, .lst Is, bes]))) [.well [] W0, .lst (Ds.map RV.a)] := by
  obtain ⟨D, rfl⟩ := tk_of hD
  obtain ⟨J, rfl⟩ := tk_of hI
  refine Cv.trans (Cv.fz (xs := [(false, "column")]) (cg5 (tab (tab due_f4_k hi) (lts ht)) (pk [ss, ts, cs, tr, df, fl, fr, va, al, us, kd, bes, atv]) (pk [w, fs, z]) D J W0)) (Cv.fin (names := nmX) (m := 2) (Nat.zero_le _) (by kernel_rfl) (cg2 (tab due_f4d_k hi) D W0))
end
end Mine
end
section
open PySem PySem.W PyProof.Rows PySem.Calls
set_option maxRecDepth 100000
set_option maxHeartbeats 0
namespace Mine

noncomputable def chkCls (fs e : Nat) : Bool := (AV.beq (flat1 (clA fs (kk fs e))) (val (lA fs) e) && okD1 (clA fs (kk fs e))) && (AV.beq (flat (clP fs (kk fs e))) (.tup [val (lA fs) e, val (lB fs) e]) && okD (clP fs (kk fs e)))
theorem chkCls_all : ((List.range 4).all fun fs => (List.range 7).all fun e => chkCls fs e) = true := by kernel_rfl

section
variable {G : Gnd} {glob : Str → Option Addr} {n N k m : Nat} {ih : Ih} {A : Around} {E : Value → Shared → Prop} {s : Shared} {env : Env} {W W' F F0 F' T : List Addr} {ad ad0 ad1 ad' ad'' : Ad} {hp hp' hp1 hp2 hp'' : Hp} {h h' h'' : Heap} {scope : Scope} {x : Str} {sc sc' : Sc} {loc loc' loc0 loc1 : Loc} {X X' : Addr → Prop}
variable {K : Frag} {fI : Addr} {mg mb : Str → Option Value} {cfg : Cfg} {P P' : MPost} {st : Stmt} {r : List Stmt}

theorem chkCls_ok {fs e : Nat} (hf : fs < 4) (he : e < 7) : chkCls fs e = true := range_at (range_at chkCls_all hf) he
theorem cls_lt {fs e : Nat} : (kk fs e).1 < 3 := by
  show clsK fs e < 3
  unfold clsK
  split <;> decide
theorem clA_ar (hv : G.val = val) {fs e : Nat} (hf : fs < 4) (he : e < 7) {v : Value} (r : AR G h X (.item (lA fs) e) v) : AR G h X (clA fs (kk fs e)) v := by
  have c := Bool.and_eq_true_iff.mp (Bool.and_eq_true_iff.mp (chkCls_ok hf he)).1
  exact flat1_ar hv c.2 (by rw [beq_eq c.1]; exact (one_ar hv r).2)
theorem clP_ar (hv : G.val = val) {fs e : Nat} (hf : fs < 4) (he : e < 7) {v : Value} (r : AR G h X (pairL (lA fs) (lB fs) e) v) : AR G h X (clP fs (kk fs e)) v := by
  have c := Bool.and_eq_true_iff.mp (Bool.and_eq_true_iff.mp (chkCls_ok hf he)).2
  exact flat_ar hv (by rw [beq_eq c.1]; exact (snd_ar (q := (lB fs, e)) hv (fst_ar (q := (lA fs, e)) hv r).2).2) c.2
theorem lst_map {α : Type} {f g : α → AV} {l : List α} (q : ∀ a ∈ l, ∀ v, AR G h X (f a) v → AR G h X (g a) v) {v : Value} (r : AR G h X (.lst (l.map f)) v) : AR G h X (.lst (l.map g)) v :=
  r.lstE fun a vs n D => .lst D.e D.x (All2.map (f := g) (All2.monoM (fun x hx v => q x hx v) (All2.unmap (R := AR G h X) D.r)))
theorem code_cls {fs e : Nat} : codeA fs e = codeK fs (kk fs e) := by
  unfold codeA kk clsK
  cases Nat.beq e 6 <;> cases badD fs e <;> rfl
theorem bad_six {fs e : Nat} (h : Nat.beq e 6 = true) : badD fs e = false := by
  have := Nat.eq_of_beq_eq_true h
  subst this
  rfl
theorem any_cls {fs : Nat} : ∀ cd : List Nat, anyBad fs cd = anyK (cd.map (kk fs))
  | [] => rfl
  | e :: r => by
    have ih := any_cls (fs := fs) r
    rw [List.map_cons]
    show (match badD fs e with | true => true | false => anyBad fs r) = anyK (kk fs e :: r.map (kk fs))
    rw [ih]
    unfold kk clsK
    cases z : Nat.beq e 6
    · cases badD fs e <;> rfl
    · rw [bad_six z]; rfl
theorem alook_snoc {y c : Str} {v : RV} {L : Loc} : alook y (L ++ [(c, v)]) = (alook y L).or (cond (seq y c) (some v) none) := by
  induction L with
  | nil => exact rfl
  | cons p L ih =>
    show cond (seq y p.1) (some p.2) (alook y (L ++ [(c, v)])) = (cond (seq y p.1) (some p.2) (alook y L)).or _
    rw [ih]
    cases seq y p.1 <;> exact rfl
theorem Cv.last {L : Loc} {c : Str} {x y : AV} (q : ∀ (h : Heap) (X : Addr → Prop) v, AR G h X x v → AR G h X y v) : Cv G k sc (L ++ [(c, .a x)]) hp (L ++ [(c, .a y)]) hp :=
  Cv.vals fun z rv e => by
    rw [alook_snoc] at e ⊢
    cases er : alook z L with
    | some r => rw [er] at e; exact ⟨r, rfl, fun _ _ _ _ w => si (P := fun rv => RVR G _ _ _ rv _) e w⟩
    | none =>
      rw [er] at e
      exact cs (show cond (seq z c) (some (RV.a y)) none = some rv from e) (fun sz e => ⟨.a x, by rw [sz]; rfl, fun h X _ w r => si (P := fun rv => RVR G h X _ rv w) e (q h X w r)⟩) fun _ e => nn e

theorem cyc_map {α β : Type} {f : α → β} {ps : List α} {d : α} {d' : β} {z : Nat} (hz : ps.length = z) (z0 : 0 < z) : ∀ (n u : Nat), cyc (ps.map f) d' z u n = (cyc ps d z u n).map f
  | 0, _ => rfl
  | n + 1, u => by
    show (nth (ps.map f) (u % z)).getD d' :: cyc (ps.map f) d' z (u + 1) n = f ((nth ps (u % z)).getD d) :: (cyc ps d z (u + 1) n).map f
    rw [cyc_map hz z0 n (u + 1), nth_map]
    obtain ⟨a, ea⟩ := nth_of_lt (l := ps) (i := u % z) (by rw [hz]; exact Nat.mod_lt _ z0)
    rw [ea]; rfl
theorem cyc_len {α : Type} {ps : List α} {d : α} {z : Nat} : ∀ (n u : Nat), (cyc ps d z u n).length = n
  | 0, _ => rfl
  | n + 1, u => congrArg (· + 1) (cyc_len n (u + 1))
theorem cyc_mem {ps : List Nat} {z : Nat} (hz : ps.length = z) (z0 : 0 < z) {p : Nat → Prop} (hp : ∀ a ∈ ps, p a) : ∀ (n u : Nat), ∀ a ∈ cyc ps 0 z u n, p a
  | 0, _, a, h => nomatch h
  | n + 1, u, a, h => by
    obtain ⟨b, eb⟩ := nth_of_lt (l := ps) (i := u % z) (by rw [hz]; exact Nat.mod_lt _ z0)
    have sh : cyc ps 0 z u (n + 1) = (nth ps (u % z)).getD 0 :: cyc ps 0 z (u + 1) n := rfl
    rw [sh, eb] at h
    rcases List.mem_cons.mp h with rfl | h
    · exact hp _ (nth_mem eb)
    · exact cyc_mem hz z0 hp n (u + 1) a h
theorem hit_nil : ∀ {r : List Bool} {i : Nat}, cntB r = 0 → hitL i r = []
  | [], _, _ => rfl
  | true :: _, _, h => by cases h
  | false :: r, i, h => hit_nil (r := r) h
theorem hit_len : ∀ (r : List Bool) (i : Nat), (hitL i r).length = cntB r
  | [], _ => rfl
  | true :: r, i => congrArg (· + 1) (hit_len r (i + 1))
  | false :: r, i => hit_len r (i + 1)
theorem cnt_le : ∀ (r : List Bool), cntB r ≤ r.length
  | [] => Nat.le_refl _
  | true :: r => Nat.succ_le_succ (cnt_le r)
  | false :: r => Nat.le_succ_of_le (cnt_le r)
end
end Mine
end
section
open PySem PySem.W PyProof.Rows PySem.Calls
set_option maxRecDepth 100000
set_option maxHeartbeats 0
namespace Mine

section
variable {G : Gnd} {glob : Str → Option Addr} {n N k m : Nat} {ih : Ih} {A : Around} {E : Value → Shared → Prop} {s : Shared} {env : Env} {W W' F F0 F' T : List Addr} {ad ad0 ad1 ad' ad'' : Ad} {hp hp' hp1 hp2 hp'' : Hp} {h h' h'' : Heap} {scope : Scope} {x : Str} {sc sc' : Sc} {loc loc' loc0 loc1 : Loc} {X X' : Addr → Prop}
variable {K : Frag} {fI : Addr} {mg mb : Str → Option Value} {cfg : Cfg} {P P' : MPost} {st : Stmt} {r : List Stmt}

theorem newR_z {c : Col} {r : List Bool} {fs : Nat} (h : cntB r = 0) : newR c r fs = rk c.1 := by unfold newR; rw [h]; rfl
theorem newI_z {c : Col} {r : List Bool} {fs : Nat} {cd : List Nat} (h : cntB r = 0) : newI c r fs cd = c.2.map fun d => .item (lI c.1) d := by unfold newI; rw [h]; rfl
theorem alN_z {c : Col} {r : List Bool} {fs : Nat} {cd : List Nat} (h : cntB r = 0) : alN c r fs cd = 0 := by unfold alN; rw [h]; rfl
theorem newR_f {ds : List Nat} {r : List Bool} {fs : Nat} (h : cntB r ≠ 0) : newR (4, ds) r fs = 1 := by
  unfold newR
  generalize cntB r = q at h
  cases q with
  | zero => exact absurd rfl h
  | succ q => rfl
theorem newI_f {ds : List Nat} {r : List Bool} {fs : Nat} {cd : List Nat} (h : cntB r ≠ 0) : newI (4, ds) r fs cd = puts (ds.map fun d => .item 11 d) r (cd.map (codeA fs)) := by
  unfold newI
  generalize cntB r = q at h
  cases q with
  | zero => exact absurd rfl h
  | succ q => rfl
theorem alN_f {ds : List Nat} {r : List Bool} {fs : Nat} {cd : List Nat} (h : cntB r ≠ 0) : alN (4, ds) r fs cd = match anyBad fs cd with | true => 1 | false => 0 := by
  unfold alN
  generalize cntB r = q at h
  cases q with
  | zero => exact absurd rfl h
  | succ q => rfl
/-- a plain column: its sort -/
theorem plain_s {c : Col} {r : List Bool} {fs : Nat} {cd : List Nat} (hv : c.1 < 6) (h4 : c.1 ≠ 4) (h : cntB r ≠ 0) : ∃ v, v < 4 ∧ srtV c = .int (v : Nat) ∧ tabV c = tabV (v, c.2) ∧ newR c r fs = mx (rk v) (rk fs) ∧ alN c r fs cd = 0 ∧
    newI c r fs cd = puts (c.2.map fun d => .item (cvL (rk v) (mx (rk v) (rk fs))) d) r (cd.map fun d => .item (cvL (rk fs) (mx (rk v) (rk fs))) d) := by
  obtain ⟨v, ds⟩ := c
  unfold newR alN newI
  generalize cntB r = q at h
  cases q with
  | zero => exact absurd rfl h
  | succ q =>
    rcases v6 hv with z | z | z | z | z | z <;> dsimp only at z <;> subst z
    · exact ⟨0, by decide, rfl, rfl, rfl, rfl, rfl⟩
    · exact ⟨1, by decide, rfl, rfl, rfl, rfl, rfl⟩
    · exact ⟨2, by decide, rfl, rfl, rfl, rfl, rfl⟩
    · exact ⟨3, by decide, rfl, rfl, rfl, rfl, rfl⟩
    · exact absurd rfl h4
    · exact ⟨0, by decide, rfl, rfl, rfl, rfl, rfl⟩
theorem mx_lt {a b : Nat} (ha : a < 4) (hb : b < 4) : mx a b < 4 := by unfold mx; split <;> assumption
theorem mx_le {a b : Nat} : b ≤ mx a b := by
  unfold mx; split
  · exact Nat.le_refl _
  · rename_i z
    have : ¬ a < b := fun y => by rw [show Nat.blt a b = true from by simpa [Nat.blt_eq] using y] at z; cases z
    (first | lia | omega)
theorem rk_lt (v : Nat) : rk v < 4 := by unfold rk; split <;> decide
theorem nth_mapS {α β : Type} {f : α → β} {l : List α} {i : Nat} {a : α} (h : nth l i = some a) : nth (l.map f) i = some (f a) := by rw [nth_map, h]; rfl
theorem flat_split : ∀ {bss : List (List Bool)} {i t : Nat} {r : List Bool}, nth bss i = some r → (∀ r ∈ bss, r.length = t) → ∃ xs ys : List Bool, bss.flatten = xs ++ (r ++ ys) ∧ xs.length = i * t
  | _ :: l, 0, t, r, e, hr => by cases e; exact ⟨[], l.flatten, rfl, by rw [Nat.zero_mul]; rfl⟩
  | q :: l, i + 1, t, r, e, hr => by
    obtain ⟨xs, ys, e1, e2⟩ := flat_split (bss := l) e fun r hr' => hr r (.tail _ hr')
    exact ⟨q ++ xs, ys, by rw [List.flatten_cons, e1, List.append_assoc], by rw [List.length_append, e2, hr q (.head _), Nat.succ_mul, Nat.add_comm]⟩
  | [], _, _, _, e, _ => by cases e

theorem puts_len : ∀ {xs : List AV} {r : List Bool} {ys : List AV} {t : Nat}, xs.length = t → r.length = t → ys.length = cntB r → (puts xs r ys).length = t
  | [], [], _, _, h1, _, _ => h1
  | x :: xs, false :: r, ys, t + 1, h1, h2, h3 => congrArg (· + 1) (puts_len (xs := xs) (r := r) (ys := ys) (Nat.succ.inj h1) (Nat.succ.inj h2) h3)
  | x :: xs, true :: r, y :: ys, t + 1, h1, h2, h3 => congrArg (· + 1) (puts_len (xs := xs) (r := r) (ys := ys) (Nat.succ.inj h1) (Nat.succ.inj h2) (Nat.succ.inj h3))
  | _ :: _, true :: _, [], _, _, _, h3 => by cases h3
  | [], _ :: _, _, _, h1, h2, _ => by cases h1; cases h2
  | _ :: _, [], _, _, h1, h2, _ => by cases h1; cases h2
  | _ :: _, false :: _, _, 0, h1, _, _ => by cases h1
  | _ :: _, true :: _, _ :: _, 0, h1, _, _ => by cases h1

noncomputable def usedL : Nat → List (Col × List Bool) → Nat
  | u, [] => u
  | u, (_, r) :: l => usedL (u + cntB r) l
noncomputable def alL (fs : Nat) (fd : List Nat) : Nat → Nat → List (Col × List Bool) → Nat
  | a, _, [] => a
  | a, u, (c, r) :: l => alL fs fd (a + alN c r fs (cyc fd 0 fd.length u (cntB r))) (u + cntB r) l
/-- column by column: attributes, rank, items -/
noncomputable def newL (fs : Nat) (fd : List Nat) : Nat → List (Col × List Bool) → List (Nat × Nat × List AV)
  | _, [] => []
  | u, (c, r) :: l => (att c.1, newR c r fs, newI c r fs (cyc fd 0 fd.length u (cntB r))) :: newL fs fd (u + cntB r) l
noncomputable def toldX (x : Nat × Nat × List AV) : AV := toldC x.1 x.2.1 x.2.2
theorem usedL_snoc {p : Col × List Bool} : ∀ {l : List (Col × List Bool)} {u : Nat}, usedL u (l ++ [p]) = usedL u l + cntB p.2
  | [], _ => rfl
  | _ :: l, u => usedL_snoc (l := l)
theorem alL_snoc {fs : Nat} {fd : List Nat} {p : Col × List Bool} : ∀ {l : List (Col × List Bool)} {a u : Nat}, alL fs fd a u (l ++ [p]) = alL fs fd a u l + alN p.1 p.2 fs (cyc fd 0 fd.length (usedL u l) (cntB p.2))
  | [], _, _ => rfl
  | _ :: l, a, u => alL_snoc (l := l)
theorem newL_snoc {fs : Nat} {fd : List Nat} {p : Col × List Bool} : ∀ {l : List (Col × List Bool)} {u : Nat}, newL fs fd u (l ++ [p]) = newL fs fd u l ++ [(att p.1.1, newR p.1 p.2 fs, newI p.1 p.2 fs (cyc fd 0 fd.length (usedL u l) (cntB p.2)))]
  | [], _ => rfl
  | q :: l, u => congrArg (List.cons _) (newL_snoc (l := l))
theorem newL_len {fs : Nat} {fd : List Nat} : ∀ {l : List (Col × List Bool)} {u : Nat}, (newL fs fd u l).length = l.length
  | [], _ => rfl
  | q :: l, u => congrArg (· + 1) (newL_len (l := l))
theorem take_snoc {α : Type} : ∀ {l : List α} {i : Nat} {a : α}, nth l i = some a → l.take (i + 1) = l.take i ++ [a]
  | b :: l, 0, a, e => by cases e; rfl
  | b :: l, i + 1, a, e => congrArg (List.cons b) (take_snoc (l := l) e)
  | [], _, _, e => by cases e
theorem nth_zip {α β : Type} : ∀ {l : List α} {l' : List β} {i : Nat} {p : α × β}, nth (l.zip l') i = some p → nth l i = some p.1 ∧ nth l' i = some p.2
  | a :: l, b :: l', 0, p, e => by cases e; exact ⟨rfl, rfl⟩
  | a :: l, b :: l', i + 1, p, e => nth_zip (l := l) (l' := l') e
  | [], _, _, _, e => by cases e
  | _ :: _, [], _, _, e => by cases e
theorem usedL_le {t : Nat} : ∀ {l : List (Col × List Bool)} {u : Nat}, (∀ p ∈ l, p.2.length = t) → usedL u l ≤ u + l.length * t
  | [], u, _ => by simp [usedL]
  | (c, r) :: l, u, h => by
    have h1 := usedL_le (l := l) (u := u + cntB r) fun p hp => h p (.tail _ hp)
    have h2 := cnt_le r
    have h3 : r.length = t := h (c, r) (.head _)
    show usedL (u + cntB r) l ≤ u + (l.length + 1) * t
    rw [Nat.succ_mul]
    (first | lia | omega)

theorem due_body (I : SIh G glob n (run cfg2 60)) (hv : G.val = val) {w t i fs al u : Nat} (hi : i < 3) (ht : t ≤ 3) (hf : fs < 4) {cols : List Col} {bss : List (List Bool)} {c : Col} {r : List Bool} (ec : nth cols i = some c) (er : nth bss i = some r) (hc : Cok t c) (hr : ∀ r ∈ bss, r.length = t)
    {fd : List Nat} (hz : 1 ≤ fd.length ∧ fd.length ≤ 9) (hfd : ∀ d ∈ fd, d < 7) (hu : u ≤ 6) {df fl va : AV} {Ds : List AV} (hD : Ds.length = i) {W0 : List Int}
    (p : P .next (locD w t (.lst (cols.map srtV)) (.lst (cols.map tabV)) (.lst (cols.map colV)) (truA bss) df fl (locE fs fd.length (freshA fs fd) va (.r 1) (.int ((al + alN c r fs (cyc fd 0 fd.length u (cntB r)) : Nat) : Int)) (.int ((u + cntB r : Nat) : Int))))
      [.well [] W0, .lst ((Ds ++ [toldC (att c.1) (newR c r fs) (newI c r fs (cyc fd 0 fd.length u (cntB r)))]).map RV.a)]) :
    ExsN G n 0 lawS (aset "at" (.a (.int (i : Nat))) (locD w t (.lst (cols.map srtV)) (.lst (cols.map tabV)) (.lst (cols.map colV)) (truA bss) df fl (locE fs fd.length (freshA fs fd) va (.r 1) (.int (al : Nat)) (.int (u : Nat))))) [.well [] W0, .lst (Ds.map RV.a)] dueB P := by
  have hrt : r.length = t := hr r (nth_mem er)
  obtain ⟨xs, ys, e1, e2⟩ := flat_split er hr
  have hq : cntB r ≤ 3 := Nat.le_trans (cnt_le r) (by (first | lia | omega))
  rw [show aset "at" (.a (.int (i : Nat))) (locD w t (.lst (cols.map srtV)) (.lst (cols.map tabV)) (.lst (cols.map colV)) (truA bss) df fl (locE fs fd.length (freshA fs fd) va (.r 1) (.int (al : Nat)) (.int (u : Nat)))) = locD w t (.lst (cols.map srtV)) (.lst (cols.map tabV)) (.lst (cols.map colV)) (truA bss) df fl (locE fs fd.length (freshA fs fd) va (.r 1) (.int (al : Nat)) (.int (u : Nat)) ++ locU (.int (i : Nat)) []) from by kernel_rfl]
  rw [show dueB = duep 0 1 ++ (duep 1 1 ++ (duep 2 2 ++ duep 4 2)) from by kernel_rfl]
  refine ExsN.append (due0 I hi ht hc (nth_mapS ec) (ExsN.append ?_))
  rw [show (c.2.map fun d => RV.a (.item (lI c.1) d)) = (c.2.map fun d => AV.item (lI c.1) d).map RV.a from (by rw [List.map_map]; rfl)]
  have tr : truA bss = .lst (xs.map bitA ++ (r.map bitA ++ ys.map bitA)) := by unfold truA; rw [e1, List.map_append, List.map_append]
  rw [tr] at p ⊢
  refine due1 I hi ht hrt (by rw [List.length_map, e2]) (ExsN.append ?_)
  refine due2 (i := 0) I hz hu hq (hit_len r 0) (List.length_map _) ?_
  rw [cyc_map (f := pairL (lA fs) (lB fs)) (d := 0) (d' := .none) (ps := fd) rfl hz.1]
  have hcl : (cyc fd 0 fd.length u (cntB r)).length = cntB r := cyc_len _ _
  have hcm : ∀ a ∈ cyc fd 0 fd.length u (cntB r), a < 7 := cyc_mem rfl hz.1 hfd _ _
  generalize cyc fd 0 fd.length u (cntB r) = cd at p hcl hcm ⊢
  by_cases h0 : cntB r = 0
  · rw [h0] at hcl
    cases l0 hcl
    rw [hit_nil h0]
    rw [newR_z h0, newI_z h0, alN_z h0, Nat.add_zero] at p
    exact due4z I hi hD (by rw [List.length_map, hc.l]) ht p
  · by_cases h4 : c.1 = 4
    · obtain ⟨v, ds⟩ := c
      dsimp only at h4
      subst h4
      rw [newR_f h0, newI_f h0, alN_f h0, any_cls] at p
      rw [show duep 4 2 = duep 4 1 ++ duep 5 1 from by kernel_rfl, s4.2]
      refine ExsN.append (ExsN.cons ?_)
      refine ifN I (tst_f hi hq h0 (nth_mapS (f := srtV) ec) (hit_len r 0)) ?_
      dsimp only
      refine ExsN.pre (Cv.last (L := locD w t (.lst (cols.map srtV)) (.lst (cols.map tabV)) (.lst (cols.map colV)) (.lst (xs.map bitA ++ (r.map bitA ++ ys.map bitA))) df fl (locE fs fd.length (freshA fs fd) va (.r 1) (.int (al : Nat)) (.int ((u + cntB r : Nat) : Int)) ++ locU (.int (i : Nat)) [("column", .r 3), ("hit", .a (.lst (hitL 0 r)))])) (c := "comes") (y := .lst ((cd.map (kk fs)).map (clP fs))) fun h X v r => ?_) ?_
      · rw [List.map_map]
        exact lst_map (fun e he v r => clP_ar hv hf (hcm e he) r) r
      · refine due_f2 I hf ht hrt (by rw [List.length_map]; exact hc.l) (by rw [List.length_map, hcl]) (fun p hp => ?_) ?_
        · obtain ⟨e, _, rfl⟩ := List.mem_map.mp hp
          exact cls_lt
        · refine ExsN.nil (ExsN.pre (due_f4 hi hD ht ?_) (due5 I hi hD ?_))
          · exact puts_len (by rw [List.length_map]; exact hc.l) hrt (by rw [List.length_map, List.length_map, hcl])
          · rw [show cd.map (codeA fs) = (cd.map (kk fs)).map (codeK fs) from by rw [List.map_map]; exact List.map_congr_left fun e _ => code_cls] at p
            exact p
    · obtain ⟨v, hv4, q1, q2, q3, q4, q5⟩ := plain_s (fs := fs) (cd := cd) hc.v h4 h0
      rw [q3, q4, q5, Nat.add_zero] at p
      have es : nth (cols.map srtV) i = some (.int (v : Nat)) := by rw [← q1]; exact nth_mapS ec
      have et : nth (cols.map tabV) i = some (tabV (v, c.2)) := by rw [← q2]; exact nth_mapS ec
      rw [show duep 4 2 = duep 4 1 ++ duep 5 1 from by kernel_rfl, s4.2]
      refine ExsN.append (ExsN.cons ?_)
      refine ifN I (tst_n hi hv4 hq h0 es (hit_len r 0)) ?_
      dsimp only
      refine ExsN.cons (ifN I (tst_n2 hq h0 (hit_len r 0)) ?_)
      dsimp only
      rw [show s4.1.2.2.1 = nB.take 2 ++ ((nB.drop 2).take 1 ++ ((nB.drop 3).take 1 ++ nB.drop 4)) from by kernel_rfl]
      refine ExsN.append (due_n1 I hi hv4 hf es et ht hc.l (ExsN.append ?_))
      refine due_n2 I (mx_lt (rk_lt v) (rk_lt fs)) hf mx_le hq hcl (ExsN.append ?_)
      rw [show (c.2.map fun d => RV.a (.item (cvL (rk v) (mx (rk v) (rk fs))) d)) = (c.2.map fun d => AV.item (cvL (rk v) (mx (rk v) (rk fs))) d).map RV.a from (by rw [List.map_map]; rfl)]
      refine due_n3 I hi ht hD hrt (by rw [List.length_map]; exact hc.l) (by rw [List.length_map]; exact hc.l) (by rw [List.length_map, hcl]) ?_
      refine due_n4 I hi (mx_lt (rk_lt v) (rk_lt fs)) hD (ExsN.nil (ExsN.nil (due5 I hi hD p)))
theorem nth_some {α : Type} {l : List α} {i : Nat} (h : i < l.length) : ∃ a, nth l i = some a := nth_of_lt h
noncomputable def locDue (w t : Nat) (cols : List Col) (bss : List (List Bool)) (df fl va : AV) (fs : Nat) (fd : List Nat) (due : RV) (al u : Nat) : Loc := locD w t (.lst (cols.map srtV)) (.lst (cols.map tabV)) (.lst (cols.map colV)) (truA bss) df fl (locE fs fd.length (freshA fs fd) va due (.int (al : Nat)) (.int (u : Nat)))
theorem segF (Z : Env0 G K fI glob mg mb cfg2 N) (I : SIh G glob n (run cfg2 60)) (hv : G.val = val) {w t fs : Nat} (hw : 1 ≤ w ∧ w ≤ 3) (ht : t ≤ 3) (hf : fs < 4) {cols : List Col} {bss : List (List Bool)} (hc : cols.length = w) (ok : ∀ c ∈ cols, Cok t c) (hb : bss.length = w) (hr : ∀ r ∈ bss, r.length = t)
    {fd : List Nat} (hz : 1 ≤ fd.length ∧ fd.length ≤ 9) (hfd : ∀ d ∈ fd, d < 7) {df fl va : AV} {W0 : List Int}
    (p : P .next (locDue w t cols bss df fl va fs fd (.a (.lst ((newL fs fd 0 (cols.zip bss)).map toldX))) (alL fs fd 0 0 (cols.zip bss)) (usedL 0 (cols.zip bss))) [.well [] W0]) :
    ExsN G n 0 lawS (locDue w t cols bss df fl va fs fd (.r 1) 0 0) [.well [] W0, .lst []] (part 27 1) P := by
  have hl : (cols.zip bss).length = w := by rw [List.length_zip, hc, hb, Nat.min_self]
  rw [s27.2]
  refine ExsN.cons (ExN.weaken (P := fun fl l h => match fl with | .next => P .next l h | .ret _ => False) ?_ fun fl l h z => ?_)
  · refine ExN.post (ExN.weaken (P := fun fl1 l h => match fl1 with | .next => l = locDue w t cols bss df fl va fs fd (.r 1) (alL fs fd 0 0 (cols.zip bss)) (usedL 0 (cols.zip bss)) ∧ h = [.well [] W0, .lst (((newL fs fd 0 (cols.zip bss)).map toldX).map RV.a)] | .ret _ => False) ?_ ?_)
    · have hw' : w = 1 ∨ w = 2 ∨ w = 3 := by (first | lia | omega)
      have e1 : (run cfg2 60).ev lawS (locDue w t cols bss df fl va fs fd (.r 1) 0 0) [.well [] W0, .lst []] s27.1.2.1 = some (.a (.rng 0 w), [.well [] W0, .lst []]) := by
        rcases hw' with rfl | rfl | rfl <;> kernel_rfl
      have e2 : iterOf (.a (.rng 0 w)) = some (intsFrom 0 w) := by
        rcases hw' with rfl | rfl | rfl <;> rfl
      refine forN Z I (by kernel_rfl) (by kernel_rfl) e1 e2 (fun i l h => l = locDue w t cols bss df fl va fs fd (.r 1) (alL fs fd 0 0 ((cols.zip bss).take i)) (usedL 0 ((cols.zip bss).take i)) ∧ h = [.well [] W0, .lst (((newL fs fd 0 ((cols.zip bss).take i)).map toldX).map RV.a)]) ⟨rfl, rfl⟩ ?_ ?_
      · rintro i av l h ei ⟨rfl, rfl⟩
        have hi0 : i < w := by have := nth_lt ei; rw [intsFrom_len] at this; exact this
        have hi : i < 3 := by (first | lia | omega)
        have eav : av = .int (i : Nat) := by
          rcases hw' with rfl | rfl | rfl <;> rcases c3 hi with rfl | rfl | rfl <;> cases ei <;> rfl
        subst eav
        obtain ⟨⟨c, r⟩, ep⟩ := nth_some (l := cols.zip bss) (i := i) (by rw [hl]; exact hi0)
        obtain ⟨ec, er⟩ := nth_zip ep
        have hu : usedL 0 ((cols.zip bss).take i) ≤ 6 := by
          have := usedL_le (t := t) (l := (cols.zip bss).take i) (u := 0) fun p hp => hr _ (List.of_mem_zip (List.mem_of_mem_take hp)).2
          have h2 : ((cols.zip bss).take i).length ≤ i := by rw [List.length_take]; exact Nat.min_le_left _ _
          have h3 : ((cols.zip bss).take i).length * t ≤ 2 * 3 := Nat.mul_le_mul (by (first | lia | omega)) ht
          (first | lia | omega)
        refine due_body I hv hi ht hf ec er (ok c (nth_mem ec)) hr hz hfd hu (by rw [List.length_map, newL_len, List.length_take, hl]; (first | lia | omega)) ?_
        dsimp only
        rw [take_snoc ep, alL_snoc, usedL_snoc, newL_snoc]
        refine ⟨rfl, ?_⟩
        simp only [List.map_append]
        rfl
      · rintro l h ⟨rfl, rfl⟩
        rw [intsFrom_len, List.take_of_length_le (by rw [hl]; exact Nat.le_refl _)]
        exact ⟨rfl, rfl⟩
    · intro fl1 l h z
      cases fl1 with
      | ret _ => exact z.elim
      | next =>
        obtain ⟨rfl, rfl⟩ := z
        have hn : ((newL fs fd 0 (cols.zip bss)).map toldX).length = w := by rw [List.length_map, newL_len, hl]
        refine ⟨_, _, Cv.trans (Cv.fz (xs := [(false, "due")]) (loc' := locDue w t cols bss df fl va fs fd (.a (.lst ((newL fs fd 0 (cols.zip bss)).map toldX))) (alL fs fd 0 0 (cols.zip bss)) (usedL 0 (cols.zip bss))) (hp' := [.well [] W0, .dead]) ?_) (Cv.fin (names := nmE) (m := 1) (Nat.zero_le _) (by kernel_rfl) (by kernel_rfl)), p⟩
        generalize (newL fs fd 0 (cols.zip bss)).map toldX = ds at hn
        unfold locDue
        generalize (AV.lst (cols.map srtV)) = a1
        generalize (AV.lst (cols.map tabV)) = a2
        generalize (AV.lst (cols.map colV)) = a3
        generalize truA bss = a4
        generalize freshA fs fd = a5
        rcases len3 hn (by (first | lia | omega)) with ⟨rfl, rfl⟩ | ⟨d0, rfl, rfl⟩ | ⟨d0, d1, rfl, rfl⟩ | ⟨d0, d1, d2, rfl, rfl⟩ <;> kernel_rfl
  · cases fl with
    | ret _ => exact z.elim
    | next => exact ExsN.nil z
end
end Mine
end
section
open PySem PySem.W PyProof.Rows PySem.Calls
set_option maxRecDepth 100000
set_option maxHeartbeats 0
namespace Mine

noncomputable def vecX (x : Nat × Nat × List AV) : AV := vecC x.1 x.2.1 x.2.2
structure Xok (t : Nat) (x : Nat × Nat × List AV) : Prop where
  a : x.1 < 3
  r : x.2.1 < 4
  u : x.1 = 1 → 1 ≤ x.2.1
  f : x.1 = 2 → x.2.1 = 1
  l : x.2.2.length = t
noncomputable def toldFl (w t : Nat) (tl : List AV) : AV := .lst [.str "logical", .lst tl, .lst [.lst [.str "dim", .lst [.str "integer", .lst [.int t, .int w], .lst []]]]]
noncomputable def besF (w t b : Nat) : AV := .lst [.lst [.str "class", toldCh ["data.frame"]], .lst [.str "names", toldCh ((["x", "y", "x"] : List Str).take w)], .lst [.str "row.names", match b with
  | 0 => .lst [.str "integer", .lst (intsFrom 1 t), .lst []]
  | _ => toldCh ((["r", "1", "3"] : List Str).take t)]]
noncomputable def toldF (w t b : Nat) (ts : List AV) : AV := .lst [.str "list", .lst ts, besF w t b]

noncomputable def sT : { q : (Pos × Expr × (Pos × Pos × Pos) × (Pos × Expr × Scope × Pos) × Expr × Pos × Pos) × List Stmt // f94.1.body = .Assign [.Name "inside" q.1.1] (.IfExp q.1.2.1 (.ListComp (.Call (.Name "_law_told" q.1.2.2.1.1) [.Name "one" q.1.2.2.1.2.1] [] q.1.2.2.1.2.2) [⟨.Name "one" q.1.2.2.2.1.1, q.1.2.2.2.1.2.1, [], 0⟩] q.1.2.2.2.1.2.2.1 q.1.2.2.2.1.2.2.2) q.1.2.2.2.2.1 q.1.2.2.2.2.2.1) q.1.2.2.2.2.2.2 :: q.2 } := ⟨((_, _, (_, _, _), (_, _, _, _), _, _, _), _), by rfl⟩

noncomputable def okX (a r : Nat) : Bool := (!Nat.beq a 1 || Nat.ble 1 r) && (!Nat.beq a 2 || Nat.beq r 1)
theorem Xok.ok {t : Nat} {x : Nat × Nat × List AV} (h : Xok t x) : okX x.1 x.2.1 = true := by
  have u := h.u
  have f := h.f
  unfold okX
  simp only [Bool.and_eq_true, Bool.or_eq_true, Bool.not_eq_true', Nat.ble_eq]
  refine ⟨?_, ?_⟩
  · by_cases z : x.1 = 1
    · exact .inr (u z)
    · exact .inl (Bool.eq_false_iff.mpr fun e => z (Nat.eq_of_beq_eq_true e))
  · by_cases z : x.1 = 2
    · right; rw [f z]; rfl
    · exact .inl (Bool.eq_false_iff.mpr fun e => z (Nat.eq_of_beq_eq_true e))

section
variable {G : Gnd} {glob : Str → Option Addr} {n N k m : Nat} {ih : Ih} {A : Around} {E : Value → Shared → Prop} {s : Shared} {env : Env} {W W' F F0 F' T : List Addr} {ad ad0 ad1 ad' ad'' : Ad} {hp hp' hp1 hp2 hp'' : Hp} {h h' h'' : Heap} {scope : Scope} {x : Str} {sc sc' : Sc} {loc loc' loc0 loc1 : Loc} {X X' : Addr → Prop}
variable {K : Frag} {fI : Addr} {mg mb : Str → Option Value} {cfg : Cfg} {P P' : MPost} {st : Stmt} {r : List Stmt}

theorem told_col_k : tA 3 (fun a => tA 4 (fun r => tA 4 (fun t => fun (l : Nat → AV) (hp : Hp) => cond (okX a r) (callFn (run cfg2 60) false "_law_told" [.a (vecX (a, r, tk t l))] hp) none))) =
    tB 3 (fun a => tB 4 (fun r => tB 4 (fun t => fun l hp => cond (okX a r) (some (.a (toldX (a, r, tk t l)), hp)) none))) := by kernel_rfl
theorem told_col (I : SIh G glob n (run cfg2 60)) {t : Nat} (ht : t ≤ 3) {x : Nat × Nat × List AV} (hx : Xok t x) : ClAt G glob n "_law_told" [.a (vecX x)] hp (.a (toldX x)) hp := by
  have ok := hx.ok
  obtain ⟨a, r, l⟩ := x
  obtain ⟨f, rfl⟩ := tk_of hx.l
  exact callFn_sound I (keep := false) (ofc (cg2 (tab (tab (tab told_col_k hx.a) hx.r) (lts ht)) f hp) ok)
theorem told_val_k : tA 9 (fun z => tA 4 (fun r => fun (l : Nat → AV) (hp : Hp) => callFn (run cfg2 60) false "_law_told" [.a (vecC 0 r (tk (z + 1) l))] hp)) =
    tB 9 (fun z => tB 4 (fun r => fun l hp => some (.a (toldC 0 r (tk (z + 1) l)), hp))) := by kernel_rfl
theorem told_val (I : SIh G glob n (run cfg2 60)) {r : Nat} (hr : r < 4) {l : List AV} (hl : 1 ≤ l.length ∧ l.length ≤ 9) : ClAt G glob n "_law_told" [.a (vecC 0 r l)] hp (.a (toldC 0 r l)) hp := by
  obtain ⟨z, hz⟩ := pred_of hl.1
  obtain ⟨f, rfl⟩ := tk_of hz
  exact callFn_sound I (keep := false) (cg2 (tab (tab told_val_k (by rw [hz] at hl; exact Nat.lt_of_succ_le hl.2)) hr) f hp)
theorem told_fl_k : tA 3 (fun w => tA 4 (fun t => fun (l : Nat → AV) (hp : Hp) => callFn (run cfg2 60) false "_law_told" [.a (flV (w + 1) t (tk ((w + 1) * t) l))] hp)) =
    tB 3 (fun w => tB 4 (fun t => fun l hp => some (.a (toldFl (w + 1) t (tk ((w + 1) * t) l)), hp))) := by kernel_rfl
theorem told_fl (I : SIh G glob n (run cfg2 60)) {w t : Nat} (hw : 1 ≤ w ∧ w ≤ 3) (ht : t ≤ 3) {tl : List AV} (hl : tl.length = w * t) : ClAt G glob n "_law_told" [.a (flV w t tl)] hp (.a (toldFl w t tl)) hp := by
  obtain ⟨w, rfl⟩ := pred_of hw.1
  obtain ⟨f, rfl⟩ := tk_of hl
  exact callFn_sound I (keep := false) (cg2 (tab (tab told_fl_k (Nat.lt_of_succ_le hw.2)) (lts ht)) f hp)

open Classical in
noncomputable def plugIf (sc : Sc) (loc : Loc) (hp : Hp) (t b : Expr) (c : Bool) (r : RV × Hp) : Ih :=
  ⟨fun sc' l h e' => if sc' = sc ∧ l = loc ∧ h = hp ∧ e' = b then some r else none, fun sc' l h e' => if sc' = sc ∧ l = loc ∧ h = hp ∧ e' = t then some (c, hp) else none, fun _ _ _ _ => none, fun _ _ _ _ => none, fun _ _ _ => none⟩
open Classical in
theorem ifE {α : Type} {P : Prop} {c : Prop} [Decidable c] {r r' : α} (e : (if c then some r else none) = some r') (k : c → some r = some r' → P) : P :=
  (Decidable.em c).elim (fun z => k z (by rw [← e, if_pos z])) fun z => nn (by rw [← e, if_neg z] : none = some r')
open Classical in
theorem plugIf_ok {t b : Expr} {c : Bool} {rv : RV} (wt : TrAt G n sc loc hp t c hp) (w : EvAt G n sc loc hp b rv hp') : SIh G glob n (plugIf sc loc hp t b c (rv, hp')) where
  ev := fun {sc' l h e' rv' h'} q => ifE q fun z e => by
    obtain ⟨rfl, rfl, rfl, rfl⟩ := z
    exact w.at e
  tr := fun {sc' l h e' rv' h'} q => ifE q fun z e => by
    obtain ⟨rfl, rfl, rfl, rfl⟩ := z
    exact wt.at e
  ex := fun q => nn q
  exs := fun q => nn q
  cl := fun q => nn q
theorem evIfN (Z : Env0 G K fI glob mg mb cfg N) (nN : N ≤ n) {t b o : Expr} {pos : Pos} {rv : RV} (wt : TrAt G n sc loc hp t true hp) (w : EvAt G n sc loc hp b rv hp') (eo : cfg.orcE sc (.IfExp t b o pos) loc = none) : EvAt G n sc loc hp (.IfExp t b o pos) rv hp' := by
  refine ev_sound Z (plugIf_ok (glob := glob) wt w) nN ?_
  show ((cfg.orcE sc (.IfExp t b o pos) loc).map fun v => (RV.a v, hp)).or (evIf (plugIf sc loc hp t b true (rv, hp')) sc loc hp t b o) = _
  rw [eo]
  show ((plugIf sc loc hp t b true (rv, hp')).tr sc loc hp t).bind _ = _
  rw [show (plugIf sc loc hp t b true (rv, hp')).tr sc loc hp t = some (true, hp) from if_pos ⟨rfl, rfl, rfl, rfl⟩]
  exact if_pos ⟨rfl, rfl, rfl, rfl⟩

noncomputable def hdA (l : Loc) : AV := (l.head?.bind fun p => rA p.2).getD .none
open Classical in
noncomputable def plugC (sc scI : Sc) (loc fl : Loc) (hp : Hp) (y : Str) (iter elt : Expr) (cs : List AV) (tF : AV → AV) : Ih :=
  ⟨fun sc' l h e' => if sc' = sc ∧ l = loc ∧ h = hp ∧ e' = iter then some (.a (.lst cs), hp) else if ∃ c ∈ cs, sc' = scI ∧ l = (y, .a c) :: fl ∧ h = hp ∧ e' = elt then some (.a (tF (hdA l)), hp) else none, fun _ _ _ _ => none, fun _ _ _ _ => none, fun _ _ _ _ => none, fun _ _ _ => none⟩
open Classical in
theorem plugC_ok {scI : Sc} {fl : Loc} {y : Str} {iter elt : Expr} {cs : List AV} {tF : AV → AV} (wi : EvAt G n sc loc hp iter (.a (.lst cs)) hp) (we : ∀ c ∈ cs, EvAt G n scI ((y, .a c) :: fl) hp elt (.a (tF c)) hp) : SIh G glob n (plugC sc scI loc fl hp y iter elt cs tF) where
  ev := fun {sc' l h e' rv' h'} q => by
    rcases Classical.em (sc' = sc ∧ l = loc ∧ h = hp ∧ e' = iter) with z | z
    · have q0 := (if_pos z).symm.trans q
      obtain ⟨rfl, rfl, rfl, rfl⟩ := z
      exact wi.at q0
    · refine ifE ((if_neg z).symm.trans q) fun z e => ?_
      obtain ⟨c, hc, rfl, rfl, rfl, rfl⟩ := z
      exact (we c hc).at e
  tr := fun q => nn q
  ex := fun q => nn q
  exs := fun q => nn q
  cl := fun q => nn q
theorem plugC_at {scI : Sc} {fl : Loc} {y : Str} {iter elt : Expr} {cs : List AV} {tF : AV → AV} {c : AV} (hc : c ∈ cs) (ne : elt ≠ iter) : (plugC sc scI loc fl hp y iter elt cs tF).ev scI ((y, .a c) :: fl) hp elt = some (.a (tF c), hp) :=
  (if_neg fun z => ne z.2.2.2).trans (if_pos ⟨c, hc, rfl, rfl, rfl, rfl⟩)
theorem comp_plug {ih : Ih} {fl : Loc} {y : Str} {elt : Expr} {tF : AV → AV} : ∀ {cs : List AV}, (∀ c ∈ cs, ih.ev sc ((y, .a c) :: fl) hp elt = some (.a (tF c), hp)) → comp ih sc fl y [] elt cs hp = some (cs.map fun c => .a (tF c), hp) := fun {cs} => by
  induction cs with
  | nil => exact fun _ => rfl
  | cons c cs ih' =>
    intro q
    show (ih.ev sc ((y, .a c) :: fl) hp elt).bind (fun q' => (comp ih sc fl y [] elt cs q'.2).map fun q'' => (q'.1 :: q''.1, q''.2)) = _
    rw [q c (.head _)]
    show (comp ih sc fl y [] elt cs hp).map _ = _
    rw [ih' fun c hc => q c (.tail _ hc)]
    rfl
theorem allA_map (l : List AV) : allA (l.map RV.a) = some l := by
  induction l with
  | nil => exact rfl
  | cons v l ih =>
    show (allA (l.map RV.a)).map (v :: ·) = _
    rw [ih]; rfl
theorem evComp (Z : Env0 G K fI glob mg mb cfg N) (nN : N ≤ n) {scope : Scope} {y : Str} {py pos : Pos} {iter elt : Expr} {cs : List AV} {tF : AV → AV} (wi : EvAt G n sc loc hp iter (.a (.lst cs)) hp) (we : ∀ c ∈ cs, EvAt G n scope.names ((y, .a c) :: freeOf scope.names loc) hp elt (.a (tF c)) hp)
    (ok : compOk sc scope y iter = true) (ne : elt ≠ iter) (hl : cs.length ≤ 4096) (ow : cfg.own pos = false) : EvAt G n sc loc hp (.ListComp elt [⟨.Name y py, iter, [], 0⟩] scope pos) (.a (.lst (cs.map tF))) hp := by
  refine ev_sound Z (plugC_ok (glob := glob) wi we) nN ?_
  show compI cfg (plugC sc scope.names loc (freeOf scope.names loc) hp y iter elt cs tF) sc loc hp elt [⟨.Name y py, iter, [], 0⟩] scope pos = _
  show gd (compOk sc scope y iter) (((plugC sc scope.names loc (freeOf scope.names loc) hp y iter elt cs tF).ev sc loc hp iter).bind fun q => (iterOf q.1).bind fun l => (comp (plugC sc scope.names loc (freeOf scope.names loc) hp y iter elt cs tF) scope.names (freeOf scope.names loc) y [] elt l q.2).bind fun q' => mkLst (cfg.own pos) q'.1 q'.2) = _
  rw [ok]
  show ((plugC sc scope.names loc (freeOf scope.names loc) hp y iter elt cs tF).ev sc loc hp iter).bind _ = _
  rw [show (plugC sc scope.names loc (freeOf scope.names loc) hp y iter elt cs tF).ev sc loc hp iter = some (.a (.lst cs), hp) from if_pos ⟨rfl, rfl, rfl, rfl⟩]
  show (comp (plugC sc scope.names loc (freeOf scope.names loc) hp y iter elt cs tF) scope.names (freeOf scope.names loc) y [] elt cs hp).bind _ = _
  rw [comp_plug (tF := tF) fun c hc => ?_]
  · show gd (Nat.ble (cs.map fun c => RV.a (tF c)).length 4096) (cond (cfg.own pos) _ ((allA (cs.map fun c => RV.a (tF c))).map fun vs => (RV.a (.lst vs), hp))) = _
    rw [ow, show Nat.ble (cs.map fun c => RV.a (tF c)).length 4096 = true from by rw [List.length_map]; exact Nat.ble_eq_true_of_le hl, show (cs.map fun c => RV.a (tF c)) = (cs.map tF).map RV.a from by rw [List.map_map]; rfl, allA_map]
    rfl
  · exact plugC_at hc ne

noncomputable def tV : AV → AV
  | .vec k i a => .lst [k, i, match a with | .none => .lst [] | .dct [_] => besA 1 | _ => besA 2]
  | _ => .none
theorem tV_ok {t : Nat} {x : Nat × Nat × List AV} (hx : Xok t x) : tV (vecX x) = toldX x := by
  obtain ⟨a, r, l⟩ := x
  have ha : a < 3 := hx.a
  rcases c3 ha with rfl | rfl | rfl <;> rfl
noncomputable def retQ (q : Flw × Loc × Hp) : Option (RV × Hp) := match q.1 with
  | .ret v => some (v, q.2.2)
  | .next => none
noncomputable def retOf (o : Option (Flw × Loc × Hp)) : Option (RV × Hp) := o.bind retQ
theorem blockV (I : SIh G glob n ih) {r : List Stmt} {v : RV} (e : retOf (ih.exs sc loc hp r) = some (v, hp')) (p : ∀ l, P (.ret v) l hp') : ExsN G n k sc loc hp r P :=
  bs e fun q e1 e2 => by
    obtain ⟨f, l, h⟩ := q
    cases f with
    | next => exact nn e2
    | ret w => exact sp (P := fun v hp' => (∀ l, P (.ret v) l hp') → ExsN G n k sc loc hp r P) e2 (fun p => (I.exs e1).toN (p _)) p
theorem told_frame_k : tA 2 (fun b => tA 3 (fun w => tA 4 (fun t => fun (cs : AV) (ts : AV) => retOf ((run cfg2 60).exs f94.1.names (aset "inside" (.a ts) [("v", .a (.vec (.str "list") cs (frA (w + 1) t b)))]) [] sT.1.2)))) =
    tB 2 (fun b => tB 3 (fun w => tB 4 (fun t => fun cs ts => some (.r 0, [.lst [.a (.str "list"), .a ts, .a (besF (w + 1) t b)]])))) := by kernel_rfl
theorem told_frame (Z : Env0 G K fI glob mg mb cfg2 N) (I : SIh G glob n (run cfg2 60)) (nN : N ≤ n) {w t b : Nat} (hw : 1 ≤ w ∧ w ≤ 3) (ht : t ≤ 3) (hb : b < 2) {xs : List (Nat × Nat × List AV)} (hl : xs.length = w) (hx : ∀ x ∈ xs, Xok t x) : ClAt G glob (n + 1) "_law_told" [.a (dfV w t b (xs.map vecX))] hp (.a (toldF w t b (xs.map toldX))) hp := by
  obtain ⟨w, rfl⟩ := pred_of hw.1
  refine clFocus false rfl rfl (os := []) (rv0 := .r 0) (hp0 := [.lst [.a (.str "list"), .a (.lst (xs.map toldX)), .a (besF (w + 1) t b)]]) (clN Z (d := f94.1) (by kernel_rfl) (by kernel_rfl) (by kernel_rfl) ?_) (by kernel_rfl)
  have I1 : SIh G glob n (run cfg2 60) := I
  have hm : (xs.map vecX).map tV = xs.map toldX := by
    rw [List.map_map]
    exact List.map_congr_left fun x h => tV_ok (hx x h)
  rw [sT.2]
  refine ExsN.cons (ExAt.toN (asgN Z (rv := .a (.lst (xs.map toldX))) (hp' := []) (evIfN Z nN (I.tr (by kernel_rfl)) ?_ (by kernel_rfl)) rfl (by kernel_rfl) rfl) ?_)
  · rw [← hm]
    refine evComp Z nN (I.ev (by kernel_rfl)) (fun c hc => ?_) (by kernel_rfl) (fun z => by cases z) (by rw [List.length_map, hl]; exact Nat.le_trans hw.2 (by decide)) (by kernel_rfl)
    obtain ⟨x, hxx, rfl⟩ := List.mem_map.mp hc
    rw [tV_ok (hx x hxx)]
    exact evCallN Z I (by kernel_rfl) (by kernel_rfl) (told_col I ht (hx x hxx)) (Nat.le_refl _)
  · unfold dfV
    generalize AV.lst (xs.map vecX) = cs
    generalize AV.lst (xs.map toldX) = ts
    exact blockV I (cg2 (tab (tab (tab told_frame_k hb) (Nat.lt_of_succ_le hw.2)) (lts ht)) cs ts) fun l => ⟨rfl, rfl⟩
end
end Mine
end
section
open PySem PySem.W PyProof.Rows PySem.Calls
set_option maxRecDepth 100000
set_option maxHeartbeats 0
namespace Mine

noncomputable def pS : Sc := f88.1.names
noncomputable def ppB : List Stmt := f88.1.body
noncomputable def cS : Sc := f86.1.names
noncomputable def cB : List Stmt := f86.1.body
noncomputable def pL (col pl va : AV) (r : Loc) : Loc := ("column", .a col) :: ("places", .a pl) :: ("value", .a va) :: ("notes", .r 0) :: r
noncomputable def nmK : List Str := ["column", "places", "notes", "kind", "items"]
noncomputable def pK (col pl kd its : AV) : Loc := [("column", .a col), ("places", .a pl), ("notes", .r 0), ("kind", .a kd), ("items", .a its)]
noncomputable def nmM : List Str := ["places", "items", "made"]
noncomputable def pM (pl its : AV) : Loc := [("places", .a pl), ("items", .a its), ("made", .r 2)]
noncomputable def msg : AV := .str "invalid factor level, NA generated"
noncomputable def reps (q : Nat) : List AV := List.replicate q msg
noncomputable def sP : { q : (Expr × (Pos × Expr × Pos) × (Pos × (Pos × List Expr × Pos) × Pos)) × List Stmt × Pos × List Stmt // ppB = .If q.1.1 [.Assign [.Name "kind" q.1.2.1.1] q.1.2.1.2.1 q.1.2.1.2.2, .Assign [.Name "items" q.1.2.2.1] (.Call (.Name "factor_codes" q.1.2.2.2.1.1) q.1.2.2.2.1.2.1 [] q.1.2.2.2.1.2.2) q.1.2.2.2.2] q.2.1 q.2.2.1 :: q.2.2.2 } := ⟨((_, (_, _, _), (_, (_, _, _), _)), _, _, _), by rfl⟩

noncomputable def okU (a r : Nat) : Bool := !Nat.beq a 1 || Nat.ble 1 r
theorem okU_of {a r : Nat} (u : a = 1 → 1 ≤ r) : okU a r = true := by
  unfold okU
  simp only [Bool.or_eq_true, Bool.not_eq_true', Nat.ble_eq]
  by_cases z : a = 1
  · exact .inr (u z)
  · exact .inl (Bool.eq_false_iff.mpr fun e => z (Nat.eq_of_beq_eq_true e))

section
variable {G : Gnd} {glob : Str → Option Addr} {n N k m : Nat} {ih : Ih} {A : Around} {E : Value → Shared → Prop} {s : Shared} {env : Env} {W W' F F0 F' T : List Addr} {ad ad0 ad1 ad' ad'' : Ad} {hp hp' hp1 hp2 hp'' : Hp} {h h' h'' : Heap} {scope : Scope} {x : Str} {sc sc' : Sc} {loc loc' loc0 loc1 : Loc} {X X' : Addr → Prop}
variable {K : Frag} {fI : Addr} {mg mb : Str → Option Value} {cfg : Cfg} {P P' : MPost} {st : Stmt} {r : List Stmt}

/-- the kind and the items, a plain column -/
theorem put1n_k : tA 2 (fun a => tA 4 (fun r => tA 4 (fun fs => tA 3 (fun q => fun (d : Nat → Nat) (il : AV) (pl : AV) => cond (okU a r) (fin nmK 1 ((run cfg2 60).exs pS (pL (.vec (.str (kstr r)) il (attr a)) pl (vecC 0 (rk fs) ((tk (q + 1) d).map fun d => .item (lA fs) d)) []) [.dead] (ppB.take 1))) none)))) =
    tB 2 (fun a => tB 4 (fun r => tB 4 (fun fs => tB 3 (fun q => fun d il pl => cond (okU a r) (some (pK (.vec (.str (kstr r)) il (attr a)) pl (.str (kstr (mx r (rk fs)))) (.lst ((tk (q + 1) d).map fun d => .item (cvL (rk fs) (mx r (rk fs))) d)), [.dead])) none)))) := by kernel_rfl
theorem put1n (I : SIh G glob n (run cfg2 60)) {a r fs q : Nat} (ha : a < 2) (hr : r < 4) (hu : a = 1 → 1 ≤ r) (hf : fs < 4) (hq : q ≤ 3) (hn : q ≠ 0) {cd : List Nat} (hcd : cd.length = q) {il pl : AV}
    (p : P .next (pK (.vec (.str (kstr r)) il (attr a)) pl (.str (kstr (mx r (rk fs)))) (.lst (cd.map fun d => .item (cvL (rk fs) (mx r (rk fs))) d))) [.dead]) :
    ExsN G n 1 pS (pL (.vec (.str (kstr r)) il (attr a)) pl (vecC 0 (rk fs) (cd.map fun d => .item (lA fs) d)) []) [.dead] (ppB.take 1) P := by
  obtain ⟨q, rfl⟩ := pred_of (Nat.pos_of_ne_zero hn)
  obtain ⟨d, rfl⟩ := tk_of hcd
  exact block I (names := nmK) 1 (by decide) (ofc (cg3 (tab (tab (tab (tab put1n_k ha) hr) hf) hq) d il pl) (okU_of hu)) p
/-- the codes, up to the note -/
noncomputable def cAA (fs : Nat) := tA 3 (fun q => tA (3 ^ (q + 1)) (fun c => fun (e : Nat → Nat) (il : AV) (nl : List RV) => fin ["notes", "codes", "bad"] 2 ((run cfg2 60).exs cS [("column", .a (.vec (.str (kstr 1)) il (attr 2))), ("value", .a (vecC 0 (rk fs) ((kz (digs 3 (q + 1) c) e).map (clA fs)))), ("notes", .r 0)] [.lst nl] (cB.take 4))))
noncomputable def cAB (fs : Nat) := tB 3 (fun q => tB (3 ^ (q + 1)) (fun c => fun (e : Nat → Nat) (_ : AV) (nl : List RV) => (some ([("notes", .r 0), ("codes", .r 1), ("bad", .a (.bool (anyK (kz (digs 3 (q + 1) c) e))))], [.lst nl, .lst ((kz (digs 3 (q + 1) c) e).map fun k => .a (codeK fs k))]) : Option (Loc × Hp))))
theorem cA_0 : cAA 0 = cAB 0 := by kernel_rfl
theorem cA_1 : cAA 1 = cAB 1 := by kernel_rfl
theorem cA_2 : cAA 2 = cAB 2 := by kernel_rfl
theorem cA_3 : cAA 3 = cAB 3 := by kernel_rfl
theorem codesA_k {fs : Nat} (h : fs < 4) : cAA fs = cAB fs := by
  rcases c4 h with rfl | rfl | rfl | rfl
  · exact cA_0
  · exact cA_1
  · exact cA_2
  · exact cA_3
theorem codesA (I : SIh G glob n (run cfg2 60)) {fs q : Nat} (hf : fs < 4) (hq : q ≤ 3) (hn : q ≠ 0) {ks : List (Nat × Nat)} (hk : ks.length = q) (hc : ∀ p ∈ ks, p.1 < 3) {il : AV} {nl : List RV}
    (p : P .next [("notes", .r 0), ("codes", .r 1), ("bad", .a (.bool (anyK ks)))] [.lst nl, .lst (ks.map fun k => .a (codeK fs k))]) :
    ExsN G n 1 cS [("column", .a (.vec (.str (kstr 1)) il (attr 2))), ("value", .a (vecC 0 (rk fs) (ks.map (clA fs)))), ("notes", .r 0)] [.lst nl] (cB.take 4) P := by
  obtain ⟨q, rfl⟩ := pred_of (Nat.pos_of_ne_zero hn)
  obtain ⟨c, hk', e, rfl⟩ := kz_of hk hc
  exact block I (names := ["notes", "codes", "bad"]) 2 (by decide) (cg3 (tab (tab (codesA_k hf) hq) hk') e il nl) p
theorem codesB (I : SIh G glob n (run cfg2 60)) {b : Bool} {q : Nat} (hq : q ≤ 2) {cl : List RV} (p : ∀ l, P (.ret (.r 1)) l [.lst ((reps (q + match b with | true => 1 | false => 0)).map RV.a), .lst cl]) :
    ExsN G n 1 cS [("notes", .r 0), ("codes", .r 1), ("bad", .a (.bool b))] [.lst ((reps q).map RV.a), .lst cl] (cB.drop 4) P := by
  have hq' : q = 0 ∨ q = 1 ∨ q = 2 := by (first | lia | omega)
  rcases hq' with rfl | rfl | rfl <;> cases b
  all_goals exact blockV I (by kernel_rfl) p
/-- made -/
theorem put2_k : tA 4 (fun t => tA 2 (fun a => tA 4 (fun r => fun (l : Nat → AV) (pl : AV) (its : AV) => cond (okU a r) (fin nmM 3 ((run cfg2 60).exs pS (pK (vecC a r (tk t l)) pl (.str (kstr r)) its) [.dead] ((ppB.drop 1).take 1))) none))) =
    tB 4 (fun t => tB 2 (fun a => tB 4 (fun r => fun l pl its => cond (okU a r) (some (pM pl its, [.dead, .lst ((tk t l).map RV.a), .inst (.a (.str (kstr r))) (.r 1) (.a (attr a))])) none))) := by kernel_rfl
theorem put2 (I : SIh G glob n (run cfg2 60)) {a r t : Nat} (ht : t ≤ 3) (ha : a < 2) (hr : r < 4) (hu : a = 1 → 1 ≤ r) {l : List AV} (hl : l.length = t) {pl its : AV}
    (p : P .next (pM pl its) [.dead, .lst (l.map RV.a), .inst (.a (.str (kstr r))) (.r 1) (.a (attr a))]) :
    ExsN G n 1 pS (pK (vecC a r l) pl (.str (kstr r)) its) [.dead] ((ppB.drop 1).take 1) P := by
  obtain ⟨f, rfl⟩ := tk_of hl
  exact block I (names := nmM) 3 (by decide) (ofc (cg3 (tab (tab (tab put2_k (lts ht)) ha) hr) f pl its) (okU_of hu)) p
theorem put2c_k : tA 4 (fun t => tA 2 (fun a => tA 4 (fun m => tA (m) (fun r => fun (d : Nat → Nat) (pl : AV) (its : AV) => cond (okU a r) (fin nmM 3 ((run cfg2 60).exs pS (pK (vecC a r ((tk t d).map fun d => .item (cvL r r) d)) pl (.str (kstr m)) its) [.dead] ((ppB.drop 1).take 1))) none)))) =
    tB 4 (fun t => tB 2 (fun a => tB 4 (fun m => tB (m) (fun r => fun d pl its => cond (okU a r) (some (pM pl its, [.dead, .lst (((tk t d).map fun d => AV.item (cvL r m) d).map RV.a), .inst (.a (.str (kstr m))) (.r 1) (.a (attr a))])) none)))) := by kernel_rfl
theorem put2c (I : SIh G glob n (run cfg2 60)) {a r m t : Nat} (ht : t ≤ 3) (ha : a < 2) (hm : m < 4) (hrm : r < m) (hu : a = 1 → 1 ≤ r) {ds : List Nat} (hl : ds.length = t) {pl its : AV}
    (p : P .next (pM pl its) [.dead, .lst ((ds.map fun d => AV.item (cvL r m) d).map RV.a), .inst (.a (.str (kstr m))) (.r 1) (.a (attr a))]) :
    ExsN G n 1 pS (pK (vecC a r (ds.map fun d => .item (cvL r r) d)) pl (.str (kstr m)) its) [.dead] ((ppB.drop 1).take 1) P := by
  obtain ⟨d, rfl⟩ := tk_of hl
  exact block I (names := nmM) 3 (by decide) (ofc (cg3 (tab (tab (tab (tab put2c_k (lts ht)) ha) hm) hrm) d pl its) (okU_of hu)) p
theorem put2f_k : tA 4 (fun t => tA 4 (fun q => fun (l : Nat → AV) (pl : AV) (its : AV) => fin nmM 3 ((run cfg2 60).exs pS (pK (vecC 2 1 (tk t l)) pl (.str (kstr 1)) its) [.lst ((reps q).map RV.a)] ((ppB.drop 1).take 1)))) =
    tB 4 (fun t => tB 4 (fun q => fun l pl its => some (pM pl its, [.lst ((reps q).map RV.a), .lst ((tk t l).map RV.a), .inst (.a (.str (kstr 1))) (.r 1) (.a (attr 2))]))) := by kernel_rfl
theorem put2f (I : SIh G glob n (run cfg2 60)) {t q : Nat} (ht : t ≤ 3) (hq : q ≤ 3) {l : List AV} (hl : l.length = t) {pl its : AV}
    (p : P .next (pM pl its) [.lst ((reps q).map RV.a), .lst (l.map RV.a), .inst (.a (.str (kstr 1))) (.r 1) (.a (attr 2))]) :
    ExsN G n 1 pS (pK (vecC 2 1 l) pl (.str (kstr 1)) its) [.lst ((reps q).map RV.a)] ((ppB.drop 1).take 1) P := by
  obtain ⟨f, rfl⟩ := tk_of hl
  exact block I (names := nmM) 3 (by decide) (cg3 (tab (tab put2f_k (lts ht)) (lts hq)) f pl its) p
/-- the items go to their places -/
theorem put3_k : tA 4 (fun t => tA (2 ^ t) (fun b => fun (l : Nat → AV) (Y : Nat → AV) (kd : AV) (at_ : AV) (o : AO) => retOf ((run cfg2 60).exs pS (pM (.lst (hitL 0 (bits t b))) (.lst (tk (cntB (bits t b)) Y))) [o, .lst ((tk t l).map RV.a), .inst (.a kd) (.r 1) (.a at_)] (ppB.drop 2)))) =
    tB 4 (fun t => tB (2 ^ t) (fun b => fun l Y kd at_ o => some (RV.r 2, [o, AO.lst ((puts (tk t l) (bits t b) (tk (cntB (bits t b)) Y)).map RV.a), .inst (.a kd) (.r 1) (.a at_)]))) := by kernel_rfl
theorem put3 (I : SIh G glob n (run cfg2 60)) {t : Nat} (ht : t ≤ 3) {l its : List AV} {row : List Bool} (hl : l.length = t) (hr : row.length = t) (hi : its.length = cntB row) {kd at_ : AV} {o : AO}
    (p : ∀ lo, P (.ret (.r 2)) lo [o, .lst ((puts l row its).map RV.a), .inst (.a kd) (.r 1) (.a at_)]) :
    ExsN G n 1 pS (pM (.lst (hitL 0 row)) (.lst its)) [o, .lst (l.map RV.a), .inst (.a kd) (.r 1) (.a at_)] (ppB.drop 2) P := by
  obtain ⟨f, rfl⟩ := tk_of hl
  obtain ⟨b, hb, rfl⟩ := bits_of hr
  obtain ⟨Y, rfl⟩ := tk_of hi
  exact blockV I (cg5 (tab (tab put3_k (lts ht)) hb) f Y kd at_ o) p
end
end Mine
end
section
open PySem PySem.W PyProof.Rows PySem.Calls
set_option maxRecDepth 100000
set_option maxHeartbeats 0
namespace Mine

section
variable {G : Gnd} {glob : Str → Option Addr} {n N k m : Nat} {ih : Ih} {A : Around} {E : Value → Shared → Prop} {s : Shared} {env : Env} {W W' F F0 F' T : List Addr} {ad ad0 ad1 ad' ad'' : Ad} {hp hp' hp1 hp2 hp'' : Hp} {h h' h'' : Heap} {scope : Scope} {x : Str} {sc sc' : Sc} {loc loc' loc0 loc1 : Loc} {X X' : Addr → Prop}
variable {K : Frag} {fI : Addr} {mg mb : Str → Option Value} {cfg : Cfg} {P P' : MPost} {st : Stmt} {r : List Stmt}

theorem pp_split : ppB = ppB.take 1 ++ ((ppB.drop 1).take 1 ++ ppB.drop 2) := by kernel_rfl
/-- a plain column -/
theorem put_plain (Z : Env0 G K fI glob mg mb cfg2 N) (I : SIh G glob n (run cfg2 60)) {a r fs t : Nat} (ha : a < 2) (hr : r < 4) (hu : a = 1 → 1 ≤ r) (hf : fs < 4) (ht : t ≤ 3) {row : List Bool} (hrow : row.length = t) (hn : cntB row ≠ 0) {cd : List Nat} (hcd : cd.length = cntB row) {l l' : List AV} (hl : l.length = t)
    (hl' : (r = mx r (rk fs) ∧ l' = l) ∨ ∃ ds : List Nat, l = ds.map (fun d => .item (cvL r r) d) ∧ l' = ds.map (fun d => .item (cvL r (mx r (rk fs))) d)) {j : Nat} :
    ClAt G glob (n + 1) "put_places" [.a (vecC a r l), .a (.lst (hitL 0 row)), .a (vecC 0 (rk fs) (cd.map fun d => .item (lA fs) d)), .r j] hp (.a (vecC a (mx r (rk fs)) (puts l' row (cd.map fun d => .item (cvL (rk fs) (mx r (rk fs))) d)))) hp := by
  have hq : cntB row ≤ 3 := Nat.le_trans (cnt_le row) (by (first | lia | omega))
  have hlen : l'.length = t := by
    rcases hl' with ⟨_, rfl⟩ | ⟨ds, rfl, rfl⟩
    · exact hl
    · rw [List.length_map] at hl ⊢; exact hl
  have hpl : (puts l' row (cd.map fun d => AV.item (cvL (rk fs) (mx r (rk fs))) d)).length = t := puts_len hlen hrow (by rw [List.length_map, hcd])
  have c : ClAt G glob (n + 1) "put_places" [.a (vecC a r l), .a (.lst (hitL 0 row)), .a (vecC 0 (rk fs) (cd.map fun d => .item (lA fs) d)), .r 0] [.dead] (.r 2) [.dead, .lst ((puts l' row (cd.map fun d => AV.item (cvL (rk fs) (mx r (rk fs))) d)).map RV.a), .inst (.a (.str (kstr (mx r (rk fs))))) (.r 1) (.a (attr a))] := by
    refine clN Z (d := f88.1) (by kernel_rfl) (by kernel_rfl) (by kernel_rfl) ?_
    show ExsN G n 1 pS (pL (vecC a r l) (.lst (hitL 0 row)) (vecC 0 (rk fs) (cd.map fun d => .item (lA fs) d)) []) [.dead] ppB _
    rw [pp_split]
    refine ExsN.append (put1n I ha hr hu hf hq hn hcd (ExsN.append ?_))
    show ExsN G n 1 pS (pK (vecC a r l) _ _ _) _ _ _
    have h3 : ExsN G n 1 pS (pM (.lst (hitL 0 row)) (.lst (cd.map fun d => AV.item (cvL (rk fs) (mx r (rk fs))) d))) [.dead, .lst (l'.map RV.a), .inst (.a (.str (kstr (mx r (rk fs))))) (.r 1) (.a (attr a))] (ppB.drop 2) (fun fl _ h => fl = .ret (.r 2) ∧ h = [.dead, .lst ((puts l' row (cd.map fun d => AV.item (cvL (rk fs) (mx r (rk fs))) d)).map RV.a), .inst (.a (.str (kstr (mx r (rk fs))))) (.r 1) (.a (attr a))]) :=
      put3 I ht hlen hrow (by rw [List.length_map, hcd]) fun _ => ⟨rfl, rfl⟩
    rcases hl' with ⟨e, rfl⟩ | ⟨ds, rfl, rfl⟩
    · rw [← e] at h3 ⊢
      exact put2 I ht ha hr hu hl h3
    · by_cases e : r = mx r (rk fs)
      · rw [← e] at h3 ⊢
        exact put2 I ht ha hr hu hl h3
      · have hm : r < mx r (rk fs) := by
          have : r ≤ mx r (rk fs) := by
            unfold mx
            split
            · rename_i z
              have : r < rk fs := by simpa [Nat.blt_eq] using z
              (first | lia | omega)
            · exact Nat.le_refl _
          (first | lia | omega)
        rw [List.length_map] at hl
        exact put2c I ht ha (mx_lt hr (rk_lt fs)) hm hu hl h3
  refine dead_sound (plugCl_ok c) ?_
  show ((plugCl "put_places" [.a (vecC a r l), .a (.lst (hitL 0 row)), .a (vecC 0 (rk fs) (cd.map fun d => .item (lA fs) d)), .r 0] [.dead] (.r 2, [.dead, .lst ((puts l' row (cd.map fun d => AV.item (cvL (rk fs) (mx r (rk fs))) d)).map RV.a), .inst (.a (.str (kstr (mx r (rk fs))))) (.r 1) (.a (attr a))])).cl "put_places" [.a (vecC a r l), .a (.lst (hitL 0 row)), .a (vecC 0 (rk fs) (cd.map fun d => .item (lA fs) d)), .r 0] [.dead]).bind _ = _
  rw [show (plugCl "put_places" [.a (vecC a r l), .a (.lst (hitL 0 row)), .a (vecC 0 (rk fs) (cd.map fun d => .item (lA fs) d)), .r 0] [.dead] (.r 2, [.dead, .lst ((puts l' row (cd.map fun d => AV.item (cvL (rk fs) (mx r (rk fs))) d)).map RV.a), .inst (.a (.str (kstr (mx r (rk fs))))) (.r 1) (.a (attr a))])).cl "put_places" [.a (vecC a r l), .a (.lst (hitL 0 row)), .a (vecC 0 (rk fs) (cd.map fun d => .item (lA fs) d)), .r 0] [.dead] = some (.r 2, [.dead, .lst ((puts l' row (cd.map fun d => AV.item (cvL (rk fs) (mx r (rk fs))) d)).map RV.a), .inst (.a (.str (kstr (mx r (rk fs))))) (.r 1) (.a (attr a))]) from if_pos ⟨rfl, rfl, rfl⟩]
  unfold vecC
  clear c
  generalize puts l' row (cd.map fun d => AV.item (cvL (rk fs) (mx r (rk fs))) d) = pl at hpl ⊢
  generalize AV.str (kstr (mx r (rk fs))) = kd
  generalize attr a = at_
  rcases len3 hpl ht with ⟨rfl, z1⟩ | ⟨_, rfl, z1⟩ | ⟨_, _, rfl, z1⟩ | ⟨_, _, _, rfl, z1⟩ <;> kernel_rfl

theorem ClAt.as {f : Str} {as as' : List RV} {rv : RV} (c : ClAt G glob n f as' hp rv hp') (q : ∀ (h : Heap) (X : Addr → Prop) (ad : Ad) (vs : List Value), RVRs G h X ad as vs → RVRs G h X ad as' vs) : ClAt G glob n f as hp rv hp' := by
  obtain ⟨fa, e, k⟩ := c
  exact ⟨fa, e, fun A E F ad s vs Q rm H ra qq => k A E F ad s vs Q rm H (q _ _ _ _ ra) qq⟩
theorem vec_map {α : Type} {f g : α → AV} {l : List α} {kd at_ : AV} (q : ∀ a ∈ l, ∀ v, AR G h X (f a) v → AR G h X (g a) v) {v : Value} (r : AR G h X (.vec kd (.lst (l.map f)) at_) v) : AR G h X (.vec kd (.lst (l.map g)) at_) v := by
  exact r.vecE fun p d D V => .vec V.e V.e' V.xx V.xd V.rk (lst_map q V.ri) V.ra
theorem codes_ok (Z : Env0 G K fI glob mg mb cfg2 N) (I : SIh G glob n (run cfg2 60)) {fs q q0 : Nat} (hf : fs < 4) (hq : q ≤ 3) (hn : q ≠ 0) (hq0 : q0 ≤ 2) {ks : List (Nat × Nat)} (hk : ks.length = q) (hc : ∀ p ∈ ks, p.1 < 3) {il : AV} :
    ClAt G glob (n + 1) "factor_codes" [.a (.vec (.str (kstr 1)) il (attr 2)), .a (vecC 0 (rk fs) (ks.map (clA fs))), .r 0] [.lst ((reps q0).map RV.a)] (.a (.lst (ks.map (codeK fs)))) [.lst ((reps (q0 + match anyK ks with | true => 1 | false => 0)).map RV.a)] := by
  have c : ClAt G glob (n + 1) "factor_codes" [.a (.vec (.str (kstr 1)) il (attr 2)), .a (vecC 0 (rk fs) (ks.map (clA fs))), .r 0] [.lst ((reps q0).map RV.a)] (.r 1) [.lst ((reps (q0 + match anyK ks with | true => 1 | false => 0)).map RV.a), .lst (ks.map fun k => .a (codeK fs k))] := by
    refine clN Z (d := f86.1) (by kernel_rfl) (by kernel_rfl) (by kernel_rfl) ?_
    show ExsN G n 1 cS [("column", .a (.vec (.str (kstr 1)) il (attr 2))), ("value", .a (vecC 0 (rk fs) (ks.map (clA fs)))), ("notes", .r 0)] _ cB _
    rw [show cB = cB.take 4 ++ cB.drop 4 from by kernel_rfl]
    exact ExsN.append (codesA I hf hq hn hk hc (codesB I hq0 fun _ => ⟨rfl, rfl⟩))
  have hq0' : q0 = 0 ∨ q0 = 1 ∨ q0 = 2 := by (first | lia | omega)
  refine clFocus false rfl ?_ c ?_
  · rcases hq0' with rfl | rfl | rfl <;> kernel_rfl
  · rw [show (ks.map fun k => RV.a (codeK fs k)) = (ks.map (codeK fs)).map RV.a from by rw [List.map_map]; rfl]
    have hk' : (ks.map (codeK fs)).length = q := by rw [List.length_map, hk]
    clear c
    generalize ks.map (codeK fs) = cl at hk' ⊢
    generalize anyK ks = b
    generalize vecC 0 (rk fs) (ks.map (clA fs)) = v0
    rcases len3 hk' hq with ⟨rfl, z1⟩ | ⟨_, rfl, z1⟩ | ⟨_, _, rfl, z1⟩ | ⟨_, _, _, rfl, z1⟩ <;> rcases hq0' with rfl | rfl | rfl <;> cases b <;> kernel_rfl
end
end Mine
end
section
open PySem PySem.W PyProof.Rows PySem.Calls
set_option maxRecDepth 100000
set_option maxHeartbeats 0
namespace Mine

section
variable {G : Gnd} {glob : Str → Option Addr} {n N k m : Nat} {ih : Ih} {A : Around} {E : Value → Shared → Prop} {s : Shared} {env : Env} {W W' F F0 F' T : List Addr} {ad ad0 ad1 ad' ad'' : Ad} {hp hp' hp1 hp2 hp'' : Hp} {h h' h'' : Heap} {scope : Scope} {x : Str} {sc sc' : Sc} {loc loc' loc0 loc1 : Loc} {X X' : Addr → Prop}
variable {K : Frag} {fI : Addr} {mg mb : Str → Option Value} {cfg : Cfg} {P P' : MPost} {st : Stmt} {r : List Stmt}

theorem SIh.up (I : SIh G glob n ih) (le : n ≤ m) : SIh G glob m ih where
  ev := fun e => (I.ev e).up le
  tr := fun e A E env F ad s Q rm => I.tr e A E env F ad s Q (rm.less le)
  ex := fun e => (I.ex e).up le
  exs := fun e A E env W F ad s Q rm => I.exs e A E env W F ad s Q (rm.less le)
  cl := fun e => (I.cl e).up le
theorem rvrs4 {f g : RV} {a b d : RV} (q : ∀ v, RVR G h X ad f v → RVR G h X ad g v) {vs : List Value} (r : RVRs G h X ad [a, b, f, d] vs) : RVRs G h X ad [a, b, g, d] vs :=
  All2.consE (P := fun vs => RVRs G h X ad [a, b, g, d] vs) r fun u m r1 rs => All2.consE (P := fun m => RVRs G h X ad [a, b, g, d] (u :: m)) rs fun u' m' r2 rs => All2.consE (P := fun m => RVRs G h X ad [a, b, g, d] (u :: u' :: m)) rs fun u'' m'' r3 rs => ⟨r1, r2, q _ r3, rs⟩
/-- a factor -/
theorem put_factor (Z : Env0 G K fI glob mg mb cfg2 N) (I : SIh G glob n (run cfg2 60)) (hv : G.val = val) {fs t q0 : Nat} (hf : fs < 4) (ht : t ≤ 3) (hq0 : q0 ≤ 2) {row : List Bool} (hrow : row.length = t) (hn : cntB row ≠ 0) {cd : List Nat} (hcd : cd.length = cntB row) (h7 : ∀ d ∈ cd, d < 7) {l : List AV} (hl : l.length = t) {cl : List RV} :
    ClAt G glob (n + 2) "put_places" [.a (vecC 2 1 l), .a (.lst (hitL 0 row)), .a (vecC 0 (rk fs) (cd.map fun d => .item (lA fs) d)), .r 0] [.lst ((reps q0).map RV.a), .lst cl] (.a (vecC 2 1 (puts l row (cd.map (codeA fs))))) [.lst ((reps (q0 + match anyBad fs cd with | true => 1 | false => 0)).map RV.a), .lst cl] := by
  have hq : cntB row ≤ 3 := Nat.le_trans (cnt_le row) (by (first | lia | omega))
  have hq0' : q0 = 0 ∨ q0 = 1 ∨ q0 = 2 := by (first | lia | omega)
  have I1 := SIh.up I (Nat.le_succ n)
  have ec : cd.map (codeA fs) = (cd.map (kk fs)).map (codeK fs) := by
    rw [List.map_map]; exact List.map_congr_left fun e _ => code_cls
  rw [ec, any_cls]
  have hk : (cd.map (kk fs)).length = cntB row := by rw [List.length_map, hcd]
  have hc : ∀ p ∈ cd.map (kk fs), p.1 < 3 := fun p hp => by
    obtain ⟨e, _, rfl⟩ := List.mem_map.mp hp
    exact cls_lt
  have hpl : (puts l row ((cd.map (kk fs)).map (codeK fs))).length = t := puts_len hl hrow (by rw [List.length_map, hk])
  have c : ClAt G glob (n + 2) "put_places" [.a (vecC 2 1 l), .a (.lst (hitL 0 row)), .a (vecC 0 (rk fs) ((cd.map (kk fs)).map (clA fs))), .r 0] [.lst ((reps q0).map RV.a)] (.r 2) [.lst ((reps (q0 + match anyK (cd.map (kk fs)) with | true => 1 | false => 0)).map RV.a), .lst ((puts l row ((cd.map (kk fs)).map (codeK fs))).map RV.a), .inst (.a (.str (kstr 1))) (.r 1) (.a (attr 2))] := by
    generalize cd.map (kk fs) = ks at hk hc hpl
    refine clN Z (d := f88.1) (by kernel_rfl) (by kernel_rfl) (by kernel_rfl) ?_
    show ExsN G (n + 1) 1 pS (pL (vecC 2 1 l) (.lst (hitL 0 row)) (vecC 0 (rk fs) (ks.map (clA fs))) []) [.lst ((reps q0).map RV.a)] ppB _
    rw [sP.2]
    have rest : sP.1.2.2.2 = (ppB.drop 1).take 1 ++ ppB.drop 2 := by kernel_rfl
    refine ExsN.cons (ifN I1 (c := true) (hp1 := [.lst ((reps q0).map RV.a)]) ?_ ?_)
    · rcases hq0' with rfl | rfl | rfl <;> kernel_rfl
    dsimp only
    refine ExsN.cons (block1 I1 (names := ["column", "places", "value", "notes", "kind"]) (loc' := pL (vecC 2 1 l) (.lst (hitL 0 row)) (vecC 0 (rk fs) (ks.map (clA fs))) [("kind", .a (.str (kstr 1)))]) (hp' := [.lst ((reps q0).map RV.a)]) 1 (by decide) (by rcases hq0' with rfl | rfl | rfl <;> kernel_rfl) ?_)
    dsimp only
    refine ExsN.cons (ExAt.toN (asgN Z (evCallN Z I1 (rs := [.a (vecC 2 1 l), .a (vecC 0 (rk fs) (ks.map (clA fs))), .r 0]) (by kernel_rfl) (by kernel_rfl) (codes_ok Z I hf hq hn hq0 hk hc) (Nat.le_refl _)) rfl (by kernel_rfl) rfl) ?_)
    refine ExsN.nil ?_
    rw [rest]
    have bl : (q0 + match anyK ks with | true => 1 | false => 0) ≤ 3 := by cases anyK ks <;> dsimp only <;> (first | lia | omega)
    generalize (q0 + match anyK ks with | true => 1 | false => 0) = q1 at bl ⊢
    have b4 : q1 = 0 ∨ q1 = 1 ∨ q1 = 2 ∨ q1 = 3 := by (first | lia | omega)
    refine ExsN.pre (Cv.fin (names := nmK) (m := 1) (Nat.le_refl _) (by kernel_rfl) (by rcases b4 with rfl | rfl | rfl | rfl <;> kernel_rfl)) ?_
    show ExsN G (n + 1) 1 pS (pK (vecC 2 1 l) (.lst (hitL 0 row)) (.str (kstr 1)) (.lst (ks.map (codeK fs)))) [.lst ((reps q1).map RV.a)] _ _
    exact ExsN.append (put2f I1 ht bl hl (put3 I1 ht hl hrow (by rw [List.length_map, hk]) fun _ => ⟨rfl, rfl⟩))
  refine clFocus (os := [.lst ((reps q0).map RV.a)]) false rfl ?_ (ClAt.as (as' := [.a (vecC 2 1 l), .a (.lst (hitL 0 row)), .a (vecC 0 (rk fs) ((cd.map (kk fs)).map (clA fs))), .r 0]) c fun h X ad vs r => rvrs4 (fun v r => ?_) r) ?_
  · rcases hq0' with rfl | rfl | rfl <;> kernel_rfl
  · rw [List.map_map]
    exact vec_map (fun e he v r => clA_ar hv hf (h7 e he) r) r
  · clear c
    have bl : (q0 + match anyK (cd.map (kk fs)) with | true => 1 | false => 0) ≤ 3 := by cases anyK (cd.map (kk fs)) <;> dsimp only <;> (first | lia | omega)
    generalize (q0 + match anyK (cd.map (kk fs)) with | true => 1 | false => 0) = q1 at bl ⊢
    have b4 : q1 = 0 ∨ q1 = 1 ∨ q1 = 2 ∨ q1 = 3 := by (first | lia | omega)
    generalize puts l row ((cd.map (kk fs)).map (codeK fs)) = pl at hpl ⊢
    generalize vecC 0 (rk fs) (cd.map fun d => .item (lA fs) d) = v0
    rcases len3 hpl ht with ⟨rfl, z1⟩ | ⟨_, rfl, z1⟩ | ⟨_, _, rfl, z1⟩ | ⟨_, _, _, rfl, z1⟩ <;> rcases b4 with rfl | rfl | rfl | rfl <;> rcases hq0' with rfl | rfl | rfl <;> kernel_rfl
end
end Mine
end
section
open PySem PySem.W PyProof.Rows PySem.Calls
set_option maxRecDepth 100000
set_option maxHeartbeats 0
namespace Mine

noncomputable def aS : Sc := f90.1.names
noncomputable def aB : List Stmt := f90.1.body
noncomputable def s4a : { q : Pos × Expr × List Stmt × Pos // (aB.drop 4).take 1 = [.For (.Name "place" q.1) q.2.1 q.2.2.1 [] q.2.2.2] } := ⟨(_, _, _, _), by rfl⟩
noncomputable def aF : List Stmt := s4a.1.2.2.1
noncomputable def sIf : { q : (Expr × List Stmt × Pos) × (Pos × (Pos × List Expr × Pos) × Pos) // (aF.drop 4).take 1 = [.If q.1.1 (q.1.2.1 ++ [.Assign [.Name "column" q.2.1] (.Call (.Name "put_places" q.2.2.1.1) q.2.2.1.2.1 [] q.2.2.1.2.2) q.2.2.2]) [] q.1.2.2] } := ⟨((_, [_], _), (_, (_, _, _), _)), by rfl⟩
noncomputable def aL0 (df ix va : AV) (r : Loc) : Loc := ("df", .a df) :: ("ix", .a ix) :: ("value", .a va) :: ("notes", .r 0) :: r
noncomputable def agL (df ix va rows us : AV) (r : Loc) : Loc := aL0 df ix va (("rows", .a rows) :: ("columns", .r 1) :: ("used", .a us) :: r)
noncomputable def nmF : List Str := ["df", "ix", "value", "notes", "rows", "columns", "used"]
noncomputable def nmG : List Str := nmF ++ (["places", "column"] : List Str)
noncomputable def nmH : List Str := nmG ++ (["items"] : List Str)
noncomputable def sumN : List Nat → Nat
  | [] => 0
  | a :: l => a + sumN l

section
variable {G : Gnd} {glob : Str → Option Addr} {n N k m : Nat} {ih : Ih} {A : Around} {E : Value → Shared → Prop} {s : Shared} {env : Env} {W W' F F0 F' T : List Addr} {ad ad0 ad1 ad' ad'' : Ad} {hp hp' hp1 hp2 hp'' : Hp} {h h' h'' : Heap} {scope : Scope} {x : Str} {sc sc' : Sc} {loc loc' loc0 loc1 : Loc} {X X' : Addr → Prop}
variable {K : Frag} {fI : Addr} {mg mb : Str → Option Value} {cfg : Cfg} {P P' : MPost} {st : Stmt} {r : List Stmt}

theorem asg0_k : tA 2 (fun b => tA 3 (fun w => tA 4 (fun t => fun (cs : List AV) (ix : AV) (va : AV) (nl : List RV) => fin ["df", "ix", "value", "notes", "rows"] 1 ((run cfg2 60).exs aS (aL0 (dfV (w + 1) t b cs) ix va []) [.lst nl] (aB.take 1))))) =
    tB 2 (fun b => tB 3 (fun w => tB 4 (fun t => fun cs ix va nl => some (aL0 (dfV (w + 1) t b cs) ix va [("rows", .a (.int t))], [.lst nl])))) := by kernel_rfl
theorem asg0 (I : SIh G glob n (run cfg2 60)) {w t b : Nat} (hw : 1 ≤ w ∧ w ≤ 3) (ht : t ≤ 3) (hb : b < 2) {cs : List AV} {ix va : AV} {nl : List RV} (p : P .next (aL0 (dfV w t b cs) ix va [("rows", .a (.int t))]) [.lst nl]) :
    ExsN G n 1 aS (aL0 (dfV w t b cs) ix va []) [.lst nl] (aB.take 1) P := by
  obtain ⟨w, rfl⟩ := pred_of hw.1
  exact block I (names := ["df", "ix", "value", "notes", "rows"]) 1 (by decide) (cg4 (tab (tab (tab asg0_k hb) (Nat.lt_of_succ_le hw.2)) (lts ht)) cs ix va nl) p
theorem asg1_k : tA 9 (fun z => tA 4 (fun r => fun (l : Nat → AV) (df : AV) (ix : AV) (rows : AV) (nl : List RV) => fin nmF 2 ((run cfg2 60).exs aS (aL0 df ix (vecC 0 r (tk (z + 1) l)) [("rows", .a rows)]) [.lst nl] ((aB.drop 1).take 3)))) =
    tB 9 (fun z => tB 4 (fun r => fun l df ix rows nl => some (agL df ix (vecC 0 r (tk (z + 1) l)) rows (.int 0) [], [.lst nl, .lst []]))) := by kernel_rfl
theorem asg1 (I : SIh G glob n (run cfg2 60)) {r : Nat} (hr : r < 4) {l : List AV} (hl : 1 ≤ l.length ∧ l.length ≤ 9) {df ix rows : AV} {nl : List RV} (p : P .next (agL df ix (vecC 0 r l) rows (.int 0) []) [.lst nl, .lst []]) :
    ExsN G n 1 aS (aL0 df ix (vecC 0 r l) [("rows", .a rows)]) [.lst nl] ((aB.drop 1).take 3) P := by
  obtain ⟨z, hz⟩ := pred_of hl.1
  obtain ⟨f, rfl⟩ := tk_of hz
  exact block I (names := nmF) 2 (by decide) (cg5 (tab (tab asg1_k (by rw [hz] at hl; exact Nat.lt_of_succ_le hl.2)) hr) f df ix rows nl) p
theorem asg2_k : tA 3 (fun i => tA 3 (fun j => tA 4 (fun t => tA (2 ^ t) (fun b => fun (x : Nat → AV) (X : Nat → AV) (Y : Nat → AV) (f : Nat → AV) (r : List AV) (l : Nat → List RV) => cond (Nat.ble (i + j) 2) (fin nmG 2 ((run cfg2 60).exs aS (aset "place" (.a (.int (i : Nat))) (agL (.vec (x 2) (.lst (ins3 i f (x 5) r)) (x 3)) (.vec (.str "logical") (.lst (tk (i * t) X ++ ((bits t b).map bitA ++ tk (j * t) Y))) (x 4)) (x 0) (.int t) (x 1) [])) [.lst (l 0), .lst (l 1)] (aF.take 4))) none)))) =
    tB 3 (fun i => tB 3 (fun j => tB 4 (fun t => tB (2 ^ t) (fun b => fun x X Y f r l => cond (Nat.ble (i + j) 2) (some (agL (.vec (x 2) (.lst (ins3 i f (x 5) r)) (x 3)) (.vec (.str "logical") (.lst (tk (i * t) X ++ ((bits t b).map bitA ++ tk (j * t) Y))) (x 4)) (x 0) (.int t) (x 1) [("places", .a (.lst (hitL 0 (bits t b)))), ("column", .a (x 5))], [.lst (l 0), .lst (l 1)])) none)))) := by kernel_rfl
theorem asg2 (I : SIh G glob n (run cfg2 60)) {w t i : Nat} (hw : w ≤ 3) (hi : i < w) (ht : t ≤ 3) {xs ys : List AV} {row : List Bool} (hr : row.length = t) (hx : xs.length = i * t) (hy : ys.length = (w - 1 - i) * t) {cs : List AV} {col : AV} (ec : nth cs i = some col) {va us kd at1 at2 : AV} {nl cl : List RV}
    (p : P .next (agL (.vec kd (.lst cs) at1) (.vec (.str "logical") (.lst (xs ++ (row.map bitA ++ ys))) at2) va (.int t) us [("places", .a (.lst (hitL 0 row))), ("column", .a col)]) [.lst nl, .lst cl]) :
    ExsN G n 1 aS (aset "place" (.a (.int (i : Nat))) (agL (.vec kd (.lst cs) at1) (.vec (.str "logical") (.lst (xs ++ (row.map bitA ++ ys))) at2) va (.int t) us [])) [.lst nl, .lst cl] (aF.take 4) P := by
  have hj : i + (w - 1 - i) ≤ 2 := by (first | lia | omega)
  have hj3 : w - 1 - i < 3 := by (first | lia | omega)
  have hi3 : i < 3 := by (first | lia | omega)
  generalize w - 1 - i = j at hy hj hj3
  clear hw hi
  obtain ⟨b, hb, rfl⟩ := bits_of hr
  obtain ⟨X, rfl⟩ := tk_of hx
  obtain ⟨Y, rfl⟩ := tk_of hy
  obtain ⟨f, r, rfl⟩ := ins3_of ec hi3
  exact block I (names := nmG) 2 (by decide) (ofc (cg6 (tab (tab (tab (tab asg2_k hi3) hj3) (lts ht)) hb) (pk [va, us, kd, at1, at2, col]) X Y f r (pk [nl, cl])) (Nat.ble_eq_true_of_le hj)) p
theorem asg3z (I : SIh G glob n (run cfg2 60)) {df ix va rows us col : AV} {nl cl : List RV} (p : P .next (agL df ix va rows us [("places", .a (.lst [])), ("column", .a col)]) [.lst nl, .lst cl]) :
    ExsN G n 1 aS (agL df ix va rows us [("places", .a (.lst [])), ("column", .a col)]) [.lst nl, .lst cl] ((aF.drop 4).take 1) P :=
  block I (names := nmG) 2 (by decide) (by kernel_rfl) p
theorem asg3t_k : tA 3 (fun q => fun (x : Nat → AV) (h : Nat → AV) (hp : Hp) => (run cfg2 60).tr aS (agL (x 0) (x 1) (x 2) (x 3) (x 4) [("places", .a (.lst (tk (q + 1) h))), ("column", .a (x 5))]) hp sIf.1.1.1) =
    tB 3 (fun q => fun x h hp => some (true, hp)) := by kernel_rfl
theorem asg3t {df ix va rows us col : AV} {hs : List AV} {q : Nat} (hh : hs.length = q) (hq : q ≤ 3) (hn : q ≠ 0) : (run cfg2 60).tr aS (agL df ix va rows us [("places", .a (.lst hs)), ("column", .a col)]) hp sIf.1.1.1 = some (true, hp) := by
  obtain ⟨q, rfl⟩ := pred_of (Nat.pos_of_ne_zero hn)
  obtain ⟨h, rfl⟩ := tk_of hh
  exact (cg3 (tab asg3t_k hq) (pk [df, ix, va, rows, us, col]) h hp)
theorem asg3i_k : tA 9 (fun z => tA 7 (fun u => tA 3 (fun q => fun (x : Nat → AV) (ps : Nat → AV) (hs : Nat → AV) (l : Nat → List RV) => fin nmH 2 ((run cfg2 60).exs aS (agL (x 0) (x 1) (.vec (x 4) (.lst (tk (z + 1) ps)) (x 5)) (x 2) (.int (u : Nat)) [("places", .a (.lst (tk (q + 1) hs))), ("column", .a (x 3))]) [.lst (l 0), .lst (l 1)] sIf.1.1.2.1)))) =
    tB 9 (fun z => tB 7 (fun u => tB 3 (fun q => fun x ps hs l => some (agL (x 0) (x 1) (.vec (x 4) (.lst (tk (z + 1) ps)) (x 5)) (x 2) (.int (u : Nat)) [("places", .a (.lst (tk (q + 1) hs))), ("column", .a (x 3)), ("items", .a (.lst (cyc (tk (z + 1) ps) .none (z + 1) u (q + 1))))], [.lst (l 0), .lst (l 1)])))) := by kernel_rfl
theorem asg3i (I : SIh G glob n (run cfg2 60)) {z u q : Nat} (hz : 1 ≤ z ∧ z ≤ 9) (hu : u ≤ 6) (hq : q ≤ 3) (hn : q ≠ 0) {df ix rows col kd at_ : AV} {hs ps : List AV} (hh : hs.length = q) (hp : ps.length = z) {nl cl : List RV}
    (p : P .next (agL df ix (.vec kd (.lst ps) at_) rows (.int (u : Nat)) [("places", .a (.lst hs)), ("column", .a col), ("items", .a (.lst (cyc ps .none z u q)))]) [.lst nl, .lst cl]) :
    ExsN G n 1 aS (agL df ix (.vec kd (.lst ps) at_) rows (.int (u : Nat)) [("places", .a (.lst hs)), ("column", .a col)]) [.lst nl, .lst cl] sIf.1.1.2.1 P := by
  obtain ⟨q, rfl⟩ := pred_of (Nat.pos_of_ne_zero hn)
  obtain ⟨z, rfl⟩ := pred_of hz.1
  obtain ⟨f, rfl⟩ := tk_of hp
  obtain ⟨g, rfl⟩ := tk_of hh
  exact block I (names := nmH) 2 (by decide) (cg4 (tab (tab (tab asg3i_k (Nat.lt_of_succ_le hz.2)) (lts hu)) hq) (pk [df, ix, rows, col, kd, at_]) f g (pk [nl, cl])) p
theorem asg4_k : tA 3 (fun i => tA 4 (fun q => fun (x : Nat → AV) (u : Nat) (h : Nat → AV) (c : Nat → AV) (nl : List RV) => fin nmF 2 ((run cfg2 60).exs aS (agL (x 0) (x 1) (x 2) (x 3) (.int (u : Nat)) [("places", .a (.lst (tk q h))), ("column", .a (x 4))]) [.lst nl, .lst ((tk i c).map RV.a)] (aF.drop 5)))) =
    tB 3 (fun i => tB 4 (fun q => fun x u h c nl => some (agL (x 0) (x 1) (x 2) (x 3) (.int ((u + q : Nat) : Int)) [], [.lst nl, .lst ((tk i c ++ [(x 4)]).map RV.a)]))) := by kernel_rfl
theorem asg4 (I : SIh G glob n (run cfg2 60)) {i q u : Nat} (hi : i < 3) (hq : q ≤ 3) {df ix va rows col its : AV} {hs cs : List AV} (hh : hs.length = q) (hc : cs.length = i) {nl : List RV} (p : P .next (agL df ix va rows (.int ((u + q : Nat) : Int)) []) [.lst nl, .lst ((cs ++ [col]).map RV.a)]) :
    ExsN G n 1 aS (agL df ix va rows (.int (u : Nat)) [("places", .a (.lst hs)), ("column", .a col)]) [.lst nl, .lst (cs.map RV.a)] (aF.drop 5) P := by
  obtain ⟨h, rfl⟩ := tk_of hh
  obtain ⟨c, rfl⟩ := tk_of hc
  exact block I (names := nmF) 2 (by decide) (cg5 (tab (tab asg4_k hi) (lts hq)) (pk [df, ix, va, rows, col]) u h c nl) p
end
end Mine
end
section
open PySem PySem.W PyProof.Rows PySem.Calls
set_option maxRecDepth 100000
set_option maxHeartbeats 0
namespace Mine

noncomputable abbrev Xc := Nat × Nat × List AV
noncomputable def Put1 (G : Gnd) (glob : Str → Option Addr) (n fs : Nat) (fd : List Nat) (u : Nat) (x : Xc) (row : List Bool) (y : Xc) (a : Nat) : Prop :=
  (cntB row = 0 ∧ y = x ∧ a = 0) ∨ (cntB row ≠ 0 ∧ a ≤ 1 ∧ ∀ q0, q0 ≤ 2 → ∀ cl : List RV, ClAt G glob n "put_places" [.a (vecX x), .a (.lst (hitL 0 row)), .a (vecC 0 (rk fs) ((cyc fd 0 fd.length u (cntB row)).map fun d => .item (lA fs) d)), .r 0] [.lst ((reps q0).map RV.a), .lst cl] (.a (vecX y)) [.lst ((reps (q0 + a)).map RV.a), .lst cl])
noncomputable def usedR : List (List Bool) → Nat
  | [] => 0
  | r :: l => cntB r + usedR l

section
variable {G : Gnd} {glob : Str → Option Addr} {n N k m : Nat} {ih : Ih} {A : Around} {E : Value → Shared → Prop} {s : Shared} {env : Env} {W W' F F0 F' T : List Addr} {ad ad0 ad1 ad' ad'' : Ad} {hp hp' hp1 hp2 hp'' : Hp} {h h' h'' : Heap} {scope : Scope} {x : Str} {sc sc' : Sc} {loc loc' loc0 loc1 : Loc} {X X' : Addr → Prop}
variable {K : Frag} {fI : Addr} {mg mb : Str → Option Value} {cfg : Cfg} {P P' : MPost} {st : Stmt} {r : List Stmt}

theorem usedR_snoc {r : List Bool} : ∀ {l : List (List Bool)}, usedR (l ++ [r]) = usedR l + cntB r
  | [] => by show cntB r + 0 = 0 + cntB r; (first | lia | omega)
  | q :: l => by show cntB q + usedR (l ++ [r]) = cntB q + usedR l + cntB r; rw [usedR_snoc]; (first | lia | omega)
theorem sumN_snoc {a : Nat} : ∀ {l : List Nat}, sumN (l ++ [a]) = sumN l + a
  | [] => by show a + 0 = 0 + a; (first | lia | omega)
  | q :: l => by show q + sumN (l ++ [a]) = q + sumN l + a; rw [sumN_snoc]; (first | lia | omega)
theorem usedR_le {t : Nat} : ∀ {l : List (List Bool)}, (∀ r ∈ l, r.length = t) → usedR l ≤ l.length * t
  | [], _ => by simp [usedR]
  | r :: l, h => by
    have h1 := usedR_le (l := l) fun p hp => h p (.tail _ hp)
    have h2 := cnt_le r
    have h3 : r.length = t := h r (.head _)
    show cntB r + usedR l ≤ (l.length + 1) * t
    rw [Nat.succ_mul]
    (first | lia | omega)
theorem sumN_le : ∀ {l : List Nat}, (∀ a ∈ l, a ≤ 1) → sumN l ≤ l.length
  | [], _ => Nat.le_refl _
  | a :: l, h => by
    have h1 := sumN_le (l := l) fun p hp => h p (.tail _ hp)
    have h2 := h a (.head _)
    show a + sumN l ≤ l.length + 1
    (first | lia | omega)
theorem flat_len {t : Nat} : ∀ {bss : List (List Bool)}, (∀ r ∈ bss, r.length = t) → bss.flatten.length = bss.length * t
  | [], _ => by simp
  | r :: l, h => by
    rw [List.flatten_cons, List.length_append, flat_len (bss := l) fun r hr => h r (.tail _ hr), h r (.head _), List.length_cons, Nat.succ_mul, Nat.add_comm]
theorem flat_split2 : ∀ {bss : List (List Bool)} {i t : Nat} {r : List Bool}, nth bss i = some r → (∀ r ∈ bss, r.length = t) → ∃ xs ys : List Bool, bss.flatten = xs ++ (r ++ ys) ∧ xs.length = i * t ∧ ys.length = (bss.length - 1 - i) * t
  | _ :: l, 0, t, r, e, hr => by cases e; exact ⟨[], l.flatten, rfl, by rw [Nat.zero_mul]; rfl, flat_len fun r h => hr r (.tail _ h)⟩
  | q :: l, i + 1, t, r, e, hr => by
    obtain ⟨xs, ys, e1, e2, e3⟩ := flat_split2 (bss := l) e fun r hr' => hr r (.tail _ hr')
    refine ⟨q ++ xs, ys, by rw [List.flatten_cons, e1, List.append_assoc], by rw [List.length_append, e2, hr q (.head _), Nat.succ_mul, Nat.add_comm], ?_⟩
    rw [e3, List.length_cons, show l.length + 1 - 1 - (i + 1) = l.length - 1 - i by (first | lia | omega)]
  | [], _, _, _, e, _ => by cases e

theorem asg_body (Z : Env0 G K fI glob mg mb cfg2 N) (I : SIh G glob n (run cfg2 60)) {w t i fs u q : Nat} (hw : w ≤ 3) (hi : i < w) (ht : t ≤ 3) {xs : List Xc} {bss : List (List Bool)} {x y : Xc} {row : List Bool} {a : Nat} (hb : bss.length = w) (hr : ∀ r ∈ bss, r.length = t) (ex : nth xs i = some x) (er : nth bss i = some row)
    {fd : List Nat} (hz : 1 ≤ fd.length ∧ fd.length ≤ 9) (hu : u ≤ 6) (hq : q ≤ 2) (pu : Put1 G glob n fs fd u x row y a) {Ds : List AV} (hD : Ds.length = i) {b : Nat}
    (p : P .next (agL (dfV w t b (xs.map vecX)) (flV w t (bss.flatten.map bitA)) (vecC 0 (rk fs) (fd.map fun d => .item (lA fs) d)) (.int t) (.int ((u + cntB row : Nat) : Int)) []) [.lst ((reps (q + a)).map RV.a), .lst ((Ds ++ [vecX y]).map RV.a)]) :
    ExsN G n 1 aS (aset "place" (.a (.int (i : Nat))) (agL (dfV w t b (xs.map vecX)) (flV w t (bss.flatten.map bitA)) (vecC 0 (rk fs) (fd.map fun d => .item (lA fs) d)) (.int t) (.int (u : Nat)) [])) [.lst ((reps q).map RV.a), .lst (Ds.map RV.a)] aF P := by
  have hrt : row.length = t := hr row (nth_mem er)
  obtain ⟨l1, l2, e1, e2, e3⟩ := flat_split2 er hr
  have hq3 : cntB row ≤ 3 := Nat.le_trans (cnt_le row) (by (first | lia | omega))
  have tr : bss.flatten.map bitA = l1.map bitA ++ (row.map bitA ++ l2.map bitA) := by rw [e1, List.map_append, List.map_append]
  rw [tr] at p ⊢
  rw [show aF = aF.take 4 ++ ((aF.drop 4).take 1 ++ aF.drop 5) from by kernel_rfl]
  refine ExsN.append (asg2 I hw hi ht hrt (by rw [List.length_map, e2]) (by rw [List.length_map, e3, hb]) (nth_mapS ex) (ExsN.append ?_))
  rcases pu with ⟨h0, rfl, rfl⟩ | ⟨h0, ha, pc⟩
  · rw [h0] at p
    rw [hit_nil h0]
    exact asg3z I (asg4 (its := .none) (q := 0) I (by (first | lia | omega)) (by decide) rfl hD p)
  · rw [sIf.2]
    refine ExsN.cons (ifN I (asg3t (hit_len row 0) hq3 h0) ?_)
    dsimp only
    refine ExsN.append (asg3i I hz hu hq3 h0 (hit_len row 0) (List.length_map _) ?_)
    rw [cyc_map (f := fun d => AV.item (lA fs) d) (d := 0) (d' := .none) (ps := fd) rfl hz.1]
    refine ExsN.cons (ExAt.toN (asgN Z (evCallN Z I (rs := [.a (vecX x), .a (.lst (hitL 0 row)), .a (vecC 0 (rk fs) ((cyc fd 0 fd.length u (cntB row)).map fun d => .item (lA fs) d)), .r 0]) (by kernel_rfl) (by kernel_rfl) (pc q hq (Ds.map RV.a)) (Nat.le_refl _)) rfl (by kernel_rfl) rfl) ?_)
    refine ExsN.nil (ExsN.nil (ExsN.pre (Cv.fin (names := nmG) (m := 2) (by decide) (by kernel_rfl) (by kernel_rfl)) ?_))
    show ExsN G n 1 aS (agL (dfV w t b (xs.map vecX)) (flV w t (l1.map bitA ++ (row.map bitA ++ l2.map bitA))) (vecC 0 (rk fs) (fd.map fun d => .item (lA fs) d)) (.int t) (.int (u : Nat)) [("places", .a (.lst (hitL 0 row))), ("column", .a (vecX y))]) [.lst ((reps (q + a)).map RV.a), .lst (Ds.map RV.a)] (aF.drop 5) P
    exact asg4 (its := .none) I (by (first | lia | omega)) hq3 (hit_len row 0) hD p

theorem asg_e1_k : tA 3 (fun w => fun (x : Nat → AV) (c : Nat → AV) (hp : Hp) => (run cfg2 60).ev aS (agL (.vec (x 0) (.lst (tk (w + 1) c)) (x 1)) (x 2) (x 3) (x 4) (x 5) []) hp s4a.1.2.1) =
    tB 3 (fun w => fun x c hp => some (.a (.rng 0 (w + 1 : Nat)), hp)) := by kernel_rfl
theorem asg_e2_k : tA 3 (fun w => tA 4 (fun q => fun (x : Nat → AV) (c : Nat → AV) => fzNames [(false, "columns")] (agL (x 0) (x 1) (x 2) (x 3) (x 4) []) [.lst ((reps q).map RV.a), .lst ((tk (w + 1) c).map RV.a)])) =
    tB 3 (fun w => tB 4 (fun q => fun x c => some (aL0 (x 0) (x 1) (x 2) [("rows", .a (x 3)), ("columns", .a (.lst (tk (w + 1) c))), ("used", .a (x 4))], [AO.lst ((reps q).map RV.a), .dead]))) := by kernel_rfl
theorem asg_e3_k : tA 3 (fun w => tA 2 (fun b => tA 4 (fun t => fun (x : Nat → AV) (y : Nat → Xc) (o : AO) => retOf ((run cfg2 60).exs aS (aL0 (.vec (.str "list") (x 0) (frA (w + 1) t b)) (x 1) (x 2) [("rows", .a (.int t)), ("columns", .a (.lst ((tk (w + 1) y).map vecX))), ("used", .a (x 3))]) [o, .dead] (aB.drop 5))))) =
    tB 3 (fun w => tB 2 (fun b => tB 4 (fun t => fun x y o => some (.a (dfV (w + 1) t b ((tk (w + 1) y).map vecX)), [o, .dead])))) := by kernel_rfl
theorem asg (Z : Env0 G K fI glob mg mb cfg2 N) (I : SIh G glob n (run cfg2 60)) {w t fs b : Nat} (hw : 1 ≤ w ∧ w ≤ 3) (ht : t ≤ 3) (hb2 : b < 2) {xs ys : List Xc} {bss : List (List Bool)} {als : List Nat} (hx : xs.length = w) (hb : bss.length = w) (hy : ys.length = w) (ha : als.length = w) (hr : ∀ r ∈ bss, r.length = t)
    {fd : List Nat} (hz : 1 ≤ fd.length ∧ fd.length ≤ 9) (al1 : ∀ a ∈ als, a ≤ 1) (pu : ∀ i x row y a, nth xs i = some x → nth bss i = some row → nth ys i = some y → nth als i = some a → Put1 G glob n fs fd (usedR (bss.take i)) x row y a) :
    ClAt G glob (n + 1) "assign_flags" [.a (dfV w t b (xs.map vecX)), .a (flV w t (bss.flatten.map bitA)), .a (vecC 0 (rk fs) (fd.map fun d => .item (lA fs) d)), .r 0] [.lst []] (.a (dfV w t b (ys.map vecX))) [.lst ((reps (sumN als)).map RV.a), .dead] := by
  obtain ⟨w, rfl⟩ := pred_of hw.1
  have hw3 : w < 3 := Nat.lt_of_succ_le hw.2
  refine clN Z (d := f90.1) (by kernel_rfl) (by kernel_rfl) (by kernel_rfl) ?_
  show ExsN G n 1 aS (aL0 (dfV (w + 1) t b (xs.map vecX)) (flV (w + 1) t (bss.flatten.map bitA)) (vecC 0 (rk fs) (fd.map fun d => .item (lA fs) d)) []) [.lst []] aB _
  rw [show aB = aB.take 1 ++ ((aB.drop 1).take 3 ++ ((aB.drop 4).take 1 ++ aB.drop 5)) from by kernel_rfl]
  refine ExsN.append (asg0 I hw ht hb2 (ExsN.append (asg1 I (rk_lt fs) (by rw [List.length_map]; exact hz) (ExsN.append ?_))))
  rw [s4a.2]
  have sal : sumN als ≤ 3 := by have := sumN_le al1; (first | lia | omega)
  refine ExsN.cons ?_
  refine ExN.post (ExN.weaken (P := fun fl1 l h => match fl1 with | .next => l = agL (dfV (w + 1) t b (xs.map vecX)) (flV (w + 1) t (bss.flatten.map bitA)) (vecC 0 (rk fs) (fd.map fun d => .item (lA fs) d)) (.int t) (.int (usedR bss : Nat)) [] ∧ h = [.lst ((reps (sumN als)).map RV.a), .lst ((ys.map vecX).map RV.a)] | .ret _ => False) ?_ ?_)
  · have e1 : (run cfg2 60).ev aS (agL (dfV (w + 1) t b (xs.map vecX)) (flV (w + 1) t (bss.flatten.map bitA)) (vecC 0 (rk fs) (fd.map fun d => .item (lA fs) d)) (.int t) (.int 0) []) [.lst [], .lst []] s4a.1.2.1 = some (.a (.rng 0 (w + 1 : Nat)), [.lst [], .lst []]) := by
      obtain ⟨c, ec⟩ := tk_of (show (xs.map vecX).length = w + 1 by rw [List.length_map, hx])
      rw [ec]
      exact (cg3 (tab asg_e1_k hw3) (pk [.str "list", frA (w + 1) t b, flV (w + 1) t (bss.flatten.map bitA), vecC 0 (rk fs) (fd.map fun d => .item (lA fs) d), .int t, .int 0]) c _)
    have e2 : iterOf (.a (.rng 0 (w + 1 : Nat))) = some (intsFrom 0 (w + 1)) := by
      rcases c3 hw3 with rfl | rfl | rfl <;> rfl
    refine forN Z I (by kernel_rfl) (by kernel_rfl) e1 e2 (fun i l h => l = agL (dfV (w + 1) t b (xs.map vecX)) (flV (w + 1) t (bss.flatten.map bitA)) (vecC 0 (rk fs) (fd.map fun d => .item (lA fs) d)) (.int t) (.int (usedR (bss.take i) : Nat)) [] ∧ h = [.lst ((reps (sumN (als.take i))).map RV.a), .lst (((ys.take i).map vecX).map RV.a)]) ⟨rfl, rfl⟩ ?_ ?_
    · rintro i av l h ei ⟨rfl, rfl⟩
      have hi0 : i < w + 1 := by have := nth_lt ei; rw [intsFrom_len] at this; exact this
      have hi : i < 3 := by (first | lia | omega)
      have eav : av = .int (i : Nat) := by
        rcases c3 hw3 with rfl | rfl | rfl <;> rcases c3 hi with rfl | rfl | rfl <;> cases ei <;> rfl
      subst eav
      obtain ⟨x, ex⟩ := nth_some (l := xs) (i := i) (by (first | lia | omega))
      obtain ⟨row, er⟩ := nth_some (l := bss) (i := i) (by (first | lia | omega))
      obtain ⟨y, ey⟩ := nth_some (l := ys) (i := i) (by (first | lia | omega))
      obtain ⟨a, ea⟩ := nth_some (l := als) (i := i) (by (first | lia | omega))
      have hu : usedR (bss.take i) ≤ 6 := by
        have := usedR_le (t := t) (l := bss.take i) fun p hp => hr _ (List.mem_of_mem_take hp)
        have h2 : (bss.take i).length ≤ i := by rw [List.length_take]; exact Nat.min_le_left _ _
        have h3 : (bss.take i).length * t ≤ 2 * 3 := Nat.mul_le_mul (by (first | lia | omega)) ht
        (first | lia | omega)
      have hq : sumN (als.take i) ≤ 2 := by
        have := sumN_le (l := als.take i) fun p hp => al1 _ (List.mem_of_mem_take hp)
        have h2 : (als.take i).length ≤ i := by rw [List.length_take]; exact Nat.min_le_left _ _
        (first | lia | omega)
      refine asg_body Z I hw.2 hi0 ht hb hr ex er hz hu hq (pu i x row y a ex er ey ea) (by rw [List.length_map, List.length_take]; (first | lia | omega)) ?_
      dsimp only
      rw [take_snoc er, take_snoc ey, take_snoc ea, usedR_snoc, sumN_snoc]
      refine ⟨rfl, ?_⟩
      simp only [List.map_append]
      rfl
    · rintro l h ⟨rfl, rfl⟩
      rw [intsFrom_len, List.take_of_length_le (by (first | lia | omega)), List.take_of_length_le (by (first | lia | omega)), List.take_of_length_le (by (first | lia | omega))]
      exact ⟨rfl, rfl⟩
  · intro fl1 l h z
    cases fl1 with
    | ret _ => exact z.elim
    | next =>
      obtain ⟨rfl, rfl⟩ := z
      have hy' : (ys.map vecX).length = w + 1 := by rw [List.length_map, hy]
      refine ⟨_, _, Cv.fz (xs := [(false, "columns")]) (loc' := aL0 (dfV (w + 1) t b (xs.map vecX)) (flV (w + 1) t (bss.flatten.map bitA)) (vecC 0 (rk fs) (fd.map fun d => .item (lA fs) d)) [("rows", .a (.int t)), ("columns", .a (.lst (ys.map vecX))), ("used", .a (.int (usedR bss : Nat)))]) (hp' := [.lst ((reps (sumN als)).map RV.a), .dead]) ?_, ?_⟩
      · obtain ⟨c, ec⟩ := tk_of hy'
        rw [ec]
        exact (cg2 (tab (tab asg_e2_k hw3) (lts sal)) (pk [dfV (w + 1) t b (xs.map vecX), flV (w + 1) t (bss.flatten.map bitA), vecC 0 (rk fs) (fd.map fun d => .item (lA fs) d), .int t, .int (usedR bss : Nat)]) c)
      · refine ExsN.nil ?_
        clear pu hx hy'
        obtain ⟨y, rfl⟩ := tk_of hy
        exact blockV I (cg3 (tab (tab (tab asg_e3_k hw3) hb2) (lts ht)) (pk [.lst (xs.map vecX), flV (w + 1) t (bss.flatten.map bitA), vecC 0 (rk fs) (fd.map fun d => .item (lA fs) d), .int (usedR bss : Nat)]) y _) fun l => ⟨rfl, rfl⟩
end
end Mine
end
section
open PySem PySem.W PyProof.Rows PySem.Calls
set_option maxRecDepth 100000
set_option maxHeartbeats 0
namespace Mine

noncomputable def xC (c : Col) : Xc := (att c.1, rk c.1, c.2.map fun d => .item (lI c.1) d)
noncomputable def newX (fs : Nat) (c : Col) (r : List Bool) (cd : List Nat) : Xc := (att c.1, newR c r fs, newI c r fs cd)
noncomputable def asL (fs : Nat) (fd : List Nat) : Nat → List (Col × List Bool) → List Nat
  | _, [] => []
  | u, (c, r) :: l => alN c r fs (cyc fd 0 fd.length u (cntB r)) :: asL fs fd (u + cntB r) l

section
variable {G : Gnd} {glob : Str → Option Addr} {n N k m : Nat} {ih : Ih} {A : Around} {E : Value → Shared → Prop} {s : Shared} {env : Env} {W W' F F0 F' T : List Addr} {ad ad0 ad1 ad' ad'' : Ad} {hp hp' hp1 hp2 hp'' : Hp} {h h' h'' : Heap} {scope : Scope} {x : Str} {sc sc' : Sc} {loc loc' loc0 loc1 : Loc} {X X' : Addr → Prop}
variable {K : Frag} {fI : Addr} {mg mb : Str → Option Value} {cfg : Cfg} {P P' : MPost} {st : Stmt} {r : List Stmt}

theorem colV_x (c : Col) : colV c = vecX (xC c) := rfl
theorem cols_x (l : List Col) : l.map colV = (l.map xC).map vecX := by rw [List.map_map]; rfl
theorem alL_sum {fs : Nat} {fd : List Nat} : ∀ (l : List (Col × List Bool)) (a u : Nat), alL fs fd a u l = a + sumN (asL fs fd u l)
  | [], a, u => rfl
  | (c, r) :: l, a, u => by
    show alL fs fd (a + alN c r fs (cyc fd 0 fd.length u (cntB r))) (u + cntB r) l = a + (alN c r fs (cyc fd 0 fd.length u (cntB r)) + sumN (asL fs fd (u + cntB r) l))
    rw [alL_sum l]; (first | lia | omega)
theorem asL_len {fs : Nat} {fd : List Nat} : ∀ {l : List (Col × List Bool)} {u : Nat}, (asL fs fd u l).length = l.length
  | [], _ => rfl
  | q :: l, u => congrArg (· + 1) (asL_len (l := l))
theorem nth_newL {fs : Nat} {fd : List Nat} : ∀ {cols : List Col} {bss : List (List Bool)} {i u : Nat} {c : Col} {r : List Bool}, nth cols i = some c → nth bss i = some r → nth (newL fs fd u (cols.zip bss)) i = some (newX fs c r (cyc fd 0 fd.length (u + usedR (bss.take i)) (cntB r)))
  | _ :: _, _ :: _, 0, u, c, r, e1, e2 => by cases e1; cases e2; rfl
  | _ :: cols, q :: bss, i + 1, u, c, r, e1, e2 => by
    have := nth_newL (fs := fs) (fd := fd) (cols := cols) (bss := bss) (i := i) (u := u + cntB q) e1 e2
    rw [Nat.add_assoc] at this
    exact this
  | [], _, _, _, _, _, e1, _ => by cases e1
  | _ :: _, [], _, _, _, _, _, e2 => by cases e2
theorem nth_asL {fs : Nat} {fd : List Nat} : ∀ {cols : List Col} {bss : List (List Bool)} {i u : Nat} {c : Col} {r : List Bool}, nth cols i = some c → nth bss i = some r → nth (asL fs fd u (cols.zip bss)) i = some (alN c r fs (cyc fd 0 fd.length (u + usedR (bss.take i)) (cntB r)))
  | _ :: _, _ :: _, 0, u, c, r, e1, e2 => by cases e1; cases e2; rfl
  | _ :: cols, q :: bss, i + 1, u, c, r, e1, e2 => by
    have := nth_asL (fs := fs) (fd := fd) (cols := cols) (bss := bss) (i := i) (u := u + cntB q) e1 e2
    rw [Nat.add_assoc] at this
    exact this
  | [], _, _, _, _, _, e1, _ => by cases e1
  | _ :: _, [], _, _, _, _, _, e2 => by cases e2
theorem alN_le {c : Col} {r : List Bool} {fs : Nat} {cd : List Nat} : alN c r fs cd ≤ 1 := by
  by_cases h0 : cntB r = 0
  · rw [alN_z h0]; decide
  · by_cases h4 : c.1 = 4
    · obtain ⟨v, ds⟩ := c
      dsimp only at h4
      subst h4
      rw [alN_f h0]
      split <;> decide
    · unfold alN
      generalize cntB r = q at h0
      cases q with
      | zero => exact absurd rfl h0
      | succ q =>
        split <;> first | decide | (split <;> decide) | (first | lia | omega)
theorem asL_le {fs : Nat} {fd : List Nat} : ∀ {l : List (Col × List Bool)} {u : Nat}, ∀ a ∈ asL fs fd u l, a ≤ 1
  | (c, r) :: l, u, a, h => by
    rcases List.mem_cons.mp h with rfl | h
    · exact alN_le
    · exact asL_le a h
theorem att_n {v : Nat} (hv : v < 6) (h4 : v ≠ 4) : att v < 2 ∧ (att v = 1 → 1 ≤ rk v) := by
  rcases v6 hv with rfl | rfl | rfl | rfl | rfl | rfl <;> first | exact absurd rfl h4 | decide
theorem att_x {v : Nat} (hv : v < 6) : att v < 3 ∧ (att v = 1 → 1 ≤ rk v) ∧ (att v = 2 → rk v = 1) := by
  rcases v6 hv with rfl | rfl | rfl | rfl | rfl | rfl <;> decide
theorem plain_n {c : Col} {r : List Bool} {fs : Nat} {cd : List Nat} (hv : c.1 < 6) (h4 : c.1 ≠ 4) (h : cntB r ≠ 0) : newR c r fs = mx (rk c.1) (rk fs) ∧ alN c r fs cd = 0 ∧ att c.1 < 2 ∧ (att c.1 = 1 → 1 ≤ rk c.1) ∧ (∀ d, AV.item (lI c.1) d = .item (cvL (rk c.1) (rk c.1)) d) ∧
    newI c r fs cd = puts (c.2.map fun d => .item (cvL (rk c.1) (mx (rk c.1) (rk fs))) d) r (cd.map fun d => .item (cvL (rk fs) (mx (rk c.1) (rk fs))) d) := by
  obtain ⟨v, ds⟩ := c
  unfold newR alN newI
  generalize cntB r = q at h
  cases q with
  | zero => exact absurd rfl h
  | succ q =>
    rcases v6 hv with z | z | z | z | z | z <;> dsimp only at z <;> subst z
    · exact ⟨rfl, rfl, (att_n (v := 0) (by decide) (by decide)).1, (att_n (v := 0) (by decide) (by decide)).2, fun _ => rfl, rfl⟩
    · exact ⟨rfl, rfl, (att_n (v := 1) (by decide) (by decide)).1, (att_n (v := 1) (by decide) (by decide)).2, fun _ => rfl, rfl⟩
    · exact ⟨rfl, rfl, (att_n (v := 2) (by decide) (by decide)).1, (att_n (v := 2) (by decide) (by decide)).2, fun _ => rfl, rfl⟩
    · exact ⟨rfl, rfl, (att_n (v := 3) (by decide) (by decide)).1, (att_n (v := 3) (by decide) (by decide)).2, fun _ => rfl, rfl⟩
    · exact absurd rfl h4
    · exact ⟨rfl, rfl, (att_n (v := 5) (by decide) (by decide)).1, (att_n (v := 5) (by decide) (by decide)).2, fun _ => rfl, rfl⟩
theorem puts_puts : ∀ {xs : List AV} {r : List Bool} {ys : List AV}, puts (puts xs r ys) r ys = puts xs r ys
  | [], [], ys => rfl
  | [], _ :: _, ys => rfl
  | _ :: _, [], _ => rfl
  | x :: xs, false :: r, ys => congrArg (List.cons x) (puts_puts (xs := xs))
  | x :: xs, true :: r, [] => rfl
  | x :: xs, true :: r, y :: ys => congrArg (List.cons y) (puts_puts (xs := xs))
theorem mx_mx {a b : Nat} : mx (mx a b) b = mx a b := by
  have h1 : b ≤ mx a b := mx_le
  show (match Nat.blt (mx a b) b with | true => b | false => mx a b) = mx a b
  split
  · rename_i z
    have : mx a b < b := by simpa [Nat.blt_eq] using z
    (first | lia | omega)
  · rfl
theorem puts_lenX {c : Col} {t : Nat} {r : List Bool} {fs : Nat} {cd : List Nat} (hc : Cok t c) (hr : r.length = t) (hcd : cd.length = cntB r) : (newI c r fs cd).length = t := by
  by_cases h0 : cntB r = 0
  · rw [newI_z h0, List.length_map]; exact hc.l
  · by_cases h4 : c.1 = 4
    · obtain ⟨v, ds⟩ := c
      dsimp only at h4
      subst h4
      rw [newI_f h0]
      exact puts_len (by rw [List.length_map]; exact hc.l) hr (by rw [List.length_map, hcd])
    · obtain ⟨_, _, _, _, _, e⟩ := plain_n (fs := fs) (cd := cd) hc.v h4 h0
      rw [e]
      exact puts_len (by rw [List.length_map]; exact hc.l) hr (by rw [List.length_map, hcd])
theorem xok_c {c : Col} {t : Nat} (hc : Cok t c) : Xok t (xC c) :=
  ⟨(att_x hc.v).1, rk_lt _, (att_x hc.v).2.1, (att_x hc.v).2.2, by
    show (c.2.map fun d => AV.item (lI c.1) d).length = t
    rw [List.length_map]; exact hc.l⟩
theorem mx_ge {a b : Nat} : a ≤ mx a b := by
  unfold mx
  split
  · rename_i z
    have : a < b := by simpa [Nat.blt_eq] using z
    (first | lia | omega)
  · exact Nat.le_refl _
theorem xok_n {c : Col} {t : Nat} {r : List Bool} {fs : Nat} {cd : List Nat} (hc : Cok t c) (hr : r.length = t) (hcd : cd.length = cntB r) : Xok t (newX fs c r cd) := by
  have hl := puts_lenX (fs := fs) hc hr hcd
  have x0 := xok_c hc
  by_cases h0 : cntB r = 0
  · refine ⟨x0.a, ?_, ?_, ?_, hl⟩
    · show newR c r fs < 4; rw [newR_z h0]; exact x0.r
    · show att c.1 = 1 → 1 ≤ newR c r fs; rw [newR_z h0]; exact x0.u
    · show att c.1 = 2 → newR c r fs = 1; rw [newR_z h0]; exact x0.f
  · by_cases h4 : c.1 = 4
    · obtain ⟨v, ds⟩ := c
      dsimp only at h4
      subst h4
      refine ⟨x0.a, ?_, ?_, ?_, hl⟩
      · show newR (4, ds) r fs < 4; rw [newR_f h0]; decide
      · show att 4 = 1 → 1 ≤ newR (4, ds) r fs; rw [newR_f h0]; decide
      · show att 4 = 2 → newR (4, ds) r fs = 1; rw [newR_f h0]; decide
    · obtain ⟨e1, _, e3, e4, _, _⟩ := plain_n (fs := fs) (cd := cd) hc.v h4 h0
      refine ⟨x0.a, ?_, ?_, ?_, hl⟩
      · show newR c r fs < 4; rw [e1]; exact mx_lt (rk_lt _) (rk_lt _)
      · show att c.1 = 1 → 1 ≤ newR c r fs; rw [e1]; exact fun z => Nat.le_trans (e4 z) mx_ge
      · show att c.1 = 2 → newR c r fs = 1; intro z; (first | lia | omega)

/-- the first call's columns -/
theorem put_first (Z : Env0 G K fI glob mg mb cfg2 N) (I : SIh G glob n (run cfg2 60)) (hv : G.val = val) {fs t u : Nat} (hf : fs < 4) (ht : t ≤ 3) {c : Col} (hc : Cok t c) {r : List Bool} (hr : r.length = t) {fd : List Nat} (hz : 1 ≤ fd.length) (h7 : ∀ d ∈ fd, d < 7) :
    Put1 G glob (n + 2) fs fd u (xC c) r (newX fs c r (cyc fd 0 fd.length u (cntB r))) (alN c r fs (cyc fd 0 fd.length u (cntB r))) := by
  have hcl : (cyc fd 0 fd.length u (cntB r)).length = cntB r := cyc_len _ _
  have hcm : ∀ a ∈ cyc fd 0 fd.length u (cntB r), a < 7 := cyc_mem rfl hz h7 _ _
  by_cases h0 : cntB r = 0
  · refine .inl ⟨h0, ?_, alN_z h0⟩
    unfold newX
    rw [newR_z h0, newI_z h0]; rfl
  · refine .inr ⟨h0, alN_le, fun q0 hq cl => ?_⟩
    by_cases h4 : c.1 = 4
    · obtain ⟨v, ds⟩ := c
      dsimp only at h4
      subst h4
      unfold newX
      rw [newR_f h0, newI_f h0, alN_f h0]
      exact put_factor Z I hv hf ht hq hr h0 hcl hcm (l := ds.map fun d => .item 11 d) (by rw [List.length_map]; exact hc.l)
    · obtain ⟨e1, e2, e3, e4, e5, e6⟩ := plain_n (fs := fs) (cd := cyc fd 0 fd.length u (cntB r)) hc.v h4 h0
      unfold newX
      rw [e1, e2, e6]
      exact ClAt.up (put_plain Z I e3 (rk_lt _) e4 hf ht hr h0 hcl (l := c.2.map fun d => .item (lI c.1) d) (by rw [List.length_map]; exact hc.l) (.inr ⟨c.2, List.map_congr_left fun d _ => e5 d, rfl⟩)) (Nat.le_succ _)
/-- the second call's: they stay -/
theorem put_again (Z : Env0 G K fI glob mg mb cfg2 N) (I : SIh G glob n (run cfg2 60)) (hv : G.val = val) {fs t u : Nat} (hf : fs < 4) (ht : t ≤ 3) {c : Col} (hc : Cok t c) {r : List Bool} (hr : r.length = t) {fd : List Nat} (hz : 1 ≤ fd.length) (h7 : ∀ d ∈ fd, d < 7) :
    Put1 G glob (n + 2) fs fd u (newX fs c r (cyc fd 0 fd.length u (cntB r))) r (newX fs c r (cyc fd 0 fd.length u (cntB r))) (alN c r fs (cyc fd 0 fd.length u (cntB r))) := by
  have hcl : (cyc fd 0 fd.length u (cntB r)).length = cntB r := cyc_len _ _
  have hcm : ∀ a ∈ cyc fd 0 fd.length u (cntB r), a < 7 := cyc_mem rfl hz h7 _ _
  by_cases h0 : cntB r = 0
  · exact .inl ⟨h0, rfl, alN_z h0⟩
  · refine .inr ⟨h0, alN_le, fun q0 hq cl => ?_⟩
    have hln := puts_lenX (fs := fs) hc hr hcl
    by_cases h4 : c.1 = 4
    · obtain ⟨v, ds⟩ := c
      dsimp only at h4
      subst h4
      unfold newX
      rw [newI_f h0] at hln
      rw [newR_f h0, newI_f h0, alN_f h0]
      have := put_factor Z I hv hf ht hq hr h0 hcl hcm hln (cl := cl)
      rw [puts_puts] at this
      exact this
    · obtain ⟨e1, e2, e3, e4, e5, e6⟩ := plain_n (fs := fs) (cd := cyc fd 0 fd.length u (cntB r)) hc.v h4 h0
      unfold newX
      rw [e6] at hln
      rw [e1, e2, e6]
      have := put_plain Z I (a := att c.1) (r := mx (rk c.1) (rk fs)) e3 (mx_lt (rk_lt _) (rk_lt _)) (fun z => Nat.le_trans (e4 z) mx_ge) hf ht hr h0 hcl hln (.inl ⟨mx_mx.symm, rfl⟩) (hp := [.lst ((reps q0).map RV.a), .lst cl]) (j := 0)
      rw [mx_mx, puts_puts] at this
      exact ClAt.up this (Nat.le_succ _)
end
end Mine
end
section
open PySem PySem.W PyProof.Rows PySem.Calls
set_option maxRecDepth 100000
set_option maxHeartbeats 0
namespace Mine

open Classical in
noncomputable def lookE : List (Expr × AV) → Expr → Option AV
  | [], _ => none
  | (e0, v) :: r, e => if e = e0 then some v else lookE r e
open Classical in
noncomputable def plugL (sc : Sc) (loc : Loc) (hp : Hp) (L : List (Expr × AV)) : Ih :=
  ⟨fun sc' l h e' => if sc' = sc ∧ l = loc ∧ h = hp then (lookE L e').map fun v => (.a v, hp) else none, fun _ _ _ _ => none, fun _ _ _ _ => none, fun _ _ _ _ => none, fun _ _ _ => none⟩
noncomputable def tfree (e1 e2 : Expr) : Bool := Nat.beq (exPos e1).col (exPos e2).col

section
variable {G : Gnd} {glob : Str → Option Addr} {n N k m : Nat} {ih : Ih} {A : Around} {E : Value → Shared → Prop} {s : Shared} {env : Env} {W W' F F0 F' T : List Addr} {ad ad0 ad1 ad' ad'' : Ad} {hp hp' hp1 hp2 hp'' : Hp} {h h' h'' : Heap} {scope : Scope} {x : Str} {sc sc' : Sc} {loc loc' loc0 loc1 : Loc} {X X' : Addr → Prop}
variable {K : Frag} {fI : Addr} {mg mb : Str → Option Value} {cfg : Cfg} {P P' : MPost} {st : Stmt} {r : List Stmt}

theorem lookE_mem : ∀ {L : List (Expr × AV)} {e : Expr} {v : AV}, lookE L e = some v → (e, v) ∈ L := fun {L} => by
  induction L with
  | nil => exact fun h => nn h
  | cons p r ih =>
    intro e v h
    unfold lookE at h
    rcases Classical.em (e = p.1) with z | z
    · have h := (if_pos z).symm.trans h
      rw [z, ← Option.some.inj h]; exact .head _
    · exact .tail _ (ih ((if_neg z).symm.trans h))
open Classical in
theorem plugL_ok {L : List (Expr × AV)} (w : ∀ p ∈ L, EvAt G n sc loc hp p.1 (.a p.2) hp) : SIh G glob n (plugL sc loc hp L) where
  ev := fun {sc' l h e' rv' h'} q => by
    rcases Classical.em (sc' = sc ∧ l = loc ∧ h = hp) with z | z
    · have q0 := (if_pos z).symm.trans q
      obtain ⟨rfl, rfl, rfl⟩ := z
      exact me q0 fun v e1 e2 => (w (e', v) (lookE_mem e1)).at e2
    · exact nn ((if_neg z).symm.trans q)
  tr := fun q => nn q
  ex := fun q => nn q
  exs := fun q => nn q
  cl := fun q => nn q
theorem plugL_at {L : List (Expr × AV)} {e : Expr} {v : AV} (h : lookE L e = some v) : (plugL sc loc hp L).ev sc loc hp e = some (.a v, hp) := by
  unfold plugL
  dsimp only
  rw [if_pos ⟨rfl, rfl, rfl⟩, h]; rfl
theorem lookE_0 {L : List (Expr × AV)} {e : Expr} {v : AV} : lookE ((e, v) :: L) e = some v := if_pos rfl
theorem lookE_s {L : List (Expr × AV)} {e e0 : Expr} {v0 : AV} (h : e ≠ e0) : lookE ((e0, v0) :: L) e = lookE L e := if_neg h
theorem ne_of {e1 e2 : Expr} (h : tfree e1 e2 = false) : e1 ≠ e2 := fun z => by
  subst z
  unfold tfree at h
  rw [Nat.beq_refl] at h
  exact tf h
theorem evList3 (Z : Env0 G K fI glob mg mb cfg N) (nN : N ≤ n) {e1 e2 e3 : Expr} {v1 v2 v3 : AV} {pos : Pos} (w1 : EvAt G n sc loc hp e1 (.a v1) hp) (w2 : EvAt G n sc loc hp e2 (.a v2) hp) (w3 : EvAt G n sc loc hp e3 (.a v3) hp) (n21 : e2 ≠ e1) (n31 : e3 ≠ e1) (n32 : e3 ≠ e2) (s1 : noStar e1 = true) (s2 : noStar e2 = true) (s3 : noStar e3 = true) (ow : cfg.own pos = false) :
    EvAt G n sc loc hp (.List [e1, e2, e3] pos) (.a (.lst [v1, v2, v3])) hp := by
  refine ev_sound Z (plugL_ok (glob := glob) (sc := sc) (loc := loc) (hp := hp) (L := [(e1, v1), (e2, v2), (e3, v3)]) (List.forall_mem_cons.mpr ⟨w1, List.forall_mem_cons.mpr ⟨w2, List.forall_mem_cons.mpr ⟨w3, fun _ h => nomatch h⟩⟩⟩)) nN ?_
  · have a1 := plugL_at (sc := sc) (loc := loc) (hp := hp) (L := [(e1, v1), (e2, v2), (e3, v3)]) (e := e1) (v := v1) lookE_0
    have a2 := plugL_at (sc := sc) (loc := loc) (hp := hp) (L := [(e1, v1), (e2, v2), (e3, v3)]) (e := e2) (v := v2) (by rw [lookE_s n21]; exact lookE_0)
    have a3 := plugL_at (sc := sc) (loc := loc) (hp := hp) (L := [(e1, v1), (e2, v2), (e3, v3)]) (e := e3) (v := v3) (by rw [lookE_s n31, lookE_s n32]; exact lookE_0)
    show (evArgs (plugL sc loc hp [(e1, v1), (e2, v2), (e3, v3)]) sc loc hp [e1, e2, e3]).bind (fun q => mkLst (cfg.own pos) q.1 q.2) = _
    simp only [evArgs, s1, s2, s3, a1, a2, a3, Option.bind_some, Option.map_some, ow]
    rfl
theorem evCmp2 {op : CmpOp} {l r : Expr} {x y : AV} {b : Bool} (wl : EvAt G n sc loc hp l (.a x) hp) (wr : EvAt G n sc loc hp r (.a y) hp) (ne : r ≠ l) (bm : behindInMarks op r = false) (c : cmp op x y = some b) : ∃ ih, SIh G glob n ih ∧ evCmp ih sc loc hp l [op] [r] = some (b, hp) := by
  refine ⟨plugL sc loc hp [(l, x), (r, y)], plugL_ok (List.forall_mem_cons.mpr ⟨wl, List.forall_mem_cons.mpr ⟨wr, fun _ h => nomatch h⟩⟩), ?_⟩
  · have a1 := plugL_at (sc := sc) (loc := loc) (hp := hp) (L := [(l, x), (r, y)]) (e := l) (v := x) lookE_0
    have a2 := plugL_at (sc := sc) (loc := loc) (hp := hp) (L := [(l, x), (r, y)]) (e := r) (v := y) (by rw [lookE_s ne]; exact lookE_0)
    show gd (!behindInMarks op r) (((plugL sc loc hp [(l, x), (r, y)]).ev sc loc hp l).bind fun q => ((plugL sc loc hp [(l, x), (r, y)]).ev sc loc q.2 r).bind fun q' => (cmpR op q.1 q'.1 q'.2).map fun b => (b, q'.2)) = _
    rw [bm]
    show ((plugL sc loc hp [(l, x), (r, y)]).ev sc loc hp l).bind _ = _
    rw [a1]
    show ((plugL sc loc hp [(l, x), (r, y)]).ev sc loc hp r).bind _ = _
    rw [a2]
    show (cmp op x y).map _ = _
    rw [c]; rfl
theorem evCompare (Z : Env0 G K fI glob mg mb cfg N) (nN : N ≤ n) {op : CmpOp} {l r : Expr} {x y : AV} {b : Bool} {pos : Pos} (wl : EvAt G n sc loc hp l (.a x) hp) (wr : EvAt G n sc loc hp r (.a y) hp) (ne : r ≠ l) (bm : behindInMarks op r = false) (c : cmp op x y = some b) : EvAt G n sc loc hp (.Compare l [op] [r] pos) (.a (.bool b)) hp := by
  obtain ⟨ih, I, e⟩ := evCmp2 (glob := glob) wl wr ne bm c
  refine ev_sound Z I nN ?_
  show (evCmp ih sc loc hp l [op] [r]).map _ = _
  rw [e]; rfl
theorem trCompare (Z : Env0 G K fI glob mg mb cfg N) {op : CmpOp} {l r : Expr} {x y : AV} {b : Bool} {pos : Pos} (wl : EvAt G n sc loc hp l (.a x) hp) (wr : EvAt G n sc loc hp r (.a y) hp) (ne : r ≠ l) (bm : behindInMarks op r = false) (c : cmp op x y = some b) : TrAt G n sc loc hp (.Compare l [op] [r] pos) b hp := by
  obtain ⟨ih, I, e⟩ := evCmp2 (glob := glob) wl wr ne bm c
  exact tr_sound I Z.hv e
theorem evAnd (Z : Env0 G K fI glob mg mb cfg N) (nN : N ≤ n) {e1 e2 : Expr} {pos : Pos} (w1 : EvAt G n sc loc hp e1 (.a (.bool true)) hp) (w2 : EvAt G n sc loc hp e2 (.a (.bool true)) hp) (ne : e2 ≠ e1) : EvAt G n sc loc hp (.BoolOp .And [e1, e2] pos) (.a (.bool true)) hp := by
  refine ev_sound Z (plugL_ok (glob := glob) (sc := sc) (loc := loc) (hp := hp) (L := [(e1, .bool true), (e2, .bool true)]) (List.forall_mem_cons.mpr ⟨w1, List.forall_mem_cons.mpr ⟨w2, fun _ h => nomatch h⟩⟩)) nN ?_
  · have a1 := plugL_at (sc := sc) (loc := loc) (hp := hp) (L := [(e1, .bool true), (e2, .bool true)]) (e := e1) (v := .bool true) lookE_0
    have a2 := plugL_at (sc := sc) (loc := loc) (hp := hp) (L := [(e1, .bool true), (e2, .bool true)]) (e := e2) (v := .bool true) (by rw [lookE_s ne]; exact lookE_0)
    show ((plugL sc loc hp [(e1, .bool true), (e2, .bool true)]).ev sc loc hp e1).bind _ = _
    rw [a1]
    exact a2
theorem retN (Z : Env0 G K fI glob mg mb cfg N) (nN : N ≤ n) {e : Expr} {rv : RV} {pos : Pos} (w : EvAt G n sc loc hp e rv hp') : ExAt G n sc loc hp (.Return (some e) pos) (.ret rv) loc hp' := by
  refine ex_sound Z (plugEv_ok (glob := glob) w) nN ?_
  show (((plugEv sc loc hp e (rv, hp')).ev sc loc hp e).map fun q => (Flw.ret q.1, loc, q.2)).bind _ = _
  rw [plugEv_at]; rfl
/-- an if by its test, the test proved -/
theorem ifT {e0 : Expr} {c0 : Bool} (w : TrAt G n sc loc hp e0 c0 hp) {b o : List Stmt} {pos : Pos} (x : ExsN G n k sc loc hp (match c0 with | true => b | false => o) P) : ExN G n k sc loc hp (.If e0 b o pos) P := by
  intro A E env W F ad s Q rm wr H R q
  refine wpAny_If (w A E env F ad s _ rm H R fun ad1 h1 tk1 H1 g1 => ?_)
  have q1 : ∀ fl l h, P fl l h → XN G k { s with heap := h1, toks := tk1 } Q W F ad1 hp env sc fl l h := fun fl l h z => XN.after (g1.wide nil_sub).toN (q fl l h z)
  cases c0
  · exact x A E env W F ad1 { s with heap := h1, toks := tk1 } Q rm wr H1 (R.go H g1) q1
  · exact x A E env W F ad1 { s with heap := h1, toks := tk1 } Q rm wr H1 (R.go H g1) q1

theorem beqs_self : ∀ {l : List AV}, (∀ x ∈ l, AV.beq x x = true) → AV.beqs l l = true := fun {l} => by
  induction l with
  | nil => exact fun _ => rfl
  | cons x l ih => exact fun h => Bool.and_eq_true_iff.mpr ⟨h x (.head _), ih fun y hy => h y (.tail _ hy)⟩
theorem beq_leaf {x : AV} (h : lay 0 x = true) : AV.beq x x = true := by
  cases x with
  | none => exact rfl
  | bool b => exact beq_self_eq_true b
  | int i => exact beq_self_eq_true i
  | str s => exact seq_iff.mpr rfl
  | _ => exact ft h
theorem beq_lay : ∀ (n : Nat) (x : AV), lay n x = true → AV.beq x x = true := fun n => by
  induction n with
  | zero => exact fun x h => beq_leaf h
  | succ n ih =>
    intro x h
    cases x with
    | tup l => exact beqs_self fun x hx => ih x (List.all_eq_true.mp h x hx)
    | lst l => exact beqs_self fun x hx => ih x (List.all_eq_true.mp h x hx)
    | item a b => exact Bool.and_eq_true_iff.mpr ⟨beq_self_eq_true a, beq_self_eq_true b⟩
    | none => exact rfl
    | bool b => exact beq_self_eq_true b
    | int i => exact beq_self_eq_true i
    | str s => exact seq_iff.mpr rfl
    | _ => exact ft h
theorem cmp_self {l : List AV} (h : l.all (lay 12) = true) : cmp .Eq (.lst l) (.lst l) = some true ∧ cmp .NotEq (.lst l) (.lst l) = some false := by
  have hb : AV.beqs l l = true := beqs_self fun x hx => beq_lay 12 x (List.all_eq_true.mp h x hx)
  have q : cmpEq (.lst l) (.lst l) = some true := by
    show gd (AV.beqs l l) (gd (l.all (lay 12)) (some true)) = _
    rw [hb, h]; rfl
  exact ⟨q, congrArg (Option.map (!·)) q⟩
end
end Mine
end
section
open PySem PySem.W PyProof.Rows PySem.Calls
set_option maxRecDepth 100000
set_option maxHeartbeats 0
namespace Mine

noncomputable abbrev CallP := Pos × Pos × Pos
/-- told of one name -/
noncomputable def toldE (x : Str) (p : CallP) : Expr := .Call (.Name "_law_told" p.1) [.Name x p.2.1] [] p.2.2
noncomputable def s28 : { q : Pos × (CallP × CallP × CallP) × Pos × Pos // part 28 1 = [.Assign [.Name "before" q.1] (.List [toldE "df" q.2.1.1, toldE "flags" q.2.1.2.1, toldE "value" q.2.1.2.2] q.2.2.1) q.2.2.2] } := ⟨(_, ((_, _, _), (_, _, _), (_, _, _)), _, _), by rfl⟩
noncomputable def s30 : { q : Pos × Pos × List Expr × Pos × Pos // part 30 1 = [.Assign [.Name "got" q.1] (.Call (.Name "assign_flags" q.2.1) q.2.2.1 [] q.2.2.2.1) q.2.2.2.2] } := ⟨(_, _, _, _, _), by rfl⟩
noncomputable def s32 : { q : CallP × Expr × Pos × List Stmt × Pos // part 32 1 = [.If (.Compare (toldE "got" q.1) [.NotEq] [q.2.1] q.2.2.1) q.2.2.2.1 [] q.2.2.2.2] } := ⟨((_, _, _), _, _, _, _), by rfl⟩
noncomputable def s33 : { q : Pos × Pos × List Expr × Pos × Pos // part 33 1 = [.Assign [.Name "more" q.1] (.Call (.Name "assign_flags" q.2.1) q.2.2.1 [] q.2.2.2.1) q.2.2.2.2] } := ⟨(_, _, _, _, _), by rfl⟩
noncomputable def s34 : { q : (CallP × CallP × Pos) × ((CallP × CallP × CallP) × Pos × Pos × Pos) × Pos × Pos // part 34 1 = [.Return (some (.BoolOp .And [.Compare (toldE "more" q.1.1) [.Eq] [toldE "got" q.1.2.1] q.1.2.2, .Compare (.List [toldE "df" q.2.1.1.1, toldE "flags" q.2.1.1.2.1, toldE "value" q.2.1.1.2.2] q.2.1.2.1) [.Eq] [.Name "before" q.2.1.2.2.1] q.2.1.2.2.2] q.2.2.1)) q.2.2.2] } := ⟨(((_, _, _), (_, _, _), _), (((_, _, _), (_, _, _), (_, _, _)), _, _, _), _, _), by rfl⟩
noncomputable def locZ (df fl va due al : AV) (r : Loc) : Loc := ("df", .a df) :: ("flags", .a fl) :: ("value", .a va) :: ("due", .a due) :: ("alerted", .a al) :: r
noncomputable def nmZ : List Str := ["df", "flags", "value", "due", "alerted"]
noncomputable def okV (x : AV) : Bool := lay 3 x

section
variable {G : Gnd} {glob : Str → Option Addr} {n N k m : Nat} {ih : Ih} {A : Around} {E : Value → Shared → Prop} {s : Shared} {env : Env} {W W' F F0 F' T : List Addr} {ad ad0 ad1 ad' ad'' : Ad} {hp hp' hp1 hp2 hp'' : Hp} {h h' h'' : Heap} {scope : Scope} {x : Str} {sc sc' : Sc} {loc loc' loc0 loc1 : Loc} {X X' : Addr → Prop}
variable {K : Frag} {fI : Addr} {mg mb : Str → Option Value} {cfg : Cfg} {P P' : MPost} {st : Stmt} {r : List Stmt}

theorem puts_mem {a : AV} : ∀ {xs : List AV} {r : List Bool} {ys : List AV}, a ∈ puts xs r ys → a ∈ xs ∨ a ∈ ys
  | x :: xs, false :: r, ys, h => by
    rcases List.mem_cons.mp h with rfl | h
    · exact .inl (.head _)
    · exact (puts_mem h).imp (.tail _) id
  | x :: xs, true :: r, y :: ys, h => by
    rcases List.mem_cons.mp h with rfl | h
    · exact .inr (.head _)
    · exact (puts_mem h).imp (.tail _) (.tail _)
  | [], [], _, h => nomatch h
  | [], _ :: _, _, h => nomatch h
  | _ :: _, [], _, h => nomatch h
  | _ :: _, true :: _, [], h => nomatch h
/-- only letters and None -/
noncomputable def plainV (l : List AV) : Prop := ∀ a ∈ l, a = .none ∨ ∃ c d, a = .item c d
theorem plainV_map {f : Nat → AV} {l : List Nat} (q : ∀ d, f d = .none ∨ ∃ c e, f d = .item c e) : plainV (l.map f) := fun a h => by
  obtain ⟨d, _, rfl⟩ := List.mem_map.mp h
  exact q d
theorem plainV_puts {xs ys : List AV} {r : List Bool} (a : plainV xs) (b : plainV ys) : plainV (puts xs r ys) := fun v h => (puts_mem h).elim (a v) (b v)
theorem codeA_p {fs d : Nat} : codeA fs d = .none ∨ ∃ c e, codeA fs d = .item c e := by
  unfold codeA
  split
  · exact .inr ⟨_, _, rfl⟩
  · exact .inl rfl
theorem newI_p {c : Col} {r : List Bool} {fs : Nat} {cd : List Nat} : plainV (newI c r fs cd) := by
  unfold newI
  split
  · exact plainV_map fun d => .inr ⟨_, _, rfl⟩
  · exact plainV_puts (plainV_map fun d => .inr ⟨_, _, rfl⟩) (plainV_map fun d => codeA_p)
  · exact plainV_puts (plainV_map fun d => .inr ⟨_, _, rfl⟩) (plainV_map fun d => .inr ⟨_, _, rfl⟩)
theorem lay_plain {l : List AV} (h : plainV l) {n : Nat} : l.all (lay (n + 2)) = true := by
  rw [List.all_eq_true]
  intro a ha
  rcases h a ha with rfl | ⟨c, d, rfl⟩
  · rfl
  · rfl
theorem lay_told {t : Nat} {y : Xc} (hy : Xok t y) (p : plainV y.2.2) : lay 10 (toldX y) = true := by
  obtain ⟨a, r, l⟩ := y
  have ha : a < 3 := hy.a
  have hr : r < 4 := hy.r
  have h1 : lay 9 (.lst l) = true := lay_plain (n := 6) p
  show ([AV.str (kstr r), .lst l, besA a]).all (lay 9) = true
  rw [List.all_cons, List.all_cons, h1]
  rcases c3 ha with rfl | rfl | rfl <;> rcases c4 hr with rfl | rfl | rfl | rfl <;> kernel_rfl
theorem lay_besF {w t b : Nat} (hw : 1 ≤ w ∧ w ≤ 3) (ht : t ≤ 3) (hb : b < 2) (n : Nat) : lay (n + 8) (besF w t b) = true := by
  have hw' : w = 1 ∨ w = 2 ∨ w = 3 := by (first | lia | omega)
  have ht' : t = 0 ∨ t = 1 ∨ t = 2 ∨ t = 3 := by (first | lia | omega)
  rcases bit2 hb with rfl | rfl <;> rcases hw' with rfl | rfl | rfl <;> rcases ht' with rfl | rfl | rfl | rfl <;> kernel_rfl
theorem lay_more {n m : Nat} {x : AV} (h : lay n x = true) (le : n ≤ m) : lay m x = true := lay_up h le
theorem lay_toldF {w t b : Nat} (hw : 1 ≤ w ∧ w ≤ 3) (ht : t ≤ 3) (hb : b < 2) {ys : List Xc} (hy : ∀ y ∈ ys, Xok t y ∧ plainV y.2.2) : lay 12 (toldF w t b (ys.map toldX)) = true ∧ ([AV.str "list", .lst (ys.map toldX), besF w t b]).all (lay 12) = true := by
  have h1 : lay 11 (.lst (ys.map toldX)) = true := by
    show (ys.map toldX).all (lay 10) = true
    rw [List.all_eq_true]
    intro a ha
    obtain ⟨y, hy', rfl⟩ := List.mem_map.mp ha
    exact lay_told (hy y hy').1 (hy y hy').2
  have h2 : lay 11 (besF w t b) = true := lay_besF hw ht hb 3
  constructor
  · show ([AV.str "list", .lst (ys.map toldX), besF w t b]).all (lay 11) = true
    rw [List.all_cons, List.all_cons, h1, List.all_cons, h2]
    kernel_rfl
  · rw [List.all_cons, List.all_cons, lay_more h1 (by decide), List.all_cons, lay_more h2 (by decide)]
    kernel_rfl
theorem lay_fl {w t : Nat} {bs : List Bool} : lay 12 (toldFl w t (bs.map bitA)) = true := by
  have h : lay 11 (.lst (bs.map bitA)) = true := by
    show (bs.map bitA).all (lay 10) = true
    rw [List.all_eq_true]
    intro a ha
    obtain ⟨y, _, rfl⟩ := List.mem_map.mp ha
    rfl
  show ([AV.str "logical", .lst (bs.map bitA), _]).all (lay 11) = true
  rw [List.all_cons, List.all_cons, h]
  kernel_rfl
theorem lay_val {r : Nat} (hr : r < 4) {l : List AV} (h : plainV l) : lay 12 (toldC 0 r l) = true := by
  have h1 : lay 11 (.lst l) = true := lay_plain (n := 8) h
  show ([AV.str (kstr r), .lst l, besA 0]).all (lay 11) = true
  rw [List.all_cons, List.all_cons, h1]
  rcases c4 hr with rfl | rfl | rfl | rfl <;> kernel_rfl
end
end Mine
end
section
open PySem PySem.W PyProof.Rows PySem.Calls
set_option maxRecDepth 100000
set_option maxHeartbeats 0
namespace Mine

noncomputable def nmZb : List Str := nmZ ++ (["before", "notes"] : List Str)
noncomputable def nmZg : List Str := nmZ ++ (["before", "got"] : List Str)
section
variable {G : Gnd} {glob : Str → Option Addr} {n N k m : Nat} {ih : Ih} {A : Around} {E : Value → Shared → Prop} {s : Shared} {env : Env} {W W' F F0 F' T : List Addr} {ad ad0 ad1 ad' ad'' : Ad} {hp hp' hp1 hp2 hp'' : Hp} {h h' h'' : Heap} {scope : Scope} {x : Str} {sc sc' : Sc} {loc loc' loc0 loc1 : Loc} {X X' : Addr → Prop}
variable {K : Frag} {fI : Addr} {mg mb : Str → Option Value} {cfg : Cfg} {P P' : MPost} {st : Stmt} {r : List Stmt}

theorem evTold (Z : Env0 G K fI glob mg mb cfg2 N) (I : SIh G glob n (run cfg2 60)) {m : Nat} {v t : AV} {p : CallP} (e : alook x loc = some (.a v)) (c : ClAt G glob m "_law_told" [.a v] hp (.a t) hp) (mn : m ≤ n) : EvAt G n lawS loc hp (toldE x p) (.a t) hp := by
  refine evCallN Z I (by kernel_rfl) (rs := [.a v]) (hp1 := hp) ?_ c mn
  show ((run cfg2 60).ev lawS loc hp (.Name x p.2.1)).bind (fun q => (evArgs (run cfg2 60) lawS loc q.2 []).map fun q' => (q.1 :: q'.1, q'.2)) = _
  rw [show (run cfg2 60).ev lawS loc hp (.Name x p.2.1) = (alook x loc).map fun v => (v, hp) from rfl, e]
  rfl
theorem nth_get? {α : Type} : ∀ {l : List α} {i : Nat}, nth l i = l[i]?
  | [], _ => by simp [nth]
  | _ :: _, 0 => by simp [nth]
  | _ :: r, i + 1 => by rw [List.getElem?_cons_succ]; exact nth_get? (l := r)
theorem segG (Z : Env0 G K fI glob mg mb cfg2 N) (I : SIh G glob n (run cfg2 60)) (nN : N ≤ n) (hv : G.val = val) {w t fs b : Nat} (hw : 1 ≤ w ∧ w ≤ 3) (ht : t ≤ 3) (hf : fs < 4) (hb2 : b < 2) {cols : List Col} {bss : List (List Bool)} (hc : cols.length = w) (ok : ∀ c ∈ cols, Cok t c) (hb : bss.length = w) (hr : ∀ r ∈ bss, r.length = t)
    {fd : List Nat} (hz : 1 ≤ fd.length ∧ fd.length ≤ 9) (h7 : ∀ d ∈ fd, d < 7) {W0 : List Int} {u : Nat} :
    ExsN G (n + 6) 0 lawS (locDue w t cols bss (dfV w t b (cols.map colV)) (flV w t (bss.flatten.map bitA)) (valV fs fd) fs fd (.a (.lst ((newL fs fd 0 (cols.zip bss)).map toldX))) (alL fs fd 0 0 (cols.zip bss)) u) [.well [] W0] (part 28 7) (fun fl _ _ => fl = .ret (.a (.bool true))) := by
  have hl : (cols.zip bss).length = w := by rw [List.length_zip, hc, hb, Nat.min_self]
  have IM : SIh G glob (n + 6) (run cfg2 60) := SIh.up I (Nat.le_add_right _ _)
  have I2 : SIh G glob (n + 2) (run cfg2 60) := SIh.up I (Nat.le_add_right _ _)
  have NM : N ≤ n + 6 := by (first | lia | omega)
  have rowOf : ∀ {i c r}, nth cols i = some c → nth bss i = some r → Cok t c ∧ r.length = t := fun {i c r} e1 e2 => ⟨ok c (nth_mem e1), hr r (nth_mem e2)⟩
  have hY : (newL fs fd 0 (cols.zip bss)).length = w := by rw [newL_len, hl]
  have hA : (asL fs fd 0 (cols.zip bss)).length = w := by rw [asL_len, hl]
  have hxx : ∀ x ∈ cols.map xC, Xok t x := fun x hx => by
    obtain ⟨c, h1, rfl⟩ := List.mem_map.mp hx
    exact xok_c (ok c h1)
  have at_ : ∀ {i y}, nth (newL fs fd 0 (cols.zip bss)) i = some y → ∃ c r, nth cols i = some c ∧ nth bss i = some r ∧ y = newX fs c r (cyc fd 0 fd.length (usedR (bss.take i)) (cntB r)) := fun {i y} ey => by
    have hi : i < w := by rw [← hY]; exact nth_lt ey
    obtain ⟨c, ec⟩ := nth_some (l := cols) (i := i) (by (first | lia | omega))
    obtain ⟨r, er⟩ := nth_some (l := bss) (i := i) (by (first | lia | omega))
    have := nth_newL (fs := fs) (fd := fd) (u := 0) ec er
    rw [Nat.zero_add, ey] at this
    cases this
    exact ⟨c, r, ec, er, rfl⟩
  have hyy : ∀ y ∈ newL fs fd 0 (cols.zip bss), Xok t y ∧ plainV y.2.2 := fun y hy => by
    obtain ⟨i, hi⟩ := List.getElem?_of_mem hy
    have ey : nth (newL fs fd 0 (cols.zip bss)) i = some y := by rw [nth_get?]; exact hi
    obtain ⟨c, r, ec, er, rfl⟩ := at_ ey
    exact ⟨xok_n (rowOf ec er).1 (rowOf ec er).2 (cyc_len _ _), newI_p⟩
  have als : alL fs fd 0 0 (cols.zip bss) = sumN (asL fs fd 0 (cols.zip bss)) := by rw [alL_sum, Nat.zero_add]
  have sal : sumN (asL fs fd 0 (cols.zip bss)) ≤ 3 := by have := sumN_le (l := asL fs fd 0 (cols.zip bss)) asL_le; (first | lia | omega)
  have as1 := asg Z I2 (fs := fs) (fd := fd) hw ht hb2 (xs := cols.map xC) (ys := newL fs fd 0 (cols.zip bss)) (bss := bss) (als := asL fs fd 0 (cols.zip bss)) (by rw [List.length_map, hc]) hb hY hA hr hz asL_le fun i x row y a ex er ey ea => by
    rw [nth_map] at ex
    obtain ⟨c, ec, rfl⟩ := Option.map_eq_some_iff.mp ex
    have e1 := nth_newL (fs := fs) (fd := fd) (u := 0) ec er
    have e2 := nth_asL (fs := fs) (fd := fd) (u := 0) ec er
    rw [Nat.zero_add, ey] at e1
    rw [Nat.zero_add, ea] at e2
    cases e1; cases e2
    exact put_first Z I hv hf ht (rowOf ec er).1 (rowOf ec er).2 hz.1 h7
  have as2 := asg Z I2 (fs := fs) (fd := fd) hw ht hb2 (xs := newL fs fd 0 (cols.zip bss)) (ys := newL fs fd 0 (cols.zip bss)) (bss := bss) (als := asL fs fd 0 (cols.zip bss)) hY hb hY hA hr hz asL_le fun i x row y a ex er ey ea => by
    obtain ⟨c, r', ec, er', rfl⟩ := at_ ex
    rw [er] at er'; cases er'
    rw [ex] at ey; cases ey
    have e2 := nth_asL (fs := fs) (fd := fd) (u := 0) ec er
    rw [Nat.zero_add, ea] at e2
    cases e2
    exact put_again Z I hv hf ht (rowOf ec er).1 (rowOf ec er).2 hz.1 h7
  rw [als]
  generalize hq : sumN (asL fs fd 0 (cols.zip bss)) = q at sal as1 as2 ⊢
  have sal' : q = 0 ∨ q = 1 ∨ q = 2 ∨ q = 3 := by (first | lia | omega)
  have c0 : ∀ hp, ClAt G glob (n + 1) "_law_told" [.a (dfV w t b (cols.map colV))] hp (.a (toldF w t b ((cols.map xC).map toldX))) hp := fun hp => by
    rw [cols_x]
    exact told_frame Z I nN hw ht hb2 (by rw [List.length_map, hc]) hxx
  have c1 : ∀ hp, ClAt G glob (n + 1) "_law_told" [.a (dfV w t b ((newL fs fd 0 (cols.zip bss)).map vecX))] hp (.a (toldF w t b ((newL fs fd 0 (cols.zip bss)).map toldX))) hp := fun hp =>
    told_frame Z I nN hw ht hb2 hY fun y hy => (hyy y hy).1
  have cf : ∀ hp, ClAt G glob n "_law_told" [.a (flV w t (bss.flatten.map bitA))] hp (.a (toldFl w t (bss.flatten.map bitA))) hp := fun hp =>
    told_fl I hw ht (by rw [List.length_map, flat_len hr, hb])
  have cv : ∀ hp, ClAt G glob n "_law_told" [.a (valV fs fd)] hp (.a (toldC 0 (rk fs) (fd.map fun d => .item (lA fs) d))) hp := fun hp =>
    told_val I (rk_lt fs) (by rw [List.length_map]; exact hz)
  have y1 := lay_toldF hw ht hb2 hyy
  have y0 : lay 12 (toldF w t b ((cols.map xC).map toldX)) = true := (lay_toldF hw ht hb2 fun y hy => by
    refine ⟨hxx y hy, ?_⟩
    obtain ⟨c, h1, rfl⟩ := List.mem_map.mp hy
    exact plainV_map fun d => .inr ⟨_, _, rfl⟩).1
  have yf : lay 12 (toldFl w t (bss.flatten.map bitA)) = true := lay_fl
  have yv : lay 12 (toldC 0 (rk fs) (fd.map fun d => .item (lA fs) d)) = true := lay_val (rk_lt fs) (plainV_map fun d => .inr ⟨_, _, rfl⟩)
  have evv : vecC 0 (rk fs) (fd.map fun d => .item (lA fs) d) = valV fs fd := rfl
  rw [evv] at as1 as2
  clear hyy at_ hxx rowOf hY hA als hq
  rw [cols_x] at c0 ⊢
  unfold locDue
  generalize dfV w t b ((cols.map xC).map vecX) = df0 at c0 as1 ⊢
  generalize dfV w t b ((newL fs fd 0 (cols.zip bss)).map vecX) = df1 at c1 as1 as2 ⊢
  generalize flV w t (bss.flatten.map bitA) = fl0 at cf as1 as2 ⊢
  generalize valV fs fd = va at cv as1 as2 ⊢
  generalize toldFl w t (bss.flatten.map bitA) = TF at cf yf ⊢
  generalize toldC 0 (rk fs) (fd.map fun d => .item (lA fs) d) = TV at cv yv ⊢
  have eT0 : toldF w t b ((cols.map xC).map toldX) = .lst [.str "list", .lst ((cols.map xC).map toldX), besF w t b] := rfl
  have eT1 : toldF w t b ((newL fs fd 0 (cols.zip bss)).map toldX) = .lst [.str "list", .lst ((newL fs fd 0 (cols.zip bss)).map toldX), besF w t b] := rfl
  rw [eT0] at c0 y0
  rw [eT1] at c1 y1
  generalize AV.lst ((cols.map xC).map toldX) = D0 at c0 y0 ⊢
  generalize AV.lst ((newL fs fd 0 (cols.zip bss)).map toldX) = D1 at c1 y1 ⊢
  generalize besF w t b = bes at c0 y0 c1 y1 ⊢
  have ca : ∀ {df}, ClAt G glob (n + 2 + 1) "assign_flags" [.a df, .a fl0, .a va, .r 0] [.lst []] (.a df1) [.lst ((reps q).map RV.a), .dead] → ClAt G glob (n + 2 + 1) "assign_flags" [.a df, .a fl0, .a va, .r 1] [.well [] W0, .lst []] (.a df1) [.well [] W0, .lst ((reps q).map RV.a)] := fun {df} c =>
    clFocus false rfl rfl (os := [.lst []]) c (by rcases sal' with rfl | rfl | rfl | rfl <;> kernel_rfl)
  rw [show part 28 7 = part 28 1 ++ (part 29 1 ++ (part 30 1 ++ (part 31 1 ++ (part 32 1 ++ (part 33 1 ++ part 34 1))))) from by kernel_rfl]
  refine ExsN.pre (Cv.fin (names := nmZ) (m := 1) (Nat.zero_le _) (by kernel_rfl) (by kernel_rfl)) ?_
  show ExsN G (n + 6) 0 lawS (locZ df0 fl0 va D1 (.int (q : Nat)) []) [.well [] W0] _ _
  refine ExsN.append ?_
  rw [s28.2]
  refine ExsN.cons (ExAt.toN (asgN Z (evList3 Z NM (evTold Z IM (by kernel_rfl) (c0 _) (by (first | lia | omega))) (evTold Z IM (by kernel_rfl) (cf _) (by (first | lia | omega))) (evTold Z IM (by kernel_rfl) (cv _) (by (first | lia | omega))) (ne_of (by kernel_rfl)) (ne_of (by kernel_rfl)) (ne_of (by kernel_rfl)) rfl rfl rfl (by kernel_rfl)) rfl (by kernel_rfl) rfl) (ExsN.nil ?_))
  show ExsN G (n + 6) 0 lawS (locZ df0 fl0 va D1 (.int (q : Nat)) [("before", .a (.lst [.lst [.str "list", D0, bes], TF, TV]))]) [.well [] W0] _ _
  refine ExsN.append (block IM (names := nmZb) (loc' := locZ df0 fl0 va D1 (.int (q : Nat)) [("before", .a (.lst [.lst [.str "list", D0, bes], TF, TV])), ("notes", .r 1)]) (hp' := [.well [] W0, .lst []]) 2 (Nat.zero_le _) (by kernel_rfl) ?_)
  refine ExsN.append ?_
  rw [s30.2]
  refine ExsN.cons (ExAt.toN (asgN Z (evCallN Z IM (rs := [.a df0, .a fl0, .a va, .r 1]) (by kernel_rfl) (by kernel_rfl) (ca as1) (by (first | lia | omega))) rfl (by kernel_rfl) rfl) (ExsN.nil ?_))
  show ExsN G (n + 6) 0 lawS (locZ df0 fl0 va D1 (.int (q : Nat)) [("before", .a (.lst [.lst [.str "list", D0, bes], TF, TV])), ("notes", .r 1), ("got", .a df1)]) [.well [] W0, .lst ((reps q).map RV.a)] _ _
  refine ExsN.append (block IM (names := nmZg) (loc' := locZ df0 fl0 va D1 (.int (q : Nat)) [("before", .a (.lst [.lst [.str "list", D0, bes], TF, TV])), ("got", .a df1)]) (hp' := [.well [] W0]) 1 (Nat.zero_le _) (by rcases sal' with rfl | rfl | rfl | rfl <;> kernel_rfl) ?_)
  refine ExsN.append ?_
  rw [s32.2]
  refine ExsN.cons (ifT (trCompare Z (evTold Z IM (by kernel_rfl) (c1 _) (by (first | lia | omega))) (IM.ev (by kernel_rfl)) (ne_of (by kernel_rfl)) rfl (cmp_self y1.2).2) (ExsN.nil (ExsN.nil ?_)))
  refine ExsN.append ?_
  rw [s33.2]
  refine ExsN.cons (ExAt.toN (asgN Z (evCallN Z IM (rs := [.a df1, .a fl0, .a va, .r 1]) (hp1 := [.well [] W0, .lst []]) (by kernel_rfl) (by kernel_rfl) (ca as2) (by (first | lia | omega))) rfl (by kernel_rfl) rfl) (ExsN.nil ?_))
  show ExsN G (n + 6) 0 lawS (locZ df0 fl0 va D1 (.int (q : Nat)) [("before", .a (.lst [.lst [.str "list", D0, bes], TF, TV])), ("got", .a df1), ("more", .a df1)]) [.well [] W0, .lst ((reps q).map RV.a)] _ _
  rw [s34.2]
  refine ExsN.cons (ExAt.toN (retN Z NM (evAnd Z NM (evCompare Z NM (evTold Z IM (by kernel_rfl) (c1 _) (by (first | lia | omega))) (evTold Z IM (by kernel_rfl) (c1 _) (by (first | lia | omega))) (ne_of (by kernel_rfl)) rfl (cmp_self y1.2).1)
    (evCompare Z NM (evList3 Z NM (evTold Z IM (by kernel_rfl) (c0 _) (by (first | lia | omega))) (evTold Z IM (by kernel_rfl) (cf _) (by (first | lia | omega))) (evTold Z IM (by kernel_rfl) (cv _) (by (first | lia | omega))) (ne_of (by kernel_rfl)) (ne_of (by kernel_rfl)) (ne_of (by kernel_rfl)) rfl rfl rfl (by kernel_rfl)) (IM.ev (by kernel_rfl)) (fun z => by cases z) rfl (cmp_self (l := [.lst [.str "list", D0, bes], TF, TV]) ?_).1) (fun z => by cases z))) rfl)
  rw [List.all_cons, List.all_cons, List.all_cons, y0, yf, yv]
  rfl
end
end Mine
end
section
open PySem PySem.W PyProof.Rows PySem.Calls
set_option maxRecDepth 100000
set_option maxHeartbeats 0
namespace Mine

noncomputable def s0 : { q : Pos × (CallP × Pos) × (Pos × Pos × Pos × Pos) × Scope × Pos × Pos // part 0 1 = [.Assign [.Name "well" q.1] (.ListComp (.Call (.Name "abs" q.2.1.1.1) [.Name "cell" q.2.1.1.2.1] [] q.2.1.1.2.2) [⟨.Name "cell" q.2.1.2, .Subscript (.Name "script" q.2.2.1.1) (.Slice none (some (.Constant (.int 40) 0 q.2.2.1.2.1)) none q.2.2.1.2.2.1) q.2.2.1.2.2.2, [], 0⟩] q.2.2.2.1 q.2.2.2.2.1) q.2.2.2.2.2] } := ⟨(_, ((_, _, _), _), (_, _, _, _), _, _, _), by rfl⟩
noncomputable def locW : Mine.Loc := [("well", .r 0)]
noncomputable def hpW (W : List Int) : Hp := [.lst (intsR W)]
noncomputable def absA : AV → AV
  | .int w => .int (w.natAbs : Nat)
  | v => v
noncomputable def wellW (W : List Int) : List Int := (W.take 40).map fun w => ((w.natAbs : Nat) : Int)

section
variable {G : Gnd} {glob : Str → Option Addr} {n N k : Nat} {ih : Ih} {A : Around} {E : Value → Shared → Prop} {s : Shared} {env : Env} {W W' F F0 F' T : List Addr} {ad ad0 ad1 ad' : Ad} {hp hp' hp1 hp2 : Hp} {h h' h'' : Heap} {scope : Scope} {x : Str} {sc sc' : Sc} {loc loc' loc0 loc1 : Loc} {X X' : Addr → Prop}
variable {K : Frag} {fI : Addr} {mg mb : Str → Option Value} {cfg : Cfg}

theorem ints_take {vs : List Value} {ns : List Int} (i : IntsAre vs ns) : ∀ k, IntsAre (vs.take k) (ns.take k) := by
  induction i with
  | nil => exact fun k => by rw [List.take_nil, List.take_nil]; exact .nil
  | cons n t r ih =>
    intro k
    cases k with
    | zero => exact .nil
    | succ k => exact .cons n t (ih k)
theorem le40 {α : Type} (l : List α) : (l.take 40).length ≤ 4096 := by rw [List.length_take]; exact Nat.le_trans (Nat.min_le_left _ _) (by decide)
theorem slice_iter (Z : Env0 G K fI glob mg mb cfg N) (H : HR G s.heap F [] []) (R : FRel G s.heap F [] [] env sc []) {m : Str → Option Value} {a : Addr} {vs : List Value} {ns : List Int} (hk : env.kindOf "script" = some .local) (hns : s.heap.Ns env.locals m) (hm : m "script" = some (.ref a)) (hl : s.heap.IsList a vs.toArray) (hi : IntsAre vs ns) (le : vs.length ≤ 1048576) {p1 p2 p3 p4 : Pos} {Q' : Value → Shared → Prop}
    (q : ∀ ad1 h1 tk1 v1, HR G h1 F ad1 [] → FRel G h1 F ad1 [] env sc [] → Go G [] F [] [] s.heap ad1 [] h1 → RVR G h1 (Xp G F ad1 []) ad1 (.a (.lst ((ns.take 40).map AV.int))) v1 → Q' v1 { s with heap := h1, toks := tk1 }) :
    wpAny (model G.prog G.w) A (eval (.Subscript (.Name "script" p1) (.Slice none (some (.Constant (.int 40) 0 p2)) none p3) p4) env) Q' E s := by
  refine Subscript_ (wpAny_Name (wpAny_loadName_local R.kind hk hns hm (wpAny_Slice ?_)) (by decide))
  refine wpAny_pure ?_
  show wpAny _ _ (eval (.Constant (.int 40) 0 p2) env) _ _ _
  refine wpAny_Constant_int ?_
  refine wpAny_pure ?_
  refine tail_any (Heap.IsList.typeIs (s := { s with heap := s.heap.push { cls := .type "slice", data := .fields #[.none, .int 40 s.toks, .none] }, toks := s.toks + 1 }) (hl.push _)) slot_list_getitem.lookup ?_ rfl
  refine wpAny_getItem_list_slice (hl.push _) (Heap.IsSliceOf.new ..) (ipart_is (p := none) rfl) (ipart_is (p := some 40) ⟨s.toks, rfl⟩) .none (by simp) ?_ (by rw [List.size_toArray, sizeLine_eq]; (first | lia | omega))
  have pk : slicePick vs.toArray (Option.map (fun (k : Nat) => (k : Int)) none) (Option.map (fun (k : Nat) => (k : Int)) (some 40)) none = (vs.take 40).toArray := by
    have := slicePick_upto' vs.toArray 40
    simpa using this
  rw [pk]
  have em : mkLst false (((ns.take 40).map AV.int).map RV.a) [] = some (.a (.lst ((ns.take 40).map AV.int)), []) := by
    unfold mkLst
    rw [Nat.ble_eq_true_of_le (by rw [List.length_map, List.length_map]; exact le40 ns), allA_map]
    rfl
  have rr : RVRs G s.heap (Xp G F [] []) [] (((ns.take 40).map AV.int).map RV.a) (vs.take 40) := by
    have := ints_rvrs (G := G) (h := s.heap) (ad := []) (X := Xp G F [] []) (ints_take hi 40)
    unfold intsR at this
    rw [List.map_map]
    exact this
  obtain ⟨_, ad', H', R', g⟩ := mkLst_at H (h' := (s.heap.push { cls := .type "slice", data := .fields #[.none, .int 40 s.toks, .none] }).push (listOf (vs.take 40).toArray 0)) (n := 0) (a := (s.heap.push { cls := .type "slice", data := .fields #[.none, .int 40 s.toks, .none] }).objs.size) em rr
    (fun b o e => push_keep b o (push_keep b o e)) (Nat.le_trans push_size push_size) (Heap.get?_push_size _ rfl) push_size
  exact q ad' _ _ _ H' (R.go H g) g R'
theorem abs_comp {fl : Loc} (e : ∀ w : Int, (run cfg2 60).ev sc (("cell", .a (.int w)) :: fl) [] x0 = some (.a (.int (w.natAbs : Nat)), [])) (ns : List Int) : comp (run cfg2 60) sc fl "cell" [] x0 ((ns.take 40).map AV.int) [] = some (intsR (wellW ns), []) := by
  rw [comp_plug (tF := absA) fun c hc => by
    obtain ⟨w, _, rfl⟩ := List.mem_map.mp hc
    exact e w]
  unfold intsR wellW
  rw [List.map_map, List.map_map]
  rfl
theorem stmt0 (Z : Env0 G K fI glob mg mb cfg2 N) (I : SIh G glob n (run cfg2 60)) (wr : WR W F env) (rm : Room A n) (H : HR G s.heap F [] []) (R : FRel G s.heap F [] [] env lawS []) {m : Str → Option Value} {a : Addr} {vs : List Value} {ns : List Int} (hk : env.kindOf "script" = some .local) (hns : s.heap.Ns env.locals m) (hm : m "script" = some (.ref a)) (hl : s.heap.IsList a vs.toArray) (hi : IntsAre vs ns) (le : vs.length ≤ 1048576) {Q : Flow → Shared → Prop}
    (q : ∀ ad' h' tk, HR G h' F ad' [.lst (intsR (wellW ns))] → FRel G h' F ad' [.lst (intsR (wellW ns))] env lawS [("well", .r 0)] → Go G W F [] [] s.heap ad' [.lst (intsR (wellW ns))] h' → Q .next { s with heap := h', toks := tk }) :
    wpAny (model G.prog G.w) A (execs (part 0 1) env) Q E s := by
  rw [s0.2]
  refine wpAny_execs_cons ?_
  have okc : compOk lawS s0.1.2.2.2.1 "cell" (.Subscript (.Name "script" s0.1.2.2.1.1) (.Slice none (some (.Constant (.int 40) 0 s0.1.2.2.1.2.1)) none s0.1.2.2.1.2.2.1) s0.1.2.2.1.2.2.2) = true := by kernel_rfl
  have e3 := abs_comp (sc := s0.1.2.2.2.1.names) (fl := freeOf s0.1.2.2.2.1.names []) (x0 := .Call (.Name "abs" s0.1.2.1.1.1) [.Name "cell" s0.1.2.1.1.2.1] [] s0.1.2.1.1.2.2) (fun w => by kernel_rfl) ns
  have e4 : mkLst true (intsR (wellW ns)) [] = some (.r 0, [.lst (intsR (wellW ns))]) := by
    unfold mkLst
    rw [Nat.ble_eq_true_of_le (by unfold intsR wellW; rw [List.length_map, List.length_map]; exact le40 ns)]
    rfl
  have e5 : assignI (run cfg2 60) lawS [] [.lst (intsR (wellW ns))] (.Name "well" s0.1.1) (.r 0) = some (locW, hpW (wellW ns)) := by kernel_rfl
  have fin : ∀ {s' : Shared} {A' : Around} {env' : Env}, Q .next s' → wpAny (model G.prog G.w) A' (execs [] env') Q E s' := fun z => wpAny_execs_nil z
  have hb : ∃ b, swapsWithSole [.Name "well" s0.1.1] (.ListComp (.Call (.Name "abs" s0.1.2.1.1.1) [.Name "cell" s0.1.2.1.1.2.1] [] s0.1.2.1.1.2.2) [⟨.Name "cell" s0.1.2.1.2, .Subscript (.Name "script" s0.1.2.2.1.1) (.Slice none (some (.Constant (.int 40) 0 s0.1.2.2.1.2.1)) none s0.1.2.2.1.2.2.1) s0.1.2.2.1.2.2.2, [], 0⟩] s0.1.2.2.2.1 s0.1.2.2.2.2.1) s0.1.2.2.2.2.2.line env = pure b := ⟨_, rfl⟩
  obtain ⟨b, hb⟩ := hb
  have wi : ∀ {Q' : Value → Shared → Prop}, (∀ ad1 h1 tk1 v1, HR G h1 F ad1 [] → FRel G h1 F ad1 [] env lawS [] → Go G [] F [] [] s.heap ad1 [] h1 → RVR G h1 (Xp G F ad1 []) ad1 (.a (.lst ((ns.take 40).map AV.int))) v1 → Q' v1 { s with heap := h1, toks := tk1 }) → wpAny (model G.prog G.w) A (eval (.Subscript (.Name "script" s0.1.2.2.1.1) (.Slice none (some (.Constant (.int 40) 0 s0.1.2.2.1.2.1)) none s0.1.2.2.1.2.2.1) s0.1.2.2.1.2.2.2) env) Q' E s := fun q' => slice_iter Z H R hk hns hm hl hi le q'
  have ok : tgtOk (.Name "well" s0.1.1) (.ListComp (.Call (.Name "abs" s0.1.2.1.1.1) [.Name "cell" s0.1.2.1.1.2.1] [] s0.1.2.1.1.2.2) [⟨.Name "cell" s0.1.2.1.2, .Subscript (.Name "script" s0.1.2.2.1.1) (.Slice none (some (.Constant (.int 40) 0 s0.1.2.2.1.2.1)) none s0.1.2.2.1.2.2.1) s0.1.2.2.1.2.2.2, [], 0⟩] s0.1.2.2.2.1 s0.1.2.2.2.2.1) = true := rfl
  cases b with
  | false =>
    refine wpAny_Assign_stores ?_ hb (swapped_none ok)
    rw [eval_ListComp]
    refine comp_run2 Z I (v := .a (.lst ((ns.take 40).map AV.int))) okc rfl e3 e4 rm H R wi fun D C ad1 h1 tk1 d => ?_
    obtain ⟨m', ns'⟩ := d.ns
    refine ⟨m', ns', fun g sb => ?_⟩
    have w := d.end H R sb
    show wpAny _ _ (assignAll (.ref D) ((assignEach [.Name "well" s0.1.1] env).map (·.2))) _ _ _
    rw [asg_one ok]
    exact assign_sound (s := { s with heap := g, toks := tk1 }) I Z.hi e5 rm wr w.hr w.fr w.rv fun ad2 h2 tk2 H2 R2 g2 => fin (q ad2 h2 tk2 H2 R2 ((w.go.wide nil_sub).trans g2))
  | true =>
    rw [exec_Assign_arm]
    refine wpAny_bind (wpAny_standAt ?_)
    rw [hb]
    refine wpAny_bind (wpAny_pure ?_)
    rw [if_pos rfl]
    refine wpAny_bind ?_
    show wpAny _ _ (comprehension _ _ env _ (newList []) false (eval _ env) (some fun v => assignAll v ((assignEach [.Name "well" s0.1.1] env).map (·.2))) >>= fun _ => pure ()) _ _ _
    refine wpAny_bind (comp_run2 Z I (v := .a (.lst ((ns.take 40).map AV.int))) okc rfl e3 e4 rm H R wi fun D C ad1 h1 tk1 d => ?_)
    show wpAny _ _ (assignAll (.ref D) ((assignEach [.Name "well" s0.1.1] env).map (·.2))) _ _ _
    rw [asg_one ok]
    refine assign_sound (s := { s with heap := h1, toks := tk1 }) I Z.hi e5 rm (wr.more fun b hb => .tail _ hb) d.hr d.fr d.rv fun ad2 h2 tk2 H2 R2 g2 => ?_
    obtain ⟨m', ns'⟩ := d.ns
    exact ⟨m', nsAt0 ns' (d.keepC H wr g2), fun g sb => wpAny_pure (wpAny_pure (fin (have w := d.wrote H R sb H2 R2 g2; q ad2 g tk2 w.1 w.2.1 w.2.2)))⟩
end
end Mine
end
section
open PySem PySem.W PyProof.Rows PySem.Calls
set_option maxRecDepth 100000
set_option maxHeartbeats 0
namespace Mine

section
variable {G : Gnd} {glob : Str → Option Addr} {n N k : Nat} {ih : Ih} {A : Around} {E : Value → Shared → Prop} {s : Shared} {env : Env} {W W' F F0 F' T : List Addr} {ad ad0 ad1 ad' : Ad} {hp hp' hp1 hp2 : Hp} {h h' h'' : Heap} {scope : Scope} {x : Str} {sc sc' : Sc} {loc loc' loc0 loc1 : Loc} {X X' : Addr → Prop}
variable {K : Frag} {fI : Addr} {mg mb : Str → Option Value} {cfg : Cfg} {P P' : MPost}

theorem ar_true {w : Value} (r : AR G h X (.bool true) w) : w = .bool true := r.inv
theorem Cv.well {W1 : List Int} (nn : ∀ x ∈ W1, 0 ≤ x) (le : W1.length ≤ 64) : Cv G k sc loc [.lst (intsR W1)] loc [.well [] W1] := fun h F ad env H R => by
  have own : ∀ b, Own ad [.well [] W1] b → Own ad [.lst (intsR W1)] b := fun b => own_1 (o := .lst (intsR W1)) (o' := .well [] W1) fun _ => rfl
  exact ⟨ad, well_hr H nn le rfl, R.conv (fun _ z => z) fun y rv e => ⟨rv, e, fun w r => r.weaken fun b x => x.imp id fun y => y.imp id (own b)⟩, own, fun _ _ _ e => e⟩
theorem wellW_ok (ns : List Int) : (∀ x ∈ wellW ns, 0 ≤ x) ∧ (wellW ns).length ≤ 64 := by
  unfold wellW
  refine ⟨fun x hx => ?_, by rw [List.length_map, List.length_take]; exact Nat.le_trans (Nat.min_le_left _ _) (by decide)⟩
  obtain ⟨w, _, e⟩ := List.mem_map.mp hx
  rw [← e]; exact Int.natCast_nonneg _
theorem law_rest (Z : Env0 G K fI glob mg mb cfg2 N) (I : SIh G glob n (run cfg2 60)) (nN : N ≤ n) (hv : G.val = val) {W0 : List Int} : ExsN G (n + 6) 0 lawS locW [.well [] W0] (lawB.drop 1) (fun fl _ _ => fl = .ret (.a (.bool true))) := by
  have IM : SIh G glob (n + 6) (run cfg2 60) := SIh.up I (Nat.le_add_right _ _)
  rw [show lawB.drop 1 = part 1 8 ++ (part 9 1 ++ (part 10 3 ++ (part 13 5 ++ (part 18 1 ++ (part 19 8 ++ (part 27 1 ++ part 28 7)))))) from by kernel_rfl]
  refine ExsN.append (segA IM fun w t W1 w1 w3 ht => ExsN.append (segB Z IM ⟨w1, w3⟩ ht fun cols W2 hc ok => ExsN.append (segC Z IM ⟨w1, w3⟩ ht hc ok fun bss W3 hb hr => ExsN.append ?_)))
  have len9 : bss.flatten.length ≤ 9 := by
    rw [flat_len hr, hb]
    exact Nat.mul_le_mul w3 ht
  have go : ∀ (b : Nat) (W4 : List Int), b < 2 → ExsN G (n + 6) 0 lawS (locD w t (.lst (cols.map srtV)) (.lst (cols.map tabV)) (.lst (cols.map colV)) (.lst (bss.flatten.map bitA)) (dfV w t b (cols.map colV)) (flV w t (bss.flatten.map bitA)) []) [.well [] W4] (part 18 1 ++ (part 19 8 ++ (part 27 1 ++ part 28 7))) (fun fl _ _ => fl = .ret (.a (.bool true))) := fun b W4 hb2 => by
    refine ExsN.append (segS Z IM len9 (ExsN.append (segE IM (Nat.le_trans (cnt_le _) len9) fun fs fd W5 hf hne hl9 h7 => ?_)))
    have hz : 1 ≤ fd.length ∧ fd.length ≤ 9 := ⟨List.length_pos_iff.mpr hne, hl9⟩
    exact ExsN.append (segF Z IM hv ⟨w1, w3⟩ ht hf hc ok hb hr hz h7 (segG Z I nN hv ⟨w1, w3⟩ ht hf hb2 hc ok hb hr hz h7))
  refine segD IM ⟨w1, w3⟩ ht (cs := cols.map colV) (tl := bss.flatten.map bitA) (by rw [List.length_map, hc]) (by rw [List.length_map, flat_len hr, hb]) fun b W4 => ?_
  cases b with
  | zero => exact go 0 W4 (by decide)
  | succ b => exact go 1 W4 (by decide)
theorem law_call (Z : Env0 G K fI glob mg mb cfg2 N) (I : SIh G glob n (run cfg2 60)) (nN : N ≤ n) (hv : G.val = val) {fa a : Addr} {vl : List Value} {ns : List Int} (eg : glob "law" = some fa) (H : HR G s.heap F [] []) (hList : s.heap.IsList a vl.toArray) (hi : IntsAre vl ns) (le : vl.length ≤ 1048576) (rm : Room A (n + 7)) {Q : Value → Shared → Prop}
    (q : ∀ ad' hp' h' tk, HR G h' F ad' hp' → Q (.bool true) { s with heap := h', toks := tk }) : wpAny (model G.prog G.w) A (call (.ref fa) [.ref a]) Q E s := by
  have et : cfg2.tab "law" = some f96.1 := by kernel_rfl
  obtain ⟨fa', eg', ⟨f⟩⟩ := Z.gf _ _ et
  rw [eg] at eg'
  cases eg'
  refine wpAny_call ?_
  let vs : List Value := [.ref a]
  let d : FD := f96.1
  have lv : vs.length = d.params.length := by kernel_rfl
  have kp := H.base
  have hnames : (d.params.zip vs).map (·.1) = d.params := List.map_fst_zip (by rw [lv]; exact Nat.le_refl _)
  have kinds : ∀ x ∈ d.params, d.names.lookup x = some .local ∨ d.names.lookup x = some .cell := fun x hx => by
    rw [← alook_eq]
    exact isLoc_or (List.all_eq_true.mp (by kernel_rfl : d.params.all (isLoc d.names) = true) x hx)
  refine codeAny_call_function (a := fa) (o := f.o) (fd := f.fd) (by have := rm.2.1; (first | lia | omega)) (kp _ _ f.at_) f.data f.co f.gen f.body (f.code.keeps kp) (f.bind s vs kp lv _ _ _ _ ?_)
  rw [f.clo]
  refine wpAny_newFunctionEnv_cells f.kind (fun x hx => ?_) fun env he s1 x => ⟨(f.lim.keeps kp).keeps x.toInCall.keep, codeAny_func ?_⟩
  · rw [f.names]
    have hx' : x.1 ∈ d.params := by rw [← hnames]; exact List.mem_map_of_mem hx
    rcases kinds x.1 hx' with z | z
    · exact .inl z
    · exact .inr ⟨z, cells_has _ _ _ _ (.inl (by rw [z]))⟩
  · have hk : env.kindOf = fun y => d.names.lookup y := by
      subst he; funext y; show f.fd.scope.names.lookup y = _; rw [f.names]
    have hl : env.locals = s.heap.objs.size := by subst he; rfl
    have hsc : env.scope.kind = .function := by subst he; exact f.kind
    have hgl : env.globals = mainGlobals := by subst he; exact f.globals
    have hbl : env.builtins = builtinsNs := by subst he; exact f.builtins
    have hcs : env.cells = cellsFrom (s.heap.objs.size + 1) d.names [] := by
      subst he; show cellsFrom _ f.fd.scope.names [] = _; rw [f.names]
    clear he
    obtain ⟨h1, tk, rfl⟩ := x.toInCall.same
    have keep : ∀ b o, s.heap.get? b = some o → h1.get? b = some o := x.toInCall.keep
    have ltL : env.locals < h1.objs.size := by obtain ⟨o, _, _, eo, _⟩ := x.toInCall.ns; exact Heap.lt_size eo
    have hz : s.heap.objs.size ≤ h1.objs.size := by rw [← hl]; exact Nat.le_of_lt ltL
    have hc : ∀ y c, env.cells.lookup y = some c → s.heap.objs.size ≤ c ∧ c < h1.objs.size ∧ c ≠ env.locals := fun y c ec => by
      have a1 := x.above y c (mem_of_lookup ec)
      have a2 := (x.cell y c ec).lt
      rw [hl] at a1 ⊢
      exact ⟨Nat.le_of_lt a1, a2, Nat.ne_of_gt a1⟩
    let Wf : List Addr := env.locals :: env.cells.filterMap fun p => if env.cells.lookup p.1 = some p.2 then some p.2 else none
    have wm : ∀ b ∈ Wf, b = env.locals ∨ ∃ y, env.cells.lookup y = some b := fun b hb => by
      rcases List.mem_cons.mp hb with z | hb
      · exact .inl z
      · obtain ⟨p, _, e⟩ := List.mem_filterMap.mp hb
        split at e
        · rename_i z; cases e; exact .inr ⟨_, z⟩
        · cases e
    have cm : ∀ y c, env.cells.lookup y = some c → c ∈ Wf := fun y c ec => .tail _ (List.mem_filterMap.mpr ⟨(y, c), mem_of_lookup ec, by rw [if_pos ec]⟩)
    have hD : ∀ b ∈ Wf ++ F, b ∈ F ∨ s.heap.objs.size ≤ b ∧ b < h1.objs.size := fun b hb => by
      rcases List.mem_append.mp hb with hb | hb
      · rcases wm b hb with rfl | ⟨y, ec⟩
        · exact .inr ⟨by rw [hl]; exact Nat.le_refl _, ltL⟩
        · exact .inr ⟨(hc y b ec).1, (hc y b ec).2.1⟩
      · exact .inl hb
    have H1 : HR G h1 (Wf ++ F) [] [] := H.guard keep hz hD
    have S := guard_stay H keep hD
    have R1 : FRel G h1 (Wf ++ F) [] [] env d.names [] := by
      refine ⟨hsc, hgl, hbl, fun y e => by rw [hk]; rw [alook_eq] at e; exact e, fun y e => by rw [hk]; rw [alook_eq] at e; exact e, fun y e => ?_, fun y e => by rw [hk]; rw [alook_eq] at e; exact e, ?_, fun y rv e => ?_, ⟨_, x.toInCall.ns, fun y rv e k => ?_⟩, fun y k => ?_, fun y z c e1 e2 => ?_, List.mem_append_left _ (.head _)⟩
      · rw [alook_eq] at e; exact absurd e (f.noFree y)
      · rw [hk]; exact f.nodbg
      · cases e
      · cases e
      · have k : env.kindOf y = some .cell := by
          rcases k with k | k
          · exact k
          · rw [hk] at k; exact absurd k (f.noFree y)
        have : (env.cells.lookup y).isSome = true := by
          rw [hcs]; rw [hk] at k; exact cells_has _ _ _ _ (.inl k)
        obtain ⟨c, ec⟩ := Option.isSome_iff_exists.mp this
        refine ⟨c, _, ec, x.cell y c ec, List.mem_append_left _ (cm y c ec), (hc y c ec).2.2, fun rv e => ?_⟩
        cases e
      · exact name_of_addr x.apart (mem_of_lookup e1) (mem_of_lookup e2)
    have wr : WR Wf (Wf ++ F) env := ⟨fun b hb => List.mem_append_left _ hb, .head _, cm⟩
    have rm' : Room (A.deeper env) (n + 6) := room_deeper rm
    have ks : env.kindOf "script" = some .local := by rw [hk]; kernel_rfl
    obtain ⟨m, em⟩ : ∃ m, m = bindL env.kindOf (d.params.zip vs) (fun _ => none) := ⟨_, rfl⟩
    have hm : m "script" = some (.ref a) := by rw [em]; exact bindL_at (by rw [hnames]; exact f.nodup) (by kernel_rfl) ks
    have hns : h1.Ns env.locals m := by rw [em]; exact x.toInCall.ns
    show wpAny _ _ (execs lawB env) _ _ _
    rw [show lawB = part 0 1 ++ lawB.drop 1 from by kernel_rfl, execs_append]
    have hl1 : h1.IsList a vl.toArray := by
      obtain ⟨o, e1, e2, e3⟩ := hList
      exact ⟨o, keep _ _ e1, e2, e3⟩
    refine wpAny_bind (stmt0 (s := { s with heap := h1, toks := tk }) Z (SIh.up I (Nat.le_add_right n 6)) wr rm' H1 R1 ks hns hm hl1 hi le fun ad2 h2 tk2 H2 R2 g2 => ?_)
    obtain ⟨nn, l64⟩ := wellW_ok ns
    have X := ExsN.pre (Cv.well nn l64) (law_rest Z I nN hv (W0 := wellW ns))
    refine X (A.deeper env) _ env Wf (Wf ++ F) ad2 { s with heap := h2, toks := tk2 } _ rm' wr H2 R2 ?_
    rintro fl l3 hp3 rfl ad3 h3 tk3 fl3 H3 R3 g3 r3
    obtain ⟨w, rfl, r4⟩ := r3
    have r4 : AR G h3 _ (.bool true) w := r4
    rw [ar_true r4]
    exact q ad3 hp3 h3 tk3 (H3.less fun b hb => List.mem_append_right _ hb)
end
end Mine
end
section
open PySem PySem.W PyProof.Rows PySem.Calls
set_option maxRecDepth 1000000
set_option maxHeartbeats 4000000
namespace Mine
noncomputable def aL : List (Nat × Str × Addr) := [(237374653509114040060798465534231326119585121174454, (("character" : Str), 89)), (251617142733529683116496155502205867285028557095895, (("is_vector" : Str), 103)), (251617142733529683080449479303197029341797242897345, (("is_atomic" : Str), 110)), (178720886230343785656746520, (("share" : Str), 117)), (219453419634374340602420922485238011081392998, (("from_int" : Str), 148)), (405951582526419046049391703556035776980412070259037666889376292118832022909, (("nearest_whole" : Str), 183)), (217322817519273315401899392785747494015140729, (("exponent" : Str), 190)), (317354574965357296280602841420369985221919515536646997069, (("whole_text" : Str), 197)), (380785172486085666354435306612550568287825029030021707138243414394129, (("special_text" : Str), 204)), (199115255017266789392021068579442, (("scaled" : Str), 211)), (341783240893210229593477003600861582355823343062787489529922714, (("significant" : Str), 218)), (393915663569638744731759961747494402280660874237428458568668167210281, (("without_tail" : Str), 225)), (272396047861842057125084639884723722201487393002011690046, (("fixed_text" : Str), 239)), (234367689899250116958467606006012113710875501, (("measures" : Str), 246)), (294640760929532738926651548137544805762814514648743582128407710, (("chosen_form" : Str), 253)), (176800650123592386433036333220483, (("formed" : Str), 260)), (328263122706313046207015140745818767319901908765953078128565200946476, (("common_texts" : Str), 265)), (327051248466445450600602110291029216907337448201622588853060792, (("number_text" : Str), 273)), (221584008362786895585671113367833986583888738, (("get_attr" : Str), 322)), (288263745157939169222409198941838954683154959639860413486, (("label_text" : Str), 329)), (321158385909147081639885979860689023318913821549243804850128034, (("label_texts" : Str), 341)), (236498295839144533694091014893406803008095056, (("names_of" : Str), 346)), (173367621897555299329113051562612, (("dim_of" : Str), 353)), (264462196839976762296158273408058941855253293516068684858, (("class_attr" : Str), 365)), (251617142733529683089031997484590392899386010829763, (("is_factor" : Str), 372)), (380785151861275640842128355983006223467329600061180377275183728362789, (("single_texts" : Str), 379)), (376693821814069501852809966164300564173573835508769316806782840289871201654, (("factor_levels" : Str), 386)), (263485834394710315376500411815608120963321901417405, (("new_frame" : Str), 391)), (272396069225491734532803524857921245052097938930811798591, (("frame_rows" : Str), 398)), (328263122706310401606624074473292189032071355397660075848316905129229, (("column_names" : Str), 403)), (285619135271929794761957831293020486426656290940974859339, (("kept_attrs" : Str), 410)), (285619144766902725284170326873283052605119199240082162731, (("kind_order" : Str), 417)), (294640779441863658540036011379293453464686162803678100579943577, (("common_kind" : Str), 424)), (309420733438484107494281318438989971525787519663543944250, (("to_integer" : Str), 466)), (277728321488470296536095882969838322267483500053446, (("to_double" : Str), 473)), (223749300249628068354014142341131141902, (("to_text" : Str), 480)), (202713067909068622257235033037207044841, (("item_as" : Str), 487)), (431903213582026341775952493716836306715759538072027471735767657866122121692579275, (("is_atomic_kind" : Str), 494)), (317354577339112247285897742865166850160305618532639769657, (("with_names" : Str), 520)), (187413981884829054498059889501769499360, (("as_kind" : Str), 525)), (338110965237879372965587840878169955986128714107275747971451113637112, (("factor_codes" : Str), 539)), (285619144766902725284170326873273808431624977138441258033, (("kind_items" : Str), 546)), (298842270156929058593005653453291282965024691248463152186, (("put_places" : Str), 553)), (321697878637774625597595270392332651389208122125877543074121253061885, (("assign_flags" : Str), 558)), (227879684839788408237130334682467751665681387488183, (("_law_pair" : Str), 572)), (227879684839788408237130334682473283244196137468862, (("_law_told" : Str), 577)), (282855152178207755676715394481108856386342659913160086508995743, (("_law_turned" : Str), 582)), (135296116851015, (("law" : Str), 587)), (204539113034125271168301899971054244041851719, (("_law_dip" : Str), 565))]
noncomputable def aLook (f : Str) (n : Nat) : List (Nat × Str × Addr) → Option Addr
  | [] => none
  | (m, x, a) :: r => match Nat.beq m n with
    | true => match lbeq f.cps.toList x.cps.toList with
      | true => some a
      | false => none
    | false => aLook f n r
noncomputable def globOf (f : Str) : Option Addr := aLook f (code f) aL
theorem aLook_mem {f : Str} {n : Nat} {a : Addr} : ∀ {l : List (Nat × Str × Addr)}, aLook f n l = some a → ∃ m, (m, f, a) ∈ l
  | [], e => by cases e
  | (m, x, b) :: r, e => by
    unfold aLook at e
    split at e
    · split at e
      · rename_i z
        cases e
        have : f = x := str_ext (lbeq_iff.mp z)
        subst this
        exact ⟨m, .head _⟩
      · cases e
    · obtain ⟨m', h⟩ := aLook_mem e
      exact ⟨m', .tail _ h⟩
noncomputable def nsAll (K : Frag) : List (Nat × Str × Addr) → Bool
  | [] => true
  | (_, x, a) :: r => (match nsIn K mainGlobals x with | some (some (.ref b)) => Nat.beq a b | _ => false) && keepIn K (.ref a) && nsAll K r
theorem nsAll_ok {K : Frag} {m : Nat} {f : Str} {a : Addr} : ∀ {l : List (Nat × Str × Addr)}, nsAll K l = true → (m, f, a) ∈ l → nsIn K mainGlobals f = some (some (.ref a)) ∧ keepIn K (.ref a) = true
  | (_, x, b) :: r, e, h => by
    unfold nsAll at e
    rw [Bool.and_eq_true, Bool.and_eq_true] at e
    rcases List.mem_cons.mp h with z | h
    · cases z
      refine ⟨?_, e.1.2⟩
      have e1 := e.1.1
      split at e1
      · rename_i q; rw [q, Nat.eq_of_beq_eq_true e1]
      · cases e1
    · exact nsAll_ok e.2 h
noncomputable def initP : List Pos := [⟨15, 8, 15, 12⟩, ⟨15, 8, 15, 17⟩, ⟨15, 20, 15, 24⟩, ⟨15, 8, 15, 24⟩, ⟨16, 8, 16, 12⟩, ⟨16, 8, 16, 18⟩, ⟨16, 21, 16, 26⟩, ⟨16, 8, 16, 26⟩, ⟨17, 8, 17, 12⟩, ⟨17, 8, 17, 18⟩, ⟨17, 21, 17, 26⟩, ⟨17, 8, 17, 26⟩,
  ⟨18, 8, 18, 12⟩, ⟨18, 8, 18, 19⟩, ⟨18, 22, 18, 27⟩, ⟨18, 8, 18, 27⟩, ⟨19, 8, 19, 12⟩, ⟨19, 8, 19, 18⟩, ⟨19, 21, 19, 26⟩, ⟨19, 8, 19, 26⟩]

noncomputable abbrev FObs := Bool × FuncBody × List (Str × NameKind) × List Str × Bool
noncomputable def fnObs (K : Frag) (a : Addr) : FObs := (fun fd => ((fdOf K a).isSome, fd.body, fd.scope.names, fd.params.args.map (·.arg), fdChk K fd)) ((fdOf K a).getD default)
noncomputable def fnExp (d : FD) : FObs := (true, .stmts d.body, d.names, d.params, true)
theorem fnOk_of {K : Frag} {a : Addr} {d : FD} (e : fnObs K a = fnExp d) : FnOk K a d := by
  unfold fnObs fnExp at e
  simp only [Prod.mk.injEq] at e
  exact ⟨e.1, e.2.1, e.2.2.1, e.2.2.2.1, e.2.2.2.2⟩

/-- what is asked of the top's objects: all in one look -/
noncomputable def askN : List Str := ["Vector", "isinstance", "len", "list", "range", "abs", "str", "int", "max", "sum", "sorted"]
noncomputable def ansN : List (Option (Option Value)) := [some (some (.ref 78)), some none, some none, some none, some none, some none, some none, some none, some none, some none, some none]
noncomputable def askF : List Str := ["kind", "items", "attrs", "shared", "loose", "__setattr__", "__init__"]
noncomputable def ansF : List (Option (Option Value)) := [some none, some none, some none, some none, some none, some (some (.builtin "object.__setattr__")), some (some (.ref 68))]
noncomputable def tupIs (K : Frag) : Bool := match K.lookup 61 with
  | some ⟨_, _, .seq xs _, _⟩ => (match xs.toList with | [.none] => true | _ => false)
  | _ => false
noncomputable abbrev KObs := Bool × List FObs × FObs × Value × List (Option (Option Value)) × List (Option (Option Value)) × Option Value
noncomputable def obsK (K : Frag) : KObs := (nsAll K aL && plainGet K 78 "kind" && hasDictIn K 78 && plainOver K 78 && makesIn K 78 && keepIn K (.ref 78) && tupIs K,
  aL.map (fun p => fnObs K p.2.2), fnObs K 68, ((fdOf K 68).getD default).defaults, askN.map (nsIn K mainGlobals), askF.map (findIn K (.ref 78)), typeIn K (.ref 68))
noncomputable def tabM : List (Nat × Str × FD) := tabL ++ [(204539113034125271168301899971054244041851719, (("_law_dip" : Str), fdip.1))]
noncomputable def expK : KObs := (true, tabM.map (fun p => fnExp p.2.2), (true, .stmts (initStmts (fun i => (nth initP i.val).getD default) (fun _ => 0)), [(("self" : Str), NameKind.local), (("kind" : Str), NameKind.local), (("items" : Str), NameKind.local), (("attrs" : Str), NameKind.local)], [("self" : Str), ("kind" : Str), ("items" : Str), ("attrs" : Str)], true),
  .ref 61, ansN, ansF, some (.type "function"))
noncomputable def KF (h : Heap) : Prop := ∃ K : Frag, obsK K = expK ∧ K.In h
noncomputable def fragAt (h : Heap) (as : List Addr) : Frag := as.filterMap fun a => (h.get? a).map (a, ·)
theorem fragAt_in {h : Heap} : ∀ {as : List Addr}, (fragAt h as).In h
  | [], a, o, e => by cases e
  | b :: r, a, o, e => by
    have ih := @fragAt_in h r
    unfold fragAt at e ih
    rw [List.filterMap_cons] at e
    cases q : h.get? b with
    | none => rw [q] at e; exact ih a o e
    | some x =>
      rw [q] at e
      simp only [Option.map_some, List.lookup_cons] at e
      split at e
      · rename_i z; cases e; rw [beq_iff_eq.mp z]; exact q
      · exact ih a o e
end Mine
end
section
open PySem PySem.W PyProof.Rows PySem.Calls
set_option maxRecDepth 1000000
set_option maxHeartbeats 4000000
namespace Mine

theorem look_both {K : Frag} {f : Str} {n : Nat} {d : FD} : ∀ {l : List (Nat × Str × Addr)} {m : List (Nat × Str × FD)}, l.map (fun p => (p.1, p.2.1)) = m.map (fun p => (p.1, p.2.1)) → l.map (fun p => fnObs K p.2.2) = m.map (fun p => fnExp p.2.2) → tabLook f n m = some d → ∃ a, aLook f n l = some a ∧ fnObs K a = fnExp d
  | [], [], _, _, h => by cases h
  | (p, x, a) :: l, (q, y, c) :: m, e1, e2, h => by
    simp only [List.map_cons, List.cons.injEq, Prod.mk.injEq] at e1 e2
    obtain ⟨⟨rfl, rfl⟩, e1⟩ := e1
    have ih := look_both (f := f) (n := n) (d := d) e1 e2.2
    unfold tabLook at h
    unfold aLook
    cases q1 : Nat.beq p n with
    | true =>
      rw [q1] at h
      dsimp only at h ⊢
      cases q2 : lbeq f.cps.toList x.cps.toList with
      | true => rw [q2] at h; cases h; exact ⟨a, rfl, e2.1⟩
      | false => rw [q2] at h; cases h
    | false => rw [q1] at h; exact ih h
theorem tabLook_app {f : Str} {n : Nat} {d : FD} {r : List (Nat × Str × FD)} : ∀ {m : List (Nat × Str × FD)}, tabLook f n m = some d → tabLook f n (m ++ r) = some d
  | (q, y, c) :: m, h => by
    rw [List.cons_append]
    unfold tabLook at h ⊢
    split at h
    · exact h
    · exact tabLook_app h
theorem tab_ok {K : Frag} (e : obsK K = expK) {f : Str} {d : FD} (h : tabOf f = some d) : ∃ fa, globOf f = some fa ∧ FnOk K fa d := by
  obtain ⟨a, h1, h2⟩ := look_both (by kernel_rfl) (congrArg (·.2.1) e) (tabLook_app h)
  exact ⟨a, h1, fnOk_of h2⟩
theorem dip_ok {K : Frag} (e : obsK K = expK) : FnOk K 565 fdip.1 := by
  obtain ⟨a, h1, h2⟩ := look_both (f := "_law_dip") (n := 204539113034125271168301899971054244041851719) (d := fdip.1) (by kernel_rfl) (congrArg (·.2.1) e) (by kernel_rfl)
  cases (show some 565 = some a from h1)
  exact fnOk_of h2
theorem ini_ok {K : Frag} (e : obsK K = expK) : fnObs K 68 = expK.2.2.1 := congrArg (·.2.2.1) e
theorem bit_ok {K : Frag} (e : obsK K = expK) : nsAll K aL = true ∧ plainGet K 78 "kind" = true ∧ hasDictIn K 78 = true ∧ plainOver K 78 = true ∧ makesIn K 78 = true ∧ keepIn K (.ref 78) = true ∧ tupIs K = true := by
  have := congrArg (·.1) e
  have : (_ && _) = true := this
  simp only [Bool.and_eq_true] at this
  obtain ⟨⟨⟨⟨⟨⟨a, b⟩, c⟩, d⟩, f⟩, g⟩, h⟩ := this
  exact ⟨a, b, c, d, f, g, h⟩
theorem ns_ok {K : Frag} (e : obsK K = expK) {i : Nat} {x : Str} {v : Option (Option Value)} (h1 : nth askN i = some x) (h2 : nth ansN i = some v) : nsIn K mainGlobals x = v := by
  have e : askN.map (nsIn K mainGlobals) = ansN := congrArg (·.2.2.2.2.1) e
  rw [← e] at h2
  have : ∀ (l : List Str) i, nth l i = some x → nth (l.map (nsIn K mainGlobals)) i = some v → nsIn K mainGlobals x = v := by
    intro l
    induction l with
    | nil => intro i h; cases i <;> cases h
    | cons y l ih => intro i h h'; cases i with
      | zero => cases h; cases h'; rfl
      | succ i => exact ih i h h'
  exact this _ _ h1 h2
theorem fi_ok {K : Frag} (e : obsK K = expK) {i : Nat} {x : Str} {v : Option (Option Value)} (h1 : nth askF i = some x) (h2 : nth ansF i = some v) : findIn K (.ref 78) x = v := by
  have e : askF.map (findIn K (.ref 78)) = ansF := congrArg (·.2.2.2.2.2.1) e
  rw [← e] at h2
  have : ∀ (l : List Str) i, nth l i = some x → nth (l.map (findIn K (.ref 78))) i = some v → findIn K (.ref 78) x = v := by
    intro l
    induction l with
    | nil => intro i h; cases i <;> cases h
    | cons y l ih => intro i h h'; cases i with
      | zero => cases h; cases h'; rfl
      | succ i => exact ih i h h'
  exact this _ _ h1 h2
theorem bind_short {s : Shared} {fd : FuncData} {a b c : Value} {n : Nat} (hp : fd.params.posonlyargs = []) (hk : fd.params.kwonlyargs = []) (hv : fd.params.vararg = none) (hw : fd.params.kwarg = none)
    (hn : fd.params.args.map (·.arg) = [("self" : Str), ("kind" : Str), ("items" : Str), ("attrs" : Str)]) (hd : ∀ (M : Model) (A : Around) (E : Value → Shared → Prop) (Q : Option (Array Value) → Shared → Prop), Q (some #[.none]) s → wpAny M A (seqItems? fd.defaults) Q E s) :
    BindsTo s fd ⟨[a, b, c], []⟩ [("self", a), ("kind", b), ("items", c), ("attrs", .none)] := by
  intro M A E Q hq
  unfold bindArgs
  simp only [hp, hk, hv, hw, hn, List.map_nil, List.nil_append, List.append_nil, List.forIn_nil, pure_bind]
  refine wpAny_bind (hd M A E _ ?_)
  exact wpAny_pure hq

theorem rng_at {m k : Nat} {p : Nat → Bool} (e : (List.range m).all p = true) (z : k < m) : p k = true := List.all_eq_true.mp e k (List.mem_range.mpr z)
theorem valB : ((List.range 40).all fun c => (List.range 7).all fun d => lay 1 (val c d)) = true := by kernel_rfl
theorem val_six {c d : Nat} (hd : ¬ d < 6) (h0 : ¬ c = 0) : val c d = val c 6 := by
  unfold val cdig
  simp only [if_neg hd, if_neg h0, if_neg (by decide : ¬ (6 : Nat) < 6)]
theorem val_none {c d : Nat} (hc : 40 ≤ c) : val c d = .none := by
  have n : ∀ m, m ≤ 40 → ¬ c < m := fun m h => Nat.not_lt.mpr (Nat.le_trans h hc)
  unfold val
  rw [if_neg (fun z => n 1 (by decide) (by rw [z]; decide)), if_neg (n 20 (by decide)), if_neg (n 24 (by decide)), if_neg (n 28 (by decide)), if_neg (n 32 (by decide)), if_neg (n 36 (by decide)), if_neg (n 40 (by decide))]
theorem val_lay (c d : Nat) : lay 1 (val c d) = true := by
  rcases Nat.lt_or_ge c 40 with hc | hc
  · rcases Decidable.em (d < 6) with hd | hd
    · exact rng_at (rng_at valB hc) (Nat.lt_succ_of_lt hd)
    · rcases Decidable.em (c = 0) with h0 | h0
      · rw [h0]; exact rfl
      · rw [val_six hd h0]; exact rng_at (rng_at valB hc) (by decide)
  · rw [val_none hc]; exact rfl

noncomputable abbrev lawProg : Program := PySem.Challenge.rw_sm0100_01.row.prog
noncomputable abbrev gnd (w : World) (h : Heap) : Gnd := ⟨lawProg, w, h, 78, val⟩
section
variable {w : World} {h : Heap} {mg mb : Str → Option Value}
theorem hi_law {K : Frag} (e : obsK K = expK) (KX : K.In h) : HI (gnd w h) K 68 where
  kin := KX
  ga := (bit_ok e).2.1
  hd := (bit_ok e).2.2.1
  fk := fi_ok e (i := 0) rfl rfl
  fi := fi_ok e (i := 1) rfl rfl
  fa := fi_ok e (i := 2) rfl rfl
  fs := fi_ok e (i := 3) rfl rfl
  fl := fi_ok e (i := 4) rfl rfl
  sa := fi_ok e (i := 5) rfl rfl
  po := (bit_ok e).2.2.2.1
  mak := (bit_ok e).2.2.2.2.1
  ini := fi_ok e (i := 6) rfl rfl
  ft := congrArg (·.2.2.2.2.2.2) e
theorem ini_law {K : Frag} (e : obsK K = expK) (KX : K.In h) (lim : h.NoLimit) : Nonempty (InitAt (gnd w h) 68) := by
  have z := ini_ok e
  unfold fnObs at z
  have h1 := congrArg (·.1) z
  have h2 := congrArg (·.2.1) z
  have h3 := congrArg (·.2.2.1) z
  have h4 := congrArg (·.2.2.2.1) z
  have h5 := congrArg (·.2.2.2.2) z
  have h6 : ((fdOf K 68).getD default).defaults = .ref 61 := congrArg (·.2.2.2.1) e
  have h7 := (bit_ok e).2.2.2.2.2.2
  clear z
  unfold expK at h1 h2 h3 h4 h5
  dsimp only at h1 h2 h3 h4 h5
  clear e
  cases e : fdOf K 68 with
  | none => rw [e] at h1; cases h1
  | some fd =>
    rw [e] at h2 h3 h4 h5 h6
    simp only [Option.getD_some] at h2 h3 h4 h5 h6
    have ⟨o, eo, ed⟩ : ∃ o, K.lookup 68 = some o ∧ o.data = .func fd := by
      unfold fdOf at e
      split at e
      · rename_i o eo
        split at e
        · rename_i ed; cases e; exact ⟨o, eo, ed⟩
        · cases e
      · cases e
    unfold fdChk at h5
    simp only [Bool.and_eq_true] at h5
    obtain ⟨⟨⟨⟨⟨⟨⟨⟨⟨⟨⟨⟨⟨⟨c1, c2⟩, c3⟩, c4⟩, c5⟩, c6⟩, c7⟩, c8⟩, c9⟩, c10⟩, c11⟩, c12⟩, c13⟩, c14⟩, c15⟩ := h5
    have k6 : fd.scope.kind = .function := by
      split at c6
      · assumption
      · cases c6
    have tup : ∃ o n, K.lookup 61 = some o ∧ o.data = .seq #[.none] n := by
      unfold tupIs at h7
      split at h7
      · rename_i xs n _ q
        split at h7
        · rename_i ex
          have : xs = #[.none] := by
            obtain ⟨l⟩ := xs
            exact congrArg Array.mk ex
          subst this
          exact ⟨_, _, q, rfl⟩
        · cases h7
      · cases h7
    obtain ⟨ot, nt, et, edt⟩ := tup
    have run : ∀ s : Shared, (∀ b o, h.get? b = some o → s.heap.get? b = some o) → ∀ (M : Model) (A : Around) (E : Value → Shared → Prop) (Q : Option (Array Value) → Shared → Prop), Q (some #[.none]) s → wpAny M A (seqItems? fd.defaults) Q E s := fun s kp M A E Q q => by
      rw [h6]; exact wpAny_seqItems (kp _ _ (KX _ _ et)) edt q
    refine ⟨{ o := o, fd := fd, at_ := KX _ _ eo, data := ed, p := _, k := _, body := h2, names := h3, clo := List.isEmpty_iff.mp c3, co := by simpa using c4, gen := by simpa using c5, kind := k6, code := codeRec_of KX c7, lim := lim, bind3 := fun s a b c kp => bind_short (n := 0) (List.isEmpty_iff.mp c8) (List.isEmpty_iff.mp c9) (Option.isNone_iff_eq_none.mp c10) (Option.isNone_iff_eq_none.mp c11) h4 (run s kp), bind4 := fun s a b c d kp => ?_ }⟩
    have := bind_plain (vals := [a, b, c, d]) (List.isEmpty_iff.mp c8) (List.isEmpty_iff.mp c9) (Option.isNone_iff_eq_none.mp c10) (Option.isNone_iff_eq_none.mp c11) (nodupS_iff c12) (by rw [h4]; rfl) (run s kp)
    rw [h4] at this
    exact this

theorem bl_law {K : Frag} (o : obsK K = expK) (KX : K.In h) (ns : h.Ns mainGlobals mg) (bt : ∀ x : Str, x ≠ "__name__" → mb x = bootBuiltins x) {f : Str} {v : Value} (e : biV f = some v) : mg f = none ∧ mb f = some v := by
  have hit : ∀ {m : Nat} {x : Str} {v' : Value}, isS m x f = true → some v' = some v → mg x = none → mb x = some v' → mg f = none ∧ mb f = some v := fun z e a b => by
    rw [isS_true z, ← Option.some.inj e]; exact ⟨a, b⟩
  refine cs e (fun z e => hit z e (mg_none_of KX ns (ns_ok o (i := 2) rfl rfl)) ((bt _ (by decide)).trans (by kernel_rfl))) fun _ e => ?_
  refine cs e (fun z e => hit z e (mg_none_of KX ns (ns_ok o (i := 3) rfl rfl)) ((bt _ (by decide)).trans (by kernel_rfl))) fun _ e => ?_
  refine cs e (fun z e => hit z e (mg_none_of KX ns (ns_ok o (i := 4) rfl rfl)) ((bt _ (by decide)).trans (by kernel_rfl))) fun _ e => ?_
  refine cs e (fun z e => hit z e (mg_none_of KX ns (ns_ok o (i := 5) rfl rfl)) ((bt _ (by decide)).trans (by kernel_rfl))) fun _ e => ?_
  refine cs e (fun z e => hit z e (mg_none_of KX ns (ns_ok o (i := 6) rfl rfl)) ((bt _ (by decide)).trans (by kernel_rfl))) fun _ e => ?_
  refine cs e (fun z e => hit z e (mg_none_of KX ns (ns_ok o (i := 7) rfl rfl)) ((bt _ (by decide)).trans (by kernel_rfl))) fun _ e => ?_
  refine cs e (fun z e => hit z e (mg_none_of KX ns (ns_ok o (i := 8) rfl rfl)) ((bt _ (by decide)).trans (by kernel_rfl))) fun _ e => ?_
  refine cs e (fun z e => hit z e (mg_none_of KX ns (ns_ok o (i := 9) rfl rfl)) ((bt _ (by decide)).trans (by kernel_rfl))) fun _ e => ?_
  exact cs e (fun z e => hit z e (mg_none_of KX ns (ns_ok o (i := 10) rfl rfl)) ((bt _ (by decide)).trans (by kernel_rfl))) fun _ e => nn e
theorem env00 {K : Frag} (o : obsK K = expK) (KX : K.In h) (lim : h.NoLimit) (ns : h.Ns mainGlobals mg) (nb : h.Ns builtinsNs mb) (bt : ∀ x : Str, x ≠ "__name__" → mb x = bootBuiltins x) : Env0 (gnd w h) K 68 globOf mg mb cfg00 0 where
  hv := ⟨rfl, val_lay, by
    have h1 : (fdOf K 68).isSome = true := congrArg (·.1) (ini_ok o)
    cases e : K.lookup 68 with
    | none => unfold fdOf at h1; rw [e] at h1; cases h1
    | some o =>
      have : @LT.lt Nat _ 68 h.objs.size := Heap.lt_size (KX _ _ e)
      show 2 ≤ h.objs.size
      (first | lia | omega)⟩
  hi := hi_law o KX
  ini := ini_law o KX lim
  ns := ns
  nb := nb
  fn := fun f fa e => by
    obtain ⟨m, hm⟩ := aLook_mem e
    exact mg_of KX ns (nsAll_ok (bit_ok o).1 hm).1
  kf := fun f fa e => by
    obtain ⟨m, hm⟩ := aLook_mem e
    exact (nsAll_ok (bit_ok o).1 hm).2
  bl := fun f v e => bl_law o KX ns bt e
  vec := mg_of KX ns (ns_ok o (i := 0) rfl rfl)
  kv := (bit_ok o).2.2.2.2.2.1
  isi := ⟨mg_none_of KX ns (ns_ok o (i := 1) rfl rfl), (bt _ (by decide)).trans (by kernel_rfl)⟩
  gf := fun f d e => by
    obtain ⟨fa, e1, e2⟩ := tab_ok o e
    exact ⟨fa, e1, fnAt_of KX lim e2⟩
  dip := fun z => by cases z
  orcC := fun e => by cases e
  orcE := fun e => by cases e
  orcS := fun e => by cases e
theorem env0 {K : Frag} (o : obsK K = expK) (KX : K.In h) (lim : h.NoLimit) (ns : h.Ns mainGlobals mg) (nb : h.Ns builtinsNs mb) (bt : ∀ x : Str, x ≠ "__name__" → mb x = bootBuiltins x) : Env0 (gnd w h) K 68 globOf mg mb cfg0 10 := by
  have Z := env00 (w := w) o KX lim ns nb bt
  obtain ⟨fn⟩ := fnAt_of (G := gnd w h) KX lim (dip_ok o)
  exact { Z with
    dip := fun _ {as hp rv hp'} e => dip_sound Z (fun d => by show val 0 d = _; unfold val; rw [if_pos rfl]) fn (by kernel_rfl) e
    orcC := fun e => by cases e
    orcE := fun e => by cases e
    orcS := fun e => by cases e }
end
end Mine
end
section
open PySem PySem.W PyProof.Rows PySem.Calls
set_option maxRecDepth 100000
set_option maxHeartbeats 8000000
namespace Mine
theorem ints_of {R : WRecords} {cl : Str → Option Addr} {h : Heap} : ∀ {vs : List Value} {xs : List WData} {as : List Addr}, ReadsAllW R cl h vs xs as → (∀ d ∈ xs, ∃ i, d = .int i) → ∃ ns, IntsAre vs ns
  | _, _, _, .nil, _ => ⟨[], .nil⟩
  | _, _, _, .cons r rs, q => by
    obtain ⟨ns, hn⟩ := ints_of rs fun d hd => q d (.tail _ hd)
    obtain ⟨i, rfl⟩ := q _ (.head _)
    obtain ⟨t, rfl, _⟩ := readsW_int_inv r
    exact ⟨i :: ns, .cons i t hn⟩
theorem args_open {R : WRecords} {cl : Str → Option Addr} {h : Heap} {vals : List Value} {args : List WData} {as : List Addr} (x : WShape.hasAll R args [.list .int] = true) (l : WData.layableAll args = true) (r : ReadsAllW R cl h vals args as) : ∃ a vs ns, vals = [.ref a] ∧ h.IsList a (List.toArray vs) ∧ IntsAre vs ns ∧ vs.length ≤ 1048576 := by
  obtain ⟨d, rest, rfl, h1, h2⟩ := hasAllW_cons x
  cases hasAllW_nil h2
  obtain ⟨xs, rfl, h3⟩ := hasW_list h1
  obtain ⟨v, vr, as1, as2, rfl, rfl, r1, r2⟩ := readsAllW_cons_inv r
  obtain ⟨rfl, _⟩ := readsAllW_nil_inv r2
  obtain ⟨a, vs, as', rfl, hl, ri, _⟩ := readsW_list_inv r1
  obtain ⟨ns, hn⟩ := ints_of ri fun d hd => hasW_int (hasItemsW_at h3 d hd)
  refine ⟨a, vs.toList, ns, rfl, by simpa using hl, hn, ?_⟩
  rw [ri.length]
  have l1 := (layW_cons l).1
  exact length_le_of_layableW l1
theorem no_nth {α : Type} {i : Nat} {x : α} (e : nth ([] : List α) i = some x) : False := absurd (nth_lt e) (Nat.not_lt_zero _)
theorem hr_base {w : World} {h : Heap} : HR (gnd w h) h [] [] [] where
  base := fun _ _ e => e
  size := Nat.le_refl _
  len := rfl
  obj := fun _ _ _ e _ => (no_nth e).elim
  nd := fun _ _ _ _ _ _ _ _ e _ _ _ _ => (no_nth e).elim
  lo := fun _ ⟨_, _, _, e, _⟩ => (no_nth e).elim
  fr := fun _ hb => nomatch hb
theorem hdefQ : (defOf viewQ lawL.row.name).isSome = true := by kernel_rfl
noncomputable def dLaw : DefRec × List (Str × Expr) := (defOf viewQ lawL.row.name).get hdefQ
theorem d_is : defOf viewQ lawL.row.name = some dLaw := (Option.some_get hdefQ).symm
theorem d_name : dLaw.1.name = ("law" : Str) := by kernel_rfl
theorem d_def : lawL.row.prog.theDef lawL.row.name = some (dLaw.1.params, dLaw.1.body, dLaw.1.scope) := by kernel_rfl
theorem d_kw : kwWritten? dLaw.1.params.kwonlyargs dLaw.1.params.kw_defaults = some dLaw.2 := by kernel_rfl
/-- the objects that are asked of: the namespace, the tuple, the class, the functions and their codes -/
noncomputable def needL : List Addr := mainGlobals :: 61 :: 67 :: 68 :: 77 :: 78 :: 266 :: (565 :: aL.map fun p => p.2.2).flatMap fun a => [a - 1, a]
theorem head_left : LeftO pw viewQ looseQ (fun _ => true) (fun s => obsK (fragAt s.heap needL)) (fun _ => expK) 3200 := head_run fun w os => by kernel_rfl
theorem joined : PySem.Challenge.rw_sm0100_01.Holds := by
  refine holds_law said fun k1 => ?_
  refine holds_open (q := viewQ) (loose := looseQ) (Xt := fun _ => true) (XP := fun _ _ => True) (YP := fun _ h => KF h) (d := dLaw.1) (kwd := dLaw.2) head_left (fun w s e => ⟨_, e, fragAt_in⟩) (fun w h h' ⟨K, o, x⟩ k => ⟨K, o, x.keeps k⟩) (fun _ _ => trivial) (fun _ _ _ _ _ => trivial) d_is d_def d_kw (fun _ _ => recFacts_nil rfl) rfl k1 okO bare wit ?_
  intro w s₀ s₁ mg mb G Y fa o pm cd doc dV kV ho hd hcd hD hmg hg args vals as hpre hlay hrd hwl hlo
  obtain ⟨K, oK, KX⟩ := Y
  rw [d_name] at hmg
  clear ho hd hcd hD
  have hA := (pre_splitW hpre).1
  obtain ⟨a, vs, ns, rfl, hl, hi, le⟩ := args_open hA hlay hrd
  refine Ground.open G ?_
  intro T B D TE TW
  have Z := env2 (env0 (w := w) oK KX T.nolimit T.g T.b T.builtins)
  have I := run_sound Z 60
  have et : cfg2.tab "law" = some f96.1 := by kernel_rfl
  obtain ⟨fb, eg, _⟩ := Z.gf _ _ et
  have e1 := Z.fn _ _ eg
  rw [hmg] at e1
  cases e1
  have rm : Room callerA (70 + 60 + 7) := ⟨rfl, by decide, by decide⟩
  refine law_call Z I (by decide) rfl eg hr_base hl hi le rm fun ad' hp' h' tk H => ?_
  refine ⟨.inl ⟨.bool true, .bool true, [], rfl, fun cls => rfl, .bool true, ?_, fun _ => ⟨List.nodup_nil, fun a ha => nomatch ha⟩⟩, .of_keep H.base, rfl, .of_eq hg⟩
  kernel_rfl
end Mine
end

theorem PySem.Challenge.cw_sm0100_01_holds : PySem.Challenge.rw_sm0100_01.Holds :=
  Mine.joined
